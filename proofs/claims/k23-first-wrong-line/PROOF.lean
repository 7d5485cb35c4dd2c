import PyProof.Rows.All
import Wide.All
import OpenK.AllK
import Wide.FinOn
import KE.KStateDown
import Lean
import HandS.ForMost
import HandS.Defaults
import HandS.HeadHook2
import KE.KExcSuper
import HandS.Exc
import HandS.ExcCtx
import HandS.RaiseFrom
import HandS.ExcSuper
import HandS.SuiteRaise
import HandS.ExcField
import HandS.WordsExc
import HandS.HeadHook1
import HandS.HeadNt
import HandS.Ends
import HandS.Head0
import HandS.Head1
import HandS.Head2
import HandS.HeadEnd
import HandS.Evl
import HandS.Star
import HandS.IsInst
import HandS.StrMore
import HandS.Flow
import HandS.Codes
import HandS.Wide
import HandS.StrSplit
import KE.GoesMore
import KE.GoesEnum
import HandS.Walk
import KE.KDictPairs
import HandS.Style
import PySem.Challenge.RW_whatpasses_k23_whole_first_wrong_line
set_option Elab.async false
set_option linter.all false
set_option maxRecDepth 100000
set_option maxHeartbeats 4000000
/-! the text by places (printed by gen_txt.py) -/
namespace WP
open PySem PySem.Spec PyProof.Rows L2
def top (i : Nat) : Stmt := PySem.Challenge.pw_whatpasses_k23_whole_first_wrong_line.main.body.getD i (.Pass ⟨0, 0, 0, 0⟩)
abbrev s_BadTest_init : Stmt := inClass (top 5) 0
abbrev s_Family_init : Stmt := inClass (top 13) 0
theorem sc_Family_init : FnScope ["self", "pairs", "parents", "declared", "at", "pair", "name", "parent"] ["self", "pairs"] (defScope s_Family_init) := ⟨rfl, rfl, rfl, by decide +kernel, rfl, by decide +kernel, by decide +kernel⟩
abbrev s_Family_contains : Stmt := inClass (top 13) 6
theorem sc_Family_contains : FnScope ["self", "thing"] ["self", "thing"] (defScope s_Family_contains) := ⟨rfl, rfl, rfl, by decide +kernel, rfl, by decide +kernel, by decide +kernel⟩
abbrev s_Family_plain : Stmt := inClass (top 13) 10
theorem sc_Family_plain : FnScope [] [] (defScope s_Family_plain) := ⟨rfl, rfl, rfl, by decide +kernel, rfl, by decide +kernel, by decide +kernel⟩
abbrev s_is_number : Stmt := top 15
theorem sc_is_number : FnScope ["thing"] ["thing"] (defScope s_is_number) := ⟨rfl, rfl, rfl, by decide +kernel, rfl, by decide +kernel, by decide +kernel⟩
abbrev s_is_word : Stmt := top 16
theorem sc_is_word : FnScope ["thing", "most", "sign"] ["thing", "most"] (defScope s_is_word) := ⟨rfl, rfl, rfl, by decide +kernel, rfl, by decide +kernel, by decide +kernel⟩
abbrev s_is_name : Stmt := top 20
theorem sc_is_name : FnScope ["thing"] ["thing"] (defScope s_is_name) := ⟨rfl, rfl, rfl, by decide +kernel, rfl, by decide +kernel, by decide +kernel⟩
abbrev s_is_constant : Stmt := top 21
theorem sc_is_constant : FnScope ["thing"] ["thing"] (defScope s_is_constant) := ⟨rfl, rfl, rfl, by decide +kernel, rfl, by decide +kernel, by decide +kernel⟩
abbrev s_constant_text : Stmt := top 22
theorem sc_constant_text : FnScope ["value"] ["value"] (defScope s_constant_text) := ⟨rfl, rfl, rfl, by decide +kernel, rfl, by decide +kernel, by decide +kernel⟩
abbrev s_is_number_text : Stmt := top 23
theorem sc_is_number_text : FnScope ["text", "digits", "sign"] ["text"] (defScope s_is_number_text) := ⟨rfl, rfl, rfl, by decide +kernel, rfl, by decide +kernel, by decide +kernel⟩
abbrev s_is_constant_text : Stmt := top 24
theorem sc_is_constant_text : FnScope ["text"] ["text"] (defScope s_is_constant_text) := ⟨rfl, rfl, rfl, by decide +kernel, rfl, by decide +kernel, by decide +kernel⟩
abbrev s_call_text : Stmt := top 25
theorem sc_call_text : FnScope ["name", "values", "at", "value"] ["name", "values"] (defScope s_call_text) := ⟨rfl, rfl, rfl, by decide +kernel, rfl, by decide +kernel, by decide +kernel⟩
abbrev s_run_of : Stmt := top 30
theorem sc_run_of : FnScope ["line", "at", "signs", "end"] ["line", "at", "signs"] (defScope s_run_of) := ⟨rfl, rfl, rfl, by decide +kernel, rfl, by decide +kernel, by decide +kernel⟩
abbrev s_token_at : Stmt := top 31
theorem sc_token_at : FnScope ["line", "at", "sign", "digits", "letters", "closing"] ["line", "at"] (defScope s_token_at) := ⟨rfl, rfl, rfl, by decide +kernel, rfl, by decide +kernel, by decide +kernel⟩
abbrev s_tokens_of : Stmt := top 32
theorem sc_tokens_of : FnScope ["line", "found", "at", "token"] ["line"] (defScope s_tokens_of) := ⟨rfl, rfl, rfl, by decide +kernel, rfl, by decide +kernel, by decide +kernel⟩
abbrev s_is_tight : Stmt := top 33
theorem sc_is_tight : FnScope ["before", "token"] ["before", "token"] (defScope s_is_tight) := ⟨rfl, rfl, rfl, by decide +kernel, rfl, by decide +kernel, by decide +kernel⟩
abbrev s_spaced : Stmt := top 34
theorem sc_spaced : FnScope ["words", "text", "before", "word"] ["words"] (defScope s_spaced) := ⟨rfl, rfl, rfl, by decide +kernel, rfl, by decide +kernel, by decide +kernel⟩
abbrev s_value_of : Stmt := top 35
theorem sc_value_of : FnScope ["token"] ["token"] (defScope s_value_of) := ⟨rfl, rfl, rfl, by decide +kernel, rfl, by decide +kernel, by decide +kernel⟩
abbrev s_Line_init : Stmt := inClass (top 36) 0
theorem sc_Line_init : FnScope ["self", "text", "words"] ["self", "text"] (defScope s_Line_init) := ⟨rfl, rfl, rfl, by decide +kernel, rfl, by decide +kernel, by decide +kernel⟩
abbrev s_Line_peek : Stmt := inClass (top 36) 1
theorem sc_Line_peek : FnScope ["self"] ["self"] (defScope s_Line_peek) := ⟨rfl, rfl, rfl, by decide +kernel, rfl, by decide +kernel, by decide +kernel⟩
abbrev s_Line_take : Stmt := inClass (top 36) 2
theorem sc_Line_take : FnScope ["self", "word"] ["self"] (defScope s_Line_take) := ⟨rfl, rfl, rfl, by decide +kernel, rfl, by decide +kernel, by decide +kernel⟩
abbrev s_Line_expect : Stmt := inClass (top 36) 3
theorem sc_Line_expect : FnScope ["self", "word"] ["self", "word"] (defScope s_Line_expect) := ⟨rfl, rfl, rfl, by decide +kernel, rfl, by decide +kernel, by decide +kernel⟩
abbrev s_Line_take_name : Stmt := inClass (top 36) 4
theorem sc_Line_take_name : FnScope ["self", "word"] ["self"] (defScope s_Line_take_name) := ⟨rfl, rfl, rfl, by decide +kernel, rfl, by decide +kernel, by decide +kernel⟩
abbrev s_Line_take_constant : Stmt := inClass (top 36) 5
theorem sc_Line_take_constant : FnScope ["self", "word"] ["self"] (defScope s_Line_take_constant) := ⟨rfl, rfl, rfl, by decide +kernel, rfl, by decide +kernel, by decide +kernel⟩
abbrev s_Line_take_number : Stmt := inClass (top 36) 6
theorem sc_Line_take_number : FnScope ["self", "least", "most", "word"] ["self", "least", "most"] (defScope s_Line_take_number) := ⟨rfl, rfl, rfl, by decide +kernel, rfl, by decide +kernel, by decide +kernel⟩
abbrev s_Line_take_class : Stmt := inClass (top 36) 7
theorem sc_Line_take_class : FnScope ["self", "family", "word"] ["self", "family"] (defScope s_Line_take_class) := ⟨rfl, rfl, rfl, by decide +kernel, rfl, by decide +kernel, by decide +kernel⟩
abbrev s_Line_finish : Stmt := inClass (top 36) 8
theorem sc_Line_finish : FnScope ["self"] ["self"] (defScope s_Line_finish) := ⟨rfl, rfl, rfl, by decide +kernel, rfl, by decide +kernel, by decide +kernel⟩
abbrev s_Line_take_constants : Stmt := inClass (top 36) 9
theorem sc_Line_take_constants : FnScope ["self", "closing", "most", "found"] ["self", "closing", "most"] (defScope s_Line_take_constants) := ⟨rfl, rfl, rfl, by decide +kernel, rfl, by decide +kernel, by decide +kernel⟩
abbrev s_Mentions_init : Stmt := inClass (top 42) 0
theorem sc_Mentions_init : FnScope ["self", "family"] ["self", "family"] (defScope s_Mentions_init) := ⟨rfl, rfl, rfl, by decide +kernel, rfl, by decide +kernel, by decide +kernel⟩
abbrev s_Mentions_add_call : Stmt := inClass (top 42) 1
theorem sc_Mentions_add_call : FnScope ["self", "text"] ["self", "text"] (defScope s_Mentions_add_call) := ⟨rfl, rfl, rfl, by decide +kernel, rfl, by decide +kernel, by decide +kernel⟩
abbrev s_Mentions_add_flag : Stmt := inClass (top 42) 2
theorem sc_Mentions_add_flag : FnScope ["self", "flag"] ["self", "flag"] (defScope s_Mentions_add_flag) := ⟨rfl, rfl, rfl, by decide +kernel, rfl, by decide +kernel, by decide +kernel⟩
abbrev s_Scope_init : Stmt := inClass (top 43) 0
theorem sc_Scope_init : FnScope ["self", "mentions", "given", "item"] ["self", "mentions", "given", "item"] (defScope s_Scope_init) := ⟨rfl, rfl, rfl, by decide +kernel, rfl, by decide +kernel, by decide +kernel⟩
abbrev s_Scope_inner : Stmt := inClass (top 43) 1
theorem sc_Scope_inner : FnScope ["self", "item"] ["self", "item"] (defScope s_Scope_inner) := ⟨rfl, rfl, rfl, by decide +kernel, rfl, by decide +kernel, by decide +kernel⟩
abbrev s_Scope_sees : Stmt := inClass (top 43) 2
theorem sc_Scope_sees : FnScope ["self", "name"] ["self", "name"] (defScope s_Scope_sees) := ⟨rfl, rfl, rfl, by decide +kernel, rfl, by decide +kernel, by decide +kernel⟩
abbrev s_read_call : Stmt := top 44
theorem sc_read_call : FnScope ["line", "scope", "name"] ["line", "scope"] (defScope s_read_call) := ⟨rfl, rfl, rfl, by decide +kernel, rfl, by decide +kernel, by decide +kernel⟩
abbrev s_call_behind : Stmt := top 45
theorem sc_call_behind : FnScope ["line", "scope", "name", "values", "text"] ["line", "scope", "name"] (defScope s_call_behind) := ⟨rfl, rfl, rfl, by decide +kernel, rfl, by decide +kernel, by decide +kernel⟩
abbrev s_read_thing : Stmt := top 46
theorem sc_read_thing : FnScope ["line", "scope", "name"] ["line", "scope"] (defScope s_read_thing) := ⟨rfl, rfl, rfl, by decide +kernel, rfl, by decide +kernel, by decide +kernel⟩
abbrev s_read_subject : Stmt := top 47
theorem sc_read_subject : FnScope ["line", "scope", "thing", "index"] ["line", "scope"] (defScope s_read_subject) := ⟨rfl, rfl, rfl, by decide +kernel, rfl, by decide +kernel, by decide +kernel⟩
abbrev s_read_comparison : Stmt := top 48
theorem sc_read_comparison : FnScope ["line", "subject", "sign", "is_equal", "value"] ["line", "subject"] (defScope s_read_comparison) := ⟨rfl, rfl, rfl, by decide +kernel, rfl, by decide +kernel, by decide +kernel⟩
abbrev s_read_length : Stmt := top 49
theorem sc_read_length : FnScope ["line", "scope", "thing", "sign"] ["line", "scope"] (defScope s_read_length) := ⟨rfl, rfl, rfl, by decide +kernel, rfl, by decide +kernel, by decide +kernel⟩
abbrev s_read_atom : Stmt := top 50
theorem sc_read_atom : FnScope ["line", "scope", "first", "flag", "value", "subject", "kind"] ["line", "scope"] (defScope s_read_atom) := ⟨rfl, rfl, rfl, by decide +kernel, rfl, by decide +kernel, by decide +kernel⟩
abbrev s_read_part : Stmt := top 51
theorem sc_read_part : FnScope ["line", "scope", "found", "is_negated", "atom"] ["line", "scope"] (defScope s_read_part) := ⟨rfl, rfl, rfl, by decide +kernel, rfl, by decide +kernel, by decide +kernel⟩
abbrev s_read_condition : Stmt := top 52
theorem sc_read_condition : FnScope ["line", "scope", "parts", "part", "joined"] ["line", "scope"] (defScope s_read_condition) := ⟨rfl, rfl, rfl, by decide +kernel, rfl, by decide +kernel, by decide +kernel⟩
abbrev s_BadLine_init : Stmt := inClass (top 60) 0
abbrev s_read_check : Stmt := top 61
theorem sc_read_check : FnScope ["line", "scope", "at", "condition", "word"] ["line", "scope", "at"] (defScope s_read_check) := ⟨rfl, rfl, rfl, by decide +kernel, rfl, by decide +kernel, by decide +kernel⟩
abbrev s_read_let : Stmt := top 62
theorem sc_read_let : FnScope ["line", "scope", "at", "name", "text"] ["line", "scope", "at"] (defScope s_read_let) := ⟨rfl, rfl, rfl, by decide +kernel, rfl, by decide +kernel, by decide +kernel⟩
abbrev s_read_plain : Stmt := top 63
theorem sc_read_plain : FnScope ["word", "line", "scope", "at", "flag"] ["word", "line", "scope", "at"] (defScope s_read_plain) := ⟨rfl, rfl, rfl, by decide +kernel, rfl, by decide +kernel, by decide +kernel⟩
abbrev s_RowReader_init : Stmt := inClass (top 64) 0
theorem sc_RowReader_init : FnScope ["self", "lines", "family"] ["self", "lines", "family"] (defScope s_RowReader_init) := ⟨rfl, rfl, rfl, by decide +kernel, rfl, by decide +kernel, by decide +kernel⟩
abbrev s_RowReader_coming : Stmt := inClass (top 64) 1
theorem sc_RowReader_coming : FnScope ["self"] ["self"] (defScope s_RowReader_coming) := ⟨rfl, rfl, rfl, by decide +kernel, rfl, by decide +kernel, by decide +kernel⟩
abbrev s_RowReader_accept : Stmt := inClass (top 64) 2
theorem sc_RowReader_accept : FnScope ["self", "line", "depth"] ["self", "line", "depth"] (defScope s_RowReader_accept) := ⟨rfl, rfl, rfl, by decide +kernel, rfl, by decide +kernel, by decide +kernel⟩
abbrev s_RowReader_read_rows : Stmt := inClass (top 64) 3
theorem sc_RowReader_read_rows : FnScope ["self", "depth", "scope", "found", "line"] ["self", "depth", "scope"] (defScope s_RowReader_read_rows) := ⟨rfl, rfl, rfl, by decide +kernel, rfl, by decide +kernel, by decide +kernel⟩
abbrev s_RowReader_read_row : Stmt := inClass (top 64) 4
theorem sc_RowReader_read_row : FnScope ["self", "line", "depth", "scope", "word", "row"] ["self", "line", "depth", "scope"] (defScope s_RowReader_read_row) := ⟨rfl, rfl, rfl, by decide +kernel, rfl, by decide +kernel, by decide +kernel⟩
abbrev s_RowReader_read_block : Stmt := inClass (top 64) 5
theorem sc_RowReader_read_block : FnScope ["self", "word", "line", "depth", "scope"] ["self", "word", "line", "depth", "scope"] (defScope s_RowReader_read_block) := ⟨rfl, rfl, rfl, by decide +kernel, rfl, by decide +kernel, by decide +kernel⟩
abbrev s_RowReader_close : Stmt := inClass (top 64) 6
theorem sc_RowReader_close : FnScope ["self", "line", "depth"] ["self", "line", "depth"] (defScope s_RowReader_close) := ⟨rfl, rfl, rfl, by decide +kernel, rfl, by decide +kernel, by decide +kernel⟩
abbrev s_RowReader_read_else : Stmt := inClass (top 64) 7
theorem sc_RowReader_read_else : FnScope ["self", "line", "depth", "scope", "rows", "closing"] ["self", "line", "depth", "scope"] (defScope s_RowReader_read_else) := ⟨rfl, rfl, rfl, by decide +kernel, rfl, by decide +kernel, by decide +kernel⟩
abbrev s_RowReader_read_raises : Stmt := inClass (top 64) 8
theorem sc_RowReader_read_raises : FnScope ["self", "line", "depth", "scope", "kind", "cause", "at", "rows", "closing"] ["self", "line", "depth", "scope"] (defScope s_RowReader_read_raises) := ⟨rfl, rfl, rfl, by decide +kernel, rfl, by decide +kernel, by decide +kernel⟩
abbrev s_RowReader_read_if : Stmt := inClass (top 64) 9
theorem sc_RowReader_read_if : FnScope ["self", "line", "depth", "scope", "condition", "at", "rows", "closing"] ["self", "line", "depth", "scope"] (defScope s_RowReader_read_if) := ⟨rfl, rfl, rfl, by decide +kernel, rfl, by decide +kernel, by decide +kernel⟩
abbrev s_RowReader_read_try : Stmt := inClass (top 64) 10
theorem sc_RowReader_read_try : FnScope ["self", "line", "depth", "scope", "at", "rows", "closing", "handlers", "kind", "head", "handled"] ["self", "line", "depth", "scope"] (defScope s_RowReader_read_try) := ⟨rfl, rfl, rfl, by decide +kernel, rfl, by decide +kernel, by decide +kernel⟩
abbrev s_RowReader_read_for : Stmt := inClass (top 64) 11
theorem sc_RowReader_read_for : FnScope ["self", "line", "depth", "scope", "name", "thing", "at", "rows", "closing"] ["self", "line", "depth", "scope"] (defScope s_RowReader_read_for) := ⟨rfl, rfl, rfl, by decide +kernel, rfl, by decide +kernel, by decide +kernel⟩
abbrev s_RowReader_read_whole : Stmt := inClass (top 64) 12
theorem sc_RowReader_read_whole : FnScope ["self", "line", "name", "rows", "closing"] ["self"] (defScope s_RowReader_read_whole) := ⟨rfl, rfl, rfl, by decide +kernel, rfl, by decide +kernel, by decide +kernel⟩
abbrev s_read_test : Stmt := top 65
theorem sc_read_test : FnScope ["reader"] ["reader"] (defScope s_read_test) := ⟨rfl, rfl, rfl, by decide +kernel, rfl, by decide +kernel, by decide +kernel⟩
abbrev s_read_first : Stmt := top 67
theorem sc_read_first : FnScope ["reader", "e"] ["reader"] (defScope s_read_first) := ⟨rfl, rfl, rfl, by decide +kernel, rfl, by decide +kernel, by decide +kernel⟩
abbrev s_Test_init : Stmt := inClass (top 68) 0
theorem sc_Test_init : FnScope ["self", "name", "body", "reader"] ["self", "name", "body", "reader"] (defScope s_Test_init) := ⟨rfl, rfl, rfl, by decide +kernel, rfl, by decide +kernel, by decide +kernel⟩
abbrev s_Test_read : Stmt := inClass (top 68) 1
theorem sc_Test_read : FnScope ["cls", "text", "family", "lines", "reader", "name", "body"] ["cls", "text", "family"] (defScope s_Test_read) := ⟨rfl, rfl, rfl, by decide +kernel, rfl, by decide +kernel, by decide +kernel⟩
abbrev s__law_take : Stmt := top 70
theorem sc__law_take : FnScope ["_law_bag_here", "_law_many", "_law_digit", "_law_mixed"] ["_law_bag_here", "_law_many"] (defScope s__law_take) := ⟨rfl, rfl, rfl, by decide +kernel, rfl, by decide +kernel, by decide +kernel⟩
abbrev s__law_of : Stmt := top 71
theorem sc__law_of : FnScope ["_law_bag_here", "_law_some"] ["_law_bag_here", "_law_some"] (defScope s__law_of) := ⟨rfl, rfl, rfl, by decide +kernel, rfl, by decide +kernel, by decide +kernel⟩
abbrev s__law_bag : Stmt := top 72
theorem sc__law_bag : FnScope ["_law_script", "_law_at", "_law_cell"] ["_law_script", "_law_at"] (defScope s__law_bag) := ⟨rfl, rfl, rfl, by decide +kernel, rfl, by decide +kernel, by decide +kernel⟩
abbrev s__law_number : Stmt := top 73
theorem sc__law_number : FnScope ["_law_bag_here", "_law_near", "_law_way", "_law_top"] ["_law_bag_here", "_law_near"] (defScope s__law_number) := ⟨rfl, rfl, rfl, by decide +kernel, rfl, by decide +kernel, by decide +kernel⟩
abbrev s__law_word : Stmt := top 74
theorem sc__law_word : FnScope ["_law_bag_here", "_law_most", "_law_turn"] ["_law_bag_here", "_law_most"] (defScope s__law_word) := ⟨rfl, rfl, rfl, by decide +kernel, rfl, by decide +kernel, by decide +kernel⟩
abbrev s__law_any_constant : Stmt := top 75
theorem sc__law_any_constant : FnScope ["_law_bag_here", "_law_way"] ["_law_bag_here"] (defScope s__law_any_constant) := ⟨rfl, rfl, rfl, by decide +kernel, rfl, by decide +kernel, by decide +kernel⟩
abbrev s__law_written : Stmt := top 76
theorem sc__law_written : FnScope ["_law_value", "_law_one"] ["_law_value"] (defScope s__law_written) := ⟨rfl, rfl, rfl, by decide +kernel, rfl, by decide +kernel, by decide +kernel⟩
abbrev s__law_call_text : Stmt := top 77
theorem sc__law_call_text : FnScope ["_law_name", "_law_values", "_law_value"] ["_law_name", "_law_values"] (defScope s__law_call_text) := ⟨rfl, rfl, rfl, by decide +kernel, rfl, by decide +kernel, by decide +kernel⟩
abbrev s__law_keywords : Stmt := top 78
theorem sc__law_keywords : FnScope [] [] (defScope s__law_keywords) := ⟨rfl, rfl, rfl, by decide +kernel, rfl, by decide +kernel, by decide +kernel⟩
abbrev s__law_any_name : Stmt := top 79
theorem sc__law_any_name : FnScope ["_law_bag_here", "_law_letters", "_law_found", "_law_turn"] ["_law_bag_here"] (defScope s__law_any_name) := ⟨rfl, rfl, rfl, by decide +kernel, rfl, by decide +kernel, by decide +kernel⟩
abbrev s__law_any_call : Stmt := top 80
theorem sc__law_any_call : FnScope ["_law_bag_here", "_law_some", "_law_turn"] ["_law_bag_here"] (defScope s__law_any_call) := ⟨rfl, rfl, rfl, by decide +kernel, rfl, by decide +kernel, by decide +kernel⟩
abbrev s__law_refused : Stmt := top 81
theorem sc__law_refused : FnScope ["_law_text", "_law_family", "_law_got", "e"] ["_law_text", "_law_family"] (defScope s__law_refused) := ⟨rfl, rfl, rfl, by decide +kernel, rfl, by decide +kernel, by decide +kernel⟩
abbrev s__law_line : Stmt := top 82
theorem sc__law_line : FnScope ["_law_bag_here", "_law_state", "_law_name", "_law_other", "_law_flag", "_law_call", "_law_some", "_law_thing"] ["_law_bag_here", "_law_state"] (defScope s__law_line) := ⟨rfl, rfl, rfl, by decide +kernel, rfl, by decide +kernel, by decide +kernel⟩
abbrev s__law_seen : Stmt := top 83
theorem sc__law_seen : FnScope ["_law_state", "_law_seen_here", "_law_items", "_law_block"] ["_law_state"] (defScope s__law_seen) := ⟨rfl, rfl, rfl, by decide +kernel, rfl, by decide +kernel, by decide +kernel⟩
abbrev s__law_mentions : Stmt := top 84
theorem sc__law_mentions : FnScope ["_law_state", "_law_kind", "_law_name", "_law_seen_here", "_law_items"] ["_law_state", "_law_kind", "_law_name"] (defScope s__law_mentions) := ⟨rfl, rfl, rfl, by decide +kernel, rfl, by decide +kernel, by decide +kernel⟩
abbrev s__law_stands : Stmt := top 85
theorem sc__law_stands : FnScope ["_law_state", "_law_line_here", "_law_kind", "_law_name", "_law_other", "_law_text", "_law_seen_here", "_law_items", "_law_block", "_law_phase"] ["_law_state", "_law_line_here"] (defScope s__law_stands) := ⟨rfl, rfl, rfl, by decide +kernel, rfl, by decide +kernel, by decide +kernel⟩
abbrev s__law_after : Stmt := top 86
theorem sc__law_after : FnScope ["_law_state", "_law_line_here", "_law_kind", "_law_name", "_law_other", "_law_text", "_law_flag", "_law_top"] ["_law_state", "_law_line_here"] (defScope s__law_after) := ⟨rfl, rfl, rfl, by decide +kernel, rfl, by decide +kernel, by decide +kernel⟩
abbrev s_law : Stmt := top 87
theorem sc_law : FnScope ["_law_script", "_law_at", "_law_bag_here", "_law_state", "_law_end", "_law_lines", "_law_due", "_law_most", "_law_is_wild", "_law_some", "_law_turn", "_law_fine", "_law_line_here"] ["_law_script"] (defScope s_law) := ⟨rfl, rfl, rfl, by decide +kernel, rfl, by decide +kernel, by decide +kernel⟩
end WP
set_option Elab.async false
set_option linter.all false
set_option maxRecDepth 100000
set_option maxHeartbeats 4000000
/-! an own error whose __init__ says super().__init__('..') and then self.at = at: made, at the library's level -/
namespace PySem
namespace WSup
open PySem.W PySem.Calls PyProof.Rows PySem.HandSPX
def iA (p1 p2 : Pos) : Arguments := { posonlyargs := [], args := [{ arg := "self", annotation := none, pos := p1 }, { arg := "at", annotation := none, pos := p2 }], vararg := none, kwonlyargs := [], kw_defaults := [], kwarg := none, defaults := [] }
def iB (msg : Str) (j : Nat) (p0 p1 p2 p3 p4 p5 q1 q2 q3 q4 : Pos) : List Stmt :=
  [.Expr (.Call (.Attribute (.Call (.Name "super" p0) [] [] p1) "__init__" p2) [.Constant (.str msg) j p3] [] p4) p5, .Assign [.Attribute (.Name "self" q1) "at" q2] (.Name "at" q3) q4]
def iS : Scope := { kind := .function, names := [(PySem.Str.ofString "self", .local), (PySem.Str.ofString "at", .local), (PySem.Str.ofString "__class__", .free), (PySem.Str.ofString "super", .globalImplicit)], isGenerator := false, isCoroutine := false, more := [] }
/-- what the written part says of the class at C, of its __init__ at f -/
structure SupC (P : Program) (K : Frag) (mg : Str → Option Value) (x : Str) (C f : Addr) : Prop where
  gC : mg x = some (.ref C)
  gS : mg "super" = none
  cls : ∃ nm q N bs bm sn sub ab col dd k0 k1 k2 k3 k5, K.lookup C = some (excClassObj nm q C N bs bm true sn sub ab col dd k0 k1 k2 k3 k5 "ValueError.__new__") ∧ refsVE bm = true
  sa : findIn K (.ref C) "__setattr__" = some (some (.builtin "object.__setattr__"))
  ga : findIn K (.ref C) "__getattribute__" = some (some (.builtin "BaseException.__getattribute__"))
  gg : findIn K (.ref C) "__getattr__" = some none
  noN : findIn K (.ref C) "at" = some none
  iC : findIn K (.ref C) "__init__" = some (some (.ref f))
  tC : typeIn K (.ref f) = some (.type "function")
  kC : keepIn K (.ref C) = true
  exC : subIn K (.ref C) (.type "BaseException") = some true
  veC : subIn K (.ref C) (.type "ValueError") = some true
  tyC : typeIn K (.ref C) = some (.type "type")
  hdC : hasDictIn K C = true
  te : exmOne K (.ref C) (.ref C) = some true
  opq : nsIn K cStatics "thirdparty.any" = some none
  sup : ks_superIn K C C "__init__" = some (some (.builtin "ValueError.__init__"))
  self : mroIn K C (.ref C) = some true
  top : (P.main.scope.names.lookup ("super" : Str)).isSome = false
  fn : ∃ (oc : Value) (od : Option Addr) (osl : Array (Option Value)) (qual : Str) (dV kV doc pm ct : Value) (an : Option Addr) (cda cc : Addr) (msg : Str) (j : Nat) (u1 u2 p0 p1 p2 p3 p4 p5 q1 q2 q3 q4 : Pos)
      (ccl cl : Value) (cdd cld : Option Addr) (ccs csl : Array (Option Value)) (vs : Array Value) (file : Str) (tf : Tok),
    K.lookup f = some ⟨oc, od, .func (ksFn "__init__" qual (iA u1 u2) (iB msg j p0 p1 p2 p3 p4 p5 q1 q2 q3 q4) iS .none kV doc pm an (.ref cda) ct cc), osl⟩ ∧ codeIn K (.ref cda) qual = true ∧
    K.lookup cda = some ⟨ccl, cdd, .fields vs, ccs⟩ ∧ vs[2]? = some (.str file tf) ∧ ((P.main.file : Str) == file) = true ∧ K.lookup cc = some ⟨cl, cld, .cell (some (.ref C)), csl⟩ ∧
    ∀ env : Env, ∃ pl : Sem Bool, eval (.Call (.Attribute (.Call (.Name "super" p0) [] [] p1) "__init__" p2) [.Constant (.str msg) j p3] [] p4) env = (do
      let ov ← attributeBase (.Call (.Name "super" p0) [] [] p1) "__init__" env (eval (.Call (.Name "super" p0) [] [] p1) env)
      standAt p2.atName
      let (f, first) ← holding [ov] (getMethod ov "__init__" pl)
      callWith p4 f first (backTo p4 (starEach [.Constant (.str msg) j p3] env)) [])
theorem one_size (v : Value) : [v].length ≤ sizeLine := by
  rw [sizeLine_eq]
  exact (by decide : 1 ≤ 16777216)
/-- what __init__ leaves of a fresh exception at x -/
structure InitEnd (h h' : Heap) (x C dx t1 : Addr) (v : Value) : Prop where
  keep : ∀ b o, b ≠ x → h.get? b = some o → h'.get? b = some o
  obj : h'.get? x = some { cls := .ref C, dict := some dx, data := .fields #[.ref t1, .none, .none, .none, .bool false, .none] }
  dbig : h.objs.size ≤ dx
  dne : dx ≠ x
  ns : h'.Ns1 dx (fun y => if y = "at" then some v else none)
/-- a made exception -/
structure OwnMade (h h' : Heap) (e C d : Addr) (v : Value) : Prop where
  keep : ∀ b o, h.get? b = some o → h'.get? b = some o
  new : h.objs.size ≤ e
  obj : ∃ t, h'.get? e = some { cls := .ref C, dict := some d, data := .fields #[.ref t, .none, .none, .none, .bool false, .none] }
  dbig : h.objs.size ≤ d
  dne : d ≠ e
  ns : h'.Ns1 d (fun y => if y = "at" then some v else none)
section
variable {prog : Program} {w : World} {A : Around} {E : Value → Shared → Prop} {R : Result → Shared → Prop} {K : Frag} {mg : Str → Option Value} {C f : Addr} {x : Str}
/-- ValueError.__init__ bound to the instance at e, called -/
theorem call_bw {nm q : Str} {N : Addr} {bs bm : List Value} {hdct : Bool} {sn : List Str} {sub : List Value} {ab : Bool} {col : Option Bool} {dd : Option Addr} {k0 k1 k2 k3 k5 : Option Value} {h : Heap} {g : Array GenState} {d : Drawn} {t : Nat} {os : OsState}
    {u e t0 : Addr} {rest : List Value} {Q : Value → Shared → Prop}
    (hC : h.get? C = some (excClassObj nm q C N bs bm hdct sn sub ab col dd k0 k1 k2 k3 k5 "ValueError.__new__")) (he : h.get? e = some (excO C t0)) (hu : h.get? u = some (kxs_mw "ValueError.__init__" e)) (hrest : rest.length ≤ sizeLine)
    (hq : ∀ h' t1, (∀ b o, b ≠ e → h.get? b = some o → h'.get? b = some o) → h'.get? e = some (excO C t1) → Q .none ⟨h', g, d, t, os⟩) :
    wpAny (model prog w) A (call (.ref u) rest) Q E ⟨h, g, d, t, os⟩ := by
  refine wpAny_call (codeAny_of_tree ?_)
  show wpAny _ A.in1 (callAny (.ref u) ⟨rest, []⟩) _ _ _
  simp only [callAny]
  refine wpAny_bind (wpAny_load hu ?_)
  simp only [kxs_mw, show (Value.type "method-wrapper" == Value.type "method" || Value.type "method-wrapper" == Value.type "builtin_function_or_method" || Value.type "method-wrapper" == Value.type "method-wrapper") = true by decide, if_true]
  refine W.KFB.if_so (by decide) ?_
  refine wpAny_bind (ESX.check_bound F.excBase_ValueError hC he rfl ?_)
  refine wpAny_bind (wpAny_pure (wpAny_pure ?_))
  refine ⟨Code.quiet_builtin _ (by decide +kernel), codeAny_builtin F.excBase_ValueError.initEntry ?_⟩
  rw [Around.under_plainId F.excBase_ValueError.init.plain _]
  wp_walk
  refine hq _ h.objs.size (fun b o hb ho => ?_) ?_
  · rw [Heap.get?_update_other _ _ (Ne.symm hb)]
    exact Heap.get?_push_of_some _ ho
  · rw [Heap.get?_update_self _ (Heap.get?_push_of_some _ he) rfl]
    rfl
/-- __init__ walked -/
theorem sup_init (T : SupC prog K mg x C f) {s : Shared} {mb : Str → Option Value} {e t0 : Addr} {v : Value} (X : K.In s.heap) (G : s.heap.Ns mainGlobals mg) (Bb : s.heap.Ns builtinsNs mb) (hb : ∀ y : Str, y ≠ "__name__" → mb y = bootBuiltins y) (hlim : s.heap.NoLimit)
    (hx : s.heap.get? e = some (excO C t0)) (hnx : K.lookup e = none) (hroom : A.depth < recursionLimit)
    (hq : ∀ h' tk dx t1, InitEnd s.heap h' e C dx t1 v → R (.ok (.ret .none)) { s with heap := h', toks := tk }) :
    codeAny (model prog w) A (.call (.ref f) ⟨[.ref e, v], []⟩) R s := by
  obtain ⟨oc, od, osl, qual, dV, kV, doc, pm, ct, an, cda, cc, msg, j, u1, u2, p0, p1, p2, p3, p4, p5, q1, q2, q3, q4, ccl, cl, cdd, cld, ccs, csl, vs, file, tf, ho, hcd, hcode, hvs, hfile, hcell, hcall⟩ := T.fn
  obtain ⟨nm, q, N, bs, bm, sn, sub, ab, col, dd, k0, k1, k2, k3, k5, hC, hbm⟩ := T.cls
  have hcl : clsIn K C = some { name := nm, bases := bs, mro := .ref C :: bm, ns := N, qualname := q, hasDict := true, slotNames := sn, subclasses := sub, abstract := ab, collection := col, hasDel := false } := by unfold clsIn; rw [hC] <;> rfl
  refine ks_codeAny_call_defAt (fd := ksFn "__init__" qual (iA u1 u2) (iB msg j p0 p1 p2 p3 p4 p5 q1 q2 q3 q4) iS .none kV doc pm an (.ref cda) ct cc) (body := iB msg j p0 p1 p2 p3 p4 p5 q1 q2 q3 q4) (binds := [("self", .ref e), ("at", v)]) hroom (X _ _ ho) rfl hlim (codeRec_of X hcd) rfl (BindsTo.of_eq (by first | rfl | with_unfolding_all rfl)) (show ∀ x ∈ iS.names, x.2 ≠ .cell by decide) (fun y hy => ?loc) (fun h1 hns k => ?_) rfl rfl rfl
  case loc =>
    rcases List.mem_cons.mp hy with rfl | hy
    · rfl
    · rcases List.mem_cons.mp hy with rfl | hy
      · rfl
      · cases hy
  have X1 : K.In h1 := X.keeps k
  have hx1 := k _ _ hx
  obtain ⟨hL0, hLt⟩ : h1.Ns s.heap.objs.size (fun y => List.lookup y [(("at" : Str), v), ("self", Value.ref e)]) ∧ s.heap.objs.size < h1.objs.size := ⟨hns, hns.lt⟩
  have hxL : e < s.heap.objs.size := Heap.lt_size hx
  have vs1 : (fun y => List.lookup y [(("at" : Str), v), ("self", Value.ref e)]) ("self" : Str) = some (.ref e) := by first | rfl | kernel_rfl
  have va1 : (fun y => List.lookup y [(("at" : Str), v), ("self", Value.ref e)]) ("at" : Str) = some v := by first | rfl | kernel_rfl
  obtain ⟨pl, hpl⟩ := hcall (callEnv (ksFn "__init__" qual (iA u1 u2) (iB msg j p0 p1 p2 p3 p4 p5 q1 q2 q3 q4) iS .none kV doc pm an (.ref cda) ct cc) s.heap.objs.size f)
  have sub0 : Looks (model prog w) h1 (isSubtype (.ref C) (.ref C)) true := looks_mroIn X1 T.self
  have inst : ∀ {h2 : Heap} {t2 : Addr}, K.In h2 → h2.get? e = some (excO C t2) → Looks (model prog w) h2 (isInstance (.ref e) (.type "ValueError")) true := fun {h2 t2} X2 hx2 => by
    have LT : Looks (model prog w) h2 (typeOf (.ref e)) (.ref C) := fun A Q E s k q => wpAny_typeOf_ref (k _ _ hx2) q
    exact LT.andThen (looks_subIn X2 T.veC)
  obtain ⟨hp, g, d, t, os⟩ := s
  dsimp only at hx hq hL0 hLt hxL X k hpl ⊢
  -- super().__init__(msg)
  refine ks_wpAt_execs_cons (ks_wpAt_Expr_any (ks_wpAt_MethodCall (pl := pl) ?_ hpl))
  refine ks_wpAt_super_base (f := f) (cc := cda) (file := file) (tf := tf) (ar := { arg := "self", annotation := none, pos := u1 }) rfl rfl rfl rfl (X1 _ _ ho) rfl rfl rfl (X1 _ _ hcode) rfl hvs hfile T.top ?_
  refine ks_loadName_global rfl rfl (loadGlobal_builtin (env := callEnv (ksFn "__init__" qual (iA u1 u2) (iB msg j p0 p1 p2 p3 p4 p5 q1 q2 q3 q4) iS .none kV doc pm an (.ref cda) ct cc) hp.objs.size f) (G.keeps k) T.gS (Bb.keeps k) ((hb "super" (by decide +kernel)).trans (show bootBuiltins "super" = some (.type "super") by decide +kernel)) ⟨rfl, ?_⟩)
  refine wpAny_loadName_free rfl rfl rfl ⟨_, X1 _ _ hcell, rfl⟩ ?_
  refine wpAny_loadName_local (m := fun y => List.lookup y [(("at" : Str), v), ("self", Value.ref e)]) rfl rfl hL0 vs1 ?_
  refine ks_wpAny_isType_cls (X1 _ _ hC) rfl ⟨rfl, ?_⟩
  refine ks_wpAny_call_super (X1 _ _ hC) rfl hx1 rfl (fun c z => by cases z) sub0 (fun h2 e2 k2 => ?_)
  -- the bound __init__
  have X2 : K.In h2 := X1.keeps k2
  have hx2 := k2 _ _ hx1
  have hxC : e ≠ C := fun z => by
    have q1 := X1 _ _ hC
    rw [← z, hx1] at q1
    cases q1
  have hm : alongIn K "__init__" (((Value.ref C :: bm).dropWhile (· != .ref C)).drop 1) = some (some (.builtin "ValueError.__init__")) := by
    have z := T.sup
    unfold ks_superIn at z
    rw [hcl] at z
    exact z
  refine kxs_getMethod kxs_ValueError e2 (looks_opaque X2 T.opq) (l₀ := Value.ref C :: bm) (fun A Q E s k q => wpAny_bind ((looks_clsIn X2 hcl) A _ E s k (wpAny_pure q))) rfl X2 hm (inst X2 hx2) hxC (by decide) ?_
  -- its call
  have hu : (h2.push (kxs_mw "ValueError.__init__" e)).get? h2.objs.size = some (kxs_mw "ValueError.__init__" e) := Heap.get?_push_at rfl rfl
  have k3 : ∀ b o, h2.get? b = some o → (h2.push (kxs_mw "ValueError.__init__" e)).get? b = some o := fun b o z => Heap.get?_push_of_some _ z
  refine kxs_callWith (i := "ValueError.__init__") (x := e) (by first | rfl | decide) ?_
  refine evalArgs_plain (spliced_cons (Calls.Constant_str (pos := p3) (k := j) ?_))
  refine spliced_nil ⟨hu, ?_⟩
  refine call_bw (k3 _ _ (X2 _ _ hC)) (k3 _ _ hx2) hu (one_size _) (fun h4 t1 k4 hx4 => ?_)
  have k14 : ∀ b o, b ≠ e → h1.get? b = some o → h4.get? b = some o := fun b o hb z => k4 b o hb (k3 _ _ (k2 _ _ z))
  have X4 : K.In h4 := fun b o z => k14 b o (fun y => by rw [y, hnx] at z; cases z) (X1 _ _ z)
  have hLe : hp.objs.size ≠ e := Nat.ne_of_gt hxL
  have hL4 : h4.Ns hp.objs.size (fun y => List.lookup y [(("at" : Str), v), ("self", Value.ref e)]) := by
    obtain ⟨oL, es, ep, hLo, r⟩ := hL0
    exact ⟨oL, es, ep, k14 _ _ hLe hLo, r⟩
  -- self.at = at
  refine wpAt_of_wpAny ?_
  show wpAny _ _ (execs [.Assign [.Attribute (.Name "self" q1) "at" q2] (.Name "at" q3) q4] _) _ _ _
  refine wpAny_execs_cons (plainObj_wpAny_Assign_Attribute ?_)
  refine wpAny_Name (wpAny_loadName_local (m := fun y => List.lookup y [(("at" : Str), v), ("self", Value.ref e)]) rfl rfl hL4 va1 ?_) (by decide)
  refine wpAny_Name (wpAny_loadName_local (m := fun y => List.lookup y [(("at" : Str), v), ("self", Value.ref e)]) rfl rfl hL4 vs1 ?_) (by decide)
  refine set_plain X4 (ox := excO C t1) (od := none) ⟨hx4, rfl, rfl, trivial⟩ T.sa ?_
  refine exc_osa X4 hx4 hcl (show refsVE (.ref C :: bm) = true from hbm) rfl T.noN (fun h5 tk5 dx k5 dn dne hx5 hn5 => ?_)
  show wpAny _ _ (execs _ _) _ _ _
  have z4 : hp.objs.size < h4.objs.size := hL4.lt
  exact wpAny_execs_nil (hq h5 tk5 dx t1 ⟨fun b o hb z => k5 b o hb (k14 b o hb (k b o z)), hx5, Nat.le_of_lt (Nat.lt_of_lt_of_le z4 dn), dne, hn5⟩)
theorem sup_made (T : SupC prog K mg x C f) {s : Shared} {mb : Str → Option Value} {v : Value} (X : K.In s.heap) (G : s.heap.Ns mainGlobals mg) (Bb : s.heap.Ns builtinsNs mb) (hb : ∀ y : Str, y ≠ "__name__" → mb y = bootBuiltins y) (hlim : s.heap.NoLimit) (hroom : A.depth + 1 < recursionLimit)
    (hq : ∀ h' tk e d, OwnMade s.heap h' e C d v → R (.ok (.ret (.ref e))) { s with heap := h', toks := tk }) :
    codeAny (model prog w) A (.call (.ref C) ⟨[v], []⟩) R s := by
  obtain ⟨nm, q, N, bs, bm, sn, sub, ab, col, dd, k0, k1, k2, k3, k5, hC, hbm⟩ := T.cls
  obtain ⟨hp, g, dr, tk, os⟩ := s
  have k : ∀ b o, hp.get? b = some o → ((hp.push (kdv_tup [v])).push (excO C hp.objs.size)).get? b = some o := fun b o e => Heap.get?_push_of_some _ (Heap.get?_push_of_some _ e)
  have hget : ((hp.push (kdv_tup [v])).push (excO C hp.objs.size)).get? (hp.objs.size + 1) = some (excO C hp.objs.size) := by heap_get
  have hnx : K.lookup (hp.objs.size + 1) = none := by
    cases e : K.lookup (hp.objs.size + 1) with
    | none => rfl
    | some o =>
      have z : hp.get? (hp.objs.size + 1) = some o := X _ _ e
      exact absurd (Nat.lt_of_succ_lt (Heap.lt_size z)) (Nat.lt_irrefl _)
  refine call_own F.excBase_ValueError (fun X => refsVE_contains X bm hbm) (X _ _ hC) (looks_findIn X T.iC) (fun self => bind_fn X self T.tC) (one_size v) ?_
  refine sup_init (s := ⟨(hp.push (kdv_tup [v])).push (excO C hp.objs.size), g, dr, tk, os⟩) T (X.keeps k) (G.keeps k) (Bb.keeps k) hb (hlim.keeps k) hget hnx ?_ fun h' tk' dx t1 ⟨k', hx, dn, dne, hns⟩ => ?_
  · show A.depth + 1 < recursionLimit
    exact hroom
  · have old : ∀ b o, hp.get? b = some o → h'.get? b = some o := fun b o e => k' b o (Nat.ne_of_lt (Nat.lt_succ_of_lt (Heap.lt_size e))) (k b o e)
    have z : hp.objs.size + 1 + 1 ≤ dx := by
      first
        | (simpa only [Heap.size_push] using dn)
        | exact dn
        | (have q := dn; rw [Heap.size_push, Heap.size_push] at q; exact q)
    exact ⟨rfl, hq h' tk' (hp.objs.size + 1) dx ⟨old, Nat.le_succ _, ⟨_, hx⟩, Nat.le_trans (Nat.le_trans (Nat.le_succ _) (Nat.le_succ _)) z, dne, hns⟩⟩
end
end WSup
end PySem
set_option Elab.async false
set_option linter.all false
set_option maxRecDepth 100000
set_option maxHeartbeats 4000000
/-! an exception raised in an except suite (its context: the one that was caught there), caught further up, another one raised in that suite: chains of two -/
namespace WChn
open PySem PySem.Spec PyProof.Rows L2
/-! ### raising while an exception is handled whose context is an exception without context -/
def HotAt2 (A : Around) (x1 m : Addr) (h : Heap) : Prop := A.handled = some (.ref x1) ∧ (∃ (o : Obj) (vs : Array Value), h.get? x1 = some o ∧ o.data = .fields vs ∧ vs[2]? = some (.ref m)) ∧ ∃ (o : Obj) (vs : Array Value), h.get? m = some o ∧ o.data = .fields vs ∧ vs[2]? = some .none
theorem ref_beq {a b : Addr} (h : a ≠ b) : (Value.ref a == Value.ref b) = false := by simp [h]
section
variable {prog : Program} {w : World} {A : Around} {E : Value → Shared → Prop} {s : Shared}
theorem unchained2 {x1 a m : Addr} {Q : Value → Shared → Prop} (h : HotAt2 A x1 m s.heap) (ha : m ≠ a) (q : Q .none s) :
    wpAny (model prog w) A (holding [Value.ref a] (runValue (.builtin "proto.unchain" ⟨[.ref a, .ref x1, .ref x1, .bool false], []⟩))) Q E s := by
  obtain ⟨hh, ⟨o1, vs1, h1, d1, c1⟩, o2, vs2, h2, d2, c2⟩ := h
  have hm : m ≠ x1 := fun z => by
    rw [z, h1] at h2
    cases h2
    rw [d1] at d2
    cases d2
    rw [c1] at c2
    cases c2
  refine wpAny_holding (wpAny_runValue (codeAny_builtin HotX.entry_unchain ?_))
  show wpAny _ _ (field (.ref x1) 2 >>= _) _ _ s
  refine wpAny_bind (wpAny_field h1 d1 c1 ?_)
  rw [if_neg (show ¬ ((Value.ref m == Value.none) = true) from by simp)]
  show wpAny _ _ (if (Value.ref m == Value.ref a) = true then _ else _) _ _ _
  rw [if_neg (by rw [ref_beq ha]; decide), if_neg (by rw [ref_beq hm]; decide)]
  dsimp only
  rw [if_neg (by decide)]
  refine wpAny_bind (wpAny_pure (wpAny_pure ⟨Code.quiet_builtin _ (by decide +kernel), codeAny_builtin HotX.entry_unchain ?_⟩))
  show wpAny _ _ (field (.ref m) 2 >>= _) _ _ s
  refine wpAny_bind (wpAny_field h2 d2 c2 ?_)
  rw [if_pos (show (Value.none == Value.none) = true from rfl)]
  first
  | exact wpAny_bind (wpAny_pure (wpAny_pure q))
  | exact wpAny_pure q
theorem raiseNew2 {α : Type} {a x1 m : Addr} {oe : Obj} {vs : Array Value} {Q : α → Shared → Prop} (hot : HotAt2 A x1 m s.heap) (hne : x1 ≠ a) (hma : m ≠ a) (ha : s.heap.get? a = some oe) (da : oe.data = .fields vs) (hi : 2 < vs.size)
    (hE : E (.ref a) { s with heap := s.heap.update a (Obj.mapFields (·.setIfInBounds 2 (.ref x1))) }) : wpAny (model prog w) A (raiseNew (.ref a) : Sem α) Q E s := by
  unfold raiseNew
  refine wpAny_bind (wpAny_handled ?_)
  rw [hot.1]
  show wpAny _ _ (if (Value.ref x1 != Value.ref a) = true then _ else _) _ _ _
  rw [if_pos (HotX.ref_bne hne)]
  exact wpAny_bind (unchained2 hot hma (wpAny_bind (HotX.chained ha da hi (wpAny_throw hE))))
/-- raise .. from None of an exception just made, the one that is handled having one behind it -/
theorem raise2 {env : Env} {x c : Sem Value} {Q : Flow → Shared → Prop} {x1 m : Addr}
    (hcs : ∀ (s : Shared) (Q' : Value → Shared → Prop), Q' .none s → wpAny (model prog w) A c Q' E s)
    (h : wpAny (model prog w) A x (fun v s₁ => ∃ a oe vs cls, v = .ref a ∧ s₁.heap.get? a = some oe ∧ oe.cls = cls ∧ oe.data = .fields vs ∧ vs[1]? = some .none ∧ 4 < vs.size ∧ x1 ≠ a ∧ m ≠ a ∧ HotAt2 A x1 m s₁.heap ∧
      PySem.W.Looks (model prog w) s₁.heap (isSubtype cls (.type "BaseException")) true ∧ PySem.W.Looks (model prog w) (HotX.noneFrom s₁.heap a) (typeOf cls) (.type "type") ∧
      E (.ref a) { s₁ with heap := (HotX.noneFrom s₁.heap a).update a (Obj.mapFields (·.setIfInBounds 2 (.ref x1))) }) E s) :
    wpAny (model prog w) A (raiseStmt env (some x) (some c)) Q E s := by
  unfold raiseStmt
  dsimp only
  refine wpAny_bind (wpAny_mono h (fun v s₁ hv => ?_) fun _ _ z => z)
  obtain ⟨a, oe, vs, cls, ev, ha, hc, hd, h1, h4, n1, n2, hot, L1, L2', hE⟩ := hv
  subst ev
  obtain ⟨hb, db⟩ := HotX.noneFrom_at ha hd
  have cb : ((oe.mapFields (·.setIfInBounds 3 .none)).mapFields (·.setIfInBounds 4 (.bool true))).cls = cls := by rw [Obj.cls_mapFields, Obj.cls_mapFields, hc]
  -- looks at the exception before and behind the two stores
  have tyA : PySem.W.Looks (model prog w) s₁.heap (typeOf (.ref a)) cls := fun _ _ _ _ k q => wpAny_typeOf_ref (k _ _ ha) (by rw [hc]; exact q)
  have tyB : PySem.W.Looks (model prog w) (HotX.noneFrom s₁.heap a) (typeOf (.ref a)) cls := fun _ _ _ _ k q => wpAny_typeOf_ref (k _ _ hb) (by rw [cb]; exact q)
  have noType : ∀ {t : Shared} {o : Obj} {ws : Array Value} {Q' : Bool → Shared → Prop}, t.heap.get? a = some o → o.data = .fields ws → Q' false t → wpAny (model prog w) A (isType (.ref a)) Q' E t := fun {t o ws Q'} e1 e2 q => by
    simp only [isType, loadHead]
    exact wpAny_bind (wpAny_loadPart e1 (by rw [e2]; exact wpAny_pure q))
  have hd3 := Obj.data_mapFields hd (·.setIfInBounds 3 .none)
  have ha3 := Heap.get?_update_self (Obj.mapFields (·.setIfInBounds 3 .none)) ha (Obj.isFreed_of_fields hd3)
  have z1 : ((vs.setIfInBounds 3 Value.none).setIfInBounds 4 (Value.bool true))[1]? = some Value.none := HotX.set_other (by decide) (HotX.set_other (by decide) h1)
  have z2 : 2 < ((vs.setIfInBounds 3 Value.none).setIfInBounds 4 (Value.bool true)).size := by rw [HotX.set_size, HotX.set_size]; omega
  have hotB : HotAt2 A x1 m (HotX.noneFrom s₁.heap a) := ⟨hot.1, by
    obtain ⟨o, ws, q1, q2⟩ := hot.2.1
    exact ⟨o, ws, by rw [HotX.noneFrom_other (Ne.symm n1)]; exact q1, q2⟩, by
    obtain ⟨o, ws, q1, q2⟩ := hot.2.2
    exact ⟨o, ws, by rw [HotX.noneFrom_other (Ne.symm n2)]; exact q1, q2⟩⟩
  have fin : ∀ {Q' : Flow → Shared → Prop}, wpAny (model prog w) A (do setFlight (.ref a) none; raiseNew (.ref a) : Sem Flow) Q' E { s₁ with heap := HotX.noneFrom s₁.heap a } := fun {Q'} => by
    unfold setFlight
    refine wpAny_bind (wpAny_bind (wpAny_field hb db z1 ?_))
    rw [if_neg (by decide)]
    exact wpAny_pure (raiseNew2 hotB n1 n2 hb db z2 hE)
  refine wpAny_bind (wpAny_holding (hcs _ _ ?_))
  refine wpAny_bind (wpAny_pure ?_)
  have isE : wpAny (model prog w) A (excFromValue (.ref a) "exceptions must derive from BaseException") (fun v t => v = .ref a ∧ t = s₁) E s₁ := by
    unfold excFromValue isExcClass
    refine wpAny_bind (wpAny_bind (noType ha hd ?_))
    rw [if_neg (by decide)]
    refine wpAny_pure ?_
    rw [if_neg (by decide)]
    refine wpAny_bind ((tyA.andThen L1).here ?_)
    rw [if_pos rfl]
    exact wpAny_pure ⟨rfl, rfl⟩
  refine wpAny_bind (wpAny_holding (wpAny_mono isE (fun v t hv => ?_) fun _ _ z => z))
  obtain ⟨rfl, rfl⟩ := hv
  dsimp only
  rw [if_pos (show (Value.none == Value.none) = true from rfl)]
  have s3 : 3 < vs.size := by omega
  have s4 : 4 < (vs.setIfInBounds 3 Value.none).size := by rw [HotX.set_size]; exact h4
  refine wpAny_bind (wpAny_pure (wpAny_bind (wpAny_setField ha hd s3 (wpAny_bind (wpAny_setField ha3 hd3 s4 ?_)))))
  refine wpAny_bind (noType (t := { t with heap := HotX.noneFrom t.heap a }) hb db ?_)
  rw [if_neg (by decide)]
  unfold raisedInstance
  refine wpAny_bind (wpAny_bind (tyB.here (wpAny_bind (L2'.here ?_))))
  rw [if_pos (beq_self_eq_true _)]
  exact wpAny_pure fin
end
/-! ### an exception whose context is an exception without context -/
/-- what is kept of it: class, dict, its context at m -/
def Zh (cls : Value) (d : Option Addr) (m : Addr) : Obj → Prop := fun o => o.cls = cls ∧ o.dict = d ∧ ∀ vs : Array Value, o.data = .fields vs → vs[2]? = some (.ref m)
theorem Zh.steady {cls : Value} {d : Option Addr} {m : Addr} : PySem.PXN.Steady1 (Zh cls d m) := fun o v h => by
  refine ⟨PySem.PXN.steady_cls o v h.1, PySem.PXN.steady_dict o v h.2.1, fun vs e => ?_⟩
  obtain ⟨c, dd, dt, sl⟩ := o
  cases dt with
  | fields vs0 =>
    have e2 : vs0.setIfInBounds 1 v = vs := Data.fields.inj e
    rw [← e2]
    exact HotX.set_other (by decide) (h.2.2 vs0 rfl)
  | _ => cases e
theorem Zh.zc {cls : Value} {d : Option Addr} {m : Addr} {o : Obj} (h : Zh cls d m o) : Zc cls d o := ⟨h.1, h.2.1⟩
/-- an exception without context, untracked -/
def Cause (B : Heap) (H : Hp) (m : Addr) : Prop := (∃ (o : Obj) (vs : Array Value), B.get? m = some o ∧ o.data = .fields vs ∧ vs[2]? = some .none) ∧ H m = none
/-- what leaves a def: such an exception -/
def CXc (P : Program) (w : World) : CXT := fun outer H s E u s' =>
  ∃ (a : Addr) (B : Heap) (H' : Hp) (cls : Value) (d : Option Addr) (m : Addr), u = .ref a ∧ HandSPX.FlyingZ B outer a (Zh cls d m) s'.heap ∧ HOk P w H' B ∧ UB (frs outer) H H' s.heap B s'.heap ∧ H' a = none ∧ s'.os = s.os ∧ AllBare s'.gens ∧ Cause B H' m ∧ E cls d H'
section
variable {X : Cx} {pins : List (Addr × Obj)} {σ : L2.St} {H : Hp} {sI s' : Shared} {E : XK}
/-- what is to be shown of a state in which an exception has just left the frame: the ground part -/
theorem ground (I : Inv X pins σ H sI) (hex : X.ex = []) {B : Heap} (nb : ∀ b o, sI.heap.get? b = some o → b ∉ frs X.stack → B.get? b = some o)
    {h' : Heap} (up : ∀ b o, b ∈ X.fs → sI.heap.get? b = some o → (∀ vs, o.data ≠ .fields vs) → ∃ sl, h'.get? b = some { o with slots := sl }) : HOk X.prog X.w H B ∧ UB (frs X.outer) X.H_0 H X.s_0.heap B h' := by
  have off : ∀ b o, X.s_0.heap.get? b = some o → b ∉ X.fs → b ∉ frs X.stack := fun b o e hb hm => by
    rcases List.mem_cons.mp (I.stkSub b hm) with z | z
    · have q := Nat.lt_of_lt_of_le (Heap.lt_size e) I.ok.above
      rw [z] at q
      exact Nat.lt_irrefl _ q
    · exact hb z
  have nex : ∀ b, b ∉ X.ex := fun b hb => by rw [hex] at hb; cases hb
  refine ⟨I.inGround nb, ⟨fun b o e n hb => nb b o (I.base.keep b o e n hb (nex b)) (off b o e hb), fun b o e hb => ?_, fun b o e n => I.base.free b o e n (nex b), fun b o e hb => ?_, I.base.tups, I.base.frzs, I.base.tbls⟩⟩
  · obtain ⟨_, o0, e0, hnf⟩ := I.ok.funs.mem hb
    rw [e] at e0
    cases e0
    obtain ⟨sl, e1⟩ := I.base.slot b o e (I.ok.frf b hb) hb (nex b)
    obtain ⟨sl2, e2⟩ := up b _ hb e1 hnf
    exact ⟨sl2, e2⟩
  · obtain ⟨o', e1⟩ := I.base.there b o e (nex b)
    exact ⟨o', nb b o' e1 (off b o e hb)⟩
/-- a new one leaves the def -/
theorem leave_new (I : Inv X pins σ H sI) (hs : X.stack = X.env :: X.outer) (hf : X.env.frame = some X.env.locals) (hex : X.ex = []) {a m : Addr} {oe : Obj} {vs : Array Value} {cls : Value} {d : Option Addr} {E₁ : Value → Shared → Prop}
    (k : ∀ b o, sI.heap.get? b = some o → s'.heap.get? b = some o) (hne : sI.heap.get? a = none) (he : s'.heap.get? a = some oe) (hz : Zh cls d m oe) (hd : oe.data = .fields vs) (h1 : vs[1]? = some .none) (na : H a = none)
    (os : s'.os = sI.os) (ag : AllBare s'.gens) (hm : Cause sI.heap H m) (nm : m ∉ frs X.stack) (q : E cls d H) :
    wpAny (model X.prog X.w) X.A (leaving X.env (.ref a)) (fun _ s'' => CXc X.prog X.w X.outer X.H_0 X.s_0 E (.ref a) s'') E₁ s' := by
  have hfr : X.A.frames = some (X.env :: X.outer) := by rw [I.ok.frames, hs]
  obtain ⟨B, hB⟩ : ∃ B, B = PySem.W.hideAll sI.heap (frs X.stack) := ⟨_, rfl⟩
  have inB : ∀ b o, B.get? b = some o → sI.heap.get? b = some o := fun b o e => by
    rw [hB] at e
    exact PySem.W.of_hideAll _ e
  have nb : ∀ b o, sI.heap.get? b = some o → b ∉ frs X.stack → B.get? b = some o := fun b o e hb => by
    rw [hB]
    exact PySem.W.hideAll_get _ e hb
  have na' : B.get? a = none := by
    cases z : B.get? a with
    | none => rfl
    | some o =>
      have y := inB a o z
      rw [hne] at y
      cases y
  have ff : s'.heap.FunFrames B (X.env :: X.outer) := by
    rw [← hs]
    refine Heap.FunFrames.of_keeps (fun b o e _ => ⟨o, k b o e, rfl⟩) (funFrames_none I.stack fun b hb => ?_)
    rw [hB]
    exact PySem.W.hideAll_none _ hb
  refine PySem.PXN.leaving_firstZ Zh.steady hfr ff hf he (fun b o e => k b o (inB b o e)) na' hd h1 hz fun h' fl up => ?_
  obtain ⟨g1, g2⟩ := ground I hex nb (h' := h') fun b o _ e hnf => up b o (k b o e) hnf
  obtain ⟨⟨o, ws, c1, c2⟩, c3⟩ := hm
  exact ⟨a, B, H, cls, d, m, rfl, fl, g1, g2, na, os.trans I.os, ag, ⟨⟨o, ws, nb m o c1 nm, c2⟩, c3⟩, q⟩
end
end WChn
set_option Elab.async false
set_option linter.all false
set_option maxRecDepth 100000
set_option maxHeartbeats 4000000
/-! X(e) as an expression, X such an own error; the two try statements of the reading -/
namespace WChn
open PySem PySem.Spec PyProof.Rows L2
theorem relO_at {v : V} {v' : Value} (r : RelV v v') (f : Str) : RelO (List.lookup f [(("at" : Str), v)]) (if f = "at" then some v' else none) := by
  by_cases hw : f = "at"
  · subst hw
    rw [if_pos rfl]
    have q : List.lookup ("at" : Str) [(("at" : Str), v)] = some v := by simp [List.lookup]
    rw [q]
    exact r
  · rw [if_neg hw]
    have qw : (f == ("at" : Str)) = false := by simpa using hw
    have q2 : List.lookup f [(("at" : Str), v)] = none := by simp [List.lookup, qw]
    rw [q2]
    trivial
def tMkAt (C : Addr) (te : TE) : L2.St → Hp → XK → Prop := fun σ H Q => te σ H fun v H1 => ∀ d, H1 d = none → Q (.ref C) (some d) (upd H1 d (.xd [(("at" : Str), v)]))
theorem pmk_at {X : Cx} {C f : Addr} {x : Str} {e : Expr} {ta : TA} {p pos : Pos} (T : PySem.WSup.SupC X.prog X.K X.mg x C f) (hd : X.A.depth + 1 < recursionLimit) (hg : Gl X x) (ha : PA X [e] ta) (hdb : (x == ("__debug__" : Str)) = false := by decide)
    (he : starEach (e :: []) X.env = (false, eval e X.env) :: starEach [] X.env := by rfl) (hpl : (backTo pos (starEach [] X.env)).any (·.1) = false := by rfl) :
    L2H.PMk5 X (.Call (.Name x p) [e] [] pos) (fun σ H Q => ta σ H fun vs H1 => ∃ v, vs = [v] ∧ ∀ d, H1 d = none → Q (.ref C) (some d) (upd H1 d (.xd [(("at" : Str), v)]))) := by
  intro pins s σ H Q I h
  refine wpAny_Call_Name_kw (ld_glob I hg T.gC ?_ hdb)
  refine PySem.W.callWith_K (h₀ := X.base) I.ok.mod.kin T.kC (thn (ha.run pos pins s σ H _ I h) fun us s1 hh => ?_) he hpl
  obtain ⟨vs, H1, I1, r1, v, ev, q1⟩ := hh
  subst ev
  refine ⟨I1.kIn, ?_⟩
  cases r1 with
  | cons rv rn =>
    rename_i v' us'
    cases rn
    show wpAny _ _ (call (.ref C) [v']) _ _ _
    obtain ⟨mb, hb1, hb2⟩ := I1.ok.mod.blt
    have hlim := I1.nolimit
    have hG := I1.ok.mod.glob.keeps I1.bk
    have hB := hb1.keeps I1.bk
    obtain ⟨hp, g, dr, tk, os⟩ := s1
    refine wpAny_call (PySem.WSup.sup_made T I1.kIn hG hB hb2 hlim hd fun h' tk' e d M => ?_)
    obtain ⟨t, hoe⟩ := M.obj
    have hns := M.ns
    obtain ⟨G', g1, g2⟩ := restrict h' fun b => decide (b ≠ e)
    have gk : ∀ b, b ≠ e → G'.get? b = h'.get? b := fun b hb => g1 b (decide_eq_true hb)
    have ge : G'.get? e = none := g2 e (by simp)
    have old : ∀ b o, hp.get? b = some o → G'.get? b = some o := fun b o q => (gk b (Nat.ne_of_lt (Nat.lt_of_lt_of_le (Heap.lt_size q) M.new))).trans (M.keep b o q)
    have ob : ObjOk X.prog X.w (upd H1 d (.xd [(("at" : Str), v)])) G' d (.xd [(("at" : Str), v)]) :=
      ⟨_, hns.at (fun o q => (gk d M.dne).trans q), fun f => relO_at rv f⟩
    have J : Inv X pins σ (upd H1 d (.xd [(("at" : Str), v)])) ⟨G', g, dr, tk', os⟩ := I1.laid (t' := tk') old M.dbig ob
    refine ⟨⟨e, _, _, ⟨G', g, dr, tk', os⟩, _, .ref C, some d, rfl, J, fun b o q => ?_, ge, hoe, ⟨rfl, rfl, fun vs z => by cases z; rfl⟩, rfl, rfl, ?_, rfl, I1.bare, raises_own T.exC T.tyC, q1 d (I1.hok.fresh M.dbig)⟩, fun a oe vs z1 z2 z3 => ?_⟩
    · by_cases hb : b = e
      · have q' : G'.get? b = some o := q
        rw [hb, ge] at q'
        cases q'
      · exact (gk b hb).symm.trans q
    · rw [upd_ne (Ne.symm M.dne)]
      exact I1.hok.fresh M.new
    · cases z1
      have z4 : h'.get? e = some oe := z2
      rw [hoe] at z4
      cases z4
      cases z3
      show (4 : Nat) < 6
      decide
/-- err.at, err the exception that the suite holds: in any context that pins it -/
theorem pe_at {X : Cx} {C f : Addr} {x : Str} {a : Addr} {oe : Obj} {cls : Value} {d : Option Addr} {e : Expr} {te : TE} {pos : Pos} (T : PySem.WSup.SupC X.prog X.K X.mg x C f) (hp : (a, oe) ∈ X.pn) (hz : Zc cls d oe) (hf : ∃ vs, oe.data = .fields vs) (he : PE X e te)
    (hb : attributeBase e "at" X.env (eval e X.env) = eval e X.env := by rfl) :
    PE X (.Attribute e "at" pos) (fun σ H Q => te σ H fun x H1 => x = .ref a ∧ cls = .ref C ∧ ∃ (dd : Addr) (v : V), d = some dd ∧ H1 dd = some (.xd [(("at" : Str), v)]) ∧ Q v H1) := by
  refine ⟨fun pins s σ H Q I h => ?_⟩
  refine attr_of hb (thn (he.run pins s σ H _ I h) fun u s1 hh => ?_)
  obtain ⟨x, H1, I1, rx, ex, ec, dd, v, ed, ea, q⟩ := hh
  subst ex
  obtain rfl : u = Value.ref a := rx
  subst ec
  subst ed
  obtain ⟨ha, _⟩ := I1.pin (a, oe) (List.mem_append_left _ hp)
  obtain ⟨vs, hd⟩ := hf
  have hx : ObjOk X.prog X.w H1 s1.heap dd (.xd [(("at" : Str), v)]) := I1.hok dd _ ea
  obtain ⟨mA, hns, hr⟩ := hx
  obtain ⟨od, ho, hl⟩ := lookIn_ns hns
  have l : List.lookup ("at" : Str) [(("at" : Str), v)] = some v := by simp [List.lookup]
  obtain ⟨u, hu, ru⟩ := RelO.some_of (v := v) (o := mA "at") (by rw [← l]; exact hr "at")
  have J : PySem.W.InstAt s1.heap a oe C (some od) := ⟨ha, hz.1, by unfold PySem.W.notCls; rw [hd] <;> rfl, by rw [hz.2]; exact ho⟩
  exact HandSPX.exc_get I1.kIn J T.ga T.gg T.exC (PySem.W.findObj_own T.hdC T.noN rfl (by rw [hl, hu])) (handed_of ru) ⟨v, H1, I1.tok _, ru, q⟩
end WChn
set_option Elab.async false
set_option linter.all false
set_option maxRecDepth 100000
set_option maxHeartbeats 4000000
/-! try: .. except M: raise L(..) from None, in a def that lets out L alone -/
namespace WChn
open PySem PySem.Spec PyProof.Rows L2
theorem unsuite0 {X : Cx} {a : Addr} {pn pins : List (Addr × Obj)} {σ : L2.St} {H : Hp} {s : Shared} (hpn : X.pn = []) (ok : X.Ok) (J : Inv (L2H.suiteX X a pn) pins σ H s) : Inv X [] σ H s :=
  ⟨ok, J.os, J.bare, J.base, J.loc, J.cell, J.free, J.freeC, (fun p hp => by
    rw [hpn] at hp
    cases hp), J.hok, J.len⟩
section
variable {X : Cx} {x : Str} {c : Value} {body : List Stmt} {np pos pos' rpos cpos : Pos} {j : Nat} {e : Expr} {t : L2.St → Hp → XK → Prop} {tb : WX → TS} {E : XK} {E₁ : Value → Shared → Prop}
theorem ps_try_chain (hs : X.stack = X.env :: X.outer) (hf : X.env.frame = some X.env.locals) (hex : X.ex = []) (hpn : X.pn = [])
    (hx : X.xe = fun e s' => wpAny (model X.prog X.w) X.A (leaving X.env e) (fun _ s'' => CXc X.prog X.w X.outer X.H_0 X.s_0 E e s'') E₁ s') (hc : Names X x c)
    (hb : ∀ (W : WX) (pn : List (Addr × Obj)) (xe : Value → Shared → Prop), L2N.Takes (X.tr pn xe) W → PassesOwn (model X.prog X.w) X.A X.env xe → PSs (X.tr pn xe) body (tb W))
    (he : ∀ (a : Addr) (pn : List (Addr × Obj)), L2H.PMk5 (L2H.suiteX X a pn) e t) :
    PS X (.Try body [.ExceptHandler (some (.Name x np)) none [.Raise (some e) (some (.Constant .none j cpos)) rpos] pos'] [] [] pos)
      (fun D σ H => tb (wOnly X.K c (fun _ _ _ => fun _ σ H => t σ H E) (fun _ _ _ _ => False) D) D σ H) := by
  refine ⟨fun pins0 s0 σ0 H0 D0 I0 h0 => ?_⟩
  have ok := I0.ok
  refine (L2H.ps_try_onlyX (ts := fun _ _ _ => fun _ σ H => t σ H E) (Wout := fun _ _ _ _ => False) hs hf hc (L2H.passesAt_of hx) takes0 (fun W pn xe tk _ po => hb W pn xe tk po) (fun a oe cls d pn hz hdd _ hot => ?_)).run pins0 s0 σ0 H0 D0 I0 h0
  refine pss_one ⟨fun pins s σ H D I h => ?_⟩
  obtain ⟨p, ⟨hh, v1, e1, c1⟩, hp⟩ := hot
  show wpAny _ _ (do standAt rpos; raiseStmt X.env (some (do let v ← eval e X.env; standAt rpos; pure v)) (some (do let v ← eval (.Constant .none j cpos) X.env; standAt rpos; pure v))) _ _ _
  refine wpAny_bind (wpAny_standAt (HotX.raise_made_hotN (x1 := p.1) (fun s2 Q2 q2 => wpAny_bind (Constant_none (wpAny_bind (wpAny_standAt (wpAny_pure q2))))) (wpAny_bind (wpAny_mono (he a _ pins s σ H _ I h) (fun u s1 hu => wpAny_bind (wpAny_standAt (wpAny_pure ?_))) fun _ _ z => z))))
  obtain ⟨⟨b, ob, ws, sI, H', cls', d', rfl, J, k, hne, hb1, hz1, hd1, h1, nb, os, ag, rs, q⟩, h5⟩ := hu
  have h4 : 4 < ws.size := h5 b ob ws rfl hb1 hd1
  have P1 := J.pin p (List.mem_append_left _ hp)
  have npb : p.1 ≠ b := fun z => by
    have y := P1.1
    rw [z, hne] at y
    cases y
  have k4 : ∀ i o, sI.heap.get? i = some o → (HotX.noneFrom s1.heap b).get? i = some o := fun i o z => by
    rw [HotX.noneFrom_other (fun y => by rw [← y, hne] at z; cases z)]
    exact k i o z
  obtain ⟨hb4, hd4⟩ := HotX.noneFrom_at hb1 hd1
  have hb5 := Heap.get?_update_self (Obj.mapFields (·.setIfInBounds 2 (.ref p.1))) hb4 (Obj.isFreed_of_fields (Obj.data_mapFields hd4 _))
  have hd5 := Obj.data_mapFields hd4 (·.setIfInBounds 2 (.ref p.1))
  refine ⟨b, ob, ws, cls', rfl, hb1, hz1.1, hd1, h1, h4, npb, ⟨hh, p.2, v1, k _ _ P1.1, e1, c1⟩, (rs _ s1.heap (J.kIn.keeps k)).1, (rs _ _ (J.kIn.keeps k4)).2, ?_⟩
  show X.xe (.ref b) _
  rw [hx]
  have J0 : Inv X [] σ H' sI := unsuite0 hpn ok J
  have npf : p.1 ∉ frs X.stack := fun hm => by
    rcases List.mem_cons.mp (J0.stkSub p.1 hm) with z | z
    · exact P1.2.2.1 z
    · exact P1.2.2.2.1 z
  refine leave_new (s' := { s1 with heap := (HotX.noneFrom s1.heap b).update b (Obj.mapFields (·.setIfInBounds 2 (.ref p.1))) }) (m := p.1) (cls := cls') (d := d') J0 hs hf hex (fun i o z => ?_) hne hb5 ⟨?_, ?_, fun vs z => ?_⟩ hd5 ?_ nb os ag ⟨⟨p.2, v1, P1.1, e1, c1⟩, P1.2.1⟩ npf q
  · show ((HotX.noneFrom s1.heap b).update b (Obj.mapFields (·.setIfInBounds 2 (.ref p.1)))).get? i = some o
    rw [Heap.get?_update_other _ _ (fun y => by rw [← y, hne] at z; cases z)]
    exact k4 i o z
  · rw [Obj.cls_mapFields, Obj.cls_mapFields, Obj.cls_mapFields]
    exact hz1.1
  · rw [HandSPX.dict_mapFields, HandSPX.dict_mapFields, HandSPX.dict_mapFields]
    exact hz1.2.1
  · rw [hd5] at z
    rw [← Data.fields.inj z]
    have l2 : 2 < ((ws.setIfInBounds 3 Value.none).setIfInBounds 4 (Value.bool true)).size := by rw [HotX.set_size, HotX.set_size]; omega
    first
    | simp [l2]
    | (rw [Array.getElem?_setIfInBounds, if_pos rfl, if_pos l2])
  · exact HotX.set_other (by decide) (HotX.set_other (by decide) (HotX.set_other (by decide) h1))
end
end WChn
set_option Elab.async false
set_option linter.all false
set_option maxRecDepth 100000
set_option maxHeartbeats 4000000
/-! try: .. except L as e: raise B(..) from None, where the body lets out such an L -/
namespace WChn
open PySem PySem.Spec PyProof.Rows L2
section
variable {X : Cx} {pins : List (Addr × Obj)} {σ : L2.St} {H H' : Hp} {s s' : Shared} {B : Heap}
theorem frames_on {base h h' : Heap} : ∀ {l : List Env}, h.FunFrames base l → (∀ b ∈ frs l, ∀ o, h.get? b = some o → (∀ vs, o.data ≠ .fields vs) → ∃ o', h'.get? b = some o' ∧ ∀ vs, o'.data ≠ .fields vs) → h'.FunFrames base l
  | [], _, _ => trivial
  | env :: l, hl, k => by
    obtain ⟨hk, ⟨L, o, hf, hn, ho, hd⟩, hr⟩ := hl
    obtain ⟨o', ho', hd'⟩ := k L (List.mem_filterMap.mpr ⟨env, List.mem_cons_self, hf⟩) o ho hd
    refine ⟨hk, ⟨L, o', hf, hn, ho', hd'⟩, frames_on hr fun b hb => k b ?_⟩
    obtain ⟨e, he, q⟩ := List.mem_filterMap.mp hb
    exact List.mem_filterMap.mpr ⟨e, List.mem_cons_of_mem _ he, q⟩
/-- behind a call that let it out: the state upon the ground -/
theorem on_ground (I : Inv X pins σ H s) (hok : HOk X.prog X.w H' B) (ub : UB (frs X.stack) H H' s.heap B s'.heap) (os : s'.os = s.os) (ag : AllBare s'.gens) {h3 : Heap} (st : B.StaysIn h3) (up : s'.heap.UpToSlots h3) :
    Inv X pins σ H' { s' with heap := h3 } := by
  have fr : ∀ b, b ∈ frs X.stack → ∀ o, s.heap.get? b = some o → ∃ sl, h3.get? b = some { o with slots := sl } := fun b hb o e => by
    obtain ⟨_, o', e', hnf⟩ := I.stack.mem hb
    rw [e] at e'
    cases e'
    obtain ⟨sl, q⟩ := ub.slot b o e hb
    obtain ⟨sl2, q2⟩ := up b _ q hnf
    exact ⟨sl2, q2⟩
  have J := I.call (ch := []) (h' := h3) (g' := s'.gens) (t' := s'.toks) (d' := s'.drawn) (H' := H')
    ⟨fun b o e n hb _ => st b o (ub.keep b o e n hb), fun b o e _ hb _ => fr b hb o e, fun b o e n _ => ub.free b o e n, fun b o e _ => by
      by_cases hb : b ∈ frs X.stack
      · obtain ⟨sl, q⟩ := fr b hb o e
        exact ⟨_, q⟩
      · obtain ⟨o', q⟩ := ub.there b o e hb
        exact ⟨o', st b o' q⟩, ub.tups, ub.frzs, ub.tbls⟩
    (hok.kept st) ag (fun _ z => nomatch z)
  obtain ⟨a1, a2, a3, a4, a5⟩ := s'
  have e5 : a5 = s.os := os
  subst e5
  exact J
/-- into the suite, the exception and its cause pinned -/
theorem into_suite (J : Inv X pins σ H s) {a m : Addr} {oe om : Obj} {vs ws : Array Value} (ha : s.heap.get? a = some oe) (hd : oe.data = .fields vs) (na : H a = none) (nL : a ≠ X.env.locals) (nF : a ∉ X.fs)
    (hm : s.heap.get? m = some om) (hdm : om.data = .fields ws) (nm : H m = none) (nLm : m ≠ X.env.locals) (nFm : m ∉ X.fs) : Inv (X.suite a [(a, oe), (m, om)]) [] σ H s := by
  have ok := J.ok
  refine ⟨⟨ok.mod, ok.kind, ok.glob, ok.blt, ok.above, ok.inj, ok.has, ok.cab, (fun z => absurd (show false = true from z) Bool.false_ne_true), ok.frames, ok.stk, ok.exf, ok.bs, ok.bsz, ok.noex, ok.exfs, ok.funs, ok.frf⟩, J.os, J.bare, J.base, J.loc, J.cell, J.free, J.freeC, fun p hp => ?_, J.hok, J.len⟩
  have hp' : p ∈ [(a, oe), (m, om)] := by rw [List.append_nil] at hp; exact hp
  rcases List.mem_cons.mp hp' with rfl | hp'
  · exact ⟨ha, na, nL, nF, fun v z => by have z' : oe.data = .cell v := z; rw [hd] at z'; cases z'⟩
  · rcases List.mem_cons.mp hp' with rfl | hp'
    · exact ⟨hm, nm, nLm, nFm, fun v z => by have z' : om.data = .cell v := z; rw [hdm] at z'; cases z'⟩
    · cases hp'
end
section
variable {X : Cx} {x n : Str} {c : Value} {i : Nat} {body : List Stmt} {np pos pos' rpos cpos : Pos} {j : Nat} {ee : Expr} {t : Addr → Value → Option Addr → L2.St → Hp → XK → Prop} {tb : WX → TS} {E : XK} {E₁ : Value → Shared → Prop}
/-- what is wished of an exception of the body: it is one of the clause's, and what the suite raises then is wished for -/
def wChain (K : PySem.W.Frag) (c : Value) (i : Nat) (t : Addr → Value → Option Addr → L2.St → Hp → XK → Prop) (E : XK) : WX := fun cls d σ H => PySem.W.exmOne K cls c = some true ∧ ∀ a, H a = none → t a cls d (σ.set i (some (.ref a))) H E
theorem ps_try_chain2 (hs : X.stack = X.env :: X.outer) (hf : X.env.frame = some X.env.locals) (hex : X.ex = []) (hpn : X.pn = [])
    (hx : X.xe = fun e s' => wpAny (model X.prog X.w) X.A (leaving X.env e) (fun _ s'' => L2.CX X.prog X.w X.outer X.H_0 X.s_0 E e s'') E₁ s') (hN : X.N.Nodup) (hi : X.N[i]? = some n) (hln : X.env.kindOf n = some .local) (hc : Names X x c)
    (hb : ∀ (W : WX) (pn : List (Addr × Obj)) (xe : Value → Shared → Prop), (∀ σ : L2.St, L2.PassesAt (CXc X.prog X.w) (X.tr pn xe) σ (fun cls d H => W cls d σ H)) → PassesOwn (model X.prog X.w) X.A X.env xe → PSs (X.tr pn xe) body (tb W))
    (he : ∀ (a : Addr) (oe : Obj) (cls : Value) (d : Option Addr) (pn : List (Addr × Obj)), Zc cls d oe → (∃ vs, oe.data = .fields vs) → (a, oe) ∈ pn → L2H.PMk5 (X.suite a pn) ee (t a cls d)) :
    PS X (.Try body [.ExceptHandler (some (.Name x np)) (some n) [.Raise (some ee) (some (.Constant .none j cpos)) rpos] pos'] [] [] pos) (fun D σ H => tb (wChain X.K c i t E) D σ H) := by
  refine ⟨fun pins s σ H D I h => ?_⟩
  have ok := I.ok
  have hfr : X.A.frames = some (X.env :: X.outer) := by rw [ok.frames, hs]
  have hloc : Loc X.env.scope n := .inl hln
  refine wpAny_Try_except ?_
  refine wpAny_mono ((hb (wChain X.K c i t E) (X.pn ++ pins) (fun e s₁ => wpAny (model X.prog X.w) X.A (noteFrame e X.env) (fun _ s₂ => wpAny (model X.prog X.w) X.A (setFlight e none) (fun _ s₃ =>
    wpAny (model X.prog X.w) X.A (handleBy e X.env [.ExceptHandler (some (.Name x np)) (some n) [.Raise (some ee) (some (.Constant .none j cpos)) rpos] pos']) (SP X pins D) X.xe s₃) X.xe s₂) X.xe s₁) ?pass PassesOwn.looking).run [] s σ H D (I.toTry _) h) (fun f s1 hsp => ?_) (fun e s1 he => he)
  case pass =>
    intro σ1 pins1 H1 s1 u s2 I1 cx
    obtain ⟨a, B, H2, cls, d, m, rfl, fl, hok, ub, na, os, ag, cause, q⟩ := cx
    obtain ⟨hexm, hyes⟩ := q
    have J1 : Inv X pins σ1 H1 s1 := I1.ofTry ok
    have fl' : HandSPX.FlyingZ B (X.env :: X.outer) a (Zh cls d m) s2.heap := by rw [← hs]; exact fl
    have inv := fun {h3 : Heap} (st : B.StaysIn h3) (up : s2.heap.UpToSlots h3) => on_ground J1 hok ub os ag st up
    show wpAny (model X.prog X.w) X.A (noteFrame (.ref a) X.env) _ _ _
    refine PySem.PXN.looks_onZ Zh.steady hfr hf fl' fun h3 hh3 up3 => ?_
    refine HandSPX.landsZ (s := { s2 with heap := h3 }) hh3 fun h4 fl4 up4 => ?_
    have J4 : Inv X pins σ1 H2 { s2 with heap := h4 } := inv fl4.1 (up3.trans up4)
    obtain ⟨oe4, vs4, he4, hz4, hd4⟩ := fl4.there
    have offFr : ∀ {h : Heap} {b : Addr} {o : Obj} {vs : Array Value}, h.FunFrames B (X.env :: X.outer) → h.get? b = some o → o.data = .fields vs → b ≠ X.env.locals ∧ b ∉ X.fs := fun {h b o vs} ff e dd => by
      have nn : b ∉ frs (X.env :: X.outer) := fun hm => by
        obtain ⟨_, o', e', hnf⟩ := ff.mem hm
        rw [e] at e'
        cases e'
        exact hnf _ dd
      refine ⟨fun z => nn (List.mem_filterMap.mpr ⟨X.env, List.mem_cons_self, by rw [hf, z]⟩), fun hm => ?_⟩
      obtain ⟨e1, he1, q1⟩ := List.mem_filterMap.mp hm
      exact nn (List.mem_filterMap.mpr ⟨e1, List.mem_cons_of_mem _ he1, q1⟩)
    obtain ⟨⟨om, wm, hm, dm, cm⟩, nm⟩ := cause
    have an := offFr fl4.2.2.1 he4 hd4
    have mn := offFr fl4.2.2.1 (fl4.1 _ _ hm) dm
    have S4 := into_suite J4 he4 hd4 na an.1 an.2 (fl4.1 _ _ hm) dm nm mn.1 mn.2
    refine wpAny_handleBy_cons (codeAny_handlers_test ?_) (by intro z; cases z)
    have LT : PySem.W.Looks (model X.prog X.w) h4 (typeOf (.ref a)) cls := fun _ _ _ _ k q => wpAny_typeOf_ref (k _ _ he4) (by rw [hz4.1]; exact q)
    have LM := PySem.W.exm_one (M := model X.prog X.w) (J4.kIn) LT hexm
    have test : ∀ {Q : Value → Shared → Prop} {E : Value → Shared → Prop}, Q c { s2 with heap := h4 } → wpAny (model X.prog X.w) (X.A.mark (some (.ref a))) (eval (.Name x np) X.env) Q E { s2 with heap := h4 } := fun {Q E} q => by
      obtain ⟨hg, hdbg, hm | ⟨hm, hv, hnn⟩⟩ := hc
      · exact ld_glob (X := X.suite a [(a, oe4), (m, om)]) S4 hg hm q hdbg
      · exact ld_blt (X := X.suite a [(a, oe4), (m, om)]) S4 hg hm hv q hnn hdbg
    refine test (LM.here ?_)
    refine codeAny_handlers_suite_as ?_
    refine HandSPX.lands_againZ (s := { s2 with heap := h4 }) fl4 fun h5 fl5 up5 => ?_
    have J5 : Inv X pins σ1 H2 { s2 with heap := h5 } := inv fl5.1 ((up3.trans up4).trans up5)
    obtain ⟨oe5, vs5, he5, hz5, hd5⟩ := fl5.there
    have S5 := into_suite J5 he5 hd5 na an.1 an.2 (fl5.1 _ _ hm) dm nm mn.1 mn.2
    refine store_ok (X := X.suite a [(a, oe5), (m, om)]) (v := .ref a) S5 hN hi hloc rfl (fun s6 S6 => ?_) (.inr hln)
    -- the suite: raise .. from None
    refine wpAny_execs_cons ?_
    show wpAny _ _ (do standAt rpos; raiseStmt X.env (some (do let v ← eval ee X.env; standAt rpos; pure v)) (some (do let v ← eval (.Constant .none j cpos) X.env; standAt rpos; pure v))) _ _ _
    refine wpAny_bind (wpAny_standAt (raise2 (x1 := a) (m := m) (fun s3 Q3 q3 => wpAny_bind (Constant_none (wpAny_bind (wpAny_standAt (wpAny_pure q3))))) (wpAny_bind (wpAny_mono (he a oe5 cls d [(a, oe5), (m, om)] hz5.zc ⟨_, hd5⟩ List.mem_cons_self [] s6 _ H2 _ S6 (hyes a na)) (fun u7 s7 hu => wpAny_bind (wpAny_standAt (wpAny_pure ?_))) fun _ _ z => z.elim))))
    obtain ⟨⟨b, ob, ws, sI, H7, cls', d', rfl, J7, k7, hne, hb1, hz1, hd1, h1, nb, os7, ag7, rs, q7⟩, h5'⟩ := hu
    have l4 : 4 < ws.size := h5' b ob ws rfl hb1 hd1
    have JX : Inv X [] (σ1.set i (some (.ref a))) H7 sI := unsuite0 hpn ok (L2H.suiteX_of J7)
    have Pa := J7.pin (a, oe5) (List.mem_append_left _ List.mem_cons_self)
    have Pm := J7.pin (m, om) (List.mem_append_left _ (List.mem_cons_of_mem _ List.mem_cons_self))
    have nab : a ≠ b := fun z => by
      have y := Pa.1
      rw [z, hne] at y
      cases y
    have nmb : m ≠ b := fun z => by
      have y := Pm.1
      rw [z, hne] at y
      cases y
    have neb : ∀ i o, sI.heap.get? i = some o → b ≠ i := fun i o z y => by rw [← y, hne] at z; cases z
    have k8 : ∀ i o, sI.heap.get? i = some o → (HotX.noneFrom s7.heap b).get? i = some o := fun i o z => by
      rw [HotX.noneFrom_other (neb i o z)]
      exact k7 i o z
    obtain ⟨hb4, hd8⟩ := HotX.noneFrom_at hb1 hd1
    have hb8 := Heap.get?_update_self (Obj.mapFields (·.setIfInBounds 2 (.ref a))) hb4 (Obj.isFreed_of_fields (Obj.data_mapFields hd8 _))
    have hd9 := Obj.data_mapFields hd8 (·.setIfInBounds 2 (.ref a))
    refine ⟨b, ob, ws, cls', rfl, hb1, hz1.1, hd1, h1, l4, nab, nmb, ⟨rfl, ⟨oe5, vs5, k7 _ _ Pa.1, hd5, hz5.2.2 vs5 hd5⟩, om, wm, k7 _ _ Pm.1, dm, cm⟩, (rs _ s7.heap (J7.kIn.keeps k7)).1, (rs _ _ (J7.kIn.keeps k8)).2, ?_⟩
    -- in flight: noted by this frame, the name goes, it is passed on
    obtain ⟨h8, eh8⟩ : ∃ h8, h8 = (HotX.noneFrom s7.heap b).update b (Obj.mapFields (·.setIfInBounds 2 (.ref a))) := ⟨_, rfl⟩
    rw [← eh8] at hb8 ⊢
    have k9 : ∀ i o, sI.heap.get? i = some o → h8.get? i = some o := fun i o z => by
      rw [eh8, Heap.get?_update_other _ _ (neb i o z)]
      exact k8 i o z
    obtain ⟨G, eG⟩ : ∃ G, G = PySem.W.hideAll sI.heap (frs X.stack) := ⟨_, rfl⟩
    have inG : ∀ i o, G.get? i = some o → sI.heap.get? i = some o := fun i o z => by
      rw [eG] at z
      exact PySem.W.of_hideAll _ z
    have noG : ∀ i, i ∈ frs X.stack → G.get? i = none := fun i hi => by
      rw [eG]
      exact PySem.W.hideAll_none _ hi
    have onG : ∀ i o, sI.heap.get? i = some o → i ∉ frs X.stack → G.get? i = some o := fun i o z hi => by
      rw [eG]
      exact PySem.W.hideAll_get _ z hi
    have Gb : G.get? b = none := by
      cases z : G.get? b with
      | none => rfl
      | some o =>
        have y := inG b o z
        rw [hne] at y
        cases y
    have ff8 : h8.FunFrames G (X.env :: X.outer) := by
      rw [← hs]
      exact Heap.FunFrames.of_keeps (fun i o z _ => ⟨o, k9 i o z, rfl⟩) (funFrames_none JX.stack fun i hi => noG i hi)
    have hz8 : Zc cls' d' (((ob.mapFields (·.setIfInBounds 3 .none)).mapFields (·.setIfInBounds 4 (.bool true))).mapFields (·.setIfInBounds 2 (.ref a))) := by
      refine ⟨?_, ?_⟩
      · rw [Obj.cls_mapFields, Obj.cls_mapFields, Obj.cls_mapFields]
        exact hz1.1
      · rw [HandSPX.dict_mapFields, HandSPX.dict_mapFields, HandSPX.dict_mapFields]
        exact hz1.2.1
    have h18 : (((ws.setIfInBounds 3 Value.none).setIfInBounds 4 (Value.bool true)).setIfInBounds 2 (Value.ref a))[1]? = some Value.none := HotX.set_other (by decide) (HotX.set_other (by decide) (HotX.set_other (by decide) h1))
    have frM : (X.A.mark (some (.ref a))).frames = some (X.env :: X.outer) := hfr
    refine HandSPX.look_newZ (base := G) (s := { s7 with heap := h8 }) Zc.steady frM ff8 hf hb8 (fun i o z => k9 i o (inG i o z)) Gb hd9 h18 hz8 fun h9 hh9 up9 => ?_
    -- the name goes
    have J9 : Inv X [] (σ1.set i (some (.ref a))) H7 { s7 with heap := h9 } := JX.landed (s' := { s7 with heap := h9 }) onG hh9.1 (fun i o z hnf => up9 i o (k9 i o z) hnf) os7 ag7
    obtain ⟨mL, hnL, _⟩ := id J9.loc
    have hcls : (X.env.scope.kind == .class || (X.env.scope.kind == .module && X.env.locals != X.env.globals)) = false := by rw [ok.kind]; rfl
    refine wpAny_nameGoes_keeps hln hnL hcls fun h10 v10 hn10 sb10 => ?_
    have Lst : X.env.locals ∈ frs X.stack := by
      rw [hs]
      exact List.mem_filterMap.mpr ⟨X.env, List.mem_cons_self, hf⟩
    obtain ⟨g1, g2, g3, oe9, vs9, T, oT, ts, e9, z9, d9, t9, nT, Te, eT, dT, f9⟩ := hh9
    obtain ⟨oL, _, _, eL, dL, _⟩ := id hnL
    have nLG : ∀ i o, G.get? i = some o → i ≠ X.env.locals := fun i o z y => by
      rw [y, noG _ Lst] at z
      cases z
    have nLf : ∀ {i : Addr} {o : Obj} {ws : Array Value}, h9.get? i = some o → o.data = .fields ws → i ≠ X.env.locals := fun {i o ws} z dd y => by
      rw [y, eL] at z
      cases z
      rw [dL] at dd
      cases dd
    have ff10 : h10.FunFrames G (X.env :: X.outer) := by
      refine frames_on g3 fun i _ o z hnf => ?_
      by_cases hL : i = X.env.locals
      · obtain ⟨o10, es10, ep10, e10, dd10, _⟩ := id hn10
        exact ⟨o10, by rw [hL]; exact e10, fun vs y => by rw [dd10] at y; cases y⟩
      · exact ⟨o, (sb10.2 i hL).trans z, hnf⟩
    have hh10 : HandSPX.HeldZ G (X.env :: X.outer) b (Zc cls' d') X.env.locals h10 :=
      ⟨fun i o z => (sb10.2 i (nLG i o z)).trans (g1 i o z), g2, ff10, oe9, vs9, T, oT, ts, (sb10.2 b (nLf e9 d9)).trans e9, z9, d9, t9, nT, Te, (sb10.2 T (nLf eT dT)).trans eT, dT, f9⟩
    -- it is passed on
    have e10 := (sb10.2 b (nLf e9 d9)).trans e9
    unfold PySem.passOn
    refine wpAny_bind (wpAny_field e10 d9 t9 ?_)
    rw [if_neg (show ¬ ((Value.ref T == Value.none) = true) from by simp)]
    have fin : ∀ {h11 : Heap}, HandSPX.HeldZ G (X.env :: X.outer) b (Zc cls' d') X.env.locals h11 → h10.UpToSlots h11 → X.xe (.ref b) { s7 with heap := h11, toks := s7.toks + 1 } := fun {h11} hh11 up11 => by
      rw [hx]
      refine HandSPX.leaves_heldZ (s := { s7 with heap := h11, toks := s7.toks + 1 }) hf hh11 fun h12 fl12 up12 => ?_
      obtain ⟨y1, y2⟩ := ground JX hex onG (h' := h12) fun i o hi z hnf => by
        have iL : i ≠ X.env.locals := fun y => by
          obtain ⟨_, o0, e0, _⟩ := ok.funs.mem hi
          have y5 := Nat.lt_of_lt_of_le (Heap.lt_size e0) ok.above
          rw [y] at y5
          exact Nat.lt_irrefl _ y5
        obtain ⟨sl, q1⟩ := up9 i o (k9 i o z) hnf
        have q2 := (sb10.2 i iL).trans q1
        obtain ⟨sl2, q3⟩ := up11 i _ q2 hnf
        obtain ⟨sl3, q4⟩ := up12 i _ q3 hnf
        exact ⟨sl3, q4⟩
      exact ⟨b, G, H7, cls', d', rfl, fl12, y1, y2, nb, os7.trans JX.os, ag7, q7⟩
    have po := L2H.passesAt_of hx (some (.ref a))
    have go : wpAny (model X.prog X.w) (X.A.mark (some (.ref a))) (setFlight (.ref b) X.env.frame) (fun _ s4 => X.xe (.ref b) s4) X.xe { s7 with heap := h10, toks := s7.toks + 1 } := by
      rw [hf]
      exact HandSPX.setFlight_onZ (s := { s7 with heap := h10, toks := s7.toks + 1 }) hh10 fun h11 hh11 up11 => fin hh11 up11
    first
    | exact wpAny_bind (wpAny_pure (wpAny_bind (wpAny_mono go (fun _ s4 z => wpAny_throw (po _ _ z)) (fun e s4 z => po _ _ z))))
    | exact wpAny_bind (wpAny_mono go (fun _ s4 z => wpAny_throw (po _ _ z)) (fun e s4 z => po _ _ z))
  · cases f with
    | next =>
      obtain ⟨σ1, H1, J, q⟩ := hsp
      exact wpAny_execs_nil ⟨σ1, H1, J.ofTry ok, q⟩
    | brk =>
      obtain ⟨σ1, H1, J, q⟩ := hsp
      exact ⟨σ1, H1, J.ofTry ok, q⟩
    | cont =>
      obtain ⟨σ1, H1, J, q⟩ := hsp
      exact ⟨σ1, H1, J.ofTry ok, q⟩
    | ret u =>
      obtain ⟨v, σ1, H1, J, r, q⟩ := hsp
      exact ⟨v, σ1, H1, J.ofTry ok, r, q⟩
end
end WChn
set_option Elab.async false
set_option linter.all false
set_option maxRecDepth 100000
set_option maxHeartbeats 4000000
/-! what the head observes of the top (printed by gen_facts.py) -/
namespace WP
open PySem PySem.Spec PyProof.Rows L2
abbrev PW : Program := PySem.Challenge.pw_whatpasses_k23_whole_first_wrong_line
def d_Family_init : He5.DefA := ⟨(fun K => He.fAd K ("Family", some "__init__")), "__init__", "Family.__init__", defArgs s_Family_init, defBody s_Family_init, defScope s_Family_init, [], []⟩
def d_Family_contains : He5.DefA := ⟨(fun K => He.fAd K ("Family", some "__contains__")), "__contains__", "Family.__contains__", defArgs s_Family_contains, defBody s_Family_contains, defScope s_Family_contains, [], []⟩
def d_Family_plain : He5.DefA := ⟨(fun K => He5.wf K (He.ga K "Family") "staticmethod" "plain"), "plain", "Family.plain", defArgs s_Family_plain, defBody s_Family_plain, defScope s_Family_plain, [], []⟩
def d_is_number : He5.DefA := ⟨(fun K => He.fAd K ("is_number", none)), "is_number", "is_number", defArgs s_is_number, defBody s_is_number, defScope s_is_number, [], []⟩
def d_is_word : He5.DefA := ⟨(fun K => He.fAd K ("is_word", none)), "is_word", "is_word", defArgs s_is_word, defBody s_is_word, defScope s_is_word, [.int 30], []⟩
def d_is_name : He5.DefA := ⟨(fun K => He.fAd K ("is_name", none)), "is_name", "is_name", defArgs s_is_name, defBody s_is_name, defScope s_is_name, [], []⟩
def d_is_constant : He5.DefA := ⟨(fun K => He.fAd K ("is_constant", none)), "is_constant", "is_constant", defArgs s_is_constant, defBody s_is_constant, defScope s_is_constant, [], []⟩
def d_constant_text : He5.DefA := ⟨(fun K => He.fAd K ("constant_text", none)), "constant_text", "constant_text", defArgs s_constant_text, defBody s_constant_text, defScope s_constant_text, [], []⟩
def d_is_number_text : He5.DefA := ⟨(fun K => He.fAd K ("is_number_text", none)), "is_number_text", "is_number_text", defArgs s_is_number_text, defBody s_is_number_text, defScope s_is_number_text, [], []⟩
def d_is_constant_text : He5.DefA := ⟨(fun K => He.fAd K ("is_constant_text", none)), "is_constant_text", "is_constant_text", defArgs s_is_constant_text, defBody s_is_constant_text, defScope s_is_constant_text, [], []⟩
def d_call_text : He5.DefA := ⟨(fun K => He.fAd K ("call_text", none)), "call_text", "call_text", defArgs s_call_text, defBody s_call_text, defScope s_call_text, [], []⟩
def d_run_of : He5.DefA := ⟨(fun K => He.fAd K ("run_of", none)), "run_of", "run_of", defArgs s_run_of, defBody s_run_of, defScope s_run_of, [], []⟩
def d_token_at : He5.DefA := ⟨(fun K => He.fAd K ("token_at", none)), "token_at", "token_at", defArgs s_token_at, defBody s_token_at, defScope s_token_at, [], []⟩
def d_tokens_of : He5.DefA := ⟨(fun K => He.fAd K ("tokens_of", none)), "tokens_of", "tokens_of", defArgs s_tokens_of, defBody s_tokens_of, defScope s_tokens_of, [], []⟩
def d_is_tight : He5.DefA := ⟨(fun K => He.fAd K ("is_tight", none)), "is_tight", "is_tight", defArgs s_is_tight, defBody s_is_tight, defScope s_is_tight, [], []⟩
def d_spaced : He5.DefA := ⟨(fun K => He.fAd K ("spaced", none)), "spaced", "spaced", defArgs s_spaced, defBody s_spaced, defScope s_spaced, [], []⟩
def d_value_of : He5.DefA := ⟨(fun K => He.fAd K ("value_of", none)), "value_of", "value_of", defArgs s_value_of, defBody s_value_of, defScope s_value_of, [], []⟩
def d_Line_init : He5.DefA := ⟨(fun K => He.fAd K ("Line", some "__init__")), "__init__", "Line.__init__", defArgs s_Line_init, defBody s_Line_init, defScope s_Line_init, [], []⟩
def d_Line_peek : He5.DefA := ⟨(fun K => He.fAd K ("Line", some "peek")), "peek", "Line.peek", defArgs s_Line_peek, defBody s_Line_peek, defScope s_Line_peek, [], []⟩
def d_Line_take : He5.DefA := ⟨(fun K => He.fAd K ("Line", some "take")), "take", "Line.take", defArgs s_Line_take, defBody s_Line_take, defScope s_Line_take, [], []⟩
def d_Line_expect : He5.DefA := ⟨(fun K => He.fAd K ("Line", some "expect")), "expect", "Line.expect", defArgs s_Line_expect, defBody s_Line_expect, defScope s_Line_expect, [], []⟩
def d_Line_take_name : He5.DefA := ⟨(fun K => He.fAd K ("Line", some "take_name")), "take_name", "Line.take_name", defArgs s_Line_take_name, defBody s_Line_take_name, defScope s_Line_take_name, [], []⟩
def d_Line_take_constant : He5.DefA := ⟨(fun K => He.fAd K ("Line", some "take_constant")), "take_constant", "Line.take_constant", defArgs s_Line_take_constant, defBody s_Line_take_constant, defScope s_Line_take_constant, [], []⟩
def d_Line_take_number : He5.DefA := ⟨(fun K => He.fAd K ("Line", some "take_number")), "take_number", "Line.take_number", defArgs s_Line_take_number, defBody s_Line_take_number, defScope s_Line_take_number, [], []⟩
def d_Line_take_class : He5.DefA := ⟨(fun K => He.fAd K ("Line", some "take_class")), "take_class", "Line.take_class", defArgs s_Line_take_class, defBody s_Line_take_class, defScope s_Line_take_class, [], []⟩
def d_Line_finish : He5.DefA := ⟨(fun K => He.fAd K ("Line", some "finish")), "finish", "Line.finish", defArgs s_Line_finish, defBody s_Line_finish, defScope s_Line_finish, [], []⟩
def d_Line_take_constants : He5.DefA := ⟨(fun K => He.fAd K ("Line", some "take_constants")), "take_constants", "Line.take_constants", defArgs s_Line_take_constants, defBody s_Line_take_constants, defScope s_Line_take_constants, [], []⟩
def d_Mentions_init : He5.DefA := ⟨(fun K => He.fAd K ("Mentions", some "__init__")), "__init__", "Mentions.__init__", defArgs s_Mentions_init, defBody s_Mentions_init, defScope s_Mentions_init, [], []⟩
def d_Mentions_add_call : He5.DefA := ⟨(fun K => He.fAd K ("Mentions", some "add_call")), "add_call", "Mentions.add_call", defArgs s_Mentions_add_call, defBody s_Mentions_add_call, defScope s_Mentions_add_call, [], []⟩
def d_Mentions_add_flag : He5.DefA := ⟨(fun K => He.fAd K ("Mentions", some "add_flag")), "add_flag", "Mentions.add_flag", defArgs s_Mentions_add_flag, defBody s_Mentions_add_flag, defScope s_Mentions_add_flag, [], []⟩
def d_Scope_init : He5.DefA := ⟨(fun K => He.fAd K ("Scope", some "__init__")), "__init__", "Scope.__init__", defArgs s_Scope_init, defBody s_Scope_init, defScope s_Scope_init, [], []⟩
def d_Scope_inner : He5.DefA := ⟨(fun K => He.fAd K ("Scope", some "inner")), "inner", "Scope.inner", defArgs s_Scope_inner, defBody s_Scope_inner, defScope s_Scope_inner, [.non], []⟩
def d_Scope_sees : He5.DefA := ⟨(fun K => He.fAd K ("Scope", some "sees")), "sees", "Scope.sees", defArgs s_Scope_sees, defBody s_Scope_sees, defScope s_Scope_sees, [], []⟩
def d_read_call : He5.DefA := ⟨(fun K => He.fAd K ("read_call", none)), "read_call", "read_call", defArgs s_read_call, defBody s_read_call, defScope s_read_call, [], []⟩
def d_call_behind : He5.DefA := ⟨(fun K => He.fAd K ("call_behind", none)), "call_behind", "call_behind", defArgs s_call_behind, defBody s_call_behind, defScope s_call_behind, [], []⟩
def d_read_thing : He5.DefA := ⟨(fun K => He.fAd K ("read_thing", none)), "read_thing", "read_thing", defArgs s_read_thing, defBody s_read_thing, defScope s_read_thing, [], []⟩
def d_read_subject : He5.DefA := ⟨(fun K => He.fAd K ("read_subject", none)), "read_subject", "read_subject", defArgs s_read_subject, defBody s_read_subject, defScope s_read_subject, [], []⟩
def d_read_comparison : He5.DefA := ⟨(fun K => He.fAd K ("read_comparison", none)), "read_comparison", "read_comparison", defArgs s_read_comparison, defBody s_read_comparison, defScope s_read_comparison, [], []⟩
def d_read_length : He5.DefA := ⟨(fun K => He.fAd K ("read_length", none)), "read_length", "read_length", defArgs s_read_length, defBody s_read_length, defScope s_read_length, [], []⟩
def d_read_atom : He5.DefA := ⟨(fun K => He.fAd K ("read_atom", none)), "read_atom", "read_atom", defArgs s_read_atom, defBody s_read_atom, defScope s_read_atom, [], []⟩
def d_read_part : He5.DefA := ⟨(fun K => He.fAd K ("read_part", none)), "read_part", "read_part", defArgs s_read_part, defBody s_read_part, defScope s_read_part, [], []⟩
def d_read_condition : He5.DefA := ⟨(fun K => He.fAd K ("read_condition", none)), "read_condition", "read_condition", defArgs s_read_condition, defBody s_read_condition, defScope s_read_condition, [], []⟩
def d_read_check : He5.DefA := ⟨(fun K => He.fAd K ("read_check", none)), "read_check", "read_check", defArgs s_read_check, defBody s_read_check, defScope s_read_check, [], []⟩
def d_read_let : He5.DefA := ⟨(fun K => He.fAd K ("read_let", none)), "read_let", "read_let", defArgs s_read_let, defBody s_read_let, defScope s_read_let, [], []⟩
def d_read_plain : He5.DefA := ⟨(fun K => He.fAd K ("read_plain", none)), "read_plain", "read_plain", defArgs s_read_plain, defBody s_read_plain, defScope s_read_plain, [], []⟩
def d_RowReader_init : He5.DefA := ⟨(fun K => He.fAd K ("RowReader", some "__init__")), "__init__", "RowReader.__init__", defArgs s_RowReader_init, defBody s_RowReader_init, defScope s_RowReader_init, [], []⟩
def d_RowReader_coming : He5.DefA := ⟨(fun K => He.fAd K ("RowReader", some "coming")), "coming", "RowReader.coming", defArgs s_RowReader_coming, defBody s_RowReader_coming, defScope s_RowReader_coming, [], []⟩
def d_RowReader_accept : He5.DefA := ⟨(fun K => He.fAd K ("RowReader", some "accept")), "accept", "RowReader.accept", defArgs s_RowReader_accept, defBody s_RowReader_accept, defScope s_RowReader_accept, [], []⟩
def d_RowReader_read_rows : He5.DefA := ⟨(fun K => He.fAd K ("RowReader", some "read_rows")), "read_rows", "RowReader.read_rows", defArgs s_RowReader_read_rows, defBody s_RowReader_read_rows, defScope s_RowReader_read_rows, [], []⟩
def d_RowReader_read_row : He5.DefA := ⟨(fun K => He.fAd K ("RowReader", some "read_row")), "read_row", "RowReader.read_row", defArgs s_RowReader_read_row, defBody s_RowReader_read_row, defScope s_RowReader_read_row, [], []⟩
def d_RowReader_read_block : He5.DefA := ⟨(fun K => He.fAd K ("RowReader", some "read_block")), "read_block", "RowReader.read_block", defArgs s_RowReader_read_block, defBody s_RowReader_read_block, defScope s_RowReader_read_block, [], []⟩
def d_RowReader_close : He5.DefA := ⟨(fun K => He.fAd K ("RowReader", some "close")), "close", "RowReader.close", defArgs s_RowReader_close, defBody s_RowReader_close, defScope s_RowReader_close, [], []⟩
def d_RowReader_read_else : He5.DefA := ⟨(fun K => He.fAd K ("RowReader", some "read_else")), "read_else", "RowReader.read_else", defArgs s_RowReader_read_else, defBody s_RowReader_read_else, defScope s_RowReader_read_else, [], []⟩
def d_RowReader_read_raises : He5.DefA := ⟨(fun K => He.fAd K ("RowReader", some "read_raises")), "read_raises", "RowReader.read_raises", defArgs s_RowReader_read_raises, defBody s_RowReader_read_raises, defScope s_RowReader_read_raises, [], []⟩
def d_RowReader_read_if : He5.DefA := ⟨(fun K => He.fAd K ("RowReader", some "read_if")), "read_if", "RowReader.read_if", defArgs s_RowReader_read_if, defBody s_RowReader_read_if, defScope s_RowReader_read_if, [], []⟩
def d_RowReader_read_try : He5.DefA := ⟨(fun K => He.fAd K ("RowReader", some "read_try")), "read_try", "RowReader.read_try", defArgs s_RowReader_read_try, defBody s_RowReader_read_try, defScope s_RowReader_read_try, [], []⟩
def d_RowReader_read_for : He5.DefA := ⟨(fun K => He.fAd K ("RowReader", some "read_for")), "read_for", "RowReader.read_for", defArgs s_RowReader_read_for, defBody s_RowReader_read_for, defScope s_RowReader_read_for, [], []⟩
def d_RowReader_read_whole : He5.DefA := ⟨(fun K => He.fAd K ("RowReader", some "read_whole")), "read_whole", "RowReader.read_whole", defArgs s_RowReader_read_whole, defBody s_RowReader_read_whole, defScope s_RowReader_read_whole, [], []⟩
def d_read_test : He5.DefA := ⟨(fun K => He.fAd K ("read_test", none)), "read_test", "read_test", defArgs s_read_test, defBody s_read_test, defScope s_read_test, [], []⟩
def d_read_first : He5.DefA := ⟨(fun K => He.fAd K ("read_first", none)), "read_first", "read_first", defArgs s_read_first, defBody s_read_first, defScope s_read_first, [], []⟩
def d_Test_init : He5.DefA := ⟨(fun K => He.fAd K ("Test", some "__init__")), "__init__", "Test.__init__", defArgs s_Test_init, defBody s_Test_init, defScope s_Test_init, [], []⟩
def d_Test_read : He5.DefA := ⟨(fun K => He5.wf K (He.ga K "Test") "classmethod" "read"), "read", "Test.read", defArgs s_Test_read, defBody s_Test_read, defScope s_Test_read, [], []⟩
def d__law_take : He5.DefA := ⟨(fun K => He.fAd K ("_law_take", none)), "_law_take", "_law_take", defArgs s__law_take, defBody s__law_take, defScope s__law_take, [], []⟩
def d__law_of : He5.DefA := ⟨(fun K => He.fAd K ("_law_of", none)), "_law_of", "_law_of", defArgs s__law_of, defBody s__law_of, defScope s__law_of, [], []⟩
def d__law_bag : He5.DefA := ⟨(fun K => He.fAd K ("_law_bag", none)), "_law_bag", "_law_bag", defArgs s__law_bag, defBody s__law_bag, defScope s__law_bag, [], []⟩
def d__law_number : He5.DefA := ⟨(fun K => He.fAd K ("_law_number", none)), "_law_number", "_law_number", defArgs s__law_number, defBody s__law_number, defScope s__law_number, [], []⟩
def d__law_word : He5.DefA := ⟨(fun K => He.fAd K ("_law_word", none)), "_law_word", "_law_word", defArgs s__law_word, defBody s__law_word, defScope s__law_word, [], []⟩
def d__law_any_constant : He5.DefA := ⟨(fun K => He.fAd K ("_law_any_constant", none)), "_law_any_constant", "_law_any_constant", defArgs s__law_any_constant, defBody s__law_any_constant, defScope s__law_any_constant, [], []⟩
def d__law_written : He5.DefA := ⟨(fun K => He.fAd K ("_law_written", none)), "_law_written", "_law_written", defArgs s__law_written, defBody s__law_written, defScope s__law_written, [], []⟩
def d__law_call_text : He5.DefA := ⟨(fun K => He.fAd K ("_law_call_text", none)), "_law_call_text", "_law_call_text", defArgs s__law_call_text, defBody s__law_call_text, defScope s__law_call_text, [], []⟩
def d__law_keywords : He5.DefA := ⟨(fun K => He.fAd K ("_law_keywords", none)), "_law_keywords", "_law_keywords", defArgs s__law_keywords, defBody s__law_keywords, defScope s__law_keywords, [], []⟩
def d__law_any_name : He5.DefA := ⟨(fun K => He.fAd K ("_law_any_name", none)), "_law_any_name", "_law_any_name", defArgs s__law_any_name, defBody s__law_any_name, defScope s__law_any_name, [], []⟩
def d__law_any_call : He5.DefA := ⟨(fun K => He.fAd K ("_law_any_call", none)), "_law_any_call", "_law_any_call", defArgs s__law_any_call, defBody s__law_any_call, defScope s__law_any_call, [], []⟩
def d__law_refused : He5.DefA := ⟨(fun K => He.fAd K ("_law_refused", none)), "_law_refused", "_law_refused", defArgs s__law_refused, defBody s__law_refused, defScope s__law_refused, [], []⟩
def d__law_line : He5.DefA := ⟨(fun K => He.fAd K ("_law_line", none)), "_law_line", "_law_line", defArgs s__law_line, defBody s__law_line, defScope s__law_line, [], []⟩
def d__law_seen : He5.DefA := ⟨(fun K => He.fAd K ("_law_seen", none)), "_law_seen", "_law_seen", defArgs s__law_seen, defBody s__law_seen, defScope s__law_seen, [], []⟩
def d__law_mentions : He5.DefA := ⟨(fun K => He.fAd K ("_law_mentions", none)), "_law_mentions", "_law_mentions", defArgs s__law_mentions, defBody s__law_mentions, defScope s__law_mentions, [], []⟩
def d__law_stands : He5.DefA := ⟨(fun K => He.fAd K ("_law_stands", none)), "_law_stands", "_law_stands", defArgs s__law_stands, defBody s__law_stands, defScope s__law_stands, [], []⟩
def d__law_after : He5.DefA := ⟨(fun K => He.fAd K ("_law_after", none)), "_law_after", "_law_after", defArgs s__law_after, defBody s__law_after, defScope s__law_after, [], []⟩
def d_law : He5.DefA := ⟨(fun K => He.fAd K ("law", none)), "law", "law", defArgs s_law, defBody s_law, defScope s_law, [], []⟩
def fn0 : List He5.DefA := [d_Family_init, d_Family_contains, d_Family_plain, d_is_number, d_is_word, d_is_name, d_is_constant, d_constant_text, d_is_number_text, d_is_constant_text]
def fn1 : List He5.DefA := [d_call_text, d_run_of, d_token_at, d_tokens_of, d_is_tight, d_spaced, d_value_of, d_Line_init, d_Line_peek, d_Line_take]
def fn2 : List He5.DefA := [d_Line_expect, d_Line_take_name, d_Line_take_constant, d_Line_take_number, d_Line_take_class, d_Line_finish, d_Line_take_constants, d_Mentions_init, d_Mentions_add_call, d_Mentions_add_flag]
def fn3 : List He5.DefA := [d_Scope_init, d_Scope_inner, d_Scope_sees, d_read_call, d_call_behind, d_read_thing, d_read_subject, d_read_comparison, d_read_length, d_read_atom]
def fn4 : List He5.DefA := [d_read_part, d_read_condition, d_read_check, d_read_let, d_read_plain, d_RowReader_init, d_RowReader_coming, d_RowReader_accept, d_RowReader_read_rows, d_RowReader_read_row]
def fn5 : List He5.DefA := [d_RowReader_read_block, d_RowReader_close, d_RowReader_read_else, d_RowReader_read_raises, d_RowReader_read_if, d_RowReader_read_try, d_RowReader_read_for, d_RowReader_read_whole, d_read_test, d_read_first]
def fn6 : List He5.DefA := [d_Test_init, d_Test_read, d__law_take, d__law_of, d__law_bag, d__law_number, d__law_word, d__law_any_constant, d__law_written, d__law_call_text]
def fn7 : List He5.DefA := [d__law_keywords, d__law_any_name, d__law_any_call, d__law_refused, d__law_line, d__law_seen, d__law_mentions, d__law_stands, d__law_after, d_law]
def fns : List (List He5.DefA) := [fn0, fn1, fn2, fn3, fn4, fn5, fn6, fn7]
def fa0 : List He.Fa := [.glo "BadTest", .glo "BUILT_IN", .glo "Family", .glo "is_number", .glo "is_word", .glo "KEYWORDS", .glo "is_name", .glo "is_constant", .glo "constant_text", .glo "is_number_text"]
def fa1 : List He.Fa := [.glo "is_constant_text", .glo "call_text", .glo "DOUBLES", .glo "SINGLES", .glo "Misread", .glo "run_of", .glo "token_at", .glo "tokens_of", .glo "is_tight", .glo "spaced"]
def fa2 : List He.Fa := [.glo "value_of", .glo "Line", .glo "SIGNS", .glo "KINDS", .glo "Mentions", .glo "Scope", .glo "read_call", .glo "call_behind", .glo "read_thing", .glo "read_subject"]
def fa3 : List He.Fa := [.glo "read_comparison", .glo "read_length", .glo "read_atom", .glo "read_part", .glo "read_condition", .glo "ALONE", .glo "LEAVING", .glo "BLOCKS", .glo "CLOSING", .glo "BadLine"]
def fa4 : List He.Fa := [.glo "read_check", .glo "read_let", .glo "read_plain", .glo "RowReader", .glo "read_test", .glo "read_first", .glo "Test", .glo "_law_take", .glo "_law_of", .glo "_law_bag"]
def fa5 : List He.Fa := [.glo "_law_number", .glo "_law_word", .glo "_law_any_constant", .glo "_law_written", .glo "_law_call_text", .glo "_law_keywords", .glo "_law_any_name", .glo "_law_any_call", .glo "_law_refused", .glo "_law_line"]
def fa6 : List He.Fa := [.glo "_law_seen", .glo "_law_mentions", .glo "_law_stands", .glo "_law_after", .glo "law", .free "isinstance", .free "str", .free "len", .free "all", .free "int"]
def fa7 : List He.Fa := [.free "bool", .free "tuple", .free "list", .free "dict", .free "enumerate", .free "abs", .free "sum", .free "sorted", .free "range", .free "max"]
def fa8 : List He.Fa := [.free "min", .free "super", .int "MOST_ATOMS" 6, .int "MOST_FLAGS" 3, .int "MOST_LINES" 40, .int "MOST_DEEP" 6, .str "SMALL" "abcdefghijklmnopqrstuvwxyz", .str "CAPITALS" "ABCDEFGHIJKLMNOPQRSTUVWXYZ", .str "DIGITS" "0123456789", .cls "Family"]
def fa9 : List He.Fa := [.cls "Line", .cls "Mentions", .cls "Scope", .cls "RowReader", .cls "Test", .noat "Family" "parents", .noat "Family" "declared", .noat "Line" "words", .noat "Line" "taken", .noat "Mentions" "family"]
def fa10 : List He.Fa := [.noat "Mentions" "called", .noat "Mentions" "flags", .noat "Mentions" "checked", .noat "Scope" "mentions", .noat "Scope" "given", .noat "Scope" "item", .noat "RowReader" "lines", .noat "RowReader" "at", .noat "RowReader" "mentions", .noat "RowReader" "written"]
def fa11 : List He.Fa := [.noat "Test" "name", .noat "Test" "body", .noat "Test" "family", .noat "Test" "flags", .noat "Test" "called", .noat "Test" "checked", .noat "Test" "lines", .meth "Family" "__contains__", .meth "Line" "peek", .meth "Line" "take"]
def fa12 : List He.Fa := [.meth "Line" "expect", .meth "Line" "take_name", .meth "Line" "take_constant", .meth "Line" "take_number", .meth "Line" "take_class", .meth "Line" "finish", .meth "Line" "take_constants", .meth "Mentions" "add_call", .meth "Mentions" "add_flag", .meth "Scope" "inner"]
def fa13 : List He.Fa := [.meth "Scope" "sees", .meth "RowReader" "coming", .meth "RowReader" "accept", .meth "RowReader" "read_rows", .meth "RowReader" "read_row", .meth "RowReader" "read_block", .meth "RowReader" "close", .meth "RowReader" "read_else", .meth "RowReader" "read_raises", .meth "RowReader" "read_if"]
def fa14 : List He.Fa := [.meth "RowReader" "read_try", .meth "RowReader" "read_for", .meth "RowReader" "read_whole", .mkr "Family", .mkr "Line", .mkr "Mentions", .mkr "Scope", .mkr "RowReader", .mkr "Test", .exc "Misread"]
def fa15 : List He.Fa := [.exm "Misread" "Misread" true]
def fas : List (List He.Fa) := [fa0, fa1, fa2, fa3, fa4, fa5, fa6, fa7, fa8, fa9, fa10, fa11, fa12, fa13, fa14, fa15]
def loose0 : List PySem.Str := ["_wall", "WhatpassesError", "BadFamily", "BadCall", "BadTest", "NoClass", "SMALL", "CAPITALS", "BUILT_IN", "is_class_name"]
def loose1 : List PySem.Str := ["fits", "Family", "is_number", "is_word", "DIGITS", "KEYWORDS", "is_name", "is_constant", "constant_text", "is_number_text"]
def loose2 : List PySem.Str := ["is_constant_text", "call_text", "DOUBLES", "SINGLES", "Misread", "run_of", "token_at", "tokens_of", "is_tight", "spaced"]
def loose3 : List PySem.Str := ["value_of", "Line", "SIGNS", "KINDS", "MOST_ATOMS", "MOST_FLAGS", "Mentions", "Scope", "read_call", "call_behind"]
def loose4 : List PySem.Str := ["read_thing", "read_subject", "read_comparison", "read_length", "read_atom", "read_part", "read_condition", "MOST_LINES", "MOST_DEEP", "ALONE"]
def loose5 : List PySem.Str := ["LEAVING", "BLOCKS", "CLOSING", "BadLine", "read_check", "read_let", "read_plain", "RowReader", "read_test", "read_first"]
def loose6 : List PySem.Str := ["Test", "_law_take", "_law_of", "_law_bag", "_law_number", "_law_word", "_law_any_constant", "_law_written", "_law_call_text", "_law_keywords"]
def loose7 : List PySem.Str := ["_law_any_name", "_law_any_call", "_law_refused", "_law_line", "_law_seen", "_law_mentions", "_law_stands", "_law_after"]
def loose : List PySem.Str := loose0 ++ loose1 ++ loose2 ++ loose3 ++ loose4 ++ loose5 ++ loose6 ++ loose7
def v_KEYWORDS : List Str := (["and", "assert", "assume", "break", "call", "clear", "continue", "else", "end", "error", "except", "fail"] : List Str) ++ (["for", "from", "if", "in", "is", "len", "let", "list", "none", "not", "number", "on"] : List Str) ++ (["or", "pass", "raises", "return", "set", "skip", "test", "try", "under", "word"] : List Str)
def v_DOUBLES : List Str := ["==", "!=", "<=", ">="]
def v_SINGLES : List Str := ["(", ")", "[", "]", ",", "=", "<", ">"]
def v_SIGNS : List Str := ["==", "!=", "<", "<=", ">", ">="]
def v_KINDS : List Str := ["none", "number", "word", "list"]
def v_ALONE : List Str := ["pass", "fail", "return", "skip"]
def v_LEAVING : List Str := ["break", "continue"]
def v_BLOCKS : List Str := ["raises", "if", "try", "for"]
def v_CLOSING : List Str := ["end", "else", "except"]
def tabs : List (Str × List Str) := [("KEYWORDS", v_KEYWORDS), ("DOUBLES", v_DOUBLES), ("SINGLES", v_SINGLES), ("SIGNS", v_SIGNS), ("KINDS", v_KINDS), ("ALONE", v_ALONE), ("LEAVING", v_LEAVING), ("BLOCKS", v_BLOCKS), ("CLOSING", v_CLOSING)]
/-! ### the two own errors -/
/-- a class's record: an own error class over ValueError, its own or its base's maker -/
def supCls (K : PySem.W.Frag) (C : Addr) : Bool := match K.lookup C with
  | some ⟨.type t, _, .cls cd, sl⟩ => (match cd.mro, sl.toList with
    | .ref D :: bm, [_, _, _, _, some (.builtin n), _] => decide (t = "type") && decide (D = C) && (decide (n = "ValueError.__new__") && (!cd.hasDel && (PySem.HandSPX.refsVE bm && cd.hasDict)))
    | _, _ => false)
  | _ => false
theorem supCls_ok {K : PySem.W.Frag} {C : Addr} (h : supCls K C = true) : ∃ nm q N bs bm sn sub ab col dd k0 k1 k2 k3 k5, K.lookup C = some (excClassObj nm q C N bs bm true sn sub ab col dd k0 k1 k2 k3 k5 "ValueError.__new__") ∧ PySem.HandSPX.refsVE bm = true := by
  unfold supCls at h
  split at h
  · rename_i t dd cd sl e
    split at h
    · rename_i D bm k0 k1 k2 k3 n k5 em es
      obtain ⟨g0, g⟩ := He.ba h
      obtain ⟨ht, h1⟩ := He.ba g0
      obtain ⟨h2, g2⟩ := He.ba g
      obtain ⟨h3, g3⟩ := He.ba g2
      obtain ⟨h4, h5⟩ := He.ba g3
      clear h g0 g g2 g3
      replace ht := of_decide_eq_true ht
      replace h1 := of_decide_eq_true h1
      replace h2 := of_decide_eq_true h2
      subst ht h1 h2
      obtain ⟨nm, bs, mro, ns, qn, hd, sn, sub, ab, col, del⟩ := cd
      dsimp only at em h3 h5
      subst em h5
      have hdel : del = false := by
        cases del
        · rfl
        · cases h3
      subst hdel
      have hsl : sl = #[k0, k1, k2, k3, some (.builtin "ValueError.__new__"), k5] := by
        obtain ⟨l⟩ := sl
        have es2 : l = [k0, k1, k2, k3, some (.builtin "ValueError.__new__"), k5] := es
        rw [es2]
      subst hsl
      exact ⟨nm, qn, ns, bs, bm, sn, sub, ab, col, dd, k0, k1, k2, k3, k5, e, h4⟩
    · cases h
  · cases h
abbrev SupV : Type := Option (Str × Arguments × FuncBody × Scope)
def supObs (K : PySem.W.Frag) (f : Addr) : SupV := match K.lookup f with
  | some ⟨_, _, .func fd, _⟩ => some (fd.name, fd.params, fd.body, fd.scope)
  | _ => none
def supF (K : PySem.W.Frag) (x : Str) : Addr := He.ma K (He.ga K x) "__init__"
/-- the def's own parts that are compared by value: closure, code object, cell -/
def supFn (K : PySem.W.Frag) (C f : Addr) : Bool := match K.lookup f with
  | some ⟨_, _, .func fd, _⟩ => (match fd.closure, fd.code with
    | [(nm, cc)], .ref cda => decide (nm = ("__class__" : Str)) && (decide (fd.defaults = .none) && (decide (fd.globals = mainGlobals) && (decide (fd.builtins = builtinsNs) && (PySem.W.codeIn K fd.code fd.qualname &&
        ((match K.lookup cda with
          | some ⟨_, _, .fields vs, _⟩ => (match (vs[2]? : Option Value) with
            | some (.str file _) => ((PW.main.file : Str) == file)
            | _ => false)
          | _ => false) && (match K.lookup cc with
          | some ⟨_, _, .cell (some (.ref D)), _⟩ => decide (D = C)
          | _ => false))))))
    | _, _ => false)
  | _ => false
def oB (a b : Option (Option Value)) : Bool := decide (a = b)
/-- all of it, of the class x -/
def supB (K : PySem.W.Frag) (x : Str) : Bool :=
  He.eqO (PySem.W.nsIn K mainGlobals x) (some (some (.ref (He.ga K x)))) && (supCls K (He.ga K x) && (He.eqO (PySem.W.findIn K (.ref (He.ga K x)) "__setattr__") (some (some (.builtin "object.__setattr__"))) &&
  (He.eqO (PySem.W.findIn K (.ref (He.ga K x)) "__getattribute__") (some (some (.builtin "BaseException.__getattribute__"))) && (He.eqO (PySem.W.findIn K (.ref (He.ga K x)) "__getattr__") (some none) &&
  (He.eqO (PySem.W.findIn K (.ref (He.ga K x)) "at") (some none) && (He.eqO (PySem.W.findIn K (.ref (He.ga K x)) "__init__") (some (some (.ref (supF K x)))) && (decide (PySem.W.typeIn K (.ref (supF K x)) = some (.type "function")) &&
  (PySem.W.keepIn K (.ref (He.ga K x)) && (decide (PySem.W.subIn K (.ref (He.ga K x)) (.type "BaseException") = some true) && (decide (PySem.W.subIn K (.ref (He.ga K x)) (.type "ValueError") = some true) &&
  (decide (PySem.W.typeIn K (.ref (He.ga K x)) = some (.type "type")) && (PySem.W.hasDictIn K (He.ga K x) && (decide (PySem.W.exmOne K (.ref (He.ga K x)) (.ref (He.ga K x)) = some true) &&
  (He.eqO (PySem.W.nsIn K cStatics "thirdparty.any") (some none) && (decide (PySem.W.ks_superIn K (He.ga K x) (He.ga K x) "__init__" = some (some (.builtin "ValueError.__init__"))) &&
  (decide (PySem.W.mroIn K (He.ga K x) (.ref (He.ga K x)) = some true) && (He.eqO (PySem.W.nsIn K mainGlobals "super") (some none) && supFn K (He.ga K x) (supF K x))))))))))))))))))
/-! ### static and class methods, the written tuples -/
def bltIn (K : PySem.W.Frag) (i : Nat) : Addr := match K.lookup (He.ga K "BUILT_IN") with
  | some ⟨_, _, .seq its _, _⟩ => (match its.toList[i]? with
    | some (.ref a) => a
    | _ => 0)
  | _ => 0
def tupAt (K : PySem.W.Frag) (a : Addr) (vs : List V) : Bool := match K.lookup a with
  | some ⟨.type c, _, .seq its _, _⟩ => decide (c = "tuple") && (decide (its.size ≤ sizeLine) && He.relAll vs its.toList)
  | _ => false
theorem tupAt_ok {K : PySem.W.Frag} {a : Addr} {vs : List V} (h : tupAt K a vs = true) (H : Hp) : SqT K H a vs := by
  unfold tupAt at h
  split at h
  · rename_i c od its n sl e
    obtain ⟨h1, h2⟩ := He.ba h
    obtain ⟨h3, h4⟩ := He.ba h2
    exact .inr ⟨_, its, n, e, congrArg Value.type (of_decide_eq_true h1), rfl, of_decide_eq_true h3, He.relAll_ok h4⟩
  · cases h
def readB (K : PySem.W.Frag) (x : Str) : Bool := PySem.W.readsIn K (He.ga K x) (.type "type") && He.eqO (PySem.W.specialIn K (.ref (He.ga K x)) "__getattribute__") (some (some (.builtin "type.__getattribute__")))
/-- no dict of its own -/
def plnB (K : PySem.W.Frag) (x : Str) : Bool := match K.lookup (He.ga K x) with
  | some ⟨_, od, .seq _ _, _⟩ => od.isNone
  | _ => false
def extB (K : PySem.W.Frag) : Bool :=
  tabs.all (fun p => He.tupB K p.1 (p.2.map He.Dv.str)) && (supB K "BadLine" && (supB K "BadTest" && (readB K "Family" && (readB K "Test" &&
  (He5.wrapB K (He.ga K "Family") "staticmethod" "staticmethod.__get__" "plain" && (He5.wrapB K (He.ga K "Test") "classmethod" "classmethod.__get__" "read" && (PySem.W.fnIn K (d_Test_read.at_ K) && (PySem.W.keepIn K (.ref (d_Family_plain.at_ K)) &&
  (PySem.W.handedIn (.ref (d_Family_plain.at_ K)) &&
  (tupAt K (He.ga K "BUILT_IN") [.ref (bltIn K 0), .ref (bltIn K 1), .ref (bltIn K 2), .ref (bltIn K 3)] && (tupAt K (bltIn K 0) [.str "Error", .non] && (tupAt K (bltIn K 1) [.str "Failed", .str "Error"] &&
  (tupAt K (bltIn K 2) [.str "Misuse", .str "Error"] && (tupAt K (bltIn K 3) [.str "Beyond", .str "Misuse"] && (PySem.W.makesIn K (He.ga K "Test") && plnB K "BUILT_IN")))))))))))))))
/-! ### what is observed of the top -/
def facB (K : PySem.W.Frag) : Bool := fas.all fun l => l.all fun f => f.ok K
def okB (K : PySem.W.Frag) : Bool := fns.all fun l => l.all fun d => d.ok K
def fnV (K : PySem.W.Frag) : List (List He5.FnW) := fns.map fun l => l.map fun d => He5.fnA K (d.at_ K)
def supV (K : PySem.W.Frag) : List SupV := [supObs K (supF K "BadLine"), supObs K (supF K "BadTest")]
def supW : List SupV := [some ("__init__", defArgs s_BadLine_init, .stmts (defBody s_BadLine_init), defScope s_BadLine_init), some ("__init__", defArgs s_BadTest_init, .stmts (defBody s_BadTest_init), defScope s_BadTest_init)]
structure SaysW (K : PySem.W.Frag) : Prop where
  fac : facB K = true
  ok : okB K = true
  ext : extB K = true
  fnv : fnV K = fns.map fun l => l.map He5.DefA.val
  sup : supV K = supW
structure TT (K : PySem.W.Frag) (mg : Str → Option Value) : Prop where
  says : SaysW K
  at_ : ∃ h : Heap, K.In h ∧ h.Ns mainGlobals mg
section
variable {K : PySem.W.Frag} {mg : Str → Option Value}
theorem TT.fact (T : TT K mg) (i j : Nat) {l : List He.Fa} {f : He.Fa} (h1 : fas[i]? = some l) (h2 : l[j]? = some f) : f.ok K = true :=
  List.all_eq_true.mp (List.all_eq_true.mp T.says.fac l (List.mem_of_getElem? h1)) f (List.mem_of_getElem? h2)
theorem TT.def_ (T : TT K mg) (i j : Nat) {l : List He5.DefA} {d : He5.DefA} (h1 : fns[i]? = some l) (h2 : l[j]? = some d) : ∃ fd, FunD K d.name d.qual d.params d.body d.scope (d.dvs K) (d.kws K) (d.at_ K) fd := by
  have c := List.all_eq_true.mp (List.all_eq_true.mp T.says.ok l (List.mem_of_getElem? h1)) d (List.mem_of_getElem? h2)
  have e : (fns.map fun l => l.map fun d => He5.fnA K (d.at_ K))[i]? = (fns.map fun l => l.map He5.DefA.val)[i]? := congrArg (fun z => z[i]?) T.says.fnv
  rw [List.getElem?_map, List.getElem?_map, h1] at e
  have e2 : (l.map fun d => He5.fnA K (d.at_ K))[j]? = (l.map He5.DefA.val)[j]? := congrArg (fun z => z[j]?) (Option.some.inj e)
  rw [List.getElem?_map, List.getElem?_map, h2] at e2
  exact He5.DefA.funD (Option.some.inj e2) c
theorem TT.tups (T : TT K mg) (p : Str × List Str) (h : p ∈ tabs) : He.tupB K p.1 (p.2.map He.Dv.str) = true := List.all_eq_true.mp (He.ba T.says.ext).1 p h

theorem t_KEYWORDS (T : TT K mg) (H : Hp) : SqT K H (He.ga K "KEYWORDS") (v_KEYWORDS.map V.str) := by
  have h := He.tupB_ok (T.tups ("KEYWORDS", v_KEYWORDS) (by simp [tabs])) H
  rw [List.map_map] at h
  exact h
theorem t_DOUBLES (T : TT K mg) (H : Hp) : SqT K H (He.ga K "DOUBLES") (v_DOUBLES.map V.str) := by
  have h := He.tupB_ok (T.tups ("DOUBLES", v_DOUBLES) (by simp [tabs])) H
  rw [List.map_map] at h
  exact h
theorem t_SINGLES (T : TT K mg) (H : Hp) : SqT K H (He.ga K "SINGLES") (v_SINGLES.map V.str) := by
  have h := He.tupB_ok (T.tups ("SINGLES", v_SINGLES) (by simp [tabs])) H
  rw [List.map_map] at h
  exact h
theorem t_SIGNS (T : TT K mg) (H : Hp) : SqT K H (He.ga K "SIGNS") (v_SIGNS.map V.str) := by
  have h := He.tupB_ok (T.tups ("SIGNS", v_SIGNS) (by simp [tabs])) H
  rw [List.map_map] at h
  exact h
theorem t_KINDS (T : TT K mg) (H : Hp) : SqT K H (He.ga K "KINDS") (v_KINDS.map V.str) := by
  have h := He.tupB_ok (T.tups ("KINDS", v_KINDS) (by simp [tabs])) H
  rw [List.map_map] at h
  exact h
theorem t_ALONE (T : TT K mg) (H : Hp) : SqT K H (He.ga K "ALONE") (v_ALONE.map V.str) := by
  have h := He.tupB_ok (T.tups ("ALONE", v_ALONE) (by simp [tabs])) H
  rw [List.map_map] at h
  exact h
theorem t_LEAVING (T : TT K mg) (H : Hp) : SqT K H (He.ga K "LEAVING") (v_LEAVING.map V.str) := by
  have h := He.tupB_ok (T.tups ("LEAVING", v_LEAVING) (by simp [tabs])) H
  rw [List.map_map] at h
  exact h
theorem t_BLOCKS (T : TT K mg) (H : Hp) : SqT K H (He.ga K "BLOCKS") (v_BLOCKS.map V.str) := by
  have h := He.tupB_ok (T.tups ("BLOCKS", v_BLOCKS) (by simp [tabs])) H
  rw [List.map_map] at h
  exact h
theorem t_CLOSING (T : TT K mg) (H : Hp) : SqT K H (He.ga K "CLOSING") (v_CLOSING.map V.str) := by
  have h := He.tupB_ok (T.tups ("CLOSING", v_CLOSING) (by simp [tabs])) H
  rw [List.map_map] at h
  exact h
theorem g_BadTest (T : TT K mg) : mg "BadTest" = some (.ref (He.ga K "BadTest")) := by
  obtain ⟨h, X, G⟩ := T.at_
  have c := T.fact 0 0 (f := .glo "BadTest") rfl rfl
  exact He.glo_ok X G c
theorem g_BUILT_IN (T : TT K mg) : mg "BUILT_IN" = some (.ref (He.ga K "BUILT_IN")) := by
  obtain ⟨h, X, G⟩ := T.at_
  have c := T.fact 0 1 (f := .glo "BUILT_IN") rfl rfl
  exact He.glo_ok X G c
theorem g_Family (T : TT K mg) : mg "Family" = some (.ref (He.ga K "Family")) := by
  obtain ⟨h, X, G⟩ := T.at_
  have c := T.fact 0 2 (f := .glo "Family") rfl rfl
  exact He.glo_ok X G c
theorem g_is_number (T : TT K mg) : mg "is_number" = some (.ref (He.ga K "is_number")) := by
  obtain ⟨h, X, G⟩ := T.at_
  have c := T.fact 0 3 (f := .glo "is_number") rfl rfl
  exact He.glo_ok X G c
theorem g_is_word (T : TT K mg) : mg "is_word" = some (.ref (He.ga K "is_word")) := by
  obtain ⟨h, X, G⟩ := T.at_
  have c := T.fact 0 4 (f := .glo "is_word") rfl rfl
  exact He.glo_ok X G c
theorem g_KEYWORDS (T : TT K mg) : mg "KEYWORDS" = some (.ref (He.ga K "KEYWORDS")) := by
  obtain ⟨h, X, G⟩ := T.at_
  have c := T.fact 0 5 (f := .glo "KEYWORDS") rfl rfl
  exact He.glo_ok X G c
theorem g_is_name (T : TT K mg) : mg "is_name" = some (.ref (He.ga K "is_name")) := by
  obtain ⟨h, X, G⟩ := T.at_
  have c := T.fact 0 6 (f := .glo "is_name") rfl rfl
  exact He.glo_ok X G c
theorem g_is_constant (T : TT K mg) : mg "is_constant" = some (.ref (He.ga K "is_constant")) := by
  obtain ⟨h, X, G⟩ := T.at_
  have c := T.fact 0 7 (f := .glo "is_constant") rfl rfl
  exact He.glo_ok X G c
theorem g_constant_text (T : TT K mg) : mg "constant_text" = some (.ref (He.ga K "constant_text")) := by
  obtain ⟨h, X, G⟩ := T.at_
  have c := T.fact 0 8 (f := .glo "constant_text") rfl rfl
  exact He.glo_ok X G c
theorem g_is_number_text (T : TT K mg) : mg "is_number_text" = some (.ref (He.ga K "is_number_text")) := by
  obtain ⟨h, X, G⟩ := T.at_
  have c := T.fact 0 9 (f := .glo "is_number_text") rfl rfl
  exact He.glo_ok X G c
theorem g_is_constant_text (T : TT K mg) : mg "is_constant_text" = some (.ref (He.ga K "is_constant_text")) := by
  obtain ⟨h, X, G⟩ := T.at_
  have c := T.fact 1 0 (f := .glo "is_constant_text") rfl rfl
  exact He.glo_ok X G c
theorem g_call_text (T : TT K mg) : mg "call_text" = some (.ref (He.ga K "call_text")) := by
  obtain ⟨h, X, G⟩ := T.at_
  have c := T.fact 1 1 (f := .glo "call_text") rfl rfl
  exact He.glo_ok X G c
theorem g_DOUBLES (T : TT K mg) : mg "DOUBLES" = some (.ref (He.ga K "DOUBLES")) := by
  obtain ⟨h, X, G⟩ := T.at_
  have c := T.fact 1 2 (f := .glo "DOUBLES") rfl rfl
  exact He.glo_ok X G c
theorem g_SINGLES (T : TT K mg) : mg "SINGLES" = some (.ref (He.ga K "SINGLES")) := by
  obtain ⟨h, X, G⟩ := T.at_
  have c := T.fact 1 3 (f := .glo "SINGLES") rfl rfl
  exact He.glo_ok X G c
theorem g_Misread (T : TT K mg) : mg "Misread" = some (.ref (He.ga K "Misread")) := by
  obtain ⟨h, X, G⟩ := T.at_
  have c := T.fact 1 4 (f := .glo "Misread") rfl rfl
  exact He.glo_ok X G c
theorem g_run_of (T : TT K mg) : mg "run_of" = some (.ref (He.ga K "run_of")) := by
  obtain ⟨h, X, G⟩ := T.at_
  have c := T.fact 1 5 (f := .glo "run_of") rfl rfl
  exact He.glo_ok X G c
theorem g_token_at (T : TT K mg) : mg "token_at" = some (.ref (He.ga K "token_at")) := by
  obtain ⟨h, X, G⟩ := T.at_
  have c := T.fact 1 6 (f := .glo "token_at") rfl rfl
  exact He.glo_ok X G c
theorem g_tokens_of (T : TT K mg) : mg "tokens_of" = some (.ref (He.ga K "tokens_of")) := by
  obtain ⟨h, X, G⟩ := T.at_
  have c := T.fact 1 7 (f := .glo "tokens_of") rfl rfl
  exact He.glo_ok X G c
theorem g_is_tight (T : TT K mg) : mg "is_tight" = some (.ref (He.ga K "is_tight")) := by
  obtain ⟨h, X, G⟩ := T.at_
  have c := T.fact 1 8 (f := .glo "is_tight") rfl rfl
  exact He.glo_ok X G c
theorem g_spaced (T : TT K mg) : mg "spaced" = some (.ref (He.ga K "spaced")) := by
  obtain ⟨h, X, G⟩ := T.at_
  have c := T.fact 1 9 (f := .glo "spaced") rfl rfl
  exact He.glo_ok X G c
theorem g_value_of (T : TT K mg) : mg "value_of" = some (.ref (He.ga K "value_of")) := by
  obtain ⟨h, X, G⟩ := T.at_
  have c := T.fact 2 0 (f := .glo "value_of") rfl rfl
  exact He.glo_ok X G c
theorem g_Line (T : TT K mg) : mg "Line" = some (.ref (He.ga K "Line")) := by
  obtain ⟨h, X, G⟩ := T.at_
  have c := T.fact 2 1 (f := .glo "Line") rfl rfl
  exact He.glo_ok X G c
theorem g_SIGNS (T : TT K mg) : mg "SIGNS" = some (.ref (He.ga K "SIGNS")) := by
  obtain ⟨h, X, G⟩ := T.at_
  have c := T.fact 2 2 (f := .glo "SIGNS") rfl rfl
  exact He.glo_ok X G c
theorem g_KINDS (T : TT K mg) : mg "KINDS" = some (.ref (He.ga K "KINDS")) := by
  obtain ⟨h, X, G⟩ := T.at_
  have c := T.fact 2 3 (f := .glo "KINDS") rfl rfl
  exact He.glo_ok X G c
theorem g_Mentions (T : TT K mg) : mg "Mentions" = some (.ref (He.ga K "Mentions")) := by
  obtain ⟨h, X, G⟩ := T.at_
  have c := T.fact 2 4 (f := .glo "Mentions") rfl rfl
  exact He.glo_ok X G c
theorem g_Scope (T : TT K mg) : mg "Scope" = some (.ref (He.ga K "Scope")) := by
  obtain ⟨h, X, G⟩ := T.at_
  have c := T.fact 2 5 (f := .glo "Scope") rfl rfl
  exact He.glo_ok X G c
theorem g_read_call (T : TT K mg) : mg "read_call" = some (.ref (He.ga K "read_call")) := by
  obtain ⟨h, X, G⟩ := T.at_
  have c := T.fact 2 6 (f := .glo "read_call") rfl rfl
  exact He.glo_ok X G c
theorem g_call_behind (T : TT K mg) : mg "call_behind" = some (.ref (He.ga K "call_behind")) := by
  obtain ⟨h, X, G⟩ := T.at_
  have c := T.fact 2 7 (f := .glo "call_behind") rfl rfl
  exact He.glo_ok X G c
theorem g_read_thing (T : TT K mg) : mg "read_thing" = some (.ref (He.ga K "read_thing")) := by
  obtain ⟨h, X, G⟩ := T.at_
  have c := T.fact 2 8 (f := .glo "read_thing") rfl rfl
  exact He.glo_ok X G c
theorem g_read_subject (T : TT K mg) : mg "read_subject" = some (.ref (He.ga K "read_subject")) := by
  obtain ⟨h, X, G⟩ := T.at_
  have c := T.fact 2 9 (f := .glo "read_subject") rfl rfl
  exact He.glo_ok X G c
theorem g_read_comparison (T : TT K mg) : mg "read_comparison" = some (.ref (He.ga K "read_comparison")) := by
  obtain ⟨h, X, G⟩ := T.at_
  have c := T.fact 3 0 (f := .glo "read_comparison") rfl rfl
  exact He.glo_ok X G c
theorem g_read_length (T : TT K mg) : mg "read_length" = some (.ref (He.ga K "read_length")) := by
  obtain ⟨h, X, G⟩ := T.at_
  have c := T.fact 3 1 (f := .glo "read_length") rfl rfl
  exact He.glo_ok X G c
theorem g_read_atom (T : TT K mg) : mg "read_atom" = some (.ref (He.ga K "read_atom")) := by
  obtain ⟨h, X, G⟩ := T.at_
  have c := T.fact 3 2 (f := .glo "read_atom") rfl rfl
  exact He.glo_ok X G c
theorem g_read_part (T : TT K mg) : mg "read_part" = some (.ref (He.ga K "read_part")) := by
  obtain ⟨h, X, G⟩ := T.at_
  have c := T.fact 3 3 (f := .glo "read_part") rfl rfl
  exact He.glo_ok X G c
theorem g_read_condition (T : TT K mg) : mg "read_condition" = some (.ref (He.ga K "read_condition")) := by
  obtain ⟨h, X, G⟩ := T.at_
  have c := T.fact 3 4 (f := .glo "read_condition") rfl rfl
  exact He.glo_ok X G c
theorem g_ALONE (T : TT K mg) : mg "ALONE" = some (.ref (He.ga K "ALONE")) := by
  obtain ⟨h, X, G⟩ := T.at_
  have c := T.fact 3 5 (f := .glo "ALONE") rfl rfl
  exact He.glo_ok X G c
theorem g_LEAVING (T : TT K mg) : mg "LEAVING" = some (.ref (He.ga K "LEAVING")) := by
  obtain ⟨h, X, G⟩ := T.at_
  have c := T.fact 3 6 (f := .glo "LEAVING") rfl rfl
  exact He.glo_ok X G c
theorem g_BLOCKS (T : TT K mg) : mg "BLOCKS" = some (.ref (He.ga K "BLOCKS")) := by
  obtain ⟨h, X, G⟩ := T.at_
  have c := T.fact 3 7 (f := .glo "BLOCKS") rfl rfl
  exact He.glo_ok X G c
theorem g_CLOSING (T : TT K mg) : mg "CLOSING" = some (.ref (He.ga K "CLOSING")) := by
  obtain ⟨h, X, G⟩ := T.at_
  have c := T.fact 3 8 (f := .glo "CLOSING") rfl rfl
  exact He.glo_ok X G c
theorem g_BadLine (T : TT K mg) : mg "BadLine" = some (.ref (He.ga K "BadLine")) := by
  obtain ⟨h, X, G⟩ := T.at_
  have c := T.fact 3 9 (f := .glo "BadLine") rfl rfl
  exact He.glo_ok X G c
theorem g_read_check (T : TT K mg) : mg "read_check" = some (.ref (He.ga K "read_check")) := by
  obtain ⟨h, X, G⟩ := T.at_
  have c := T.fact 4 0 (f := .glo "read_check") rfl rfl
  exact He.glo_ok X G c
theorem g_read_let (T : TT K mg) : mg "read_let" = some (.ref (He.ga K "read_let")) := by
  obtain ⟨h, X, G⟩ := T.at_
  have c := T.fact 4 1 (f := .glo "read_let") rfl rfl
  exact He.glo_ok X G c
theorem g_read_plain (T : TT K mg) : mg "read_plain" = some (.ref (He.ga K "read_plain")) := by
  obtain ⟨h, X, G⟩ := T.at_
  have c := T.fact 4 2 (f := .glo "read_plain") rfl rfl
  exact He.glo_ok X G c
theorem g_RowReader (T : TT K mg) : mg "RowReader" = some (.ref (He.ga K "RowReader")) := by
  obtain ⟨h, X, G⟩ := T.at_
  have c := T.fact 4 3 (f := .glo "RowReader") rfl rfl
  exact He.glo_ok X G c
theorem g_read_test (T : TT K mg) : mg "read_test" = some (.ref (He.ga K "read_test")) := by
  obtain ⟨h, X, G⟩ := T.at_
  have c := T.fact 4 4 (f := .glo "read_test") rfl rfl
  exact He.glo_ok X G c
theorem g_read_first (T : TT K mg) : mg "read_first" = some (.ref (He.ga K "read_first")) := by
  obtain ⟨h, X, G⟩ := T.at_
  have c := T.fact 4 5 (f := .glo "read_first") rfl rfl
  exact He.glo_ok X G c
theorem g_Test (T : TT K mg) : mg "Test" = some (.ref (He.ga K "Test")) := by
  obtain ⟨h, X, G⟩ := T.at_
  have c := T.fact 4 6 (f := .glo "Test") rfl rfl
  exact He.glo_ok X G c
theorem g__law_take (T : TT K mg) : mg "_law_take" = some (.ref (He.ga K "_law_take")) := by
  obtain ⟨h, X, G⟩ := T.at_
  have c := T.fact 4 7 (f := .glo "_law_take") rfl rfl
  exact He.glo_ok X G c
theorem g__law_of (T : TT K mg) : mg "_law_of" = some (.ref (He.ga K "_law_of")) := by
  obtain ⟨h, X, G⟩ := T.at_
  have c := T.fact 4 8 (f := .glo "_law_of") rfl rfl
  exact He.glo_ok X G c
theorem g__law_bag (T : TT K mg) : mg "_law_bag" = some (.ref (He.ga K "_law_bag")) := by
  obtain ⟨h, X, G⟩ := T.at_
  have c := T.fact 4 9 (f := .glo "_law_bag") rfl rfl
  exact He.glo_ok X G c
theorem g__law_number (T : TT K mg) : mg "_law_number" = some (.ref (He.ga K "_law_number")) := by
  obtain ⟨h, X, G⟩ := T.at_
  have c := T.fact 5 0 (f := .glo "_law_number") rfl rfl
  exact He.glo_ok X G c
theorem g__law_word (T : TT K mg) : mg "_law_word" = some (.ref (He.ga K "_law_word")) := by
  obtain ⟨h, X, G⟩ := T.at_
  have c := T.fact 5 1 (f := .glo "_law_word") rfl rfl
  exact He.glo_ok X G c
theorem g__law_any_constant (T : TT K mg) : mg "_law_any_constant" = some (.ref (He.ga K "_law_any_constant")) := by
  obtain ⟨h, X, G⟩ := T.at_
  have c := T.fact 5 2 (f := .glo "_law_any_constant") rfl rfl
  exact He.glo_ok X G c
theorem g__law_written (T : TT K mg) : mg "_law_written" = some (.ref (He.ga K "_law_written")) := by
  obtain ⟨h, X, G⟩ := T.at_
  have c := T.fact 5 3 (f := .glo "_law_written") rfl rfl
  exact He.glo_ok X G c
theorem g__law_call_text (T : TT K mg) : mg "_law_call_text" = some (.ref (He.ga K "_law_call_text")) := by
  obtain ⟨h, X, G⟩ := T.at_
  have c := T.fact 5 4 (f := .glo "_law_call_text") rfl rfl
  exact He.glo_ok X G c
theorem g__law_keywords (T : TT K mg) : mg "_law_keywords" = some (.ref (He.ga K "_law_keywords")) := by
  obtain ⟨h, X, G⟩ := T.at_
  have c := T.fact 5 5 (f := .glo "_law_keywords") rfl rfl
  exact He.glo_ok X G c
theorem g__law_any_name (T : TT K mg) : mg "_law_any_name" = some (.ref (He.ga K "_law_any_name")) := by
  obtain ⟨h, X, G⟩ := T.at_
  have c := T.fact 5 6 (f := .glo "_law_any_name") rfl rfl
  exact He.glo_ok X G c
theorem g__law_any_call (T : TT K mg) : mg "_law_any_call" = some (.ref (He.ga K "_law_any_call")) := by
  obtain ⟨h, X, G⟩ := T.at_
  have c := T.fact 5 7 (f := .glo "_law_any_call") rfl rfl
  exact He.glo_ok X G c
theorem g__law_refused (T : TT K mg) : mg "_law_refused" = some (.ref (He.ga K "_law_refused")) := by
  obtain ⟨h, X, G⟩ := T.at_
  have c := T.fact 5 8 (f := .glo "_law_refused") rfl rfl
  exact He.glo_ok X G c
theorem g__law_line (T : TT K mg) : mg "_law_line" = some (.ref (He.ga K "_law_line")) := by
  obtain ⟨h, X, G⟩ := T.at_
  have c := T.fact 5 9 (f := .glo "_law_line") rfl rfl
  exact He.glo_ok X G c
theorem g__law_seen (T : TT K mg) : mg "_law_seen" = some (.ref (He.ga K "_law_seen")) := by
  obtain ⟨h, X, G⟩ := T.at_
  have c := T.fact 6 0 (f := .glo "_law_seen") rfl rfl
  exact He.glo_ok X G c
theorem g__law_mentions (T : TT K mg) : mg "_law_mentions" = some (.ref (He.ga K "_law_mentions")) := by
  obtain ⟨h, X, G⟩ := T.at_
  have c := T.fact 6 1 (f := .glo "_law_mentions") rfl rfl
  exact He.glo_ok X G c
theorem g__law_stands (T : TT K mg) : mg "_law_stands" = some (.ref (He.ga K "_law_stands")) := by
  obtain ⟨h, X, G⟩ := T.at_
  have c := T.fact 6 2 (f := .glo "_law_stands") rfl rfl
  exact He.glo_ok X G c
theorem g__law_after (T : TT K mg) : mg "_law_after" = some (.ref (He.ga K "_law_after")) := by
  obtain ⟨h, X, G⟩ := T.at_
  have c := T.fact 6 3 (f := .glo "_law_after") rfl rfl
  exact He.glo_ok X G c
theorem g_law (T : TT K mg) : mg "law" = some (.ref (He.ga K "law")) := by
  obtain ⟨h, X, G⟩ := T.at_
  have c := T.fact 6 4 (f := .glo "law") rfl rfl
  exact He.glo_ok X G c
theorem z_isinstance (T : TT K mg) : mg "isinstance" = none := by
  obtain ⟨h, X, G⟩ := T.at_
  have c := T.fact 6 5 (f := .free "isinstance") rfl rfl
  exact He.free_ok X G c
theorem z_str (T : TT K mg) : mg "str" = none := by
  obtain ⟨h, X, G⟩ := T.at_
  have c := T.fact 6 6 (f := .free "str") rfl rfl
  exact He.free_ok X G c
theorem z_len (T : TT K mg) : mg "len" = none := by
  obtain ⟨h, X, G⟩ := T.at_
  have c := T.fact 6 7 (f := .free "len") rfl rfl
  exact He.free_ok X G c
theorem z_all (T : TT K mg) : mg "all" = none := by
  obtain ⟨h, X, G⟩ := T.at_
  have c := T.fact 6 8 (f := .free "all") rfl rfl
  exact He.free_ok X G c
theorem z_int (T : TT K mg) : mg "int" = none := by
  obtain ⟨h, X, G⟩ := T.at_
  have c := T.fact 6 9 (f := .free "int") rfl rfl
  exact He.free_ok X G c
theorem z_bool (T : TT K mg) : mg "bool" = none := by
  obtain ⟨h, X, G⟩ := T.at_
  have c := T.fact 7 0 (f := .free "bool") rfl rfl
  exact He.free_ok X G c
theorem z_tuple (T : TT K mg) : mg "tuple" = none := by
  obtain ⟨h, X, G⟩ := T.at_
  have c := T.fact 7 1 (f := .free "tuple") rfl rfl
  exact He.free_ok X G c
theorem z_list (T : TT K mg) : mg "list" = none := by
  obtain ⟨h, X, G⟩ := T.at_
  have c := T.fact 7 2 (f := .free "list") rfl rfl
  exact He.free_ok X G c
theorem z_dict (T : TT K mg) : mg "dict" = none := by
  obtain ⟨h, X, G⟩ := T.at_
  have c := T.fact 7 3 (f := .free "dict") rfl rfl
  exact He.free_ok X G c
theorem z_enumerate (T : TT K mg) : mg "enumerate" = none := by
  obtain ⟨h, X, G⟩ := T.at_
  have c := T.fact 7 4 (f := .free "enumerate") rfl rfl
  exact He.free_ok X G c
theorem z_abs (T : TT K mg) : mg "abs" = none := by
  obtain ⟨h, X, G⟩ := T.at_
  have c := T.fact 7 5 (f := .free "abs") rfl rfl
  exact He.free_ok X G c
theorem z_sum (T : TT K mg) : mg "sum" = none := by
  obtain ⟨h, X, G⟩ := T.at_
  have c := T.fact 7 6 (f := .free "sum") rfl rfl
  exact He.free_ok X G c
theorem z_sorted (T : TT K mg) : mg "sorted" = none := by
  obtain ⟨h, X, G⟩ := T.at_
  have c := T.fact 7 7 (f := .free "sorted") rfl rfl
  exact He.free_ok X G c
theorem z_range (T : TT K mg) : mg "range" = none := by
  obtain ⟨h, X, G⟩ := T.at_
  have c := T.fact 7 8 (f := .free "range") rfl rfl
  exact He.free_ok X G c
theorem z_max (T : TT K mg) : mg "max" = none := by
  obtain ⟨h, X, G⟩ := T.at_
  have c := T.fact 7 9 (f := .free "max") rfl rfl
  exact He.free_ok X G c
theorem z_min (T : TT K mg) : mg "min" = none := by
  obtain ⟨h, X, G⟩ := T.at_
  have c := T.fact 8 0 (f := .free "min") rfl rfl
  exact He.free_ok X G c
theorem z_super (T : TT K mg) : mg "super" = none := by
  obtain ⟨h, X, G⟩ := T.at_
  have c := T.fact 8 1 (f := .free "super") rfl rfl
  exact He.free_ok X G c
theorem i_MOST_ATOMS (T : TT K mg) : ∃ t, mg "MOST_ATOMS" = some (.int 6 t) := by
  obtain ⟨h, X, G⟩ := T.at_
  have c := T.fact 8 2 (f := .int "MOST_ATOMS" 6) rfl rfl
  exact He.int_ok X G c
theorem i_MOST_FLAGS (T : TT K mg) : ∃ t, mg "MOST_FLAGS" = some (.int 3 t) := by
  obtain ⟨h, X, G⟩ := T.at_
  have c := T.fact 8 3 (f := .int "MOST_FLAGS" 3) rfl rfl
  exact He.int_ok X G c
theorem i_MOST_LINES (T : TT K mg) : ∃ t, mg "MOST_LINES" = some (.int 40 t) := by
  obtain ⟨h, X, G⟩ := T.at_
  have c := T.fact 8 4 (f := .int "MOST_LINES" 40) rfl rfl
  exact He.int_ok X G c
theorem i_MOST_DEEP (T : TT K mg) : ∃ t, mg "MOST_DEEP" = some (.int 6 t) := by
  obtain ⟨h, X, G⟩ := T.at_
  have c := T.fact 8 5 (f := .int "MOST_DEEP" 6) rfl rfl
  exact He.int_ok X G c
theorem s_SMALL (T : TT K mg) : ∃ t, mg "SMALL" = some (.str "abcdefghijklmnopqrstuvwxyz" t) := by
  obtain ⟨h, X, G⟩ := T.at_
  have c := T.fact 8 6 (f := .str "SMALL" "abcdefghijklmnopqrstuvwxyz") rfl rfl
  exact He.str_ok X G c
theorem s_CAPITALS (T : TT K mg) : ∃ t, mg "CAPITALS" = some (.str "ABCDEFGHIJKLMNOPQRSTUVWXYZ" t) := by
  obtain ⟨h, X, G⟩ := T.at_
  have c := T.fact 8 7 (f := .str "CAPITALS" "ABCDEFGHIJKLMNOPQRSTUVWXYZ") rfl rfl
  exact He.str_ok X G c
theorem s_DIGITS (T : TT K mg) : ∃ t, mg "DIGITS" = some (.str "0123456789" t) := by
  obtain ⟨h, X, G⟩ := T.at_
  have c := T.fact 8 8 (f := .str "DIGITS" "0123456789") rfl rfl
  exact He.str_ok X G c
theorem c_Family (T : TT K mg) : Cls K (He.ga K "Family") := by
  obtain ⟨h, X, G⟩ := T.at_
  have c := T.fact 8 9 (f := .cls "Family") rfl rfl
  exact He.cls_ok c
theorem c_Line (T : TT K mg) : Cls K (He.ga K "Line") := by
  obtain ⟨h, X, G⟩ := T.at_
  have c := T.fact 9 0 (f := .cls "Line") rfl rfl
  exact He.cls_ok c
theorem c_Mentions (T : TT K mg) : Cls K (He.ga K "Mentions") := by
  obtain ⟨h, X, G⟩ := T.at_
  have c := T.fact 9 1 (f := .cls "Mentions") rfl rfl
  exact He.cls_ok c
theorem c_Scope (T : TT K mg) : Cls K (He.ga K "Scope") := by
  obtain ⟨h, X, G⟩ := T.at_
  have c := T.fact 9 2 (f := .cls "Scope") rfl rfl
  exact He.cls_ok c
theorem c_RowReader (T : TT K mg) : Cls K (He.ga K "RowReader") := by
  obtain ⟨h, X, G⟩ := T.at_
  have c := T.fact 9 3 (f := .cls "RowReader") rfl rfl
  exact He.cls_ok c
theorem c_Test (T : TT K mg) : Cls K (He.ga K "Test") := by
  obtain ⟨h, X, G⟩ := T.at_
  have c := T.fact 9 4 (f := .cls "Test") rfl rfl
  exact He.cls_ok c
theorem n_Family_parents (T : TT K mg) : NoAttr K (He.ga K "Family") "parents" := by
  obtain ⟨h, X, G⟩ := T.at_
  have c := T.fact 9 5 (f := .noat "Family" "parents") rfl rfl
  exact He.noat_ok c
theorem n_Family_declared (T : TT K mg) : NoAttr K (He.ga K "Family") "declared" := by
  obtain ⟨h, X, G⟩ := T.at_
  have c := T.fact 9 6 (f := .noat "Family" "declared") rfl rfl
  exact He.noat_ok c
theorem n_Line_words (T : TT K mg) : NoAttr K (He.ga K "Line") "words" := by
  obtain ⟨h, X, G⟩ := T.at_
  have c := T.fact 9 7 (f := .noat "Line" "words") rfl rfl
  exact He.noat_ok c
theorem n_Line_taken (T : TT K mg) : NoAttr K (He.ga K "Line") "taken" := by
  obtain ⟨h, X, G⟩ := T.at_
  have c := T.fact 9 8 (f := .noat "Line" "taken") rfl rfl
  exact He.noat_ok c
theorem n_Mentions_family (T : TT K mg) : NoAttr K (He.ga K "Mentions") "family" := by
  obtain ⟨h, X, G⟩ := T.at_
  have c := T.fact 9 9 (f := .noat "Mentions" "family") rfl rfl
  exact He.noat_ok c
theorem n_Mentions_called (T : TT K mg) : NoAttr K (He.ga K "Mentions") "called" := by
  obtain ⟨h, X, G⟩ := T.at_
  have c := T.fact 10 0 (f := .noat "Mentions" "called") rfl rfl
  exact He.noat_ok c
theorem n_Mentions_flags (T : TT K mg) : NoAttr K (He.ga K "Mentions") "flags" := by
  obtain ⟨h, X, G⟩ := T.at_
  have c := T.fact 10 1 (f := .noat "Mentions" "flags") rfl rfl
  exact He.noat_ok c
theorem n_Mentions_checked (T : TT K mg) : NoAttr K (He.ga K "Mentions") "checked" := by
  obtain ⟨h, X, G⟩ := T.at_
  have c := T.fact 10 2 (f := .noat "Mentions" "checked") rfl rfl
  exact He.noat_ok c
theorem n_Scope_mentions (T : TT K mg) : NoAttr K (He.ga K "Scope") "mentions" := by
  obtain ⟨h, X, G⟩ := T.at_
  have c := T.fact 10 3 (f := .noat "Scope" "mentions") rfl rfl
  exact He.noat_ok c
theorem n_Scope_given (T : TT K mg) : NoAttr K (He.ga K "Scope") "given" := by
  obtain ⟨h, X, G⟩ := T.at_
  have c := T.fact 10 4 (f := .noat "Scope" "given") rfl rfl
  exact He.noat_ok c
theorem n_Scope_item (T : TT K mg) : NoAttr K (He.ga K "Scope") "item" := by
  obtain ⟨h, X, G⟩ := T.at_
  have c := T.fact 10 5 (f := .noat "Scope" "item") rfl rfl
  exact He.noat_ok c
theorem n_RowReader_lines (T : TT K mg) : NoAttr K (He.ga K "RowReader") "lines" := by
  obtain ⟨h, X, G⟩ := T.at_
  have c := T.fact 10 6 (f := .noat "RowReader" "lines") rfl rfl
  exact He.noat_ok c
theorem n_RowReader_at (T : TT K mg) : NoAttr K (He.ga K "RowReader") "at" := by
  obtain ⟨h, X, G⟩ := T.at_
  have c := T.fact 10 7 (f := .noat "RowReader" "at") rfl rfl
  exact He.noat_ok c
theorem n_RowReader_mentions (T : TT K mg) : NoAttr K (He.ga K "RowReader") "mentions" := by
  obtain ⟨h, X, G⟩ := T.at_
  have c := T.fact 10 8 (f := .noat "RowReader" "mentions") rfl rfl
  exact He.noat_ok c
theorem n_RowReader_written (T : TT K mg) : NoAttr K (He.ga K "RowReader") "written" := by
  obtain ⟨h, X, G⟩ := T.at_
  have c := T.fact 10 9 (f := .noat "RowReader" "written") rfl rfl
  exact He.noat_ok c
theorem n_Test_name (T : TT K mg) : NoAttr K (He.ga K "Test") "name" := by
  obtain ⟨h, X, G⟩ := T.at_
  have c := T.fact 11 0 (f := .noat "Test" "name") rfl rfl
  exact He.noat_ok c
theorem n_Test_body (T : TT K mg) : NoAttr K (He.ga K "Test") "body" := by
  obtain ⟨h, X, G⟩ := T.at_
  have c := T.fact 11 1 (f := .noat "Test" "body") rfl rfl
  exact He.noat_ok c
theorem n_Test_family (T : TT K mg) : NoAttr K (He.ga K "Test") "family" := by
  obtain ⟨h, X, G⟩ := T.at_
  have c := T.fact 11 2 (f := .noat "Test" "family") rfl rfl
  exact He.noat_ok c
theorem n_Test_flags (T : TT K mg) : NoAttr K (He.ga K "Test") "flags" := by
  obtain ⟨h, X, G⟩ := T.at_
  have c := T.fact 11 3 (f := .noat "Test" "flags") rfl rfl
  exact He.noat_ok c
theorem n_Test_called (T : TT K mg) : NoAttr K (He.ga K "Test") "called" := by
  obtain ⟨h, X, G⟩ := T.at_
  have c := T.fact 11 4 (f := .noat "Test" "called") rfl rfl
  exact He.noat_ok c
theorem n_Test_checked (T : TT K mg) : NoAttr K (He.ga K "Test") "checked" := by
  obtain ⟨h, X, G⟩ := T.at_
  have c := T.fact 11 5 (f := .noat "Test" "checked") rfl rfl
  exact He.noat_ok c
theorem n_Test_lines (T : TT K mg) : NoAttr K (He.ga K "Test") "lines" := by
  obtain ⟨h, X, G⟩ := T.at_
  have c := T.fact 11 6 (f := .noat "Test" "lines") rfl rfl
  exact He.noat_ok c
theorem m_Family_contains (T : TT K mg) : Meth K (He.ga K "Family") "__contains__" (He.ma K (He.ga K "Family") "__contains__") := by
  obtain ⟨h, X, G⟩ := T.at_
  have c := T.fact 11 7 (f := .meth "Family" "__contains__") rfl rfl
  exact He.meth_ok c
theorem m_Line_peek (T : TT K mg) : Meth K (He.ga K "Line") "peek" (He.ma K (He.ga K "Line") "peek") := by
  obtain ⟨h, X, G⟩ := T.at_
  have c := T.fact 11 8 (f := .meth "Line" "peek") rfl rfl
  exact He.meth_ok c
theorem m_Line_take (T : TT K mg) : Meth K (He.ga K "Line") "take" (He.ma K (He.ga K "Line") "take") := by
  obtain ⟨h, X, G⟩ := T.at_
  have c := T.fact 11 9 (f := .meth "Line" "take") rfl rfl
  exact He.meth_ok c
theorem m_Line_expect (T : TT K mg) : Meth K (He.ga K "Line") "expect" (He.ma K (He.ga K "Line") "expect") := by
  obtain ⟨h, X, G⟩ := T.at_
  have c := T.fact 12 0 (f := .meth "Line" "expect") rfl rfl
  exact He.meth_ok c
theorem m_Line_take_name (T : TT K mg) : Meth K (He.ga K "Line") "take_name" (He.ma K (He.ga K "Line") "take_name") := by
  obtain ⟨h, X, G⟩ := T.at_
  have c := T.fact 12 1 (f := .meth "Line" "take_name") rfl rfl
  exact He.meth_ok c
theorem m_Line_take_constant (T : TT K mg) : Meth K (He.ga K "Line") "take_constant" (He.ma K (He.ga K "Line") "take_constant") := by
  obtain ⟨h, X, G⟩ := T.at_
  have c := T.fact 12 2 (f := .meth "Line" "take_constant") rfl rfl
  exact He.meth_ok c
theorem m_Line_take_number (T : TT K mg) : Meth K (He.ga K "Line") "take_number" (He.ma K (He.ga K "Line") "take_number") := by
  obtain ⟨h, X, G⟩ := T.at_
  have c := T.fact 12 3 (f := .meth "Line" "take_number") rfl rfl
  exact He.meth_ok c
theorem m_Line_take_class (T : TT K mg) : Meth K (He.ga K "Line") "take_class" (He.ma K (He.ga K "Line") "take_class") := by
  obtain ⟨h, X, G⟩ := T.at_
  have c := T.fact 12 4 (f := .meth "Line" "take_class") rfl rfl
  exact He.meth_ok c
theorem m_Line_finish (T : TT K mg) : Meth K (He.ga K "Line") "finish" (He.ma K (He.ga K "Line") "finish") := by
  obtain ⟨h, X, G⟩ := T.at_
  have c := T.fact 12 5 (f := .meth "Line" "finish") rfl rfl
  exact He.meth_ok c
theorem m_Line_take_constants (T : TT K mg) : Meth K (He.ga K "Line") "take_constants" (He.ma K (He.ga K "Line") "take_constants") := by
  obtain ⟨h, X, G⟩ := T.at_
  have c := T.fact 12 6 (f := .meth "Line" "take_constants") rfl rfl
  exact He.meth_ok c
theorem m_Mentions_add_call (T : TT K mg) : Meth K (He.ga K "Mentions") "add_call" (He.ma K (He.ga K "Mentions") "add_call") := by
  obtain ⟨h, X, G⟩ := T.at_
  have c := T.fact 12 7 (f := .meth "Mentions" "add_call") rfl rfl
  exact He.meth_ok c
theorem m_Mentions_add_flag (T : TT K mg) : Meth K (He.ga K "Mentions") "add_flag" (He.ma K (He.ga K "Mentions") "add_flag") := by
  obtain ⟨h, X, G⟩ := T.at_
  have c := T.fact 12 8 (f := .meth "Mentions" "add_flag") rfl rfl
  exact He.meth_ok c
theorem m_Scope_inner (T : TT K mg) : Meth K (He.ga K "Scope") "inner" (He.ma K (He.ga K "Scope") "inner") := by
  obtain ⟨h, X, G⟩ := T.at_
  have c := T.fact 12 9 (f := .meth "Scope" "inner") rfl rfl
  exact He.meth_ok c
theorem m_Scope_sees (T : TT K mg) : Meth K (He.ga K "Scope") "sees" (He.ma K (He.ga K "Scope") "sees") := by
  obtain ⟨h, X, G⟩ := T.at_
  have c := T.fact 13 0 (f := .meth "Scope" "sees") rfl rfl
  exact He.meth_ok c
theorem m_RowReader_coming (T : TT K mg) : Meth K (He.ga K "RowReader") "coming" (He.ma K (He.ga K "RowReader") "coming") := by
  obtain ⟨h, X, G⟩ := T.at_
  have c := T.fact 13 1 (f := .meth "RowReader" "coming") rfl rfl
  exact He.meth_ok c
theorem m_RowReader_accept (T : TT K mg) : Meth K (He.ga K "RowReader") "accept" (He.ma K (He.ga K "RowReader") "accept") := by
  obtain ⟨h, X, G⟩ := T.at_
  have c := T.fact 13 2 (f := .meth "RowReader" "accept") rfl rfl
  exact He.meth_ok c
theorem m_RowReader_read_rows (T : TT K mg) : Meth K (He.ga K "RowReader") "read_rows" (He.ma K (He.ga K "RowReader") "read_rows") := by
  obtain ⟨h, X, G⟩ := T.at_
  have c := T.fact 13 3 (f := .meth "RowReader" "read_rows") rfl rfl
  exact He.meth_ok c
theorem m_RowReader_read_row (T : TT K mg) : Meth K (He.ga K "RowReader") "read_row" (He.ma K (He.ga K "RowReader") "read_row") := by
  obtain ⟨h, X, G⟩ := T.at_
  have c := T.fact 13 4 (f := .meth "RowReader" "read_row") rfl rfl
  exact He.meth_ok c
theorem m_RowReader_read_block (T : TT K mg) : Meth K (He.ga K "RowReader") "read_block" (He.ma K (He.ga K "RowReader") "read_block") := by
  obtain ⟨h, X, G⟩ := T.at_
  have c := T.fact 13 5 (f := .meth "RowReader" "read_block") rfl rfl
  exact He.meth_ok c
theorem m_RowReader_close (T : TT K mg) : Meth K (He.ga K "RowReader") "close" (He.ma K (He.ga K "RowReader") "close") := by
  obtain ⟨h, X, G⟩ := T.at_
  have c := T.fact 13 6 (f := .meth "RowReader" "close") rfl rfl
  exact He.meth_ok c
theorem m_RowReader_read_else (T : TT K mg) : Meth K (He.ga K "RowReader") "read_else" (He.ma K (He.ga K "RowReader") "read_else") := by
  obtain ⟨h, X, G⟩ := T.at_
  have c := T.fact 13 7 (f := .meth "RowReader" "read_else") rfl rfl
  exact He.meth_ok c
theorem m_RowReader_read_raises (T : TT K mg) : Meth K (He.ga K "RowReader") "read_raises" (He.ma K (He.ga K "RowReader") "read_raises") := by
  obtain ⟨h, X, G⟩ := T.at_
  have c := T.fact 13 8 (f := .meth "RowReader" "read_raises") rfl rfl
  exact He.meth_ok c
theorem m_RowReader_read_if (T : TT K mg) : Meth K (He.ga K "RowReader") "read_if" (He.ma K (He.ga K "RowReader") "read_if") := by
  obtain ⟨h, X, G⟩ := T.at_
  have c := T.fact 13 9 (f := .meth "RowReader" "read_if") rfl rfl
  exact He.meth_ok c
theorem m_RowReader_read_try (T : TT K mg) : Meth K (He.ga K "RowReader") "read_try" (He.ma K (He.ga K "RowReader") "read_try") := by
  obtain ⟨h, X, G⟩ := T.at_
  have c := T.fact 14 0 (f := .meth "RowReader" "read_try") rfl rfl
  exact He.meth_ok c
theorem m_RowReader_read_for (T : TT K mg) : Meth K (He.ga K "RowReader") "read_for" (He.ma K (He.ga K "RowReader") "read_for") := by
  obtain ⟨h, X, G⟩ := T.at_
  have c := T.fact 14 1 (f := .meth "RowReader" "read_for") rfl rfl
  exact He.meth_ok c
theorem m_RowReader_read_whole (T : TT K mg) : Meth K (He.ga K "RowReader") "read_whole" (He.ma K (He.ga K "RowReader") "read_whole") := by
  obtain ⟨h, X, G⟩ := T.at_
  have c := T.fact 14 2 (f := .meth "RowReader" "read_whole") rfl rfl
  exact He.meth_ok c
theorem k_Family (T : TT K mg) : Mk K (He.ga K "Family") (He.ma K (He.ga K "Family") "__init__") := by
  obtain ⟨h, X, G⟩ := T.at_
  have c := T.fact 14 3 (f := .mkr "Family") rfl rfl
  exact He.mkr_ok c
theorem k_Line (T : TT K mg) : Mk K (He.ga K "Line") (He.ma K (He.ga K "Line") "__init__") := by
  obtain ⟨h, X, G⟩ := T.at_
  have c := T.fact 14 4 (f := .mkr "Line") rfl rfl
  exact He.mkr_ok c
theorem k_Mentions (T : TT K mg) : Mk K (He.ga K "Mentions") (He.ma K (He.ga K "Mentions") "__init__") := by
  obtain ⟨h, X, G⟩ := T.at_
  have c := T.fact 14 5 (f := .mkr "Mentions") rfl rfl
  exact He.mkr_ok c
theorem k_Scope (T : TT K mg) : Mk K (He.ga K "Scope") (He.ma K (He.ga K "Scope") "__init__") := by
  obtain ⟨h, X, G⟩ := T.at_
  have c := T.fact 14 6 (f := .mkr "Scope") rfl rfl
  exact He.mkr_ok c
theorem k_RowReader (T : TT K mg) : Mk K (He.ga K "RowReader") (He.ma K (He.ga K "RowReader") "__init__") := by
  obtain ⟨h, X, G⟩ := T.at_
  have c := T.fact 14 7 (f := .mkr "RowReader") rfl rfl
  exact He.mkr_ok c
theorem k_Test (T : TT K mg) : Mk K (He.ga K "Test") (He.ma K (He.ga K "Test") "__init__") := by
  obtain ⟨h, X, G⟩ := T.at_
  have c := T.fact 14 8 (f := .mkr "Test") rfl rfl
  exact He.mkr_ok c
theorem x_Misread (T : TT K mg) : PySem.W.excIn K (He.ga K "Misread") He.veBase "ValueError.__new__" = true ∧ PySem.W.keepIn K (.ref (He.ga K "Misread")) = true ∧ PySem.W.subIn K (.ref (He.ga K "Misread")) (.type "BaseException") = some true ∧ PySem.W.typeIn K (.ref (He.ga K "Misread")) = some (.type "type") := by
  obtain ⟨h, X, G⟩ := T.at_
  have c := T.fact 14 9 (f := .exc "Misread") rfl rfl
  exact He.exc_ok c
theorem xm_Misread (T : TT K mg) : PySem.W.exmOne K (.ref (He.ga K "Misread")) (.ref (He.ga K "Misread")) = some true := by
  obtain ⟨h, X, G⟩ := T.at_
  have c := T.fact 15 0 (f := .exm "Misread" "Misread" true) rfl rfl
  exact He.exm_ok c
theorem f_Family_init (T : TT K mg) : ∃ fd, FunD K "__init__" "Family.__init__" (defArgs s_Family_init) (defBody s_Family_init) (defScope s_Family_init) [] [] (d_Family_init.at_ K) fd := T.def_ 0 0 (d := d_Family_init) rfl rfl
theorem b_Family_init {fd : FuncData} {f : Addr} (F : FunD K "__init__" "Family.__init__" (defArgs s_Family_init) (defBody s_Family_init) (defScope s_Family_init) [] [] f fd) : Binds K fd ["self", "pairs"] [] := F.bindsN fun _ _ _ _ _ _ us hl => match us, hl with | [_, _], _ => rfl
theorem f_Family_contains (T : TT K mg) : ∃ fd, FunD K "__contains__" "Family.__contains__" (defArgs s_Family_contains) (defBody s_Family_contains) (defScope s_Family_contains) [] [] (d_Family_contains.at_ K) fd := T.def_ 0 1 (d := d_Family_contains) rfl rfl
theorem b_Family_contains {fd : FuncData} {f : Addr} (F : FunD K "__contains__" "Family.__contains__" (defArgs s_Family_contains) (defBody s_Family_contains) (defScope s_Family_contains) [] [] f fd) : Binds K fd ["self", "thing"] [] := F.bindsN fun _ _ _ _ _ _ us hl => match us, hl with | [_, _], _ => rfl
theorem f_Family_plain (T : TT K mg) : ∃ fd, FunD K "plain" "Family.plain" (defArgs s_Family_plain) (defBody s_Family_plain) (defScope s_Family_plain) [] [] (d_Family_plain.at_ K) fd := T.def_ 0 2 (d := d_Family_plain) rfl rfl
theorem b_Family_plain {fd : FuncData} {f : Addr} (F : FunD K "plain" "Family.plain" (defArgs s_Family_plain) (defBody s_Family_plain) (defScope s_Family_plain) [] [] f fd) : Binds K fd [] [] := F.bindsN fun _ _ _ _ _ _ us hl => match us, hl with | [], _ => rfl
theorem f_is_number (T : TT K mg) : ∃ fd, FunD K "is_number" "is_number" (defArgs s_is_number) (defBody s_is_number) (defScope s_is_number) [] [] (d_is_number.at_ K) fd := T.def_ 0 3 (d := d_is_number) rfl rfl
theorem b_is_number {fd : FuncData} {f : Addr} (F : FunD K "is_number" "is_number" (defArgs s_is_number) (defBody s_is_number) (defScope s_is_number) [] [] f fd) : Binds K fd ["thing"] [] := F.bindsN fun _ _ _ _ _ _ us hl => match us, hl with | [_], _ => rfl
theorem f_is_word (T : TT K mg) : ∃ fd, FunD K "is_word" "is_word" (defArgs s_is_word) (defBody s_is_word) (defScope s_is_word) [V.int 30] [] (d_is_word.at_ K) fd := T.def_ 0 4 (d := d_is_word) rfl rfl
theorem f_is_name (T : TT K mg) : ∃ fd, FunD K "is_name" "is_name" (defArgs s_is_name) (defBody s_is_name) (defScope s_is_name) [] [] (d_is_name.at_ K) fd := T.def_ 0 5 (d := d_is_name) rfl rfl
theorem b_is_name {fd : FuncData} {f : Addr} (F : FunD K "is_name" "is_name" (defArgs s_is_name) (defBody s_is_name) (defScope s_is_name) [] [] f fd) : Binds K fd ["thing"] [] := F.bindsN fun _ _ _ _ _ _ us hl => match us, hl with | [_], _ => rfl
theorem f_is_constant (T : TT K mg) : ∃ fd, FunD K "is_constant" "is_constant" (defArgs s_is_constant) (defBody s_is_constant) (defScope s_is_constant) [] [] (d_is_constant.at_ K) fd := T.def_ 0 6 (d := d_is_constant) rfl rfl
theorem b_is_constant {fd : FuncData} {f : Addr} (F : FunD K "is_constant" "is_constant" (defArgs s_is_constant) (defBody s_is_constant) (defScope s_is_constant) [] [] f fd) : Binds K fd ["thing"] [] := F.bindsN fun _ _ _ _ _ _ us hl => match us, hl with | [_], _ => rfl
theorem f_constant_text (T : TT K mg) : ∃ fd, FunD K "constant_text" "constant_text" (defArgs s_constant_text) (defBody s_constant_text) (defScope s_constant_text) [] [] (d_constant_text.at_ K) fd := T.def_ 0 7 (d := d_constant_text) rfl rfl
theorem b_constant_text {fd : FuncData} {f : Addr} (F : FunD K "constant_text" "constant_text" (defArgs s_constant_text) (defBody s_constant_text) (defScope s_constant_text) [] [] f fd) : Binds K fd ["value"] [] := F.bindsN fun _ _ _ _ _ _ us hl => match us, hl with | [_], _ => rfl
theorem f_is_number_text (T : TT K mg) : ∃ fd, FunD K "is_number_text" "is_number_text" (defArgs s_is_number_text) (defBody s_is_number_text) (defScope s_is_number_text) [] [] (d_is_number_text.at_ K) fd := T.def_ 0 8 (d := d_is_number_text) rfl rfl
theorem b_is_number_text {fd : FuncData} {f : Addr} (F : FunD K "is_number_text" "is_number_text" (defArgs s_is_number_text) (defBody s_is_number_text) (defScope s_is_number_text) [] [] f fd) : Binds K fd ["text"] [] := F.bindsN fun _ _ _ _ _ _ us hl => match us, hl with | [_], _ => rfl
theorem f_is_constant_text (T : TT K mg) : ∃ fd, FunD K "is_constant_text" "is_constant_text" (defArgs s_is_constant_text) (defBody s_is_constant_text) (defScope s_is_constant_text) [] [] (d_is_constant_text.at_ K) fd := T.def_ 0 9 (d := d_is_constant_text) rfl rfl
theorem b_is_constant_text {fd : FuncData} {f : Addr} (F : FunD K "is_constant_text" "is_constant_text" (defArgs s_is_constant_text) (defBody s_is_constant_text) (defScope s_is_constant_text) [] [] f fd) : Binds K fd ["text"] [] := F.bindsN fun _ _ _ _ _ _ us hl => match us, hl with | [_], _ => rfl
theorem f_call_text (T : TT K mg) : ∃ fd, FunD K "call_text" "call_text" (defArgs s_call_text) (defBody s_call_text) (defScope s_call_text) [] [] (d_call_text.at_ K) fd := T.def_ 1 0 (d := d_call_text) rfl rfl
theorem f_run_of (T : TT K mg) : ∃ fd, FunD K "run_of" "run_of" (defArgs s_run_of) (defBody s_run_of) (defScope s_run_of) [] [] (d_run_of.at_ K) fd := T.def_ 1 1 (d := d_run_of) rfl rfl
theorem b_run_of {fd : FuncData} {f : Addr} (F : FunD K "run_of" "run_of" (defArgs s_run_of) (defBody s_run_of) (defScope s_run_of) [] [] f fd) : Binds K fd ["line", "at", "signs"] [] := F.bindsN fun _ _ _ _ _ _ us hl => match us, hl with | [_, _, _], _ => rfl
theorem f_token_at (T : TT K mg) : ∃ fd, FunD K "token_at" "token_at" (defArgs s_token_at) (defBody s_token_at) (defScope s_token_at) [] [] (d_token_at.at_ K) fd := T.def_ 1 2 (d := d_token_at) rfl rfl
theorem b_token_at {fd : FuncData} {f : Addr} (F : FunD K "token_at" "token_at" (defArgs s_token_at) (defBody s_token_at) (defScope s_token_at) [] [] f fd) : Binds K fd ["line", "at"] [] := F.bindsN fun _ _ _ _ _ _ us hl => match us, hl with | [_, _], _ => rfl
theorem f_tokens_of (T : TT K mg) : ∃ fd, FunD K "tokens_of" "tokens_of" (defArgs s_tokens_of) (defBody s_tokens_of) (defScope s_tokens_of) [] [] (d_tokens_of.at_ K) fd := T.def_ 1 3 (d := d_tokens_of) rfl rfl
theorem b_tokens_of {fd : FuncData} {f : Addr} (F : FunD K "tokens_of" "tokens_of" (defArgs s_tokens_of) (defBody s_tokens_of) (defScope s_tokens_of) [] [] f fd) : Binds K fd ["line"] [] := F.bindsN fun _ _ _ _ _ _ us hl => match us, hl with | [_], _ => rfl
theorem f_is_tight (T : TT K mg) : ∃ fd, FunD K "is_tight" "is_tight" (defArgs s_is_tight) (defBody s_is_tight) (defScope s_is_tight) [] [] (d_is_tight.at_ K) fd := T.def_ 1 4 (d := d_is_tight) rfl rfl
theorem b_is_tight {fd : FuncData} {f : Addr} (F : FunD K "is_tight" "is_tight" (defArgs s_is_tight) (defBody s_is_tight) (defScope s_is_tight) [] [] f fd) : Binds K fd ["before", "token"] [] := F.bindsN fun _ _ _ _ _ _ us hl => match us, hl with | [_, _], _ => rfl
theorem f_spaced (T : TT K mg) : ∃ fd, FunD K "spaced" "spaced" (defArgs s_spaced) (defBody s_spaced) (defScope s_spaced) [] [] (d_spaced.at_ K) fd := T.def_ 1 5 (d := d_spaced) rfl rfl
theorem b_spaced {fd : FuncData} {f : Addr} (F : FunD K "spaced" "spaced" (defArgs s_spaced) (defBody s_spaced) (defScope s_spaced) [] [] f fd) : Binds K fd ["words"] [] := F.bindsN fun _ _ _ _ _ _ us hl => match us, hl with | [_], _ => rfl
theorem f_value_of (T : TT K mg) : ∃ fd, FunD K "value_of" "value_of" (defArgs s_value_of) (defBody s_value_of) (defScope s_value_of) [] [] (d_value_of.at_ K) fd := T.def_ 1 6 (d := d_value_of) rfl rfl
theorem b_value_of {fd : FuncData} {f : Addr} (F : FunD K "value_of" "value_of" (defArgs s_value_of) (defBody s_value_of) (defScope s_value_of) [] [] f fd) : Binds K fd ["token"] [] := F.bindsN fun _ _ _ _ _ _ us hl => match us, hl with | [_], _ => rfl
theorem f_Line_init (T : TT K mg) : ∃ fd, FunD K "__init__" "Line.__init__" (defArgs s_Line_init) (defBody s_Line_init) (defScope s_Line_init) [] [] (d_Line_init.at_ K) fd := T.def_ 1 7 (d := d_Line_init) rfl rfl
theorem b_Line_init {fd : FuncData} {f : Addr} (F : FunD K "__init__" "Line.__init__" (defArgs s_Line_init) (defBody s_Line_init) (defScope s_Line_init) [] [] f fd) : Binds K fd ["self", "text"] [] := F.bindsN fun _ _ _ _ _ _ us hl => match us, hl with | [_, _], _ => rfl
theorem f_Line_peek (T : TT K mg) : ∃ fd, FunD K "peek" "Line.peek" (defArgs s_Line_peek) (defBody s_Line_peek) (defScope s_Line_peek) [] [] (d_Line_peek.at_ K) fd := T.def_ 1 8 (d := d_Line_peek) rfl rfl
theorem b_Line_peek {fd : FuncData} {f : Addr} (F : FunD K "peek" "Line.peek" (defArgs s_Line_peek) (defBody s_Line_peek) (defScope s_Line_peek) [] [] f fd) : Binds K fd ["self"] [] := F.bindsN fun _ _ _ _ _ _ us hl => match us, hl with | [_], _ => rfl
theorem f_Line_take (T : TT K mg) : ∃ fd, FunD K "take" "Line.take" (defArgs s_Line_take) (defBody s_Line_take) (defScope s_Line_take) [] [] (d_Line_take.at_ K) fd := T.def_ 1 9 (d := d_Line_take) rfl rfl
theorem b_Line_take {fd : FuncData} {f : Addr} (F : FunD K "take" "Line.take" (defArgs s_Line_take) (defBody s_Line_take) (defScope s_Line_take) [] [] f fd) : Binds K fd ["self"] [] := F.bindsN fun _ _ _ _ _ _ us hl => match us, hl with | [_], _ => rfl
theorem f_Line_expect (T : TT K mg) : ∃ fd, FunD K "expect" "Line.expect" (defArgs s_Line_expect) (defBody s_Line_expect) (defScope s_Line_expect) [] [] (d_Line_expect.at_ K) fd := T.def_ 2 0 (d := d_Line_expect) rfl rfl
theorem b_Line_expect {fd : FuncData} {f : Addr} (F : FunD K "expect" "Line.expect" (defArgs s_Line_expect) (defBody s_Line_expect) (defScope s_Line_expect) [] [] f fd) : Binds K fd ["self", "word"] [] := F.bindsN fun _ _ _ _ _ _ us hl => match us, hl with | [_, _], _ => rfl
theorem f_Line_take_name (T : TT K mg) : ∃ fd, FunD K "take_name" "Line.take_name" (defArgs s_Line_take_name) (defBody s_Line_take_name) (defScope s_Line_take_name) [] [] (d_Line_take_name.at_ K) fd := T.def_ 2 1 (d := d_Line_take_name) rfl rfl
theorem b_Line_take_name {fd : FuncData} {f : Addr} (F : FunD K "take_name" "Line.take_name" (defArgs s_Line_take_name) (defBody s_Line_take_name) (defScope s_Line_take_name) [] [] f fd) : Binds K fd ["self"] [] := F.bindsN fun _ _ _ _ _ _ us hl => match us, hl with | [_], _ => rfl
theorem f_Line_take_constant (T : TT K mg) : ∃ fd, FunD K "take_constant" "Line.take_constant" (defArgs s_Line_take_constant) (defBody s_Line_take_constant) (defScope s_Line_take_constant) [] [] (d_Line_take_constant.at_ K) fd := T.def_ 2 2 (d := d_Line_take_constant) rfl rfl
theorem b_Line_take_constant {fd : FuncData} {f : Addr} (F : FunD K "take_constant" "Line.take_constant" (defArgs s_Line_take_constant) (defBody s_Line_take_constant) (defScope s_Line_take_constant) [] [] f fd) : Binds K fd ["self"] [] := F.bindsN fun _ _ _ _ _ _ us hl => match us, hl with | [_], _ => rfl
theorem f_Line_take_number (T : TT K mg) : ∃ fd, FunD K "take_number" "Line.take_number" (defArgs s_Line_take_number) (defBody s_Line_take_number) (defScope s_Line_take_number) [] [] (d_Line_take_number.at_ K) fd := T.def_ 2 3 (d := d_Line_take_number) rfl rfl
theorem b_Line_take_number {fd : FuncData} {f : Addr} (F : FunD K "take_number" "Line.take_number" (defArgs s_Line_take_number) (defBody s_Line_take_number) (defScope s_Line_take_number) [] [] f fd) : Binds K fd ["self", "least", "most"] [] := F.bindsN fun _ _ _ _ _ _ us hl => match us, hl with | [_, _, _], _ => rfl
theorem f_Line_take_class (T : TT K mg) : ∃ fd, FunD K "take_class" "Line.take_class" (defArgs s_Line_take_class) (defBody s_Line_take_class) (defScope s_Line_take_class) [] [] (d_Line_take_class.at_ K) fd := T.def_ 2 4 (d := d_Line_take_class) rfl rfl
theorem b_Line_take_class {fd : FuncData} {f : Addr} (F : FunD K "take_class" "Line.take_class" (defArgs s_Line_take_class) (defBody s_Line_take_class) (defScope s_Line_take_class) [] [] f fd) : Binds K fd ["self", "family"] [] := F.bindsN fun _ _ _ _ _ _ us hl => match us, hl with | [_, _], _ => rfl
theorem f_Line_finish (T : TT K mg) : ∃ fd, FunD K "finish" "Line.finish" (defArgs s_Line_finish) (defBody s_Line_finish) (defScope s_Line_finish) [] [] (d_Line_finish.at_ K) fd := T.def_ 2 5 (d := d_Line_finish) rfl rfl
theorem b_Line_finish {fd : FuncData} {f : Addr} (F : FunD K "finish" "Line.finish" (defArgs s_Line_finish) (defBody s_Line_finish) (defScope s_Line_finish) [] [] f fd) : Binds K fd ["self"] [] := F.bindsN fun _ _ _ _ _ _ us hl => match us, hl with | [_], _ => rfl
theorem f_Line_take_constants (T : TT K mg) : ∃ fd, FunD K "take_constants" "Line.take_constants" (defArgs s_Line_take_constants) (defBody s_Line_take_constants) (defScope s_Line_take_constants) [] [] (d_Line_take_constants.at_ K) fd := T.def_ 2 6 (d := d_Line_take_constants) rfl rfl
theorem b_Line_take_constants {fd : FuncData} {f : Addr} (F : FunD K "take_constants" "Line.take_constants" (defArgs s_Line_take_constants) (defBody s_Line_take_constants) (defScope s_Line_take_constants) [] [] f fd) : Binds K fd ["self", "closing", "most"] [] := F.bindsN fun _ _ _ _ _ _ us hl => match us, hl with | [_, _, _], _ => rfl
theorem f_Mentions_init (T : TT K mg) : ∃ fd, FunD K "__init__" "Mentions.__init__" (defArgs s_Mentions_init) (defBody s_Mentions_init) (defScope s_Mentions_init) [] [] (d_Mentions_init.at_ K) fd := T.def_ 2 7 (d := d_Mentions_init) rfl rfl
theorem b_Mentions_init {fd : FuncData} {f : Addr} (F : FunD K "__init__" "Mentions.__init__" (defArgs s_Mentions_init) (defBody s_Mentions_init) (defScope s_Mentions_init) [] [] f fd) : Binds K fd ["self", "family"] [] := F.bindsN fun _ _ _ _ _ _ us hl => match us, hl with | [_, _], _ => rfl
theorem f_Mentions_add_call (T : TT K mg) : ∃ fd, FunD K "add_call" "Mentions.add_call" (defArgs s_Mentions_add_call) (defBody s_Mentions_add_call) (defScope s_Mentions_add_call) [] [] (d_Mentions_add_call.at_ K) fd := T.def_ 2 8 (d := d_Mentions_add_call) rfl rfl
theorem b_Mentions_add_call {fd : FuncData} {f : Addr} (F : FunD K "add_call" "Mentions.add_call" (defArgs s_Mentions_add_call) (defBody s_Mentions_add_call) (defScope s_Mentions_add_call) [] [] f fd) : Binds K fd ["self", "text"] [] := F.bindsN fun _ _ _ _ _ _ us hl => match us, hl with | [_, _], _ => rfl
theorem f_Mentions_add_flag (T : TT K mg) : ∃ fd, FunD K "add_flag" "Mentions.add_flag" (defArgs s_Mentions_add_flag) (defBody s_Mentions_add_flag) (defScope s_Mentions_add_flag) [] [] (d_Mentions_add_flag.at_ K) fd := T.def_ 2 9 (d := d_Mentions_add_flag) rfl rfl
theorem b_Mentions_add_flag {fd : FuncData} {f : Addr} (F : FunD K "add_flag" "Mentions.add_flag" (defArgs s_Mentions_add_flag) (defBody s_Mentions_add_flag) (defScope s_Mentions_add_flag) [] [] f fd) : Binds K fd ["self", "flag"] [] := F.bindsN fun _ _ _ _ _ _ us hl => match us, hl with | [_, _], _ => rfl
theorem f_Scope_init (T : TT K mg) : ∃ fd, FunD K "__init__" "Scope.__init__" (defArgs s_Scope_init) (defBody s_Scope_init) (defScope s_Scope_init) [] [] (d_Scope_init.at_ K) fd := T.def_ 3 0 (d := d_Scope_init) rfl rfl
theorem b_Scope_init {fd : FuncData} {f : Addr} (F : FunD K "__init__" "Scope.__init__" (defArgs s_Scope_init) (defBody s_Scope_init) (defScope s_Scope_init) [] [] f fd) : Binds K fd ["self", "mentions", "given", "item"] [] := F.bindsN fun _ _ _ _ _ _ us hl => match us, hl with | [_, _, _, _], _ => rfl
theorem f_Scope_inner (T : TT K mg) : ∃ fd, FunD K "inner" "Scope.inner" (defArgs s_Scope_inner) (defBody s_Scope_inner) (defScope s_Scope_inner) [V.non] [] (d_Scope_inner.at_ K) fd := T.def_ 3 1 (d := d_Scope_inner) rfl rfl
theorem f_Scope_sees (T : TT K mg) : ∃ fd, FunD K "sees" "Scope.sees" (defArgs s_Scope_sees) (defBody s_Scope_sees) (defScope s_Scope_sees) [] [] (d_Scope_sees.at_ K) fd := T.def_ 3 2 (d := d_Scope_sees) rfl rfl
theorem b_Scope_sees {fd : FuncData} {f : Addr} (F : FunD K "sees" "Scope.sees" (defArgs s_Scope_sees) (defBody s_Scope_sees) (defScope s_Scope_sees) [] [] f fd) : Binds K fd ["self", "name"] [] := F.bindsN fun _ _ _ _ _ _ us hl => match us, hl with | [_, _], _ => rfl
theorem f_read_call (T : TT K mg) : ∃ fd, FunD K "read_call" "read_call" (defArgs s_read_call) (defBody s_read_call) (defScope s_read_call) [] [] (d_read_call.at_ K) fd := T.def_ 3 3 (d := d_read_call) rfl rfl
theorem b_read_call {fd : FuncData} {f : Addr} (F : FunD K "read_call" "read_call" (defArgs s_read_call) (defBody s_read_call) (defScope s_read_call) [] [] f fd) : Binds K fd ["line", "scope"] [] := F.bindsN fun _ _ _ _ _ _ us hl => match us, hl with | [_, _], _ => rfl
theorem f_call_behind (T : TT K mg) : ∃ fd, FunD K "call_behind" "call_behind" (defArgs s_call_behind) (defBody s_call_behind) (defScope s_call_behind) [] [] (d_call_behind.at_ K) fd := T.def_ 3 4 (d := d_call_behind) rfl rfl
theorem b_call_behind {fd : FuncData} {f : Addr} (F : FunD K "call_behind" "call_behind" (defArgs s_call_behind) (defBody s_call_behind) (defScope s_call_behind) [] [] f fd) : Binds K fd ["line", "scope", "name"] [] := F.bindsN fun _ _ _ _ _ _ us hl => match us, hl with | [_, _, _], _ => rfl
theorem f_read_thing (T : TT K mg) : ∃ fd, FunD K "read_thing" "read_thing" (defArgs s_read_thing) (defBody s_read_thing) (defScope s_read_thing) [] [] (d_read_thing.at_ K) fd := T.def_ 3 5 (d := d_read_thing) rfl rfl
theorem b_read_thing {fd : FuncData} {f : Addr} (F : FunD K "read_thing" "read_thing" (defArgs s_read_thing) (defBody s_read_thing) (defScope s_read_thing) [] [] f fd) : Binds K fd ["line", "scope"] [] := F.bindsN fun _ _ _ _ _ _ us hl => match us, hl with | [_, _], _ => rfl
theorem f_read_subject (T : TT K mg) : ∃ fd, FunD K "read_subject" "read_subject" (defArgs s_read_subject) (defBody s_read_subject) (defScope s_read_subject) [] [] (d_read_subject.at_ K) fd := T.def_ 3 6 (d := d_read_subject) rfl rfl
theorem b_read_subject {fd : FuncData} {f : Addr} (F : FunD K "read_subject" "read_subject" (defArgs s_read_subject) (defBody s_read_subject) (defScope s_read_subject) [] [] f fd) : Binds K fd ["line", "scope"] [] := F.bindsN fun _ _ _ _ _ _ us hl => match us, hl with | [_, _], _ => rfl
theorem f_read_comparison (T : TT K mg) : ∃ fd, FunD K "read_comparison" "read_comparison" (defArgs s_read_comparison) (defBody s_read_comparison) (defScope s_read_comparison) [] [] (d_read_comparison.at_ K) fd := T.def_ 3 7 (d := d_read_comparison) rfl rfl
theorem b_read_comparison {fd : FuncData} {f : Addr} (F : FunD K "read_comparison" "read_comparison" (defArgs s_read_comparison) (defBody s_read_comparison) (defScope s_read_comparison) [] [] f fd) : Binds K fd ["line", "subject"] [] := F.bindsN fun _ _ _ _ _ _ us hl => match us, hl with | [_, _], _ => rfl
theorem f_read_length (T : TT K mg) : ∃ fd, FunD K "read_length" "read_length" (defArgs s_read_length) (defBody s_read_length) (defScope s_read_length) [] [] (d_read_length.at_ K) fd := T.def_ 3 8 (d := d_read_length) rfl rfl
theorem b_read_length {fd : FuncData} {f : Addr} (F : FunD K "read_length" "read_length" (defArgs s_read_length) (defBody s_read_length) (defScope s_read_length) [] [] f fd) : Binds K fd ["line", "scope"] [] := F.bindsN fun _ _ _ _ _ _ us hl => match us, hl with | [_, _], _ => rfl
theorem f_read_atom (T : TT K mg) : ∃ fd, FunD K "read_atom" "read_atom" (defArgs s_read_atom) (defBody s_read_atom) (defScope s_read_atom) [] [] (d_read_atom.at_ K) fd := T.def_ 3 9 (d := d_read_atom) rfl rfl
theorem b_read_atom {fd : FuncData} {f : Addr} (F : FunD K "read_atom" "read_atom" (defArgs s_read_atom) (defBody s_read_atom) (defScope s_read_atom) [] [] f fd) : Binds K fd ["line", "scope"] [] := F.bindsN fun _ _ _ _ _ _ us hl => match us, hl with | [_, _], _ => rfl
theorem f_read_part (T : TT K mg) : ∃ fd, FunD K "read_part" "read_part" (defArgs s_read_part) (defBody s_read_part) (defScope s_read_part) [] [] (d_read_part.at_ K) fd := T.def_ 4 0 (d := d_read_part) rfl rfl
theorem b_read_part {fd : FuncData} {f : Addr} (F : FunD K "read_part" "read_part" (defArgs s_read_part) (defBody s_read_part) (defScope s_read_part) [] [] f fd) : Binds K fd ["line", "scope"] [] := F.bindsN fun _ _ _ _ _ _ us hl => match us, hl with | [_, _], _ => rfl
theorem f_read_condition (T : TT K mg) : ∃ fd, FunD K "read_condition" "read_condition" (defArgs s_read_condition) (defBody s_read_condition) (defScope s_read_condition) [] [] (d_read_condition.at_ K) fd := T.def_ 4 1 (d := d_read_condition) rfl rfl
theorem b_read_condition {fd : FuncData} {f : Addr} (F : FunD K "read_condition" "read_condition" (defArgs s_read_condition) (defBody s_read_condition) (defScope s_read_condition) [] [] f fd) : Binds K fd ["line", "scope"] [] := F.bindsN fun _ _ _ _ _ _ us hl => match us, hl with | [_, _], _ => rfl
theorem f_read_check (T : TT K mg) : ∃ fd, FunD K "read_check" "read_check" (defArgs s_read_check) (defBody s_read_check) (defScope s_read_check) [] [] (d_read_check.at_ K) fd := T.def_ 4 2 (d := d_read_check) rfl rfl
theorem b_read_check {fd : FuncData} {f : Addr} (F : FunD K "read_check" "read_check" (defArgs s_read_check) (defBody s_read_check) (defScope s_read_check) [] [] f fd) : Binds K fd ["line", "scope", "at"] [] := F.bindsN fun _ _ _ _ _ _ us hl => match us, hl with | [_, _, _], _ => rfl
theorem f_read_let (T : TT K mg) : ∃ fd, FunD K "read_let" "read_let" (defArgs s_read_let) (defBody s_read_let) (defScope s_read_let) [] [] (d_read_let.at_ K) fd := T.def_ 4 3 (d := d_read_let) rfl rfl
theorem b_read_let {fd : FuncData} {f : Addr} (F : FunD K "read_let" "read_let" (defArgs s_read_let) (defBody s_read_let) (defScope s_read_let) [] [] f fd) : Binds K fd ["line", "scope", "at"] [] := F.bindsN fun _ _ _ _ _ _ us hl => match us, hl with | [_, _, _], _ => rfl
theorem f_read_plain (T : TT K mg) : ∃ fd, FunD K "read_plain" "read_plain" (defArgs s_read_plain) (defBody s_read_plain) (defScope s_read_plain) [] [] (d_read_plain.at_ K) fd := T.def_ 4 4 (d := d_read_plain) rfl rfl
theorem b_read_plain {fd : FuncData} {f : Addr} (F : FunD K "read_plain" "read_plain" (defArgs s_read_plain) (defBody s_read_plain) (defScope s_read_plain) [] [] f fd) : Binds K fd ["word", "line", "scope", "at"] [] := F.bindsN fun _ _ _ _ _ _ us hl => match us, hl with | [_, _, _, _], _ => rfl
theorem f_RowReader_init (T : TT K mg) : ∃ fd, FunD K "__init__" "RowReader.__init__" (defArgs s_RowReader_init) (defBody s_RowReader_init) (defScope s_RowReader_init) [] [] (d_RowReader_init.at_ K) fd := T.def_ 4 5 (d := d_RowReader_init) rfl rfl
theorem b_RowReader_init {fd : FuncData} {f : Addr} (F : FunD K "__init__" "RowReader.__init__" (defArgs s_RowReader_init) (defBody s_RowReader_init) (defScope s_RowReader_init) [] [] f fd) : Binds K fd ["self", "lines", "family"] [] := F.bindsN fun _ _ _ _ _ _ us hl => match us, hl with | [_, _, _], _ => rfl
theorem f_RowReader_coming (T : TT K mg) : ∃ fd, FunD K "coming" "RowReader.coming" (defArgs s_RowReader_coming) (defBody s_RowReader_coming) (defScope s_RowReader_coming) [] [] (d_RowReader_coming.at_ K) fd := T.def_ 4 6 (d := d_RowReader_coming) rfl rfl
theorem b_RowReader_coming {fd : FuncData} {f : Addr} (F : FunD K "coming" "RowReader.coming" (defArgs s_RowReader_coming) (defBody s_RowReader_coming) (defScope s_RowReader_coming) [] [] f fd) : Binds K fd ["self"] [] := F.bindsN fun _ _ _ _ _ _ us hl => match us, hl with | [_], _ => rfl
theorem f_RowReader_accept (T : TT K mg) : ∃ fd, FunD K "accept" "RowReader.accept" (defArgs s_RowReader_accept) (defBody s_RowReader_accept) (defScope s_RowReader_accept) [] [] (d_RowReader_accept.at_ K) fd := T.def_ 4 7 (d := d_RowReader_accept) rfl rfl
theorem b_RowReader_accept {fd : FuncData} {f : Addr} (F : FunD K "accept" "RowReader.accept" (defArgs s_RowReader_accept) (defBody s_RowReader_accept) (defScope s_RowReader_accept) [] [] f fd) : Binds K fd ["self", "line", "depth"] [] := F.bindsN fun _ _ _ _ _ _ us hl => match us, hl with | [_, _, _], _ => rfl
theorem f_RowReader_read_rows (T : TT K mg) : ∃ fd, FunD K "read_rows" "RowReader.read_rows" (defArgs s_RowReader_read_rows) (defBody s_RowReader_read_rows) (defScope s_RowReader_read_rows) [] [] (d_RowReader_read_rows.at_ K) fd := T.def_ 4 8 (d := d_RowReader_read_rows) rfl rfl
theorem b_RowReader_read_rows {fd : FuncData} {f : Addr} (F : FunD K "read_rows" "RowReader.read_rows" (defArgs s_RowReader_read_rows) (defBody s_RowReader_read_rows) (defScope s_RowReader_read_rows) [] [] f fd) : Binds K fd ["self", "depth", "scope"] [] := F.bindsN fun _ _ _ _ _ _ us hl => match us, hl with | [_, _, _], _ => rfl
theorem f_RowReader_read_row (T : TT K mg) : ∃ fd, FunD K "read_row" "RowReader.read_row" (defArgs s_RowReader_read_row) (defBody s_RowReader_read_row) (defScope s_RowReader_read_row) [] [] (d_RowReader_read_row.at_ K) fd := T.def_ 4 9 (d := d_RowReader_read_row) rfl rfl
theorem b_RowReader_read_row {fd : FuncData} {f : Addr} (F : FunD K "read_row" "RowReader.read_row" (defArgs s_RowReader_read_row) (defBody s_RowReader_read_row) (defScope s_RowReader_read_row) [] [] f fd) : Binds K fd ["self", "line", "depth", "scope"] [] := F.bindsN fun _ _ _ _ _ _ us hl => match us, hl with | [_, _, _, _], _ => rfl
theorem f_RowReader_read_block (T : TT K mg) : ∃ fd, FunD K "read_block" "RowReader.read_block" (defArgs s_RowReader_read_block) (defBody s_RowReader_read_block) (defScope s_RowReader_read_block) [] [] (d_RowReader_read_block.at_ K) fd := T.def_ 5 0 (d := d_RowReader_read_block) rfl rfl
theorem b_RowReader_read_block {fd : FuncData} {f : Addr} (F : FunD K "read_block" "RowReader.read_block" (defArgs s_RowReader_read_block) (defBody s_RowReader_read_block) (defScope s_RowReader_read_block) [] [] f fd) : Binds K fd ["self", "word", "line", "depth", "scope"] [] := F.bindsN fun _ _ _ _ _ _ us hl => match us, hl with | [_, _, _, _, _], _ => rfl
theorem f_RowReader_close (T : TT K mg) : ∃ fd, FunD K "close" "RowReader.close" (defArgs s_RowReader_close) (defBody s_RowReader_close) (defScope s_RowReader_close) [] [] (d_RowReader_close.at_ K) fd := T.def_ 5 1 (d := d_RowReader_close) rfl rfl
theorem b_RowReader_close {fd : FuncData} {f : Addr} (F : FunD K "close" "RowReader.close" (defArgs s_RowReader_close) (defBody s_RowReader_close) (defScope s_RowReader_close) [] [] f fd) : Binds K fd ["self", "line", "depth"] [] := F.bindsN fun _ _ _ _ _ _ us hl => match us, hl with | [_, _, _], _ => rfl
theorem f_RowReader_read_else (T : TT K mg) : ∃ fd, FunD K "read_else" "RowReader.read_else" (defArgs s_RowReader_read_else) (defBody s_RowReader_read_else) (defScope s_RowReader_read_else) [] [] (d_RowReader_read_else.at_ K) fd := T.def_ 5 2 (d := d_RowReader_read_else) rfl rfl
theorem b_RowReader_read_else {fd : FuncData} {f : Addr} (F : FunD K "read_else" "RowReader.read_else" (defArgs s_RowReader_read_else) (defBody s_RowReader_read_else) (defScope s_RowReader_read_else) [] [] f fd) : Binds K fd ["self", "line", "depth", "scope"] [] := F.bindsN fun _ _ _ _ _ _ us hl => match us, hl with | [_, _, _, _], _ => rfl
theorem f_RowReader_read_raises (T : TT K mg) : ∃ fd, FunD K "read_raises" "RowReader.read_raises" (defArgs s_RowReader_read_raises) (defBody s_RowReader_read_raises) (defScope s_RowReader_read_raises) [] [] (d_RowReader_read_raises.at_ K) fd := T.def_ 5 3 (d := d_RowReader_read_raises) rfl rfl
theorem b_RowReader_read_raises {fd : FuncData} {f : Addr} (F : FunD K "read_raises" "RowReader.read_raises" (defArgs s_RowReader_read_raises) (defBody s_RowReader_read_raises) (defScope s_RowReader_read_raises) [] [] f fd) : Binds K fd ["self", "line", "depth", "scope"] [] := F.bindsN fun _ _ _ _ _ _ us hl => match us, hl with | [_, _, _, _], _ => rfl
theorem f_RowReader_read_if (T : TT K mg) : ∃ fd, FunD K "read_if" "RowReader.read_if" (defArgs s_RowReader_read_if) (defBody s_RowReader_read_if) (defScope s_RowReader_read_if) [] [] (d_RowReader_read_if.at_ K) fd := T.def_ 5 4 (d := d_RowReader_read_if) rfl rfl
theorem b_RowReader_read_if {fd : FuncData} {f : Addr} (F : FunD K "read_if" "RowReader.read_if" (defArgs s_RowReader_read_if) (defBody s_RowReader_read_if) (defScope s_RowReader_read_if) [] [] f fd) : Binds K fd ["self", "line", "depth", "scope"] [] := F.bindsN fun _ _ _ _ _ _ us hl => match us, hl with | [_, _, _, _], _ => rfl
theorem f_RowReader_read_try (T : TT K mg) : ∃ fd, FunD K "read_try" "RowReader.read_try" (defArgs s_RowReader_read_try) (defBody s_RowReader_read_try) (defScope s_RowReader_read_try) [] [] (d_RowReader_read_try.at_ K) fd := T.def_ 5 5 (d := d_RowReader_read_try) rfl rfl
theorem b_RowReader_read_try {fd : FuncData} {f : Addr} (F : FunD K "read_try" "RowReader.read_try" (defArgs s_RowReader_read_try) (defBody s_RowReader_read_try) (defScope s_RowReader_read_try) [] [] f fd) : Binds K fd ["self", "line", "depth", "scope"] [] := F.bindsN fun _ _ _ _ _ _ us hl => match us, hl with | [_, _, _, _], _ => rfl
theorem f_RowReader_read_for (T : TT K mg) : ∃ fd, FunD K "read_for" "RowReader.read_for" (defArgs s_RowReader_read_for) (defBody s_RowReader_read_for) (defScope s_RowReader_read_for) [] [] (d_RowReader_read_for.at_ K) fd := T.def_ 5 6 (d := d_RowReader_read_for) rfl rfl
theorem b_RowReader_read_for {fd : FuncData} {f : Addr} (F : FunD K "read_for" "RowReader.read_for" (defArgs s_RowReader_read_for) (defBody s_RowReader_read_for) (defScope s_RowReader_read_for) [] [] f fd) : Binds K fd ["self", "line", "depth", "scope"] [] := F.bindsN fun _ _ _ _ _ _ us hl => match us, hl with | [_, _, _, _], _ => rfl
theorem f_RowReader_read_whole (T : TT K mg) : ∃ fd, FunD K "read_whole" "RowReader.read_whole" (defArgs s_RowReader_read_whole) (defBody s_RowReader_read_whole) (defScope s_RowReader_read_whole) [] [] (d_RowReader_read_whole.at_ K) fd := T.def_ 5 7 (d := d_RowReader_read_whole) rfl rfl
theorem b_RowReader_read_whole {fd : FuncData} {f : Addr} (F : FunD K "read_whole" "RowReader.read_whole" (defArgs s_RowReader_read_whole) (defBody s_RowReader_read_whole) (defScope s_RowReader_read_whole) [] [] f fd) : Binds K fd ["self"] [] := F.bindsN fun _ _ _ _ _ _ us hl => match us, hl with | [_], _ => rfl
theorem f_read_test (T : TT K mg) : ∃ fd, FunD K "read_test" "read_test" (defArgs s_read_test) (defBody s_read_test) (defScope s_read_test) [] [] (d_read_test.at_ K) fd := T.def_ 5 8 (d := d_read_test) rfl rfl
theorem b_read_test {fd : FuncData} {f : Addr} (F : FunD K "read_test" "read_test" (defArgs s_read_test) (defBody s_read_test) (defScope s_read_test) [] [] f fd) : Binds K fd ["reader"] [] := F.bindsN fun _ _ _ _ _ _ us hl => match us, hl with | [_], _ => rfl
theorem f_read_first (T : TT K mg) : ∃ fd, FunD K "read_first" "read_first" (defArgs s_read_first) (defBody s_read_first) (defScope s_read_first) [] [] (d_read_first.at_ K) fd := T.def_ 5 9 (d := d_read_first) rfl rfl
theorem b_read_first {fd : FuncData} {f : Addr} (F : FunD K "read_first" "read_first" (defArgs s_read_first) (defBody s_read_first) (defScope s_read_first) [] [] f fd) : Binds K fd ["reader"] [] := F.bindsN fun _ _ _ _ _ _ us hl => match us, hl with | [_], _ => rfl
theorem f_Test_init (T : TT K mg) : ∃ fd, FunD K "__init__" "Test.__init__" (defArgs s_Test_init) (defBody s_Test_init) (defScope s_Test_init) [] [] (d_Test_init.at_ K) fd := T.def_ 6 0 (d := d_Test_init) rfl rfl
theorem b_Test_init {fd : FuncData} {f : Addr} (F : FunD K "__init__" "Test.__init__" (defArgs s_Test_init) (defBody s_Test_init) (defScope s_Test_init) [] [] f fd) : Binds K fd ["self", "name", "body", "reader"] [] := F.bindsN fun _ _ _ _ _ _ us hl => match us, hl with | [_, _, _, _], _ => rfl
theorem f_Test_read (T : TT K mg) : ∃ fd, FunD K "read" "Test.read" (defArgs s_Test_read) (defBody s_Test_read) (defScope s_Test_read) [] [] (d_Test_read.at_ K) fd := T.def_ 6 1 (d := d_Test_read) rfl rfl
theorem b_Test_read {fd : FuncData} {f : Addr} (F : FunD K "read" "Test.read" (defArgs s_Test_read) (defBody s_Test_read) (defScope s_Test_read) [] [] f fd) : Binds K fd ["cls", "text", "family"] [] := F.bindsN fun _ _ _ _ _ _ us hl => match us, hl with | [_, _, _], _ => rfl
theorem f__law_take (T : TT K mg) : ∃ fd, FunD K "_law_take" "_law_take" (defArgs s__law_take) (defBody s__law_take) (defScope s__law_take) [] [] (d__law_take.at_ K) fd := T.def_ 6 2 (d := d__law_take) rfl rfl
theorem b__law_take {fd : FuncData} {f : Addr} (F : FunD K "_law_take" "_law_take" (defArgs s__law_take) (defBody s__law_take) (defScope s__law_take) [] [] f fd) : Binds K fd ["_law_bag_here", "_law_many"] [] := F.bindsN fun _ _ _ _ _ _ us hl => match us, hl with | [_, _], _ => rfl
theorem f__law_of (T : TT K mg) : ∃ fd, FunD K "_law_of" "_law_of" (defArgs s__law_of) (defBody s__law_of) (defScope s__law_of) [] [] (d__law_of.at_ K) fd := T.def_ 6 3 (d := d__law_of) rfl rfl
theorem b__law_of {fd : FuncData} {f : Addr} (F : FunD K "_law_of" "_law_of" (defArgs s__law_of) (defBody s__law_of) (defScope s__law_of) [] [] f fd) : Binds K fd ["_law_bag_here", "_law_some"] [] := F.bindsN fun _ _ _ _ _ _ us hl => match us, hl with | [_, _], _ => rfl
theorem f__law_bag (T : TT K mg) : ∃ fd, FunD K "_law_bag" "_law_bag" (defArgs s__law_bag) (defBody s__law_bag) (defScope s__law_bag) [] [] (d__law_bag.at_ K) fd := T.def_ 6 4 (d := d__law_bag) rfl rfl
theorem b__law_bag {fd : FuncData} {f : Addr} (F : FunD K "_law_bag" "_law_bag" (defArgs s__law_bag) (defBody s__law_bag) (defScope s__law_bag) [] [] f fd) : Binds K fd ["_law_script", "_law_at"] [] := F.bindsN fun _ _ _ _ _ _ us hl => match us, hl with | [_, _], _ => rfl
theorem f__law_number (T : TT K mg) : ∃ fd, FunD K "_law_number" "_law_number" (defArgs s__law_number) (defBody s__law_number) (defScope s__law_number) [] [] (d__law_number.at_ K) fd := T.def_ 6 5 (d := d__law_number) rfl rfl
theorem b__law_number {fd : FuncData} {f : Addr} (F : FunD K "_law_number" "_law_number" (defArgs s__law_number) (defBody s__law_number) (defScope s__law_number) [] [] f fd) : Binds K fd ["_law_bag_here", "_law_near"] [] := F.bindsN fun _ _ _ _ _ _ us hl => match us, hl with | [_, _], _ => rfl
theorem f__law_word (T : TT K mg) : ∃ fd, FunD K "_law_word" "_law_word" (defArgs s__law_word) (defBody s__law_word) (defScope s__law_word) [] [] (d__law_word.at_ K) fd := T.def_ 6 6 (d := d__law_word) rfl rfl
theorem b__law_word {fd : FuncData} {f : Addr} (F : FunD K "_law_word" "_law_word" (defArgs s__law_word) (defBody s__law_word) (defScope s__law_word) [] [] f fd) : Binds K fd ["_law_bag_here", "_law_most"] [] := F.bindsN fun _ _ _ _ _ _ us hl => match us, hl with | [_, _], _ => rfl
theorem f__law_any_constant (T : TT K mg) : ∃ fd, FunD K "_law_any_constant" "_law_any_constant" (defArgs s__law_any_constant) (defBody s__law_any_constant) (defScope s__law_any_constant) [] [] (d__law_any_constant.at_ K) fd := T.def_ 6 7 (d := d__law_any_constant) rfl rfl
theorem b__law_any_constant {fd : FuncData} {f : Addr} (F : FunD K "_law_any_constant" "_law_any_constant" (defArgs s__law_any_constant) (defBody s__law_any_constant) (defScope s__law_any_constant) [] [] f fd) : Binds K fd ["_law_bag_here"] [] := F.bindsN fun _ _ _ _ _ _ us hl => match us, hl with | [_], _ => rfl
theorem f__law_written (T : TT K mg) : ∃ fd, FunD K "_law_written" "_law_written" (defArgs s__law_written) (defBody s__law_written) (defScope s__law_written) [] [] (d__law_written.at_ K) fd := T.def_ 6 8 (d := d__law_written) rfl rfl
theorem b__law_written {fd : FuncData} {f : Addr} (F : FunD K "_law_written" "_law_written" (defArgs s__law_written) (defBody s__law_written) (defScope s__law_written) [] [] f fd) : Binds K fd ["_law_value"] [] := F.bindsN fun _ _ _ _ _ _ us hl => match us, hl with | [_], _ => rfl
theorem f__law_call_text (T : TT K mg) : ∃ fd, FunD K "_law_call_text" "_law_call_text" (defArgs s__law_call_text) (defBody s__law_call_text) (defScope s__law_call_text) [] [] (d__law_call_text.at_ K) fd := T.def_ 6 9 (d := d__law_call_text) rfl rfl
theorem b__law_call_text {fd : FuncData} {f : Addr} (F : FunD K "_law_call_text" "_law_call_text" (defArgs s__law_call_text) (defBody s__law_call_text) (defScope s__law_call_text) [] [] f fd) : Binds K fd ["_law_name", "_law_values"] [] := F.bindsN fun _ _ _ _ _ _ us hl => match us, hl with | [_, _], _ => rfl
theorem f__law_keywords (T : TT K mg) : ∃ fd, FunD K "_law_keywords" "_law_keywords" (defArgs s__law_keywords) (defBody s__law_keywords) (defScope s__law_keywords) [] [] (d__law_keywords.at_ K) fd := T.def_ 7 0 (d := d__law_keywords) rfl rfl
theorem b__law_keywords {fd : FuncData} {f : Addr} (F : FunD K "_law_keywords" "_law_keywords" (defArgs s__law_keywords) (defBody s__law_keywords) (defScope s__law_keywords) [] [] f fd) : Binds K fd [] [] := F.bindsN fun _ _ _ _ _ _ us hl => match us, hl with | [], _ => rfl
theorem f__law_any_name (T : TT K mg) : ∃ fd, FunD K "_law_any_name" "_law_any_name" (defArgs s__law_any_name) (defBody s__law_any_name) (defScope s__law_any_name) [] [] (d__law_any_name.at_ K) fd := T.def_ 7 1 (d := d__law_any_name) rfl rfl
theorem b__law_any_name {fd : FuncData} {f : Addr} (F : FunD K "_law_any_name" "_law_any_name" (defArgs s__law_any_name) (defBody s__law_any_name) (defScope s__law_any_name) [] [] f fd) : Binds K fd ["_law_bag_here"] [] := F.bindsN fun _ _ _ _ _ _ us hl => match us, hl with | [_], _ => rfl
theorem f__law_any_call (T : TT K mg) : ∃ fd, FunD K "_law_any_call" "_law_any_call" (defArgs s__law_any_call) (defBody s__law_any_call) (defScope s__law_any_call) [] [] (d__law_any_call.at_ K) fd := T.def_ 7 2 (d := d__law_any_call) rfl rfl
theorem b__law_any_call {fd : FuncData} {f : Addr} (F : FunD K "_law_any_call" "_law_any_call" (defArgs s__law_any_call) (defBody s__law_any_call) (defScope s__law_any_call) [] [] f fd) : Binds K fd ["_law_bag_here"] [] := F.bindsN fun _ _ _ _ _ _ us hl => match us, hl with | [_], _ => rfl
theorem f__law_refused (T : TT K mg) : ∃ fd, FunD K "_law_refused" "_law_refused" (defArgs s__law_refused) (defBody s__law_refused) (defScope s__law_refused) [] [] (d__law_refused.at_ K) fd := T.def_ 7 3 (d := d__law_refused) rfl rfl
theorem b__law_refused {fd : FuncData} {f : Addr} (F : FunD K "_law_refused" "_law_refused" (defArgs s__law_refused) (defBody s__law_refused) (defScope s__law_refused) [] [] f fd) : Binds K fd ["_law_text", "_law_family"] [] := F.bindsN fun _ _ _ _ _ _ us hl => match us, hl with | [_, _], _ => rfl
theorem f__law_line (T : TT K mg) : ∃ fd, FunD K "_law_line" "_law_line" (defArgs s__law_line) (defBody s__law_line) (defScope s__law_line) [] [] (d__law_line.at_ K) fd := T.def_ 7 4 (d := d__law_line) rfl rfl
theorem b__law_line {fd : FuncData} {f : Addr} (F : FunD K "_law_line" "_law_line" (defArgs s__law_line) (defBody s__law_line) (defScope s__law_line) [] [] f fd) : Binds K fd ["_law_bag_here", "_law_state"] [] := F.bindsN fun _ _ _ _ _ _ us hl => match us, hl with | [_, _], _ => rfl
theorem f__law_seen (T : TT K mg) : ∃ fd, FunD K "_law_seen" "_law_seen" (defArgs s__law_seen) (defBody s__law_seen) (defScope s__law_seen) [] [] (d__law_seen.at_ K) fd := T.def_ 7 5 (d := d__law_seen) rfl rfl
theorem b__law_seen {fd : FuncData} {f : Addr} (F : FunD K "_law_seen" "_law_seen" (defArgs s__law_seen) (defBody s__law_seen) (defScope s__law_seen) [] [] f fd) : Binds K fd ["_law_state"] [] := F.bindsN fun _ _ _ _ _ _ us hl => match us, hl with | [_], _ => rfl
theorem f__law_mentions (T : TT K mg) : ∃ fd, FunD K "_law_mentions" "_law_mentions" (defArgs s__law_mentions) (defBody s__law_mentions) (defScope s__law_mentions) [] [] (d__law_mentions.at_ K) fd := T.def_ 7 6 (d := d__law_mentions) rfl rfl
theorem b__law_mentions {fd : FuncData} {f : Addr} (F : FunD K "_law_mentions" "_law_mentions" (defArgs s__law_mentions) (defBody s__law_mentions) (defScope s__law_mentions) [] [] f fd) : Binds K fd ["_law_state", "_law_kind", "_law_name"] [] := F.bindsN fun _ _ _ _ _ _ us hl => match us, hl with | [_, _, _], _ => rfl
theorem f__law_stands (T : TT K mg) : ∃ fd, FunD K "_law_stands" "_law_stands" (defArgs s__law_stands) (defBody s__law_stands) (defScope s__law_stands) [] [] (d__law_stands.at_ K) fd := T.def_ 7 7 (d := d__law_stands) rfl rfl
theorem b__law_stands {fd : FuncData} {f : Addr} (F : FunD K "_law_stands" "_law_stands" (defArgs s__law_stands) (defBody s__law_stands) (defScope s__law_stands) [] [] f fd) : Binds K fd ["_law_state", "_law_line_here"] [] := F.bindsN fun _ _ _ _ _ _ us hl => match us, hl with | [_, _], _ => rfl
theorem f__law_after (T : TT K mg) : ∃ fd, FunD K "_law_after" "_law_after" (defArgs s__law_after) (defBody s__law_after) (defScope s__law_after) [] [] (d__law_after.at_ K) fd := T.def_ 7 8 (d := d__law_after) rfl rfl
theorem b__law_after {fd : FuncData} {f : Addr} (F : FunD K "_law_after" "_law_after" (defArgs s__law_after) (defBody s__law_after) (defScope s__law_after) [] [] f fd) : Binds K fd ["_law_state", "_law_line_here"] [] := F.bindsN fun _ _ _ _ _ _ us hl => match us, hl with | [_, _], _ => rfl
theorem f_law (T : TT K mg) : ∃ fd, FunD K "law" "law" (defArgs s_law) (defBody s_law) (defScope s_law) [] [] (d_law.at_ K) fd := T.def_ 7 9 (d := d_law) rfl rfl
theorem b_law {fd : FuncData} {f : Addr} (F : FunD K "law" "law" (defArgs s_law) (defBody s_law) (defScope s_law) [] [] f fd) : Binds K fd ["_law_script"] [] := F.bindsN fun _ _ _ _ _ _ us hl => match us, hl with | [_], _ => rfl
end
end WP
set_option Elab.async false
set_option linter.all false
set_option maxRecDepth 100000
set_option maxHeartbeats 0
/-! the top, run once in the kernel for each thing that is looked at -/
namespace WP
open PySem PySem.Spec PyProof.Rows L2
abbrev R : PySem.W.OpenRow := PySem.W.OpenLaw.row PySem.Challenge.rw_whatpasses_k23_whole_first_wrong_line
abbrev qv : Program := PySem.W.view R.prog [87]
/-- what of an object's references is followed -/
def refsN (o : Obj) : List Addr := match o.data with
  | .seq its _ => its.toList.flatMap He.refV
  | .dict es _ => es.toList.flatMap fun e => He.refV e.val
  | .func fd => He.refV fd.code ++ (He.refV fd.defaults ++ fd.closure.map (·.2))
  | .cls cd => [cd.ns]
  | .fields vs => (match o.cls with
    | .type t => if t = "staticmethod" ∨ t = "classmethod" then vs.toList.flatMap He.refV else []
    | _ => [])
  | _ => []
def nxt (g : Addr → Option Obj) (as : List Addr) : List Addr := as.flatMap fun a => match g a with
  | some o => refsN o
  | none => []
def asN (g : Addr → Option Obj) : Nat → List Addr → List Addr
  | 0, as => as
  | n + 1, as => as ++ asN g n (nxt g as)
def kOf (g : Addr → Option Obj) : PySem.W.Frag := He.frG g (asN g 5 [mainGlobals] ++ [cStatics])
def boolK (K : PySem.W.Frag) : Bool := facB K && (okB K && extB K)
def hk : PySem.W.Hook where
  α := Bool × List (List He5.FnW) × List SupV
  obs := fun s => (boolK (kOf s.heap.get?), fnV (kOf s.heap.get?), supV (kOf s.heap.get?))
  val := fun _ => (true, fns.map (fun l => l.map He5.DefA.val), supW)
  says := fun _ h => ∃ K : PySem.W.Frag, K.In h ∧ SaysW K
  of := fun _ s e => by
    have e1 : boolK (kOf s.heap.get?) = true := congrArg (fun z : Bool × List (List He5.FnW) × List SupV => z.1) e
    have e2 : fnV (kOf s.heap.get?) = _ := congrArg (fun z : Bool × List (List He5.FnW) × List SupV => z.2.1) e
    have e3 : supV (kOf s.heap.get?) = _ := congrArg (fun z : Bool × List (List He5.FnW) × List SupV => z.2.2) e
    obtain ⟨a1, a2⟩ := He.ba e1
    obtain ⟨a3, a4⟩ := He.ba a2
    exact ⟨_, He.frG_in, a1, a3, a4, e2, e3⟩
  keeps := fun _ _ _ ⟨K, hK, c⟩ k => ⟨K, PySem.W.Frag.In.keeps hK k, c⟩
def ob (s : PySem.W.SharedT) : Bool × List (List He5.FnW) × List SupV := (boolK (kOf (HandSHeadRun.getT s)), fnV (kOf (HandSHeadRun.getT s)), supV (kOf (HandSHeadRun.getT s)))
theorem ob_eq (s : PySem.W.SharedT) : ob s = hk.obs s.abs := by
  have e : HandSHeadRun.getT s = s.abs.heap.get? := funext (HandSHeadRun.getT_eq s)
  show ob s = (boolK (kOf s.abs.heap.get?), fnV (kOf s.abs.heap.get?), supV (kOf s.abs.heap.get?))
  rw [← e] <;> rfl
open HandSHeadRun PySem.W PySem.Calls
/-- the top's run -/
noncomputable abbrev theRun (w : World) (os : OsState) : Option SharedT := endF (stepQ (denQ tabQ) R.prog w) 8000 R.prog w os
theorem run1 (w : World) (os : OsState) : (theRun w os).map (fun s => looksF R.prog (boot_heap w.params) s.abs) = some true := by kernel_rfl
theorem run2 (w : World) (os : OsState) : (theRun w os).map (fun s => seenQ qv loose (importedModules R.prog.main.body) (fun s => xlAt qv [] s && recOk R.toRowW.records s) s.abs) = some (openGood qv loose) := by kernel_rfl
theorem run3 (w : World) (os : OsState) : (theRun w os).map (fun s => boolK (kOf (getT s))) = some true := by kernel_rfl
theorem run4 (w : World) (os : OsState) : (theRun w os).map (fun s => (fnV (kOf (getT s)), supV (kOf (getT s)))) = some (fns.map (fun l => l.map He5.DefA.val), supW) := by kernel_rfl
theorem pair_of {α β γ : Type} {o : Option α} {f : α → β} {g : α → γ} {b : β} {c : γ} (h1 : o.map f = some b) (h2 : o.map g = some c) : o.map (fun s => (f s, g s)) = some (b, c) := by
  cases o with
  | none => cases h1
  | some a =>
    have e1 : f a = b := Option.some.inj h1
    have e2 : g a = c := Option.some.inj h2
    show some (f a, g a) = some (b, c)
    rw [e1, e2]
theorem run (w : World) : RunEq R qv hk ob 8000 loose w := fun os => pair_of (run1 w os) (pair_of (run2 w os) (pair_of (run3 w os) (run4 w os)))
end WP
set_option Elab.async false
set_option linter.all false
set_option maxRecDepth 100000
set_option maxHeartbeats 4000000
/-! calls by name, methods, makings; promises by the number of arguments -/
namespace WP
open PySem PySem.Spec PyProof.Rows L2 Evl
/-! ### promises -/
def sp0 (f : Hp → VK → XK → Prop) : Sp := fun vs H Q E => vs = [] ∧ f H Q E
def sp1 (f : V → Hp → VK → XK → Prop) : Sp := fun vs H Q E => ∃ a, vs = [a] ∧ f a H Q E
def sp2 (f : V → V → Hp → VK → XK → Prop) : Sp := fun vs H Q E => ∃ a b, vs = [a, b] ∧ f a b H Q E
def sp3 (f : V → V → V → Hp → VK → XK → Prop) : Sp := fun vs H Q E => ∃ a b c, vs = [a, b, c] ∧ f a b c H Q E
def sp4 (f : V → V → V → V → Hp → VK → XK → Prop) : Sp := fun vs H Q E => ∃ a b c d, vs = [a, b, c, d] ∧ f a b c d H Q E
def sp5 (f : V → V → V → V → V → Hp → VK → XK → Prop) : Sp := fun vs H Q E => ∃ a b c d e, vs = [a, b, c, d, e] ∧ f a b c d e H Q E
abbrev CXM (w : World) : CXT := L2N.CX PW w
/-- a def that may be called by its name -/
structure CalX (P : Program) (w : World) (K : PySem.W.Frag) (mg : Str → Option Value) (base : Heap) (CX : CXT) (k : Nat) (x : Str) (sp : Sp) : Prop where
  ex : ∃ f : Addr, FnR P w K mg base CX k f sp ∧ mg x = some (.ref f) ∧ PySem.W.keepIn K (.ref f) = true
/-- a method of the class at C -/
structure MetX (P : Program) (w : World) (K : PySem.W.Frag) (mg : Str → Option Value) (base : Heap) (CX : CXT) (k : Nat) (C : Addr) (m : Str) (sp : Sp) : Prop where
  ex : ∃ f : Addr, FnR P w K mg base CX k f sp ∧ Cls K C ∧ Meth K C m f
/-- a class that may be made by its name -/
structure MakX (P : Program) (w : World) (K : PySem.W.Frag) (mg : Str → Option Value) (base : Heap) (CX : CXT) (k : Nat) (x : Str) (C : Addr) (sp : Sp) : Prop where
  ex : ∃ f : Addr, FnR P w K mg base CX k f sp ∧ Mk K C f ∧ mg x = some (.ref C)
section
variable {P : Program} {w : World} {K : PySem.W.Frag} {mg : Str → Option Value} {base : Heap} {CX : CXT} {k j : Nat} {x : Str} {C : Addr} {sp sp' : Sp}
theorem CalX.imp (c : CalX P w K mg base CX k x sp) (h : ∀ vs H Q E, sp' vs H Q E → sp vs H Q E) : CalX P w K mg base CX k x sp' := by
  obtain ⟨f, F, a, b⟩ := c
  exact ⟨f, F.imp h, a, b⟩
theorem MetX.imp (c : MetX P w K mg base CX k C x sp) (h : ∀ vs H Q E, sp' vs H Q E → sp vs H Q E) : MetX P w K mg base CX k C x sp' := by
  obtain ⟨f, F, a, b⟩ := c
  exact ⟨f, F.imp h, a, b⟩
/-- from a def's record and its body -/
theorem fnR_of {N ps : List Str} {nm qual : Str} {params : Arguments} {body : List Stmt} {scope : Scope} {f : Addr} {dvs : List V} {kws : List (Str × V)} {fd : FuncData} (F : FunD K nm qual params body scope dvs kws f fd) (hb : Binds K fd ps []) (S : FnScope N ps scope)
    (len : ∀ vs H Q E, sp vs H Q E → vs.length = ps.length)
    (h : ∀ (cdv : Value) (A : Around) (outer : List Env) (s : Shared) (H : Hp) (vs : List V) (Q : VK) (E : XK), Room k (A.deeper (envOfC qual scope s.heap.objs.size f cdv)) → sp vs H Q E →
      ∃ t, PSs (cxOf CX P w K mg base N qual scope f cdv A outer s H E) body t ∧ t { nx := fun _ H' => Q .non H', rt := Q } (start N vs) H) : FnR P w K mg base CX (k + 1) f sp :=
  ((F.ok S len h).raw hb .nil).imp fun vs H Q E q => by
    rw [List.append_nil]
    exact q
end
/-- the same, by the number of the arguments: what a def's proof begins with -/
abbrev Body (CX : CXT) (P : Program) (w : World) (K : PySem.W.Frag) (mg : Str → Option Value) (base : Heap) (N : List Str) (qual : Str) (scope : Scope) (f : Addr) (body : List Stmt) (k : Nat) (f0 : List V → Hp → VK → XK → Prop) (vs : List V) : Prop :=
  ∀ (cdv : Value) (A : Around) (outer : List Env) (s : Shared) (H : Hp) (Q : VK) (E : XK), Room k (A.deeper (envOfC qual scope s.heap.objs.size f cdv)) → f0 vs H Q E →
      ∃ t, PSs (cxOf CX P w K mg base N qual scope f cdv A outer s H E) body t ∧ t { nx := fun _ H' => Q .non H', rt := Q } (start N vs) H
section
variable {P : Program} {w : World} {K : PySem.W.Frag} {mg : Str → Option Value} {base : Heap} {CX : CXT} {k : Nat} {x p1 p2 p3 p4 p5 : Str} {C : Addr}
variable {N : List Str} {nm qual : Str} {params : Arguments} {body : List Stmt} {scope : Scope} {f : Addr} {dvs : List V} {kws : List (Str × V)} {fd : FuncData}
theorem mk0 {f0 : Hp → VK → XK → Prop} (F : FunD K nm qual params body scope dvs kws f fd) (hb : Binds K fd [] []) (S : FnScope N [] scope) (h : Body CX P w K mg base N qual scope f body k (fun _ => f0) []) : FnR P w K mg base CX (k + 1) f (sp0 f0) :=
  fnR_of F hb S (fun _ _ _ _ ⟨e, _⟩ => by rw [e]; rfl) fun cdv A outer s H vs Q E hr ⟨e, q⟩ => by
    subst e
    exact h cdv A outer s H Q E hr q
theorem mk1 {f0 : V → Hp → VK → XK → Prop} (F : FunD K nm qual params body scope dvs kws f fd) (hb : Binds K fd [p1] []) (S : FnScope N [p1] scope) (h : ∀ a, Body CX P w K mg base N qual scope f body k (fun _ => f0 a) [a]) : FnR P w K mg base CX (k + 1) f (sp1 f0) :=
  fnR_of F hb S (fun _ _ _ _ ⟨_, e, _⟩ => by rw [e]; rfl) fun cdv A outer s H vs Q E hr ⟨a, e, q⟩ => by
    subst e
    exact h a cdv A outer s H Q E hr q
theorem mk2 {f0 : V → V → Hp → VK → XK → Prop} (F : FunD K nm qual params body scope dvs kws f fd) (hb : Binds K fd [p1, p2] []) (S : FnScope N [p1, p2] scope) (h : ∀ a b, Body CX P w K mg base N qual scope f body k (fun _ => f0 a b) [a, b]) : FnR P w K mg base CX (k + 1) f (sp2 f0) :=
  fnR_of F hb S (fun _ _ _ _ ⟨_, _, e, _⟩ => by rw [e]; rfl) fun cdv A outer s H vs Q E hr ⟨a, b, e, q⟩ => by
    subst e
    exact h a b cdv A outer s H Q E hr q
theorem mk3 {f0 : V → V → V → Hp → VK → XK → Prop} (F : FunD K nm qual params body scope dvs kws f fd) (hb : Binds K fd [p1, p2, p3] []) (S : FnScope N [p1, p2, p3] scope) (h : ∀ a b c, Body CX P w K mg base N qual scope f body k (fun _ => f0 a b c) [a, b, c]) : FnR P w K mg base CX (k + 1) f (sp3 f0) :=
  fnR_of F hb S (fun _ _ _ _ ⟨_, _, _, e, _⟩ => by rw [e]; rfl) fun cdv A outer s H vs Q E hr ⟨a, b, c, e, q⟩ => by
    subst e
    exact h a b c cdv A outer s H Q E hr q
theorem mk4 {f0 : V → V → V → V → Hp → VK → XK → Prop} (F : FunD K nm qual params body scope dvs kws f fd) (hb : Binds K fd [p1, p2, p3, p4] []) (S : FnScope N [p1, p2, p3, p4] scope) (h : ∀ a b c d, Body CX P w K mg base N qual scope f body k (fun _ => f0 a b c d) [a, b, c, d]) : FnR P w K mg base CX (k + 1) f (sp4 f0) :=
  fnR_of F hb S (fun _ _ _ _ ⟨_, _, _, _, e, _⟩ => by rw [e]; rfl) fun cdv A outer s H vs Q E hr ⟨a, b, c, d, e, q⟩ => by
    subst e
    exact h a b c d cdv A outer s H Q E hr q
theorem mk5 {f0 : V → V → V → V → V → Hp → VK → XK → Prop} (F : FunD K nm qual params body scope dvs kws f fd) (hb : Binds K fd [p1, p2, p3, p4, p5] []) (S : FnScope N [p1, p2, p3, p4, p5] scope) (h : ∀ a b c d e, Body CX P w K mg base N qual scope f body k (fun _ => f0 a b c d e) [a, b, c, d, e]) : FnR P w K mg base CX (k + 1) f (sp5 f0) :=
  fnR_of F hb S (fun _ _ _ _ ⟨_, _, _, _, _, e, _⟩ => by rw [e]; rfl) fun cdv A outer s H vs Q E hr ⟨a, b, c, d, e0, e, q⟩ => by
    subst e
    exact h a b c d e0 cdv A outer s H Q E hr q
end
/-! ### the rules -/
def tF (sp : Sp) (E : XK) (t : TA) : TE := fun σ H Q => t σ H fun vs H1 => sp vs H1 Q E
def tM (C : Addr) (m : Str) (sp : Sp) (E : XK) (ta : TE) (t : TA) : TE := fun σ H Q => ta σ H fun x H1 => ∃ a dx fs, x = .ref a ∧ H1 a = some (.ins C dx fs) ∧ fs.lookup m = none ∧ t σ H1 fun vs H2 => sp (x :: vs) H2 Q E
def tNev : TE := fun _ _ _ => False
section
variable {X : Cx} {CX : CXT} {k j : Nat} {f C : Addr} {sp : Sp} {E : XK} {x m : Str} {p pos apos : Pos} {e o : Expr} {es : List Expr} {ta : TE} {t : TA}
theorem wnev : PE X e tNev := ⟨fun _ _ _ _ _ _ h => h.elim⟩
theorem wgi {i : Int} (h : ∃ t, X.mg x = some (.int i t)) (hg : Gl X x := by rfl) (hd : (x == ("__debug__" : Str)) = false := by decide) : PE X (.Name x pos) (tC (.int i)) := by
  obtain ⟨t, h⟩ := h
  exact pe_glob hg h ⟨_, rfl⟩ hd
theorem wgs {z : Str} (h : ∃ t, X.mg x = some (.str z t)) (hg : Gl X x := by rfl) (hd : (x == ("__debug__" : Str)) = false := by decide) : PE X (.Name x pos) (tC (.str z)) := by
  obtain ⟨t, h⟩ := h
  exact pe_glob hg h ⟨_, rfl⟩ hd
theorem wgr {a : Addr} (h : X.mg x = some (.ref a)) (hg : Gl X x := by rfl) (hd : (x == ("__debug__" : Str)) = false := by decide) : PE X (.Name x pos) (tC (.ref a)) := pe_glob hg h rfl hd
theorem wc (c : CalX X.prog X.w X.K X.mg X.base CX k x sp) (hr : Room j X.A) (hk : k ≤ j) (hx : Passes CX X E) (ha : PA X (e :: es) t) (hg : Gl X x := by rfl)
    (hdb : (x == ("__debug__" : Str)) = false := by decide) (he : starEach (e :: es) X.env = (false, eval e X.env) :: starEach es X.env := by rfl) (hpl : (backTo pos (starEach es X.env)).any (·.1) = false := by rfl) :
    PE X (.Call (.Name x p) (e :: es) [] pos) (tF sp E t) := by
  obtain ⟨f, F, hm, kp⟩ := c
  refine ⟨fun pins s σ H Q I h => ?_⟩
  refine wpAny_Call_Name_kw (ld_glob I hg hm ?_ hdb)
  refine PySem.W.callWith_K (h₀ := X.base) I.ok.mod.kin kp (thn (ha.run pos pins s σ H _ I h) fun us s1 ⟨vs, H1, I1, r, q⟩ => ⟨I1.kIn, ?_⟩) he hpl
  exact wpAny_call (run_fnR F (hr.mono hk) hx I1 r q)
theorem wc0 (c : CalX X.prog X.w X.K X.mg X.base CX k x sp) (hr : Room j X.A) (hk : k ≤ j) (hx : Passes CX X E) (hg : Gl X x := by rfl)
    (hdb : (x == ("__debug__" : Str)) = false := by decide) : PE X (.Call (.Name x p) [] [] pos) (tF sp E tNil) := by
  obtain ⟨f, F, hm, kp⟩ := c
  refine ⟨fun pins s σ H Q I h => ?_⟩
  refine wpAny_Call_Name_kw (ld_glob I hg hm ?_ hdb)
  exact PySem.W.callWith_K0 I.kIn kp (wpAny_call (run_fnR (us := []) (vs := []) F (hr.mono hk) hx I .nil h))
theorem wm {pl : Sem Bool} (c : MetX X.prog X.w X.K X.mg X.base CX k C m sp) (hr : Room j X.A) (hk : k ≤ j) (hx : Passes CX X E) (he : PE X o ta) (ha : PA X (e :: es) t)
    (hst : starEach (e :: es) X.env = (false, eval e X.env) :: starEach es X.env := by rfl) (hpl : (backTo pos (starEach es X.env)).any (·.1) = false := by rfl)
    (ht : eval (.Call (.Attribute o m apos) (e :: es) [] pos) X.env = (do
      let ov ← eval o X.env
      standAt apos.atName
      let (f, first) ← holding [ov] (getMethod ov m pl)
      callWith pos f first (backTo pos (starEach (e :: es) X.env)) (backToKw pos (keywordEach [] X.env))) := by rfl) :
    PE X (.Call (.Attribute o m apos) (e :: es) [] pos) (tM C m sp E ta t) := by
  obtain ⟨f, F, cl, hm⟩ := c
  refine ⟨fun pins s σ H Q I h => ?_⟩
  refine PySem.W.methodCall_KW (pl := pl) (thn (he.run pins s σ H _ I h) fun u s1 ⟨x, H1, I1, rx, a, dx, fs, ex, ea, l, q⟩ => ?_) ht
  subst ex
  obtain rfl : u = Value.ref a := rx
  refine getmeth_ok I1 ea cl hm l ?_
  refine PySem.W.callWith_K (first := [.ref a]) (h₀ := X.base) I.ok.mod.kin hm.kp (thn (ha.run pos pins s1 σ H1 _ I1 q) fun us s2 ⟨vs, H2, I2, r, q2⟩ => ⟨I2.kIn, ?_⟩) hst hpl
  exact wpAny_call (run_fnR (us := .ref a :: us) (vs := .ref a :: vs) F (hr.mono hk) hx I2 (.cons rfl r) q2)
theorem wm0 {pl : Sem Bool} (c : MetX X.prog X.w X.K X.mg X.base CX k C m sp) (hr : Room j X.A) (hk : k ≤ j) (hx : Passes CX X E) (he : PE X o ta)
    (ht : eval (.Call (.Attribute o m apos) [] [] pos) X.env = (do
      let ov ← eval o X.env
      standAt apos.atName
      let (f, first) ← holding [ov] (getMethod ov m pl)
      callWith pos f first (backTo pos (starEach [] X.env)) (backToKw pos (keywordEach [] X.env))) := by rfl) :
    PE X (.Call (.Attribute o m apos) [] [] pos) (tM C m sp E ta tNil) := by
  obtain ⟨f, F, cl, hm⟩ := c
  refine ⟨fun pins s σ H Q I h => ?_⟩
  refine PySem.W.methodCall_KW (pl := pl) (thn (he.run pins s σ H _ I h) fun u s1 ⟨x, H1, I1, rx, a, dx, fs, ex, ea, l, q⟩ => ?_) ht
  subst ex
  obtain rfl : u = Value.ref a := rx
  refine getmeth_ok I1 ea cl hm l ?_
  exact PySem.W.callWith_K0 (first := [.ref a]) I1.kIn hm.kp (wpAny_call (run_fnR (us := [.ref a]) (vs := [.ref a]) F (hr.mono hk) hx I1 (.cons rfl .nil) q))
theorem wk (c : MakX X.prog X.w X.K X.mg X.base CX k x C sp) (hr : Room j X.A) (hk : k + 1 ≤ j) (hx : Passes CX X E) (ha : PA X (e :: es) t) (hg : Gl X x := by rfl)
    (hdb : (x == ("__debug__" : Str)) = false := by decide) (he : starEach (e :: es) X.env = (false, eval e X.env) :: starEach es X.env := by rfl) (hpl : (backTo pos (starEach es X.env)).any (·.1) = false := by rfl) :
    PE X (.Call (.Name x p) (e :: es) [] pos) (StX.tMakeR C sp E t) := by
  obtain ⟨f, F, M, hm⟩ := c
  exact StX.pe_makeR M F (hr.mono hk) hg hm hx ha hdb he hpl
/-- what a callee lets out is this def's own way out -/
theorem passE {P : Program} {w : World} {K : PySem.W.Frag} {mg : Str → Option Value} {base : Heap} {N : List Str} {q : Str} {sc : Scope} {f : Addr} {cdv : Value} {A : Around} {outer : List Env} {s : Shared} {H : Hp} {E : XK} :
    Passes (L2N.CX P w) (cxOf (L2N.CX P w) P w K mg base N q sc f cdv A outer s H E) E := L2N.passes_call (L2N.takes_of rfl rfl rfl rfl) (fun _ _ _ _ h => h)
end
/-! ### what a call evaluates to -/
section
variable {σ : L2.St} {H H' : Hp} {ta te : TE} {t : TA} {x y z v : V} {vs : List V} {sp : Sp} {E : XK} {C : Addr} {m : Str}
theorem ev_f (ha : EvA t σ H vs) (h : ∀ H1, Ex H H1 → ∀ Q : VK, (∀ H2, Ex H1 H2 → Q z H2) → sp vs H1 Q E) : Ev (tF sp E t) σ H z := fun H1 e Q q =>
  ha H1 e _ fun H2 e2 => h H2 (e.trans e2) Q fun H3 e3 => q H3 (e2.trans e3)
end
/-! ### what changes: all but M stands -/
def Ch (M : Addr → Prop) (H H' : Hp) : Prop := ∀ a o, H a = some o → ¬ M a → H' a = some o
theorem Ch.refl {M : Addr → Prop} (H : Hp) : Ch M H H := fun _ _ h _ => h
theorem Ch.trans {M : Addr → Prop} {H H1 H2 : Hp} (a : Ch M H H1) (b : Ch M H1 H2) : Ch M H H2 := fun x o h n => b x o (a x o h n) n
theorem Ch.mono {M M' : Addr → Prop} {H H1 : Hp} (a : Ch M H H1) (h : ∀ x, M x → M' x) : Ch M' H H1 := fun x o e n => a x o e fun m => n (h x m)
theorem Ch.of_ex {M : Addr → Prop} {H H1 : Hp} (a : Ex H H1) : Ch M H H1 := fun x o h _ => a x o h
theorem Ch.set {M : Addr → Prop} {H H1 : Hp} {p : Addr} {o : HO} (a : Ch M H H1) (h : M p) : Ch M H (upd H1 p o) := fun x u e n => by
  rw [upd_ne (fun z => n (by rw [z]; exact h))]
  exact a x u e n
theorem Ch.fresh {M : Addr → Prop} {H H1 : Hp} {p : Addr} {o : HO} (a : Ch M H H1) (h : H1 p = none) : Ch M H (upd H1 p o) := fun x u e n => by
  rw [upd_ne (ne_of_none (a x u e n) h)]
  exact a x u e n
theorem Ex.ch {H H1 : Hp} (a : Ch (fun _ => False) H H1) : Ex H H1 := fun x o h => a x o h (fun z => z)
end WP
set_option Elab.async false
set_option linter.all false
set_option maxRecDepth 100000
set_option maxHeartbeats 4000000
/-! enumerate over a tuple -/
namespace WEn
open PySem PySem.Spec PyProof.Rows L2
theorem meetsT {v : Value} {o : Obj} {G : Heap → Prop} (B : Begins v o G) :
    Meets (Builtin.«enumerate.__new__» ⟨[.type "enumerate", v], []⟩) (fun _ R z => G z.heap ∧
      R (.ok (.ret (.ref (z.heap.push o).objs.size))) { z with heap := (z.heap.push o).push ⟨.type "enumerate", none, .fields #[.none, .bool false, .ref z.heap.objs.size, rawInt 0, .none, .none], #[]⟩ }) :=
  .of_wp fun prog w A R z hz => by
    obtain ⟨hp, g, d, tk, os⟩ := z
    obtain ⟨g1, hz⟩ := hz
    have sub := sub_enumerate
    have walkIt : ∀ {A1 : Around} {E1 : Value → Shared → Prop} {Q1 : Value → Shared → Prop}, Q1 (.ref hp.objs.size) ⟨hp.push o, g, d, tk, os⟩ → wpAny (model prog w) A1 (pyIter v) Q1 E1 ⟨hp, g, d, tk, os⟩ :=
      fun q => B.iter prog w _ _ ⟨hp, g, d, tk, os⟩ _ g1 q
    wp_walk using walkIt
    refine wpAny_stack_any fun _ => wpAny_pure ?_
    split
    · rename_i c _ _ _ _ _
      cases (c == Value.type "enumerate")
      · wp_walk using walkIt
        exact ⟨_, rfl, hz⟩
      · wp_walk using walkIt
        exact ⟨_, rfl, hz⟩
    · wp_walk using walkIt
      exact ⟨_, rfl, hz⟩
section
variable {prog : Program} {w : World} {A : Around} {E : Value → Shared → Prop} {s : Shared}
theorem callT {v : Value} {o : Obj} {G : Heap → Prop} {Q : Value → Shared → Prop} (B : Begins v o G) (g1 : G s.heap)
    (h : ∀ h', IsEnum h' (s.heap.objs.size + 1) s.heap.objs.size 0 .none → h'.get? s.heap.objs.size = some o → (∀ b u, s.heap.get? b = some u → h'.get? b = some u) → Q (.ref (s.heap.objs.size + 1)) { s with heap := h' }) :
    wpAny (model prog w) A (call (.type "enumerate") [v]) Q E s := by
  refine callType_new PySem.F.called_enumerate (by decide) (PySem.F.typeCall_enumerate_1 _) (PySem.F.newCall_enumerate_1 _) (fun obj => PySem.F.args_object_init_2 obj _) PySem.F.entry_enumerate_new (meetsT B) ⟨g1, ?_⟩
  have hz : (s.heap.push o).objs.size = s.heap.objs.size + 1 := Heap.size_push ..
  show _ ∧ _
  rw [hz]
  have he : IsEnum ((s.heap.push o).push ⟨.type "enumerate", none, .fields #[.none, .bool false, .ref s.heap.objs.size, rawInt 0, .none, .none], #[]⟩) (s.heap.objs.size + 1) s.heap.objs.size 0 .none := by
    have q := Heap.get?_push_size (s.heap.push o) (o := ⟨.type "enumerate", none, .fields #[.none, .bool false, .ref s.heap.objs.size, rawInt 0, .none, .none], #[]⟩) rfl
    rw [hz] at q
    exact q
  exact ⟨⟨_, he, rfl⟩, h _ he (Heap.get?_push_of_some _ (Heap.get?_push_size _ B.free)) fun b u x => Heap.get?_push_of_some _ (Heap.get?_push_of_some _ x)⟩
end
/-- the tuple at a, each item in a new pair -/
def Iteu (K : PySem.W.Frag) (a : Addr) : It :=
  ⟨fun i H => ∃ (xs : List V) (x : V), SqT K H a xs ∧ xs[i]? = some x, fun i H v H' => ∃ T x, v = .ref T ∧ H T = none ∧ H' = upd H T (.tup [.int (i : Nat), x]) ∧ ∀ xs, SqT K H a xs → xs[i]? = some x, fun i H => ∃ xs : List V, SqT K H a xs ∧ xs.length = i⟩
theorem turnT {P : Program} {w : World} {K : PySem.W.Frag} {elts : List Expr} {kk : Nat} {tpos : Pos} (a e it : Addr) :
    Turn P w K (.Tuple elts kk tpos) (Iteu K a) [e, it] e (fun i h => (∃ old, IsEnum h e it ((i : Nat) : Int) old) ∧ h.IsTupleIter it a i ∧ e ≠ it) where
  mem := by simp
  obj := fun i h st b hb => by
    obtain ⟨⟨old, he⟩, ⟨o, ho, hc, hd⟩, _⟩ := st
    rcases (show b = e ∨ b = it by simpa using hb) with z | z
    · rw [z]
      exact ⟨_, he, fun v q => nomatch q⟩
    · rw [z]
      exact ⟨o, ho, fun v q => by rw [hd] at q; cases q⟩
  keep := fun i h h' st k => let ⟨⟨old, he⟩, hi, hne⟩ := st; ⟨⟨old, k e (by simp) _ he⟩, hi.at fun o q => k it (by simp) o q, hne⟩
  item := by
    intro X hP hw hK hc i pins s σ H E I hf st hg
    subst hP hw hK
    obtain ⟨⟨old, he⟩, hit, hne⟩ := st
    obtain ⟨xs, x, hq, hx⟩ := hg
    obtain ⟨its, rv, p, hz⟩ := I.tuple hq
    have pt : s.heap.IsTuple a its.toArray := p
    obtain ⟨u, hu, ru⟩ := rv.get hx
    have hel : e < s.heap.objs.size := Heap.lt_size he
    have hai : a ≠ it := fun z => by
      obtain ⟨o1, h1, c1, _⟩ := hit
      obtain ⟨o2, h2, c2, _⟩ := pt
      rw [z, h1] at h2
      rw [← Option.some.inj h2, c1] at c2
      exact absurd c2 (by decide +kernel)
    have hae : e ≠ a := fun z => by
      obtain ⟨o2, h2, c2, _⟩ := pt
      rw [← z, show s.heap.get? e = some _ from he] at h2
      rw [← Option.some.inj h2] at c2
      exact absurd (show Value.type "enumerate" = Value.type "tuple" from c2) (by decide +kernel)
    have D := Draws.tuple (prog := X.prog) (w := X.w) (A := X.A.in1) (I.ok.hd hc) it a hai its.toArray
    have hlt : i < its.toArray.size := by
      rw [List.size_toArray]
      exact (List.getElem?_eq_some_iff.mp hu).1
    refine wpAny_pyNext_enum_itemD D he ⟨hit, pt⟩ hlt hne (by simp [hne, hae]) fun y h' tk py ho st' hT hsz hk => ?_
    have ey : y = u := by
      have e1 : its[i]? = some y := by simpa using py
      rw [hu] at e1
      exact (Option.some.inj e1).symm
    subst ey
    refine ⟨_, rfl, wpAny_letOwnedTupleGo_enum (s := { s with heap := h', toks := tk + 1 }) ho fun h'' he' sb => ?_⟩
    have hT2 : h''.get? s.heap.objs.size = some { cls := .type "tuple", data := .seq #[.int i tk, y] } := (sb.2 _ (Nat.ne_of_gt hel)).trans hT
    have new : ObjOk X.prog X.w (upd H s.heap.objs.size (.tup [.int (i : Nat), x])) h'' s.heap.objs.size (.tup [.int (i : Nat), x]) :=
      ⟨by show 2 ≤ sizeLine; decide, [.int i tk, y], .cons ⟨_, rfl⟩ (.cons ru .nil), ⟨_, hT2, rfl, _, rfl⟩⟩
    have I1 : Inv X pins σ (upd H s.heap.objs.size (.tup [.int (i : Nat), x])) { s with heap := h'', toks := tk + 1 } :=
      I.turnedNew (ch := [e, it]) (fun b ob hb q => (sb.2 b (fun z => hb (by simp [z]))).trans (hk b ob (fun z => hb (by simp [z])) (fun z => hb (by simp [z])) q)) hf (Nat.le_refl _) new
    refine ⟨.ref s.heap.objs.size, _, I1, rfl, ⟨_, x, rfl, I.hok.fresh (Nat.le_refl _), rfl, fun ys hy => by rw [I.tuple_inj hy hq]; exact hx⟩, ⟨⟨y, ?_⟩, st'.1.at fun o q => (sb.2 it (Ne.symm hne)).trans q, hne⟩, fun b hb => ?_⟩
    · rw [show ((i + 1 : Nat) : Int) = (i : Int) + 1 by omega]
      exact he'
    · have hb' : b < s.heap.objs.size := by
        rcases (show b = e ∨ b = it by simpa using hb) with z | z
        · rw [z]; exact hel
        · rw [z]
          obtain ⟨_, q, _⟩ := hit
          exact Heap.lt_size q
      rw [upd_ne (Nat.ne_of_lt hb')]
      exact (hf b hb).1
  done := by
    intro X hP hw hK hc i pins s σ H E I hf st hg
    subst hP hw hK
    obtain ⟨⟨old, he⟩, hit, hne⟩ := st
    obtain ⟨xs, hq, hx⟩ := hg
    obtain ⟨its, rv, p, hz⟩ := I.tuple hq
    have pt : s.heap.IsTuple a its.toArray := p
    obtain ⟨f0, f1, f2, f3, f4, f5⟩ := hf it (by simp)
    have hai : a ≠ it := fun z => by
      obtain ⟨o1, h1, c1, _⟩ := hit
      obtain ⟨o2, h2, c2, _⟩ := pt
      rw [z, h1] at h2
      rw [← Option.some.inj h2, c1] at c2
      exact absurd c2 (by decide +kernel)
    have hn : i = its.toArray.size := by
      have hl := rv.length
      rw [List.size_toArray]
      omega
    have D := Draws.tuple (prog := X.prog) (w := X.w) (A := X.A.in1) (I.ok.hd hc) it a hai its.toArray
    exact wpAny_pyNext_enum_endD D he ⟨hn ▸ hit, pt⟩ fun h' eb => ⟨rfl, I.turned (t' := s.toks) (fun b o hb q => eb b o hb q) f0 f1 f3 f4 f5⟩
  self := fun A i s Q E st h => let ⟨⟨_, he⟩, _⟩ := st; wpAny_pyIter_enum he h
section
variable {X : Cx}
def iEnT (K : PySem.W.Frag) (ta : TA) : TI := fun σ H R => ta σ H fun vs H1 => ∃ a xs, vs = [.ref a] ∧ SqT K H1 a xs ∧ R (Iteu K a) H1
theorem pi_enumT {e : Expr} {ta : TA} {p pos tpos : Pos} {elts : List Expr} {kk : Nat} (hg : Gl X "enumerate") (hm : X.mg "enumerate" = none) (ha : PA X [e] ta) (hs : starEach [e] X.env = [(false, eval e X.env)] := by rfl) :
    PI X (.Tuple elts kk tpos) (.Call (.Name "enumerate" p) [e] [] pos) (iEnT X.K ta) := by
  refine ⟨fun pins s σ H R I h => ?_⟩
  refine Call_ (ld_blt I hg hm boot_enumerate (PyProof.Rows.callWith_type1 (thn (ha.run pos pins s σ H _ I h) fun us s1 ⟨vs, H1, I1, r1, q1⟩ => ?_) hs rfl))
  obtain ⟨a, xs, ex, hq, q⟩ := q1
  subst ex
  cases r1 with
  | cons r rr =>
    cases rr
    cases r
    obtain ⟨its, rv, p', hz⟩ := I1.tuple hq
    refine callT (begins_tuple a its.toArray) (show s1.heap.IsTuple a its.toArray from p') fun h' he hit hk => wpAny_pyIter_enum he ?_
    have I2 : Inv X pins σ H1 { s1 with heap := h' } := I1.kept (t' := s1.toks) hk
    refine ⟨s1.heap.objs.size + 1, [s1.heap.objs.size + 1, s1.heap.objs.size], _, _, H1, rfl, I2, turnT a (s1.heap.objs.size + 1) s1.heap.objs.size, ⟨⟨.none, he⟩, ⟨_, hit, rfl, rfl⟩, Nat.succ_ne_self _⟩, fun b hb => ?_, q⟩
    have hle : s1.heap.objs.size ≤ b := by
      rcases (show b = s1.heap.objs.size + 1 ∨ b = s1.heap.objs.size by simpa using hb) with z | z
      · rw [z]; exact Nat.le_add_right _ _
      · rw [z]; exact Nat.le_refl _
    exact I1.fpOk hle (I1.hok.fresh hle)
/-- a for over it, a pair of names -/
theorem walkT {K : PySem.W.Frag} {a : Addr} {xs : List V} : Walk (Iteu K a) xs.length (fun H => SqT K H a xs) (fun i H v H' => ∃ T x, v = .ref T ∧ H T = none ∧ H' = upd H T (.tup [.int (i : Nat), x]) ∧ xs[i]? = some x) :=
  ⟨fun i _ hi q => ⟨xs, xs[i], q, by simp [hi]⟩, fun _ q => ⟨xs, q, rfl⟩, fun _ _ _ _ _ q y => by
    obtain ⟨T, x, e1, e2, e3, e4⟩ := y
    exact ⟨T, x, e1, e2, e3, e4 xs q⟩⟩
end
end WEn
set_option Elab.async false
set_option linter.all false
set_option maxRecDepth 100000
set_option maxHeartbeats 4000000
/-! rules of our own -/
namespace WP
open PySem PySem.Spec PyProof.Rows L2 Evl
section
variable {X : Cx} {a b : Expr} {ta tb : TE}
/-- text * int: some text of that length -/
def rMulS : R2 := fun x y H Q => ∃ z n, x = .str z ∧ y = .int n ∧ 0 ≤ n ∧ n ≤ 1000 ∧ z.length ≤ 1000 ∧ ∀ u : Str, u.length ≤ 1000000 → Q (.str u) H
theorem foldl_size : ∀ (n : Nat) (c acc : Array Nat), ((List.replicate n c).foldl (· ++ ·) acc).size = acc.size + n * c.size
  | 0, c, acc => by simp
  | n + 1, c, acc => by
    rw [List.replicate_succ, List.foldl_cons, foldl_size n c (acc ++ c), Array.size_append, Nat.succ_mul]
    omega
theorem op_mulS : OpR X (binaryOp .Mult) rMulS := by
  intro pins s σ H x y v u Q I rx ry h
  obtain ⟨z, n, rfl, rfl, h0, h1, hz, q⟩ := h
  obtain ⟨t, rfl⟩ := rx
  obtain ⟨t', rfl⟩ := ry
  have hl : Builtin.Str.tooLong (z.length * n.toNat) = false := by
    have : z.length * n.toNat ≤ 1000 * 1000 := Nat.mul_le_mul hz (by omega)
    unfold Builtin.Str.tooLong
    rw [decide_eq_false (Nat.not_lt.mpr (Nat.le_trans this (by decide)))]
  refine PySem.P.mul_str ?_ (fun g _ => ?_) (fun _ _ => hl) ?_
  · rw [decide_eq_false (by omega), decide_eq_false (by omega)]; rfl
  · have e : (2 ^ 63 - 1 : Int) / n ≥ (2 ^ 63 - 1) / 1000 := by
      have : (2 ^ 63 - 1 : Int) / 1000 * n ≤ 2 ^ 63 - 1 := by
        have h2 : (2 ^ 63 - 1 : Int) / 1000 * n ≤ (2 ^ 63 - 1 : Int) / 1000 * 1000 := Int.mul_le_mul_of_nonneg_left h1 (by decide)
        exact Int.le_trans h2 (by decide)
      exact Int.le_ediv_of_mul_le (by omega) this
    have e2 : ((2 ^ 63 - 1 : Int) / 1000) ≥ 1000 := by decide
    omega
  · split
    · exact ⟨by decide, ⟨.str Str.empty, H, I.tok _, ⟨_, rfl⟩, q _ (by decide)⟩⟩
    · split
      · exact ⟨.str z, H, I, ⟨_, rfl⟩, q z (by omega)⟩
      · have hu : (⟨(List.replicate n.toNat z.cps).foldl (· ++ ·) #[]⟩ : Str).length ≤ 1000000 := ?_
        · exact ⟨Nat.le_trans hu (by decide), ⟨.str _, H, I.tok _, ⟨_, rfl⟩, q _ hu⟩⟩
        show ((List.replicate n.toNat z.cps).foldl (· ++ ·) #[]).size ≤ 1000000
        rw [foldl_size]
        have : n.toNat * z.cps.size ≤ 1000 * 1000 := Nat.mul_le_mul (by omega) hz
        simp only [Array.size_empty]
        omega
theorem call_or {f : Value} {r r' : List V → Hp → VK → Prop} (h : CallR X f r) (h' : CallR X f r') : CallR X f (fun xs H Q => r xs H Q ∨ r' xs H Q) := by
  intro pins s σ H xs us Q I r0 q
  rcases q with q | q
  · exact h pins s σ H xs us Q I r0 q
  · exact h' pins s σ H xs us Q I r0 q
/-- raise Misread('..') -/
theorem ps_misread {P : Program} {w : World} {K : PySem.W.Frag} {mg : Str → Option Value} {base : Heap} {N : List Str} {q : Str} {sc : Scope} {f : Addr} {cdv : Value} {A : Around} {outer : List Env} {s : Shared} {H : Hp} {E : XK} {m : Str} {j : Nat} {p p2 pos p3 : Pos}
    (T : TT K mg) (hc : (cxOf (L2N.CX P w) P w K mg base N q sc f cdv A outer s H E).calm = true := by rfl) (hg : Gl (cxOf (L2N.CX P w) P w K mg base N q sc f cdv A outer s H E) "Misread" := by rfl) :
    PS (cxOf (L2N.CX P w) P w K mg base N q sc f cdv A outer s H E) (.Raise (some (.Call (.Name "Misread" p) [.Constant (.str m) j p2] [] pos)) none p3) (fun _ _ H' => E (.ref (He.ga K "Misread")) none H') := by
  obtain ⟨x1, x2, x3, x4⟩ := x_Misread T
  exact L2N.ps_raise hc (L2N.takes_of rfl rfl rfl rfl) (L2N.pmk_own PySem.F.excBase_ValueError x1 (g_Misread T) x2 (raises_own x3 x4) hg)
end
/-! ### word not in family: its own __contains__ -/
def rFam (C : Addr) (sp : Sp) (E : XK) (neg : Bool) : R2 := fun x y H Q => ∃ a dx fs, y = .ref a ∧ H a = some (.ins C dx fs) ∧ sp [y, x] H (fun v H' => ∃ b, v = .bl b ∧ Q (.bl (if neg then !b else b)) H') E
section
variable {X : Cx} {CX : CXT} {k j : Nat} {C : Addr} {sp : Sp} {E : XK}
theorem op_notInC (c : MetX X.prog X.w X.K X.mg X.base CX k C "__contains__" sp) (hr : Room j X.A) (hk : k ≤ j) (hx : Passes CX X E) : OpR X (compareOp .NotIn) (rFam C sp E true) := by
  obtain ⟨g, F, cl, me⟩ := c
  intro pins s σ H x y v u Q I rx ry h
  obtain ⟨a, dx, fs, rfl, ha, q⟩ := h
  cases (show u = Value.ref a from ry)
  obtain ⟨mA, O, _⟩ := ins_get I.hok ha
  obtain ⟨od, J, _⟩ := O.look
  obtain ⟨m, hF⟩ := I.fr
  refine PySem.W.notIn_K hF I.ok.mod.kin J me.at_ me.fn ?_
  refine wpAny_mono (wpAny_call (run_fnR (us := [.ref a, v]) (vs := [.ref a, x]) F (hr.mono hk) hx I (.cons rfl (.cons rx .nil)) q)) (fun z s' hz => ?_) fun _ _ x => x
  obtain ⟨z', H', I', rz, b, ez, qz⟩ := hz
  subst ez
  cases rz
  exact wpAny_truthy_bool ⟨.bl (!b), H', I', rfl, qz⟩
theorem pairs2 {pins : List (Addr × Obj)} {σ : L2.St} {H : Hp} {s : Shared} (I : Inv X pins σ H s) : ∀ {ps : List Addr} {kvs : List (Key × V)}, Paired (fun p kv => SqT X.K H p [kV kv.1, kv.2]) ps kvs →
    ∃ prs : List (Key × Value × Value), KV kvs (prs.map fun q => (q.1, q.2.2)) ∧ prs.length = ps.length ∧ ∀ (j : Nat) (q : Key × Value × Value), prs[j]? = some q → ∃ b : Addr, ps[j]? = some b ∧ s.heap.IsTuple b #[q.2.1, q.2.2] ∧ (mixKind X.prog X.w).is q.1 q.2.1 = true
  | _, _, .nil => ⟨[], .nil, rfl, fun j q e => by simp at e⟩
  | _, _, .cons (a := p) (b := kv) h t => by
    obtain ⟨prs, r, hl, hp⟩ := pairs2 I t
    obtain ⟨its, rv, ht, _⟩ := I.tuple h
    obtain ⟨u, y, ei, ru, ry⟩ := vals2 rv
    subst ei
    refine ⟨(kv.1, u, y) :: prs, .cons ⟨rfl, ry⟩ r, congrArg Nat.succ hl, fun j q e => ?_⟩
    cases j with
    | zero =>
      obtain rfl := Option.some.inj (show some (kv.1, u, y) = some q from e)
      exact ⟨p, rfl, ht, kV_is ru⟩
    | succ j => exact hp j q e
/-- dict(t), t a written tuple of written pairs -/
theorem call_dictT (hcalm : X.calm = true) : CallR X (.type "dict") (fun xs H Q => ∃ (a : Addr) (ps : List Addr) (kvs : List (Key × V)), xs = [.ref a] ∧ (∃ o its n, X.K.lookup a = some o ∧ o.cls = .type "tuple" ∧ o.dict = none ∧ o.data = .seq its n) ∧
    SqT X.K H a (ps.map V.ref) ∧ Paired (fun p kv => SqT X.K H p [kV kv.1, kv.2]) ps kvs ∧ ∀ p, H p = none → Q (.ref p) (upd H p (.dK (mergeK [] kvs)))) := by
  intro pins s σ H xs us Q I r q
  obtain ⟨a, ps, kvs, ex, ⟨oa, ia, na, la, ca, da, ta⟩, hq, hp, q⟩ := q
  subst ex
  obtain ⟨u, eu, rx⟩ := vals1 r
  subst eu
  cases rx
  obtain ⟨its, rv, pl, hz⟩ := I.tuple hq
  have ei := refs_at rv
  subst ei
  rw [List.length_map] at hz
  have ga : s.heap.get? a = some oa := I.kIn _ _ la
  have pt : s.heap.IsTuple a (ps.map Value.ref).toArray := pl
  have eit : ia = (ps.map Value.ref).toArray := by
    obtain ⟨o2, h2, _, n2, d2⟩ := pt
    rw [ga] at h2
    rw [← Option.some.inj h2, ta] at d2
    exact (Data.seq.inj d2).1
  subst eit
  obtain ⟨prs, rel, hl, hpr⟩ := pairs2 I hp
  let Ts : Nat → Addr := fun j => (ps[j]?).getD 0
  have P := PairArg.tuple (prog := X.prog) (w := X.w) a (ps.map Value.ref).toArray Ts (prs.map (·.2))
  have hm : (s.heap.objs.size == sysModules) = false := beq_eq_false_iff_ne.mpr (Nat.ne_of_gt I.big)
  have hps : ∀ j k v, (prs.map (·.2))[j]? = some (k, v) → (ps.map Value.ref).toArray[j]? = some (.ref (Ts j)) ∧ PairAt s.heap (Ts j) k v := fun j k v e => by
    rw [List.getElem?_map] at e
    cases e1 : prs[j]? with
    | none => rw [e1] at e; cases e
    | some q0 =>
      rw [e1] at e
      obtain ⟨b, e2, e3, _⟩ := hpr j q0 e1
      have e4 : q0.2 = (k, v) := Option.some.inj e
      rw [e4] at e3
      have e5 : Ts j = b := by
        show (ps[j]?).getD 0 = b
        rw [e2]
        rfl
      rw [e5]
      exact ⟨by simp [e2], .inl e3⟩
  refine PySem.call_dict_pairs (knd := mixKind X.prog X.w) (kvs := prs.map fun q => (q.1, q.2.2)) P (I.ok.hd hcalm) ⟨⟨oa, na, ga, ca, da, ta⟩, by simp [hl], hps⟩ ⟨by simp, fun i key v e => ?_⟩ (by rw [List.length_map, hl]; exact hz) fun h' tk hd' k => ?_
  · have e : (prs.map (·.2))[i]? = some (key, v) := e
    rw [List.getElem?_map] at e
    cases e1 : prs[i]? with
    | none => rw [e1] at e; cases e
    | some q0 =>
      rw [e1] at e
      obtain ⟨b, _, _, e3⟩ := hpr i q0 e1
      have e4 : q0.2 = (key, v) := Option.some.inj e
      rw [e4] at e3
      exact ⟨q0.1, by rw [List.getElem?_map, e1]; show some (q0.1, q0.2.2) = _; rw [e4], e3⟩
  · have hlen : (mergeK [] kvs).length ≤ sizeLine := by
      refine Nat.le_trans (length_mergeK kvs []) ?_
      have e1 : kvs.length = (prs.map fun q => (q.1, q.2.2)).length := rel.length
      rw [List.length_nil, Nat.zero_add, e1, List.length_map, hl]
      exact hz
    exact ⟨.ref s.heap.objs.size, upd H s.heap.objs.size (.dK (mergeK [] kvs)), I.laid (t' := tk) (fun b o e => k b o (by simp) e) (Nat.le_refl _) (show ObjOk X.prog X.w _ _ _ (.dK (mergeK [] kvs)) from ⟨hlen, hm, _, KV.merge rel .nil, hd'⟩), rfl, q _ (I.hok.fresh (Nat.le_refl _))⟩
end
end WP
set_option Elab.async false
set_option linter.all false
set_option maxRecDepth 100000
set_option maxHeartbeats 4000000
/-! what readings evaluate to: more of HandS.Evl's kind -/
namespace WP
open PySem PySem.Spec PyProof.Rows L2 Evl SX
section
variable {K : PySem.W.Frag} {σ : L2.St} {H H' : Hp} {ta tb tc te : TE} {t u : L2.TT} {x y z v : V} {r r' : R2}
theorem ev_isi {n : String} {tn : String} {b : Bool} (h : Ev ta σ H x) (ht : ∀ H1, Ex H H1 → TyX K H1 x (.type tn)) (hb : kitB tn n = some b) : Ev (tCB (rIsi K) (tCons ta (tCons (tC (.ty n)) tNil))) σ H (.bl b) := fun H1 e Q q =>
  h H1 e _ fun H2 e2 => ⟨x, .ty n, .type tn, .type n, b, rfl, .ty n, ht H2 (e.trans e2), kit_ty hb, q H2 e2⟩
/-- an iterable whose items are known -/
def ItE (wi : TI) (σ : L2.St) (H : Hp) (xs : List V) : Prop := ∀ H1, Ex H H1 → ∀ R : It → Hp → Prop, (∀ (J : It) (G : Hp → Prop) H2, Ex H1 H2 → Walk J xs.length G (YAt xs) → (∀ H3, Ex H2 H3 → G H3) → R J H2) → wi σ H1 R
theorem ie_list {a : Addr} {xs : List V} (h : Ev te σ H (.ref a)) (hx : SqL K H a xs) : ItE (iList K te) σ H xs := fun H1 e R q => h H1 e _ fun H2 e2 =>
  ⟨a, rfl, ⟨xs, ex_l (e.trans e2) hx⟩, q _ _ H2 e2 walk_list fun H3 e3 => ex_l ((e.trans e2).trans e3) hx⟩
theorem ie_listN {xs : List V} (h : EvL te σ H xs) : ItE (iList K te) σ H xs := fun H1 e R q => h H1 e _ fun p H2 _ e2 hp =>
  ⟨p, rfl, ⟨xs, sq_of hp⟩, q _ _ H2 e2 walk_list fun H3 e3 => ex_l e3 (sq_of hp)⟩
theorem ie_tup {a : Addr} {xs : List V} (h : Ev te σ H (.ref a)) (hx : SqT K H a xs) : ItE (iTup K te) σ H xs := fun H1 e R q => h H1 e _ fun H2 e2 =>
  ⟨a, rfl, ⟨xs, ex_t (e.trans e2) hx⟩, q _ _ H2 e2 walk_tup fun H3 e3 => ex_t ((e.trans e2).trans e3) hx⟩
def sgn (c : Nat) : V := .str ⟨#[c]⟩
theorem ie_str {l : List Nat} (h : Ev te σ H (.str (S l))) : ItE (iStr te) σ H (l.map sgn) := fun H1 e R q => h H1 e _ fun H2 e2 =>
  ⟨S l, rfl, q _ (fun _ => True) H2 e2 (by
    have w := walk_str (z := S l)
    have hs : (S l).cps.size = (l.map sgn).length := by simp [S]
    rw [hs] at w
    refine w.mono (fun _ x => x) fun i H x H' hi _ y => ?_
    obtain ⟨c, hc, hx⟩ := y.2
    refine ⟨y.1, ?_⟩
    have hc' : l[i]? = some c := by simpa [S] using hc
    rw [List.getElem?_map, hc', hx]
    rfl) fun _ _ => trivial⟩
theorem ie_rng1 {ta : TA} {n : Nat} (h : EvA ta σ H [.int (n : Int)]) (hn : n ≤ 100000) : ItE (iRng1 ta) σ H ((List.range n).map fun i => V.int (i : Nat)) := fun H1 e R q => h H1 e _ fun H2 e2 =>
  ⟨(n : Int), rfl, by omega, by omega, q _ (fun _ => True) H2 e2 (by
    have w := walk_range (lo := 0) (n := (n : Int).toNat)
    have hs : (n : Int).toNat = ((List.range n).map fun i => V.int (i : Nat)).length := by simp
    rw [hs] at w
    refine Walk.mono (G := fun _ => True) (Y := YFn fun i => .int (0 + (i : Int))) (by rw [hs]; exact w) (fun _ x => x) fun i H x H' hi _ y => ?_
    refine ⟨y.1, ?_⟩
    have hi2 : i < n := by simpa using hi
    rw [List.getElem?_map, List.getElem?_range hi2, y.2]
    simp) fun _ _ => trivial⟩
/-- [e for x in xs], e leaving what is known -/
theorem el_map {wi : TI} {j : Nat} {vs : List Nat} {xs : List V} (f : V → V) (h : ItE wi σ H xs) (hz : xs.length ≤ 40000) (hw : ∀ x, wipe ((wipe σ vs).set j (some x)) vs = wipe σ vs)
    (he : ∀ x H1, Ex H H1 → x ∈ xs → Ev te ((wipe σ vs).set j (some x)) H1 (f x)) : EvL (tLc wi (gName j) tYes te vs) σ H (xs.map f) := fun H0 e Q q =>
  h H0 e _ fun J G H1 e1 w hG => fun Dl hD => by
    refine lc_it w (fun i H' => Ex H1 H' ∧ H' Dl = some (.lst ((xs.take i).map f))) ⟨Ex.new hD, by rw [upd_same, List.take_zero, List.map_nil]⟩ (fun i H' _ p => hG H' p.1) (fun i x H2 H3 hi p y => ?_) fun H' p => ?_
    · obtain ⟨rfl, hx⟩ := y
      refine ⟨hw x, ?_⟩
      show te _ H3 _
      refine he x H3 ((e.trans e1).trans p.1) (List.mem_of_getElem? hx) H3 (Ex.refl _) _ fun H4 e4 => ⟨_, e4 _ _ p.2, sz_lt ?_, Ex.mut (p.1.trans e4) hD, ?_⟩
      · have := List.length_take_le i xs
        rw [List.length_map]
        have := List.length_take_le' i xs
        omega
      · rw [upd_same, List.take_succ, hx, List.map_append]
        rfl
    · rw [List.take_length] at p
      exact q Dl H' (fresh_back e1 hD) (e1.trans p.1) p.2
theorem ev_all {xs : List Bool} {te : TE} (h : EvL te σ H (xs.map V.bl)) : Ev (tCB (rAll K) (tCons te tNil)) σ H (.bl (xs.all id)) := fun H1 e Q q => h H1 e _ fun p H2 _ e2 hp => ⟨p, xs, rfl, sq_of hp, q H2 e2⟩
theorem ev_lenS {l : List Nat} (h : Ev te σ H (.str (S l))) (hz : l.length ≤ 100000) : Ev (tCB (fun xs H Q => ∃ z, xs = [.str z] ∧ z.length ≤ sizeLine ∧ Q (.int z.length) H) (tCons te tNil)) σ H (.int (l.length : Int)) := fun H1 e Q q =>
  h H1 e _ fun H2 e2 => ⟨S l, rfl, by rw [S_len]; exact sz_of hz, by rw [S_len]; exact q H2 e2⟩
theorem ev_lenT {a : Addr} {xs : List V} (h : Ev te σ H (.ref a)) (hx : SqT K H a xs) : Ev (tCB (fun vs H Q => ∃ p ys, vs = [.ref p] ∧ (SqL K H p ys ∨ SqT K H p ys) ∧ Q (.int ys.length) H) (tCons te tNil)) σ H (.int (xs.length : Int)) := fun H1 e Q q =>
  h H1 e _ fun H2 e2 => ⟨a, xs, rfl, .inr (ex_t (e.trans e2) hx), q H2 e2⟩
theorem ev_slS {tl th : TO} {z : Str} {lo hi : Option Int} (h : Ev te σ H (.str z)) (h1 : EvO tl σ H lo) (h2 : EvO th σ H hi) (hz : z.length ≤ 100000) : Ev (tSl rSlS te tl th) σ H (.str (cutS z lo hi)) := fun H1 e Q q =>
  h H1 e _ fun H2 e2 => h1 H2 (e.trans e2) _ fun H3 e3 => h2 H3 ((e.trans e2).trans e3) _ fun H4 e4 => ⟨z, rfl, sz_of hz, q H4 ((e2.trans e3).trans e4)⟩
def rSg (neg : Bool) : R2 := fun x y H Q => ∃ (c : Nat) (z : Str), x = .str ⟨#[c]⟩ ∧ y = .str z ∧ Q (.bl (if neg then !decide (c ∈ z.cps.toList) else decide (c ∈ z.cps.toList))) H
theorem rv_sg {c : Nat} {z : Str} : RV (fun x y H Q => ∃ (c : Nat) (z : Str), x = .str ⟨#[c]⟩ ∧ y = .str z ∧ Q (.bl (decide (c ∈ z.cps.toList))) H) (sgn c) (.str z) H (.bl (decide (c ∈ z.cps.toList))) := fun H1 _ Q q => ⟨c, z, rfl, rfl, q H1 (Ex.refl H1)⟩
theorem rv_addS {a b : List Nat} (h : a.length + b.length ≤ 100000) : RV (fun x y H Q => ∃ i j, x = .str i ∧ y = .str j ∧ i.length + j.length ≤ sizeLine ∧ Q (.str (i ++ j)) H) (.str (S a)) (.str (S b)) H (.str (S (a ++ b))) := fun H1 _ Q q =>
  ⟨S a, S b, rfl, rfl, by rw [S_len, S_len]; exact sz_of h, by rw [S_cat]; exact q H1 (Ex.refl H1)⟩
theorem rv_isN : RV (fun x y H Q => y = .non ∧ Q (.bl (decide (x = .non))) H) x .non H (.bl (decide (x = .non))) := fun H1 _ Q q => ⟨rfl, q H1 (Ex.refl H1)⟩
theorem rv_notN : RV (fun x y H Q => y = .non ∧ Q (.bl (!decide (x = .non))) H) x .non H (.bl (!decide (x = .non))) := fun H1 _ Q q => ⟨rfl, q H1 (Ex.refl H1)⟩
/-- a op1 b op2 c -/
theorem ev_chain {a b : Bool} {i j k : V} (ha : Ev ta σ H i) (hb : Ev tb σ H j) (hr : RV r i j H (.bl a)) (hc : a = true → Ev tc σ H k) (hr' : a = true → RV r' j k H (.bl b)) : Ev (tChain r r' ta tb tc) σ H (.bl (a && b)) := fun H1 e Q q =>
  ha H1 e _ fun H2 e2 => hb H2 (e.trans e2) _ fun H3 e3 => hr H3 ((e.trans e2).trans e3) _ fun H4 e4 => ⟨a, rfl, by
    have e14 : Ex H H4 := ((e.trans e2).trans e3).trans e4
    cases a with
    | false =>
      rw [if_neg Bool.false_ne_true]
      exact q H4 ((e2.trans e3).trans e4)
    | true =>
      rw [if_pos rfl]
      exact hc rfl H4 e14 _ fun H5 e5 => hr' rfl H5 (e14.trans e5) Q fun H6 e6 => q H6 ((((e2.trans e3).trans e4).trans e5).trans e6)⟩
theorem ev_fld {a C dx : Addr} {fs : List (Str × V)} {f : Str} (h : Ev te σ H (.ref a)) (ho : H a = some (.ins C dx fs)) (hc : Cls K C) (hn : NoAttr K C f) (hl : fs.lookup f = some v) : Ev (tFld K te f) σ H v := fun H1 e Q q =>
  h H1 e _ fun H2 e2 => ⟨a, C, dx, fs, v, rfl, e2 _ _ (e _ _ ho), hc, hn, hl, q H2 e2⟩
theorem rv_lt {i j : Int} : RV (rI0 fun i j => .bl (decide (i < j))) (.int i) (.int j) H (.bl (decide (i < j))) := rv_I0
theorem ev_sp1 {sp : V → Hp → VK → XK → Prop} {E : XK} (h : Ev te σ H x) (hs : ∀ H1, Ex H H1 → ∀ Q : VK, (∀ H2, Ex H1 H2 → Q z H2) → sp x H1 Q E) : Ev (tF (sp1 sp) E (tCons te tNil)) σ H z := fun H1 e Q q =>
  h H1 e _ fun H2 e2 => ⟨x, rfl, hs H2 (e.trans e2) Q fun H3 e3 => q H3 (e2.trans e3)⟩
theorem ev_sp2 {sp : V → V → Hp → VK → XK → Prop} {E : XK} (h : Ev ta σ H x) (h' : Ev tb σ H y) (hs : ∀ H1, Ex H H1 → ∀ Q : VK, (∀ H2, Ex H1 H2 → Q z H2) → sp x y H1 Q E) : Ev (tF (sp2 sp) E (tCons ta (tCons tb tNil))) σ H z := fun H1 e Q q =>
  h H1 e _ fun H2 e2 => h' H2 (e.trans e2) _ fun H3 e3 => ⟨x, y, rfl, hs H3 ((e.trans e2).trans e3) Q fun H4 e4 => q H4 ((e2.trans e3).trans e4)⟩
theorem ev_sp3 {sp : V → V → V → Hp → VK → XK → Prop} {E : XK} {w0 : V} (h : Ev ta σ H x) (h' : Ev tb σ H y) (h'' : Ev tc σ H w0) (hs : ∀ H1, Ex H H1 → ∀ Q : VK, (∀ H2, Ex H1 H2 → Q z H2) → sp x y w0 H1 Q E) : Ev (tF (sp3 sp) E (tCons ta (tCons tb (tCons tc tNil)))) σ H z := fun H1 e Q q =>
  h H1 e _ fun H2 e2 => h' H2 (e.trans e2) _ fun H3 e3 => h'' H3 ((e.trans e2).trans e3) _ fun H4 e4 => ⟨x, y, w0, rfl, hs H4 (((e.trans e2).trans e3).trans e4) Q fun H5 e5 => q H5 (((e2.trans e3).trans e4).trans e5)⟩
end
/-! ### signs -/
def low (c : Nat) : Bool := decide (97 ≤ c) && decide (c ≤ 122)
def cap (c : Nat) : Bool := decide (65 ≤ c) && decide (c ≤ 90)
def dig (c : Nat) : Bool := decide (48 ≤ c) && decide (c ≤ 57)
theorem low_mem {c : Nat} : decide (c ∈ ("abcdefghijklmnopqrstuvwxyz" : Str).cps.toList) = low c := by
  rw [show ("abcdefghijklmnopqrstuvwxyz" : Str).cps.toList = [97, 98, 99, 100, 101, 102, 103, 104, 105, 106, 107, 108, 109, 110, 111, 112, 113, 114, 115, 116, 117, 118, 119, 120, 121, 122] by decide +kernel]
  rw [Bool.eq_iff_iff]
  simp only [low, decide_eq_true_eq, Bool.and_eq_true, List.mem_cons, List.not_mem_nil, or_false]
  omega
theorem cap_mem {c : Nat} : decide (c ∈ ("ABCDEFGHIJKLMNOPQRSTUVWXYZ" : Str).cps.toList) = cap c := by
  rw [show ("ABCDEFGHIJKLMNOPQRSTUVWXYZ" : Str).cps.toList = [65, 66, 67, 68, 69, 70, 71, 72, 73, 74, 75, 76, 77, 78, 79, 80, 81, 82, 83, 84, 85, 86, 87, 88, 89, 90] by decide +kernel]
  rw [Bool.eq_iff_iff]
  simp only [cap, decide_eq_true_eq, Bool.and_eq_true, List.mem_cons, List.not_mem_nil, or_false]
  omega
theorem dig_mem {c : Nat} : decide (c ∈ ("0123456789" : Str).cps.toList) = dig c := by
  rw [show ("0123456789" : Str).cps.toList = [48, 49, 50, 51, 52, 53, 54, 55, 56, 57] by decide +kernel]
  rw [Bool.eq_iff_iff]
  simp only [dig, decide_eq_true_eq, Bool.and_eq_true, List.mem_cons, List.not_mem_nil, or_false]
  omega
end WP
set_option Elab.async false
set_option linter.all false
set_option maxRecDepth 100000
set_option maxHeartbeats 4000000
/-! answers, calls: the texts of constants and names -/
namespace WP
open PySem PySem.Spec PyProof.Rows L2 Evl SX
variable {w : World} {K : PySem.W.Frag} {mg : Str → Option Value} {base : Heap}
/-! ### mathematics -/
def isI : V → Bool | .int _ => true | _ => false
def isSc : V → Bool | .non => true | .int _ => true | .str _ => true | _ => false
def tyN : V → String | .non => "NoneType" | .int _ => "int" | .str _ => "str" | _ => "bool"
theorem tyx {v : V} (h : isSc v = true) (K : PySem.W.Frag) (H : Hp) : TyX K H v (.type (tyN v)) := by
  cases v <;> first
    | exact .base .non
    | exact .base (.int _)
    | exact .base (.str _)
    | cases h
/-- a word of at most m letters -/
def isW (v : V) (m : Int) : Bool := match v with | .str s => decide ((s.cps.toList.length : Int) ≤ m) && s.cps.toList.all low | _ => false
def ltx (v : V) : Prop := ∀ s, v = .str s → s.cps.toList.length ≤ 40000
def kwL : List (List Nat) := v_KEYWORDS.map fun s => s.cps.toList
def isNm (l : List Nat) : Bool := decide ((l.length : Int) ≤ 12) && l.all low && (!decide (l = []) && !kwL.any fun k => decide (k = l))
theorem inV_str {l : List Nat} {xs : List Str} : inV (.str (S l)) (xs.map V.str) = (xs.map fun s => s.cps.toList).any fun k => decide (k = l) := by
  induction xs with
  | nil => rfl
  | cons z r ih =>
    have e : eqV (.str z) (.str (S l)) = decide (z.cps.toList = l) := by
      show (z == S l) = _
      rw [← S_beq_eq, S_tl]
    show (eqV (.str z) (.str (S l)) || inV (.str (S l)) (r.map V.str)) = _
    rw [e, ih]
    rfl
/-! ### promises -/
def sp_is_number : Sp := sp1 fun v H Q _ => isSc v = true ∧ RetV (.bl (isI v)) H Q
def sp_is_word : Sp := sp2 fun v m H Q _ => ∃ i : Int, m = .int i ∧ isSc v = true ∧ ltx v ∧ RetV (.bl (isW v i)) H Q
def sp_is_name : Sp := sp1 fun v H Q _ => ∃ l : List Nat, v = .str (S l) ∧ l.length ≤ 40000 ∧ RetV (.bl (isNm l)) H Q
theorem o_is_number (T : TT K mg) : CalX PW w K mg base CX0 1 "is_number" sp_is_number := by
  obtain ⟨fd, F⟩ := f_is_number T
  refine ⟨_, mk1 F (b_is_number F) sc_is_number fun a cdv A outer s H Q E hr h => ⟨_, (pss_one (ps_ret (pe_and (pe_callB call_isi rfl (z_isinstance T) (by decide +kernel) (pa_cons (pv 0) (pa_cons (pe_bltn (v := .ty "int") (u := .type "int") rfl (z_int T) (by decide +kernel) rfl) pa_nil))) (pe_one (pe_not (pe_callB call_isi rfl (z_isinstance T) (by decide +kernel) (pa_cons (pv 0) (pa_cons (pe_bltn (v := .ty "bool") (u := .type "bool") rfl (z_bool T) (by decide +kernel) rfl) pa_nil)))))))), ?_⟩, g_is_number T, F.kp⟩
  obtain ⟨hs, q⟩ := h
  refine s_ret (ev_is (ev_andV (ev_isi (ev_var rfl) (fun H1 _ => tyx hs K H1) (b := isI a) ?_) fun _ => ev_notV (ev_isi (ev_var rfl) (fun H1 _ => tyx hs K H1) (b := false) ?_)) ?_) q
  · cases a <;> first | rfl | cases hs
  · cases a <;> first | rfl | cases hs
  · simp
theorem bd_is_word {fd : FuncData} {f : Addr} (F : FunD K "is_word" "is_word" (defArgs s_is_word) (defBody s_is_word) (defScope s_is_word) [V.int 30] [] f fd) : Binds K fd ["thing", "most"] [] := by
  obtain ⟨ds, h1, h2⟩ := F.binds1 (ps := ["thing", "most"]) 2 1 (by simp) rfl fun T0 kV doc pm an cdv ct us its hu hi => match us, its, hu, hi with
    | [_, _], [_], _, _ => ⟨_, rfl, rfl⟩
  cases h1
  exact h2
theorem o_is_word (T : TT K mg) : CalX PW w K mg base CX0 1 "is_word" sp_is_word := by
  obtain ⟨fd, F⟩ := f_is_word T
  refine ⟨_, mk2 F (bd_is_word F) sc_is_word fun a b cdv A outer s H Q E hr h => ⟨_, (pss_one (ps_ret (pe_and (pe_callB call_isi rfl (z_isinstance T) (by decide +kernel) (pa_cons (pv 0) (pa_cons (pe_bltn (v := .ty "str") (u := .type "str") rfl (z_str T) (by decide +kernel) rfl) pa_nil))) (pe_and (pe_cmpR op_le (pe_callB (id := "len") call_len_str rfl (z_len T) (by decide +kernel) (pa_cons (pv 0) pa_nil)) (pv 1) (nomark _)) (pe_one (pe_callB (cr_all rfl) rfl (z_all T) (by decide +kernel) (pa_cons (pe_lc (own := [("sign", 2)]) (g := gName 2) (tt := tYes) rfl sc_is_word.nd (pi_str (pv 0)) (blkOk_by (N := ["thing", "most", "sign"]) (sc := defScope s_is_word) (by decide +kernel)) (fun _ _ _ _ _ => pg_name (i := 2) sc_is_word.nd rfl (Or.inl rfl)) (fun _ _ _ _ _ => pts_nil) (fun _ _ _ _ _ => (pe_cmpR op_in_sign (pv 2) (wgs (s_SMALL T)) (by with_unfolding_all rfl)))) pa_nil))))))), ?_⟩, g_is_word T, F.kp⟩
  obtain ⟨i, rfl, hs, hl, q⟩ := h
  cases a with
  | str z =>
    obtain ⟨l, rfl⟩ : ∃ l, z = S l := ⟨z.cps.toList, (S_tl z).symm⟩
    have hz : l.length ≤ 40000 := hl _ rfl
    refine s_ret (ev_is (ev_andV (ev_isi (ev_var rfl) (fun H1 _ => tyx hs K H1) (b := true) rfl) fun _ => ev_andV (ev_op (ev_lenS (ev_var rfl) (by omega)) (ev_var rfl) rv_I0) fun _ => ev_all (xs := l.map low) ?_) ?_) q
    · have e : (l.map low).map V.bl = (l.map sgn).map (fun v => match v with | .str y => .bl (decide (y.cps.toList.head! ∈ ("abcdefghijklmnopqrstuvwxyz" : Str).cps.toList)) | _ => .non) := by
        rw [List.map_map, List.map_map]
        refine List.map_congr_left fun c _ => ?_
        exact congrArg V.bl (low_mem (c := c)).symm
      rw [e]
      refine el_map _ (ie_str (ev_var rfl)) (by simp; omega) (fun _ => rfl) fun x H1 _ hx => ?_
      obtain ⟨c, _, rfl⟩ := List.mem_map.mp hx
      exact ev_op (ev_var rfl) ev_c rv_sg
    · show V.bl _ = V.bl (decide ((l.length : Int) ≤ i) && l.all low)
      simp [List.all_map, Function.comp_def]
  | non => exact s_ret (ev_is (ev_andV (ev_isi (ev_var rfl) (fun H1 _ => tyx hs K H1) (b := false) rfl) (b := false) fun h => by cases h) rfl) q
  | int n => exact s_ret (ev_is (ev_andV (ev_isi (ev_var rfl) (fun H1 _ => tyx hs K H1) (b := false) rfl) (b := false) fun h => by cases h) rfl) q
  | _ => cases hs
theorem o_is_name (T : TT K mg) : CalX PW w K mg base CX0 2 "is_name" sp_is_name := by
  obtain ⟨fd, F⟩ := f_is_name T
  refine ⟨_, mk1 F (b_is_name F) sc_is_name fun a cdv A outer s H Q E hr h => ⟨_, (pss_one (ps_ret (pe_and (wc (o_is_word T) hr (by decide) pass0 (pa_cons (pv 0) (pa_cons pe_int pa_nil))) (pe_and (pe_cmpR op_ne (pv 0) pe_str (nomark _)) (pe_one (pe_cmpR op_notIn_seq (pv 0) (wgr (g_KEYWORDS T)) (by with_unfolding_all rfl))))))), ?_⟩, g_is_name T, F.kp⟩
  obtain ⟨l, rfl, hl, q⟩ := h
  refine s_ret (ev_is (ev_andV (ev_sp2 (ev_var rfl) ev_c (z := .bl (isW (.str (S l)) 12)) fun H1 _ Q' q' => ⟨12, rfl, rfl, fun s e => by cases e; exact hl, q'⟩) fun _ => ev_andV (ev_op (ev_var rfl) ev_c (rv_ne rfl)) fun _ => ev_op (ev_var rfl) ev_c (rv_niT (t_KEYWORDS T _) rfl ?_)) ?_) q
  · rw [List.all_map]
    exact List.all_eq_true.mpr fun _ _ => rfl
  · have e1 : decide (V.str (S l) = V.str "") = decide (l = []) := by
      rw [dec_str]
      show (S l == S []) = _
      rw [S_beq_eq]
    show V.bl (isW (.str (S l)) 12 && (!decide (V.str (S l) = V.str "") && !inV (.str (S l)) (v_KEYWORDS.map V.str))) = V.bl (isNm l)
    rw [e1, inV_str]
    rfl
/-! ### constants -/
def smK : V → Bool | .int i => decide ((if i < 0 then -i else i) < 10 ^ 30) | _ => false
def isS : V → Bool | .str _ => true | _ => false
def isK (v : V) : Bool := decide (v = .non) || ((isI v && smK v) || isW v 8)
/-- a constant as it is written -/
def kTxt (v : V) : List Nat := match v with | .non => [110, 111, 110, 101] | .str z => 34 :: z.cps.toList ++ [34] | .int i => (toString i : Str).cps.toList | _ => []
def isNT (l : List Nat) : Bool :=
  let d := if l.head? = some 45 then l.tail else l
  (decide (1 ≤ d.length) && decide (d.length ≤ 30) && d.all dig) && (!decide (d.head? = some 48) || decide (l = [48]))
def isKT (l : List Nat) : Bool :=
  if 2 ≤ l.length ∧ l.head? = some 34 ∧ l.getLast? = some 34 then decide ((l.drop 1).dropLast.length ≤ 8) && (l.drop 1).dropLast.all low else decide (l = [110, 111, 110, 101]) || isNT l
def sp_is_constant : Sp := sp1 fun v H Q _ => isSc v = true ∧ ltx v ∧ RetV (.bl (isK v)) H Q
def sp_constant_text : Sp := sp1 fun v H Q _ => isSc v = true ∧ ltx v ∧ (∀ i, v = .int i → i.natAbs < 10 ^ 40) ∧ RetV (.str (S (kTxt v))) H Q
def sp_is_number_text : Sp := sp1 fun v H Q _ => ∃ l, v = .str (S l) ∧ l.length ≤ 40000 ∧ RetV (.bl (isNT l)) H Q
def sp_is_constant_text : Sp := sp1 fun v H Q _ => ∃ l, v = .str (S l) ∧ l.length ≤ 40000 ∧ RetV (.bl (isKT l)) H Q
theorem ev_or3 {te ta : TE} {σ : L2.St} {H : Hp} {a b : Bool} (h1 : Ev te σ H (.bl a)) (h2 : a = false → Ev ta σ H (.bl b)) : Ev (tOrV te ta) σ H (.bl (a || b)) := ev_orV h1 h2
theorem rc_abs {H : Hp} {i : Int} : RC (fun xs H Q => ∃ i, xs = [.int i] ∧ Q (.int (if i < 0 then -i else i)) H) [.int i] H (.int (if i < 0 then -i else i)) := fun H1 _ Q q => ⟨i, rfl, q H1 (Ex.refl H1)⟩
theorem rv_pow {i j : Int} {H : Hp} (h : CPow i j) : RV (rI CPow fun i j => .int (i ^ j.toNat)) (.int i) (.int j) H (.int (i ^ j.toNat)) := rv_I h
theorem rc_isnum {H : Hp} {v : V} (h : isSc v = true) : ∀ H1, Ex H H1 → ∀ Q : VK, (∀ H2, Ex H1 H2 → Q (.bl (isI v)) H2) → isSc v = true ∧ RetV (.bl (isI v)) H1 Q := fun H1 _ Q q => ⟨h, q⟩
theorem o_is_constant (T : TT K mg) : CalX PW w K mg base CX0 2 "is_constant" sp_is_constant := by
  obtain ⟨fd, F⟩ := f_is_constant T
  refine ⟨_, mk1 F (b_is_constant F) sc_is_constant fun a cdv A outer s H Q E hr h => ⟨_, (pss_one (ps_ret (pe_or (pe_cmpR op_isN (pv 0) pe_non (nomark _)) (pe_or (pe_and (wc (o_is_number T) hr (by decide) pass0 (pa_cons (pv 0) pa_nil)) (pe_one (pe_cmpR op_lt (pe_callB call_abs rfl (z_abs T) (by decide +kernel) (pa_cons (pv 0) pa_nil)) (pe_op op_pow pe_int pe_int) (nomark _)))) (pe_one (wc (o_is_word T) hr (by decide) pass0 (pa_cons (pv 0) (pa_cons pe_int pa_nil)))))))), ?_⟩, g_is_constant T, F.kp⟩
  obtain ⟨hs, hl, q⟩ := h
  refine s_ret (ev_is (ev_orV (ev_op (ev_var rfl) ev_c rv_isN) fun hn => ev_orV (ev_andV (ev_sp1 (ev_var rfl) (rc_isnum hs)) (b := smK a) fun hi => ?_) fun _ => ev_sp2 (ev_var rfl) ev_c (z := .bl (isW a 8)) fun H1 _ Q' q' => ⟨8, rfl, hs, hl, q'⟩) rfl) q
  cases a with
  | int i => exact ev_op (ev_cb (ea_cons (ev_var rfl) ea_nil) rc_abs) (ev_op ev_c ev_c (rv_pow ⟨by decide, by decide, by decide⟩)) rv_lt
  | _ => cases hi
theorem o_constant_text (T : TT K mg) : CalX PW w K mg base CX0 1 "constant_text" sp_constant_text := by
  obtain ⟨fd, F⟩ := f_constant_text T
  refine ⟨_, mk1 F (b_constant_text F) sc_constant_text fun a cdv A outer s H Q E hr h => ⟨_, (pss_cons (ps_if (pt_cmpR op_isN (pv 0) pe_non (nomark _)) (pss_one (ps_ret pe_str)) pss_nil)
        (pss_cons (ps_if (pt_val (pe_callB call_isi rfl (z_isinstance T) (by decide +kernel) (pa_cons (pv 0) (pa_cons (pe_bltn (v := .ty "str") (u := .type "str") rfl (z_str T) (by decide +kernel) rfl) pa_nil)))) (pss_one (ps_ret (pe_op op_add_str (pe_op op_add_str pe_str (pv 0)) pe_str))) pss_nil)
        (pss_one (ps_ret (pe_callTy call_str_int rfl (z_str T) (by decide +kernel) (pa_cons (pv 0) pa_nil)))))), ?_⟩, g_constant_text T, F.kp⟩
  obtain ⟨hs, hl, hi, q⟩ := h
  refine q_when (et_test (ev_op (ev_var rfl) ev_c rv_isN)) (fun hn H1 e1 => ?_) fun hn H1 e1 => ?_
  · have e : a = .non := of_decide_eq_true hn
    subst e
    exact s_ret ev_c fun H2 e2 => q.go (e1.trans e2)
  · refine q_when (et_B (ev_isi (ev_var rfl) (fun H1 _ => tyx hs K H1) (b := isS a) ?_)) (fun hb H2 e2 => ?_) fun hb H2 e2 => ?_
    · cases a <;> first | rfl | cases hs
    · cases a with
      | str z =>
        obtain ⟨l, rfl⟩ : ∃ l, z = S l := ⟨z.cps.toList, (S_tl z).symm⟩
        have hz : l.length ≤ 40000 := hl _ rfl
        exact s_ret (ev_op (ev_op (ev_c (v := .str (S [34]))) (ev_var rfl) (rv_addS (by simp; omega))) (ev_c (v := .str (S [34]))) (rv_addS (by simp; omega))) fun H3 e3 => q.go ((e1.trans e2).trans e3)
      | _ => cases hb
    · cases a with
      | int i =>
        refine s_ret (ev_is (ev_cb (ea_cons (ev_var rfl) ea_nil) (z := .str (toString i : Str)) fun H3 _ Q' q' => ⟨i, rfl, ?_, q' H3 (Ex.refl H3)⟩) ?_) fun H3 e3 => q.go ((e1.trans e2).trans e3)
        · have h1 := hi i rfl
          by_cases h0 : i.natAbs = 0
          · rw [h0]; decide
          · exact Nat.lt_trans ((Nat.log2_lt h0).mpr (Nat.lt_trans h1 (by decide : 10 ^ 40 < 2 ^ 200))) (by decide)
        · show V.str _ = V.str (S (kTxt (.int i)))
          exact congrArg V.str (S_tl _).symm
      | str z => cases hb
      | non => cases hn
      | _ => cases hs
end WP
set_option Elab.async false
set_option linter.all false
set_option maxRecDepth 100000
set_option maxHeartbeats 4000000
/-! tokens -/
namespace WP
open PySem PySem.Spec PyProof.Rows L2 Evl SX
variable {w : World} {K : PySem.W.Frag} {mg : Str → Option Value} {base : Heap}
/-! ### slices, signs -/
theorem cut_nn (l : List Nat) (i j : Nat) : cutS (S l) (some (i : Int)) (some (j : Int)) = S ((l.drop i).take (j - i)) := by
  show S ((l.drop (HT.sIx (S l).length 0 (some (i : Int)))).take (HT.sIx (S l).length (S l).length (some (j : Int)) - HT.sIx (S l).length 0 (some (i : Int)))) = _
  rw [S_len, HT.sIx_nat, HT.sIx_nat]
  refine congrArg S ?_
  by_cases hi : i ≤ l.length
  · rw [Nat.min_eq_left hi]
    by_cases hj : j ≤ l.length
    · rw [Nat.min_eq_left hj]
    · rw [Nat.min_eq_right (show l.length ≤ j by omega), List.take_of_length_le (by rw [List.length_drop]; omega), List.take_of_length_le (by rw [List.length_drop]; omega)]
  · rw [Nat.min_eq_right (show l.length ≤ i by omega), List.drop_eq_nil_of_le (Nat.le_refl _), List.drop_eq_nil_of_le (show l.length ≤ i by omega), List.take_nil, List.take_nil]
theorem cut_n (l : List Nat) (i : Nat) : cutS (S l) (some (i : Int)) none = S (l.drop i) := by
  show S ((l.drop (HT.sIx (S l).length 0 (some (i : Int)))).take ((S l).length - HT.sIx (S l).length 0 (some (i : Int)))) = _
  rw [S_len, HT.sIx_nat]
  refine congrArg S ?_
  rw [List.take_of_length_le (by rw [List.length_drop]; omega)]
  by_cases hi : i ≤ l.length
  · rw [Nat.min_eq_left hi]
  · rw [Nat.min_eq_right (show l.length ≤ i by omega), List.drop_eq_nil_of_le (Nat.le_refl _), List.drop_eq_nil_of_le (show l.length ≤ i by omega)]
theorem cut_in (l : List Nat) (h : 2 ≤ l.length) : cutS (S l) (some 1) (some (-1)) = S ((l.drop 1).dropLast) := by
  show S ((l.drop (HT.sIx (S l).length 0 (some ((1 : Nat) : Int)))).take (HT.sIx (S l).length (S l).length (some (-1)) - HT.sIx (S l).length 0 (some ((1 : Nat) : Int)))) = _
  rw [S_len, HT.sIx_nat]
  have e : HT.sIx l.length l.length (some (-1)) = l.length - 1 := by
    show (if (-1 : Int) < 0 then ((-1 : Int) + (l.length : Int)).toNat else min (-1 : Int).toNat l.length) = _
    rw [if_pos (by decide)]
    omega
  rw [e, Nat.min_eq_left (by omega), List.dropLast_eq_take, List.length_drop]
theorem starts_one (l : List Nat) (c : Nat) : Txt.startswith (S l) (S [c]) = decide (l.head? = some c) := by
  cases l with
  | nil =>
    show (decide (0 + (S [c]).length ≤ (S []).length) && _) = _
    rw [S_len, S_len]
    simp
  | cons d r =>
    show (decide (0 + (S [c]).length ≤ (S (d :: r)).length) && ((S (d :: r)).cps.extract 0 (0 + (S [c]).length) == (S [c]).cps)) = _
    rw [S_len, S_len]
    have e : (S (d :: r)).cps.extract 0 (0 + [c].length) = #[d] := by
      apply Array.ext'
      simp [S, Array.toList_extract]
    rw [e, Bool.eq_iff_iff]
    simp
theorem at_nat {l : List Nat} {i : Nat} {c : Nat} (h : l[i]? = some c) : atI (S l).cps.toList (i : Int) = some c := atI_nat h
theorem rv_ixSn {l : List Nat} {i : Nat} {c : Nat} {H : Hp} (h : l[i]? = some c) (hz : l.length ≤ 100000) : RV rIxS (.str (S l)) (.int (i : Int)) H (sgn c) := rv_ixS (by rw [S_len]; exact hz) (at_nat h)
theorem ev_slN {te tl th : TE} {σ : L2.St} {H : Hp} {l : List Nat} {i j : Nat} (h : Ev te σ H (.str (S l))) (h1 : Ev tl σ H (.int (i : Int))) (h2 : Ev th σ H (.int (j : Int))) (hz : l.length ≤ 100000) : Ev (tSl rSlS te (tPart tl) (tPart th)) σ H (.str (S ((l.drop i).take (j - i)))) := by
  rw [← cut_nn]
  exact ev_slS h (eo_some h1) (eo_some h2) (by rw [S_len]; exact hz)
theorem ev_bm {T : String} {r : V → List V → Hp → VK → Prop} {to : TE} {t : TA} {σ : L2.St} {H : Hp} {x v : V} {vs : List V} (h : Ev to σ H x) (ht : ∀ H1, Ex H H1 → tyV K T x H1) (ha : EvA t σ H vs) (hr : ∀ H1, Ex H H1 → ∀ Q : VK, (∀ H2, Ex H1 H2 → Q v H2) → r x vs H1 Q) : Ev (tBM K T r to t) σ H v := fun H1 e Q q =>
  h H1 e _ fun H2 e2 => ⟨ht H2 (e.trans e2), ha H2 (e.trans e2) _ fun H3 e3 => hr H3 ((e.trans e2).trans e3) Q fun H4 e4 => q H4 ((e2.trans e3).trans e4)⟩
theorem el_signs {tl : TE} {te : TE} {σ : L2.St} {H : Hp} {l : List Nat} {j : Nat} {vs : List Nat} (f : Nat → Bool) (h : Ev tl σ H (.str (S l))) (hz : l.length ≤ 40000) (hw : ∀ x, wipe ((wipe σ vs).set j (some x)) vs = wipe σ vs)
    (he : ∀ c H1, Ex H H1 → c ∈ l → Ev te ((wipe σ vs).set j (some (sgn c))) H1 (.bl (f c))) : EvL (tLc (iStr tl) (gName j) tYes te vs) σ H ((l.map f).map V.bl) := by
  have e : (l.map f).map V.bl = (l.map sgn).map (fun v => match v with | .str y => .bl (f (y.cps.toList.headD 0)) | _ => .non) := by
    rw [List.map_map, List.map_map]
    exact List.map_congr_left fun c _ => rfl
  rw [e]
  refine el_map _ (ie_str h) (by simp; omega) hw fun x H1 e1 hx => ?_
  obtain ⟨c, hc, rfl⟩ := List.mem_map.mp hx
  exact he c H1 e1 hc
theorem all_map_id (l : List Nat) (f : Nat → Bool) : (l.map f).all id = l.all f := by simp [List.all_map, Function.comp_def]
theorem dec_sgn (c d : Nat) : decide (sgn c = .str (S [d])) = decide (c = d) := by
  show decide (V.str (S [c]) = V.str (S [d])) = _
  rw [dec_str, S_beq_eq, Bool.eq_iff_iff]
  simp
theorem dec_S (a b : List Nat) : decide (V.str (S a) = V.str (S b)) = decide (a = b) := by rw [dec_str, S_beq_eq]
theorem o_is_number_text (T : TT K mg) : CalX PW w K mg base CX0 1 "is_number_text" sp_is_number_text := by
  obtain ⟨fd, F⟩ := f_is_number_text T
  refine ⟨_, mk1 F (b_is_number_text F) sc_is_number_text fun a cdv A outer s H Q E hr h => ⟨_, (pss_cons (ps_set (i := 1) sc_is_number_text.nd rfl (Or.inl rfl) (pe_ifExp (pt_val (pe_bm PySem.F.plainAttrs_str PySem.F.slot_str_startswith PySem.F.type_str_startswith mt_startswith (pv 0) (pa_cons pe_str pa_nil))) (pe_slice sl_str (pv 0) (po_some pe_int) po_none) (pv 0)))
        (pss_cons (ps_if (L2.PW.pt (pw_or (pt_not (pt_chain op_le op_le pe_int (pe_callB (id := "len") call_len_str rfl (z_len T) (by decide +kernel) (pa_cons (pv 1) pa_nil)) pe_int)) (pw_or1 (pt_not (pt_val (pe_callB (cr_all rfl) rfl (z_all T) (by decide +kernel) (pa_cons (pe_lc (own := [("sign", 2)]) (g := gName 2) (tt := tYes) rfl sc_is_number_text.nd (pi_str (pv 1)) (blkOk_by (N := ["text", "digits", "sign"]) (sc := defScope s_is_number_text) (by decide +kernel)) (fun _ _ _ _ _ => pg_name (i := 2) sc_is_number_text.nd rfl (Or.inl rfl)) (fun _ _ _ _ _ => pts_nil) (fun _ _ _ _ _ => (pe_cmpR op_in_sign (pv 2) (wgs (s_DIGITS T)) (by with_unfolding_all rfl)))) pa_nil))))))) (pss_one (ps_ret pe_bl)) pss_nil)
        (pss_one (ps_ret (pe_or (pe_cmpR op_ne (pe_ix ix_str (pv 1) pe_int (fun _ _ => rfl)) pe_str (nomark _)) (pe_one (pe_cmpR op_eq (pv 0) pe_str (nomark _)))))))), ?_⟩, g_is_number_text T, F.kp⟩
  obtain ⟨l, rfl, hl, q⟩ := h
  have hd : ∀ d : List Nat, d = (if l.head? = some 45 then l.tail else l) → d.length ≤ 40000 := fun d e => by
    rw [e]
    split
    · rw [List.length_tail]; omega
    · exact hl
  obtain ⟨d, ed⟩ : ∃ d : List Nat, d = (if l.head? = some 45 then l.tail else l) := ⟨_, rfl⟩
  refine q_asg (v := .str (S d)) (ev_if (et_B (ev_bm (ev_var rfl) (fun _ _ => rfl) (ea_cons ev_c ea_nil) (v := .bl (decide (l.head? = some 45))) fun H1 _ Q' q' => ⟨S l, S [45], rfl, rfl, by rw [starts_one]; exact q' H1 (Ex.refl H1)⟩)) (fun hb => ?_) fun hb => ?_) fun H1 e1 => ?_
  · have e : d = l.drop 1 := by rw [ed, if_pos (of_decide_eq_true hb), List.drop_one]
    rw [e, ← cut_n l 1]
    exact ev_slS (ev_var rfl) (eo_some ev_c) eo_none (by rw [S_len]; omega)
  · have e : d = l := by rw [ed, if_neg (of_decide_eq_false hb)]
    rw [e]
    exact ev_var rfl
  have hdl := hd d ed
  have eN : isNT l = ((decide (1 ≤ d.length) && decide (d.length ≤ 30) && d.all dig) && (!decide (d.head? = some 48) || decide (l = [48]))) := by rw [ed]; rfl
  refine q_when (et_or (a := !(decide ((1 : Int) ≤ (d.length : Int)) && decide ((d.length : Int) ≤ 30))) (b := !((d.map dig).all id)) (et_not (et_test (ev_chain ev_c (ev_lenS (ev_var rfl) (by omega)) rv_I0 (fun _ => ev_c) fun _ => rv_I0))) fun _ => et_not (et_B (ev_all (el_signs dig (ev_var rfl) hdl (fun _ => rfl) fun c H2 _ _ => ev_is (ev_op (ev_var rfl) ev_c rv_sg) (congrArg V.bl dig_mem))))) (fun hb H2 e2 => ?_) fun hb H2 e2 => ?_
  · refine s_ret (ev_c (v := .bl false)) fun H3 e3 => ?_
    have e : isNT l = false := by
      rw [eN]
      rw [all_map_id] at hb
      simp at hb ⊢
      intro h1 h2 h3
      rcases hb with hb | ⟨x, hx, hb⟩
      · omega
      · rw [h3 x hx] at hb
        cases hb
    rw [← e]
    exact q.go ((e1.trans e2).trans e3)
  · have hb2 : (decide (1 ≤ d.length) && decide (d.length ≤ 30) && d.all dig) = true := by
      rw [all_map_id] at hb
      simp at hb ⊢
      refine ⟨⟨by omega, by omega⟩, hb.2⟩
    obtain ⟨c, r, hc⟩ : ∃ c r, d = c :: r := by
      cases d with
      | nil => simp at hb2
      | cons c r => exact ⟨c, r, rfl⟩
    refine s_ret (ev_is (ev_orV (a := !decide (c = 48)) (b := decide (l = [48])) (ev_is (ev_op (ev_op (ev_var rfl) (ev_c (v := .int ((0 : Nat) : Int))) (rv_ixSn (i := 0) (c := c) (by rw [hc]; rfl) (by omega))) (ev_c (v := .str (S [48]))) (rv_ne rfl)) ?_) fun _ => ev_is (ev_op (ev_var rfl) (ev_c (v := .str (S [48]))) (rv_eq rfl)) ?_) ?_) fun H3 e3 => q.go ((e1.trans e2).trans e3)
    · rw [dec_sgn]
    · rw [dec_S]
    · rw [eN, hb2, hc]
      simp
theorem o_is_constant_text (T : TT K mg) : CalX PW w K mg base CX0 2 "is_constant_text" sp_is_constant_text := by
  obtain ⟨fd, F⟩ := f_is_constant_text T
  refine ⟨_, mk1 F (b_is_constant_text F) sc_is_constant_text fun a cdv A outer s H Q E hr h => ⟨_, (pss_cons (ps_if (L2.PW.pt (pw_and (pt_cmpR op_ge (pe_callB (id := "len") call_len_str rfl (z_len T) (by decide +kernel) (pa_cons (pv 0) pa_nil)) pe_int (nomark _)) (pw_and (pt_cmpR op_eq (pe_ix ix_str (pv 0) pe_int (fun _ _ => rfl)) pe_str (nomark _)) (pw_and1 (pt_cmpR op_eq (pe_ix ix_str (pv 0) (pe_un un_neg pe_int) (fun _ _ => rfl)) pe_str (nomark _)))))) (pss_one (ps_ret (wc (o_is_word T) hr (by decide) pass0 (pa_cons (pe_slice sl_str (pv 0) (po_some pe_int) (po_some (pe_un un_neg pe_int))) (pa_cons pe_int pa_nil))))) pss_nil)
        (pss_one (ps_ret (pe_or (pe_cmpR op_eq (pv 0) pe_str (nomark _)) (pe_one (wc (o_is_number_text T) hr (by decide) pass0 (pa_cons (pv 0) pa_nil))))))), ?_⟩, g_is_constant_text T, F.kp⟩
  obtain ⟨l, rfl, hl, q⟩ := h
  refine q_when (b := decide (2 ≤ l.length ∧ l.head? = some 34 ∧ l.getLast? = some 34)) ?_ (fun hb H1 e1 => ?_) fun hb H1 e1 => ?_
  · by_cases h2 : 2 ≤ l.length
    · obtain ⟨c, hc⟩ : ∃ c, l[0]? = some c := ⟨l[0], List.getElem?_eq_getElem (by omega)⟩
      obtain ⟨d, hd⟩ : ∃ d, l[l.length - 1]? = some d := ⟨l[l.length - 1], List.getElem?_eq_getElem (by omega)⟩
      have hm : atI (S l).cps.toList (-1) = some d := by
        show (ixN l.length (-1)).bind (fun j => l[j]?) = some d
        have e : ixN l.length (-1) = some (l.length - 1) := by
          unfold ixN
          rw [if_neg (by decide), if_pos (by omega)]
          simp
          omega
        rw [e]
        exact hd
      refine et_is (et_and (a := decide ((2 : Int) ≤ (l.length : Int))) (b := decide (c = 34) && decide (d = 34)) (et_test (ev_op (ev_lenS (ev_var rfl) (by omega)) ev_c rv_I0)) fun _ => et_and (et_test (ev_is (ev_op (ev_op (ev_var rfl) (ev_c (v := .int ((0 : Nat) : Int))) (rv_ixSn hc (by omega))) (ev_c (v := .str (S [34]))) (rv_eq rfl)) (congrArg V.bl (dec_sgn c 34)))) fun _ => et_test (ev_is (ev_op (ev_op (ev_var rfl) (ev_un ev_c ru_neg) (rv_ixS (by rw [S_len]; omega) hm)) (ev_c (v := .str (S [34]))) (rv_eq rfl)) (congrArg V.bl (dec_sgn d 34)))) ?_
      have e1 : l.head? = some c := by rw [← hc]; exact List.head?_eq_getElem?
      have e2 : l.getLast? = some d := by rw [List.getLast?_eq_getElem?]; exact hd
      rw [e1, e2, Bool.eq_iff_iff]
      simp
      omega
    · refine et_is (et_and (a := decide ((2 : Int) ≤ (l.length : Int))) (b := false) (et_test (ev_op (ev_lenS (ev_var rfl) (by omega)) ev_c rv_I0)) fun hx => ?_) ?_
      · have := of_decide_eq_true hx
        omega
      · rw [decide_eq_false (by omega), decide_eq_false (fun h => h2 h.1)]
        rfl
  · have hb' := of_decide_eq_true hb
    have e : isKT l = isW (.str (S (l.drop 1).dropLast)) 8 := by
      unfold isKT
      rw [if_pos hb']
      show _ = (decide (((l.drop 1).dropLast.length : Int) ≤ 8) && (l.drop 1).dropLast.all low)
      rw [show decide ((l.drop 1).dropLast.length ≤ 8) = decide (((l.drop 1).dropLast.length : Int) ≤ 8) from decide_eq_decide.mpr (by omega)]
    refine s_ret (ev_sp2 (ev_is (ev_slS (ev_var rfl) (eo_some ev_c) (eo_some (ev_un ev_c ru_neg)) (by rw [S_len]; omega)) (congrArg V.str (cut_in l hb'.1))) ev_c (z := .bl (isKT l)) fun H2 _ Q' q' => ⟨8, rfl, rfl, fun s e => ?_, ?_⟩) fun H3 e3 => q.go (e1.trans e3)
    · cases e
      show (l.drop 1).dropLast.length ≤ 40000
      rw [List.length_dropLast, List.length_drop]
      omega
    · rw [← e]
      exact q'
  · have hb' := of_decide_eq_false hb
    refine s_ret (ev_is (ev_orV (a := decide (l = [110, 111, 110, 101])) (b := isNT l) (ev_is (ev_op (ev_var rfl) (ev_c (v := .str (S [110, 111, 110, 101]))) (rv_eq rfl)) (congrArg V.bl (dec_S _ _))) fun _ => ev_sp1 (ev_var rfl) fun H2 _ Q' q' => ⟨l, rfl, hl, q'⟩) ?_) fun H3 e3 => q.go (e1.trans e3)
    unfold isKT
    rw [if_neg hb']
end WP
set_option Elab.async false
set_option linter.all false
set_option maxRecDepth 100000
set_option maxHeartbeats 4000000
/-! tokens of lines -/
namespace WP
open PySem PySem.Spec PyProof.Rows L2 Evl SX
variable {w : World} {K : PySem.W.Frag} {mg : Str → Option Value} {base : Heap}
def alp (c : Nat) : Bool := low c || cap c
def dblL : List (List Nat) := v_DOUBLES.map fun s => s.cps.toList
def sngL : List (List Nat) := v_SINGLES.map fun s => s.cps.toList
/-- the token that a text begins with -/
def tokC (c : Nat) (r : List Nat) : List Nat :=
    if alp c then (c :: r).takeWhile alp else if dig c then (c :: r).takeWhile dig
    else if c = 45 then (if r.takeWhile dig = [] then [] else 45 :: r.takeWhile dig)
    else if c = 34 then (if (r.drop (r.takeWhile low).length).head? = some 34 then 34 :: (r.takeWhile low ++ [34]) else [])
    else if (dblL.any fun k => decide (k = (c :: r).take 2)) then (c :: r).take 2 else if (sngL.any fun k => decide (k = [c])) then [c] else []
def tokAt : List Nat → List Nat
  | [] => []
  | c :: r => tokC c r
inductive Tk : List Nat → List (List Nat) → Prop
  | nil : Tk [] []
  | sp {l : List Nat} {ts : List (List Nat)} (h : Tk l ts) : Tk (32 :: l) ts
  | tok {c : Nat} {l : List Nat} {ts : List (List Nat)} (hc : c ≠ 32) (h0 : tokAt (c :: l) ≠ []) (h : Tk ((c :: l).drop (tokAt (c :: l)).length) ts) : Tk (c :: l) (tokAt (c :: l) :: ts)
theorem Tk.uniq {l : List Nat} {ts : List (List Nat)} (h : Tk l ts) : ∀ {us : List (List Nat)}, Tk l us → ts = us := by
  induction h with
  | nil =>
    intro us h2
    cases h2
    rfl
  | sp h ih =>
    intro us h2
    cases h2 with
    | sp h2 => exact ih h2
    | tok hc _ _ => exact absurd rfl hc
  | tok hc h0 h ih =>
    intro us h2
    cases h2 with
    | sp h2 => exact absurd rfl hc
    | tok _ _ h2 => rw [ih h2]
theorem takeWhile_len {p : Nat → Bool} : ∀ l : List Nat, (l.takeWhile p).length ≤ l.length
  | [] => Nat.le_refl _
  | c :: r => by
    rw [List.takeWhile_cons]
    split
    · exact Nat.succ_le_succ (takeWhile_len r)
    · exact Nat.zero_le _
theorem tokAt_len : ∀ l : List Nat, (tokAt l).length ≤ l.length
  | [] => Nat.le_refl _
  | c :: r => by
    have h1 := takeWhile_len (p := dig) r
    have h2 := takeWhile_len (p := low) r
    show (tokC c r).length ≤ _
    unfold tokC
    split
    · exact takeWhile_len _
    · split
      · exact takeWhile_len _
      · split
        · split
          · exact Nat.zero_le _
          · exact Nat.succ_le_succ h1
        · split
          · split
            · rename_i h3
              have h5 : r.drop (r.takeWhile low).length ≠ [] := fun e => by rw [e] at h3; cases h3
              have h4 : (r.takeWhile low).length < r.length := by
                have h6 := List.length_pos_iff.mpr h5
                rw [List.length_drop] at h6
                omega
              simp
              omega
            · exact Nat.zero_le _
          · split
            · rw [List.length_take]; omega
            · split
              · simp
              · exact Nat.zero_le _
def sp_run_of : Sp := sp3 fun x y z H Q _ => ∃ (l : List Nat) (i : Nat) (sg : List Nat), x = .str (S l) ∧ y = .int (i : Int) ∧ z = .str (S sg) ∧ i ≤ l.length ∧ l.length ≤ 40000 ∧ RetV (.str (S ((l.drop i).takeWhile fun c => decide (c ∈ sg)))) H Q
def sp_token_at : Sp := sp2 fun x y H Q _ => ∃ (l : List Nat) (i : Nat), x = .str (S l) ∧ y = .int (i : Int) ∧ i < l.length ∧ l.length ≤ 40000 ∧ RetV (.str (S (tokAt (l.drop i)))) H Q
def sp_tokens_of : Sp := sp1 fun x H Q _ => ∃ (l : List Nat) (ts : List (List Nat)), x = .str (S l) ∧ l.length ≤ 40000 ∧ Tk l ts ∧ RetL (ts.map fun t => V.str (S t)) H Q
theorem rv_sgS {c : Nat} {l : List Nat} {H : Hp} : RV (fun x y H Q => ∃ (c : Nat) (z : Str), x = .str ⟨#[c]⟩ ∧ y = .str z ∧ Q (.bl (decide (c ∈ z.cps.toList))) H) (sgn c) (.str (S l)) H (.bl (decide (c ∈ l))) := rv_sg (z := S l)
theorem drop_some {l : List Nat} {i : Nat} (h : i < l.length) : ∃ c, l[i]? = some c ∧ l.drop i = c :: l.drop (i + 1) :=
  ⟨l[i], List.getElem?_eq_getElem h, List.drop_eq_getElem_cons h⟩
theorem o_run_of (T : TT K mg) : CalX PW w K mg base CX0 1 "run_of" sp_run_of := by
  obtain ⟨fd, F⟩ := f_run_of T
  refine ⟨_, mk3 F (b_run_of F) sc_run_of fun a b c cdv A outer s H Q E hr h => ⟨_, (PSs.nox (pss_cons (ps_set (i := 3) sc_run_of.nd rfl (Or.inl rfl) (pv 1))
        (pss_cons (ps_while PassesOwn.never (L2.PW.pt (pw_and (pt_cmpR op_lt (pv 3) (pe_callB (id := "len") call_len_str rfl (z_len T) (by decide +kernel) (pa_cons (pv 0) pa_nil)) (nomark _)) (pw_and1 (pt_cmpR op_in_sign (pe_ix ix_str (pv 0) (pv 3) (fun _ _ => rfl)) (pv 2) (by with_unfolding_all rfl))))) (pss_one (ps_aug (i := 3) sc_run_of.nd rfl (Or.inl rfl) pe_int ip_add)))
        (pss_one (ps_ret (pe_slice sl_str (pv 0) (po_some (pv 1)) (po_some (pv 3)))))))), ?_⟩, g_run_of T, F.kp⟩
  obtain ⟨l, i, sg, rfl, rfl, rfl, hi, hl, q⟩ := h
  refine q_asg (v := .int (i : Int)) (ev_var rfl) fun H0 e0 => ?_
  refine q_while (fun m σ' H' => ∃ j : Nat, m = l.length - j ∧ j ≤ l.length ∧ i ≤ j ∧ (l.drop i).takeWhile (fun c => decide (c ∈ sg)) = (l.drop i).take (j - i) ++ (l.drop j).takeWhile (fun c => decide (c ∈ sg)) ∧ Ex H H' ∧ σ' = [some (.str (S l)), some (.int (i : Int)), some (.str (S sg)), some (.int (j : Int))]) (l.length - i) ⟨i, rfl, hi, Nat.le_refl _, by rw [Nat.sub_self]; rfl, e0, rfl⟩ ?_
  rintro m σ' H' ⟨j, rfl, hj, hij, ht, e1, rfl⟩
  by_cases hlt : j < l.length
  · obtain ⟨d, hd1, hd2⟩ := drop_some hlt
    refine ⟨decide (d ∈ sg), et_is (et_and (a := true) (b := decide (d ∈ sg)) (et_is (et_test (ev_op (ev_var rfl) (ev_lenS (ev_var rfl) (by omega)) rv_I0)) (decide_eq_true (by omega))) fun _ => et_test (ev_op (ev_op (ev_var rfl) (ev_var rfl) (rv_ixSn hd1 (by omega))) (ev_var rfl) rv_sgS)) rfl, fun hb H1 e2 => ?_, fun hb H1 e2 => ?_⟩
    · refine ⟨fun σ2 H2 => Ex H H2 ∧ σ2 = [some (.str (S l)), some (.int (i : Int)), some (.str (S sg)), some (.int ((j + 1 : Nat) : Int))], fun σ2 H2 ⟨e3, es⟩ => ⟨l.length - (j + 1), by omega, j + 1, rfl, by omega, by omega, ?_, e3, es⟩, ?_⟩
      · rw [ht, hd2, List.takeWhile_cons, if_pos hb, show j + 1 - i = (j - i) + 1 by omega, List.take_succ, List.getElem?_drop, show i + (j - i) = j by omega, hd1]
        simp
      · refine s_aug (a := (j : Int)) (b := 1) (f := fun i j => i + j) rfl ev_c fun H2 e3 => ⟨(e1.trans e2).trans e3, ?_⟩
        show _ = _
        rw [show ((j + 1 : Nat) : Int) = (j : Int) + 1 by omega]
        rfl
    · refine s_ret (ev_slN (ev_var rfl) (ev_var rfl) (ev_var rfl) (by omega)) fun H2 e3 => ?_
      rw [hd2, List.takeWhile_cons, if_neg (by rw [hb]; exact Bool.false_ne_true), List.append_nil] at ht
      rw [← ht]
      exact q.go ((e1.trans e2).trans e3)
  · have hj' : j = l.length := by omega
    refine ⟨false, et_is (et_and (a := false) (b := false) (et_is (et_test (ev_op (ev_var rfl) (ev_lenS (ev_var rfl) (by omega)) rv_I0)) (decide_eq_false (by omega))) fun h => by cases h) rfl, fun hb => (Bool.false_ne_true hb).elim, fun _ H1 e2 => ?_⟩
    refine s_ret (ev_slN (ev_var rfl) (ev_var rfl) (ev_var rfl) (by omega)) fun H2 e3 => ?_
    rw [show l.drop j = [] by rw [hj']; exact List.drop_eq_nil_of_le (Nat.le_refl _), List.takeWhile_nil, List.append_nil] at ht
    rw [← ht]
    exact q.go ((e1.trans e2).trans e3)
theorem o_token_at (T : TT K mg) : CalX PW w K mg base CX0 2 "token_at" sp_token_at := by
  obtain ⟨fd, F⟩ := f_token_at T
  refine ⟨_, mk2 F (b_token_at F) sc_token_at fun a b cdv A outer s H Q E hr h => ⟨_, (pss_cons (ps_set (i := 2) sc_token_at.nd rfl (Or.inl rfl) (pe_ix ix_str (pv 0) (pv 1) (fun _ _ => rfl)))
        (pss_cons (ps_if (L2.PW.pt (pw_or (pt_cmpR op_in_sign (pv 2) (wgs (s_SMALL T)) (by with_unfolding_all rfl)) (pw_or1 (pt_cmpR op_in_sign (pv 2) (wgs (s_CAPITALS T)) (by with_unfolding_all rfl))))) (pss_one (ps_ret (wc (o_run_of T) hr (by decide) pass0 (pa_cons (pv 0) (pa_cons (pv 1) (pa_cons (pe_op op_add_str (wgs (s_SMALL T)) (wgs (s_CAPITALS T))) pa_nil)))))) pss_nil)
        (pss_cons (ps_if (pt_cmpR op_in_sign (pv 2) (wgs (s_DIGITS T)) (by with_unfolding_all rfl)) (pss_one (ps_ret (wc (o_run_of T) hr (by decide) pass0 (pa_cons (pv 0) (pa_cons (pv 1) (pa_cons (wgs (s_DIGITS T)) pa_nil)))))) pss_nil)
        (pss_cons (ps_if (pt_cmpR op_eq (pv 2) pe_str (nomark _)) (pss_cons (ps_set (i := 3) sc_token_at.nd rfl (Or.inl rfl) (wc (o_run_of T) hr (by decide) pass0 (pa_cons (pv 0) (pa_cons (pe_op op_add (pv 1) pe_int) (pa_cons (wgs (s_DIGITS T)) pa_nil)))))
        (pss_one (ps_ret (pe_ifExp (pt_cmpR op_ne (pv 3) pe_str (nomark _)) (pe_op op_add_str pe_str (pv 3)) pe_str)))) pss_nil)
        (pss_cons (ps_if (pt_cmpR op_eq (pv 2) pe_str (nomark _)) (pss_cons (ps_set (i := 4) sc_token_at.nd rfl (Or.inl rfl) (wc (o_run_of T) hr (by decide) pass0 (pa_cons (pv 0) (pa_cons (pe_op op_add (pv 1) pe_int) (pa_cons (wgs (s_SMALL T)) pa_nil)))))
        (pss_cons (ps_set (i := 5) sc_token_at.nd rfl (Or.inl rfl) (pe_op op_add (pe_op op_add (pv 1) pe_int) (pe_callB (id := "len") call_len_str rfl (z_len T) (by decide +kernel) (pa_cons (pv 4) pa_nil))))
        (pss_one (ps_ret (pe_ifExp (pt_cmpR op_eq (pe_slice sl_str (pv 0) (po_some (pv 5)) (po_some (pe_op op_add (pv 5) pe_int))) pe_str (nomark _)) (pe_op op_add_str (pe_op op_add_str pe_str (pv 4)) pe_str) pe_str))))) pss_nil)
        (pss_cons (ps_if (pt_cmpR op_in_seq (pe_slice sl_str (pv 0) (po_some (pv 1)) (po_some (pe_op op_add (pv 1) pe_int))) (wgr (g_DOUBLES T)) (by with_unfolding_all rfl)) (pss_one (ps_ret (pe_slice sl_str (pv 0) (po_some (pv 1)) (po_some (pe_op op_add (pv 1) pe_int))))) pss_nil)
        (pss_one (ps_ret (pe_ifExp (pt_cmpR op_in_seq (pv 2) (wgr (g_SINGLES T)) (by with_unfolding_all rfl)) (pv 2) pe_str))))))))), ?_⟩, g_token_at T, F.kp⟩
  obtain ⟨l, i, rfl, rfl, hi, hl, q⟩ := h
  obtain ⟨c, hc, hd⟩ := drop_some hi
  have et : tokAt (l.drop i) = tokC c (l.drop (i + 1)) := by rw [hd]; rfl
  have hlow : ∀ c : Nat, decide (c ∈ ("abcdefghijklmnopqrstuvwxyz" : Str).cps.toList) = low c := fun c => low_mem
  have hdig : ∀ c : Nat, decide (c ∈ ("0123456789" : Str).cps.toList) = dig c := fun c => dig_mem
  have halp : ∀ c : Nat, decide (c ∈ ("abcdefghijklmnopqrstuvwxyz" : Str).cps.toList ++ ("ABCDEFGHIJKLMNOPQRSTUVWXYZ" : Str).cps.toList) = alp c := fun c => by
    rw [Bool.eq_iff_iff, decide_eq_true_iff, List.mem_append]
    show _ ↔ (low c || cap c) = true
    rw [Bool.or_eq_true, ← low_mem, ← cap_mem, decide_eq_true_iff, decide_eq_true_iff]
  rw [et] at q
  refine q_asg (v := sgn c) (ev_op (ev_var rfl) (ev_var rfl) (rv_ixSn hc (by omega))) fun H1 e1 => ?_
  have er : ∀ (σ : L2.St) (H2 : Hp) (j : Nat) (sg : List Nat) (f : Nat → Bool) (te th : TE) (r : List Nat), Ev te σ H2 (.int (j : Int)) → Ev th σ H2 (.str (S sg)) → σ[0]? = some (some (.str (S l))) → j ≤ l.length → (∀ c, decide (c ∈ sg) = f c) → r = (l.drop j).takeWhile f →
      Ev (tF sp_run_of E0 (tCons (tVar 0) (tCons te (tCons th tNil)))) σ H2 (.str (S r)) := fun σ H2 j sg f te th r h1 h2 h3 h4 h5 h6 => by
    refine ev_sp3 (ev_var h3) h1 h2 fun H3 _ Q' q' => ⟨l, j, sg, rfl, rfl, rfl, h4, hl, ?_⟩
    rw [show (fun c => decide (c ∈ sg)) = f from funext h5, ← h6]
    exact q'
  refine q_when (b := alp c) (et_is (et_or (a := low c) (b := cap c) (et_test (ev_is (ev_op (ev_var rfl) ev_c rv_sg) (congrArg V.bl low_mem))) fun _ => et_test (ev_is (ev_op (ev_var rfl) ev_c rv_sg) (congrArg V.bl cap_mem))) rfl) (fun hb H2 e2 => ?_) fun ha H2 e2 => ?_
  · refine s_ret (er _ _ i (("abcdefghijklmnopqrstuvwxyz" : Str).cps.toList ++ ("ABCDEFGHIJKLMNOPQRSTUVWXYZ" : Str).cps.toList) alp _ _ (tokC c (l.drop (i + 1))) (ev_var rfl) ?_ rfl (by omega) halp ?_) fun H3 e3 => q.go ((e1.trans e2).trans e3)
    · have e := rv_addS (a := ("abcdefghijklmnopqrstuvwxyz" : Str).cps.toList) (b := ("ABCDEFGHIJKLMNOPQRSTUVWXYZ" : Str).cps.toList) (H := H2) (by decide +kernel)
      exact ev_op ev_c ev_c (by rw [S_tl, S_tl] at e; exact e)
    · rw [tokC, if_pos hb, hd]
  refine q_when (b := dig c) (et_test (ev_is (ev_op (ev_var rfl) ev_c rv_sg) (congrArg V.bl dig_mem))) (fun hb H3 e3 => ?_) fun hg H3 e3 => ?_
  · refine s_ret (er _ _ i ("0123456789" : Str).cps.toList dig _ _ (tokC c (l.drop (i + 1))) (ev_var rfl) (ev_is ev_c (congrArg V.str (S_tl _).symm)) rfl (by omega) hdig ?_) fun H4 e4 => q.go (((e1.trans e2).trans e3).trans e4)
    rw [tokC, if_neg (by rw [ha]; exact Bool.false_ne_true), if_pos hb, hd]
  have n1 : ¬ alp c = true := by rw [ha]; exact Bool.false_ne_true
  have n2 : ¬ dig c = true := by rw [hg]; exact Bool.false_ne_true
  refine q_when (b := decide (c = 45)) (et_is (et_test (ev_op (ev_var rfl) (ev_c (v := .str (S [45]))) (rv_eq rfl))) (dec_sgn c 45)) (fun hb H4 e4 => ?_) fun h45 H4 e4 => ?_
  · have hb := of_decide_eq_true hb
    have tl := takeWhile_len (p := dig) (l.drop (i + 1))
    rw [List.length_drop] at tl
    refine q_asg (v := .str (S ((l.drop (i + 1)).takeWhile dig))) (er _ _ (i + 1) ("0123456789" : Str).cps.toList dig _ _ _ (ev_op (ev_var rfl) ev_c (rv_val fun H5 _ Q' q' => ⟨(i : Int), 1, rfl, rfl, q'⟩)) (ev_is ev_c (congrArg V.str (S_tl _).symm)) rfl (by omega) hdig rfl) fun H5 e5 => ?_
    refine s_ret (v := .str (S (tokC c (l.drop (i + 1))))) (ev_if (b := !decide ((l.drop (i + 1)).takeWhile dig = [])) (et_is (et_test (ev_op (ev_var rfl) (ev_c (v := .str (S []))) (rv_ne rfl))) (congrArg not (dec_S _ _))) (fun h5 => ?_) fun h5 => ?_) fun H6 e6 => q.go (((((e1.trans e2).trans e3).trans e4).trans e5).trans e6)
    · refine ev_is (ev_op (ev_c (v := .str (S [45]))) (ev_var rfl) (rv_addS (by simp; omega))) ?_
      rw [tokC, if_neg n1, if_neg n2, if_pos hb, if_neg (by simpa using h5)]
      rfl
    · refine ev_is (ev_c (v := .str (S []))) ?_
      rw [tokC, if_neg n1, if_neg n2, if_pos hb, if_pos (by simpa using h5)]
  have n3 := of_decide_eq_false h45
  refine q_when (b := decide (c = 34)) (et_is (et_test (ev_op (ev_var rfl) (ev_c (v := .str (S [34]))) (rv_eq rfl))) (dec_sgn c 34)) (fun hb H5 e5 => ?_) fun h34 H5 e5 => ?_
  · have hb := of_decide_eq_true hb
    have tl := takeWhile_len (p := low) (l.drop (i + 1))
    rw [List.length_drop] at tl
    refine q_asg (v := .str (S ((l.drop (i + 1)).takeWhile low))) (er _ _ (i + 1) ("abcdefghijklmnopqrstuvwxyz" : Str).cps.toList low _ _ _ (ev_op (ev_var rfl) ev_c (rv_val fun H5 _ Q' q' => ⟨(i : Int), 1, rfl, rfl, q'⟩)) (ev_is ev_c (congrArg V.str (S_tl _).symm)) rfl (by omega) hlow rfl) fun H6 e6 => ?_
    obtain ⟨k, hk⟩ : ∃ k, k = ((l.drop (i + 1)).takeWhile low).length := ⟨_, rfl⟩
    refine q_asg (v := .int ((i + 1 + k : Nat) : Int)) (ev_is (ev_op (ev_op (ev_var rfl) ev_c rv_I0) (ev_lenS (ev_var rfl) (by omega)) rv_I0) (by rw [← hk]; congr 1)) fun H7 e7 => ?_
    have e34 : (l.drop (i + 1 + k)).take 1 = [34] ↔ ((l.drop (i + 1)).drop k).head? = some 34 := by
      rw [List.drop_drop]
      cases l.drop (i + 1 + k) with
      | nil => simp
      | cons a r => simp
    refine s_ret (v := .str (S (tokC c (l.drop (i + 1))))) (ev_if (b := decide ((l.drop (i + 1 + k)).take 1 = [34])) (et_is (et_test (ev_op (ev_slN (i := i + 1 + k) (j := i + 1 + k + 1) (ev_var rfl) (ev_var rfl) (ev_is (ev_op (ev_var rfl) ev_c rv_I0) (by rfl)) (by omega)) (ev_c (v := .str (S [34]))) (rv_eq rfl))) ?_) (fun h5 => ?_) fun h5 => ?_) fun H8 e8 => q.go (((((((e1.trans e2).trans e3).trans e4).trans e5).trans e6).trans e7).trans e8)
    · rw [dec_S, show i + 1 + k + 1 - (i + 1 + k) = 1 by omega]
    · refine ev_is (ev_op (ev_op (ev_c (v := .str (S [34]))) (ev_var rfl) (rv_addS (by simp; omega))) (ev_c (v := .str (S [34]))) (rv_addS (by simp; omega))) ?_
      rw [tokC, if_neg n1, if_neg n2, if_neg n3, if_pos hb, ← hk, if_pos (e34.mp (of_decide_eq_true h5))]
      rfl
    · refine ev_is (ev_c (v := .str (S []))) ?_
      rw [tokC, if_neg n1, if_neg n2, if_neg n3, if_pos hb, ← hk, if_neg (fun h => of_decide_eq_false h5 (e34.mpr h))]
  have n4 := of_decide_eq_false h34
  have e2t : (l.drop i).take (i + 2 - i) = (c :: l.drop (i + 1)).take 2 := by rw [hd, show i + 2 - i = 2 by omega]
  have sl : ∀ (σ : L2.St) (H : Hp), σ[0]? = some (some (.str (S l))) → σ[1]? = some (some (.int (i : Int))) → Ev (tSl rSlS (tVar 0) (tPart (tVar 1)) (tPart (tOp (rI0 fun i j => .int (i + j)) (tVar 1) (tC (.int 2))))) σ H (.str (S ((c :: l.drop (i + 1)).take 2))) := fun σ H h0 h1 => by
    rw [← e2t]
    exact ev_slN (ev_var h0) (ev_var h1) (ev_is (ev_op (ev_var h1) ev_c rv_I0) (by rfl)) (by omega)
  refine q_when (b := dblL.any fun k => decide (k = (c :: l.drop (i + 1)).take 2)) (et_is (et_test (ev_op (sl _ _ rfl rfl) ev_c (rv_isT (t_DOUBLES T _) rfl (by rw [List.all_map]; exact List.all_eq_true.mpr fun _ _ => rfl)))) inV_str) (fun hb H6 e6 => ?_) fun hdb H6 e6 => ?_
  · refine s_ret (v := .str (S (tokC c (l.drop (i + 1))))) (ev_is (sl _ _ rfl rfl) ?_) fun H7 e7 => q.go ((((((e1.trans e2).trans e3).trans e4).trans e5).trans e6).trans e7)
    rw [tokC, if_neg n1, if_neg n2, if_neg n3, if_neg n4, if_pos hb]
  · refine s_ret (v := .str (S (tokC c (l.drop (i + 1))))) (ev_if (b := sngL.any fun k => decide (k = [c])) (et_is (et_test (ev_op (ev_var rfl) ev_c (rv_isT (t_SINGLES T _) rfl (by rw [List.all_map]; exact List.all_eq_true.mpr fun _ _ => rfl)))) (inV_str (l := [c]))) (fun h5 => ?_) fun h5 => ?_) fun H7 e7 => q.go ((((((e1.trans e2).trans e3).trans e4).trans e5).trans e6).trans e7)
    · refine ev_is (ev_var rfl) ?_
      rw [tokC, if_neg n1, if_neg n2, if_neg n3, if_neg n4, if_neg (by rw [hdb]; exact Bool.false_ne_true), if_pos h5]
      rfl
    · refine ev_is (ev_c (v := .str (S []))) ?_
      rw [tokC, if_neg n1, if_neg n2, if_neg n3, if_neg n4, if_neg (by rw [hdb]; exact Bool.false_ne_true), if_neg (by rw [h5]; exact Bool.false_ne_true)]
theorem o_tokens_of (T : TT K mg) : CalX PW w K mg base CX0 3 "tokens_of" sp_tokens_of := by
  obtain ⟨fd, F⟩ := f_tokens_of T
  refine ⟨_, mk1 F (b_tokens_of F) sc_tokens_of fun a cdv A outer s H Q E hr h => ⟨_, (PSs.nox (pss_cons (ps_set (i := 1) sc_tokens_of.nd rfl (Or.inl rfl) (pe_lst pa_nil))
        (pss_cons (ps_set (i := 2) sc_tokens_of.nd rfl (Or.inl rfl) pe_int)
        (pss_cons (ps_while PassesOwn.never (pt_cmpR op_lt (pv 2) (pe_callB (id := "len") call_len_str rfl (z_len T) (by decide +kernel) (pa_cons (pv 0) pa_nil)) (nomark _)) (pss_cons (ps_if (pt_cmpR op_eq (pe_ix ix_str (pv 0) (pv 2) (fun _ _ => rfl)) pe_str (nomark _)) (pss_cons (ps_aug (i := 2) sc_tokens_of.nd rfl (Or.inl rfl) pe_int ip_add)
        (pss_one ps_continue)) pss_nil)
        (pss_cons (ps_set (i := 3) sc_tokens_of.nd rfl (Or.inl rfl) (wc (o_token_at T) hr (by decide) pass0 (pa_cons (pv 0) (pa_cons (pv 2) pa_nil))))
        (pss_cons (ps_if (pt_cmpR op_eq (pv 3) pe_str (nomark _)) (pss_one ps_never) pss_nil)
        (pss_cons (ps_expr (pe_bm PySem.F.plainAttrs_list PySem.F.slot_list_append PySem.F.type_list_append mt_append (pv 1) (pa_cons (pv 3) pa_nil)))
        (pss_one (ps_aug (i := 2) sc_tokens_of.nd rfl (Or.inl rfl) (pe_callB (id := "len") call_len_str rfl (z_len T) (by decide +kernel) (pa_cons (pv 3) pa_nil)) ip_add)))))))
        (pss_one (ps_ret (pv 1))))))), ?_⟩, g_tokens_of T, F.kp⟩
  obtain ⟨l, ts, rfl, hl, ht, q⟩ := h
  refine q_asgL (el_lst ea_nil (by decide)) fun p H1 hp e1 h1 => ?_
  refine q_asg (v := .int ((0 : Nat) : Int)) ev_c fun H2 e2 => ?_
  refine q_while (fun m σ' H' => ∃ (j : Nat) (dn rs : List (List Nat)) (o : Option V), m = l.length - j ∧ j ≤ l.length ∧ dn.length ≤ j ∧ ts = dn ++ rs ∧ Tk (l.drop j) rs ∧ Ex H H' ∧ H' p = some (.lst (dn.map fun t => V.str (S t))) ∧ σ' = [some (.str (S l)), some (.ref p), some (.int (j : Int)), o]) l.length
    ⟨0, [], ts, none, rfl, Nat.zero_le _, Nat.le_refl _, rfl, ht, e1.trans e2, e2 _ _ h1, rfl⟩ ?_
  rintro m σ' H' ⟨j, dn, rs, o, rfl, hj, hdn, ets, htk, e3, hpl, rfl⟩
  by_cases hlt : j < l.length
  · obtain ⟨c, hc, hd⟩ := drop_some hlt
    rw [hd] at htk
    refine ⟨true, et_is (et_test (ev_op (ev_var rfl) (ev_lenS (ev_var rfl) (by omega)) rv_I0)) (decide_eq_true (by omega)), fun _ H4 e4 => ?_, fun hb => (Bool.false_ne_true hb.symm).elim⟩
    refine ⟨fun σ2 H2 => ∃ (j' : Nat) (dn' rs' : List (List Nat)) (o' : Option V), j < j' ∧ j' ≤ l.length ∧ dn'.length ≤ j' ∧ ts = dn' ++ rs' ∧ Tk (l.drop j') rs' ∧ Ex H H2 ∧ H2 p = some (.lst (dn'.map fun t => V.str (S t))) ∧ σ2 = [some (.str (S l)), some (.ref p), some (.int (j' : Int)), o'],
      fun σ2 H2 ⟨j', dn', rs', o', a1, a2, a3, a4, a5, a6, a7, a8⟩ => ⟨l.length - j', by omega, j', dn', rs', o', rfl, a2, a3, a4, a5, a6, a7, a8⟩, ?_⟩
    refine q_when (et_test (ev_op (ev_op (ev_var rfl) (ev_var rfl) (rv_ixSn hc (by omega))) (ev_c (v := .str (S [32]))) (rv_eq rfl))) (fun hb H5 e5 => ?_) fun hb H5 e5 => ?_
    · rw [dec_sgn] at hb
      have hb := of_decide_eq_true hb
      subst hb
      refine q_aug (a := (j : Int)) (b := 1) (f := fun i j => i + j) rfl ev_c fun H6 e6 => ?_
      have ht2 : Tk (l.drop (j + 1)) rs := by
        cases htk with
        | sp h => exact h
        | tok h _ _ => exact absurd rfl h
      refine ⟨j + 1, dn, rs, o, by omega, by omega, by omega, ets, ht2, ((e3.trans e4).trans e5).trans e6, e6 _ _ (e5 _ _ (e4 _ _ hpl)), ?_⟩
      show _ = _
      rw [show ((j + 1 : Nat) : Int) = (j : Int) + 1 by omega]
      rfl
    · rw [dec_sgn] at hb
      have hb := of_decide_eq_false hb
      obtain ⟨rs', h0, ers, ht2⟩ : ∃ rs', tokC c (l.drop (j + 1)) ≠ [] ∧ rs = tokC c (l.drop (j + 1)) :: rs' ∧ Tk ((c :: l.drop (j + 1)).drop (tokC c (l.drop (j + 1))).length) rs' := by
        cases htk with
        | sp h => exact absurd rfl hb
        | tok h h0 h => exact ⟨_, h0, rfl, h⟩
      have et : tokAt (l.drop j) = tokC c (l.drop (j + 1)) := by rw [hd]; rfl
      have hle : (tokC c (l.drop (j + 1))).length ≤ l.length - j := by
        have := tokAt_len (l.drop j)
        rw [et, List.length_drop] at this
        exact this
      have hpos := List.length_pos_iff.mpr h0
      refine q_asg (v := .str (S (tokC c (l.drop (j + 1))))) (ev_sp2 (ev_var rfl) (ev_var rfl) fun H6 _ Q' q' => ⟨l, j, rfl, rfl, hlt, hl, by rw [et]; exact q'⟩) fun H6 e6 => ?_
      refine q_when (b := false) (et_is (et_test (ev_op (ev_var rfl) (ev_c (v := .str (S []))) (rv_eq rfl))) ?_) (fun hb => (Bool.false_ne_true hb).elim) fun _ H7 e7 => ?_
      · rw [dec_S]
        exact decide_eq_false h0
      have hp7 := e7 _ _ (e6 _ _ (e5 _ _ (e4 _ _ hpl)))
      refine q_app hp7 (ev_var rfl) (ev_var rfl) (by rw [List.length_map]; omega) fun H8 e8 => ?_
      refine s_aug (a := (j : Int)) (b := ((tokC c (l.drop (j + 1))).length : Int)) (f := fun i j => i + j) rfl (ev_lenS (ev_var rfl) (by omega)) fun H9 e9 => ?_
      refine ⟨j + (tokC c (l.drop (j + 1))).length, dn ++ [tokC c (l.drop (j + 1))], rs', some (.str (S (tokC c (l.drop (j + 1))))), by omega, by omega, ?_, ?_, ?_, ?_, ?_, ?_⟩
      · rw [List.length_append]
        simp
        omega
      · rw [ets, ers, List.append_assoc]
        rfl
      · rw [← List.drop_drop, hd]
        exact ht2
      · exact (Ex.mut ((((((e3.trans e4).trans e5).trans e6).trans e7).trans e8)) (fresh_back (Ex.refl H) hp)).trans e9
      · rw [List.map_append]
        exact e9 _ _ upd_same
      · show _ = _
        rw [show ((j + (tokC c (l.drop (j + 1))).length : Nat) : Int) = (j : Int) + ((tokC c (l.drop (j + 1))).length : Int) by omega]
        rfl
  · have hj' : j = l.length := by omega
    rw [show l.drop j = [] by rw [hj']; exact List.drop_eq_nil_of_le (Nat.le_refl _)] at htk
    have hrs : rs = [] := by
      cases htk
      rfl
    refine ⟨false, et_is (et_test (ev_op (ev_var rfl) (ev_lenS (ev_var rfl) (by omega)) rv_I0)) (decide_eq_false (by omega)), fun hb => (Bool.false_ne_true hb).elim, fun _ H4 e4 => ?_⟩
    refine s_ret (ev_var rfl) fun H5 e5 => q p H5 hp ((e3.trans e4).trans e5) ?_
    rw [ets, hrs, List.append_nil]
    exact e5 _ _ (e4 _ _ hpl)
/-! ### how a line is written: some text -/
def sp_is_tight : Sp := sp2 fun x y H Q _ => ∃ a b : List Nat, x = .str (S a) ∧ y = .str (S b) ∧ a.length ≤ 40000 ∧ ∀ (k : Bool) H', Ex H H' → Q (.bl k) H'
def sp_spaced : Sp := sp1 fun x H Q _ => ∃ (p : Addr) (ws : List (List Nat)), x = .ref p ∧ SqL K H p (ws.map fun t => V.str (S t)) ∧ ws.length ≤ 200 ∧ (∀ t ∈ ws, t.length ≤ 200) ∧ ∀ (z : List Nat) H', z.length ≤ 50000 → Ex H H' → Q (.str (S z)) H'
theorem all2 (a b : V) (ha : flatV a = true) (hb : flatV b = true) : [a, b].all flatV = true := by simp [ha, hb]
theorem o_is_tight (T : TT K mg) : CalX PW w K mg base CX0 3 "is_tight" sp_is_tight := by
  obtain ⟨fd, F⟩ := f_is_tight T
  refine ⟨_, mk2 F (b_is_tight F) sc_is_tight fun a b cdv A outer s H Q E hr h => ⟨_, (pss_cons (ps_if (L2.PW.pt (pw_or (pt_cmpR op_in_seq (pv 0) (pe_tup (pa_cons pe_str (pa_cons pe_str pa_nil))) (by with_unfolding_all rfl)) (pw_or1 (pt_cmpR op_in_seq (pv 1) (pe_tup (pa_cons pe_str (pa_cons pe_str (pa_cons pe_str pa_nil)))) (by with_unfolding_all rfl))))) (pss_one (ps_ret pe_bl)) pss_nil)
        (pss_cons (ps_if (pt_cmpR op_eq (pv 1) pe_str (nomark _)) (pss_one (ps_ret (pe_or (pe_cmpR op_eq (pv 0) pe_str (nomark _)) (pe_one (wc (o_is_name T) hr (by decide) pass0 (pa_cons (pv 0) pa_nil)))))) pss_nil)
        (pss_one (ps_ret (pe_and (pe_cmpR op_eq (pv 1) pe_str (nomark _)) (pe_one (pe_or (pe_cmpR op_eq (pv 0) pe_str (nomark _)) (pe_one (wc (o_is_name T) hr (by decide) pass0 (pa_cons (pv 0) pa_nil)))))))))), ?_⟩, g_is_tight T, F.kp⟩
  obtain ⟨x, y, rfl, rfl, hx, q⟩ := h
  have nm : ∀ (σ : L2.St) (H : Hp), σ[0]? = some (some (.str (S x))) → Ev (tF sp_is_name E0 (tCons (tVar 0) tNil)) σ H (.bl (isNm x)) := fun σ H h0 => ev_sp1 (ev_var h0) fun H1 _ Q' q' => ⟨x, rfl, hx, q'⟩
  refine q_when (et_or (et_test (ev_inU (ev_var rfl) (eu_tup (ea_cons ev_c (ea_cons ev_c ea_nil)) (by decide)) rfl rfl)) fun _ => et_test (ev_inU (ev_var rfl) (eu_tup (ea_cons ev_c (ea_cons ev_c (ea_cons ev_c ea_nil))) (by decide)) rfl rfl)) (fun _ H1 e1 => s_ret ev_c fun H2 e2 => q _ _ (e1.trans e2)) fun _ H1 e1 => ?_
  refine q_when (et_test (ev_op (ev_var rfl) ev_c (rv_eq rfl))) (fun _ H2 e2 => ?_) fun _ H2 e2 => ?_
  · exact s_ret (ev_orV (ev_op (ev_var rfl) ev_c (rv_eq rfl)) fun _ => nm _ _ rfl) fun H3 e3 => q _ _ ((e1.trans e2).trans e3)
  · exact s_ret (ev_andV (ev_op (ev_var rfl) ev_c (rv_eq rfl)) fun _ => ev_orV (ev_op (ev_var rfl) ev_c (rv_eq rfl)) fun _ => nm _ _ rfl) fun H3 e3 => q _ _ ((e1.trans e2).trans e3)
end WP
set_option Elab.async false
set_option linter.all false
set_option maxRecDepth 100000
set_option maxHeartbeats 4000000
/-! spaced, value_of, call_text -/
namespace WP
open PySem PySem.Spec PyProof.Rows L2 Evl SX
variable {w : World} {K : PySem.W.Frag} {mg : Str → Option Value} {base : Heap}
theorem o_spaced (T : TT K mg) : CalX PW w K mg base CX0 4 "spaced" (sp_spaced (K := K)) := by
  obtain ⟨fd, F⟩ := f_spaced T
  refine ⟨_, mk1 F (b_spaced F) sc_spaced fun a cdv A outer s H Q E hr h => ⟨_, (PSs.nox (pss_cons (ps_set (i := 1) sc_spaced.nd rfl (Or.inl rfl) pe_str)
        (pss_cons (ps_set (i := 2) sc_spaced.nd rfl (Or.inl rfl) pe_non)
        (pss_cons (ps_for PassesOwn.never rfl (pi_list (pv 0)) (pg_name (i := 3) sc_spaced.nd rfl (Or.inl rfl)) (pss_cons (ps_aug (i := 1) sc_spaced.nd rfl (Or.inl rfl) (pe_ifExp (L2.PW.pt (pw_or (pt_cmpR op_isN (pv 2) pe_non (nomark _)) (pw_or1 (pt_val (wc (o_is_tight T) hr (by decide) pass0 (pa_cons (pv 2) (pa_cons (pv 3) pa_nil))))))) (pv 3) (pe_op op_add_str pe_str (pv 3))) iop_add_str)
        (pss_one (ps_set (i := 2) sc_spaced.nd rfl (Or.inl rfl) (pv 3)))))
        (pss_one (ps_ret (pv 1))))))), ?_⟩, g_spaced T, F.kp⟩
  obtain ⟨p, ws, rfl, hp, hn, hw, q⟩ := h
  refine q_asg (v := .str (S [])) ev_c fun H1 e1 => q_asg (v := .non) ev_c fun H2 e2 => ?_
  refine q_forL (ev_var rfl) (ex_l (e1.trans e2) hp) (fun i σ' H' => Ex H H' ∧ ∃ (z : List Nat) (b : V) (o : Option V), z.length ≤ 201 * i ∧ (b = .non ∨ ∃ t : List Nat, b = .str (S t) ∧ t.length ≤ 200) ∧ σ' = [some (.ref p), some (.str (S z)), some b, o])
    (fun H3 e3 => ⟨(e1.trans e2).trans e3, [], .non, none, by simp, .inl rfl, rfl⟩) (fun i σ' H' _ ⟨e, _⟩ => ex_l e hp) ?_ ?_
  · rintro i x σ' H' hx ⟨e3, z, b, o, hz, hb, rfl⟩
    have hi : i < ws.length := by
      have := (List.getElem?_eq_some_iff.mp hx).1
      rwa [List.length_map] at this
    rw [List.getElem?_map, List.getElem?_eq_getElem hi] at hx
    obtain rfl := Option.some.inj hx
    have ht := hw _ (List.getElem_mem hi)
    generalize ws[i] = t at ht
    show tSeq _ _ _ _ _
    have fin : ∀ (r : List Nat) (H4 : Hp), r.length ≤ 201 → Ex H' H4 → tAsg (tVar 3) (gName 2) { nx := fun σ' H' => Ex H H' ∧ ∃ (z : List Nat) (b : V) (o : Option V), z.length ≤ 201 * (i + 1) ∧ (b = .non ∨ ∃ t : List Nat, b = .str (S t) ∧ t.length ≤ 200) ∧ σ' = [some (.ref p), some (.str (S z)), some b, o], rt := Q } [some (.ref p), some (.str (S (z ++ r))), some b, some (.str (S t))] H4 := fun r H4 hr e4 =>
      s_asg (ev_var rfl) fun H5 e5 => ⟨(e3.trans e4).trans e5, z ++ r, .str (S t), some (.str (S t)), by rw [List.length_append]; omega, .inr ⟨t, rfl, ht⟩, rfl⟩
    have go : ∀ (r : List Nat) (te : TE) (H4 : Hp), Ex H' H4 → r.length ≤ 201 → Ev te [some (.ref p), some (.str (S z)), some b, some (.str (S t))] H4 (.str (S r)) → te [some (.ref p), some (.str (S z)), some b, some (.str (S t))] H4 fun y H5 => ∃ i' j' : Str, V.str (S z) = .str i' ∧ y = .str j' ∧ i'.length + j'.length ≤ sizeLine ∧
        tAsg (tVar 3) (gName 2) { nx := fun σ' H' => Ex H H' ∧ ∃ (z : List Nat) (b : V) (o : Option V), z.length ≤ 201 * (i + 1) ∧ (b = .non ∨ ∃ t : List Nat, b = .str (S t) ∧ t.length ≤ 200) ∧ σ' = [some (.ref p), some (.str (S z)), some b, o], rt := Q } [some (.ref p), some (.str (i' ++ j')), some b, some (.str (S t))] H5 := fun r te H4 e4 hr h => h H4 (Ex.refl _) _ fun H5 e5 => ⟨S z, S r, rfl, rfl, by rw [S_len, S_len]; exact sz_of (by omega), by rw [S_cat]; exact fin r H5 hr (e4.trans e5)⟩
    refine ⟨.str (S z), rfl, ?_⟩
    rcases hb with rfl | ⟨u, rfl, hu⟩
    · exact et_test (ev_op (ev_var (v := .non) rfl) ev_c rv_isN) H' (Ex.refl _) _ fun H4 e4 => iteT (iteT (go t (tVar 3) H4 e4 (by omega) (ev_var rfl)))
    · refine et_test (ev_op (ev_var (v := .str (S u)) rfl) ev_c rv_isN) H' (Ex.refl _) _ fun H4 e4 => iteF ?_
      refine ⟨_, rfl, _, rfl, _, _, rfl, u, t, rfl, rfl, by omega, fun k H7 e7 => ⟨k, rfl, ?_⟩⟩
      cases k with
      | true => exact iteT (go t (tVar 3) H7 (e4.trans e7) (by omega) (ev_var rfl))
      | false => exact iteF (go (32 :: t) (tOp _ (tC (.str (S [32]))) (tVar 3)) H7 (e4.trans e7) (by simp; omega) (ev_op ev_c (ev_var rfl) (rv_addS (a := [32]) (b := t) (by simp; omega))))
  · rintro σ' H' ⟨e3, z, b, o, hz, hb, rfl⟩
    rw [List.length_map] at hz
    exact s_ret (ev_var rfl) fun H4 e4 => q z H4 (by omega) (e3.trans e4)
/-! ### constants back and forth -/
theorem kTxt_nn (n : Nat) : kTxt (.int (n : Int)) = TL.numL n := PySem.W.KIN.signs_num n
theorem kTxt_neg (n : Nat) : kTxt (.int (Int.negSucc n)) = 45 :: TL.numL (n + 1) := by
  show (Str.ofString (toString (Int.negSucc n))).cps.toList = _
  rw [PyProof.Rows.signs_ofString]
  show (("-" ++ Nat.repr (n + 1)).toList).map Char.toNat = _
  rw [String.toList_append, List.map_append, Nat.toList_repr]
  rfl
theorem numL_head {n c : Nat} {r : List Nat} (h : TL.numL n = c :: r) : 48 ≤ c ∧ c ≤ 57 := TL.numL_digits n c (by rw [h]; exact List.mem_cons_self ..)
/-- what is read back of a whole number -/
theorem kTxt_int {i : Int} (h : i.natAbs < 10 ^ 40) : intText? (S (kTxt (.int i))) = some i ∧ (kTxt (.int i)).length ≤ 41 ∧ ∃ c r, kTxt (.int i) = c :: r ∧ (c = 45 ∨ (48 ≤ c ∧ c ≤ 57)) := by
  cases i with
  | ofNat n =>
    rw [show Int.ofNat n = (n : Int) from rfl, kTxt_nn]
    have hl : (TL.numL n).length ≤ 40 := TL.numL_len (by decide) h
    refine ⟨?_, by omega, ?_⟩
    · rw [intText_digits (x := S (TL.numL n)) (TL.numL_digits n) (TL.numL_ne n) (by rw [S_len]; omega)]
      exact congrArg (fun m : Nat => some (m : Int)) (TL.numL_val n)
    · cases e : TL.numL n with
      | nil => exact absurd e (TL.numL_ne n)
      | cons c r => exact ⟨c, r, rfl, .inr (numL_head e)⟩
  | negSucc n =>
    rw [kTxt_neg]
    have hl : (TL.numL (n + 1)).length ≤ 40 := TL.numL_len (by decide) h
    refine ⟨?_, Nat.succ_le_succ hl, 45, _, rfl, .inl rfl⟩
    rw [intText_neg (x := S (45 :: TL.numL (n + 1))) (cs := TL.numL (n + 1)) rfl (TL.numL_digits _) (TL.numL_ne _) (by rw [S_len, List.length_cons]; omega)]
    rw [TL.numL_val]
    rfl
theorem kTxt_len {v : V} (h : isK v = true) : (kTxt v).length ≤ 31 := by
  cases v with
  | non => decide
  | str z =>
    have h : isW (.str z) 8 = true := by simpa [isK, isI] using h
    have h2 : (decide ((z.cps.toList.length : Int) ≤ 8) && z.cps.toList.all low) = true := h
    rw [Bool.and_eq_true, decide_eq_true_eq] at h2
    show (34 :: z.cps.toList ++ [34]).length ≤ 31
    rw [List.length_append, List.length_cons]
    simp only [List.length_cons, List.length_nil]
    omega
  | int i =>
    have h : decide ((if i < 0 then -i else i) < 10 ^ 30) = true := by simpa [isK, isI, smK, isW] using h
    have h2 := of_decide_eq_true h
    cases i with
    | ofNat n =>
      rw [show Int.ofNat n = (n : Int) from rfl, kTxt_nn]
      have h3 : n < 10 ^ 30 := by
        rw [if_neg (by simp)] at h2
        have : ((n : Nat) : Int) < 10 ^ 30 := h2
        omega
      exact Nat.le_trans (TL.numL_len (by decide) h3) (by decide)
    | negSucc n =>
      rw [kTxt_neg]
      have h3 : n + 1 < 10 ^ 30 := by
        rw [if_pos (Int.negSucc_lt_zero n), Int.neg_negSucc] at h2
        have : ((n + 1 : Nat) : Int) < 10 ^ 30 := h2
        omega
      exact Nat.succ_le_succ (TL.numL_len (by decide) h3)
  | _ => simp [isK, isI, isW] at h
/-- a call as it is written -/
def callT (n : List Nat) (vs : List V) : List Nat := n ++ (40 :: (TL.joinL [44, 32] (vs.map kTxt) ++ [41]))
def sp_call_text : Sp := fun us H Q _ => ∃ v rest, us = v :: rest ∧ rest.length ≤ 5 ∧ ∀ p, H p = none → ∃ (n : List Nat) , v = .str (S n) ∧ isNm n = true ∧ rest.length ≤ 3 ∧ (∀ x ∈ rest, isK x = true) ∧ RetV (.str (S (callT n rest))) (upd H p (.tup rest)) Q
theorem joinL_len : ∀ (l : List (List Nat)) (b : Nat), (∀ x ∈ l, x.length ≤ b) → (TL.joinL [44, 32] l).length ≤ l.length * (b + 2)
  | [], b, _ => Nat.zero_le _
  | [p], b, h => by
    have := h p (by simp)
    show p.length ≤ 1 * (b + 2)
    omega
  | p :: q :: r, b, h => by
    have h1 := h p (by simp)
    have h2 := joinL_len (q :: r) b fun x hx => h x (List.mem_cons_of_mem _ hx)
    show (p ++ ([44, 32] ++ TL.joinL [44, 32] (q :: r))).length ≤ (q :: r).length.succ * (b + 2)
    rw [List.length_append, List.length_append, Nat.succ_mul]
    simp only [List.length_cons, List.length_nil] at h2 ⊢
    omega
theorem isK_sc {v : V} (h : isK v = true) : isSc v = true := by cases v <;> first | rfl | simp [isK, isI, isW] at h
theorem isK_ltx {v : V} (h : isK v = true) : ltx v := fun s e => by
  subst e
  have h : isW (.str s) 8 = true := by simpa [isK, isI] using h
  have h2 : (decide ((s.cps.toList.length : Int) ≤ 8) && s.cps.toList.all low) = true := h
  rw [Bool.and_eq_true, decide_eq_true_eq] at h2
  omega
theorem isK_int {v : V} (h : isK v = true) : ∀ i, v = .int i → i.natAbs < 10 ^ 40 := fun i e => by
  subst e
  have h : decide ((if i < 0 then -i else i) < 10 ^ 30) = true := by simpa [isK, isI, smK, isW] using h
  have h2 := of_decide_eq_true h
  have h3 : ((i.natAbs : Nat) : Int) < 10 ^ 30 := by
    split at h2 <;> omega
  have h4 : i.natAbs < 10 ^ 30 := by omega
  exact Nat.lt_trans h4 (by decide)
theorem isNm_len {n : List Nat} (h : isNm n = true) : n.length ≤ 12 := by
  unfold isNm at h
  simp only [Bool.and_eq_true, decide_eq_true_eq] at h
  omega
theorem el_is {te : TE} {σ : L2.St} {H : Hp} {xs ys : List V} (h : EvL te σ H xs) (e : xs = ys) : EvL te σ H ys := by
  rw [← e]
  exact h
theorem ev_join {te : TE} {σ : L2.St} {H : Hp} {sep : List Nat} {ys : List (List Nat)} (h : EvL te σ H (ys.map fun y => V.str (S y))) (hz : (ys.map (·.length)).sum + ys.length * sep.length ≤ 100000) :
    Ev (tBM K "str" (fun x xs H Q => ∃ a p, ∃ ys : List Str, x = .str a ∧ xs = [.ref p] ∧ (SqL K H p (ys.map V.str) ∨ SqT K H p (ys.map V.str)) ∧ (ys.map (·.length)).sum + ys.length * a.length ≤ 16777216 ∧ Q (.str (Txt.join a ys)) H) (tC (.str (S sep))) (tCons te tNil)) σ H (.str (S (TL.joinL sep ys))) := fun H1 e Q q =>
  ⟨rfl, h H1 e _ fun p H2 _ e2 hp => ⟨S sep, p, ys.map S, rfl, rfl, .inl (by rw [List.map_map]; exact sq_of hp), by rw [lens, List.length_map, S_len]; omega, by rw [join_S]; exact q H2 e2⟩⟩
theorem o_call_text (T : TT K mg) : CalX PW w K mg base CX0 3 "call_text" sp_call_text := by
  obtain ⟨fd, F⟩ := f_call_text T
  obtain ⟨oc, od, dV, kV, doc, pm, an, cdv, ct, osl, rfl, lk, hcd, hD, hK⟩ := id F.ex
  obtain rfl : dV = .none := by
    rcases hD with ⟨_, e⟩ | ⟨e, _⟩
    · exact e
    · exact absurd rfl e
  refine ⟨_, fn_ofV (N := ["name", "values", "at", "value"]) (nmax := 5) lk hcd sc_call_text (by decide) (bindV_of (fun _ => rfl) (fun _ _ => rfl) (fun _ _ _ => rfl) (fun _ _ _ _ => rfl) (fun _ _ _ _ _ => rfl) (fun _ _ _ _ _ _ => rfl)) (fun _ _ _ _ _ _ _ _ _ _ _ _ h => h)
    (sp := fun vs H Q E => ∃ (n : List Nat) (p : Addr) (rest : List V), vs = [.str (S n), .ref p] ∧ isNm n = true ∧ rest.length ≤ 3 ∧ (∀ x ∈ rest, isK x = true) ∧ H p = some (.tup rest) ∧ RetV (.str (S (callT n rest))) H Q) (fun A outer s H vs Q E hr h => ⟨_, (PSs.nox (pss_cons (ps_if (pt_not (pt_val (wc (o_is_name T) hr (by decide) pass0 (pa_cons (pv 0) pa_nil)))) (pss_one ps_never) pss_nil)
        (pss_cons (ps_for PassesOwn.never rfl (WEn.pi_enumT rfl (z_enumerate T) (pa_cons (pv 1) pa_nil)) (pg_tup rfl (pgs_cons (pg_name (i := 2) sc_call_text.nd rfl (Or.inl rfl)) (pgs_cons (pg_name (i := 3) sc_call_text.nd rfl (Or.inl rfl)) pgs_nil))) (pss_one (ps_if (L2.PW.pt (pw_or (pt_cmpR op_eq (pv 2) pe_int (nomark _)) (pw_or1 (pt_not (pt_val (wc (o_is_constant T) hr (by decide) pass0 (pa_cons (pv 3) pa_nil))))))) (pss_one ps_never) pss_nil)))
        (pss_one (ps_ret (pe_op op_add_str (pe_op op_add_str (pe_op op_add_str (pv 0) pe_str) (pe_bm PySem.F.plainAttrs_str PySem.F.slot_str_join PySem.F.type_str_join mt_join pe_str (pa_cons (pe_lc (own := [("value", 3)]) (g := gName 3) (tt := tYes) rfl sc_call_text.nd (pi_tup (pv 1)) (blkOk_by (N := ["name", "values", "at", "value"]) (sc := defScope s_call_text) (by decide +kernel)) (fun _ _ _ _ _ => pg_name (i := 3) sc_call_text.nd rfl (Or.inl rfl)) (fun _ _ _ _ _ => pts_nil) (fun _ _ _ _ _ => (wc (o_constant_text T) hr (by decide) pass0 (pa_cons (pv 3) pa_nil)))) pa_nil))) pe_str)))))), ?_⟩) |>.imp ?_, g_call_text T, F.kp⟩
  · obtain ⟨n, p, rest, rfl, hn, h3, hk, hp, q⟩ := h
    have hnl := isNm_len hn
    refine q_when (b := false) (et_is (et_not (et_B (ev_sp1 (ev_var rfl) fun H1 _ Q' q' => ⟨n, rfl, by omega, q'⟩))) (by rw [hn]; rfl)) (fun hb => (Bool.false_ne_true hb).elim) fun _ H1 e1 => ?_
    refine ⟨.ref p, rfl, p, rest, rfl, .inl (.inl (e1 _ _ hp)), for_it WEn.walkT (fun i σ' H' => Ex H H' ∧ ∃ o2 o3 : Option V, σ' = [some (.str (S n)), some (.ref p), o2, o3]) ⟨e1, none, none, rfl⟩ (fun i σ' H' _ ⟨e, _⟩ => .inl (.inl (e _ _ hp))) ?_ ?_⟩
    · rintro i x σ' H' H2 hi ⟨e2, o2, o3, rfl⟩ ⟨Tp, v, rfl, hT, rfl, hv⟩
      refine ⟨Tp, [.int (i : Nat), v], rfl, .inl (.inl upd_same), rfl, ⟨_, _, rfl, _, _, rfl, rfl, ?_⟩⟩
      have kv := hk v (List.mem_of_getElem? hv)
      refine s_when (b := false) (et_is (et_or (a := false) (b := false) (et_test (ev_is (ev_op (ev_var rfl) ev_c (rv_eq rfl)) ?_)) fun _ => et_is (et_not (et_B (ev_sp1 (ev_var rfl) (z := .bl (isK v)) fun H1 _ Q' q' => ⟨isK_sc kv, isK_ltx kv, q'⟩))) (by rw [kv]; rfl)) rfl) (fun hb => (Bool.false_ne_true hb).elim) fun _ H3 e3 => ⟨(e2.trans (Ex.new hT)).trans e3, _, _, rfl⟩
      rw [dec_int]
      refine congrArg V.bl (beq_eq_false_iff_ne.mpr fun h => ?_)
      have : (i : Int) = 3 := h
      omega
    · rintro σ' H' ⟨e2, o2, o3, rfl⟩
      have hj := joinL_len (rest.map kTxt) 31 fun x hx => by
        obtain ⟨v, hv, rfl⟩ := List.mem_map.mp hx
        exact kTxt_len (hk v hv)
      rw [List.length_map] at hj
      refine s_ret (ev_is (ev_op (ev_op (ev_op (ev_var rfl) (ev_c (v := .str (S [40]))) (rv_addS (by simp; omega))) (ev_join (sep := [44, 32]) (ys := rest.map kTxt) (el_is (el_map (fun v => .str (S (kTxt v))) (ie_tup (ev_var rfl) (.inl (.inl (e2 _ _ hp)))) (by omega) (fun _ => rfl) fun x H3 _ hx => ev_sp1 (ev_var rfl) fun H4 _ Q' q' => ⟨isK_sc (hk x hx), isK_ltx (hk x hx), isK_int (hk x hx), q'⟩) (by rw [List.map_map]; rfl)) ?_) (rv_addS (by simp; omega))) (ev_c (v := .str (S [41]))) (rv_addS (by simp; omega))) ?_) fun H3 e3 => q.go (e2.trans e3)
      · rw [List.length_map]
        have : ∀ (l : List (List Nat)) (b : Nat), (∀ x ∈ l, x.length ≤ b) → (l.map (·.length)).sum ≤ l.length * b := fun l b h => by
          induction l with
          | nil => exact Nat.zero_le _
          | cons x r ih =>
            have h1 := h x (by simp)
            have h2 := ih fun y hy => h y (List.mem_cons_of_mem _ hy)
            rw [List.map_cons, List.sum_cons, List.length_cons, Nat.succ_mul]
            omega
        have h4 := this (rest.map kTxt) 31 fun x hx => by
          obtain ⟨v, hv, rfl⟩ := List.mem_map.mp hx
          exact kTxt_len (hk v hv)
        rw [List.length_map] at h4
        simp only [List.length_cons, List.length_nil]
        omega
      · refine congrArg (fun z => V.str (S z)) ?_
        show (n ++ [40] ++ TL.joinL [44, 32] (rest.map kTxt)) ++ [41] = _
        rw [List.append_assoc, List.append_assoc]
        rfl
  · rintro vs H Q E ⟨v, rest, rfl, h5, h⟩
    refine ⟨v, rest, rfl, h5, fun p hp => ?_⟩
    obtain ⟨n, rfl, hn, h3, hk, q⟩ := h p hp
    exact ⟨n, p, rest, rfl, hn, h3, hk, upd_same, q⟩
def sp_value_of : Sp := sp1 fun x H Q _ => ∃ v, x = .str (S (kTxt v)) ∧ isK v = true ∧ RetV v H Q
theorem o_value_of (T : TT K mg) : CalX PW w K mg base CX0 1 "value_of" sp_value_of := by
  obtain ⟨fd, F⟩ := f_value_of T
  refine ⟨_, mk1 F (b_value_of F) sc_value_of fun a cdv A outer s H Q E hr h => ⟨_, (pss_cons (ps_if (pt_cmpR op_eq (pv 0) pe_str (nomark _)) (pss_one (ps_ret pe_non)) pss_nil)
        (pss_one (ps_ret (pe_ifExp (pt_cmpR op_eq (pe_ix ix_str (pv 0) pe_int (fun _ _ => rfl)) pe_str (nomark _)) (pe_slice sl_str (pv 0) (po_some pe_int) (po_some (pe_un un_neg pe_int))) (pe_callTy call_int_str rfl (z_int T) (by decide +kernel) (pa_cons (pv 0) pa_nil)))))), ?_⟩, g_value_of T, F.kp⟩
  obtain ⟨v, rfl, hk, q⟩ := h
  have hl := kTxt_len hk
  refine q_when (et_test (ev_op (ev_var rfl) (ev_c (v := .str (S [110, 111, 110, 101]))) (rv_eq rfl))) (fun hb H1 e1 => ?_) fun hb H1 e1 => ?_
  · rw [dec_S] at hb
    have hb := of_decide_eq_true hb
    cases v with
    | non => exact s_ret ev_c fun H2 e2 => q.go (e1.trans e2)
    | str z => cases hb
    | int i =>
      obtain ⟨_, _, c, r, e, hc⟩ := kTxt_int (isK_int hk i rfl)
      rw [e] at hb
      obtain rfl : c = 110 := (List.cons.inj hb).1
      omega
    | _ => simp [isK, isI, isW] at hk
  · rw [dec_S] at hb
    have hb := of_decide_eq_false hb
    cases v with
    | non => exact absurd rfl hb
    | str z =>
      obtain ⟨l, rfl⟩ : ∃ l, z = S l := ⟨z.cps.toList, (S_tl z).symm⟩
      have hl2 : (34 :: l ++ [34]).length ≤ 31 := hl
      refine s_ret (ev_if (b := true) (et_is (et_test (ev_op (ev_op (ev_var rfl) (ev_c (v := .int ((0 : Nat) : Int))) (rv_ixSn (l := 34 :: l ++ [34]) (i := 0) (c := 34) rfl (by omega))) (ev_c (v := .str (S [34]))) (rv_eq rfl))) ?_) (fun _ => ev_is (ev_slS (ev_var (v := .str (S (34 :: l ++ [34]))) rfl) (eo_some ev_c) (eo_some (ev_un ev_c ru_neg)) (by rw [S_len]; omega)) ?_) fun hb => (Bool.false_ne_true hb.symm).elim) fun H2 e2 => q.go (e1.trans e2)
      · exact decide_eq_true rfl
      · refine congrArg V.str ((cut_in _ (by simp)).trans ?_)
        simp
    | int i =>
      obtain ⟨h1, h2, c, r, e, hc⟩ := kTxt_int (isK_int hk i rfl)
      refine s_ret (ev_if (b := false) (et_is (et_test (ev_op (ev_op (ev_var rfl) (ev_c (v := .int ((0 : Nat) : Int))) (rv_ixSn (l := kTxt (.int i)) (i := 0) (c := c) (by rw [e]; rfl) (by omega))) (ev_c (v := .str (S [34]))) (rv_eq rfl))) ?_) (fun hb => (Bool.false_ne_true hb).elim) fun _ => ev_cb (ea_cons (ev_var rfl) ea_nil) fun H3 _ Q' q' => ⟨_, i, rfl, h1, by rw [S_len]; omega, q' H3 (Ex.refl H3)⟩) fun H2 e2 => q.go (e1.trans e2)
      rw [dec_sgn]
      exact decide_eq_false (by omega)
    | _ => simp [isK, isI, isW] at hk
end WP
set_option Elab.async false
set_option linter.all false
set_option maxRecDepth 100000
set_option maxHeartbeats 4000000
/-! the class Line -/
namespace WP
open PySem PySem.Spec PyProof.Rows L2 Evl SX
section
variable {P : Program} {w : World} {K : PySem.W.Frag} {mg : Str → Option Value} {base : Heap} {N : List Str} {q : Str} {sc : Scope} {f : Addr} {cdv : Value} {A : Around} {outer : List Env} {s : Shared} {H : Hp} {E : XK}
theorem ownE : PassesOwn (model P w) (cxOf (L2N.CX P w) P w K mg base N q sc f cdv A outer s H E).A (cxOf (L2N.CX P w) P w K mg base N q sc f cdv A outer s H E).env (cxOf (L2N.CX P w) P w K mg base N q sc f cdv A outer s H E).xe := L2.passes_of (X := cxOf (L2N.CX P w) P w K mg base N q sc f cdv A outer s H E) rfl
end
section
variable {K : PySem.W.Frag} {σ : L2.St} {H : Hp} {ta tv te : TE} {t : TA} {tz : TS} {D : Ends} {y z : V} {a C dx : Addr} {fs : List (Str × V)} {f m : Str} {sp : Sp} {E : XK} {vs : List V}
theorem s_fld (hv : Ev tv σ H y) (ha : Ev ta σ H (.ref a)) (ho : H a = some (.ins C dx fs)) (hc : Cls K C) (hn : NoAttr K C f) (hl : fs.length < 1000) (k : ∀ H1, Ex H H1 → D.nx σ (upd H1 a (.ins C dx (putF f y fs)))) : sFld K ta tv f D σ H :=
  hv H (Ex.refl H) _ fun H1 e1 => ha H1 e1 _ fun H2 e2 => ⟨a, C, dx, fs, rfl, (e1.trans e2) _ _ ho, hc, hn, hl, k H2 (e1.trans e2)⟩
theorem q_fld (hv : Ev tv σ H y) (ha : Ev ta σ H (.ref a)) (ho : H a = some (.ins C dx fs)) (hc : Cls K C) (hn : NoAttr K C f) (hl : fs.length < 1000) (k : ∀ H1, Ex H H1 → tz D σ (upd H1 a (.ins C dx (putF f y fs)))) : tSeq (sFld K ta tv f) tz D σ H :=
  s_fld (D := { D with nx := tz D }) hv ha ho hc hn hl k
theorem q_inc {i : Int} (ha : Ev ta σ H (.ref a)) (ho : H a = some (.ins C dx fs)) (hc : Cls K C) (hn : NoAttr K C f) (hk : fs.lookup f = some (.int i)) (hl : fs.length < 1000) (k : ∀ H1, Ex H H1 → tz D σ (upd H1 a (.ins C dx (putF f (.int (i + 1)) fs)))) : tSeq (sFldAug K ta (tC (.int 1)) rAdd f) tz D σ H :=
  ha H (Ex.refl _) _ fun H1 e1 => ⟨a, C, dx, fs, .int i, rfl, e1 _ _ ho, hc, hn, hk, i, 1, rfl, rfl, dx, fs, e1 _ _ ho, hl, k H1 e1⟩
theorem ev_m (ha : Ev ta σ H (.ref a)) (ho : H a = some (.ins C dx fs)) (hl : fs.lookup m = none) (hv : EvA t σ H vs) (h : ∀ H1, Ex H H1 → ∀ Q : VK, (∀ H2, Ex H1 H2 → Q z H2) → sp (.ref a :: vs) H1 Q E) : Ev (tM C m sp E ta t) σ H z := fun H1 e Q q =>
  ha H1 e _ fun H2 e2 => ⟨a, dx, fs, rfl, (e.trans e2) _ _ ho, hl, hv H2 (e.trans e2) _ fun H3 e3 => h H3 ((e.trans e2).trans e3) Q fun H4 e4 => q H4 ((e2.trans e3).trans e4)⟩
end
variable {w : World} {K : PySem.W.Frag} {mg : Str → Option Value} {base : Heap}
theorem ch1 {H H1 : Hp} {a : Addr} {o : HO} (e : Ex H H1) : Ch (fun x => x = a) H (upd H1 a o) := (Ch.of_ex e).set (M := fun x => x = a) rfl
theorem ch2 {H H1 H2 : Hp} {a : Addr} {o : HO} (c : Ch (fun x => x = a) H H1) (e : Ex H1 H2) : Ch (fun x => x = a) H (upd H2 a o) := c.trans (ch1 e)
/-! ### the object -/
def LnB (ws : List (List Nat)) : Prop := ws.length ≤ 200 ∧ ∀ t ∈ ws, t.length ≤ 200
/-- a line at a: its tokens ws, of which k are taken -/
structure LnH (K : PySem.W.Frag) (H : Hp) (a dx wa : Addr) (ws : List (List Nat)) (k : Nat) : Prop where
  ob : H a = some (.ins (He.ga K "Line") dx [("words", .ref wa), ("taken", .int (k : Int))])
  wd : H wa = some (.lst (ws.map fun t => .str (S t)))
  bd : LnB ws
def tk (ws : List (List Nat)) (k : Nat) : List Nat := (ws[k]?).getD []
theorem LnH.ne {H : Hp} {a dx wa : Addr} {ws : List (List Nat)} {k : Nat} (h : LnH K H a dx wa ws k) : wa ≠ a := ne_of h.wd h.ob (by intro z; cases z)
theorem LnH.ex {H H' : Hp} {a dx wa : Addr} {ws : List (List Nat)} {k : Nat} (h : LnH K H a dx wa ws k) (e : Ex H H') : LnH K H' a dx wa ws k := ⟨e _ _ h.ob, e _ _ h.wd, h.bd⟩
theorem tk_len {ws : List (List Nat)} (h : LnB ws) (k : Nat) : (tk ws k).length ≤ 200 := by
  unfold tk
  cases e : ws[k]? with
  | none => exact Nat.zero_le _
  | some t => exact h.2 t (List.mem_of_getElem? e)
abbrev Mis (K : PySem.W.Frag) (E : XK) (H : Hp) : Prop := E (.ref (He.ga K "Misread")) none H
def sp_Line_init : Sp := sp2 fun self text H Q _ => ∃ (a dx : Addr) (l : List Nat) (ts : List (List Nat)), self = .ref a ∧ text = .str (S l) ∧ H a = some (.ins (He.ga K "Line") dx []) ∧ l.length ≤ 40000 ∧ Tk l ts ∧ LnB ts ∧
  ∀ (wa : Addr) H', H wa = none → Ch (fun x => x = a) H H' → LnH K H' a dx wa ts 0 → Q .non H'
def sp_Line_peek : Sp := sp1 fun self H Q _ => ∃ (a dx wa : Addr) (ws : List (List Nat)) (k : Nat), self = .ref a ∧ LnH K H a dx wa ws k ∧ RetV (.str (S (tk ws k))) H Q
def sp_Line_take : Sp := sp1 fun self H Q _ => ∃ (a dx wa : Addr) (ws : List (List Nat)) (k : Nat), self = .ref a ∧ LnH K H a dx wa ws k ∧ ∀ H', Ch (fun x => x = a) H H' → LnH K H' a dx wa ws (k + 1) → Q (.str (S (tk ws k))) H'
def sp_Line_expect : Sp := sp2 fun self word H Q E => ∃ (a dx wa : Addr) (ws : List (List Nat)) (k : Nat) (u : List Nat), self = .ref a ∧ word = .str (S u) ∧ LnH K H a dx wa ws k ∧
  (tk ws k = u → ∀ H', Ch (fun x => x = a) H H' → LnH K H' a dx wa ws (k + 1) → Q .non H') ∧ (tk ws k ≠ u → ∀ H', Ch (fun x => x = a) H H' → Mis K E H')
def sp_Line_take_name : Sp := sp1 fun self H Q _ => ∃ (a dx wa : Addr) (ws : List (List Nat)) (k : Nat), self = .ref a ∧ LnH K H a dx wa ws k ∧ isNm (tk ws k) = true ∧ ∀ H', Ch (fun x => x = a) H H' → LnH K H' a dx wa ws (k + 1) → Q (.str (S (tk ws k))) H'
def sp_Line_take_constant : Sp := sp1 fun self H Q _ => ∃ (a dx wa : Addr) (ws : List (List Nat)) (k : Nat) (v : V), self = .ref a ∧ LnH K H a dx wa ws k ∧ tk ws k = kTxt v ∧ isK v = true ∧ ∀ H', Ch (fun x => x = a) H H' → LnH K H' a dx wa ws (k + 1) → Q v H'
def sp_Line_take_number : Sp := sp3 fun self lo hi H Q _ => ∃ (a dx wa : Addr) (ws : List (List Nat)) (k n : Nat) (i j : Int), self = .ref a ∧ lo = .int i ∧ hi = .int j ∧ LnH K H a dx wa ws k ∧ n ≤ 9 ∧ tk ws k = [48 + n] ∧ i ≤ (n : Int) ∧ (n : Int) ≤ j ∧ ∀ H', Ch (fun x => x = a) H H' → LnH K H' a dx wa ws (k + 1) → Q (.int (n : Int)) H'
def sp_Line_finish : Sp := sp1 fun self H Q E => ∃ (a dx wa : Addr) (ws : List (List Nat)) (k : Nat), self = .ref a ∧ LnH K H a dx wa ws k ∧ (ws.length ≤ k → RetV .non H Q) ∧ (k < ws.length → ∀ H', Ex H H' → Mis K E H')
theorem o_Line_init (T : TT K mg) : MakX PW w K mg base CX0 4 "Line" (He.ga K "Line") (sp_Line_init (K := K)) := by
  obtain ⟨fd, F⟩ := f_Line_init T
  refine ⟨_, mk2 F (b_Line_init F) sc_Line_init fun a b cdv A outer s H Q E hr h => ⟨_, (pss_cons (ps_set (i := 2) sc_Line_init.nd rfl (Or.inl rfl) (wc (o_tokens_of T) hr (by decide) pass0 (pa_cons (pv 1) pa_nil)))
        (pss_cons (ps_if (pt_cmpR op_isN (pv 2) pe_non (nomark _)) (pss_one ps_never) pss_nil)
        (pss_cons (ps_fld (pv 0) (pv 2) rfl)
        (pss_one (ps_fld (pv 0) pe_int rfl))))), ?_⟩, k_Line T, g_Line T⟩
  obtain ⟨a, dx, l, ts, rfl, rfl, ha, hl, ht, hb, q⟩ := h
  refine q_asgL (fun H1 e Q' q' => ⟨_, rfl, ⟨_, rfl, l, ts, rfl, hl, ht, fun p H2 hp e2 h2 => q' p H2 hp e2 h2⟩⟩) fun p H1 hp e1 h1 => ?_
  refine q_when (et_is (et_test (ev_op (ev_var (v := .ref p) rfl) ev_c rv_isN)) (show decide (V.ref p = .non) = false from rfl)) (fun hb => (Bool.false_ne_true hb).elim) fun _ H2 e2 => ?_
  refine q_fld (ev_var (v := .ref p) rfl) (ev_var (v := .ref a) rfl) ((e1.trans e2) _ _ ha) (c_Line T) (n_Line_words T) (by decide) fun H3 e3 => ?_
  refine s_fld ev_c (ev_var (v := .ref a) rfl) upd_same (c_Line T) (n_Line_taken T) (show 1 < 1000 by decide) fun H4 e4 => ?_
  have e123 := (e1.trans e2).trans e3
  have hpa : p ≠ a := fun z => by rw [z, ha] at hp; cases hp
  refine q p _ hp (ch2 (ch1 e123) e4) ⟨upd_same, ?_, hb⟩
  rw [upd_ne hpa]
  refine e4 _ _ ?_
  rw [upd_ne hpa]
  exact (e2.trans e3) _ _ h1
theorem o_Line_peek (T : TT K mg) : MetX PW w K mg base CX0 1 (He.ga K "Line") "peek" (sp_Line_peek (K := K)) := by
  obtain ⟨fd, F⟩ := f_Line_peek T
  refine ⟨_, mk1 F (b_Line_peek F) sc_Line_peek fun a cdv A outer s H Q E hr h => ⟨_, (pss_one (ps_ret (pe_ifExp (pt_cmpR op_lt (pe_fld (pv 0) rfl) (pe_callB (id := "len") call_len_seq rfl (z_len T) (by decide +kernel) (pa_cons (pe_fld (pv 0) rfl) pa_nil)) (nomark _)) (pe_ix ix_list (pe_fld (pv 0) rfl) (pe_fld (pv 0) rfl) (fun _ _ => rfl)) pe_str))), ?_⟩, c_Line T, m_Line_peek T⟩
  obtain ⟨a, dx, wa, ws, k, rfl, L, q⟩ := h
  have fw : ∀ H', Ex H H' → Ev (tFld K (tVar 0) "words") [some (.ref a)] H' (.ref wa) := fun H' e => ev_fld (ev_var rfl) (L.ex e).ob (c_Line T) (n_Line_words T) rfl
  have ft : ∀ H', Ex H H' → Ev (tFld K (tVar 0) "taken") [some (.ref a)] H' (.int (k : Int)) := fun H' e => ev_fld (ev_var rfl) (L.ex e).ob (c_Line T) (n_Line_taken T) rfl
  refine s_ret (ev_if (b := decide (k < ws.length)) (et_is (et_test (ev_op (ft _ (Ex.refl _)) (ev_len (fw _ (Ex.refl _)) (sq_of L.wd)) rv_I0)) ?_) (fun hb => ?_) fun hb => ?_) q
  · rw [List.length_map]
    exact decide_eq_decide.mpr (by omega)
  · have hk := of_decide_eq_true hb
    refine ev_op (fw _ (Ex.refl _)) (ft _ (Ex.refl _)) (rv_ixL (sq_of L.wd) (atI_nat ?_))
    rw [List.getElem?_map, List.getElem?_eq_getElem hk]
    show some _ = some (V.str (S ((ws[k]?).getD [])))
    rw [List.getElem?_eq_getElem hk]
    rfl
  · have hk := of_decide_eq_false hb
    refine ev_is (ev_c (v := .str (S []))) ?_
    show _ = V.str (S ((ws[k]?).getD []))
    rw [List.getElem?_eq_none (by omega)]
    rfl
theorem ev_peek (T : TT K mg) {te : TE} {σ : L2.St} {H : Hp} {a dx wa : Addr} {ws : List (List Nat)} {k : Nat} {E : XK} (h : Ev te σ H (.ref a)) (L : LnH K H a dx wa ws k) : Ev (tM (He.ga K "Line") "peek" (sp_Line_peek (K := K)) E te tNil) σ H (.str (S (tk ws k))) :=
  ev_m h L.ob rfl ea_nil fun H1 e Q q => ⟨_, rfl, a, dx, wa, ws, k, rfl, L.ex e, q⟩
theorem LnH.step {H H' : Hp} {a dx wa : Addr} {ws : List (List Nat)} {k : Nat} (h : LnH K H a dx wa ws k) (e : Ex H H') (j : Nat) : LnH K (upd H' a (.ins (He.ga K "Line") dx [("words", .ref wa), ("taken", .int (j : Int))])) a dx wa ws j :=
  ⟨upd_same, by rw [upd_ne h.ne]; exact e _ _ h.wd, h.bd⟩
theorem o_Line_take (T : TT K mg) : MetX PW w K mg base CX0 2 (He.ga K "Line") "take" (sp_Line_take (K := K)) := by
  obtain ⟨fd, F⟩ := f_Line_take T
  refine ⟨_, mk1 F (b_Line_take F) sc_Line_take fun a cdv A outer s H Q E hr h => ⟨_, (pss_cons (ps_set (i := 1) sc_Line_take.nd rfl (Or.inl rfl) (wm0 (o_Line_peek T) hr (by decide) pass0 (pv 0)))
        (pss_cons (ps_fldaug (pv 0) pe_int in_add)
        (pss_one (ps_ret (pv 1))))), ?_⟩, c_Line T, m_Line_take T⟩
  obtain ⟨a, dx, wa, ws, k, rfl, L, q⟩ := h
  refine q_asg (ev_peek T (ev_var (v := .ref a) rfl) L) fun H1 e1 => ?_
  refine q_inc (i := (k : Int)) (ev_var (v := .ref a) rfl) (L.ex e1).ob (c_Line T) (n_Line_taken T) rfl (show 2 < 1000 by decide) fun H2 e2 => ?_
  refine s_ret (ev_var rfl) fun H3 e3 => q H3 ((ch1 (e1.trans e2)).trans (Ch.of_ex e3)) ?_
  exact (L.step (e1.trans e2) (k + 1)).ex e3
theorem ev_take (T : TT K mg) {te : TE} {σ : L2.St} {H : Hp} {a dx wa : Addr} {ws : List (List Nat)} {k : Nat} {E : XK} {Q : VK} (h : Ev te σ H (.ref a)) (L : LnH K H a dx wa ws k) (q : ∀ H', Ch (fun x => x = a) H H' → LnH K H' a dx wa ws (k + 1) → Q (.str (S (tk ws k))) H') :
    tM (He.ga K "Line") "take" (sp_Line_take (K := K)) E te tNil σ H Q := h H (Ex.refl _) _ fun H1 e1 => ⟨a, dx, _, rfl, (L.ex e1).ob, rfl, ⟨_, rfl, a, dx, wa, ws, k, rfl, L.ex e1, fun H' c l => q H' ((Ch.of_ex e1).trans c) l⟩⟩
theorem o_Line_expect (T : TT K mg) : MetX PW w K mg base (CXM w) 3 (He.ga K "Line") "expect" (sp_Line_expect (K := K)) := by
  obtain ⟨fd, F⟩ := f_Line_expect T
  refine ⟨_, mk2 F (b_Line_expect F) sc_Line_expect fun a b cdv A outer s H Q E hr h => ⟨_, (pss_one (ps_if (pt_cmpR op_ne (wm0 (o_Line_take T) hr (by decide) pass0 (pv 0)) (pv 1) (nomark _)) (pss_one (ps_misread T)) pss_nil)), ?_⟩, c_Line T, m_Line_expect T⟩
  obtain ⟨a, dx, wa, ws, k, u, rfl, rfl, L, q1, q2⟩ := h
  refine ev_take T (ev_var (v := .ref a) rfl) L fun H1 c1 L1 => ⟨_, rfl, rfl, _, rfl, ?_⟩
  rw [dec_S]
  by_cases e : tk ws k = u
  · rw [decide_eq_true e]
    exact iteF (q1 e H1 c1 L1)
  · rw [decide_eq_false e]
    exact iteT (q2 e H1 c1)
theorem o_Line_take_name (T : TT K mg) : MetX PW w K mg base CX0 3 (He.ga K "Line") "take_name" (sp_Line_take_name (K := K)) := by
  obtain ⟨fd, F⟩ := f_Line_take_name T
  refine ⟨_, mk1 F (b_Line_take_name F) sc_Line_take_name fun a cdv A outer s H Q E hr h => ⟨_, (pss_cons (ps_set (i := 1) sc_Line_take_name.nd rfl (Or.inl rfl) (wm0 (o_Line_take T) hr (by decide) pass0 (pv 0)))
        (pss_cons (ps_if (pt_not (pt_val (wc (o_is_name T) hr (by decide) pass0 (pa_cons (pv 1) pa_nil)))) (pss_one ps_never) pss_nil)
        (pss_one (ps_ret (pv 1))))), ?_⟩, c_Line T, m_Line_take_name T⟩
  obtain ⟨a, dx, wa, ws, k, rfl, L, hn, q⟩ := h
  refine ev_take T (ev_var (v := .ref a) rfl) L fun H1 c1 L1 => ?_
  have := isNm_len hn
  refine q_when (b := false) (et_is (et_not (et_B (ev_sp1 (ev_var rfl) fun H1 _ Q' q' => ⟨tk ws k, rfl, by omega, q'⟩))) (by rw [hn]; rfl)) (fun hb => (Bool.false_ne_true hb).elim) fun _ H2 e2 => ?_
  exact s_ret (ev_var rfl) fun H3 e3 => q H3 ((c1.trans (Ch.of_ex e2)).trans (Ch.of_ex e3)) ((L1.ex e2).ex e3)
theorem numL_h48 {n : Nat} (h : 0 < n) : (TL.numL n).head? ≠ some 48 := by
  induction n using Nat.strongRecOn with
  | _ n ih =>
    by_cases h10 : n < 10
    · rw [TL.numL_lt h10]
      simp
      omega
    · rw [TL.numL_step (by omega)]
      have e := ih (n / 10) (by omega) (by omega)
      cases e2 : TL.numL (n / 10) with
      | nil => exact absurd e2 (TL.numL_ne _)
      | cons c r =>
        rw [e2] at e
        exact e
theorem numL_dig (n : Nat) : (TL.numL n).all dig = true := List.all_eq_true.mpr fun c hc => by
  have := TL.numL_digits n c hc
  simp [dig]
  exact this
theorem isNT_num {n : Nat} (h : n < 10 ^ 30) : isNT (TL.numL n) = true ∧ isNT (45 :: TL.numL (n + 1)) = true ∨ n + 1 = 10 ^ 30 := by
  by_cases hn : n + 1 = 10 ^ 30
  · exact .inr hn
  · refine .inl ⟨?_, ?_⟩
    · have hl : (TL.numL n).length ≤ 30 := TL.numL_len (by decide) h
      have h45 : (TL.numL n).head? ≠ some 45 := by
        cases e : TL.numL n with
        | nil => simp
        | cons c r =>
          have := numL_head e
          simp
          omega
      have hp := List.length_pos_iff.mpr (TL.numL_ne n)
      unfold isNT
      rw [if_neg h45]
      have e3 : (!decide ((TL.numL n).head? = some 48) || decide (TL.numL n = [48])) = true := by
        by_cases h0 : n = 0
        · subst h0
          decide
        · rw [decide_eq_false (numL_h48 (by omega))]
          rfl
      simp only [e3, numL_dig, Bool.and_true, Bool.and_eq_true, decide_eq_true_eq]
      omega
    · have hl : (TL.numL (n + 1)).length ≤ 30 := TL.numL_len (by decide) (by omega)
      have hp := List.length_pos_iff.mpr (TL.numL_ne (n + 1))
      unfold isNT
      rw [if_pos (show (45 :: TL.numL (n + 1)).head? = some 45 from rfl)]
      have e3 : (!decide ((TL.numL (n + 1)).head? = some 48) || decide (45 :: TL.numL (n + 1) = [48])) = true := by
        rw [decide_eq_false (numL_h48 (by omega))]
        rfl
      show (decide (1 ≤ (TL.numL (n + 1)).length) && decide ((TL.numL (n + 1)).length ≤ 30) && (TL.numL (n + 1)).all dig && (!decide ((TL.numL (n + 1)).head? = some 48) || decide (45 :: TL.numL (n + 1) = [48]))) = true
      simp only [e3, numL_dig, Bool.and_true, Bool.and_eq_true, decide_eq_true_eq]
      omega
theorem isKT_k {v : V} (h : isK v = true) : isKT (kTxt v) = true := by
  have hl := kTxt_len h
  cases v with
  | non => decide
  | str z =>
    obtain ⟨l, rfl⟩ : ∃ l, z = S l := ⟨z.cps.toList, (S_tl z).symm⟩
    have h : isW (.str (S l)) 8 = true := by simpa [isK, isI] using h
    have h2 : (decide ((l.length : Int) ≤ 8) && l.all low) = true := h
    rw [Bool.and_eq_true, decide_eq_true_eq] at h2
    have e : ((34 :: l ++ [34]).drop 1).dropLast = l := by simp
    show isKT (34 :: l ++ [34]) = true
    unfold isKT
    rw [if_pos ⟨by simp, by simp, List.getLast?_concat⟩, e, h2.2, Bool.and_true]
    exact decide_eq_true (by omega)
  | int i =>
    obtain ⟨_, _, c, r, e, hc⟩ := kTxt_int (isK_int h i rfl)
    have hh : (kTxt (.int i)).head? ≠ some 34 := by
      rw [e]
      simp
      omega
    have hs : decide ((if i < 0 then -i else i) < 10 ^ 30) = true := by simpa [isK, isI, smK, isW] using h
    have h2 := of_decide_eq_true hs
    unfold isKT
    rw [if_neg (fun h => hh h.2.1), Bool.or_eq_true]
    right
    cases i with
    | ofNat n =>
      have h3 : n < 10 ^ 30 := by
        rw [if_neg (by simp)] at h2
        have : ((n : Nat) : Int) < 10 ^ 30 := h2
        omega
      rw [show Int.ofNat n = (n : Int) from rfl, kTxt_nn]
      rcases isNT_num h3 with h4 | h4
      · exact h4.1
      · obtain rfl : n = 10 ^ 30 - 1 := by omega
        decide +kernel
    | negSucc n =>
      have h3 : n + 1 < 10 ^ 30 := by
        rw [if_pos (Int.negSucc_lt_zero n), Int.neg_negSucc] at h2
        have : ((n + 1 : Nat) : Int) < 10 ^ 30 := h2
        omega
      rw [kTxt_neg]
      rcases isNT_num (n := n) (by omega) with h4 | h4
      · exact h4.2
      · omega
  | _ => simp [isK, isI, isW] at h
theorem o_Line_take_constant (T : TT K mg) : MetX PW w K mg base CX0 3 (He.ga K "Line") "take_constant" (sp_Line_take_constant (K := K)) := by
  obtain ⟨fd, F⟩ := f_Line_take_constant T
  refine ⟨_, mk1 F (b_Line_take_constant F) sc_Line_take_constant fun a cdv A outer s H Q E hr h => ⟨_, (pss_cons (ps_set (i := 1) sc_Line_take_constant.nd rfl (Or.inl rfl) (wm0 (o_Line_take T) hr (by decide) pass0 (pv 0)))
        (pss_cons (ps_if (pt_not (pt_val (wc (o_is_constant_text T) hr (by decide) pass0 (pa_cons (pv 1) pa_nil)))) (pss_one ps_never) pss_nil)
        (pss_one (ps_ret (wc (o_value_of T) hr (by decide) pass0 (pa_cons (pv 1) pa_nil)))))), ?_⟩, c_Line T, m_Line_take_constant T⟩
  obtain ⟨a, dx, wa, ws, k, v, rfl, L, hv, hk, q⟩ := h
  refine ev_take T (ev_var (v := .ref a) rfl) L fun H1 c1 L1 => ?_
  have := kTxt_len hk
  refine q_when (b := false) (et_is (et_not (et_B (ev_sp1 (ev_var rfl) fun H1 _ Q' q' => ⟨tk ws k, rfl, by rw [hv]; omega, q'⟩))) (by rw [hv, isKT_k hk]; rfl)) (fun hb => (Bool.false_ne_true hb).elim) fun _ H2 e2 => ?_
  exact s_ret (ev_sp1 (ev_var rfl) fun H3 _ Q' q' => ⟨v, by rw [hv], hk, q'⟩) fun H3 e3 => q H3 ((c1.trans (Ch.of_ex e2)).trans (Ch.of_ex e3)) ((L1.ex e2).ex e3)
theorem o_Line_take_number (T : TT K mg) : MetX PW w K mg base CX0 3 (He.ga K "Line") "take_number" (sp_Line_take_number (K := K)) := by
  obtain ⟨fd, F⟩ := f_Line_take_number T
  refine ⟨_, mk3 F (b_Line_take_number F) sc_Line_take_number fun a b c cdv A outer s H Q E hr h => ⟨_, (pss_cons (ps_set (i := 3) sc_Line_take_number.nd rfl (Or.inl rfl) (wm0 (o_Line_take T) hr (by decide) pass0 (pv 0)))
        (pss_cons (ps_if (L2.PW.pt (pw_or (pt_not (pt_val (wc (o_is_number_text T) hr (by decide) pass0 (pa_cons (pv 3) pa_nil)))) (pw_or1 (pt_not (pt_chain op_le op_le (pv 1) (pe_callTy call_int_str rfl (z_int T) (by decide +kernel) (pa_cons (pv 3) pa_nil)) (pv 2)))))) (pss_one ps_never) pss_nil)
        (pss_one (ps_ret (pe_callTy call_int_str rfl (z_int T) (by decide +kernel) (pa_cons (pv 3) pa_nil)))))), ?_⟩, c_Line T, m_Line_take_number T⟩
  obtain ⟨a, dx, wa, ws, k, n, i, j, rfl, rfl, rfl, L, hn, hv, hi, hj, q⟩ := h
  refine ev_take T (ev_var (v := .ref a) rfl) L fun H1 c1 L1 => ?_
  have hv2 : isNT (tk ws k) = true := by
    rw [hv]
    rcases (show n = 0 ∨ n = 1 ∨ n = 2 ∨ n = 3 ∨ n = 4 ∨ n = 5 ∨ n = 6 ∨ n = 7 ∨ n = 8 ∨ n = 9 by omega) with h | h | h | h | h | h | h | h | h | h <;> subst h <;> decide
  have ht : intText? (S (tk ws k)) = some (n : Int) := by
    rw [hv]
    rcases (show n = 0 ∨ n = 1 ∨ n = 2 ∨ n = 3 ∨ n = 4 ∨ n = 5 ∨ n = 6 ∨ n = 7 ∨ n = 8 ∨ n = 9 by omega) with h | h | h | h | h | h | h | h | h | h <;> subst h <;> exact int_S (by decide) (by decide) (by decide)
  have ei : ∀ (σ : L2.St) (H : Hp), σ[3]? = some (some (.str (S (tk ws k)))) → Ev (tCB (fun xs H Q => ∃ a n, xs = [.str a] ∧ PySem.intText? a = some n ∧ a.length ≤ 640 ∧ Q (.int n) H) (tCons (tVar 3) tNil)) σ H (.int (n : Int)) := fun σ H h3 => ev_cb (ea_cons (ev_var h3) ea_nil) fun H1 _ Q q => ⟨_, _, rfl, ht, by rw [S_len, hv]; exact (show 1 ≤ 640 by decide), q H1 (Ex.refl _)⟩
  refine q_when (b := false) (et_is (et_or (a := false) (b := false) (et_is (et_not (et_B (ev_sp1 (ev_var rfl) (z := .bl (isNT (tk ws k))) fun H1 _ Q' q' => ⟨tk ws k, rfl, by rw [hv]; exact (show 1 ≤ 40000 by decide), q'⟩))) (by rw [hv2]; rfl)) fun _ => et_is (et_not (et_test (ev_chain (ev_var rfl) (ei _ _ rfl) rv_I0 (fun _ => ev_var rfl) fun _ => rv_I0))) ?_) rfl) (fun hb => (Bool.false_ne_true hb).elim) fun _ H2 e2 => ?_
  · rw [decide_eq_true hi, decide_eq_true hj]
    rfl
  · exact s_ret (ei _ _ rfl) fun H3 e3 => q H3 ((c1.trans (Ch.of_ex e2)).trans (Ch.of_ex e3)) ((L1.ex e2).ex e3)
theorem o_Line_finish (T : TT K mg) : MetX PW w K mg base (CXM w) 1 (He.ga K "Line") "finish" (sp_Line_finish (K := K)) := by
  obtain ⟨fd, F⟩ := f_Line_finish T
  refine ⟨_, mk1 F (b_Line_finish F) sc_Line_finish fun a cdv A outer s H Q E hr h => ⟨_, (pss_one (ps_if (pt_cmpR op_lt (pe_fld (pv 0) rfl) (pe_callB (id := "len") call_len_seq rfl (z_len T) (by decide +kernel) (pa_cons (pe_fld (pv 0) rfl) pa_nil)) (nomark _)) (pss_one (ps_misread T)) pss_nil)), ?_⟩, c_Line T, m_Line_finish T⟩
  obtain ⟨a, dx, wa, ws, k, rfl, L, q1, q2⟩ := h
  refine s_when (b := decide (k < ws.length)) (et_is (et_test (ev_op (ev_fld (ev_var (v := .ref a) rfl) L.ob (c_Line T) (n_Line_taken T) rfl) (ev_len (ev_fld (ev_var (v := .ref a) rfl) L.ob (c_Line T) (n_Line_words T) rfl) (sq_of L.wd)) (rv_lt (i := (k : Int))))) ?_) (fun hb H1 e1 => q2 (of_decide_eq_true hb) H1 e1) fun hb H1 e1 => q1 (by have := of_decide_eq_false hb; omega) H1 e1
  rw [List.length_map]
  exact decide_eq_decide.mpr (by omega)
end WP
set_option Elab.async false
set_option linter.all false
set_option maxRecDepth 100000
set_option maxHeartbeats 4000000
/-! families; take_class, take_constants; mentions and scopes -/
namespace WP
open PySem PySem.Spec PyProof.Rows L2 Evl SX
variable {w : World} {K : PySem.W.Frag} {mg : Str → Option Value} {base : Heap}
/-! ### the plain family -/
def famK : List (Key × V) := [(.inr "Error", .non), (.inr "Failed", .str "Error"), (.inr "Misuse", .str "Error"), (.inr "Beyond", .str "Misuse")]
def FamH (K : PySem.W.Frag) (H : Hp) (a : Addr) : Prop := ∃ dx pa da, H a = some (.ins (He.ga K "Family") dx [("parents", .ref pa), ("declared", .ref da)]) ∧ H pa = some (.dK famK)
theorem FamH.ex {H H' : Hp} {a : Addr} (h : FamH K H a) (e : Ex H H') : FamH K H' a := by
  obtain ⟨dx, pa, da, h1, h2⟩ := h
  exact ⟨dx, pa, da, e _ _ h1, e _ _ h2⟩
def isCls (l : List Nat) : Prop := l = ("Error" : Str).cps.toList ∨ l = ("Misuse" : Str).cps.toList
def sp_Family_init : Sp := sp2 fun self pairs H Q _ => ∃ (a dx p : Addr), self = .ref a ∧ H a = some (.ins (He.ga K "Family") dx []) ∧ pairs = .ref p ∧ H p = some (.tup []) ∧ ∀ H', Ch (fun x => x = a) H H' → FamH K H' a → Q .non H'
def sp_Family_contains : Sp := sp2 fun self x H Q _ => ∃ (a : Addr) (l : List Nat), self = .ref a ∧ FamH K H a ∧ x = .str (S l) ∧ isCls l ∧ RetV (.bl true) H Q
theorem SaysW.bltC (T : TT K mg) : (∃ o its n, K.lookup (He.ga K "BUILT_IN") = some o ∧ o.cls = .type "tuple" ∧ o.dict = none ∧ o.data = .seq its n) ∧ (∀ H, SqT K H (He.ga K "BUILT_IN") [.ref (bltIn K 0), .ref (bltIn K 1), .ref (bltIn K 2), .ref (bltIn K 3)]) ∧
    (∀ H, SqT K H (bltIn K 0) [.str "Error", .non]) ∧ (∀ H, SqT K H (bltIn K 1) [.str "Failed", .str "Error"]) ∧ (∀ H, SqT K H (bltIn K 2) [.str "Misuse", .str "Error"]) ∧ (∀ H, SqT K H (bltIn K 3) [.str "Beyond", .str "Misuse"]) := by
  obtain ⟨_, h1⟩ := He.ba T.says.ext
  obtain ⟨_, h2⟩ := He.ba h1
  obtain ⟨_, h3⟩ := He.ba h2
  obtain ⟨_, h4⟩ := He.ba h3
  obtain ⟨_, h5⟩ := He.ba h4
  obtain ⟨_, h6⟩ := He.ba h5
  obtain ⟨_, h7⟩ := He.ba h6
  obtain ⟨_, h8⟩ := He.ba h7
  obtain ⟨_, h9⟩ := He.ba h8
  obtain ⟨_, h10⟩ := He.ba h9
  obtain ⟨t0, h11⟩ := He.ba h10
  obtain ⟨t1, h12⟩ := He.ba h11
  obtain ⟨t2, h13⟩ := He.ba h12
  obtain ⟨t3, h14⟩ := He.ba h13
  obtain ⟨t4, h15⟩ := He.ba h14
  obtain ⟨_, h16⟩ := He.ba h15
  refine ⟨?_, fun H => tupAt_ok t0 H, fun H => tupAt_ok t1 H, fun H => tupAt_ok t2 H, fun H => tupAt_ok t3 H, fun H => tupAt_ok t4 H⟩
  unfold plnB at h16
  unfold tupAt at t0
  split at h16
  · rename_i c od its n sl e
    rw [e] at t0
    cases c with
    | type c =>
      obtain ⟨a1, _⟩ := He.ba t0
      refine ⟨_, its, n, e, congrArg Value.type (of_decide_eq_true a1), ?_, rfl⟩
      cases od with
      | none => rfl
      | some _ => cases h16
    | _ => cases t0
  · cases h16
theorem o_Family_init (T : TT K mg) : MakX PW w K mg base CX0 1 "Family" (He.ga K "Family") (sp_Family_init (K := K)) := by
  obtain ⟨fd, F⟩ := f_Family_init T
  refine ⟨_, mk2 F (b_Family_init F) sc_Family_init fun a b cdv A outer s H Q E hr h => ⟨_, (PSs.nox (pss_cons (ps_if (pt_not (pt_val (pe_callB call_isiT rfl (z_isinstance T) (by decide +kernel) (pa_cons (pv 1) (pa_cons (pe_tup (pa_cons (pe_bltn (v := .ty "list") (u := .type "list") rfl (z_list T) (by decide +kernel) rfl) (pa_cons (pe_bltn (v := .ty "tuple") (u := .type "tuple") rfl (z_tuple T) (by decide +kernel) rfl) pa_nil))) pa_nil))))) (pss_one ps_never) pss_nil)
        (pss_cons (ps_set (i := 2) sc_Family_init.nd rfl (Or.inl rfl) (pe_callTy (call_dictT rfl) rfl (z_dict T) (by decide +kernel) (pa_cons (wgr (g_BUILT_IN T)) pa_nil)))
        (pss_cons (ps_set (i := 3) sc_Family_init.nd rfl (Or.inl rfl) (pe_lst pa_nil))
        (pss_cons (ps_for PassesOwn.never rfl (WEn.pi_enumT rfl (z_enumerate T) (pa_cons (pv 1) pa_nil)) (pg_tup rfl (pgs_cons (pg_name (i := 4) sc_Family_init.nd rfl (Or.inl rfl)) (pgs_cons (pg_name (i := 5) sc_Family_init.nd rfl (Or.inl rfl)) pgs_nil))) (pss_cons ps_never
        (pss_cons ps_never
        (pss_cons ps_never
        (pss_one ps_never)))))
        (pss_cons (ps_fld (pv 0) (pv 2) rfl)
        (pss_one (ps_fld (pv 0) (pe_callTy call_tuple_of rfl (z_tuple T) (by decide +kernel) (pa_cons (pv 3) pa_nil)) rfl)))))))), ?_⟩, k_Family T, g_Family T⟩
  obtain ⟨a, dx, p, rfl, ha, rfl, hp, q⟩ := h
  obtain ⟨b0, b1, b2, b3, b4, b5⟩ := SaysW.bltC T
  have hisi : ∀ (σ : L2.St), σ[1]? = some (some (.ref p)) → EvT (tB (tCB (rIsiT K) (tCons (tVar 1) (tCons (tTup (tCons (tC (.ty "list")) (tCons (tC (.ty "tuple")) tNil))) tNil)))) σ H true := fun σ h1 H1 e Q' q' => by
    refine ⟨_, h1, show 2 ≤ sizeLine by decide, fun t ht => ⟨.ref p, t, [.ty "list", .ty "tuple"], .type "tuple", [.type "list", .type "tuple"], true, rfl, upd_same, .cons (.ty _) (.cons (.ty _) .nil), .base (.tup (xs := []) ?_), ?_, ⟨true, rfl, q' _ (Ex.new ht)⟩⟩⟩
    · exact (Ex.new ht) _ _ (e _ _ hp)
    · exact kitAny_cons (b := false) (kit_ty (by decide +kernel)) (fun _ => kitAny_cons (b := true) (kit_ty (by decide +kernel)) (fun h => by cases h) (fun _ => rfl)) (fun h => by cases h)
  refine q_when (b := false) (et_not (hisi _ rfl)) (fun hb => (Bool.false_ne_true hb).elim) fun _ H1 e1 => ?_
  refine ⟨_, [bltIn K 0, bltIn K 1, bltIn K 2, bltIn K 3], famK, rfl, b0, b1 _, .cons (b2 _) (.cons (b3 _) (.cons (b4 _) (.cons (b5 _) .nil))), fun pa hpa => ?_⟩
  have eP : mergeK [] famK = famK := by decide
  rw [eP]
  have n1 := fresh_back e1 hpa
  refine ⟨show 0 ≤ sizeLine by decide, fun dc hdc => ?_⟩
  have e2 : Ex H (upd (upd H1 pa (.dK famK)) dc (.lst [])) := (e1.trans (Ex.new hpa)).trans (Ex.new hdc)
  have hpa2 : (upd (upd H1 pa (.dK famK)) dc (.lst [])) pa = some (.dK famK) := Ex.new hdc _ _ upd_same
  refine ⟨.ref p, rfl, p, [], rfl, .inl (.inl (e2 _ _ hp)), for_it WEn.walkT (fun i σ' H' => Ex (upd (upd H1 pa (.dK famK)) dc (.lst [])) H' ∧ σ' = [some (.ref a), some (.ref p), some (.ref pa), some (.ref dc), none, none, none, none]) ⟨Ex.refl _, rfl⟩ (fun i σ' H' _ ⟨e, _⟩ => .inl (.inl (e _ _ (e2 _ _ hp)))) (fun i x σ' H' H2 hi => absurd hi (Nat.not_lt_zero _)) ?_⟩
  rintro σ' H' ⟨e3, rfl⟩
  have hne : pa ≠ a := fun z => by rw [z, ha] at n1; cases n1
  refine q_fld (ev_var (v := .ref pa) rfl) (ev_var (v := .ref a) rfl) ((e2.trans e3) _ _ ha) (c_Family T) (n_Family_parents T) (show 0 < 1000 by decide) fun H4 e4 => ?_
  have hdc4 : (upd H4 a (.ins (He.ga K "Family") dx (putF "parents" (.ref pa) []))) dc = some (.lst []) := by
    have hda : dc ≠ a := fun z => by
      have := (e1.trans (Ex.new (o := .dK famK) hpa)) _ _ ha
      rw [z, this] at hdc
      cases hdc
    rw [upd_ne hda]
    exact (e3.trans e4) _ _ upd_same
  refine ⟨_, rfl, dc, [], rfl, .inl ⟨sq_of hdc4, fun da hda => ⟨.ref a, rfl, a, _, dx, [("parents", .ref pa)], rfl, ?_, c_Family T, n_Family_declared T, show 1 < 1000 by decide, ?_⟩⟩⟩
  · exact Ex.new hda _ _ upd_same
  · refine q _ (((ch1 ((e2.trans e3).trans e4)).trans (Ch.of_ex (Ex.new hda))).trans (ch1 (Ex.refl _))) ⟨dx, pa, da, upd_same, ?_⟩
    rw [upd_ne hne]
    refine Ex.new hda _ _ ?_
    rw [upd_ne hne]
    exact (e3.trans e4) _ _ hpa2
theorem fam_get {H : Hp} {pa : Addr} {l : List Nat} (h : H pa = some (.dK famK)) (hl : isCls l) : ∃ o, DGet H pa (.str (S l)) o ∧ o.isSome = true := by
  rcases hl with e | e <;> subst e
  · exact ⟨_, DGet.k (k := .inr _) h, by decide +kernel⟩
  · exact ⟨_, DGet.k (k := .inr _) h, by decide +kernel⟩
theorem o_Family_contains (T : TT K mg) : MetX PW w K mg base CX0 1 (He.ga K "Family") "__contains__" (sp_Family_contains (K := K)) := by
  obtain ⟨fd, F⟩ := f_Family_contains T
  refine ⟨_, mk2 F (b_Family_contains F) sc_Family_contains fun a b cdv A outer s H Q E hr h => ⟨_, (have hu := hu_of hr; (pss_one (ps_ret (pe_and (pe_callB call_isi rfl (z_isinstance T) (by decide +kernel) (pa_cons (pv 1) (pa_cons (pe_bltn (v := .ty "str") (u := .type "str") rfl (z_str T) (by decide +kernel) rfl) pa_nil))) (pe_one (pe_cmp (pc_din hu (pv 1) (pe_fld (pv 0) rfl)))))))), ?_⟩, c_Family T, m_Family_contains T⟩
  obtain ⟨a, l, rfl, ⟨dx, pa, da, ha, hp⟩, rfl, hl, q⟩ := h
  refine s_ret (ev_is (ev_andV (a := true) (b := true) (ev_isi (ev_var rfl) (fun H1 _ => .base (.str _)) rfl) fun _ => fun H1 e1 Q' q' => ⟨_, rfl, ev_fld (ev_var (v := .ref a) rfl) (e1 _ _ ha) (c_Family T) (n_Family_parents T) rfl H1 (Ex.refl _) _ fun H2 e2 => ?_⟩) rfl) q
  obtain ⟨o, h1, h2⟩ := fam_get ((e1.trans e2) _ _ hp) hl
  exact ⟨pa, o, rfl, h1, by rw [h2]; exact q' H2 e2⟩
end WP
set_option Elab.async false
set_option linter.all false
set_option maxRecDepth 100000
set_option maxHeartbeats 4000000
/-! take_class, take_constants; mentions and scopes -/
namespace WP
open PySem PySem.Spec PyProof.Rows L2 Evl SX
section
variable {K : PySem.W.Frag} {σ : L2.St} {H : Hp} {ta tv te : TE} {t : TA} {a C dx : Addr} {fs : List (Str × V)} {m : Str} {sp : Sp} {E : XK} {vs : List V} {Q : VK}
theorem go_m (ha : Ev ta σ H (.ref a)) (ho : H a = some (.ins C dx fs)) (hl : fs.lookup m = none) (hv : EvA t σ H vs) (h : ∀ H1, Ex H H1 → sp (.ref a :: vs) H1 Q E) : tM C m sp E ta t σ H Q :=
  ha H (Ex.refl _) _ fun H2 e2 => ⟨a, dx, fs, rfl, e2 _ _ ho, hl, hv H2 e2 _ fun H3 e3 => h H3 (e2.trans e3)⟩
theorem go_f (hv : EvA t σ H vs) (h : ∀ H1, Ex H H1 → sp vs H1 Q E) : tF sp E t σ H Q := hv H (Ex.refl _) _ fun H3 e3 => h H3 e3
end
def hd1 : HO → Option Str | .ins _ _ ((x, _) :: _) => some x | _ => none
theorem ne_hd {H : Hp} {a b : Addr} {o u : HO} (h1 : H a = some o) (h2 : H b = some u) (h : hd1 o ≠ hd1 u) : a ≠ b := fun z => h (by rw [z, h2] at h1; rw [Option.some.inj h1])
variable {w : World} {K : PySem.W.Frag} {mg : Str → Option Value} {base : Heap}
theorem FamH.ch {H H' : Hp} {a : Addr} {M : Addr → Prop} (h : FamH K H a) (c : Ch M H H') (hm : ∀ p, M p → (∃ o, H p = some o ∧ hd1 o ≠ some ("parents" : Str) ∧ ∀ kvs, o ≠ .dK kvs)) : FamH K H' a := by
  obtain ⟨dx, pa, da, h1, h2⟩ := h
  refine ⟨dx, pa, da, c _ _ h1 fun m => ?_, c _ _ h2 fun m => ?_⟩
  · obtain ⟨o, e, n1, _⟩ := hm _ m
    rw [h1] at e
    rw [← Option.some.inj e] at n1
    exact n1 rfl
  · obtain ⟨o, e, _, n2⟩ := hm _ m
    rw [h2] at e
    exact n2 _ (Option.some.inj e).symm
theorem LnH.mut {H : Hp} {a dx wa : Addr} {ws : List (List Nat)} {k : Nat} (h : LnH K H a dx wa ws k) : ∀ p, p = a → (∃ o, H p = some o ∧ hd1 o ≠ some ("parents" : Str) ∧ ∀ kvs, o ≠ .dK kvs) := fun p e => by
  subst e
  exact ⟨_, h.ob, (show (some ("words" : Str) : Option Str) ≠ some ("parents" : Str) by decide), fun kvs z => by cases z⟩
def sp_Line_take_class : Sp := sp2 fun self fam H Q _ => ∃ (a dx wa : Addr) (ws : List (List Nat)) (k : Nat) (fa : Addr), self = .ref a ∧ LnH K H a dx wa ws k ∧ fam = .ref fa ∧ FamH K H fa ∧ isCls (tk ws k) ∧ ∀ H', Ch (fun x => x = a) H H' → LnH K H' a dx wa ws (k + 1) → Q (.str (S (tk ws k))) H'
theorem o_Line_take_class (T : TT K mg) : MetX PW w K mg base CX0 3 (He.ga K "Line") "take_class" (sp_Line_take_class (K := K)) := by
  obtain ⟨fd, F⟩ := f_Line_take_class T
  refine ⟨_, mk2 F (b_Line_take_class F) sc_Line_take_class fun a b cdv A outer s H Q E hr h => ⟨_, (pss_cons (ps_set (i := 2) sc_Line_take_class.nd rfl (Or.inl rfl) (wm0 (o_Line_take T) hr (by decide) pass0 (pv 0)))
        (pss_cons (ps_if (pt_cmpR (op_notInC (o_Family_contains T) hr (by decide) pass0) (pv 2) (pv 1) (by with_unfolding_all rfl)) (pss_one ps_never) pss_nil)
        (pss_one (ps_ret (pv 2))))), ?_⟩, c_Line T, m_Line_take_class T⟩
  obtain ⟨a, dx, wa, ws, k, fa, rfl, L, rfl, hf, hc, q⟩ := h
  refine ev_take T (ev_var (v := .ref a) rfl) L fun H1 c1 L1 => ?_
  have hf1 := hf.ch c1 L.mut
  refine q_when (b := false) (et_test (ev_op (ev_var rfl) (ev_var (v := .ref fa) rfl) fun H2 e2 Q' q' => ?_)) (fun hb => (Bool.false_ne_true hb).elim) fun _ H2 e2 => ?_
  · obtain ⟨dxf, pa, da, h1, h2⟩ := hf1.ex e2
    exact ⟨fa, _, _, rfl, h1, ⟨_, _, rfl, fa, tk ws k, rfl, ⟨dxf, pa, da, h1, h2⟩, rfl, hc, fun H3 e3 => ⟨true, rfl, q' H3 e3⟩⟩⟩
  · exact s_ret (ev_var rfl) fun H3 e3 => q H3 ((c1.trans (Ch.of_ex e2)).trans (Ch.of_ex e3)) ((L1.ex e2).ex e3)
/-! ### constants with commas between -/
def cm2 : List V → List (List Nat)
  | [] => []
  | v :: r => [44] :: kTxt v :: cm2 r
def ctoks : List V → List (List Nat)
  | [] => []
  | v :: r => kTxt v :: cm2 r
theorem tk_drop {ws : List (List Nat)} {k : Nat} {x : List Nat} {r : List (List Nat)} (h : ws.drop k = x :: r) : tk ws k = x ∧ ws.drop (k + 1) = r := by
  have h0 : ws[k]? = some x := by
    have := congrArg (fun l => l[0]?) h
    simpa using this
  refine ⟨by unfold tk; rw [h0]; rfl, ?_⟩
  rw [← List.drop_drop, h]
  rfl
theorem kTxt_hd {v : V} (h : isK v = true) : ∃ c r, kTxt v = c :: r ∧ c ≠ 40 ∧ c ≠ 41 ∧ c ≠ 44 := by
  cases v with
  | non => exact ⟨110, _, rfl, by decide, by decide, by decide⟩
  | str z => exact ⟨34, _, rfl, by decide, by decide, by decide⟩
  | int i =>
    obtain ⟨_, _, c, r, e, hc⟩ := kTxt_int (isK_int h i rfl)
    exact ⟨c, r, e, by omega, by omega, by omega⟩
  | _ => simp [isK, isI, isW] at h
def sp_Line_take_constants : Sp := sp3 fun self cl most H Q _ => ∃ (a dx wa : Addr) (ws : List (List Nat)) (k : Nat) (vs : List V) (rest : List (List Nat)), self = .ref a ∧ LnH K H a dx wa ws k ∧ cl = .str (S [41]) ∧ most = .int 3 ∧ ws.drop k = ctoks vs ++ [41] :: rest ∧ vs.length ≤ 3 ∧ (∀ v ∈ vs, isK v = true) ∧
  ∀ (p : Addr) (j : Nat) H', H p = none → Ch (fun x => x = a) H H' → LnH K H' a dx wa ws j → ws.drop j = rest → H' p = some (.lst vs) → Q (.ref p) H'
theorem q_take (T : TT K mg) {te : TE} {σ : L2.St} {H : Hp} {a dx wa : Addr} {ws : List (List Nat)} {k : Nat} {E : XK} {D : Ends} {tz : TS} (h : Ev te σ H (.ref a)) (L : LnH K H a dx wa ws k) (q : ∀ H', Ch (fun x => x = a) H H' → LnH K H' a dx wa ws (k + 1) → tz D σ H') :
    tSeq (tDrop (tM (He.ga K "Line") "take" (sp_Line_take (K := K)) E te tNil)) tz D σ H := ev_take T h L q
theorem LnH.upd {H : Hp} {a dx wa p : Addr} {ws : List (List Nat)} {k : Nat} {o : HO} (h : LnH K H a dx wa ws k) (h1 : p ≠ a) (h2 : p ≠ wa) : LnH K (upd H p o) a dx wa ws k := ⟨by rw [upd_ne h1.symm]; exact h.ob, by rw [upd_ne h2.symm]; exact h.wd, h.bd⟩
theorem app_const (T : TT K mg) {te tl : TE} {σ : L2.St} {H : Hp} {a dx wa p : Addr} {ws : List (List Nat)} {k : Nat} {E : XK} {v : V} {xs : List V} (h : Ev te σ H (.ref a)) (hl : Ev tl σ H (.ref p)) (hp : H p = some (.lst xs)) (hz : xs.length < 1000) (hw : p ≠ wa) (L : LnH K H a dx wa ws k) (hv : tk ws k = kTxt v) (hk : isK v = true) (D : Ends)
    (q : ∀ H', Ch (fun x => x = a ∨ x = p) H H' → LnH K H' a dx wa ws (k + 1) → H' p = some (.lst (xs ++ [v])) → D.nx σ H') :
    tDrop (tBM K "list" rAppend tl (tCons (tM (He.ga K "Line") "take_constant" (sp_Line_take_constant (K := K)) E te tNil) tNil)) D σ H :=
  hl H (Ex.refl _) _ fun H1 e1 => ⟨Or.inl ⟨rfl, xs, sq_of (e1 _ _ hp)⟩, go_m (h.mono e1) (L.ex e1).ob rfl ea_nil fun H2 e2 => ⟨_, rfl, a, dx, wa, ws, k, v, rfl, (L.ex e1).ex e2, hv, hk, fun H3 c3 L3 => by
    have hpa : p ≠ a := ne_of hp L.ob (by intro z; cases z)
    have hp3 : H3 p = some (.lst xs) := c3 _ _ ((e1.trans e2) _ _ hp) hpa
    exact ⟨p, xs, v, rfl, rfl, hp3, Nat.lt_of_lt_of_le hz (by decide), q _ ((((Ch.of_ex (e1.trans e2)).trans (c3.mono fun x e => .inl e))).set (.inr rfl)) (L3.upd hpa hw) upd_same⟩⟩⟩
theorem o_Line_take_constants (T : TT K mg) : MetX PW w K mg base (CXM w) 4 (He.ga K "Line") "take_constants" (sp_Line_take_constants (K := K)) := by
  obtain ⟨fd, F⟩ := f_Line_take_constants T
  refine ⟨_, mk3 F (b_Line_take_constants F) sc_Line_take_constants fun a b c cdv A outer s H Q E hr h => ⟨_, (pss_cons (ps_set (i := 3) sc_Line_take_constants.nd rfl (Or.inl rfl) (pe_lst pa_nil))
        (pss_cons (ps_if (pt_cmpR op_ne (wm0 (o_Line_peek T) hr (by decide) pass0 (pv 0)) (pv 1) (nomark _)) (pss_cons (ps_expr (pe_bm PySem.F.plainAttrs_list PySem.F.slot_list_append PySem.F.type_list_append mt_append (pv 3) (pa_cons (wm0 (o_Line_take_constant T) hr (by decide) pass0 (pv 0)) pa_nil)))
        (pss_one (ps_while ownE (pt_cmpR op_eq (wm0 (o_Line_peek T) hr (by decide) pass0 (pv 0)) pe_str (nomark _)) (pss_cons (ps_expr (wm0 (o_Line_take T) hr (by decide) pass0 (pv 0)))
        (pss_one (ps_expr (pe_bm PySem.F.plainAttrs_list PySem.F.slot_list_append PySem.F.type_list_append mt_append (pv 3) (pa_cons (wm0 (o_Line_take_constant T) hr (by decide) pass0 (pv 0)) pa_nil)))))))) pss_nil)
        (pss_cons (ps_expr (wm (o_Line_expect T) hr (by decide) passE (pv 0) (pa_cons (pv 1) pa_nil)))
        (pss_cons (ps_if (pt_cmpR op_gt (pe_callB (id := "len") call_len_seq rfl (z_len T) (by decide +kernel) (pa_cons (pv 3) pa_nil)) (pv 2) (nomark _)) (pss_one ps_never) pss_nil)
        (pss_one (ps_ret (pv 3))))))), ?_⟩, c_Line T, m_Line_take_constants T⟩
  obtain ⟨a, dx, wa, ws, k, vs, rest, rfl, L, rfl, rfl, hd, h3, hk, q⟩ := h
  refine q_asgL (el_lst ea_nil (by decide)) fun p H1 hp e1 h1 => ?_
  have L1 := L.ex e1
  have hpw : p ≠ wa := fun z => by rw [z, L.wd] at hp; cases hp
  have hpa : p ≠ a := fun z => by rw [z, L.ob] at hp; cases hp
  -- behind the list: the closing sign
  have fin : ∀ (H2 : Hp) (j : Nat), Ch (fun x => x = a ∨ x = p) H1 H2 → LnH K H2 a dx wa ws j → ws.drop j = [41] :: rest → H2 p = some (.lst vs) →
      tSeq (tDrop (tM (He.ga K "Line") "expect" (sp_Line_expect (K := K)) E (tVar 0) (tCons (tVar 1) tNil))) (tSeq (tIfS (tTest (tOp (rI0 fun i j => .bl (decide (j < i))) (tCB (fun xs H Q => ∃ p ys, xs = [.ref p] ∧ (SqL K H p ys ∨ SqT K H p ys) ∧ Q (.int ys.length) H) (tCons (tVar 3) tNil)) (tVar 2))) (fun _ _ _ => False) tNext) (tRet (tVar 3))) { nx := fun _ H' => Q .non H', rt := Q } [some (.ref a), some (.str (S [41])), some (.int 3), some (.ref p)] H2 := fun H2 j c2 L2 hj hp2 => by
    obtain ⟨t1, t2⟩ := tk_drop hj
    refine go_m (ev_var (v := .ref a) rfl) L2.ob rfl (ea_cons (ev_var rfl) ea_nil) fun H3 e3 => ⟨_, _, rfl, a, dx, wa, ws, j, [41], rfl, rfl, L2.ex e3, fun _ H4 c4 L4 => ?_, fun h => absurd t1 h⟩
    have hp4 : H4 p = some (.lst vs) := c4 _ _ (e3 _ _ hp2) hpa
    dsimp only
    refine q_when (b := false) (et_is (et_test (ev_op (ev_len (ev_var rfl) (sq_of hp4)) (ev_var rfl) (rv_I0 (g := fun i j => V.bl (decide (j < i))) (i := (vs.length : Int)) (j := 3)))) (decide_eq_false (by omega))) (fun hb => (Bool.false_ne_true hb).elim) fun _ H5 e5 => ?_
    refine s_ret (ev_var rfl) fun H6 e6 => q p (j + 1) H6 hp ?_ ((L4.ex e5).ex e6) t2 ((e5.trans e6) _ _ hp4)
    refine fun x o hx nx => (e5.trans e6) _ _ (c4 _ _ (e3 _ _ (c2 _ _ (e1 _ _ hx) fun z => ?_)) nx)
    rcases z with z | z
    · exact nx z
    · rw [z, hp] at hx
      cases hx
  refine q_when (b := !decide (vs = [])) (et_is (et_test (ev_op (ev_peek T (ev_var (v := .ref a) rfl) L1) (ev_var rfl) (rv_ne rfl))) ?_) (fun hb H2 e2 => ?_) fun hb H2 e2 => ?_
  · rw [dec_S]
    cases vs with
    | nil =>
      rw [(tk_drop hd).1]
      rfl
    | cons v r =>
      rw [(tk_drop hd).1]
      obtain ⟨c, r', e, _, h41, _⟩ := kTxt_hd (hk v (by simp))
      rw [e, decide_eq_false (fun h => h41 (List.cons.inj h).1), decide_eq_false (by simp)]
  · cases vs with
    | nil => exact absurd hb (by decide)
    | cons v r =>
      have hd' : ws.drop k = kTxt v :: (cm2 r ++ [41] :: rest) := hd
      obtain ⟨t1, t2⟩ := tk_drop hd'
      refine app_const T (ev_var (v := .ref a) rfl) (ev_var (v := .ref p) rfl) (e2 _ _ h1) (by decide) hpw (L1.ex e2) t1 (hk v (by simp)) _ fun H3 c3 L3 hp3 => ?_
      refine s_while (fun m σ' H' => ∃ (dn rs : List V) (j : Nat), m = rs.length ∧ v :: r = dn ++ rs ∧ Ch (fun x => x = a ∨ x = p) H1 H' ∧ LnH K H' a dx wa ws j ∧ ws.drop j = cm2 rs ++ [41] :: rest ∧ H' p = some (.lst dn) ∧ σ' = [some (.ref a), some (.str (S [41])), some (.int 3), some (.ref p)]) r.length
        ⟨[v], r, k + 1, rfl, rfl, (Ch.of_ex e2).trans c3, L3, t2, hp3, rfl⟩ ?_
      rintro m σ' H' ⟨dn, rs, j, rfl, ev, c4, L4, hj, hp4, rfl⟩
      cases rs with
      | nil =>
        have hj' : ws.drop j = [41] :: rest := hj
        refine ⟨false, et_is (et_test (ev_op (ev_peek T (ev_var (v := .ref a) rfl) L4) (ev_c (v := .str (S [44]))) (rv_eq rfl))) (by rw [dec_S, (tk_drop hj').1]; decide), fun hb => (Bool.false_ne_true hb).elim, fun _ H5 e5 => ?_⟩
        rw [List.append_nil] at ev
        subst ev
        exact fin H5 j (c4.trans (Ch.of_ex e5)) (L4.ex e5) hj (e5 _ _ hp4)
      | cons u rs =>
        have hj' : ws.drop j = [44] :: (kTxt u :: (cm2 rs ++ [41] :: rest)) := hj
        obtain ⟨u1, u2⟩ := tk_drop hj'
        obtain ⟨u3, u4⟩ := tk_drop u2
        refine ⟨true, et_is (et_test (ev_op (ev_peek T (ev_var (v := .ref a) rfl) L4) (ev_c (v := .str (S [44]))) (rv_eq rfl))) (by rw [dec_S, u1]; decide), fun _ H5 e5 => ?_, fun hb => (Bool.false_ne_true hb.symm).elim⟩
        have hdn : dn.length ≤ 3 := by
          have := congrArg List.length ev
          rw [List.length_append] at this
          simp only [List.length_cons] at this h3
          omega
        refine ⟨fun σ2 H2 => ∃ j', Ch (fun x => x = a ∨ x = p) H1 H2 ∧ LnH K H2 a dx wa ws j' ∧ ws.drop j' = cm2 rs ++ [41] :: rest ∧ H2 p = some (.lst (dn ++ [u])) ∧ σ2 = [some (.ref a), some (.str (S [41])), some (.int 3), some (.ref p)], ?_, ?_⟩
        · rintro σ2 H2 ⟨j', b1, b2, b3, b4, b5⟩
          exact ⟨rs.length, Nat.lt_succ_self _, dn ++ [u], rs, j', rfl, by rw [ev, List.append_assoc]; rfl, b1, b2, b3, b4, b5⟩
        · refine q_take T (ev_var (v := .ref a) rfl) (L4.ex e5) fun H6 c6 L6 => ?_
          refine app_const T (ev_var (v := .ref a) rfl) (ev_var (v := .ref p) rfl) (c6 _ _ (e5 _ _ hp4) hpa) (by omega) hpw L6 u3 (hk u (by rw [ev]; simp)) _ fun H7 c7 L7 hp7 => ?_
          exact ⟨j + 1 + 1, ((c4.trans (Ch.of_ex e5)).trans (c6.mono fun x e => .inl e)).trans c7, L7, u4, hp7, rfl⟩
  · cases vs with
    | nil => exact fin H2 k (Ch.of_ex e2) (L1.ex e2) hd (e2 _ _ h1)
    | cons v r => exact absurd hb (by simp)
end WP
set_option Elab.async false
set_option linter.all false
set_option maxRecDepth 100000
set_option maxHeartbeats 4000000
/-! mentions and scopes -/
namespace WP
open PySem PySem.Spec PyProof.Rows L2 Evl SX
variable {w : World} {K : PySem.W.Frag} {mg : Str → Option Value} {base : Heap}
def menF (fa ca ga ka : Addr) : List (Str × V) := [("family", .ref fa), ("called", .ref ca), ("flags", .ref ga), ("checked", .ref ka)]
def stV (l : List (List Nat)) : List V := l.map fun t => .str (S t)
def sp_Mentions_init : Sp := sp2 fun self fam H Q _ => ∃ (a dx fa : Addr), self = .ref a ∧ H a = some (.ins (He.ga K "Mentions") dx []) ∧ fam = .ref fa ∧
  ∀ (ca ga ka : Addr) H', H ca = none → H ga = none → H ka = none → ca ≠ ga → ca ≠ ka → ga ≠ ka → Ch (fun x => x = a) H H' → H' a = some (.ins (He.ga K "Mentions") dx (menF fa ca ga ka)) → H' ca = some (.lst []) → H' ga = some (.lst []) → H' ka = some (.lst []) → Q .non H'
def sp_Mentions_add_call : Sp := sp2 fun self text H Q _ => ∃ (a dx fa ca ga ka : Addr) (cs : List (List Nat)) (t : List Nat), self = .ref a ∧ H a = some (.ins (He.ga K "Mentions") dx (menF fa ca ga ka)) ∧ H ca = some (.lst (stV cs)) ∧ cs.length ≤ 1000 ∧ text = .str (S t) ∧
  ∀ (cs' : List (List Nat)) H', cs'.length ≤ cs.length + 1 → Ch (fun x => x = ca) H H' → H' ca = some (.lst (stV cs')) → Q .non H'
def sp_Mentions_add_flag : Sp := sp2 fun self flag H Q E => ∃ (a dx fa ca ga ka : Addr) (fl : List (List Nat)) (t : List Nat), self = .ref a ∧ H a = some (.ins (He.ga K "Mentions") dx (menF fa ca ga ka)) ∧ H ga = some (.lst (stV fl)) ∧ fl.length ≤ 3 ∧ flag = .str (S t) ∧
  (t ∈ fl → RetV .non H Q) ∧ (t ∉ fl → fl.length < 3 → ∀ H', Ch (fun x => x = ga) H H' → H' ga = some (.lst (stV (fl ++ [t]))) → Q .non H') ∧ (t ∉ fl → fl.length = 3 → ∀ H', Ex H H' → Mis K E H')
theorem strs_flat (l : List (List Nat)) : (stV l).all flatV = true := List.all_eq_true.mpr fun x hx => by
  obtain ⟨t, _, rfl⟩ := List.mem_map.mp hx
  rfl
theorem inV_strs {t : List Nat} {l : List (List Nat)} : inV (.str (S t)) (stV l) = decide (t ∈ l) := by
  unfold stV
  rw [show (l.map fun t => V.str (S t)) = (l.map S).map V.str by rw [List.map_map]; rfl, inV_str, List.map_map, Bool.eq_iff_iff, decide_eq_true_iff]
  simp
theorem o_Mentions_init (T : TT K mg) : MakX PW w K mg base CX0 1 "Mentions" (He.ga K "Mentions") (sp_Mentions_init (K := K)) := by
  obtain ⟨fd, F⟩ := f_Mentions_init T
  refine ⟨_, mk2 F (b_Mentions_init F) sc_Mentions_init fun a b cdv A outer s H Q E hr h => ⟨_, (pss_cons (ps_fld (pv 0) (pv 1) rfl)
        (pss_cons (ps_fld (pv 0) (pe_lst pa_nil) rfl)
        (pss_cons (ps_fld (pv 0) (pe_lst pa_nil) rfl)
        (pss_one (ps_fld (pv 0) (pe_lst pa_nil) rfl))))), ?_⟩, k_Mentions T, g_Mentions T⟩
  obtain ⟨a, dx, fa, rfl, ha, rfl, q⟩ := h
  refine q_fld (ev_var (v := .ref fa) rfl) (ev_var (v := .ref a) rfl) ha (c_Mentions T) (n_Mentions_family T) (show 0 < 1000 by decide) fun H1 e1 => ?_
  have step : ∀ (H1 : Hp) (f : Str) (fs : List (Str × V)) (D : Ends), fs.length < 1000 → NoAttr K (He.ga K "Mentions") f → Ch (fun x => x = a) H H1 → H1 a = some (.ins (He.ga K "Mentions") dx fs) → (∀ p H2, H p = none → p ≠ a → H1 p = none → (∀ x o, H1 x = some o → x ≠ a → H2 x = some o) → Ch (fun x => x = a) H H2 → H2 a = some (.ins (He.ga K "Mentions") dx (putF f (.ref p) fs)) → H2 p = some (.lst []) → D.nx [some (.ref a), some (.ref fa)] H2) → sFld K (tVar 0) (tLst tNil) f D [some (.ref a), some (.ref fa)] H1 := fun H1 f fs D hl hn c1 h1 k => by
    refine ⟨show 0 ≤ sizeLine by decide, fun p hp => ⟨_, rfl, a, _, dx, fs, rfl, (Ex.new hp) _ _ h1, c_Mentions T, hn, hl, ?_⟩⟩
    have hpa : p ≠ a := fun z => by rw [z, h1] at hp; cases hp
    have hp0 : H p = none := by
      cases e : H p with
      | none => rfl
      | some o => rw [c1 _ _ e hpa] at hp; cases hp
    exact k p _ hp0 hpa hp (fun x o e n => by rw [upd_ne n]; exact Ex.new hp _ _ e) ((c1.fresh hp).set rfl) upd_same (by rw [upd_ne hpa]; exact upd_same)
  refine step _ "called" (putF "family" (.ref fa) []) _ (show 1 < 1000 by decide) (n_Mentions_called T) (ch1 e1) upd_same fun ca H2 n1 m1 _ _ c2 a2 p2 => ?_
  refine step _ "flags" (putF "called" (.ref ca) (putF "family" (.ref fa) [])) _ (show 2 < 1000 by decide) (n_Mentions_flags T) c2 a2 fun ga H3 n2 m2 o2 k3 c3 a3 p3 => ?_
  have hcg : ca ≠ ga := fun z => by rw [← z, p2] at o2; cases o2
  have p2' := k3 _ _ p2 m1
  refine step _ "checked" (putF "flags" (.ref ga) (putF "called" (.ref ca) (putF "family" (.ref fa) []))) _ (show 3 < 1000 by decide) (n_Mentions_checked T) c3 a3 fun ka H4 n3 m3 o3 k4 c4 a4 p4 => ?_
  have hck : ca ≠ ka := fun z => by rw [← z, p2'] at o3; cases o3
  have hgk : ga ≠ ka := fun z => by rw [← z, p3] at o3; cases o3
  exact q ca ga ka H4 n1 n2 n3 hcg hck hgk c4 a4 (k4 _ _ p2' m1) (k4 _ _ p3 m2) p4
theorem o_Mentions_add_call (T : TT K mg) : MetX PW w K mg base CX0 1 (He.ga K "Mentions") "add_call" (sp_Mentions_add_call (K := K)) := by
  obtain ⟨fd, F⟩ := f_Mentions_add_call T
  refine ⟨_, mk2 F (b_Mentions_add_call F) sc_Mentions_add_call fun a b cdv A outer s H Q E hr h => ⟨_, (pss_one (ps_if (pt_cmpR op_notIn_seq (pv 1) (pe_fld (pv 0) rfl) (by with_unfolding_all rfl)) (pss_one (ps_expr (pe_bm PySem.F.plainAttrs_list PySem.F.slot_list_append PySem.F.type_list_append mt_append (pe_fld (pv 0) rfl) (pa_cons (pv 1) pa_nil)))) pss_nil)), ?_⟩, c_Mentions T, m_Mentions_add_call T⟩
  obtain ⟨a, dx, fa, ca, ga, ka, cs, t, rfl, ha, hc, hz, rfl, q⟩ := h
  refine s_when (et_test (ev_op (ev_var rfl) (ev_fld (ev_var (v := .ref a) rfl) ha (c_Mentions T) (n_Mentions_called T) rfl) (rv_niL (sq_of hc) rfl (strs_flat cs)))) (fun hb H1 e1 => ?_) fun hb H1 e1 => q cs H1 (Nat.le_succ _) (Ch.of_ex e1) (e1 _ _ hc)
  refine s_app (e1 _ _ hc) (ev_fld (ev_var (v := .ref a) rfl) (e1 _ _ ha) (c_Mentions T) (n_Mentions_called T) rfl) (ev_var rfl) (by rw [stV, List.length_map]; omega) fun H2 e2 => q (cs ++ [t]) _ (by simp) ((Ch.of_ex (e1.trans e2)).set rfl) ?_
  rw [upd_same]
  simp [stV]
theorem o_Mentions_add_flag (T : TT K mg) : MetX PW w K mg base (CXM w) 1 (He.ga K "Mentions") "add_flag" (sp_Mentions_add_flag (K := K)) := by
  obtain ⟨fd, F⟩ := f_Mentions_add_flag T
  refine ⟨_, mk2 F (b_Mentions_add_flag F) sc_Mentions_add_flag fun a b cdv A outer s H Q E hr h => ⟨_, (pss_cons (ps_if (pt_cmpR op_in_seq (pv 1) (pe_fld (pv 0) rfl) (by with_unfolding_all rfl)) (pss_one ps_retN) pss_nil)
        (pss_cons (ps_if (pt_cmpR op_eq (pe_callB (id := "len") call_len_seq rfl (z_len T) (by decide +kernel) (pa_cons (pe_fld (pv 0) rfl) pa_nil)) (wgi (i_MOST_FLAGS T)) (nomark _)) (pss_one (ps_misread T)) pss_nil)
        (pss_one (ps_expr (pe_bm PySem.F.plainAttrs_list PySem.F.slot_list_append PySem.F.type_list_append mt_append (pe_fld (pv 0) rfl) (pa_cons (pv 1) pa_nil)))))), ?_⟩, c_Mentions T, m_Mentions_add_flag T⟩
  obtain ⟨a, dx, fa, ca, ga, ka, fl, t, rfl, ha, hc, hz, rfl, q1, q2, q3⟩ := h
  refine q_when (et_is (et_test (ev_op (ev_var rfl) (ev_fld (ev_var (v := .ref a) rfl) ha (c_Mentions T) (n_Mentions_flags T) rfl) (rv_isL (sq_of hc) rfl (strs_flat fl)))) inV_strs) (fun hb H1 e1 => q1 (of_decide_eq_true hb) H1 e1) fun hb H1 e1 => ?_
  have hn := of_decide_eq_false hb
  refine q_when (b := decide (fl.length = 3)) (et_is (et_test (ev_op (ev_len (ev_fld (ev_var (v := .ref a) rfl) (e1 _ _ ha) (c_Mentions T) (n_Mentions_flags T) rfl) (sq_of (e1 _ _ hc))) ev_c (rv_eq rfl))) ?_) (fun hb H2 e2 => q3 hn (of_decide_eq_true hb) H2 (e1.trans e2)) fun hb H2 e2 => ?_
  · rw [dec_int, stV, List.length_map, Bool.eq_iff_iff]
    simp
    omega
  · have h3 := of_decide_eq_false hb
    refine s_app ((e1.trans e2) _ _ hc) (ev_fld (ev_var (v := .ref a) rfl) ((e1.trans e2) _ _ ha) (c_Mentions T) (n_Mentions_flags T) rfl) (ev_var rfl) (by rw [stV, List.length_map]; omega) fun H3 e3 => q2 hn (by omega) _ ((Ch.of_ex ((e1.trans e2).trans e3)).set rfl) ?_
    rw [upd_same]
    simp [stV]
/-! ### scopes -/
def scF (ma gv : Addr) (it : V) : List (Str × V) := [("mentions", .ref ma), ("given", .ref gv), ("item", it)]
def sp_Scope_init : Sp := sp4 fun self m g it H Q _ => ∃ (a dx ma gv : Addr), self = .ref a ∧ H a = some (.ins (He.ga K "Scope") dx []) ∧ m = .ref ma ∧ g = .ref gv ∧ ∀ H', Ch (fun x => x = a) H H' → H' a = some (.ins (He.ga K "Scope") dx (scF ma gv it)) → Q .non H'
def sp_Scope_innerB : Sp := sp2 fun self item H Q _ => ∃ (a dx ma gv : Addr) (it : V) (kvs : List (Key × V)), self = .ref a ∧ isSc item = true ∧ H a = some (.ins (He.ga K "Scope") dx (scF ma gv it)) ∧ H gv = some (.dK kvs) ∧
  ∀ (b db g' : Addr) H', H b = none → H g' = none → b ≠ g' → Ex H H' → H' b = some (.ins (He.ga K "Scope") db (scF ma g' (if item = .non then it else item))) → H' g' = some (.dK kvs) → Q (.ref b) H'
def sp_Scope_inner0 : Sp := sp1 fun self H Q E => sp_Scope_innerB (K := K) [self, .non] H Q E
def sp_Scope_inner1 : Sp := sp2 fun self item H Q E => sp_Scope_innerB (K := K) [self, item] H Q E
def sp_Scope_sees : Sp := sp2 fun self nm H Q _ => ∃ (a dx ma gv : Addr) (it : V) (kvs : List (Key × V)) (n : List Nat), self = .ref a ∧ nm = .str (S n) ∧ isSc it = true ∧ H a = some (.ins (He.ga K "Scope") dx (scF ma gv it)) ∧ H gv = some (.dK kvs) ∧ RetV (.bl ((valV kvs (.inr (S n))).isSome || decide (.str (S n) = it))) H Q
theorem o_Scope_init (T : TT K mg) : MakX PW w K mg base CX0 1 "Scope" (He.ga K "Scope") (sp_Scope_init (K := K)) := by
  obtain ⟨fd, F⟩ := f_Scope_init T
  refine ⟨_, mk4 F (b_Scope_init F) sc_Scope_init fun a b c d cdv A outer s H Q E hr h => ⟨_, (pss_cons (ps_fld (pv 0) (pv 1) rfl)
        (pss_cons (ps_fld (pv 0) (pv 2) rfl)
        (pss_one (ps_fld (pv 0) (pv 3) rfl)))), ?_⟩, k_Scope T, g_Scope T⟩
  obtain ⟨a, dx, ma, gv, rfl, ha, rfl, rfl, q⟩ := h
  refine q_fld (ev_var (v := .ref ma) rfl) (ev_var (v := .ref a) rfl) ha (c_Scope T) (n_Scope_mentions T) (show 0 < 1000 by decide) fun H1 e1 => ?_
  refine q_fld (ev_var (v := .ref gv) rfl) (ev_var (v := .ref a) rfl) upd_same (c_Scope T) (n_Scope_given T) (show 1 < 1000 by decide) fun H2 e2 => ?_
  refine s_fld (ev_var rfl) (ev_var (v := .ref a) rfl) upd_same (c_Scope T) (n_Scope_item T) (show 2 < 1000 by decide) fun H3 e3 => ?_
  exact q _ (ch2 (ch2 (ch1 e1) e2) e3) upd_same
theorem inner_body (T : TT K mg) {fd : FuncData} (F : FunD K "inner" "Scope.inner" (defArgs s_Scope_inner) (defBody s_Scope_inner) (defScope s_Scope_inner) [V.non] [] (d_Scope_inner.at_ K) fd) :
    FnOk PW w K mg base CX0 3 (d_Scope_inner.at_ K) fd ["self", "item"] (sp_Scope_innerB (K := K)) := by
  refine F.ok sc_Scope_inner (fun _ _ _ _ ⟨_, _, e, _⟩ => by rw [e]; rfl) fun cdv A outer s H vs Q E hr h => ⟨_, (pss_one (ps_ret (wk (o_Scope_init T) hr (by decide) pass0 (pa_cons (pe_fld (pv 0) rfl) (pa_cons (pe_callTy call_dictD rfl (z_dict T) (by decide +kernel) (pa_cons (pe_fld (pv 0) rfl) pa_nil)) (pa_cons (pe_ifExp (pt_cmpR op_isN (pv 1) pe_non (nomark _)) (pe_fld (pv 0) rfl) (pv 1)) pa_nil)))))), ?_⟩
  obtain ⟨_, item, rfl, a, dx, ma, gv, it, kvs, rfl, hs, ha, hg, q⟩ := h
  have fl : ∀ (f : Str) (v : V) (H' : Hp), Ex H H' → NoAttr K (He.ga K "Scope") f → (scF ma gv it).lookup f = some v → Ev (tFld K (tVar 0) f) [some (.ref a), some item] H' v := fun f v H' e hn hl => ev_fld (ev_var (v := .ref a) rfl) (e _ _ ha) (c_Scope T) hn hl
  dsimp only [tRet, StX.tMakeR, tCons, tCB, tNil]
  refine fl "mentions" (.ref ma) H (Ex.refl _) (n_Scope_mentions T) rfl H (Ex.refl _) _ fun H1 e1 => ?_
  refine fl "given" (.ref gv) H1 e1 (n_Scope_given T) rfl H1 (Ex.refl _) _ fun H2 e2 => ?_
  refine ⟨gv, kvs, rfl, .inl ((e1.trans e2) _ _ hg), fun g' hg' => ?_⟩
  have e3 : Ex H (upd H2 g' (.dK kvs)) := (e1.trans e2).trans (Ex.new hg')
  refine ev_if (b := decide (item = .non)) (v := if item = .non then it else item) (et_test (ev_op (ev_var rfl) ev_c rv_isN)) (fun hb => ?_) (fun hb => ?_) (upd H2 g' (.dK kvs)) (Ex.refl _) _ fun H4 e4 => ?_
  · rw [if_pos (of_decide_eq_true hb)]
    exact fl "item" it _ e3 (n_Scope_item T) rfl
  · rw [if_neg (of_decide_eq_false hb)]
    exact ev_var rfl
  · intro b db hb hdb hne
    have hg4 : H4 g' = some (.dK kvs) := e4 _ _ upd_same
    have hbg : b ≠ g' := fun z => by rw [z, hg4] at hb; cases hb
    refine ⟨_, _, _, _, rfl, b, db, ma, g', rfl, upd_same, rfl, rfl, fun H' c hb' => ⟨rfl, ?_⟩⟩
    have e5 : Ex H4 (upd (upd H4 db (.own b)) b (.ins (He.ga K "Scope") db [])) := fun x o e => by
      rw [upd_ne (ne_of_none e hb), upd_ne (ne_of_none e hdb)]
      exact e
    have e6 : Ex H4 H' := fun x o e => c _ _ (e5 _ _ e) (ne_of_none e hb)
    exact q b db g' H' (fresh_back (e3.trans e4) hb) (fresh_back (e1.trans e2) hg') hbg ((e3.trans e4).trans e6) hb' (e6 _ _ hg4)
theorem o_Scope_inner0 (T : TT K mg) : MetX PW w K mg base CX0 3 (He.ga K "Scope") "inner" (sp_Scope_inner0 (K := K)) := by
  obtain ⟨fd, F⟩ := f_Scope_inner T
  obtain ⟨ds, h1, h2⟩ := F.binds1 (ps := ["self", "item"]) 1 0 (by simp) rfl fun T0 kV doc pm an cdv ct us its hu hi => match us, its, hu, hi with
    | [_], [_], _, _ => ⟨_, rfl, rfl⟩
  exact ⟨_, ((inner_body T F).raw h2 h1).imp fun vs H Q E ⟨a, e, h⟩ => by subst e; exact h, c_Scope T, m_Scope_inner T⟩
theorem o_Scope_inner1 (T : TT K mg) : MetX PW w K mg base CX0 3 (He.ga K "Scope") "inner" (sp_Scope_inner1 (K := K)) := by
  obtain ⟨fd, F⟩ := f_Scope_inner T
  obtain ⟨ds, h1, h2⟩ := F.binds1 (ps := ["self", "item"]) 2 1 (by simp) rfl fun T0 kV doc pm an cdv ct us its hu hi => match us, its, hu, hi with
    | [_, _], [_], _, _ => ⟨_, rfl, rfl⟩
  exact ⟨_, ((inner_body T F).raw h2 h1).imp fun vs H Q E ⟨a, b, e, h⟩ => by subst e; exact h, c_Scope T, m_Scope_inner T⟩
theorem o_Scope_sees (T : TT K mg) : MetX PW w K mg base CX0 1 (He.ga K "Scope") "sees" (sp_Scope_sees (K := K)) := by
  obtain ⟨fd, F⟩ := f_Scope_sees T
  refine ⟨_, mk2 F (b_Scope_sees F) sc_Scope_sees fun a b cdv A outer s H Q E hr h => ⟨_, (have hu := hu_of hr; (pss_one (ps_ret (pe_or (pe_cmp (pc_din hu (pv 1) (pe_fld (pv 0) rfl))) (pe_one (pe_cmpR op_eq (pv 1) (pe_fld (pv 0) rfl) (nomark _))))))), ?_⟩, c_Scope T, m_Scope_sees T⟩
  obtain ⟨a, dx, ma, gv, it, kvs, n, rfl, rfl, hi, ha, hg, q⟩ := h
  refine s_ret (ev_orV (fun H1 e1 Q' q' => ⟨_, rfl, ev_fld (ev_var (v := .ref a) rfl) (e1 _ _ ha) (c_Scope T) (n_Scope_given T) rfl H1 (Ex.refl _) _ fun H2 e2 => ⟨gv, _, rfl, DGet.k (k := .inr (S n)) ((e1.trans e2) _ _ hg), q' H2 e2⟩⟩) fun _ => ev_op (ev_var rfl) (ev_fld (ev_var (v := .ref a) rfl) ha (c_Scope T) (n_Scope_item T) rfl) (rv_eq ?_)) q
  cases it <;> first | rfl | cases hi
end WP
set_option Elab.async false
set_option linter.all false
set_option maxRecDepth 100000
set_option maxHeartbeats 4000000
/-! the parser's objects; calls and things -/
namespace WP
open PySem PySem.Spec PyProof.Rows L2 Evl SX
variable {w : World} {K : PySem.W.Frag} {mg : Str → Option Value} {base : Heap}
section
variable {X : Cx} {CX : CXT} {k j : Nat} {sp : Sp} {E : XK} {x : Str} {p pos : Pos} {e : Expr} {es : List Expr} {t : TA}
/-- x(e, .., *y) -/
theorem wcS (c : CalX X.prog X.w X.K X.mg X.base CX k x sp) (hr : Room j X.A) (hk : k ≤ j) (hx : Passes CX X E) (ha : PA X (e :: es) t) (hg : Gl X x := by rfl)
    (hdb : (x == ("__debug__" : Str)) = false := by decide) (he : starEach (e :: es) X.env = (false, eval e X.env) :: starEach es X.env := by rfl) (hst : (backTo pos (starEach es X.env)).any (·.1) = true := by rfl) :
    PE X (.Call (.Name x p) (e :: es) [] pos) (tF sp E t) := by
  obtain ⟨f, F, hm, kp⟩ := c
  exact StX.pe_callS2 F (hr.mono hk) kp hg hm hx ha hdb he hst
end
/-! ### the reader and what it holds -/
structure PA where
  (r dr la ma dm fa ca ga ka wa : Addr)
def rdF (A : PA) (n : Nat) : List (Str × V) := [("lines", .ref A.la), ("at", .int (n : Int)), ("mentions", .ref A.ma), ("written", .ref A.wa)]
structure PInv (K : PySem.W.Frag) (H : Hp) (A : PA) (L : List (List Nat)) (n ec ek : Nat) (fl : List (List Nat)) : Prop where
  r : H A.r = some (.ins (He.ga K "RowReader") A.dr (rdF A n))
  l : H A.la = some (.lst (stV L))
  m : H A.ma = some (.ins (He.ga K "Mentions") A.dm (menF A.fa A.ca A.ga A.ka))
  f : FamH K H A.fa
  c : ∃ cs : List (List Nat), H A.ca = some (.lst (stV cs)) ∧ cs.length ≤ n + ec
  g : H A.ga = some (.lst (stV fl)) ∧ fl.length ≤ 3
  k : ∃ ks : List Int, H A.ka = some (.lst (ks.map V.int)) ∧ ks.length ≤ n + ek
  w : ∃ ws : List (List Nat), H A.wa = some (.lst (stV ws)) ∧ ws.length ≤ n
  b : n ≤ 40 ∧ ec ≤ 1 ∧ ek ≤ 1
  ne : A.ca ≠ A.ga ∧ A.ca ≠ A.ka ∧ A.ca ≠ A.wa ∧ A.ga ≠ A.ka ∧ A.ga ≠ A.wa ∧ A.ka ≠ A.wa ∧ A.la ≠ A.ca ∧ A.la ≠ A.ga ∧ A.la ≠ A.ka ∧ A.la ≠ A.wa
/-- all that a line's reading looks at -/
structure CC (K : PySem.W.Frag) (H : Hp) (A : PA) (L : List (List Nat)) (n ec ek : Nat) (fl : List (List Nat)) (a dx wl : Addr) (ws : List (List Nat)) (k : Nat) (sa ds gv : Addr) (it : V) (kvs : List (Key × V)) : Prop where
  p : PInv K H A L n ec ek fl
  l : LnH K H a dx wl ws k
  nl : wl ≠ A.ca ∧ wl ≠ A.ga ∧ wl ≠ A.ka ∧ wl ≠ A.wa
  s : H sa = some (.ins (He.ga K "Scope") ds (scF A.ma gv it))
  g : H gv = some (.dK kvs)
  i : it = .non ∨ ∃ l, isNm l = true ∧ it = .str (S l)
section
variable {H H' : Hp} {A : PA} {L : List (List Nat)} {n ec ek : Nat} {fl fl' : List (List Nat)} {a dx wl : Addr} {ws : List (List Nat)} {k k' : Nat} {sa ds gv : Addr} {it : V} {kvs : List (Key × V)}
theorem PInv.ex (h : PInv K H A L n ec ek fl) (e : Ex H H') : PInv K H' A L n ec ek fl := by
  obtain ⟨cs, c1, c2⟩ := h.c
  obtain ⟨ks, k1, k2⟩ := h.k
  obtain ⟨zs, w1, w2⟩ := h.w
  exact ⟨e _ _ h.r, e _ _ h.l, e _ _ h.m, h.f.ex e, ⟨cs, e _ _ c1, c2⟩, ⟨e _ _ h.g.1, h.g.2⟩, ⟨ks, e _ _ k1, k2⟩, ⟨zs, e _ _ w1, w2⟩, h.b, h.ne⟩
theorem CC.ex (h : CC K H A L n ec ek fl a dx wl ws k sa ds gv it kvs) (e : Ex H H') : CC K H' A L n ec ek fl a dx wl ws k sa ds gv it kvs :=
  ⟨h.p.ex e, h.l.ex e, h.nl, e _ _ h.s, e _ _ h.g, h.i⟩
theorem hdW {K : PySem.W.Frag} {C dx : Addr} {x : Str} {v : V} {r : List (Str × V)} : hd1 (.ins C dx ((x, v) :: r)) = some x := rfl
/-- an instance of another class stands elsewhere -/
theorem ne_ins {H : Hp} {p q C C' d d' : Addr} {x y : Str} {u v : V} {r r' : List (Str × V)} (h1 : H p = some (.ins C d ((x, u) :: r))) (h2 : H q = some (.ins C' d' ((y, v) :: r'))) (h : x ≠ y) : p ≠ q := ne_hd h1 h2 (fun e => h (Option.some.inj e))
theorem PInv.ch1 (h : PInv K H A L n ec ek fl) {p : Addr} {o : HO} (c : Ch (fun x => x = p) H H') (hp : H p = some o) (hi : ∃ C d u r, o = .ins C d (("words", u) :: r)) : PInv K H' A L n ec ek fl := by
  obtain ⟨C, d, u, r, rfl⟩ := hi
  obtain ⟨cs, c1, c2⟩ := h.c
  obtain ⟨ks, k1, k2⟩ := h.k
  obtain ⟨zs, w1, w2⟩ := h.w
  have nl : ∀ {q : Addr} {xs : List V}, H q = some (.lst xs) → q ≠ p := fun e => ne_of e hp (by intro z; cases z)
  refine ⟨c _ _ h.r (ne_ins h.r hp (by decide)), c _ _ h.l (nl h.l), c _ _ h.m (ne_ins h.m hp (by decide)), h.f.ch c fun q e => ?_, ⟨cs, c _ _ c1 (nl c1), c2⟩, ⟨c _ _ h.g.1 (nl h.g.1), h.g.2⟩, ⟨ks, c _ _ k1 (nl k1), k2⟩, ⟨zs, c _ _ w1 (nl w1), w2⟩, h.b, h.ne⟩
  subst e
  exact ⟨_, hp, fun z => absurd (Option.some.inj z) (by decide), fun kvs z => by cases z⟩
theorem CC.line (h : CC K H A L n ec ek fl a dx wl ws k sa ds gv it kvs) (c : Ch (fun x => x = a) H H') (l : LnH K H' a dx wl ws k') : CC K H' A L n ec ek fl a dx wl ws k' sa ds gv it kvs :=
  ⟨h.p.ch1 c h.l.ob ⟨_, _, _, _, rfl⟩, l, h.nl, c _ _ h.s (ne_ins h.s h.l.ob (by decide)), c _ _ h.g (ne_of h.g h.l.ob (by intro z; cases z)), h.i⟩
theorem CC.call (h : CC K H A L n ec ek fl a dx wl ws k sa ds gv it kvs) (c : Ch (fun x => x = A.ca) H H') {cs' : List (List Nat)} (hc : H' A.ca = some (.lst (stV cs'))) (hl : cs'.length ≤ n + 1) : CC K H' A L n 1 ek fl a dx wl ws k sa ds gv it kvs := by
  obtain ⟨cs, c1, c2⟩ := h.p.c
  obtain ⟨ks, k1, k2⟩ := h.p.k
  obtain ⟨zs, w1, w2⟩ := h.p.w
  obtain ⟨n1, n2, n3, n4, n5, n6, n7, n8, n9, n10⟩ := h.p.ne
  have ni : ∀ {q C d : Addr} {fs : List (Str × V)}, H q = some (.ins C d fs) → q ≠ A.ca := fun e => ne_of e c1 (by intro z; cases z)
  refine ⟨⟨c _ _ h.p.r (ni h.p.r), c _ _ h.p.l n7, c _ _ h.p.m (ni h.p.m), h.p.f.ch c fun q e => ?_, ⟨cs', hc, hl⟩, ⟨c _ _ h.p.g.1 n1.symm, h.p.g.2⟩, ⟨ks, c _ _ k1 n2.symm, k2⟩, ⟨zs, c _ _ w1 n3.symm, w2⟩, ⟨h.p.b.1, Nat.le_refl _, h.p.b.2.2⟩, h.p.ne⟩, ⟨c _ _ h.l.ob (ni h.l.ob), c _ _ h.l.wd h.nl.1, h.l.bd⟩, h.nl, c _ _ h.s (ni h.s), c _ _ h.g (ne_of h.g c1 (by intro z; cases z)), h.i⟩
  subst e
  exact ⟨_, c1, fun z => (nomatch z), fun kvs z => by cases z⟩
theorem CC.flag (h : CC K H A L n ec ek fl a dx wl ws k sa ds gv it kvs) (c : Ch (fun x => x = A.ga) H H') (hc : H' A.ga = some (.lst (stV fl'))) (hl : fl'.length ≤ 3) : CC K H' A L n ec ek fl' a dx wl ws k sa ds gv it kvs := by
  obtain ⟨cs, c1, c2⟩ := h.p.c
  obtain ⟨ks, k1, k2⟩ := h.p.k
  obtain ⟨zs, w1, w2⟩ := h.p.w
  obtain ⟨n1, n2, n3, n4, n5, n6, n7, n8, n9, n10⟩ := h.p.ne
  have g1 := h.p.g.1
  have ni : ∀ {q C d : Addr} {fs : List (Str × V)}, H q = some (.ins C d fs) → q ≠ A.ga := fun e => ne_of e g1 (by intro z; cases z)
  refine ⟨⟨c _ _ h.p.r (ni h.p.r), c _ _ h.p.l n8, c _ _ h.p.m (ni h.p.m), h.p.f.ch c fun q e => ?_, ⟨cs, c _ _ c1 n1, c2⟩, ⟨hc, hl⟩, ⟨ks, c _ _ k1 n4.symm, k2⟩, ⟨zs, c _ _ w1 n5.symm, w2⟩, h.p.b, h.p.ne⟩, ⟨c _ _ h.l.ob (ni h.l.ob), c _ _ h.l.wd h.nl.2.1, h.l.bd⟩, h.nl, c _ _ h.s (ni h.s), c _ _ h.g (ne_of h.g g1 (by intro z; cases z)), h.i⟩
  subst e
  exact ⟨_, g1, fun z => (nomatch z), fun kvs z => by cases z⟩
/-- what a condition may change -/
def Mc (A : PA) (a : Addr) : Addr → Prop := fun x => x = a ∨ x = A.ca ∨ x = A.ga
theorem Mc.la {A : PA} {a : Addr} {H H' : Hp} (c : Ch (fun x => x = a) H H') : Ch (Mc A a) H H' := c.mono fun x e => .inl e
theorem Mc.lc {A : PA} {a : Addr} {H H' : Hp} (c : Ch (fun x => x = A.ca) H H') : Ch (Mc A a) H H' := c.mono fun x e => .inr (.inl e)
theorem Mc.lg {A : PA} {a : Addr} {H H' : Hp} (c : Ch (fun x => x = A.ga) H H') : Ch (Mc A a) H H' := c.mono fun x e => .inr (.inr e)
end
/-! ### promises -/
/-- the objects of a line's reading -/
structure Ob where
  (A : PA) (L : List (List Nat)) (n ek : Nat) (a dx wl : Addr) (ws : List (List Nat)) (sa ds gv : Addr) (it : V) (kvs : List (Key × V))
abbrev Ob.C (o : Ob) (K : PySem.W.Frag) (H : Hp) (ec : Nat) (fl : List (List Nat)) (k : Nat) : Prop := CC K H o.A o.L o.n ec o.ek fl o.a o.dx o.wl o.ws k o.sa o.ds o.gv o.it o.kvs
abbrev Ob.M (o : Ob) (H H' : Hp) : Prop := Ch (Mc o.A o.a) H H'
def sp_call_behind : Sp := sp3 fun ln sc nm H Q E => ∃ (o : Ob) (fl : List (List Nat)) (k : Nat) (n : List Nat) (vs : List V) (rest : List (List Nat)), ln = .ref o.a ∧ sc = .ref o.sa ∧ nm = .str (S n) ∧ o.C K H 0 fl k ∧ isNm n = true ∧
  o.ws.drop k = ctoks vs ++ [41] :: rest ∧ vs.length ≤ 3 ∧ (∀ v ∈ vs, isK v = true) ∧
  (o.it = .non → ∀ j H', o.C K H' 1 fl j → o.ws.drop j = rest → o.M H H' → Q (.str (S (callT n vs))) H') ∧ (o.it ≠ .non → ∀ H', o.M H H' → Mis K E H')
theorem o_call_behind (T : TT K mg) : CalX PW w K mg base (CXM w) 5 "call_behind" (sp_call_behind (K := K)) := by
  obtain ⟨fd, F⟩ := f_call_behind T
  refine ⟨_, mk3 F (b_call_behind F) sc_call_behind fun a b c cdv A outer s H Q E hr h => ⟨_, (pss_cons (ps_if (pt_cmpR op_notN (pe_fld (pv 1) rfl) pe_non (nomark _)) (pss_one (ps_misread T)) pss_nil)
        (pss_cons (ps_set (i := 3) sc_call_behind.nd rfl (Or.inl rfl) (wm (o_Line_take_constants T) hr (by decide) passE (pv 0) (pa_cons pe_str (pa_cons pe_int pa_nil))))
        (pss_cons (ps_set (i := 4) sc_call_behind.nd rfl (Or.inl rfl) (wcS (o_call_text T) hr (by decide) pass0 (pa_cons (pv 2) (StX.pa_star (pv 3) pa_nil))))
        (pss_cons (ps_expr (wm (o_Mentions_add_call T) hr (by decide) pass0 (pe_fld (pv 1) rfl) (pa_cons (pv 4) pa_nil)))
        (pss_one (ps_ret (pv 4))))))), ?_⟩, g_call_behind T, F.kp⟩
  obtain ⟨o, fl, k, n, vs, rest, rfl, rfl, rfl, C, hn, hd, h3, hk, q1, q2⟩ := h
  refine q_when (et_test (ev_op (ev_fld (ev_var (v := .ref o.sa) rfl) C.s (c_Scope T) (n_Scope_item T) rfl) ev_c rv_notN)) (fun hb H1 e1 => ?_) fun hb H1 e1 => ?_
  · refine q2 (fun z => ?_) H1 (Ch.of_ex e1)
    rw [z] at hb
    exact absurd hb (by decide)
  · have hit : o.it = .non := by simpa using hb
    have C1 := C.ex e1
    refine go_m (ev_var (v := .ref o.a) rfl) C1.l.ob rfl (ea_cons ev_c (ea_cons ev_c ea_nil)) fun H2 e2 => ⟨_, _, _, rfl, o.a, o.dx, o.wl, o.ws, k, vs, rest, rfl, C1.l.ex e2, rfl, rfl, hd, h3, hk, fun p j H3 hp c3 l3 hj hp3 => ?_⟩
    have C3 := (C1.ex e2).line c3 l3
    dsimp only
    refine q_asg (v := .str (S (callT n vs))) (fun H4 e4 Q' q' => ⟨_, rfl, .ref p, rfl, p, vs, rfl, .inr (sq_of (e4 _ _ hp3)), .str (S n), vs ++ [], rfl, by simp; omega, fun t ht => ⟨n, rfl, hn, by simpa using h3, by simpa using hk, fun H5 e5 => ?_⟩⟩) fun H4 e4 => ?_
    · rw [List.append_nil] at e5 ⊢
      exact q' H5 ((Ex.new ht).trans e5)
    · have C4 := C3.ex e4
      obtain ⟨cs, cs1, cs2⟩ := C4.p.c
      refine go_m (ev_fld (ev_var (v := .ref o.sa) rfl) C4.s (c_Scope T) (n_Scope_mentions T) rfl) C4.p.m rfl (ea_cons (ev_var rfl) ea_nil) fun H5 e5 => ⟨_, _, rfl, o.A.ma, o.A.dm, o.A.fa, o.A.ca, o.A.ga, o.A.ka, cs, _, rfl, e5 _ _ C4.p.m, e5 _ _ cs1, ?_, rfl, fun cs' H6 hl6 c6 hc6 => ?_⟩
      · have := C4.p.b
        omega
      · have C6 := (C4.ex e5).call c6 hc6 (by omega)
        dsimp only
        refine s_ret (ev_var rfl) fun H7 e7 => q1 hit j H7 (C6.ex e7) hj ?_
        exact ((((((Ch.of_ex (e1.trans e2)).trans (Mc.la c3)).trans (Ch.of_ex e4)).trans (Ch.of_ex e5)).trans (Mc.lc c6)).trans (Ch.of_ex e7))
end WP
set_option Elab.async false
set_option linter.all false
set_option maxRecDepth 100000
set_option maxHeartbeats 4000000
/-! things and subjects -/
namespace WP
open PySem PySem.Spec PyProof.Rows L2 Evl SX
variable {w : World} {K : PySem.W.Frag} {mg : Str → Option Value} {base : Heap}
section
variable {H H' : Hp} {o : Ob} {fl : List (List Nat)} {k ec : Nat} {te : TE} {σ : L2.St} {E : XK} {Q : VK}
theorem Ob.C.up (C : o.C K H 0 fl k) : o.C K H 1 fl k := by
  obtain ⟨cs, c1, c2⟩ := C.p.c
  exact ⟨⟨C.p.r, C.p.l, C.p.m, C.p.f, ⟨cs, c1, by omega⟩, C.p.g, C.p.k, C.p.w, ⟨C.p.b.1, Nat.le_refl _, C.p.b.2.2⟩, C.p.ne⟩, C.l, C.nl, C.s, C.g, C.i⟩
theorem c_name (T : TT K mg) (C : o.C K H ec fl k) (h : Ev te σ H (.ref o.a)) {n : List Nat} {r : List (List Nat)} (hd : o.ws.drop k = n :: r) (hn : isNm n = true) (q : ∀ H', o.M H H' → o.C K H' ec fl (k + 1) → o.ws.drop (k + 1) = r → Q (.str (S n)) H') :
    tM (He.ga K "Line") "take_name" (sp_Line_take_name (K := K)) E te tNil σ H Q := by
  obtain ⟨t1, t2⟩ := tk_drop hd
  refine go_m h C.l.ob rfl ea_nil fun H1 e1 => ⟨_, rfl, o.a, o.dx, o.wl, o.ws, k, rfl, C.l.ex e1, by rw [t1]; exact hn, fun H2 c2 l2 => ?_⟩
  rw [t1]
  exact q H2 ((Ch.of_ex e1).trans (Mc.la c2)) ((C.ex e1).line c2 l2) t2
theorem c_take (T : TT K mg) (C : o.C K H ec fl k) (h : Ev te σ H (.ref o.a)) {n : List Nat} {r : List (List Nat)} (hd : o.ws.drop k = n :: r) (q : ∀ H', o.M H H' → o.C K H' ec fl (k + 1) → o.ws.drop (k + 1) = r → Q (.str (S n)) H') :
    tM (He.ga K "Line") "take" (sp_Line_take (K := K)) E te tNil σ H Q := by
  obtain ⟨t1, t2⟩ := tk_drop hd
  refine ev_take T h C.l fun H2 c2 l2 => ?_
  rw [t1]
  exact q H2 (Mc.la c2) (C.line c2 l2) t2
theorem c_expect (T : TT K mg) (C : o.C K H ec fl k) (h : Ev te σ H (.ref o.a)) {tw : TE} {n u : List Nat} {r : List (List Nat)} (hw : Ev tw σ H (.str (S u))) (hd : o.ws.drop k = n :: r) (q : n = u → ∀ H', o.M H H' → o.C K H' ec fl (k + 1) → o.ws.drop (k + 1) = r → Q .non H') (q2 : n ≠ u → ∀ H', o.M H H' → Mis K E H') :
    tM (He.ga K "Line") "expect" (sp_Line_expect (K := K)) E te (tCons tw tNil) σ H Q := by
  obtain ⟨t1, t2⟩ := tk_drop hd
  refine go_m h C.l.ob rfl (ea_cons hw ea_nil) fun H1 e1 => ⟨_, _, rfl, o.a, o.dx, o.wl, o.ws, k, u, rfl, rfl, C.l.ex e1, fun e H2 c2 l2 => q (by rw [← t1]; exact e) H2 ((Ch.of_ex e1).trans (Mc.la c2)) ((C.ex e1).line c2 l2) t2, fun e H2 c2 => q2 (by rw [← t1]; exact e) H2 ((Ch.of_ex e1).trans (Mc.la c2))⟩
/-- the same where the sign stands -/
theorem c_expects (T : TT K mg) (C : o.C K H ec fl k) (h : Ev te σ H (.ref o.a)) {tw : TE} {u : List Nat} {r : List (List Nat)} (hw : Ev tw σ H (.str (S u))) (hd : o.ws.drop k = u :: r) (q : ∀ H', o.M H H' → o.C K H' ec fl (k + 1) → o.ws.drop (k + 1) = r → Q .non H') :
    tM (He.ga K "Line") "expect" (sp_Line_expect (K := K)) E te (tCons tw tNil) σ H Q := c_expect T C h hw hd (fun _ => q) fun h => absurd rfl h
/-- the token that comes next -/
theorem c_peek (T : TT K mg) (C : o.C K H ec fl k) (h : Ev te σ H (.ref o.a)) {r : List (List Nat)} (hd : o.ws.drop k = r) : Ev (tM (He.ga K "Line") "peek" (sp_Line_peek (K := K)) E te tNil) σ H (.str (S (r.head?.getD []))) := by
  have e : tk o.ws k = r.head?.getD [] := by
    rw [← hd, List.head?_drop]
    rfl
  rw [← e]
  exact ev_peek T h C.l
theorem c_item (T : TT K mg) (C : o.C K H ec fl k) (h : Ev te σ H (.ref o.sa)) : Ev (tFld K te "item") σ H o.it := ev_fld h C.s (c_Scope T) (n_Scope_item T) rfl
theorem c_given (T : TT K mg) (C : o.C K H ec fl k) (h : Ev te σ H (.ref o.sa)) : Ev (tFld K te "given") σ H (.ref o.gv) := ev_fld h C.s (c_Scope T) (n_Scope_given T) rfl
theorem c_men (T : TT K mg) (C : o.C K H ec fl k) (h : Ev te σ H (.ref o.sa)) : Ev (tFld K te "mentions") σ H (.ref o.A.ma) := ev_fld h C.s (c_Scope T) (n_Scope_mentions T) rfl
end
/-! ### calls -/
def lp : List Nat := [40]
def rp : List Nat := [41]
def lb : List Nat := [91]
def rb : List Nat := [93]
def sp_read_call : Sp := sp2 fun ln sc H Q E => ∃ (o : Ob) (fl : List (List Nat)) (k : Nat) (n : List Nat) (vs : List V) (rest : List (List Nat)), ln = .ref o.a ∧ sc = .ref o.sa ∧ o.C K H 0 fl k ∧ isNm n = true ∧
  o.ws.drop k = n :: [40] :: (ctoks vs ++ [41] :: rest) ∧ vs.length ≤ 3 ∧ (∀ v ∈ vs, isK v = true) ∧
  (o.it = .non → ∀ j H', o.C K H' 1 fl j → o.ws.drop j = rest → o.M H H' → Q (.str (S (callT n vs))) H') ∧ (o.it ≠ .non → ∀ H', o.M H H' → Mis K E H')
theorem o_read_call (T : TT K mg) : CalX PW w K mg base (CXM w) 6 "read_call" (sp_read_call (K := K)) := by
  obtain ⟨fd, F⟩ := f_read_call T
  refine ⟨_, mk2 F (b_read_call F) sc_read_call fun a b cdv A outer s H Q E hr h => ⟨_, (pss_cons (ps_set (i := 2) sc_read_call.nd rfl (Or.inl rfl) (wm0 (o_Line_take_name T) hr (by decide) pass0 (pv 0)))
        (pss_cons (ps_expr (wm (o_Line_expect T) hr (by decide) passE (pv 0) (pa_cons pe_str pa_nil)))
        (pss_one (ps_ret (wc (o_call_behind T) hr (by decide) passE (pa_cons (pv 0) (pa_cons (pv 1) (pa_cons (pv 2) pa_nil)))))))), ?_⟩, g_read_call T, F.kp⟩
  obtain ⟨o, fl, k, n, vs, rest, rfl, rfl, C, hn, hd, h3, hk, q1, q2⟩ := h
  refine c_name T C (ev_var (v := .ref o.a) rfl) hd hn fun H1 m1 C1 d1 => ?_
  dsimp only [gName]
  refine c_expects T C1 (ev_var (v := .ref o.a) rfl) (ev_c (v := .str (S [40]))) d1 fun H2 m2 C2 d2 => ?_
  dsimp only
  exact go_f (ea_cons (ev_var rfl) (ea_cons (ev_var rfl) (ea_cons (ev_var rfl) ea_nil))) fun H3 e3 => ⟨_, _, _, rfl, o, fl, _, n, vs, rest, rfl, rfl, rfl, C2.ex e3, hn, d2, h3, hk, fun hi j H4 C4 d4 m4 => q1 hi j H4 C4 d4 (((m1.trans m2).trans (Ch.of_ex e3)).trans m4), fun hi H4 m4 => q2 hi H4 (((m1.trans m2).trans (Ch.of_ex e3)).trans m4)⟩
/-! ### things -/
inductive Th where
  | call (n : List Nat) (vs : List V)
  | name (n : List Nat)
def Th.toks : Th → List (List Nat)
  | .call n vs => n :: [40] :: (ctoks vs ++ [[41]])
  | .name n => [n]
def Th.wf : Th → Prop
  | .call n vs => isNm n = true ∧ vs.length ≤ 3 ∧ ∀ v ∈ vs, isK v = true
  | .name n => isNm n = true
def seen (kvs : List (Key × V)) (n : List Nat) : Prop := (valV kvs (.inr (S n))).isSome = true
def Th.ok (it : V) (kvs : List (Key × V)) : Th → Prop
  | .call _ _ => it = .non
  | .name n => it = .non ∧ seen kvs n
def sp_read_thing : Sp := sp2 fun ln sc H Q E => ∃ (o : Ob) (fl : List (List Nat)) (k : Nat) (t : Th) (rest : List (List Nat)), ln = .ref o.a ∧ sc = .ref o.sa ∧ o.C K H 0 fl k ∧ t.wf ∧ o.ws.drop k = t.toks ++ rest ∧ rest.head? ≠ some [40] ∧
  (t.ok o.it o.kvs → ∀ (p : Addr) j H', o.C K H' 1 fl j → o.ws.drop j = rest → o.M H H' → Q (.ref p) H') ∧ (¬ t.ok o.it o.kvs → ∀ H', o.M H H' → Mis K E H')
theorem ev_dnotin {ty td : TE} {σ : L2.St} {H : Hp} {d : Addr} {kvs : List (Key × V)} {n : List Nat} (hy : Ev ty σ H (.str (S n))) (hx : Ev td σ H (.ref d)) (hd : H d = some (.dK kvs)) : Ev (tDNotIn ty td) σ H (.bl (!(valV kvs (.inr (S n))).isSome)) := fun H1 e1 Q q =>
  hy H1 e1 _ fun H2 e2 => hx H2 (e1.trans e2) _ fun H3 e3 => ⟨d, _, rfl, DGet.k (k := .inr (S n)) (((e1.trans e2).trans e3) _ _ hd), q H3 (e2.trans e3)⟩
theorem ev_dget {ty td : TE} {σ : L2.St} {H : Hp} {d : Addr} {kvs : List (Key × V)} {n : List Nat} {v : V} (hy : Ev ty σ H (.str (S n))) (hx : Ev td σ H (.ref d)) (hd : H d = some (.dK kvs)) (hv : valV kvs (.inr (S n)) = some v) : Ev (tDGet td ty) σ H v := fun H1 e1 Q q =>
  hx H1 e1 _ fun H2 e2 => hy H2 (e1.trans e2) _ fun H3 e3 => ⟨d, v, rfl, by rw [← hv]; exact DGet.k (k := .inr (S n)) (((e1.trans e2).trans e3) _ _ hd), q H3 (e2.trans e3)⟩
theorem isNm_ne {n : List Nat} (h : isNm n = true) {c : Nat} (hc : low c = false) {r : List Nat} : n ≠ c :: r := fun e => by
  subst e
  unfold isNm at h
  simp only [Bool.and_eq_true] at h
  have := h.1.2
  rw [List.all_cons, hc] at this
  cases this
theorem o_read_thing (T : TT K mg) : CalX PW w K mg base (CXM w) 6 "read_thing" (sp_read_thing (K := K)) := by
  obtain ⟨fd, F⟩ := f_read_thing T
  refine ⟨_, mk2 F (b_read_thing F) sc_read_thing fun a b cdv A outer s H Q E hr h => ⟨_, (have hu := hu_of hr; (pss_cons (ps_set (i := 2) sc_read_thing.nd rfl (Or.inl rfl) (wm0 (o_Line_take_name T) hr (by decide) pass0 (pv 0)))
        (pss_cons (ps_if (pt_cmpR op_eq (wm0 (o_Line_peek T) hr (by decide) pass0 (pv 0)) pe_str (nomark _)) (pss_cons (ps_expr (wm0 (o_Line_take T) hr (by decide) pass0 (pv 0)))
        (pss_one (ps_ret (pe_tup (pa_cons pe_str (pa_cons (wc (o_call_behind T) hr (by decide) passE (pa_cons (pv 0) (pa_cons (pv 1) (pa_cons (pv 2) pa_nil)))) pa_nil)))))) pss_nil)
        (pss_cons (ps_if (L2.PW.pt (pw_or (pt_cmpR op_notN (pe_fld (pv 1) rfl) pe_non (nomark _)) (pw_or1 (pt_cmp (pc_dnotin hu (pv 2) (pe_fld (pv 1) rfl)))))) (pss_one (ps_misread T)) pss_nil)
        (pss_one (ps_ret (pe_tup (pa_cons pe_str (pa_cons (pv 2) (pa_cons (pe_dget hu (pe_fld (pv 1) rfl) (pv 2) (fun _ _ => rfl)) pa_nil)))))))))), ?_⟩, g_read_thing T, F.kp⟩
  obtain ⟨o, fl, k, t, rest, rfl, rfl, C, hw, hd, hr40, q1, q2⟩ := h
  cases t with
  | call n vs =>
    obtain ⟨hn, h3, hk⟩ := hw
    have hd' : o.ws.drop k = n :: [40] :: (ctoks vs ++ [41] :: rest) := by
      rw [hd]
      show n :: [40] :: ((ctoks vs ++ [[41]]) ++ rest) = _
      rw [List.append_assoc]
      rfl
    refine c_name T C (ev_var (v := .ref o.a) rfl) hd' hn fun H1 m1 C1 d1 => ?_
    dsimp only [gName]
    refine q_when (b := true) (et_is (et_test (ev_op (c_peek T C1 (ev_var (v := .ref o.a) rfl) d1) (ev_c (v := .str (S [40]))) (rv_eq rfl))) ?_) (fun _ H2 e2 => ?_) fun hb => (Bool.false_ne_true hb.symm).elim
    · rw [dec_S]
      rfl
    · refine c_take T (C1.ex e2) (ev_var (v := .ref o.a) rfl) d1 fun H3 m3 C3 d3 => ?_
      dsimp only
      refine go_f (ea_cons (ev_var rfl) (ea_cons (ev_var rfl) (ea_cons (ev_var rfl) ea_nil))) fun H4 e4 => ⟨_, _, _, rfl, o, fl, _, n, vs, rest, rfl, rfl, rfl, C3.ex e4, hn, d3, h3, hk, fun hi j H5 C5 d5 m5 => ⟨show 2 ≤ sizeLine by decide, fun p hp => ?_⟩, fun hi H5 m5 => q2 hi H5 ((((m1.trans (Ch.of_ex e2)).trans m3).trans (Ch.of_ex e4)).trans m5)⟩
      exact q1 hi p j _ (C5.ex (Ex.new hp)) d5 (((((m1.trans (Ch.of_ex e2)).trans m3).trans (Ch.of_ex e4)).trans m5).trans (Ch.of_ex (Ex.new hp)))
  | name n =>
    have hd' : o.ws.drop k = n :: rest := hd
    refine c_name T C (ev_var (v := .ref o.a) rfl) hd' hw fun H1 m1 C1 d1 => ?_
    dsimp only [gName]
    refine q_when (b := false) (et_is (et_test (ev_op (c_peek T C1 (ev_var (v := .ref o.a) rfl) d1) (ev_c (v := .str (S [40]))) (rv_eq rfl))) ?_) (fun hb => (Bool.false_ne_true hb).elim) fun _ H2 e2 => ?_
    · rw [dec_S]
      refine decide_eq_false fun h => ?_
      cases rest with
      | nil => cases h
      | cons x r => exact hr40 (congrArg some h)
    · have C2 := C1.ex e2
      refine q_when (et_or (et_test (ev_op (c_item T C2 (ev_var (v := .ref o.sa) rfl)) ev_c rv_notN)) fun _ => et_B (ev_dnotin (ev_var (v := .str (S n)) rfl) (c_given T C2 (ev_var (v := .ref o.sa) rfl)) C2.g)) (fun hb H3 e3 => ?_) fun hb H3 e3 => ?_
      · refine q2 (fun z => ?_) H3 ((m1.trans (Ch.of_ex e2)).trans (Ch.of_ex e3))
        rw [z.1, z.2] at hb
        exact absurd hb (by decide)
      · have hb2 : o.it = .non ∧ seen o.kvs n := by
          rw [Bool.or_eq_false_iff] at hb
          refine ⟨by simpa using hb.1, by simpa [seen] using hb.2⟩
        obtain ⟨v, hv⟩ := Option.isSome_iff_exists.mp hb2.2
        have C3 := C2.ex e3
        refine s_retU (eu_tup (ea_cons ev_c (ea_cons (ev_var rfl) (ea_cons (ev_dget (ev_var (v := .str (S n)) rfl) (c_given T C3 (ev_var (v := .ref o.sa) rfl)) C3.g hv) ea_nil))) (show 3 ≤ 100000 by decide)) fun p H4 hp e4 h4 => ?_
        exact q1 hb2 p _ _ (Ob.C.up (C3.ex e4)) d1 (((m1.trans (Ch.of_ex e2)).trans (Ch.of_ex e3)).trans (Ch.of_ex e4))
end WP
set_option Elab.async false
set_option linter.all false
set_option maxRecDepth 100000
set_option maxHeartbeats 4000000
/-! subjects, comparisons, atoms -/
namespace WP
open PySem PySem.Spec PyProof.Rows L2 Evl SX
variable {w : World} {K : PySem.W.Frag} {mg : Str → Option Value} {base : Heap}
/-- a subject: a thing, perhaps its first item -/
inductive Su where
  | th (t : Th)
  | it0 (n : List Nat)
def Su.toks : Su → List (List Nat)
  | .th t => t.toks
  | .it0 n => [n, [91], [48], [93]]
def Su.wf : Su → Prop
  | .th t => t.wf
  | .it0 n => isNm n = true
def Th.hd : Th → List Nat | .call n _ => n | .name n => n
def Su.ok (it : V) (kvs : List (Key × V)) : Su → Prop
  | .th (.call _ _) => it = .non
  | .th (.name n) => if it = .non then seen kvs n else it = .str (S n)
  | .it0 n => it = .non ∧ seen kvs n
/-- what a subject leaves that is read as the loop's name though more stands behind it -/
def stub (r : List (List Nat)) : Prop := r.head? = some [40] ∨ r.head? = some [91]
def sp_read_subject : Sp := sp2 fun ln sc H Q E => ∃ (o : Ob) (fl : List (List Nat)) (k : Nat) (t : Su) (rest : List (List Nat)), ln = .ref o.a ∧ sc = .ref o.sa ∧ o.C K H 0 fl k ∧ t.wf ∧ o.ws.drop k = t.toks ++ rest ∧ ¬ stub rest ∧
  (t.ok o.it o.kvs → ∀ (p : Addr) j H', o.C K H' 1 fl j → o.ws.drop j = rest → o.M H H' → Q (.ref p) H') ∧
  (¬ t.ok o.it o.kvs → (∀ H', o.M H H' → Mis K E H') ∧ ∀ (p : Addr) j r H', o.C K H' 1 fl j → o.ws.drop j = r → stub r → o.M H H' → Q (.ref p) H')
theorem o_read_subject (T : TT K mg) : CalX PW w K mg base (CXM w) 7 "read_subject" (sp_read_subject (K := K)) := by
  obtain ⟨fd, F⟩ := f_read_subject T
  refine ⟨_, mk2 F (b_read_subject F) sc_read_subject fun a b cdv A outer s H Q E hr h => ⟨_, (pss_cons (ps_if (pt_cmpR op_notN (pe_fld (pv 1) rfl) pe_non (nomark _)) (pss_cons (ps_expr (wm (o_Line_expect T) hr (by decide) passE (pv 0) (pa_cons (pe_fld (pv 1) rfl) pa_nil)))
        (pss_one (ps_ret (pe_tup (pa_cons pe_str pa_nil))))) pss_nil)
        (pss_cons (ps_set (i := 2) sc_read_subject.nd rfl (Or.inl rfl) (wc (o_read_thing T) hr (by decide) passE (pa_cons (pv 0) (pa_cons (pv 1) pa_nil))))
        (pss_cons (ps_if (pt_cmpR op_ne (wm0 (o_Line_peek T) hr (by decide) pass0 (pv 0)) pe_str (nomark _)) (pss_one (ps_ret (pe_tup (pa_cons pe_str (pa_cons (pv 2) pa_nil))))) pss_nil)
        (pss_cons (ps_expr (wm0 (o_Line_take T) hr (by decide) pass0 (pv 0)))
        (pss_cons (ps_set (i := 3) sc_read_subject.nd rfl (Or.inl rfl) (wm (o_Line_take_number T) hr (by decide) pass0 (pv 0) (pa_cons (pe_un un_neg pe_int) (pa_cons pe_int pa_nil))))
        (pss_cons (ps_expr (wm (o_Line_expect T) hr (by decide) passE (pv 0) (pa_cons pe_str pa_nil)))
        (pss_one (ps_ret (pe_tup (pa_cons pe_str (pa_cons (pv 2) (pa_cons (pv 3) pa_nil)))))))))))), ?_⟩, g_read_subject T, F.kp⟩
  obtain ⟨o, fl, k, t, rest, rfl, rfl, C, hw, hd, hns, q1, q2⟩ := h
  refine q_when (et_test (ev_op (c_item T C (ev_var (v := .ref o.sa) rfl)) ev_c rv_notN)) (fun hb H1 e1 => ?_) fun hb H1 e1 => ?_
  · obtain ⟨l, hl, hit⟩ : ∃ l, isNm l = true ∧ o.it = .str (S l) := by
      rcases C.i with h | h
      · rw [h] at hb
        exact absurd hb (by decide)
      · exact h
    have hn0 : o.it ≠ .non := by rw [hit]; intro z; cases z
    have C1 := C.ex e1
    obtain ⟨n, r, hd1, hnr⟩ : ∃ n r, o.ws.drop k = n :: r ∧ ((n = l → t.ok o.it o.kvs ∧ r = rest ∨ ¬ t.ok o.it o.kvs ∧ stub r) ∧ (n ≠ l → ¬ t.ok o.it o.kvs)) := by
      cases t with
      | th t =>
        cases t with
        | call n vs => exact ⟨n, [40] :: (ctoks vs ++ [[41]] ++ rest), (by rw [hd]; rfl), fun _ => .inr ⟨fun h => hn0 h, .inl rfl⟩, fun _ h => hn0 h⟩
        | name n =>
          refine ⟨n, rest, (by rw [hd]; rfl), fun e => .inl ⟨?_, rfl⟩, fun e h => ?_⟩
          · show if o.it = .non then _ else _
            rw [if_neg hn0, hit, e]
          · have h : if o.it = .non then seen o.kvs n else o.it = .str (S n) := h
            rw [if_neg hn0, hit] at h
            exact e (S_inj (V.str.inj h)).symm
      | it0 n => exact ⟨n, [91] :: [48] :: [93] :: rest, (by rw [hd]; rfl), fun _ => .inr ⟨fun h => hn0 h.1, .inr rfl⟩, fun _ h => hn0 h.1⟩
    refine c_expect T C1 (ev_var (v := .ref o.a) rfl) (ev_is (c_item T C1 (ev_var (v := .ref o.sa) rfl)) hit) hd1 (fun e H2 m2 C2 d2 => ?_) fun e H2 m2 => (q2 (hnr.2 e)).1 H2 ((Ch.of_ex e1).trans m2)
    dsimp only
    refine s_retU (eu_tup (ea_cons ev_c ea_nil) (show 1 ≤ 100000 by decide)) fun p H3 hp e3 h3 => ?_
    have m3 := ((Ch.of_ex e1).trans m2).trans (Ch.of_ex (M := Mc o.A o.a) e3)
    rcases hnr.1 e with ⟨h1, h2⟩ | ⟨h1, h2⟩
    · exact q1 h1 p _ _ (Ob.C.up (C2.ex e3)) (by rw [d2, h2]) m3
    · exact (q2 h1).2 p _ r _ (Ob.C.up (C2.ex e3)) d2 h2 m3
  · have hit : o.it = .non := by simpa using hb
    have C1 := C.ex e1
    -- the thing that is read
    have go : ∀ (t' : Th) (r' : List (List Nat)) (Q' : VK), t'.wf → o.ws.drop k = t'.toks ++ r' → r'.head? ≠ some [40] → (t'.ok o.it o.kvs ↔ t.ok o.it o.kvs) → (∀ (p : Addr) j H2, o.C K H2 1 fl j → o.ws.drop j = r' → o.M H1 H2 → t.ok o.it o.kvs → Q' (.ref p) H2) →
        tF (sp_read_thing (K := K)) E (tCons (tVar 0) (tCons (tVar 1) tNil)) [some (.ref o.a), some (.ref o.sa), none, none] H1 Q' := fun t' r' Q' h1 h2 h3 h4 q =>
      go_f (ea_cons (ev_var rfl) (ea_cons (ev_var rfl) ea_nil)) fun H2 e2 => ⟨_, _, rfl, o, fl, k, t', r', rfl, rfl, C1.ex e2, h1, h2, h3, fun h p j H3 C3 d3 m3 => q p j H3 C3 d3 ((Ch.of_ex e2).trans m3) (h4.mp h), fun h H3 m3 => (q2 (fun z => h (h4.mpr z))).1 H3 (((Ch.of_ex e1).trans (Ch.of_ex e2)).trans m3)⟩
    cases t with
    | th t =>
      have hok : t.ok o.it o.kvs ↔ (Su.th t).ok o.it o.kvs := by
        cases t with
        | call n vs => exact Iff.rfl
        | name n =>
          show (o.it = .non ∧ seen o.kvs n) ↔ (if o.it = .non then seen o.kvs n else _)
          rw [if_pos hit]
          exact ⟨fun h => h.2, fun h => ⟨hit, h⟩⟩
      refine go t rest _ hw (by rw [hd]; rfl) (fun h => hns (.inl h)) hok fun p j H2 C2 d2 m2 hk => ?_
      dsimp only [gName]
      refine q_when (b := true) (et_is (et_test (ev_op (c_peek T C2 (ev_var (v := .ref o.a) rfl) d2) (ev_c (v := .str (S [91]))) (rv_ne rfl))) ?_) (fun _ H3 e3 => ?_) fun hb => (Bool.false_ne_true hb.symm).elim
      · rw [dec_S]
        have : decide (rest.head?.getD [] = [91]) = false := decide_eq_false fun h => by
          cases rest with
          | nil => cases h
          | cons x r => exact hns (.inr (congrArg some h))
        rw [this]
        rfl
      · refine s_retU (eu_tup (ea_cons ev_c (ea_cons (ev_var (v := .ref p) rfl) ea_nil)) (show 2 ≤ 100000 by decide)) fun p' H4 hp e4 h4 => q1 hk p' j _ ((C2.ex e3).ex e4) d2 ?_
        exact (((Ch.of_ex e1).trans m2).trans (Ch.of_ex e3)).trans (Ch.of_ex e4)
    | it0 n =>
      refine go (.name n) ([91] :: [48] :: [93] :: rest) _ hw (by rw [hd]; rfl) (show some [91] ≠ some [40] by decide) Iff.rfl fun p j H2 C2 d2 m2 hk => ?_
      dsimp only [gName]
      refine q_when (b := false) (et_is (et_test (ev_op (c_peek T C2 (ev_var (v := .ref o.a) rfl) d2) (ev_c (v := .str (S [91]))) (rv_ne rfl))) ?_) (fun hb => (Bool.false_ne_true hb).elim) fun _ H3 e3 => ?_
      · rw [dec_S]
        rfl
      · refine c_take T (C2.ex e3) (ev_var (v := .ref o.a) rfl) d2 fun H4 m4 C4 d4 => ?_
        dsimp only
        obtain ⟨t1, t2⟩ := tk_drop d4
        refine go_m (ev_var (v := .ref o.a) rfl) C4.l.ob rfl (ea_cons (ev_un ev_c ru_neg) (ea_cons ev_c ea_nil)) fun H5 e5 => ⟨_, _, _, rfl, o.a, o.dx, o.wl, o.ws, j + 1, 0, -1, 9, rfl, rfl, rfl, C4.l.ex e5, by decide, t1, by decide, by decide, fun H6 c6 l6 => ?_⟩
        dsimp only [gName]
        have C6 := (C4.ex e5).line c6 l6
        refine c_expects T C6 (ev_var (v := .ref o.a) rfl) (ev_c (v := .str (S [93]))) t2 fun H7 m7 C7 d7 => ?_
        dsimp only
        refine s_retU (eu_tup (ea_cons ev_c (ea_cons (ev_var (v := .ref p) rfl) (ea_cons (ev_var rfl) ea_nil))) (show 3 ≤ 100000 by decide)) fun p' H8 hp e8 h8 => q1 hk p' _ _ (C7.ex e8) d7 ?_
        exact (((((((Ch.of_ex e1).trans m2).trans (Ch.of_ex e3)).trans m4).trans (Ch.of_ex e5)).trans (Mc.la c6)).trans m7).trans (Ch.of_ex e8)
end WP
set_option Elab.async false
set_option linter.all false
set_option maxRecDepth 100000
set_option maxHeartbeats 4000000
/-! atoms and conditions -/
namespace WP
open PySem PySem.Spec PyProof.Rows L2 Evl SX
variable {w : World} {K : PySem.W.Frag} {mg : Str → Option Value} {base : Heap}
inductive At where
  | on (f : List Nat)
  | len (n : List Nat)
  | inn (t : Th)
  | su (t : Su)
  | eq1 (n : List Nat)
  | wd (n : List Nat)
def At.toks : At → List (List Nat)
  | .on f => [[111, 110], f]
  | .len n => [[108, 101, 110], [40], n, [41], [61, 61], [49]]
  | .inn t => [50] :: [105, 110] :: t.toks
  | .su t => t.toks
  | .eq1 n => [n, [61, 61], [49]]
  | .wd n => [n, [105, 115], [119, 111, 114, 100]]
def At.wf : At → Prop
  | .on f => isNm f = true
  | .len n => isNm n = true
  | .inn t => t.wf
  | .su t => t.wf
  | .eq1 n => isNm n = true
  | .wd n => isNm n = true
def At.ok (it : V) (kvs : List (Key × V)) (fl : List (List Nat)) : At → Prop
  | .on f => f ∈ fl ∨ fl.length < 3
  | .len n => it = .non ∧ seen kvs n
  | .inn t => t.ok it kvs
  | .su t => t.ok it kvs
  | .eq1 n => (Su.th (.name n)).ok it kvs
  | .wd n => (Su.th (.name n)).ok it kvs
def flA (fl : List (List Nat)) (f : List Nat) : List (List Nat) := if f ∈ fl then fl else fl ++ [f]
def At.fl (fl : List (List Nat)) : At → List (List Nat)
  | .on f => flA fl f
  | _ => fl
/-- what may follow a condition: nothing, or a comma -/
def Sep (r : List (List Nat)) : Prop := r = [] ∨ ∃ x, r = [44] :: x
theorem Sep.hd {r : List (List Nat)} (h : Sep r) : r.head?.getD [] = [] ∨ r.head?.getD [] = [44] := by
  rcases h with h | ⟨x, h⟩ <;> rw [h]
  · exact .inl rfl
  · exact .inr rfl
theorem Sep.ns {r : List (List Nat)} (h : Sep r) : ¬ stub r := by
  rintro (e | e) <;> rcases h with h | ⟨x, h⟩ <;> rw [h] at e <;> cases e
/-- a line's part is read: normally where it is fine, else refused, or more is left behind it -/
def Reads (K : PySem.W.Frag) (o : Ob) (H : Hp) (fl fl' : List (List Nat)) (rest : List (List Nat)) (ok : Prop) (Q : VK) (E : XK) : Prop :=
  (ok → ∀ (p : Addr) j H', o.C K H' 1 fl' j → o.ws.drop j = rest → o.M H H' → Q (.ref p) H') ∧
  (¬ ok → (∀ H', o.M H H' → Mis K E H') ∧ ∀ (p : Addr) j r H', o.C K H' 1 fl j → o.ws.drop j = r → stub r → o.M H H' → Q (.ref p) H')
def sp_read_comparison : Sp := sp2 fun ln su H Q E => ∃ (o : Ob) (fl : List (List Nat)) (k : Nat) (p : Addr) (rest : List (List Nat)), ln = .ref o.a ∧ su = .ref p ∧ o.C K H 1 fl k ∧ o.ws.drop k = [61, 61] :: [49] :: rest ∧ ∀ (p : Addr) j H', o.C K H' 1 fl j → o.ws.drop j = rest → o.M H H' → Q (.ref p) H'
def sp_read_length : Sp := sp2 fun ln sc H Q E => ∃ (o : Ob) (fl : List (List Nat)) (k : Nat) (n : List Nat) (rest : List (List Nat)), ln = .ref o.a ∧ sc = .ref o.sa ∧ o.C K H 0 fl k ∧ isNm n = true ∧ o.ws.drop k = (At.len n).toks ++ rest ∧ Reads K o H fl fl rest (o.it = .non ∧ seen o.kvs n) Q E
def sp_read_atom : Sp := sp2 fun ln sc H Q E => ∃ (o : Ob) (fl : List (List Nat)) (k : Nat) (t : At) (rest : List (List Nat)), ln = .ref o.a ∧ sc = .ref o.sa ∧ o.C K H 0 fl k ∧ t.wf ∧ o.ws.drop k = t.toks ++ rest ∧ Sep rest ∧ Reads K o H fl (t.fl fl) rest (t.ok o.it o.kvs fl) Q E
theorem kT1 : kTxt (.int 1) = [49] := by decide
theorem kT2 : kTxt (.int 2) = [50] := by decide
theorem o_read_comparison (T : TT K mg) : CalX PW w K mg base (CXM w) 4 "read_comparison" (sp_read_comparison (K := K)) := by
  obtain ⟨fd, F⟩ := f_read_comparison T
  refine ⟨_, mk2 F (b_read_comparison F) sc_read_comparison fun a b cdv A outer s H Q E hr h => ⟨_, (pss_cons (ps_set (i := 2) sc_read_comparison.nd rfl (Or.inl rfl) (wm0 (o_Line_take T) hr (by decide) pass0 (pv 0)))
        (pss_cons (ps_set (i := 3) sc_read_comparison.nd rfl (Or.inl rfl) (pe_cmpR op_in_seq (pv 2) (pe_tup (pa_cons pe_str (pa_cons pe_str pa_nil))) (by with_unfolding_all rfl)))
        (pss_cons (ps_if (L2.PW.pt (pw_and (pt_val (pv 3)) (pw_and1 (pt_cmpR op_eq (wm0 (o_Line_peek T) hr (by decide) pass0 (pv 0)) pe_str (nomark _))))) (pss_cons ps_never
        (pss_one ps_never)) pss_nil)
        (pss_cons (ps_set (i := 4) sc_read_comparison.nd rfl (Or.inl rfl) (wm0 (o_Line_take_constant T) hr (by decide) pass0 (pv 0)))
        (pss_cons (ps_if (L2.PW.pt (pw_and (pt_not (pt_val (pv 3))) (pw_and1 (pt_not (pt_val (wc (o_is_number T) hr (by decide) pass0 (pa_cons (pv 4) pa_nil))))))) (pss_one ps_never) pss_nil)
        (pss_one (ps_ret (pe_tup (pa_cons (pv 2) (pa_cons (pv 1) (pa_cons (pv 4) pa_nil))))))))))), ?_⟩, g_read_comparison T, F.kp⟩
  obtain ⟨o, fl, k, p, rest, rfl, rfl, C, hd, q⟩ := h
  refine c_take T C (ev_var (v := .ref o.a) rfl) hd fun H1 m1 C1 d1 => ?_
  dsimp only [gName]
  refine q_asg (v := .bl true) (ev_is (ev_inU (ev_var (v := .str (S [61, 61])) rfl) (eu_tup (ea_cons ev_c (ea_cons ev_c ea_nil)) (show 2 ≤ 100000 by decide)) rfl rfl) (by decide)) fun H2 e2 => ?_
  have C2 := C1.ex e2
  refine q_when (b := false) (et_is (et_and (a := true) (b := false) (et_B (ev_var rfl)) fun _ => et_is (et_test (ev_op (c_peek T C2 (ev_var (v := .ref o.a) rfl) d1) (ev_c (v := .str (S [91]))) (rv_eq rfl))) (by rw [dec_S]; exact decide_eq_false (show [49] ≠ [91] by decide))) rfl) (fun hb => (Bool.false_ne_true hb).elim) fun _ H3 e3 => ?_
  have C3 := C2.ex e3
  obtain ⟨t1, t2⟩ := tk_drop d1
  refine go_m (ev_var (v := .ref o.a) rfl) C3.l.ob rfl ea_nil fun H4 e4 => ⟨_, rfl, o.a, o.dx, o.wl, o.ws, k + 1, .int 1, rfl, C3.l.ex e4, by rw [t1, kT1], by decide, fun H5 c5 l5 => ?_⟩
  have C5 := (C3.ex e4).line c5 l5
  dsimp only [gName]
  refine q_when (b := false) (et_is (et_and (a := false) (b := true) (et_is (et_not (et_B (ev_var (v := .bl true) rfl))) rfl) fun h => (Bool.false_ne_true h).elim) rfl) (fun hb => (Bool.false_ne_true hb).elim) fun _ H6 e6 => ?_
  refine s_retU (eu_tup (ea_cons (ev_var rfl) (ea_cons (ev_var (v := .ref p) rfl) (ea_cons (ev_var rfl) ea_nil))) (show 3 ≤ 100000 by decide)) fun p' H7 hp e7 h7 => q p' _ _ ((C5.ex e6).ex e7) t2 ?_
  exact (((((m1.trans (Ch.of_ex e2)).trans (Ch.of_ex e3)).trans (Ch.of_ex e4)).trans (Mc.la c5)).trans (Ch.of_ex e6)).trans (Ch.of_ex e7)
theorem o_read_length (T : TT K mg) : CalX PW w K mg base (CXM w) 7 "read_length" (sp_read_length (K := K)) := by
  obtain ⟨fd, F⟩ := f_read_length T
  refine ⟨_, mk2 F (b_read_length F) sc_read_length fun a b cdv A outer s H Q E hr h => ⟨_, (pss_cons (ps_expr (wm (o_Line_expect T) hr (by decide) passE (pv 0) (pa_cons pe_str pa_nil)))
        (pss_cons (ps_expr (wm (o_Line_expect T) hr (by decide) passE (pv 0) (pa_cons pe_str pa_nil)))
        (pss_cons (ps_set (i := 2) sc_read_length.nd rfl (Or.inl rfl) (wc (o_read_thing T) hr (by decide) passE (pa_cons (pv 0) (pa_cons (pv 1) pa_nil))))
        (pss_cons (ps_expr (wm (o_Line_expect T) hr (by decide) passE (pv 0) (pa_cons pe_str pa_nil)))
        (pss_cons (ps_set (i := 3) sc_read_length.nd rfl (Or.inl rfl) (wm0 (o_Line_take T) hr (by decide) pass0 (pv 0)))
        (pss_cons (ps_if (pt_cmpR op_notIn_seq (pv 3) (wgr (g_SIGNS T)) (by with_unfolding_all rfl)) (pss_one ps_never) pss_nil)
        (pss_one (ps_ret (pe_tup (pa_cons pe_str (pa_cons (pv 2) (pa_cons (pv 3) (pa_cons (wm (o_Line_take_number T) hr (by decide) pass0 (pv 0) (pa_cons pe_int (pa_cons pe_int pa_nil))) pa_nil))))))))))))), ?_⟩, g_read_length T, F.kp⟩
  obtain ⟨o, fl, k, n, rest, rfl, rfl, C, hn, hd, q1, q2⟩ := h
  have hd0 : o.ws.drop k = [108, 101, 110] :: [40] :: n :: [41] :: [61, 61] :: [49] :: rest := hd
  refine c_expects T C (ev_var (v := .ref o.a) rfl) (ev_c (v := .str (S [108, 101, 110]))) hd0 fun H1 m1 C1 d1 => ?_
  dsimp only
  refine c_expects T C1 (ev_var (v := .ref o.a) rfl) (ev_c (v := .str (S [40]))) d1 fun H2 m2 C2 d2 => ?_
  dsimp only
  refine go_f (ea_cons (ev_var rfl) (ea_cons (ev_var rfl) ea_nil)) fun H3 e3 => ⟨_, _, rfl, o, fl, _, .name n, [41] :: [61, 61] :: [49] :: rest, rfl, rfl, C2.ex e3, hn, d2, (show some [41] ≠ some [40] by decide), fun hk p j H4 C4 d4 m4 => ?_, fun hk H4 m4 => (q2 hk).1 H4 (((m1.trans m2).trans (Ch.of_ex e3)).trans m4)⟩
  dsimp only [gName]
  refine c_expects T C4 (ev_var (v := .ref o.a) rfl) (ev_c (v := .str (S [41]))) d4 fun H5 m5 C5 d5 => ?_
  dsimp only
  refine c_take T C5 (ev_var (v := .ref o.a) rfl) d5 fun H6 m6 C6 d6 => ?_
  dsimp only [gName]
  refine q_when (b := false) (et_is (et_test (ev_op (ev_var (v := .str (S [61, 61])) rfl) ev_c (rv_niT (t_SIGNS T _) rfl (by rw [List.all_map]; exact List.all_eq_true.mpr fun _ _ => rfl)))) (by rw [inV_str]; decide)) (fun hb => (Bool.false_ne_true hb).elim) fun _ H7 e7 => ?_
  have C7 := C6.ex e7
  obtain ⟨t1, t2⟩ := tk_drop d6
  refine ⟨_, rfl, _, rfl, ?_⟩
  dsimp only [tCons, tNil]
  refine go_m (ev_var (v := .ref o.a) rfl) C7.l.ob rfl (ea_cons ev_c (ea_cons ev_c ea_nil)) fun H8 e8 => ⟨_, _, _, rfl, o.a, o.dx, o.wl, o.ws, _, 1, 0, 20, rfl, rfl, rfl, C7.l.ex e8, by decide, t1, by decide, by decide, fun H9 c9 l9 => ⟨show 4 ≤ sizeLine by decide, fun p' hp' => ?_⟩⟩
  have C9 := (C7.ex e8).line c9 l9
  refine q1 hk p' _ _ (C9.ex (Ex.new hp')) t2 ?_
  exact (((((((((m1.trans m2).trans (Ch.of_ex e3)).trans m4).trans m5).trans m6).trans (Ch.of_ex e7)).trans (Ch.of_ex e8)).trans (Mc.la c9))).trans (Ch.of_ex (Ex.new hp'))
theorem isNm_kw {n : List Nat} (h : isNm n = true) {k : List Nat} (hk : k ∈ kwL) : n ≠ k := fun e => by
  subst e
  unfold isNm at h
  simp only [Bool.and_eq_true, Bool.not_eq_true'] at h
  have := h.2.2
  rw [List.any_eq_false] at this
  exact this n hk (decide_eq_true rfl)
theorem isNm_kt {n : List Nat} (h : isNm n = true) : isKT n = false := by
  have h0 := h
  unfold isNm at h
  simp only [Bool.and_eq_true, Bool.not_eq_true', decide_eq_true_eq, decide_eq_false_iff_not] at h
  obtain ⟨⟨_, h2⟩, h3, _⟩ := h
  cases n with
  | nil => exact absurd rfl h3
  | cons c r =>
    rw [List.all_cons, Bool.and_eq_true] at h2
    have hc : 97 ≤ c ∧ c ≤ 122 := by simpa [low] using h2.1
    unfold isKT
    rw [if_neg (fun h => by have := Option.some.inj h.2.1; omega)]
    rw [Bool.or_eq_false_iff]
    refine ⟨decide_eq_false (isNm_kw h0 (by decide)), ?_⟩
    unfold isNT
    rw [if_neg (fun h => by have := Option.some.inj h; omega)]
    show (decide (1 ≤ (c :: r).length) && decide ((c :: r).length ≤ 30) && (c :: r).all dig && _) = false
    rw [List.all_cons, show dig c = false by simp [dig]; omega]
    simp
theorem o_read_atom (T : TT K mg) : CalX PW w K mg base (CXM w) 8 "read_atom" (sp_read_atom (K := K)) := by
  obtain ⟨fd, F⟩ := f_read_atom T
  refine ⟨_, mk2 F (b_read_atom F) sc_read_atom fun a b cdv A outer s H Q E hr h => ⟨_, (pss_cons (ps_set (i := 2) sc_read_atom.nd rfl (Or.inl rfl) (wm0 (o_Line_peek T) hr (by decide) pass0 (pv 0)))
        (pss_cons (ps_if (pt_cmpR op_eq (pv 2) pe_str (nomark _)) (pss_cons (ps_expr (wm0 (o_Line_take T) hr (by decide) pass0 (pv 0)))
        (pss_cons (ps_set (i := 3) sc_read_atom.nd rfl (Or.inl rfl) (wm0 (o_Line_take_name T) hr (by decide) pass0 (pv 0)))
        (pss_cons (ps_expr (wm (o_Mentions_add_flag T) hr (by decide) passE (pe_fld (pv 1) rfl) (pa_cons (pv 3) pa_nil)))
        (pss_one (ps_ret (pe_tup (pa_cons pe_str (pa_cons (pv 3) pa_nil)))))))) pss_nil)
        (pss_cons (ps_if (pt_cmpR op_eq (pv 2) pe_str (nomark _)) (pss_one (ps_ret (wc (o_read_length T) hr (by decide) passE (pa_cons (pv 0) (pa_cons (pv 1) pa_nil))))) pss_nil)
        (pss_cons (ps_if (pt_val (wc (o_is_constant_text T) hr (by decide) pass0 (pa_cons (pv 2) pa_nil))) (pss_cons (ps_set (i := 4) sc_read_atom.nd rfl (Or.inl rfl) (wm0 (o_Line_take_constant T) hr (by decide) pass0 (pv 0)))
        (pss_cons (ps_expr (wm (o_Line_expect T) hr (by decide) passE (pv 0) (pa_cons pe_str pa_nil)))
        (pss_one (ps_ret (pe_tup (pa_cons pe_str (pa_cons (pv 4) (pa_cons (wc (o_read_thing T) hr (by decide) passE (pa_cons (pv 0) (pa_cons (pv 1) pa_nil))) pa_nil)))))))) pss_nil)
        (pss_cons (ps_set (i := 5) sc_read_atom.nd rfl (Or.inl rfl) (wc (o_read_subject T) hr (by decide) passE (pa_cons (pv 0) (pa_cons (pv 1) pa_nil))))
        (pss_cons (ps_if (pt_cmpR op_in_seq (wm0 (o_Line_peek T) hr (by decide) pass0 (pv 0)) (wgr (g_SIGNS T)) (by with_unfolding_all rfl)) (pss_one (ps_ret (wc (o_read_comparison T) hr (by decide) passE (pa_cons (pv 0) (pa_cons (pv 5) pa_nil))))) pss_nil)
        (pss_cons (ps_if (pt_cmpR op_ne (wm0 (o_Line_peek T) hr (by decide) pass0 (pv 0)) pe_str (nomark _)) (pss_one (ps_ret (pe_tup (pa_cons pe_str (pa_cons (pv 5) pa_nil))))) pss_nil)
        (pss_cons (ps_expr (wm0 (o_Line_take T) hr (by decide) pass0 (pv 0)))
        (pss_cons (ps_set (i := 6) sc_read_atom.nd rfl (Or.inl rfl) (wm0 (o_Line_take T) hr (by decide) pass0 (pv 0)))
        (pss_cons (ps_if (pt_cmpR op_notIn_seq (pv 6) (wgr (g_KINDS T)) (by with_unfolding_all rfl)) (pss_one ps_never) pss_nil)
        (pss_one (ps_ret (pe_tup (pa_cons pe_str (pa_cons (pv 5) (pa_cons (pv 6) pa_nil)))))))))))))))), ?_⟩, g_read_atom T, F.kp⟩
  obtain ⟨o, fl, k, t, rest, rfl, rfl, C, hw, hd, hsep, q1, q2⟩ := h
  have hb0 := C.l.bd
  obtain ⟨x, r0, hx⟩ : ∃ x r0, o.ws.drop k = x :: r0 := by
    rw [hd]
    cases t with
    | su t => cases t with
      | th t => cases t <;> exact ⟨_, _, rfl⟩
      | it0 n => exact ⟨_, _, rfl⟩
    | _ => exact ⟨_, _, rfl⟩
  have hxl : x.length ≤ 200 := by
    have := tk_len hb0 k
    rw [(tk_drop hx).1] at this
    exact this
  refine q_asg (v := .str (S x)) (ev_is (c_peek T C (ev_var (v := .ref o.a) rfl) hx) rfl) fun H1 e1 => ?_
  have C1 := C.ex e1
  have bx : ∀ (u : List Nat), EvT (tTest (tOp rEq (tVar 2) (tC (.str (S u))))) [some (.ref o.a), some (.ref o.sa), some (.str (S x)), none, none, none, none] H1 (decide (x = u)) := fun u => et_is (et_test (ev_op (ev_var rfl) ev_c (rv_eq rfl))) (dec_S _ _)
  have kt : EvT (tB (tF sp_is_constant_text E0 (tCons (tVar 2) tNil))) [some (.ref o.a), some (.ref o.sa), some (.str (S x)), none, none, none, none] H1 (isKT x) := et_B (ev_sp1 (ev_var rfl) fun H2 _ Q' q' => ⟨x, rfl, by omega, q'⟩)
  by_cases hon : ∃ f, t = .on f
  · obtain ⟨f, rfl⟩ := hon
    have hd1 : o.ws.drop k = [111, 110] :: f :: rest := hd
    have ex : x = [111, 110] := (List.cons.inj (hx.symm.trans hd1)).1
    refine q_when (b := true) (et_is (bx [111, 110]) (decide_eq_true ex)) (fun _ H2 e2 => ?_) fun hb => (Bool.false_ne_true hb.symm).elim
    have C2 := C1.ex e2
    refine c_take T C2 (ev_var (v := .ref o.a) rfl) hd1 fun H3 m3 C3 d3 => ?_
    dsimp only
    refine c_name T C3 (ev_var (v := .ref o.a) rfl) d3 hw fun H4 m4 C4 d4 => ?_
    dsimp only [gName]
    have mm := (((Ch.of_ex (M := Mc o.A o.a) (e1.trans e2)).trans m3).trans m4)
    have ret : ∀ (fl' : List (List Nat)) (H5 : Hp), o.C K H5 0 fl' (k + 1 + 1) → o.M H H5 → (f ∈ fl ∨ fl.length < 3) → fl' = flA fl f → tRet (tTup (tCons (tC (.str "on")) (tCons (tVar 3) tNil))) { nx := fun _ H' => Q .non H', rt := Q } [some (.ref o.a), some (.ref o.sa), some (.str (S x)), some (.str (S f)), none, none, none] H5 := fun fl' H5 C5 m5 hok efl => by
      refine s_retU (eu_tup (ea_cons ev_c (ea_cons (ev_var rfl) ea_nil)) (show 2 ≤ 100000 by decide)) fun p H6 hp e6 h6 => q1 hok p _ _ ?_ d4 (m5.trans (Ch.of_ex e6))
      show o.C K H6 1 (flA fl f) _
      rw [← efl]
      exact Ob.C.up (C5.ex e6)
    refine go_m (c_men T C4 (ev_var (v := .ref o.sa) rfl)) C4.p.m rfl (ea_cons (ev_var rfl) ea_nil) fun H5 e5 => ⟨_, _, rfl, o.A.ma, o.A.dm, o.A.fa, o.A.ca, o.A.ga, o.A.ka, fl, f, rfl, e5 _ _ C4.p.m, e5 _ _ C4.p.g.1, C4.p.g.2, rfl, fun hin H6 e6 => ?_, fun hin hl H6 c6 h6 => ?_, fun hin hl H6 e6 => ?_⟩
    · exact ret fl H6 ((C4.ex e5).ex e6) ((mm.trans (Ch.of_ex e5)).trans (Ch.of_ex e6)) (.inl hin) (by rw [flA, if_pos hin])
    · exact ret (fl ++ [f]) H6 ((C4.ex e5).flag c6 h6 (by rw [List.length_append]; simp; omega)) ((mm.trans (Ch.of_ex e5)).trans (Mc.lg c6)) (.inr hl) (by rw [flA, if_neg hin])
    · exact (q2 (fun h => by rcases h with h | h; exact hin h; omega)).1 H6 ((mm.trans (Ch.of_ex e5)).trans (Ch.of_ex e6))
  by_cases hlen : ∃ n, t = .len n
  · obtain ⟨n, rfl⟩ := hlen
    have hd1 : o.ws.drop k = [108, 101, 110] :: [40] :: n :: [41] :: [61, 61] :: [49] :: rest := hd
    have ex : x = [108, 101, 110] := (List.cons.inj (hx.symm.trans hd1)).1
    refine q_when (b := false) (et_is (bx [111, 110]) (decide_eq_false (by rw [ex]; decide))) (fun hb => (Bool.false_ne_true hb).elim) fun _ H2 e2 => ?_
    refine q_when (b := true) (et_is ((bx [108, 101, 110]).mono e2) (decide_eq_true ex)) (fun _ H3 e3 => ?_) fun hb => (Bool.false_ne_true hb.symm).elim
    have mm := Ch.of_ex (M := Mc o.A o.a) ((e1.trans e2).trans e3)
    exact go_f (ea_cons (ev_var rfl) (ea_cons (ev_var rfl) ea_nil)) fun H4 e4 => ⟨_, _, rfl, o, fl, k, n, rest, rfl, rfl, ((C1.ex e2).ex e3).ex e4, hw, hd, fun hk p j H5 C5 d5 m5 => q1 hk p j H5 C5 d5 ((mm.trans (Ch.of_ex e4)).trans m5), fun hk => ⟨fun H5 m5 => (q2 hk).1 H5 ((mm.trans (Ch.of_ex e4)).trans m5), fun p j r H5 C5 d5 hs m5 => (q2 hk).2 p j r H5 C5 d5 hs ((mm.trans (Ch.of_ex e4)).trans m5)⟩⟩
  by_cases hin : ∃ u, t = .inn u
  · obtain ⟨u, rfl⟩ := hin
    have hd1 : o.ws.drop k = [50] :: [105, 110] :: (u.toks ++ rest) := hd
    have ex : x = [50] := (List.cons.inj (hx.symm.trans hd1)).1
    refine q_when (b := false) (et_is (bx [111, 110]) (decide_eq_false (by rw [ex]; decide))) (fun hb => (Bool.false_ne_true hb).elim) fun _ H2 e2 => ?_
    refine q_when (b := false) (et_is ((bx [108, 101, 110]).mono e2) (decide_eq_false (by rw [ex]; decide))) (fun hb => (Bool.false_ne_true hb).elim) fun _ H3 e3 => ?_
    refine q_when (b := true) (et_is (kt.mono (e2.trans e3)) (by rw [ex]; decide)) (fun _ H4 e4 => ?_) fun hb => (Bool.false_ne_true hb.symm).elim
    have C4 := ((C1.ex e2).ex e3).ex e4
    obtain ⟨t1, t2⟩ := tk_drop hd1
    refine go_m (ev_var (v := .ref o.a) rfl) C4.l.ob rfl ea_nil fun H5 e5 => ⟨_, rfl, o.a, o.dx, o.wl, o.ws, k, .int 2, rfl, C4.l.ex e5, by rw [t1, kT2], by decide, fun H6 c6 l6 => ?_⟩
    have C6 := (C4.ex e5).line c6 l6
    dsimp only [gName]
    refine c_expects T C6 (ev_var (v := .ref o.a) rfl) (ev_c (v := .str (S [105, 110]))) t2 fun H7 m7 C7 d7 => ?_
    dsimp only
    have mm := ((((Ch.of_ex (M := Mc o.A o.a) (((e1.trans e2).trans e3).trans e4))).trans (Ch.of_ex e5)).trans (Mc.la c6)).trans m7
    refine ⟨_, rfl, ?_⟩
    dsimp only [tCons, tNil]
    refine go_f (ea_cons (ev_var rfl) (ea_cons (ev_var rfl) ea_nil)) fun H8 e8 => ⟨_, _, rfl, o, fl, _, u, rest, rfl, rfl, C7.ex e8, hw, d7, fun h => hsep.ns (.inl h), fun hk p j H9 C9 d9 m9 => ⟨show 3 ≤ sizeLine by decide, fun p' hp' => ?_⟩, fun hk H9 m9 => (q2 hk).1 H9 ((mm.trans (Ch.of_ex e8)).trans m9)⟩
    exact q1 hk p' j _ (C9.ex (Ex.new hp')) d9 (((mm.trans (Ch.of_ex e8)).trans m9).trans (Ch.of_ex (Ex.new hp')))
  -- a subject
  obtain ⟨su, tail, hdt, hst, hsw, hok, hfl, hnx, h3⟩ : ∃ (su : Su) (tail : List (List Nat)), o.ws.drop k = su.toks ++ tail ∧ ¬ stub tail ∧ su.wf ∧ (t.ok o.it o.kvs fl ↔ su.ok o.it o.kvs) ∧ t.fl fl = fl ∧ isNm x = true ∧ (tail = rest ∨ tail = [61, 61] :: [49] :: rest ∨ tail = [105, 115] :: [119, 111, 114, 100] :: rest) := by
    cases t with
    | on f => exact absurd ⟨f, rfl⟩ hon
    | len n => exact absurd ⟨n, rfl⟩ hlen
    | inn u => exact absurd ⟨u, rfl⟩ hin
    | su u =>
      refine ⟨u, rest, hd, hsep.ns, hw, Iff.rfl, rfl, ?_, .inl rfl⟩
      cases u with
      | th u => cases u with
        | call n vs =>
          have hd1 : o.ws.drop k = n :: ([40] :: (ctoks vs ++ [[41]]) ++ rest) := by rw [hd]; rfl
          rw [(List.cons.inj (hx.symm.trans hd1)).1]
          exact hw.1
        | name n =>
          have hd1 : o.ws.drop k = n :: rest := hd
          rw [(List.cons.inj (hx.symm.trans hd1)).1]
          exact hw
      | it0 n =>
        have hd1 : o.ws.drop k = n :: [91] :: [48] :: [93] :: rest := hd
        rw [(List.cons.inj (hx.symm.trans hd1)).1]
        exact hw
    | eq1 n =>
      have hd1 : o.ws.drop k = n :: [61, 61] :: [49] :: rest := hd
      refine ⟨.th (.name n), [61, 61] :: [49] :: rest, hd, ?_, hw, Iff.rfl, rfl, ?_, .inr (.inl rfl)⟩
      · rintro (h | h) <;> cases h
      · rw [(List.cons.inj (hx.symm.trans hd1)).1]
        exact hw
    | wd n =>
      have hd1 : o.ws.drop k = n :: [105, 115] :: [119, 111, 114, 100] :: rest := hd
      refine ⟨.th (.name n), [105, 115] :: [119, 111, 114, 100] :: rest, hd, ?_, hw, Iff.rfl, rfl, ?_, .inr (.inr rfl)⟩
      · rintro (h | h) <;> cases h
      · rw [(List.cons.inj (hx.symm.trans hd1)).1]
        exact hw
  rw [hfl] at q1
  refine q_when (b := false) (et_is (bx [111, 110]) (decide_eq_false (isNm_kw hnx (by decide)))) (fun hb => (Bool.false_ne_true hb).elim) fun _ H2 e2 => ?_
  refine q_when (b := false) (et_is ((bx [108, 101, 110]).mono e2) (decide_eq_false (isNm_kw hnx (by decide)))) (fun hb => (Bool.false_ne_true hb).elim) fun _ H3 e3 => ?_
  refine q_when (b := false) (et_is (kt.mono (e2.trans e3)) (isNm_kt hnx)) (fun hb => (Bool.false_ne_true hb).elim) fun _ H4 e4 => ?_
  have C4 := ((C1.ex e2).ex e3).ex e4
  have mm := Ch.of_ex (M := Mc o.A o.a) (((e1.trans e2).trans e3).trans e4)
  refine go_f (ea_cons (ev_var rfl) (ea_cons (ev_var rfl) ea_nil)) fun H5 e5 => ⟨_, _, rfl, o, fl, k, su, tail, rfl, rfl, C4.ex e5, hsw, hdt, hst, fun hk p j H6 C6 d6 m6 => ?_, fun hk => ⟨fun H6 m6 => (q2 (fun z => hk (hok.mp z))).1 H6 ((mm.trans (Ch.of_ex e5)).trans m6), fun p j r H6 C6 d6 hr m6 => ?_⟩⟩
  · dsimp only [gName]
    have hk' := hok.mpr hk
    have sg : ∀ u : List Nat, EvT (tTest (tOp (rIn K false) (tM (He.ga K "Line") "peek" (sp_Line_peek (K := K)) E0 (tVar 0) tNil) (tC (.ref (He.ga K "SIGNS"))))) [some (.ref o.a), some (.ref o.sa), some (.str (S x)), none, none, some (.ref p), none] H6 ((v_SIGNS.map fun s => s.cps.toList).any fun k => decide (k = tail.head?.getD [])) := fun _ => et_is (et_test (ev_op (c_peek T C6 (ev_var (v := .ref o.a) rfl) d6) ev_c (rv_isT (t_SIGNS T _) rfl (by rw [List.all_map]; exact List.all_eq_true.mpr fun _ _ => rfl)))) inV_str
    rcases h3 with h3 | h3 | h3
    · have nr : tail.head?.getD [] = [] ∨ tail.head?.getD [] = [44] := by rw [h3]; exact hsep.hd
      refine q_when (b := false) (et_is (sg []) ?_) (fun hb => (Bool.false_ne_true hb).elim) fun _ H7 e7 => ?_
      · rcases nr with h | h <;> rw [h] <;> decide
      refine q_when (b := true) (et_is (et_test (ev_op (c_peek T (C6.ex e7) (ev_var (v := .ref o.a) rfl) d6) (ev_c (v := .str (S [105, 115]))) (rv_ne rfl))) ?_) (fun _ H8 e8 => ?_) fun hb => (Bool.false_ne_true hb.symm).elim
      · rw [dec_S]
        rcases nr with h | h <;> rw [h] <;> decide
      refine s_retU (eu_tup (ea_cons ev_c (ea_cons (ev_var (v := .ref p) rfl) ea_nil)) (show 2 ≤ 100000 by decide)) fun p' H9 hp e9 h9 => q1 hk' p' j _ (((C6.ex e7).ex e8).ex e9) (by rw [d6, h3]) ?_
      exact ((((mm.trans (Ch.of_ex e5)).trans m6).trans (Ch.of_ex e7)).trans (Ch.of_ex e8)).trans (Ch.of_ex e9)
    · refine q_when (b := true) (et_is (sg []) (by rw [h3]; exact (show ((v_SIGNS.map fun s => s.cps.toList).any fun k => decide (k = [61, 61])) = true by decide))) (fun _ H7 e7 => ?_) fun hb => (Bool.false_ne_true hb.symm).elim
      exact go_f (ea_cons (ev_var rfl) (ea_cons (ev_var (v := .ref p) rfl) ea_nil)) fun H8 e8 => ⟨_, _, rfl, o, fl, j, p, rest, rfl, rfl, (C6.ex e7).ex e8, by rw [d6, h3], fun p' j' H9 C9 d9 m9 => q1 hk' p' j' H9 C9 d9 (((((mm.trans (Ch.of_ex e5)).trans m6).trans (Ch.of_ex e7)).trans (Ch.of_ex e8)).trans m9)⟩
    · rw [h3] at d6
      refine q_when (b := false) (et_is (sg []) (by rw [h3]; exact (show ((v_SIGNS.map fun s => s.cps.toList).any fun k => decide (k = [105, 115])) = false by decide))) (fun hb => (Bool.false_ne_true hb).elim) fun _ H7 e7 => ?_
      refine q_when (b := false) (et_is (et_test (ev_op (c_peek T (C6.ex e7) (ev_var (v := .ref o.a) rfl) d6) (ev_c (v := .str (S [105, 115]))) (rv_ne rfl))) (by rw [dec_S]; exact congrArg not (decide_eq_true rfl))) (fun hb => (Bool.false_ne_true hb).elim) fun _ H8 e8 => ?_
      refine c_take T ((C6.ex e7).ex e8) (ev_var (v := .ref o.a) rfl) d6 fun H9 m9 C9 d9 => ?_
      dsimp only
      refine c_take T C9 (ev_var (v := .ref o.a) rfl) d9 fun H10 m10 C10 d10 => ?_
      dsimp only [gName]
      refine q_when (b := false) (et_is (et_test (ev_op (ev_var (v := .str (S [119, 111, 114, 100])) rfl) ev_c (rv_niT (t_KINDS T _) rfl (by rw [List.all_map]; exact List.all_eq_true.mpr fun _ _ => rfl)))) (by rw [inV_str]; decide)) (fun hb => (Bool.false_ne_true hb).elim) fun _ H11 e11 => ?_
      refine s_retU (eu_tup (ea_cons ev_c (ea_cons (ev_var (v := .ref p) rfl) (ea_cons (ev_var rfl) ea_nil))) (show 3 ≤ 100000 by decide)) fun p' H12 hp e12 h12 => q1 hk' p' _ _ ((C10.ex e11).ex e12) d10 ?_
      exact (((((((mm.trans (Ch.of_ex e5)).trans m6).trans (Ch.of_ex (e7.trans e8))).trans m9).trans m10).trans (Ch.of_ex e11)).trans (Ch.of_ex e12))
  · dsimp only [gName]
    have nr : r.head?.getD [] = [40] ∨ r.head?.getD [] = [91] := by
      rcases hr with h | h <;> rw [h]
      · exact .inl rfl
      · exact .inr rfl
    refine q_when (b := false) (et_is (et_test (ev_op (c_peek T C6 (ev_var (v := .ref o.a) rfl) d6) ev_c (rv_isT (t_SIGNS T _) rfl (by rw [List.all_map]; exact List.all_eq_true.mpr fun _ _ => rfl)))) ?_) (fun hb => (Bool.false_ne_true hb).elim) fun _ H7 e7 => ?_
    · rw [inV_str]
      rcases nr with h | h <;> rw [h] <;> decide
    refine q_when (b := true) (et_is (et_test (ev_op (c_peek T (C6.ex e7) (ev_var (v := .ref o.a) rfl) d6) (ev_c (v := .str (S [105, 115]))) (rv_ne rfl))) ?_) (fun _ H8 e8 => ?_) fun hb => (Bool.false_ne_true hb.symm).elim
    · rw [dec_S]
      rcases nr with h | h <;> rw [h] <;> decide
    refine s_retU (eu_tup (ea_cons ev_c (ea_cons (ev_var (v := .ref p) rfl) ea_nil)) (show 2 ≤ 100000 by decide)) fun p' H9 hp e9 h9 => (q2 (fun z => hk (hok.mp z))).2 p' j r _ (((C6.ex e7).ex e8).ex e9) d6 hr ?_
    exact ((((mm.trans (Ch.of_ex e5)).trans m6).trans (Ch.of_ex e7)).trans (Ch.of_ex e8)).trans (Ch.of_ex e9)
end WP
set_option Elab.async false
set_option linter.all false
set_option maxRecDepth 100000
set_option maxHeartbeats 4000000
/-! conditions -/
namespace WP
open PySem PySem.Spec PyProof.Rows L2 Evl SX
variable {w : World} {K : PySem.W.Frag} {mg : Str → Option Value} {base : Heap}
def ReadsP (P : V → Hp → Prop) (K : PySem.W.Frag) (o : Ob) (H : Hp) (fl fl' : List (List Nat)) (rest : List (List Nat)) (ok : Prop) (Q : VK) (E : XK) : Prop :=
  (ok → ∀ v j H', P v H' → o.C K H' 1 fl' j → o.ws.drop j = rest → o.M H H' → Q v H') ∧
  (¬ ok → (∀ H', o.M H H' → Mis K E H') ∧ ∀ v j r H', P v H' → o.C K H' 1 fl j → o.ws.drop j = r → stub r → o.M H H' → Q v H')
def cnd (neg : Bool) (t : At) : List (List Nat) := if neg then [110, 111, 116] :: t.toks else t.toks
def sp_read_part : Sp := sp2 fun ln sc H Q E => ∃ (o : Ob) (fl : List (List Nat)) (k : Nat) (neg : Bool) (t : At) (rest : List (List Nat)), ln = .ref o.a ∧ sc = .ref o.sa ∧ o.C K H 0 fl k ∧ t.wf ∧ o.ws.drop k = cnd neg t ++ rest ∧ Sep rest ∧ ReadsP (fun v H' => ∃ p x, v = .ref p ∧ H' p = some (.lst [x])) K o H fl (t.fl fl) rest (t.ok o.it o.kvs fl) Q E
def sp_read_condition : Sp := sp2 fun ln sc H Q E => ∃ (o : Ob) (fl : List (List Nat)) (k : Nat) (neg : Bool) (t : At) (rest : List (List Nat)), ln = .ref o.a ∧ sc = .ref o.sa ∧ o.C K H 0 fl k ∧ t.wf ∧ o.ws.drop k = cnd neg t ++ rest ∧ Sep rest ∧ ReadsP (fun _ _ => True) K o H fl (t.fl fl) rest (t.ok o.it o.kvs fl) Q E
theorem At.hd0 (t : At) (ht : t.wf) : ∃ x r, t.toks = x :: r ∧ x ≠ [110, 111, 116] := by
  cases t with
  | on f => exact ⟨_, _, rfl, by decide⟩
  | len n => exact ⟨_, _, rfl, by decide⟩
  | inn u => exact ⟨_, _, rfl, by decide⟩
  | su u =>
    cases u with
    | th u => cases u with
      | call n vs => exact ⟨n, _, rfl, isNm_kw ht.1 (by decide)⟩
      | name n => exact ⟨n, _, rfl, isNm_kw ht (by decide)⟩
    | it0 n => exact ⟨n, _, rfl, isNm_kw ht (by decide)⟩
  | eq1 n => exact ⟨n, _, rfl, isNm_kw ht (by decide)⟩
  | wd n => exact ⟨n, _, rfl, isNm_kw ht (by decide)⟩
/-- no and, no or -/
theorem no_word {r : List (List Nat)} (h : Sep r ∨ stub r) {u : List Nat} (hu : u ≠ [] ∧ u ≠ [44] ∧ u ≠ [40] ∧ u ≠ [91]) : r.head?.getD [] ≠ u := by
  rcases h with h | h | h
  · rcases h.hd with e | e <;> rw [e]
    · exact fun z => hu.1 z.symm
    · exact fun z => hu.2.1 z.symm
  · rw [h]
    exact fun z => hu.2.2.1 z.symm
  · rw [h]
    exact fun z => hu.2.2.2 z.symm
theorem len_K {X : Cx} (K : PySem.W.Frag) (h : X.K = K := by rfl) : CallR X (.builtin "len") (fun xs H Q => ∃ p ys, xs = [.ref p] ∧ (SqL K H p ys ∨ SqT K H p ys) ∧ Q (.int ys.length) H) := by
  subst h
  exact call_len_seq
theorem ix_K {X : Cx} (K : PySem.W.Frag) (h : X.K = K := by rfl) : IxR X (rIxL K) := by
  subst h
  exact ix_list
theorem q_merge {t : L2.TT} {tu tz : TS} {D : Ends} {σ : L2.St} {H : Hp} {b : Bool} (h : EvT t σ H b) (M : Hp → Prop) (h1 : b = true → ∀ H1, Ex H H1 → ∀ k : L2.St → Hp → Prop, (∀ H', M H' → k σ H') → tu { D with nx := k } σ H1) (h2 : b = false → ∀ H1, Ex H H1 → M H1) (k : ∀ H1, M H1 → tz D σ H1) : tSeq (tIfS t tu tNext) tz D σ H :=
  q_when h (fun hb H1 e1 => h1 hb H1 e1 (tz D) k) fun hb H1 e1 => k H1 (h2 hb H1 e1)
/-- a list of the def's own, laid behind H0, may change -/
theorem CC.own {H0 H H' : Hp} {o : Ob} {ec0 ec k0 k : Nat} {fl0 fl : List (List Nat)} {p : Addr} {xs : List V} (C0 : o.C K H0 ec0 fl0 k0) (h0 : H0 p = none) (C : o.C K H ec fl k) (hp : H p = some (.lst xs)) (c : Ch (fun z => z = p) H H') : o.C K H' ec fl k := by
  have n : ∀ {q : Addr} {u : HO}, H0 q = some u → q ≠ p := fun e z => by rw [z, h0] at e; cases e
  obtain ⟨cs0, c0, _⟩ := C0.p.c
  obtain ⟨ks0, k0, _⟩ := C0.p.k
  obtain ⟨zs0, w0, _⟩ := C0.p.w
  obtain ⟨cs, c1, c2⟩ := C.p.c
  obtain ⟨ks, k1, k2⟩ := C.p.k
  obtain ⟨zs, w1, w2⟩ := C.p.w
  refine ⟨⟨c _ _ C.p.r (n C0.p.r), c _ _ C.p.l (n C0.p.l), c _ _ C.p.m (n C0.p.m), C.p.f.ch c fun q e => ?_, ⟨cs, c _ _ c1 (n c0), c2⟩, ⟨c _ _ C.p.g.1 (n C0.p.g.1), C.p.g.2⟩, ⟨ks, c _ _ k1 (n k0), k2⟩, ⟨zs, c _ _ w1 (n w0), w2⟩, C.p.b, C.p.ne⟩, ⟨c _ _ C.l.ob (n C0.l.ob), c _ _ C.l.wd (n C0.l.wd), C.l.bd⟩, C.nl, c _ _ C.s (n C0.s), c _ _ C.g (n C0.g), C.i⟩
  subst e
  exact ⟨_, hp, fun z => (nomatch z), fun kvs z => by cases z⟩
/-- .. and what stood stands but for what a condition may change -/
theorem M.own {H0 H H' : Hp} {o : Ob} {p : Addr} (h0 : H0 p = none) (m : o.M H0 H) (c : Ch (fun z => z = p) H H') : o.M H0 H' := fun x u e nx => c _ _ (m _ _ e nx) fun z => by rw [z, h0] at e; cases e
/-- found.append(("not", x) if negated else x) -/
theorem app_neg {neg : Bool} {tl tx : TE} {tt : L2.TT} {σ : L2.St} {H : Hp} {D : Ends} {tz : TS} {l : Addr} {x : V} (hl : Ev tl σ H (.ref l)) (hp : H l = some (.lst [])) (ht : EvT tt σ H neg) (hx : Ev tx σ H x) (q : ∀ y H', Ch (fun z => z = l) H H' → H' l = some (.lst [y]) → tz D σ H') :
    tSeq (tDrop (tBM K "list" rAppend tl (tCons (tIf tt (tTup (tCons (tC (.str "not")) (tCons tx tNil))) tx) tNil))) tz D σ H :=
  hl H (Ex.refl _) _ fun H1 e1 => ⟨Or.inl ⟨rfl, [], sq_of (e1 _ _ hp)⟩, ht H1 e1 _ fun H2 e2 => by
    cases neg with
    | true =>
      refine iteT (hx H2 (e1.trans e2) _ fun H3 e3 => ⟨show 2 ≤ sizeLine by decide, fun t ht => ⟨l, [], .ref t, rfl, rfl, ?_, by decide, ?_⟩⟩)
      · exact Ex.new ht _ _ (((e1.trans e2).trans e3) _ _ hp)
      · exact q _ _ ((Ch.of_ex (((e1.trans e2).trans e3).trans (Ex.new ht))).set rfl) upd_same
    | false =>
      refine iteF (hx H2 (e1.trans e2) _ fun H3 e3 => ⟨l, [], x, rfl, rfl, ((e1.trans e2).trans e3) _ _ hp, by decide, ?_⟩)
      exact q _ _ ((Ch.of_ex ((e1.trans e2).trans e3)).set rfl) upd_same⟩
theorem o_read_part (T : TT K mg) : CalX PW w K mg base (CXM w) 9 "read_part" (sp_read_part (K := K)) := by
  obtain ⟨fd, F⟩ := f_read_part T
  refine ⟨_, mk2 F (b_read_part F) sc_read_part fun a b cdv A outer s H Q E hr h => ⟨_, (pss_cons (ps_set (i := 2) sc_read_part.nd rfl (Or.inl rfl) (pe_lst pa_nil))
        (pss_one (ps_while ownE (pt_val pe_bl) (pss_cons (ps_set (i := 3) sc_read_part.nd rfl (Or.inl rfl) (pe_cmpR op_eq (wm0 (o_Line_peek T) hr (by decide) pass0 (pv 0)) pe_str (nomark _)))
        (pss_cons (ps_if (pt_val (pv 3)) (pss_one (ps_expr (wm0 (o_Line_take T) hr (by decide) pass0 (pv 0)))) pss_nil)
        (pss_cons (ps_set (i := 4) sc_read_part.nd rfl (Or.inl rfl) (wc (o_read_atom T) hr (by decide) passE (pa_cons (pv 0) (pa_cons (pv 1) pa_nil))))
        (pss_cons (ps_expr (pe_bm PySem.F.plainAttrs_list PySem.F.slot_list_append PySem.F.type_list_append mt_append (pv 2) (pa_cons (pe_ifExp (pt_val (pv 3)) (pe_tup (pa_cons pe_str (pa_cons (pv 4) pa_nil))) (pv 4)) pa_nil)))
        (pss_cons (ps_if (pt_cmpR op_ne (wm0 (o_Line_peek T) hr (by decide) pass0 (pv 0)) pe_str (nomark _)) (pss_one (ps_ret (pv 2))) pss_nil)
        (pss_one ps_never))))))))), ?_⟩, g_read_part T, F.kp⟩
  obtain ⟨o, fl, k, neg, t, rest, rfl, rfl, C, hw, hd, hsep, q1, q2⟩ := h
  refine q_asgL (el_lst ea_nil (by decide)) fun p H1 hp e1 h1 => ?_
  have C1 := C.ex e1
  refine s_while (fun m σ' H' => m = 1 ∧ σ' = [some (.ref o.a), some (.ref o.sa), some (.ref p), none, none] ∧ H' = H1) 1 ⟨rfl, rfl, rfl⟩ ?_
  rintro m σ' H' ⟨rfl, rfl, rfl⟩
  refine ⟨true, et_B ev_c, fun _ H2 e2 => ⟨fun _ _ => False, fun _ _ h => h.elim, ?_⟩, fun hb => (Bool.false_ne_true hb.symm).elim⟩
  have C2 := C1.ex e2
  have hpl : p ≠ o.wl := fun z => by rw [z, C.l.wd] at hp; cases hp
  have hMp : ∀ x o', H x = some o' → x ≠ p := fun x o' e z => by rw [z, hp] at e; cases e
  have hpM : ¬ Mc o.A o.a p := by
    rintro (z | z | z)
    · rw [z, C.l.ob] at hp; cases hp
    · obtain ⟨cs, c1, _⟩ := C.p.c
      rw [z, c1] at hp; cases hp
    · rw [z, C.p.g.1] at hp; cases hp
  refine q_asg (v := .bl neg) (ev_is (ev_op (c_peek T C2 (ev_var (v := .ref o.a) rfl) rfl) (ev_c (v := .str (S [110, 111, 116]))) (rv_eq rfl)) ?_) fun H3 e3 => ?_
  · rw [dec_S, hd]
    obtain ⟨x, r, ex, hx⟩ := t.hd0 hw
    cases neg with
    | true => exact congrArg V.bl (decide_eq_true rfl)
    | false =>
      refine congrArg V.bl (decide_eq_false ?_)
      show ((t.toks ++ rest).head?.getD []) ≠ _
      rw [ex]
      exact hx
  have C3 := C2.ex e3
  have m3 : o.M H H3 := Ch.of_ex ((e1.trans e2).trans e3)
  have p3 := (e2.trans e3) _ _ h1
  refine q_merge (b := neg) (et_B (ev_var rfl)) (fun H4 => ∃ k', o.C K H4 0 fl k' ∧ o.ws.drop k' = t.toks ++ rest ∧ o.M H H4 ∧ H4 p = some (.lst [])) (fun hb H4 e4 kk hkk => ?_) (fun hb H4 e4 => ?_) ?_
  · subst hb
    refine c_take T (C3.ex e4) (ev_var (v := .ref o.a) rfl) (show o.ws.drop k = [110, 111, 116] :: (t.toks ++ rest) by rw [hd]; rfl) fun H5 m5 C5 d5 => ?_
    exact hkk H5 ⟨_, C5, d5, (m3.trans (Ch.of_ex e4)).trans m5, m5 _ _ (e4 _ _ p3) hpM⟩
  · subst hb
    exact ⟨k, C3.ex e4, hd, m3.trans (Ch.of_ex e4), e4 _ _ p3⟩
  · rintro H4 ⟨k', C4, d4, m4, p4⟩
    -- what is left once the atom stands: x, in the heap H5
    refine go_f (ea_cons (ev_var rfl) (ea_cons (ev_var rfl) ea_nil)) fun H5 e5 => ⟨_, _, rfl, o, fl, k', t, rest, rfl, rfl, C4.ex e5, hw, d4, hsep, fun hk x j H6 C6 d6 m6 => ?_, fun hk => ⟨fun H6 m6 => (q2 hk).1 H6 ((m4.trans (Ch.of_ex e5)).trans m6), fun x j r H6 C6 d6 hr m6 => ?_⟩⟩
    · dsimp only [gName]
      have p6 := m6 _ _ (e5 _ _ p4) hpM
      have m6' := (m4.trans (Ch.of_ex e5)).trans m6
      refine app_neg (neg := neg) (l := p) (x := .ref x) (ev_var (v := .ref p) rfl) p6 (et_B (ev_var rfl)) (ev_var rfl) fun y H7 c7 p7 => ?_
      have C7 := CC.own C hp C6 p6 c7
      refine q_when (b := true) (et_is (et_test (ev_op (c_peek T C7 (ev_var (v := .ref o.a) rfl) d6) (ev_c (v := .str (S [97, 110, 100]))) (rv_ne rfl))) ?_) (fun _ H8 e8 => ?_) fun hb => (Bool.false_ne_true hb.symm).elim
      · rw [dec_S, decide_eq_false (no_word (.inl hsep) ⟨by decide, by decide, by decide, by decide⟩)]
        rfl
      · exact s_ret (ev_var (v := .ref p) rfl) fun H9 e9 => q1 hk _ j H9 ⟨p, y, rfl, (e8.trans e9) _ _ p7⟩ (C7.ex (e8.trans e9)) d6 ((M.own hp m6' c7).trans (Ch.of_ex (e8.trans e9)))
    · dsimp only [gName]
      have p6 := m6 _ _ (e5 _ _ p4) hpM
      have m6' := (m4.trans (Ch.of_ex e5)).trans m6
      refine app_neg (neg := neg) (l := p) (x := .ref x) (ev_var (v := .ref p) rfl) p6 (et_B (ev_var rfl)) (ev_var rfl) fun y H7 c7 p7 => ?_
      have C7 := CC.own C hp C6 p6 c7
      refine q_when (b := true) (et_is (et_test (ev_op (c_peek T C7 (ev_var (v := .ref o.a) rfl) d6) (ev_c (v := .str (S [97, 110, 100]))) (rv_ne rfl))) ?_) (fun _ H8 e8 => ?_) fun hb => (Bool.false_ne_true hb.symm).elim
      · rw [dec_S, decide_eq_false (no_word (.inr hr) ⟨by decide, by decide, by decide, by decide⟩)]
        rfl
      · exact s_ret (ev_var (v := .ref p) rfl) fun H9 e9 => (q2 hk).2 _ j r H9 ⟨p, y, rfl, (e8.trans e9) _ _ p7⟩ (C7.ex (e8.trans e9)) d6 hr ((M.own hp m6' c7).trans (Ch.of_ex (e8.trans e9)))
theorem ev_sum {te : TE} {σ : L2.St} {H : Hp} {ns : List Int} (h : EvL te σ H (ns.map V.int)) : Ev (tCB (rSum K) (tCons te tNil)) σ H (.int ns.sum) := fun H1 e Q q => h H1 e _ fun p H2 _ e2 hp => ⟨p, ns, rfl, sq_of hp, q H2 e2⟩
theorem o_read_condition (T : TT K mg) : CalX PW w K mg base (CXM w) 10 "read_condition" (sp_read_condition (K := K)) := by
  obtain ⟨fd, F⟩ := f_read_condition T
  refine ⟨_, mk2 F (b_read_condition F) sc_read_condition fun a b cdv A outer s H Q E hr h => ⟨_, (pss_cons (ps_set (i := 2) sc_read_condition.nd rfl (Or.inl rfl) (pe_lst (pa_cons (wc (o_read_part T) hr (by decide) passE (pa_cons (pv 0) (pa_cons (pv 1) pa_nil))) pa_nil)))
        (pss_cons (ps_while ownE (pt_cmpR op_eq (wm0 (o_Line_peek T) hr (by decide) pass0 (pv 0)) pe_str (nomark _)) (pss_cons ps_never
        (pss_one ps_never)))
        (pss_cons (ps_if (pt_cmpR op_gt (pe_callB (cr_sum rfl) rfl (z_sum T) (by decide +kernel) (pa_cons (pe_lc (own := [("part", 3)]) (g := gName 3) (tt := tYes) rfl sc_read_condition.nd (pi_list (pv 2)) (blkOk_by (N := ["line", "scope", "parts", "part", "joined"]) (sc := defScope s_read_condition) (by decide +kernel)) (fun _ _ _ _ _ => pg_name (i := 3) sc_read_condition.nd rfl (Or.inl rfl)) (fun _ _ _ _ _ => pts_nil) (fun _ _ _ _ _ => (pe_callB (id := "len") (len_K K) rfl (z_len T) (by decide +kernel) (pa_cons (pv 3) pa_nil)))) pa_nil)) (wgi (i_MOST_ATOMS T)) (nomark _)) (pss_one ps_never) pss_nil)
        (pss_cons (ps_setLc (i := 4) (own := [("part", 3)]) (g := gName 3) (tt := tYes) rfl sc_read_condition.nd rfl rfl (sw_true rfl rfl rfl (by decide +kernel)) (pi_list (pv 2)) (blkOk_by (N := ["line", "scope", "parts", "part", "joined"]) (sc := defScope s_read_condition) (by decide +kernel)) (fun _ _ _ _ _ => pg_name (i := 3) sc_read_condition.nd rfl (Or.inl rfl)) (fun _ _ _ _ _ => pts_nil) (fun _ _ _ _ _ => (pe_ifExp (pt_cmpR op_eq (pe_callB (id := "len") (len_K K) rfl (z_len T) (by decide +kernel) (pa_cons (pv 3) pa_nil)) pe_int (nomark _)) (pe_ix (ix_K K) (pv 3) pe_int (fun _ _ => rfl)) wnev)))
        (pss_one (ps_ret (pe_ifExp (pt_cmpR op_eq (pe_callB (id := "len") call_len_seq rfl (z_len T) (by decide +kernel) (pa_cons (pv 4) pa_nil)) pe_int (nomark _)) (pe_ix ix_list (pv 4) pe_int (fun _ _ => rfl)) wnev))))))), ?_⟩, g_read_condition T, F.kp⟩
  obtain ⟨o, fl, k, neg, t, rest, rfl, rfl, C, hw, hd, hsep, q1, q2⟩ := h
  refine go_f (ea_cons (ev_var (v := .ref o.a) rfl) (ea_cons (ev_var (v := .ref o.sa) rfl) ea_nil)) fun H1 e1 => ⟨_, _, rfl, o, fl, k, neg, t, rest, rfl, rfl, C.ex e1, hw, hd, hsep, fun hk v j H2 hv C2 d2 m2 => ?_, fun hk => ⟨fun H2 m2 => (q2 hk).1 H2 ((Ch.of_ex e1).trans m2), fun v j r H2 hv C2 d2 hr m2 => ?_⟩⟩
  · obtain ⟨p, x, rfl, hp⟩ := hv
    refine ⟨show 1 ≤ sizeLine by decide, fun pp hpp => ?_⟩
    dsimp only [gName]
    have C3 := C2.ex (Ex.new (o := .lst [.ref p]) hpp)
    have p3 : (upd H2 pp (.lst [.ref p])) p = some (.lst [x]) := Ex.new hpp _ _ hp
    have pp3 : (upd H2 pp (.lst [.ref p])) pp = some (.lst [.ref p]) := upd_same
    have m3 : o.M H (upd H2 pp (.lst [.ref p])) := ((Ch.of_ex e1).trans m2).trans (Ch.of_ex (Ex.new hpp))
    generalize upd H2 pp (.lst [.ref p]) = H3 at C3 p3 pp3 m3
    refine q_while (fun m σ' H' => σ' = [some (.ref o.a), some (.ref o.sa), some (.ref pp), none, none] ∧ H' = H3) 0 ⟨rfl, rfl⟩ ?_
    rintro m σ' H' ⟨rfl, rfl⟩
    refine ⟨false, et_is (et_test (ev_op (c_peek T C3 (ev_var (v := .ref o.a) rfl) d2) (ev_c (v := .str (S [111, 114]))) (rv_eq rfl))) (by rw [dec_S]; exact decide_eq_false (no_word (.inl hsep) ⟨by decide, by decide, by decide, by decide⟩)), fun hb => (Bool.false_ne_true hb).elim, fun _ H4 e4 => ?_⟩
    have hw1 : ∀ v, wipe ((wipe [some (V.ref o.a), some (V.ref o.sa), some (V.ref pp), none, none] [3]).set 3 (some v)) [3] = wipe [some (V.ref o.a), some (V.ref o.sa), some (V.ref pp), none, none] [3] := fun _ => rfl
    have one : ∀ (σ : L2.St) (H5 : Hp), Ex H' H5 → σ[3]? = some (some (.ref p)) → Ev (tCB (fun vs H Q => ∃ p ys, vs = [.ref p] ∧ (SqL K H p ys ∨ SqT K H p ys) ∧ Q (.int ys.length) H) (tCons (tVar 3) tNil)) σ H5 (.int 1) := fun σ H5 e5 h3 => ev_len (ev_var h3) (sq_of (e5 _ _ p3))
    refine q_when (b := false) (et_is (et_test (ev_op (ev_sum (ns := [1]) (el_is (el_map (fun _ => .int 1) (ie_list (ev_var (v := .ref pp) rfl) (sq_of (e4 _ _ pp3))) (show 1 ≤ 40000 by decide) (fun _ => rfl) fun v H5 e5 hv => one _ _ (e4.trans e5) (by rw [List.mem_singleton.mp hv]; rfl)) rfl)) ev_c (rv_I0 (g := fun i j => V.bl (decide (j < i))) (i := 1) (j := 6)))) (by decide)) (fun hb => (Bool.false_ne_true hb).elim) fun _ H5 e5 => ?_
    refine q_asgL (el_map (fun _ => x) (ie_list (ev_var (v := .ref pp) rfl) (sq_of ((e4.trans e5) _ _ pp3))) (show 1 ≤ 40000 by decide) (fun _ => rfl) fun v H6 e6 hv => ev_if (b := true) (et_is (et_test (ev_op (one _ _ ((e4.trans e5).trans e6) (by rw [List.mem_singleton.mp hv]; rfl)) ev_c (rv_eq rfl))) (by decide)) (fun _ => ev_op (ev_var (v := .ref p) (by rw [List.mem_singleton.mp hv]; rfl)) ev_c (rv_ixL (sq_of (((e4.trans e5).trans e6) _ _ p3)) rfl)) fun hb => (Bool.false_ne_true hb.symm).elim) fun jj H6 hj e6 j6 => ?_
    refine s_ret (v := x) (ev_if (b := true) (et_is (et_test (ev_op (ev_len (ev_var (v := .ref jj) rfl) (sq_of j6)) ev_c (rv_eq rfl))) (show decide (V.int ((1 : Nat) : Int) = V.int 1) = true by decide)) (fun _ => ev_op (ev_var (v := .ref jj) rfl) ev_c (rv_ixL (sq_of j6) rfl)) fun hb => (Bool.false_ne_true hb.symm).elim) fun H7 e7 => ?_
    exact q1 hk x j H7 trivial (C3.ex (((e4.trans e5).trans e6).trans e7)) d2 (m3.trans (Ch.of_ex (((e4.trans e5).trans e6).trans e7)))
  · obtain ⟨p, x, rfl, hp⟩ := hv
    refine ⟨show 1 ≤ sizeLine by decide, fun pp hpp => ?_⟩
    dsimp only [gName]
    have C3 := C2.ex (Ex.new (o := .lst [.ref p]) hpp)
    have p3 : (upd H2 pp (.lst [.ref p])) p = some (.lst [x]) := Ex.new hpp _ _ hp
    have pp3 : (upd H2 pp (.lst [.ref p])) pp = some (.lst [.ref p]) := upd_same
    have m3 : o.M H (upd H2 pp (.lst [.ref p])) := ((Ch.of_ex e1).trans m2).trans (Ch.of_ex (Ex.new hpp))
    generalize upd H2 pp (.lst [.ref p]) = H3 at C3 p3 pp3 m3
    refine q_while (fun m σ' H' => σ' = [some (.ref o.a), some (.ref o.sa), some (.ref pp), none, none] ∧ H' = H3) 0 ⟨rfl, rfl⟩ ?_
    rintro m σ' H' ⟨rfl, rfl⟩
    refine ⟨false, et_is (et_test (ev_op (c_peek T C3 (ev_var (v := .ref o.a) rfl) d2) (ev_c (v := .str (S [111, 114]))) (rv_eq rfl))) (by rw [dec_S]; exact decide_eq_false (no_word (.inr hr) ⟨by decide, by decide, by decide, by decide⟩)), fun hb => (Bool.false_ne_true hb).elim, fun _ H4 e4 => ?_⟩
    have hw1 : ∀ v, wipe ((wipe [some (V.ref o.a), some (V.ref o.sa), some (V.ref pp), none, none] [3]).set 3 (some v)) [3] = wipe [some (V.ref o.a), some (V.ref o.sa), some (V.ref pp), none, none] [3] := fun _ => rfl
    have one : ∀ (σ : L2.St) (H5 : Hp), Ex H' H5 → σ[3]? = some (some (.ref p)) → Ev (tCB (fun vs H Q => ∃ p ys, vs = [.ref p] ∧ (SqL K H p ys ∨ SqT K H p ys) ∧ Q (.int ys.length) H) (tCons (tVar 3) tNil)) σ H5 (.int 1) := fun σ H5 e5 h3 => ev_len (ev_var h3) (sq_of (e5 _ _ p3))
    refine q_when (b := false) (et_is (et_test (ev_op (ev_sum (ns := [1]) (el_is (el_map (fun _ => .int 1) (ie_list (ev_var (v := .ref pp) rfl) (sq_of (e4 _ _ pp3))) (show 1 ≤ 40000 by decide) (fun _ => rfl) fun v H5 e5 hv => one _ _ (e4.trans e5) (by rw [List.mem_singleton.mp hv]; rfl)) rfl)) ev_c (rv_I0 (g := fun i j => V.bl (decide (j < i))) (i := 1) (j := 6)))) (by decide)) (fun hb => (Bool.false_ne_true hb).elim) fun _ H5 e5 => ?_
    refine q_asgL (el_map (fun _ => x) (ie_list (ev_var (v := .ref pp) rfl) (sq_of ((e4.trans e5) _ _ pp3))) (show 1 ≤ 40000 by decide) (fun _ => rfl) fun v H6 e6 hv => ev_if (b := true) (et_is (et_test (ev_op (one _ _ ((e4.trans e5).trans e6) (by rw [List.mem_singleton.mp hv]; rfl)) ev_c (rv_eq rfl))) (by decide)) (fun _ => ev_op (ev_var (v := .ref p) (by rw [List.mem_singleton.mp hv]; rfl)) ev_c (rv_ixL (sq_of (((e4.trans e5).trans e6) _ _ p3)) rfl)) fun hb => (Bool.false_ne_true hb.symm).elim) fun jj H6 hj e6 j6 => ?_
    refine s_ret (v := x) (ev_if (b := true) (et_is (et_test (ev_op (ev_len (ev_var (v := .ref jj) rfl) (sq_of j6)) ev_c (rv_eq rfl))) (show decide (V.int ((1 : Nat) : Int) = V.int 1) = true by decide)) (fun _ => ev_op (ev_var (v := .ref jj) rfl) ev_c (rv_ixL (sq_of j6) rfl)) fun hb => (Bool.false_ne_true hb.symm).elim) fun H7 e7 => ?_
    exact (q2 hk).2 x j r H7 trivial (C3.ex (((e4.trans e5).trans e6).trans e7)) d2 hr (m3.trans (Ch.of_ex (((e4.trans e5).trans e6).trans e7)))
end WP
set_option Elab.async false
set_option linter.all false
set_option maxRecDepth 100000
set_option maxHeartbeats 4000000
/-! rows that are no blocks -/
namespace WP
open PySem PySem.Spec PyProof.Rows L2 Evl SX
variable {w : World} {K : PySem.W.Frag} {mg : Str → Option Value} {base : Heap}
section
variable {H H' : Hp} {A : PA} {L : List (List Nat)} {n ec ek : Nat} {fl fl' : List (List Nat)} {a dx wl : Addr} {ws : List (List Nat)} {k k' : Nat} {sa ds gv : Addr} {it : V} {kvs kvs' : List (Key × V)}
theorem CC.upk (h : CC K H A L n ec ek fl a dx wl ws k sa ds gv it kvs) : CC K H A L n 1 1 fl a dx wl ws k sa ds gv it kvs := by
  obtain ⟨cs, c1, c2⟩ := h.p.c
  obtain ⟨ks, k1, k2⟩ := h.p.k
  have b := h.p.b
  exact ⟨⟨h.p.r, h.p.l, h.p.m, h.p.f, ⟨cs, c1, by omega⟩, h.p.g, ⟨ks, k1, by omega⟩, h.p.w, ⟨b.1, Nat.le_refl _, Nat.le_refl _⟩, h.p.ne⟩, h.l, h.nl, h.s, h.g, h.i⟩
theorem CC.chk (h : CC K H A L n ec ek fl a dx wl ws k sa ds gv it kvs) (c : Ch (fun x => x = A.ka) H H') {ks' : List Int} (hc : H' A.ka = some (.lst (ks'.map V.int))) (hl : ks'.length ≤ n + 1) : CC K H' A L n ec 1 fl a dx wl ws k sa ds gv it kvs := by
  obtain ⟨cs, c1, c2⟩ := h.p.c
  obtain ⟨ks, k1, k2⟩ := h.p.k
  obtain ⟨zs, w1, w2⟩ := h.p.w
  obtain ⟨n1, n2, n3, n4, n5, n6, n7, n8, n9, n10⟩ := h.p.ne
  have ni : ∀ {q C d : Addr} {fs : List (Str × V)}, H q = some (.ins C d fs) → q ≠ A.ka := fun e => ne_of e k1 (by intro z; cases z)
  refine ⟨⟨c _ _ h.p.r (ni h.p.r), c _ _ h.p.l n9, c _ _ h.p.m (ni h.p.m), h.p.f.ch c fun q e => ?_, ⟨cs, c _ _ c1 n2, c2⟩, ⟨c _ _ h.p.g.1 n4, h.p.g.2⟩, ⟨ks', hc, hl⟩, ⟨zs, c _ _ w1 n6.symm, w2⟩, ⟨h.p.b.1, h.p.b.2.1, Nat.le_refl _⟩, h.p.ne⟩, ⟨c _ _ h.l.ob (ni h.l.ob), c _ _ h.l.wd h.nl.2.2.1, h.l.bd⟩, h.nl, c _ _ h.s (ni h.s), c _ _ h.g (ne_of h.g k1 (by intro z; cases z)), h.i⟩
  subst e
  exact ⟨_, k1, fun z => (nomatch z), fun kvs z => by cases z⟩
/-- a new name in the scope's dict -/
theorem CC.put (h : CC K H A L n ec ek fl a dx wl ws k sa ds gv it kvs) (hf : ∀ dx pa da, H A.fa = some (.ins (He.ga K "Family") dx [("parents", .ref pa), ("declared", .ref da)]) → pa ≠ gv) (c : Ch (fun x => x = gv) H H') (hc : H' gv = some (.dK kvs')) : CC K H' A L n ec ek fl a dx wl ws k sa ds gv it kvs' := by
  obtain ⟨cs, c1, c2⟩ := h.p.c
  obtain ⟨ks, k1, k2⟩ := h.p.k
  obtain ⟨zs, w1, w2⟩ := h.p.w
  have ni : ∀ {q C d : Addr} {fs : List (Str × V)}, H q = some (.ins C d fs) → q ≠ gv := fun e => ne_of e h.g (by intro z; cases z)
  have nl : ∀ {q : Addr} {xs : List V}, H q = some (.lst xs) → q ≠ gv := fun e => ne_of e h.g (by intro z; cases z)
  refine ⟨⟨c _ _ h.p.r (ni h.p.r), c _ _ h.p.l (nl h.p.l), c _ _ h.p.m (ni h.p.m), ?_, ⟨cs, c _ _ c1 (nl c1), c2⟩, ⟨c _ _ h.p.g.1 (nl h.p.g.1), h.p.g.2⟩, ⟨ks, c _ _ k1 (nl k1), k2⟩, ⟨zs, c _ _ w1 (nl w1), w2⟩, h.p.b, h.p.ne⟩, ⟨c _ _ h.l.ob (ni h.l.ob), c _ _ h.l.wd (nl h.l.wd), h.l.bd⟩, h.nl, c _ _ h.s (ni h.s), hc, h.i⟩
  obtain ⟨dxf, pa, da, f1, f2⟩ := h.p.f
  exact ⟨dxf, pa, da, c _ _ f1 (ni f1), c _ _ f2 (hf _ _ _ f1)⟩
end
/-- what a row may change -/
def Mp (A : PA) (a gv : Addr) : Addr → Prop := fun x => Mc A a x ∨ x = A.ka ∨ x = gv
abbrev Ob.N (o : Ob) (H H' : Hp) : Prop := Ch (Mp o.A o.a o.gv) H H'
theorem Ob.M.n {o : Ob} {H H' : Hp} (m : o.M H H') : o.N H H' := m.mono fun x h => .inl h
/-- the family's table is not the scope's -/
def FamG (K : PySem.W.Frag) (o : Ob) (H : Hp) : Prop := ∀ dx pa da, H o.A.fa = some (.ins (He.ga K "Family") dx [("parents", .ref pa), ("declared", .ref da)]) → pa ≠ o.gv
theorem FamG.fwd {o : Ob} {H H' : Hp} {ec k : Nat} {fl : List (List Nat)} (h : FamG K o H) (C : o.C K H ec fl k) (m : o.N H H') : FamG K o H' := fun dx pa da e => by
  obtain ⟨dxf, pa', da', f1, f2⟩ := C.p.f
  obtain ⟨cs, c1, _⟩ := C.p.c
  obtain ⟨ks, k1, _⟩ := C.p.k
  have f3 := m _ _ f1 (by
    rintro ((z | z | z) | z | z)
    · exact ne_ins f1 C.l.ob (by decide) z
    · exact ne_of f1 c1 (by intro z; cases z) z
    · exact ne_of f1 C.p.g.1 (by intro z; cases z) z
    · exact ne_of f1 k1 (by intro z; cases z) z
    · exact ne_of f1 C.g (by intro z; cases z) z)
  rw [f3] at e
  cases e
  exact h _ _ _ f1
inductive Pk where
  | plain (w : List Nat)
  | leave (w : List Nat)
  | set_ (b : Bool) (f : List Nat)
  | call (n : List Nat) (vs : List V)
  | let_ (n c : List Nat) (vs : List V)
  | chk (neg : Bool) (t : At)
  | note (n : List Nat)
  | asm (t : At)
def wAssert : List Nat := [97, 115, 115, 101, 114, 116]
def Pk.word : Pk → List Nat
  | .plain w => w
  | .leave w => w
  | .set_ b _ => if b then [115, 101, 116] else [99, 108, 101, 97, 114]
  | .call _ _ => [99, 97, 108, 108]
  | .let_ _ _ _ => [108, 101, 116]
  | .chk _ _ => wAssert
  | .note _ => wAssert
  | .asm _ => [97, 115, 115, 117, 109, 101]
def Pk.args : Pk → List (List Nat)
  | .plain _ => []
  | .leave _ => []
  | .set_ _ f => [f]
  | .call n vs => (Th.call n vs).toks
  | .let_ n c vs => n :: [61] :: (Th.call c vs).toks
  | .chk neg t => cnd neg t
  | .note n => [40] :: (cnd true (.wd n) ++ [[44], [34, 34], [41]])
  | .asm t => t.toks
def aloneL : List (List Nat) := v_ALONE.map fun s => s.cps.toList
def leavL : List (List Nat) := v_LEAVING.map fun s => s.cps.toList
def Pk.wf : Pk → Prop
  | .plain w => w = [112, 97, 115, 115] ∨ w = [102, 97, 105, 108] ∨ w = [114, 101, 116, 117, 114, 110] ∨ w = [115, 107, 105, 112]
  | .leave w => w = [98, 114, 101, 97, 107] ∨ w = [99, 111, 110, 116, 105, 110, 117, 101]
  | .set_ _ f => isNm f = true
  | .call n vs => (Th.call n vs).wf
  | .let_ n c vs => isNm n = true ∧ (Th.call c vs).wf
  | .chk _ t => t.wf
  | .note n => isNm n = true
  | .asm t => t.wf
def Pk.ok (it : V) (kvs : List (Key × V)) (fl : List (List Nat)) : Pk → Prop
  | .plain _ => True
  | .leave _ => it ≠ .non
  | .set_ _ f => f ∈ fl ∨ fl.length < 3
  | .call _ _ => it = .non
  | .let_ n _ _ => it = .non ∧ ¬ seen kvs n
  | .chk _ t => t.ok it kvs fl
  | .note n => (At.wd n).ok it kvs fl
  | .asm t => t.ok it kvs fl
def Pk.fl (fl : List (List Nat)) : Pk → List (List Nat)
  | .set_ _ f => flA fl f
  | .chk _ t => t.fl fl
  | .asm t => t.fl fl
  | _ => fl
def Pk.kvs (kvs : List (Key × V)) : Pk → List (Key × V)
  | .let_ n c vs => putK kvs (.inr (S n)) (.str (S (callT c vs)))
  | _ => kvs
def RowsP (K : PySem.W.Frag) (o : Ob) (H : Hp) (fl fl' : List (List Nat)) (kvs' : List (Key × V)) (ok : Prop) (Q : VK) (E : XK) : Prop :=
  (ok → ∀ (p : Addr) j H', CC K H' o.A o.L o.n 1 1 fl' o.a o.dx o.wl o.ws j o.sa o.ds o.gv o.it kvs' → o.ws.drop j = [] → o.N H H' → Q (.ref p) H') ∧
  (¬ ok → (∀ H', o.N H H' → Mis K E H') ∧ ∀ (p : Addr) j H', CC K H' o.A o.L o.n 1 1 fl o.a o.dx o.wl o.ws j o.sa o.ds o.gv o.it o.kvs → o.ws.drop j ≠ [] → o.N H H' → Q (.ref p) H')
def sp_read_check : Sp := sp3 fun ln sc at_ H Q E => ∃ (o : Ob) (fl : List (List Nat)) (k : Nat) (l : Pk), ln = .ref o.a ∧ sc = .ref o.sa ∧ at_ = .int (o.n : Int) ∧ o.ek = 0 ∧ o.C K H 0 fl k ∧ l.wf ∧ l.word = wAssert ∧ o.ws.drop k = l.args ∧ RowsP K o H fl (l.fl fl) (l.kvs o.kvs) (l.ok o.it o.kvs fl) Q E
def sp_read_let : Sp := sp3 fun ln sc at_ H Q E => ∃ (o : Ob) (fl : List (List Nat)) (k : Nat) (n c : List Nat) (vs : List V), ln = .ref o.a ∧ sc = .ref o.sa ∧ at_ = .int (o.n : Int) ∧ o.C K H 0 fl k ∧ FamG K o H ∧ o.kvs.length ≤ 1000 ∧ (Pk.let_ n c vs).wf ∧ o.ws.drop k = (Pk.let_ n c vs).args ∧ RowsP K o H fl fl ((Pk.let_ n c vs).kvs o.kvs) ((Pk.let_ n c vs).ok o.it o.kvs fl) Q E
def sp_read_plain : Sp := sp4 fun wd ln sc at_ H Q E => ∃ (o : Ob) (fl : List (List Nat)) (k : Nat) (l : Pk), wd = .str (S l.word) ∧ ln = .ref o.a ∧ sc = .ref o.sa ∧ at_ = .int (o.n : Int) ∧ o.ek = 0 ∧ o.C K H 0 fl k ∧ FamG K o H ∧ o.kvs.length ≤ 1000 ∧ l.wf ∧ o.ws.drop k = l.args ∧ RowsP K o H fl (l.fl fl) (l.kvs o.kvs) (l.ok o.it o.kvs fl) Q E
theorem stub_ne {r : List (List Nat)} (h : stub r) : r ≠ [] := by
  rintro rfl
  rcases h with h | h <;> cases h
theorem o_read_let (T : TT K mg) : CalX PW w K mg base (CXM w) 7 "read_let" (sp_read_let (K := K)) := by
  obtain ⟨fd, F⟩ := f_read_let T
  refine ⟨_, mk3 F (b_read_let F) sc_read_let fun a b c cdv A outer s H Q E hr h => ⟨_, (have hu := hu_of hr; (pss_cons (ps_set (i := 3) sc_read_let.nd rfl (Or.inl rfl) (wm0 (o_Line_take_name T) hr (by decide) pass0 (pv 0)))
        (pss_cons (ps_if (L2.PW.pt (pw_or (pt_cmpR op_notN (pe_fld (pv 1) rfl) pe_non (nomark _)) (pw_or1 (pt_val (wm (o_Scope_sees T) hr (by decide) pass0 (pv 1) (pa_cons (pv 3) pa_nil)))))) (pss_one (ps_misread T)) pss_nil)
        (pss_cons (ps_expr (wm (o_Line_expect T) hr (by decide) passE (pv 0) (pa_cons pe_str pa_nil)))
        (pss_cons (ps_set (i := 4) sc_read_let.nd rfl (Or.inl rfl) (wc (o_read_call T) hr (by decide) passE (pa_cons (pv 0) (pa_cons (pv 1) pa_nil))))
        (pss_cons (ps_dput hu (pe_fld (pv 1) rfl) (pv 3) (pv 4) rfl)
        (pss_one (ps_ret (pe_tup (pa_cons pe_str (pa_cons (pv 2) (pa_cons (pv 3) (pa_cons (pv 4) pa_nil))))))))))))), ?_⟩, g_read_let T, F.kp⟩
  obtain ⟨o, fl, k, n, c, vs, rfl, rfl, rfl, C, hg, hkl, ⟨hn, hc⟩, hd, q1, q2⟩ := h
  refine c_name T C (ev_var (v := .ref o.a) rfl) hd hn fun H1 m1 C1 d1 => ?_
  dsimp only [gName]
  have sees : ∀ (σ : L2.St) (H : Hp), o.C K H 0 fl (k + 1) → σ[1]? = some (some (.ref o.sa)) → σ[3]? = some (some (.str (S n))) → Ev (tM (He.ga K "Scope") "sees" (sp_Scope_sees (K := K)) E0 (tVar 1) (tCons (tVar 3) tNil)) σ H (.bl ((valV o.kvs (.inr (S n))).isSome || decide (.str (S n) = o.it))) := fun σ H C h1 h3 => ev_m (ev_var h1) C.s rfl (ea_cons (ev_var h3) ea_nil) fun H2 e2 Q' q' => ⟨_, _, rfl, o.sa, o.ds, o.A.ma, o.gv, o.it, o.kvs, n, rfl, rfl, (by rcases C.i with e | ⟨l, _, e⟩ <;> rw [e] <;> rfl), e2 _ _ C.s, e2 _ _ C.g, q'⟩
  refine q_when (et_or (et_test (ev_op (c_item T C1 (ev_var (v := .ref o.sa) rfl)) ev_c rv_notN)) fun _ => et_B (sees _ _ C1 rfl rfl)) (fun hb H2 e2 => ?_) fun hb H2 e2 => ?_
  · refine (q2 fun z => ?_).1 H2 (Ob.M.n (m1.trans (Ch.of_ex e2)))
    have z1 : o.it = .non := z.1
    have z2 : (valV o.kvs (.inr (S n))).isSome = false := by simpa [seen] using z.2
    rw [z1, z2] at hb
    exact absurd hb (by simp)
  · rw [Bool.or_eq_false_iff, Bool.or_eq_false_iff] at hb
    have hit : o.it = .non := by simpa using hb.1
    have hns : ¬ seen o.kvs n := by
      unfold seen
      rw [hb.2.1]
      exact Bool.false_ne_true
    have hd2 : o.ws.drop (k + 1) = [61] :: (Th.call c vs).toks := d1
    refine c_expects T (C1.ex e2) (ev_var (v := .ref o.a) rfl) (ev_c (v := .str (S [61]))) hd2 fun H3 m3 C3 d3 => ?_
    dsimp only
    refine go_f (ea_cons (ev_var (v := .ref o.a) rfl) (ea_cons (ev_var (v := .ref o.sa) rfl) ea_nil)) fun H4 e4 => ⟨_, _, rfl, o, fl, _, c, vs, [], rfl, rfl, C3.ex e4, hc.1, (by rw [d3]; rfl), hc.2.1, hc.2.2, fun _ j H5 C5 d5 m5 => ?_, fun h => absurd hit h⟩
    dsimp only [gName]
    have mm : o.M H H5 := ((((m1.trans (Ch.of_ex e2)).trans m3).trans (Ch.of_ex e4)).trans m5)
    refine ⟨_, rfl, c_given T C5 (ev_var (v := .ref o.sa) rfl) H5 (Ex.refl _) _ fun H6 e6 => ⟨_, rfl, o.gv, _, rfl, DPut.k (k := .inr (S n)) (e6 _ _ C5.g) (Nat.lt_of_le_of_lt hkl (by decide)), ?_⟩⟩
    have C7 := (C5.ex e6).put ((hg.fwd C (Ob.M.n (mm.trans (Ch.of_ex e6))))) (Ch.of_ex (Ex.refl _) |>.set (M := fun x => x = o.gv) (p := o.gv) (o := .dK (putK o.kvs (.inr (S n)) (.str (S (callT c vs))))) rfl) upd_same
    refine s_retU (eu_tup (ea_cons ev_c (ea_cons (ev_var rfl) (ea_cons (ev_var rfl) (ea_cons (ev_var rfl) ea_nil)))) (show 4 ≤ 100000 by decide)) fun p H8 hp e8 h8 => q1 ⟨hit, hns⟩ p j H8 ((C7.upk).ex e8) d5 ?_
    exact ((Ob.M.n (mm.trans (Ch.of_ex e6))).set (.inr (.inr rfl))).trans (Ch.of_ex e8)
theorem o_read_check (T : TT K mg) : CalX PW w K mg base (CXM w) 11 "read_check" (sp_read_check (K := K)) := by
  obtain ⟨fd, F⟩ := f_read_check T
  refine ⟨_, mk3 F (b_read_check F) sc_read_check fun a b c cdv A outer s H Q E hr h => ⟨_, (pss_cons (ps_expr (pe_bm PySem.F.plainAttrs_list PySem.F.slot_list_append PySem.F.type_list_append mt_append (pe_fld (pe_fld (pv 1) rfl) rfl) (pa_cons (pv 2) pa_nil)))
        (pss_cons (ps_if (pt_cmpR op_ne (wm0 (o_Line_peek T) hr (by decide) pass0 (pv 0)) pe_str (nomark _)) (pss_one (ps_ret (pe_tup (pa_cons pe_str (pa_cons (pv 2) (pa_cons (wc (o_read_condition T) hr (by decide) passE (pa_cons (pv 0) (pa_cons (pv 1) pa_nil))) pa_nil)))))) pss_nil)
        (pss_cons (ps_expr (wm0 (o_Line_take T) hr (by decide) pass0 (pv 0)))
        (pss_cons (ps_set (i := 3) sc_read_check.nd rfl (Or.inl rfl) (wc (o_read_condition T) hr (by decide) passE (pa_cons (pv 0) (pa_cons (pv 1) pa_nil))))
        (pss_cons (ps_expr (wm (o_Line_expect T) hr (by decide) passE (pv 0) (pa_cons pe_str pa_nil)))
        (pss_cons (ps_set (i := 4) sc_read_check.nd rfl (Or.inl rfl) (wm0 (o_Line_take T) hr (by decide) pass0 (pv 0)))
        (pss_cons (ps_if (L2.PW.pt (pw_or (pt_not (pt_val (wc (o_is_constant_text T) hr (by decide) pass0 (pa_cons (pv 4) pa_nil)))) (pw_or1 (pt_cmpR op_ne (pe_ix ix_str (pv 4) pe_int (fun _ _ => rfl)) pe_str (nomark _))))) (pss_one ps_never) pss_nil)
        (pss_cons (ps_expr (wm (o_Line_expect T) hr (by decide) passE (pv 0) (pa_cons pe_str pa_nil)))
        (pss_one (ps_ret (pe_tup (pa_cons pe_str (pa_cons (pv 2) (pa_cons (pv 3) (pa_cons (pe_slice sl_str (pv 4) (po_some pe_int) (po_some (pe_un un_neg pe_int))) pa_nil))))))))))))))), ?_⟩, g_read_check T, F.kp⟩
  obtain ⟨o, fl, k, l, rfl, rfl, rfl, hek, C, hw, hwd, hd, q1, q2⟩ := h
  obtain ⟨ks, k1, k2⟩ := C.p.k
  have men : ∀ H', Ex H H' → Ev (tFld K (tFld K (tVar 1) "mentions") "checked") [some (.ref o.a), some (.ref o.sa), some (.int (o.n : Int)), none, none] H' (.ref o.A.ka) := fun H' e => ev_fld (c_men T (C.ex e) (ev_var (v := .ref o.sa) rfl)) (C.ex e).p.m (c_Mentions T) (n_Mentions_checked T) rfl
  have hb := C.p.b
  refine q_app k1 (men H (Ex.refl _)) (ev_var (v := .int (o.n : Int)) rfl) (by rw [List.length_map]; omega) fun H1 e1 => ?_
  have c1 : Ch (fun x => x = o.A.ka) H (upd H1 o.A.ka (.lst (ks.map V.int ++ [.int (o.n : Int)]))) := (Ch.of_ex e1).set rfl
  have n1 : o.N H (upd H1 o.A.ka (.lst (ks.map V.int ++ [.int (o.n : Int)]))) := c1.mono fun x e => .inr (.inl e)
  have C1 : ({ o with ek := 1 } : Ob).C K (upd H1 o.A.ka (.lst (ks.map V.int ++ [.int (o.n : Int)]))) 0 fl k := CC.chk C c1 (ks' := ks ++ [(o.n : Int)]) (by rw [upd_same, List.map_append]; rfl) (by rw [List.length_append, hek] at *; simp; omega)
  generalize upd H1 o.A.ka (.lst (ks.map V.int ++ [.int (o.n : Int)])) = H2 at C1 n1
  have cond : ∀ (H3 : Hp) (j : Nat) (neg : Bool) (t : At) (rest : List (List Nat)) (Q' : VK), ({ o with ek := 1 } : Ob).C K H3 0 fl j → o.N H H3 → t.wf → o.ws.drop j = cnd neg t ++ rest → Sep rest → (t.ok o.it o.kvs fl ↔ l.ok o.it o.kvs fl) →
      (l.ok o.it o.kvs fl → ∀ v j' H4, ({ o with ek := 1 } : Ob).C K H4 1 (t.fl fl) j' → o.ws.drop j' = rest → o.N H H4 → Q' v H4) → (¬ l.ok o.it o.kvs fl → ∀ v j' r H4, ({ o with ek := 1 } : Ob).C K H4 1 fl j' → o.ws.drop j' = r → stub r → o.N H H4 → Q' v H4) →
      tF (sp_read_condition (K := K)) E (tCons (tVar 0) (tCons (tVar 1) tNil)) [some (.ref o.a), some (.ref o.sa), some (.int (o.n : Int)), none, none] H3 Q' := fun H3 j neg t rest Q' C3 n3 hwt hdt hsep hok g1 g2 =>
    go_f (ea_cons (ev_var (v := .ref o.a) rfl) (ea_cons (ev_var (v := .ref o.sa) rfl) ea_nil)) fun H4 e4 => ⟨_, _, rfl, { o with ek := 1 }, fl, j, neg, t, rest, rfl, rfl, C3.ex e4, hwt, hdt, hsep, fun hk v j' H5 _ C5 d5 m5 => g1 (hok.mp hk) v j' H5 C5 d5 ((n3.trans (Ch.of_ex e4)).trans (Ob.M.n (o := o) m5)), fun hk => ⟨fun H5 m5 => (q2 fun z => hk (hok.mpr z)).1 H5 ((n3.trans (Ch.of_ex e4)).trans (Ob.M.n (o := o) m5)), fun v j' r H5 _ C5 d5 hr m5 => g2 (fun z => hk (hok.mpr z)) v j' r H5 C5 d5 hr ((n3.trans (Ch.of_ex e4)).trans (Ob.M.n (o := o) m5))⟩⟩
  cases l with
  | chk neg t =>
    have hd' : o.ws.drop k = cnd neg t ++ [] := by rw [List.append_nil]; exact hd
    obtain ⟨x, r, ex, hx⟩ : ∃ x r, cnd neg t = x :: r ∧ x ≠ [40] := by
      cases neg with
      | true => exact ⟨_, _, rfl, by decide⟩
      | false =>
        cases t with
        | on f => exact ⟨_, _, rfl, by decide⟩
        | len n => exact ⟨_, _, rfl, by decide⟩
        | inn u => exact ⟨_, _, rfl, by decide⟩
        | su u =>
          cases u with
          | th u => cases u with
            | call n vs => exact ⟨n, _, rfl, isNm_ne hw.1 (by decide)⟩
            | name n => exact ⟨n, _, rfl, isNm_ne hw (by decide)⟩
          | it0 n => exact ⟨n, _, rfl, isNm_ne hw (by decide)⟩
        | eq1 n => exact ⟨n, _, rfl, isNm_ne hw (by decide)⟩
        | wd n => exact ⟨n, _, rfl, isNm_ne hw (by decide)⟩
    refine q_when (b := true) (et_is (et_test (ev_op (c_peek T C1 (ev_var (v := .ref o.a) rfl) hd') (ev_c (v := .str (S [40]))) (rv_ne rfl))) ?_) (fun _ H3 e3 => ?_) fun hb => (Bool.false_ne_true hb.symm).elim
    · rw [dec_S, ex]
      exact congrArg not (decide_eq_false hx)
    · refine ⟨_, rfl, ?_⟩
      dsimp only [tCons, tNil]
      refine cond H3 k neg t [] _ (C1.ex e3) (n1.trans (Ch.of_ex e3)) hw hd' (.inl rfl) Iff.rfl (fun hk v j' H4 C4 d4 n4 => ⟨show 3 ≤ sizeLine by decide, fun p hp => ?_⟩) (fun hk v j' r H4 C4 d4 hr n4 => ⟨show 3 ≤ sizeLine by decide, fun p hp => ?_⟩)
      · exact q1 hk p j' _ (C4.ex (Ex.new hp)) d4 (n4.trans (Ch.of_ex (Ex.new hp)))
      · exact (q2 hk).2 p j' _ (C4.ex (Ex.new hp)) (by rw [d4]; exact stub_ne hr) (n4.trans (Ch.of_ex (Ex.new hp)))
  | note n =>
    have hd' : o.ws.drop k = [40] :: (cnd true (.wd n) ++ [[44], [34, 34], [41]]) := hd
    refine q_when (b := false) (et_is (et_test (ev_op (c_peek T C1 (ev_var (v := .ref o.a) rfl) hd') (ev_c (v := .str (S [40]))) (rv_ne rfl))) ?_) (fun hb => (Bool.false_ne_true hb).elim) fun _ H3 e3 => ?_
    · rw [dec_S]
      exact congrArg not (decide_eq_true rfl)
    · refine c_take T (C1.ex e3) (ev_var (v := .ref o.a) rfl) hd' fun H4 m4 C4 d4 => ?_
      dsimp only
      have n4 := (n1.trans (Ch.of_ex e3)).trans (Ob.M.n (o := o) m4)
      refine cond H4 _ true (.wd n) _ _ C4 n4 hw d4 (.inr ⟨_, rfl⟩) Iff.rfl (fun hk v j' H5 C5 d5 n5 => ?_) (fun hk v j' r H5 C5 d5 hr n5 => ?_)
      · dsimp only [gName]
        refine c_expects T C5 (ev_var (v := .ref o.a) rfl) (ev_c (v := .str (S [44]))) d5 fun H6 m6 C6 d6 => ?_
        dsimp only
        refine c_take T C6 (ev_var (v := .ref o.a) rfl) d6 fun H7 m7 C7 d7 => ?_
        dsimp only [gName]
        refine q_when (b := false) (et_is (et_or (a := false) (b := false) (et_is (et_not (et_B (ev_sp1 (ev_var rfl) (z := .bl true) fun H8 _ Q' q' => ⟨[34, 34], rfl, by decide, q'⟩))) rfl) fun _ => et_is (et_test (ev_op (ev_op (ev_var (v := .str (S [34, 34])) rfl) (ev_c (v := .int ((0 : Nat) : Int))) (rv_ixSn (i := 0) (c := 34) rfl (by decide))) (ev_c (v := .str (S [34]))) (rv_ne rfl))) (by decide)) rfl) (fun hb => (Bool.false_ne_true hb).elim) fun _ H8 e8 => ?_
        refine c_expects T (C7.ex e8) (ev_var (v := .ref o.a) rfl) (ev_c (v := .str (S [41]))) d7 fun H9 m9 C9 d9 => ?_
        dsimp only
        refine s_retU (eu_tup (ea_cons ev_c (ea_cons (ev_var rfl) (ea_cons (ev_var rfl) (ea_cons (ev_slS (ev_var (v := .str (S [34, 34])) rfl) (eo_some ev_c) (eo_some (ev_un ev_c ru_neg)) (by decide)) ea_nil)))) (show 4 ≤ 100000 by decide)) fun p H10 hp e10 h10 => q1 hk p _ _ (C9.ex e10) d9 ?_
        exact ((((n5.trans (Ob.M.n (o := o) m6)).trans (Ob.M.n (o := o) m7)).trans (Ch.of_ex e8)).trans (Ob.M.n (o := o) m9)).trans (Ch.of_ex e10)
      · dsimp only [gName]
        obtain ⟨x, r', er⟩ : ∃ x r', r = x :: r' := by
          cases r with
          | nil => exact absurd rfl (stub_ne hr)
          | cons x r' => exact ⟨x, r', rfl⟩
        rw [er] at d5
        refine c_expect T C5 (ev_var (v := .ref o.a) rfl) (ev_c (v := .str (S [44]))) d5 (fun e => ?_) fun _ H6 m6 => (q2 hk).1 H6 (n5.trans (Ob.M.n (o := o) m6))
        rw [er, e] at hr
        rcases hr with h | h <;> cases h
  | plain w =>
    have h : w = wAssert := hwd
    rw [h] at hw
    exact absurd hw (show ¬ (wAssert = [112, 97, 115, 115] ∨ wAssert = [102, 97, 105, 108] ∨ wAssert = [114, 101, 116, 117, 114, 110] ∨ wAssert = [115, 107, 105, 112]) by decide)
  | leave w =>
    have h : w = wAssert := hwd
    rw [h] at hw
    exact absurd hw (show ¬ (wAssert = [98, 114, 101, 97, 107] ∨ wAssert = [99, 111, 110, 116, 105, 110, 117, 101]) by decide)
  | set_ b f =>
    cases b
    · exact absurd hwd (show [99, 108, 101, 97, 114] ≠ wAssert by decide)
    · exact absurd hwd (show [115, 101, 116] ≠ wAssert by decide)
  | call n vs => exact absurd hwd (show [99, 97, 108, 108] ≠ wAssert by decide)
  | let_ n c vs => exact absurd hwd (show [108, 101, 116] ≠ wAssert by decide)
  | asm t => exact absurd hwd (show [97, 115, 115, 117, 109, 101] ≠ wAssert by decide)
end WP
set_option Elab.async false
set_option linter.all false
set_option maxRecDepth 100000
set_option maxHeartbeats 4000000
/-! read_plain -/
namespace WP
open PySem PySem.Spec PyProof.Rows L2 Evl SX
variable {w : World} {K : PySem.W.Frag} {mg : Str → Option Value} {base : Heap}
theorem o_read_plain (T : TT K mg) : CalX PW w K mg base (CXM w) 12 "read_plain" (sp_read_plain (K := K)) := by
  obtain ⟨fd, F⟩ := f_read_plain T
  refine ⟨_, mk4 F (b_read_plain F) sc_read_plain fun a b c d cdv A outer s H Q E hr h => ⟨_, (pss_cons (ps_if (pt_cmpR op_in_seq (pv 0) (wgr (g_ALONE T)) (by with_unfolding_all rfl)) (pss_cons (ps_if (pt_cmpR op_eq (pv 0) pe_str (nomark _)) (pss_one (ps_expr (pe_bm PySem.F.plainAttrs_list PySem.F.slot_list_append PySem.F.type_list_append mt_append (pe_fld (pe_fld (pv 2) rfl) rfl) (pa_cons (pv 3) pa_nil)))) pss_nil)
        (pss_one (ps_ret (pe_tup (pa_cons (pv 0) (pa_cons (pv 3) pa_nil)))))) pss_nil)
        (pss_cons (ps_if (L2.PW.pt (pw_and (pt_cmpR op_in_seq (pv 0) (wgr (g_LEAVING T)) (by with_unfolding_all rfl)) (pw_and1 (pt_cmpR op_notN (pe_fld (pv 2) rfl) pe_non (nomark _))))) (pss_one (ps_ret (pe_tup (pa_cons (pv 0) (pa_cons (pv 3) pa_nil))))) pss_nil)
        (pss_cons (ps_if (L2.PW.pt (pw_or (pt_cmpR op_eq (pv 0) pe_str (nomark _)) (pw_or1 (pt_cmpR op_eq (pv 0) pe_str (nomark _))))) (pss_cons (ps_set (i := 4) sc_read_plain.nd rfl (Or.inl rfl) (wm0 (o_Line_take_name T) hr (by decide) pass0 (pv 1)))
        (pss_cons (ps_expr (wm (o_Mentions_add_flag T) hr (by decide) passE (pe_fld (pv 2) rfl) (pa_cons (pv 4) pa_nil)))
        (pss_one (ps_ret (pe_tup (pa_cons pe_str (pa_cons (pv 3) (pa_cons (pv 4) (pa_cons (pe_cmpR op_eq (pv 0) pe_str (nomark _)) pa_nil))))))))) pss_nil)
        (pss_cons (ps_if (pt_cmpR op_eq (pv 0) pe_str (nomark _)) (pss_one (ps_ret (pe_tup (pa_cons pe_str (pa_cons (pv 3) (pa_cons (wc (o_read_call T) hr (by decide) passE (pa_cons (pv 1) (pa_cons (pv 2) pa_nil))) pa_nil)))))) pss_nil)
        (pss_cons (ps_if (pt_cmpR op_eq (pv 0) pe_str (nomark _)) (pss_one (ps_ret (wc (o_read_let T) hr (by decide) passE (pa_cons (pv 1) (pa_cons (pv 2) (pa_cons (pv 3) pa_nil)))))) pss_nil)
        (pss_cons (ps_if (pt_cmpR op_eq (pv 0) pe_str (nomark _)) (pss_one (ps_ret (wc (o_read_check T) hr (by decide) passE (pa_cons (pv 1) (pa_cons (pv 2) (pa_cons (pv 3) pa_nil)))))) pss_nil)
        (pss_cons (ps_if (pt_cmpR op_eq (pv 0) pe_str (nomark _)) (pss_one (ps_ret (pe_tup (pa_cons pe_str (pa_cons (pv 3) (pa_cons (wc (o_read_condition T) hr (by decide) passE (pa_cons (pv 1) (pa_cons (pv 2) pa_nil))) pa_nil)))))) pss_nil)
        (pss_one (ps_misread T))))))))), ?_⟩, g_read_plain T, F.kp⟩
  obtain ⟨o, fl, k, l, rfl, rfl, rfl, rfl, hek, C, hg, hkl, hw, hd, q1, q2⟩ := h
  have hb := C.p.b
  generalize hW : l.word = W
  -- the tests of the word
  have tin : ∀ (H' : Hp) (x : Str) (xs : List Str), mg x = some (.ref (He.ga K x)) → (∀ H, SqT K H (He.ga K x) (xs.map V.str)) → EvT (tTest (tOp (rIn K false) (tVar 0) (tC (.ref (He.ga K x))))) [some (.str (S W)), some (.ref o.a), some (.ref o.sa), some (.int (o.n : Int)), none] H' ((xs.map fun s => s.cps.toList).any fun k => decide (k = W)) := fun H' x xs _ hx => et_is (et_test (ev_op (ev_var rfl) ev_c (rv_isT (hx _) rfl (by rw [List.all_map]; exact List.all_eq_true.mpr fun _ _ => rfl)))) inV_str
  have teq : ∀ (H' : Hp) (u : List Nat), EvT (tTest (tOp rEq (tVar 0) (tC (.str (S u))))) [some (.str (S W)), some (.ref o.a), some (.ref o.sa), some (.int (o.n : Int)), none] H' (decide (W = u)) := fun H' u => et_is (et_test (ev_op (ev_var rfl) ev_c (rv_eq rfl))) (dec_S _ _)
  have itm : ∀ (H' : Hp), Ex H H' → EvT (tTest (tOp (fun x y H Q => y = .non ∧ Q (.bl (!decide (x = .non))) H) (tFld K (tVar 2) "item") (tC .non))) [some (.str (S W)), some (.ref o.a), some (.ref o.sa), some (.int (o.n : Int)), none] H' (!decide (o.it = .non)) := fun H' e => et_test (ev_op (c_item T (C.ex e) (ev_var (v := .ref o.sa) rfl)) ev_c rv_notN)
  by_cases hpl : ∃ w, l = .plain w
  · obtain ⟨w, rfl⟩ := hpl
    have hWw : w = W := hW
    subst hWw
    have hin : (aloneL.any fun k => decide (k = w)) = true := by
      rcases hw with h | h | h | h <;> subst h <;> decide
    refine q_when (b := true) (et_is (tin H "ALONE" v_ALONE (g_ALONE T) (t_ALONE T)) hin) (fun _ H1 e1 => ?_) fun hb => (Bool.false_ne_true hb.symm).elim
    have fin : ∀ (H3 : Hp), CC K H3 o.A o.L o.n 0 1 fl o.a o.dx o.wl o.ws k o.sa o.ds o.gv o.it o.kvs → o.N H H3 → tRet (tTup (tCons (tVar 0) (tCons (tVar 3) tNil))) { nx := fun _ H' => Q .non H', rt := Q } [some (.str (S w)), some (.ref o.a), some (.ref o.sa), some (.int (o.n : Int)), none] H3 := fun H3 C3 n3 =>
      s_retU (eu_tup (ea_cons (ev_var rfl) (ea_cons (ev_var rfl) ea_nil)) (show 2 ≤ 100000 by decide)) fun p H4 hp e4 h4 => q1 trivial p k H4 (C3.upk.ex e4) hd (n3.trans (Ch.of_ex e4))
    have up1 : CC K H1 o.A o.L o.n 0 1 fl o.a o.dx o.wl o.ws k o.sa o.ds o.gv o.it o.kvs := by
      have C1 := C.ex e1
      obtain ⟨ks, k1, k2⟩ := C1.p.k
      exact ⟨⟨C1.p.r, C1.p.l, C1.p.m, C1.p.f, C1.p.c, C1.p.g, ⟨ks, k1, by omega⟩, C1.p.w, ⟨hb.1, hb.2.1, Nat.le_refl _⟩, C1.p.ne⟩, C1.l, C1.nl, C1.s, C1.g, C1.i⟩
    refine q_when (teq H1 [102, 97, 105, 108]) (fun _ H2 e2 => ?_) fun _ H2 e2 => fin H2 (up1.ex e2) (Ch.of_ex (e1.trans e2))
    have C2 := (C.ex e1).ex e2
    obtain ⟨ks, k1, k2⟩ := C2.p.k
    refine s_app k1 (ev_fld (c_men T C2 (ev_var (v := .ref o.sa) rfl)) C2.p.m (c_Mentions T) (n_Mentions_checked T) rfl) (ev_var (v := .int (o.n : Int)) rfl) (by rw [List.length_map]; omega) fun H3 e3 => ?_
    refine fin _ (C2.chk (ks' := ks ++ [(o.n : Int)]) ((Ch.of_ex e3).set rfl) (by rw [upd_same, List.map_append]; rfl) (by rw [List.length_append]; rw [hek] at k2; simp; omega)) ?_
    exact (Ch.of_ex (M := Mp o.A o.a o.gv) ((e1.trans e2).trans e3)).set (.inr (.inl rfl))
  have hna : (aloneL.any fun k => decide (k = W)) = false := by
    subst hW
    cases l with
    | plain w => exact absurd ⟨w, rfl⟩ hpl
    | leave w => rcases hw with h | h <;> subst h <;> decide
    | set_ b f => cases b <;> rfl
    | _ => rfl
  refine q_when (b := false) (et_is (tin H "ALONE" v_ALONE (g_ALONE T) (t_ALONE T)) hna) (fun hb => (Bool.false_ne_true hb).elim) fun _ H1 e1 => ?_
  have C1 := C.ex e1
  refine q_when (et_and (et_is (tin H1 "LEAVING" v_LEAVING (g_LEAVING T) (t_LEAVING T)) (rfl : (leavL.any fun k => decide (k = W)) = _)) fun _ => itm H1 e1) (fun hbb H2 e2 => ?_) fun hbb H2 e2 => ?_
  · rw [Bool.and_eq_true] at hbb
    obtain ⟨w, rfl⟩ : ∃ w, l = .leave w := by
      subst hW
      cases l with
      | leave w => exact ⟨w, rfl⟩
      | plain w => exact absurd ⟨w, rfl⟩ hpl
      | set_ b f => cases b <;> exact absurd (show false = true from hbb.1) Bool.false_ne_true
      | _ => exact absurd (show false = true from hbb.1) Bool.false_ne_true
    have hit : o.it ≠ .non := by simpa using hbb.2
    exact s_retU (eu_tup (ea_cons (ev_var rfl) (ea_cons (ev_var rfl) ea_nil)) (show 2 ≤ 100000 by decide)) fun p H4 hp e4 h4 => q1 hit p k H4 (CC.upk ((C1.ex e2).ex e4)) hd (Ch.of_ex ((e1.trans e2).trans e4))
  have hlv : ∀ w, l = .leave w → o.it = .non := fun w e => by
    subst e
    have hWw : w = W := hW
    have : (leavL.any fun k => decide (k = W)) = true := by
      rw [← hWw]
      rcases hw with h | h <;> subst h <;> decide
    rw [this] at hbb
    simpa using hbb
  have C2 := C1.ex e2
  have n2 : o.N H H2 := Ch.of_ex (e1.trans e2)
  have e12 := e1.trans e2
  by_cases hst : ∃ b f, l = .set_ b f
  · obtain ⟨b, f, rfl⟩ := hst
    have hWw : W = if b then [115, 101, 116] else [99, 108, 101, 97, 114] := hW.symm
    refine q_when (b := true) (et_is (et_or (teq H2 [115, 101, 116]) fun _ => teq H2 [99, 108, 101, 97, 114]) (by rw [hWw]; cases b <;> decide)) (fun _ H3 e3 => ?_) fun hb => (Bool.false_ne_true hb.symm).elim
    refine c_name T (C2.ex e3) (ev_var (v := .ref o.a) rfl) (show o.ws.drop k = f :: [] from hd) hw fun H4 m4 C4 d4 => ?_
    dsimp only [gName]
    have n4 := (n2.trans (Ch.of_ex e3)).trans (Ob.M.n m4)
    have ret : ∀ (fl' : List (List Nat)) (H5 : Hp), o.C K H5 0 fl' (k + 1) → o.N H H5 → (f ∈ fl ∨ fl.length < 3) → fl' = flA fl f → tRet (tTup (tCons (tC (.str "set")) (tCons (tVar 3) (tCons (tVar 4) (tCons (tOp rEq (tVar 0) (tC (.str "set"))) tNil))))) { nx := fun _ H' => Q .non H', rt := Q } [some (.str (S W)), some (.ref o.a), some (.ref o.sa), some (.int (o.n : Int)), some (.str (S f))] H5 := fun fl' H5 C5 n5 hok efl => by
      refine s_retU (eu_tup (ea_cons ev_c (ea_cons (ev_var rfl) (ea_cons (ev_var rfl) (ea_cons (ev_op (ev_var rfl) ev_c (rv_eq rfl)) ea_nil)))) (show 4 ≤ 100000 by decide)) fun p H6 hp e6 h6 => q1 hok p _ _ ?_ d4 (n5.trans (Ch.of_ex e6))
      show CC K H6 o.A o.L o.n 1 1 (flA fl f) _ _ _ _ _ _ _ _ _ _
      rw [← efl]
      exact CC.upk (C5.ex e6)
    refine go_m (c_men T C4 (ev_var (v := .ref o.sa) rfl)) C4.p.m rfl (ea_cons (ev_var rfl) ea_nil) fun H5 e5 => ⟨_, _, rfl, o.A.ma, o.A.dm, o.A.fa, o.A.ca, o.A.ga, o.A.ka, fl, f, rfl, e5 _ _ C4.p.m, e5 _ _ C4.p.g.1, C4.p.g.2, rfl, fun hin H6 e6 => ?_, fun hin hl H6 c6 h6 => ?_, fun hin hl H6 e6 => ?_⟩
    · exact ret fl H6 ((C4.ex e5).ex e6) ((n4.trans (Ch.of_ex e5)).trans (Ch.of_ex e6)) (.inl hin) (by rw [flA, if_pos hin])
    · exact ret (fl ++ [f]) H6 ((C4.ex e5).flag c6 h6 (by rw [List.length_append]; simp; omega)) ((n4.trans (Ch.of_ex e5)).trans (Ob.M.n (Mc.lg c6))) (.inr hl) (by rw [flA, if_neg hin])
    · exact (q2 (fun h => by rcases h with h | h; exact hin h; omega)).1 H6 ((n4.trans (Ch.of_ex e5)).trans (Ch.of_ex e6))
  have hns : (decide (W = [115, 101, 116]) || decide (W = [99, 108, 101, 97, 114])) = false := by
    subst hW
    cases l with
    | plain w => exact absurd ⟨w, rfl⟩ hpl
    | set_ b f => exact absurd ⟨b, f, rfl⟩ hst
    | leave w => rcases hw with h | h <;> subst h <;> decide
    | _ => rfl
  refine q_when (b := false) (et_is (et_or (teq H2 [115, 101, 116]) fun _ => teq H2 [99, 108, 101, 97, 114]) hns) (fun hb => (Bool.false_ne_true hb).elim) fun _ H3 e3 => ?_
  have C3 := C2.ex e3
  have n3 : o.N H H3 := n2.trans (Ch.of_ex e3)
  have e13 := e12.trans e3
  have no : ∀ (H' : Hp) (u : List Nat), W ≠ u → EvT (tTest (tOp rEq (tVar 0) (tC (.str (S u))))) [some (.str (S W)), some (.ref o.a), some (.ref o.sa), some (.int (o.n : Int)), none] H' false := fun H' u h => et_is (teq H' u) (decide_eq_false h)
  have ye : ∀ (H' : Hp) (u : List Nat), W = u → EvT (tTest (tOp rEq (tVar 0) (tC (.str (S u))))) [some (.str (S W)), some (.ref o.a), some (.ref o.sa), some (.int (o.n : Int)), none] H' true := fun H' u h => et_is (teq H' u) (decide_eq_true h)
  cases l with
  | plain w => exact absurd ⟨w, rfl⟩ hpl
  | set_ b f => exact absurd ⟨b, f, rfl⟩ hst
  | call n vs =>
    have hWw : W = [99, 97, 108, 108] := hW.symm
    have hd' : o.ws.drop k = n :: [40] :: (ctoks vs ++ [41] :: []) := hd
    refine q_when (b := true) (ye H3 [99, 97, 108, 108] hWw) (fun _ H4 e4 => ?_) fun hb => (Bool.false_ne_true hb.symm).elim
    refine ⟨_, rfl, ?_⟩
    dsimp only [tCons, tNil]
    refine go_f (ea_cons (ev_var (v := .ref o.a) rfl) (ea_cons (ev_var (v := .ref o.sa) rfl) ea_nil)) fun H5 e5 => ⟨_, _, rfl, o, fl, k, n, vs, [], rfl, rfl, (C3.ex e4).ex e5, hw.1, hd', hw.2.1, hw.2.2, fun hk j H6 C6 d6 m6 => ⟨show 3 ≤ sizeLine by decide, fun p hp => ?_⟩, fun hk H6 m6 => (q2 hk).1 H6 ((n3.trans (Ch.of_ex (e4.trans e5))).trans (Ob.M.n m6))⟩
    exact q1 hk p j _ (CC.upk (C6.ex (Ex.new hp))) d6 (((n3.trans (Ch.of_ex (e4.trans e5))).trans (Ob.M.n m6)).trans (Ch.of_ex (Ex.new hp)))
  | let_ n c vs =>
    have hWw : W = [108, 101, 116] := hW.symm
    refine q_when (b := false) (no H3 [99, 97, 108, 108] (by rw [hWw]; decide)) (fun hb => (Bool.false_ne_true hb).elim) fun _ H4 e4 => ?_
    refine q_when (b := true) (ye H4 [108, 101, 116] hWw) (fun _ H5 e5 => ?_) fun hb => (Bool.false_ne_true hb.symm).elim
    exact go_f (ea_cons (ev_var (v := .ref o.a) rfl) (ea_cons (ev_var (v := .ref o.sa) rfl) (ea_cons (ev_var rfl) ea_nil))) fun H6 e6 => ⟨_, _, _, rfl, o, fl, k, n, c, vs, rfl, rfl, rfl, ((C3.ex e4).ex e5).ex e6, hg.fwd C (n3.trans (Ch.of_ex ((e4.trans e5).trans e6))), hkl, hw, hd, fun hk p j H7 C7 d7 n7 => q1 hk p j H7 C7 d7 ((n3.trans (Ch.of_ex ((e4.trans e5).trans e6))).trans n7), fun hk => ⟨fun H7 n7 => (q2 hk).1 H7 ((n3.trans (Ch.of_ex ((e4.trans e5).trans e6))).trans n7), fun p j H7 C7 d7 n7 => (q2 hk).2 p j H7 C7 d7 ((n3.trans (Ch.of_ex ((e4.trans e5).trans e6))).trans n7)⟩⟩
  | chk neg t =>
    have hWw : W = wAssert := hW.symm
    refine q_when (b := false) (no H3 [99, 97, 108, 108] (by rw [hWw]; decide)) (fun hb => (Bool.false_ne_true hb).elim) fun _ H4 e4 => ?_
    refine q_when (b := false) (no H4 [108, 101, 116] (by rw [hWw]; decide)) (fun hb => (Bool.false_ne_true hb).elim) fun _ H5 e5 => ?_
    refine q_when (b := true) (ye H5 wAssert hWw) (fun _ H6 e6 => ?_) fun hb => (Bool.false_ne_true hb.symm).elim
    exact go_f (ea_cons (ev_var (v := .ref o.a) rfl) (ea_cons (ev_var (v := .ref o.sa) rfl) (ea_cons (ev_var rfl) ea_nil))) fun H7 e7 => ⟨_, _, _, rfl, o, fl, k, .chk neg t, rfl, rfl, rfl, hek, (((C3.ex e4).ex e5).ex e6).ex e7, hw, rfl, hd, fun hk p j H8 C8 d8 n8 => q1 hk p j H8 C8 d8 ((n3.trans (Ch.of_ex (((e4.trans e5).trans e6).trans e7))).trans n8), fun hk => ⟨fun H8 n8 => (q2 hk).1 H8 ((n3.trans (Ch.of_ex (((e4.trans e5).trans e6).trans e7))).trans n8), fun p j H8 C8 d8 n8 => (q2 hk).2 p j H8 C8 d8 ((n3.trans (Ch.of_ex (((e4.trans e5).trans e6).trans e7))).trans n8)⟩⟩
  | note n =>
    have hWw : W = wAssert := hW.symm
    refine q_when (b := false) (no H3 [99, 97, 108, 108] (by rw [hWw]; decide)) (fun hb => (Bool.false_ne_true hb).elim) fun _ H4 e4 => ?_
    refine q_when (b := false) (no H4 [108, 101, 116] (by rw [hWw]; decide)) (fun hb => (Bool.false_ne_true hb).elim) fun _ H5 e5 => ?_
    refine q_when (b := true) (ye H5 wAssert hWw) (fun _ H6 e6 => ?_) fun hb => (Bool.false_ne_true hb.symm).elim
    exact go_f (ea_cons (ev_var (v := .ref o.a) rfl) (ea_cons (ev_var (v := .ref o.sa) rfl) (ea_cons (ev_var rfl) ea_nil))) fun H7 e7 => ⟨_, _, _, rfl, o, fl, k, .note n, rfl, rfl, rfl, hek, (((C3.ex e4).ex e5).ex e6).ex e7, hw, rfl, hd, fun hk p j H8 C8 d8 n8 => q1 hk p j H8 C8 d8 ((n3.trans (Ch.of_ex (((e4.trans e5).trans e6).trans e7))).trans n8), fun hk => ⟨fun H8 n8 => (q2 hk).1 H8 ((n3.trans (Ch.of_ex (((e4.trans e5).trans e6).trans e7))).trans n8), fun p j H8 C8 d8 n8 => (q2 hk).2 p j H8 C8 d8 ((n3.trans (Ch.of_ex (((e4.trans e5).trans e6).trans e7))).trans n8)⟩⟩
  | asm t =>
    have hWw : W = [97, 115, 115, 117, 109, 101] := hW.symm
    refine q_when (b := false) (no H3 [99, 97, 108, 108] (by rw [hWw]; decide)) (fun hb => (Bool.false_ne_true hb).elim) fun _ H4 e4 => ?_
    refine q_when (b := false) (no H4 [108, 101, 116] (by rw [hWw]; decide)) (fun hb => (Bool.false_ne_true hb).elim) fun _ H5 e5 => ?_
    refine q_when (b := false) (no H5 wAssert (by rw [hWw]; decide)) (fun hb => (Bool.false_ne_true hb).elim) fun _ H6 e6 => ?_
    refine q_when (b := true) (ye H6 [97, 115, 115, 117, 109, 101] hWw) (fun _ H7 e7 => ?_) fun hb => (Bool.false_ne_true hb.symm).elim
    have hd' : o.ws.drop k = cnd false t ++ [] := by rw [List.append_nil]; exact hd
    have C7 := (((C3.ex e4).ex e5).ex e6).ex e7
    have n7 := n3.trans (Ch.of_ex (((e4.trans e5).trans e6).trans e7))
    refine ⟨_, rfl, ?_⟩
    dsimp only [tCons, tNil]
    refine go_f (ea_cons (ev_var (v := .ref o.a) rfl) (ea_cons (ev_var (v := .ref o.sa) rfl) ea_nil)) fun H8 e8 => ⟨_, _, rfl, o, fl, k, false, t, [], rfl, rfl, C7.ex e8, hw, hd', .inl rfl, fun hk v j H9 _ C9 d9 m9 => ⟨show 3 ≤ sizeLine by decide, fun p hp => ?_⟩, fun hk => ⟨fun H9 m9 => (q2 hk).1 H9 ((n7.trans (Ch.of_ex e8)).trans (Ob.M.n m9)), fun v j r H9 _ C9 d9 hr m9 => ⟨show 3 ≤ sizeLine by decide, fun p hp => ?_⟩⟩⟩
    · exact q1 hk p j _ (CC.upk (C9.ex (Ex.new hp))) d9 (((n7.trans (Ch.of_ex e8)).trans (Ob.M.n m9)).trans (Ch.of_ex (Ex.new hp)))
    · exact (q2 hk).2 p j _ (CC.upk (C9.ex (Ex.new hp))) (by rw [d9]; exact stub_ne hr) (((n7.trans (Ch.of_ex e8)).trans (Ob.M.n m9)).trans (Ch.of_ex (Ex.new hp)))
  | leave w =>
    have hit := hlv w rfl
    have hWw : W = w := hW.symm
    have nn : ∀ u : List Nat, u ∉ leavL → W ≠ u := fun u hu e => hu (by
      rw [← e, hWw]
      rcases hw with h | h <;> subst h <;> decide)
    refine q_when (b := false) (no H3 [99, 97, 108, 108] (nn _ (by decide))) (fun hb => (Bool.false_ne_true hb).elim) fun _ H4 e4 => ?_
    refine q_when (b := false) (no H4 [108, 101, 116] (nn _ (by decide))) (fun hb => (Bool.false_ne_true hb).elim) fun _ H5 e5 => ?_
    refine q_when (b := false) (no H5 wAssert (nn _ (by decide))) (fun hb => (Bool.false_ne_true hb).elim) fun _ H6 e6 => ?_
    refine q_when (b := false) (no H6 [97, 115, 115, 117, 109, 101] (nn _ (by decide))) (fun hb => (Bool.false_ne_true hb).elim) fun _ H7 e7 => ?_
    exact (q2 fun h => h hit).1 H7 (n3.trans (Ch.of_ex (((e4.trans e5).trans e6).trans e7)))
end WP
set_option Elab.async false
set_option linter.all false
set_option maxRecDepth 100000
set_option maxHeartbeats 4000000
/-! the stack machine: which lines stand -/
namespace WP
open PySem PySem.Spec PyProof.Rows L2 Evl SX
inductive BK where | test | if_ | raises | try_ | for_
  deriving DecidableEq
inductive PH where | rows | else_ | except_
  deriving DecidableEq
structure Blk where
  (kind : BK) (ph : PH) (ns its : List (List Nat))
structure LS where
  (stk : List Blk) (fl : List (List Nat)) (many : Nat)
def seenN (s : List Blk) : List (List Nat) := s.flatMap Blk.ns
def itemsN (s : List Blk) : List (List Nat) := s.flatMap Blk.its
def Th.okL (its sn : List (List Nat)) : Th → Prop
  | .call _ _ => its = []
  | .name n => its = [] ∧ n ∈ sn
def Su.okL (its sn : List (List Nat)) : Su → Prop
  | .th (.call _ _) => its = []
  | .th (.name n) => if its = [] then n ∈ sn else n ∈ its
  | .it0 n => its = [] ∧ n ∈ sn
def At.okL (its sn fl : List (List Nat)) : At → Prop
  | .on f => f ∈ fl ∨ fl.length < 3
  | .len n => its = [] ∧ n ∈ sn
  | .inn t => t.okL its sn
  | .su t => t.okL its sn
  | .eq1 n => (Su.th (.name n)).okL its sn
  | .wd n => (Su.th (.name n)).okL its sn
def Pk.okL (its sn fl : List (List Nat)) : Pk → Prop
  | .plain _ => True
  | .leave _ => its ≠ []
  | .set_ _ f => f ∈ fl ∨ fl.length < 3
  | .call _ _ => its = []
  | .let_ n _ _ => its = [] ∧ n ∉ sn
  | .chk _ t => t.okL its sn fl
  | .note n => (At.wd n).okL its sn fl
  | .asm t => t.okL its sn fl
inductive LK where
  | row (p : Pk)
  | end_ | except_ | else_
  | if_ (neg : Bool) (t : At)
  | raises_ | try_
  | for_ (n : List Nat) (t : Th)
  | test
def LK.toks : LK → List (List Nat)
  | .row p => p.word :: p.args
  | .end_ => [[101, 110, 100]]
  | .except_ => [[101, 120, 99, 101, 112, 116], [77, 105, 115, 117, 115, 101]]
  | .else_ => [[101, 108, 115, 101]]
  | .if_ neg t => [105, 102] :: cnd neg t
  | .raises_ => [[114, 97, 105, 115, 101, 115], [69, 114, 114, 111, 114]]
  | .try_ => [[116, 114, 121]]
  | .for_ n t => [102, 111, 114] :: n :: [105, 110] :: t.toks
  | .test => [[116, 101, 115, 116], [97]]
def LK.wf : LK → Prop
  | .row p => p.wf
  | .if_ _ t => t.wf
  | .for_ n t => isNm n = true ∧ t.wf
  | _ => True
def LS.stands (st : LS) (l : LK) : Prop := st.many ≠ 40 ∧ ∃ base b, st.stk = base ++ [b] ∧ match l with
  | .row p => p.okL (itemsN st.stk) (seenN st.stk) st.fl
  | .if_ _ t => st.stk.length ≤ 6 ∧ t.okL (itemsN st.stk) (seenN st.stk) st.fl
  | .raises_ => st.stk.length ≤ 6
  | .try_ => st.stk.length ≤ 6
  | .for_ n t => st.stk.length ≤ 6 ∧ itemsN st.stk = [] ∧ n ∉ seenN st.stk ∧ t.okL (itemsN st.stk) (seenN st.stk)
  | .else_ => b.kind = .if_ ∧ b.ph = .rows ∨ b.kind = .try_ ∧ b.ph = .except_
  | .except_ => b.kind = .try_ ∧ b.ph ≠ .else_
  | .end_ => ¬ (b.kind = .try_ ∧ b.ph = .rows)
  | .test => False
/-- the last block changed, taken away -/
def topTo (s : List Blk) (f : Blk → Blk) : List Blk := match s.getLast? with | some b => s.dropLast ++ [f b] | none => s
def LS.after (st : LS) (l : LK) : LS := match l with
  | .row p => ⟨match p with | .let_ n _ _ => topTo st.stk fun b => { b with ns := b.ns ++ [n] } | _ => st.stk, p.fl st.fl, st.many + 1⟩
  | .if_ _ t => ⟨st.stk ++ [⟨.if_, .rows, [], []⟩], t.fl st.fl, st.many + 1⟩
  | .raises_ => ⟨st.stk ++ [⟨.raises, .rows, [], []⟩], st.fl, st.many + 1⟩
  | .try_ => ⟨st.stk ++ [⟨.try_, .rows, [], []⟩], st.fl, st.many + 1⟩
  | .for_ n _ => ⟨st.stk ++ [⟨.for_, .rows, [], [n]⟩], st.fl, st.many + 1⟩
  | .else_ => ⟨topTo st.stk fun b => ⟨b.kind, .else_, [], []⟩, st.fl, st.many + 1⟩
  | .except_ => ⟨topTo st.stk fun b => ⟨b.kind, .except_, [], []⟩, st.fl, st.many + 1⟩
  | .end_ => ⟨st.stk.dropLast, st.fl, st.many + 1⟩
  | .test => st
inductive Runs (Ls : List LK) : LS → LS → Prop
  | refl (st : LS) : Runs Ls st st
  | step {st st' : LS} {l : LK} (h : Ls[st.many]? = some l) (hs : st.stands l) (r : Runs Ls (st.after l) st') : Runs Ls st st'
theorem Runs.trans {Ls : List LK} {a b c : LS} (h : Runs Ls a b) (h2 : Runs Ls b c) : Runs Ls a c := by
  induction h with
  | refl => exact h2
  | step h hs _ ih => exact .step h hs (ih h2)
theorem LS.many_le (st : LS) (l : LK) : st.many ≤ (st.after l).many := by
  cases l <;> first
    | exact Nat.le_succ _
    | exact Nat.le_refl _
theorem Runs.le {Ls : List LK} {a b : LS} (h : Runs Ls a b) : a.many ≤ b.many := by
  induction h with
  | refl => exact Nat.le_refl _
  | step h hs _ ih => exact Nat.le_trans (LS.many_le _ _) ih
theorem LS.many_s (st : LS) (l : LK) (h : l ≠ .test) : (st.after l).many = st.many + 1 := by
  cases l <;> first
    | rfl
    | exact absurd rfl h
theorem Runs.bd {Ls : List LK} {a b : LS} (h : Runs Ls a b) (h0 : a.many ≤ Ls.length) : b.many ≤ Ls.length := by
  induction h with
  | refl => exact h0
  | @step st _ l h hs _ ih =>
    refine ih ?_
    have := (List.getElem?_eq_some_iff.mp h).1
    rw [LS.many_s _ _ (fun z => by subst z; obtain ⟨_, _, _, _, f⟩ := hs; exact f)]
    exact this
theorem Runs.one {Ls : List LK} {st : LS} {l : LK} (h : Ls[st.many]? = some l) (hs : st.stands l) : Runs Ls st (st.after l) := .step h hs (.refl _)
/-- no further line stands -/
def Stuck (Ls : List LK) (st : LS) : Prop := ∀ l, Ls[st.many]? = some l → ¬ st.stands l
theorem topTo_snoc {b : Blk} {s : List Blk} {f : Blk → Blk} : topTo (s ++ [b]) f = s ++ [f b] := by
  unfold topTo
  rw [List.getLast?_concat, List.dropLast_concat]
theorem seenN_snoc {b : Blk} {s : List Blk} : seenN (s ++ [b]) = seenN s ++ b.ns := by simp [seenN]
theorem itemsN_snoc {b : Blk} {s : List Blk} : itemsN (s ++ [b]) = itemsN s ++ b.its := by simp [itemsN]
/-- a scope shows what the stack shows -/
structure Mt (s : List Blk) (it : V) (kvs : List (Key × V)) : Prop where
  sn : ∀ n, seen kvs n ↔ n ∈ seenN s
  im : (it = .non ∧ itemsN s = []) ∨ ∃ n, isNm n = true ∧ it = .str (S n) ∧ itemsN s = [n]
section
variable {s : List Blk} {it : V} {kvs : List (Key × V)} {fl : List (List Nat)}
theorem Mt.non (h : Mt s it kvs) : it = .non ↔ itemsN s = [] := by
  rcases h.im with ⟨h1, h2⟩ | ⟨n, _, h1, h2⟩
  · exact ⟨fun _ => h2, fun _ => h1⟩
  · rw [h1, h2]
    exact ⟨fun h => (nomatch h), fun h => (nomatch h)⟩
theorem Mt.th (h : Mt s it kvs) (t : Th) : t.ok it kvs ↔ t.okL (itemsN s) (seenN s) := by
  cases t with
  | call n vs => exact h.non
  | name n => exact and_congr h.non (h.sn n)
theorem Mt.su (h : Mt s it kvs) (t : Su) : t.ok it kvs ↔ t.okL (itemsN s) (seenN s) := by
  cases t with
  | th t =>
    cases t with
    | call n vs => exact h.non
    | name n =>
      show (if it = .non then seen kvs n else it = .str (S n)) ↔ (if itemsN s = [] then n ∈ seenN s else n ∈ itemsN s)
      rcases h.im with ⟨h1, h2⟩ | ⟨m, _, h1, h2⟩
      · rw [if_pos h1, if_pos h2]
        exact h.sn n
      · rw [if_neg (by rw [h1]; intro z; cases z), if_neg (by rw [h2]; simp), h1, h2, List.mem_singleton]
        exact ⟨fun e => (S_inj (V.str.inj e)).symm, fun e => by rw [e]⟩
  | it0 n => exact and_congr h.non (h.sn n)
theorem Mt.at_ (h : Mt s it kvs) (t : At) : t.ok it kvs fl ↔ t.okL (itemsN s) (seenN s) fl := by
  cases t with
  | on f => exact Iff.rfl
  | len n => exact and_congr h.non (h.sn n)
  | inn t => exact h.th t
  | su t => exact h.su t
  | eq1 n => exact h.su (.th (.name n))
  | wd n => exact h.su (.th (.name n))
theorem Mt.pk (h : Mt s it kvs) (p : Pk) : p.ok it kvs fl ↔ p.okL (itemsN s) (seenN s) fl := by
  cases p with
  | plain w => exact Iff.rfl
  | leave w => exact not_congr h.non
  | set_ b f => exact Iff.rfl
  | call n vs => exact h.non
  | let_ n c vs => exact and_congr h.non (not_congr (h.sn n))
  | chk neg t => exact h.at_ t
  | note n => exact h.at_ (fl := fl) (.wd n)
  | asm t => exact h.at_ t
theorem Mt.put {b : Blk} (h : Mt (s ++ [b]) it kvs) (n : List Nat) (v : V) : Mt (s ++ [{ b with ns := b.ns ++ [n] }]) it (putK kvs (.inr (S n)) v) := by
  refine ⟨fun m => ?_, ?_⟩
  · have e := h.sn m
    rw [seenN_snoc] at e ⊢
    show (valV (putK kvs (.inr (S n)) v) (.inr (S m))).isSome = true ↔ m ∈ seenN s ++ (b.ns ++ [n])
    rw [valV_put]
    by_cases hm : m = n
    · subst hm
      rw [if_pos rfl]
      simp
    · rw [if_neg (fun z => hm (S_inj (Sum.inr.inj z)))]
      show seen kvs m ↔ _
      rw [e]
      simp [hm]
  · have e := h.im
    rw [itemsN_snoc] at e ⊢
    exact e
theorem Mt.inner (h : Mt s it kvs) (k : BK) (ph : PH) : Mt (s ++ [⟨k, ph, [], []⟩]) it kvs := by
  refine ⟨fun m => ?_, ?_⟩
  · rw [seenN_snoc, List.append_nil]
    exact h.sn m
  · rw [itemsN_snoc, List.append_nil]
    exact h.im
theorem Mt.innerI (h : Mt s .non kvs) {n : List Nat} (hn : isNm n = true) : Mt (s ++ [⟨.for_, .rows, [], [n]⟩]) (.str (S n)) kvs := by
  refine ⟨fun m => ?_, .inr ⟨n, hn, rfl, ?_⟩⟩
  · rw [seenN_snoc, List.append_nil]
    exact h.sn m
  · rw [itemsN_snoc, h.non.mp rfl]
    rfl
end
/-- the texts of the lines -/
structure Txs (Ls : List LK) (L : List (List Nat)) : Prop where
  len : L.length = Ls.length
  t1 : ∀ i, Ls[i]? = some .test → i = 0
  ln : ∀ (i : Nat) (l : LK), Ls[i]? = some l → l.wf ∧ LnB l.toks ∧ ∃ x, L[i]? = some x ∧ x.length ≤ 40000 ∧ Tk x l.toks
end WP
set_option Elab.async false
set_option linter.all false
set_option maxRecDepth 100000
set_option maxHeartbeats 4000000
/-! the reader: making, the coming line, accepting -/
namespace WP
open PySem PySem.Spec PyProof.Rows L2 Evl SX
variable {w : World} {K : PySem.W.Frag} {mg : Str → Option Value} {base : Heap}
section
variable {K : PySem.W.Frag} {σ : L2.St} {H : Hp} {ta te : TE} {t : TA} {l C : Addr} {xs vs : List V} {sp : Sp} {E : XK} {Q : VK} {D : Ends} {tz : TS}
theorem go_k (ha : EvA t σ H vs) (h : ∀ H1, Ex H H1 → ∀ x dx, H1 x = none → H1 dx = none → dx ≠ x → sp (.ref x :: vs) (upd (upd H1 dx (.own x)) x (.ins C dx [])) (fun v H2 => v = .non ∧ Q (.ref x) H2) E) : StX.tMakeR C sp E t σ H Q :=
  ha H (Ex.refl _) _ fun H1 e1 => h H1 e1
theorem q_appD (ha : Ev ta σ H (.ref l)) (hl : H l = some (.lst xs)) (h : ∀ H1, Ex H H1 → te σ H1 fun y H2 => H2 l = some (.lst xs) ∧ xs.length < sizeLine ∧ tz D σ (upd H2 l (.lst (xs ++ [y])))) (hm : ∀ (P R : VK) H1, (∀ v H2, P v H2 → R v H2) → te σ H1 P → te σ H1 R) :
    tSeq (tDrop (tBM K "list" rAppend ta (tCons te tNil))) tz D σ H :=
  ha H (Ex.refl _) _ fun H1 e1 => ⟨Or.inl ⟨rfl, xs, sq_of (e1 _ _ hl)⟩, hm _ _ H1 (fun y H2 ⟨a, b, c⟩ => ⟨l, xs, y, rfl, rfl, a, b, c⟩) (h H1 e1)⟩
end
/-- the line's list stands apart from the reader's -/
def Apart (A : PA) (wl : Addr) : Prop := wl ≠ A.ca ∧ wl ≠ A.ga ∧ wl ≠ A.ka ∧ wl ≠ A.wa
def sp_RowReader_init : Sp := sp3 fun self lines fam H Q _ => ∃ (a dx la fa : Addr) (L : List (List Nat)), self = .ref a ∧ H a = some (.ins (He.ga K "RowReader") dx []) ∧ lines = .ref la ∧ H la = some (.lst (stV L)) ∧ fam = .ref fa ∧ FamH K H fa ∧
  ∀ (A : PA) H', A.r = a ∧ A.la = la ∧ A.fa = fa ∧ H A.ma = none ∧ H A.ca = none ∧ H A.ga = none ∧ H A.ka = none ∧ H A.wa = none → Ch (fun x => x = a) H H' → PInv K H' A L 0 0 0 [] → Q .non H'
def sp_coming : Sp := sp1 fun self H Q E => ∃ (A : PA) (L : List (List Nat)) (n ec ek : Nat) (fl : List (List Nat)), self = .ref A.r ∧ PInv K H A L n ec ek fl ∧
  (∀ x ts, L[n]? = some x → n ≠ 40 → x.length ≤ 40000 → Tk x ts → LnB ts → ∀ (a dx wl : Addr) H', H a = none → H wl = none → Ex H H' → LnH K H' a dx wl ts 0 → Q (.ref a) H') ∧ (n = L.length ∨ n = 40 → ∀ H', Ex H H' → Mis K E H') ∧
  (n ≠ L.length → n ≠ 40 → ∃ x ts, L[n]? = some x ∧ x.length ≤ 40000 ∧ Tk x ts ∧ LnB ts)
def sp_accept : Sp := sp3 fun self ln dp H Q E => ∃ (A : PA) (L : List (List Nat)) (n ec ek : Nat) (fl : List (List Nat)) (a dx wl : Addr) (ws : List (List Nat)) (k d : Nat), self = .ref A.r ∧ ln = .ref a ∧ dp = .int (d : Int) ∧ d ≤ 100 ∧ n < 40 ∧ PInv K H A L n ec ek fl ∧ LnH K H a dx wl ws k ∧
  (ws.drop k = [] → ∀ H', Ch (fun x => x = A.wa ∨ x = A.r) H H' → PInv K H' A L (n + 1) 0 0 fl → Q (.int (n : Int)) H') ∧ (ws.drop k ≠ [] → ∀ H', Ex H H' → Mis K E H')
theorem rd_fld (T : TT K mg) {te : TE} {σ : L2.St} {H : Hp} {A : PA} {L : List (List Nat)} {n ec ek : Nat} {fl : List (List Nat)} (P : PInv K H A L n ec ek fl) (h : Ev te σ H (.ref A.r)) :
    Ev (tFld K te "lines") σ H (.ref A.la) ∧ Ev (tFld K te "at") σ H (.int (n : Int)) ∧ Ev (tFld K te "mentions") σ H (.ref A.ma) ∧ Ev (tFld K te "written") σ H (.ref A.wa) :=
  ⟨ev_fld h P.r (c_RowReader T) (n_RowReader_lines T) rfl, ev_fld h P.r (c_RowReader T) (n_RowReader_at T) rfl, ev_fld h P.r (c_RowReader T) (n_RowReader_mentions T) rfl, ev_fld h P.r (c_RowReader T) (n_RowReader_written T) rfl⟩
theorem o_RowReader_coming (T : TT K mg) : MetX PW w K mg base (CXM w) 6 (He.ga K "RowReader") "coming" (sp_coming (K := K)) := by
  obtain ⟨fd, F⟩ := f_RowReader_coming T
  refine ⟨_, mk1 F (b_RowReader_coming F) sc_RowReader_coming fun a cdv A outer s H Q E hr h => ⟨_, (pss_cons (ps_if (L2.PW.pt (pw_or (pt_cmpR op_eq (pe_fld (pv 0) rfl) (pe_callB (id := "len") call_len_seq rfl (z_len T) (by decide +kernel) (pa_cons (pe_fld (pv 0) rfl) pa_nil)) (nomark _)) (pw_or1 (pt_cmpR op_eq (pe_fld (pv 0) rfl) (wgi (i_MOST_LINES T)) (nomark _))))) (pss_one (ps_misread T)) pss_nil)
        (pss_one (ps_ret (wk (o_Line_init T) hr (by decide) pass0 (pa_cons (pe_ix ix_list (pe_fld (pv 0) rfl) (pe_fld (pv 0) rfl) (fun _ _ => rfl)) pa_nil))))), ?_⟩, c_RowReader T, m_RowReader_coming T⟩
  obtain ⟨A, L, n, ec, ek, fl, rfl, P, q1, q2, q3⟩ := h
  obtain ⟨f1, f2, _, _⟩ := rd_fld T P (te := tVar 0) (σ := [some (.ref A.r)]) (ev_var rfl)
  refine q_when (b := decide (n = L.length) || decide (n = 40)) (et_or (et_is (et_test (ev_op f2 (ev_len f1 (sq_of P.l)) (rv_eq rfl))) ?_) fun _ => et_is (et_test (ev_op f2 ev_c (rv_eq rfl))) ?_) (fun hb H1 e1 => ?_) fun hb H1 e1 => ?_
  · rw [dec_int, stV, List.length_map, Bool.eq_iff_iff]
    simp
    omega
  · rw [dec_int, Bool.eq_iff_iff]
    simp
    omega
  · refine q2 ?_ H1 e1
    rw [Bool.or_eq_true] at hb
    exact hb.imp of_decide_eq_true of_decide_eq_true
  · rw [Bool.or_eq_false_iff] at hb
    have h1 := of_decide_eq_false hb.1
    have h2 := of_decide_eq_false hb.2
    obtain ⟨x, ts, hx, hl, ht, hbd⟩ := q3 h1 h2
    have P1 := P.ex e1
    obtain ⟨g1, g2, _, _⟩ := rd_fld T P1 (te := tVar 0) (σ := [some (.ref A.r)]) (ev_var rfl)
    have ea : EvA (tCons (tOp (rIxL K) (tFld K (tVar 0) "lines") (tFld K (tVar 0) "at")) tNil) [some (.ref A.r)] H1 [.str (S x)] := ea_cons (ev_op g1 g2 (rv_ixL (sq_of P1.l) (atI_nat (by rw [stV, List.getElem?_map, hx]; rfl)))) ea_nil
    refine go_k ea fun H2 e2 a dx ha hdx hne => ?_
    have e3 : Ex H2 (upd (upd H2 dx (.own a)) a (.ins (He.ga K "Line") dx [])) := fun y o e => by
      rw [upd_ne (ne_of_none e ha), upd_ne (ne_of_none e hdx)]
      exact e
    refine ⟨_, _, rfl, a, dx, x, ts, rfl, rfl, upd_same, hl, ht, hbd, fun wl H3 hwl c3 l3 => ⟨rfl, ?_⟩⟩
    have hwl2 : H2 wl = none := fresh_back e3 hwl
    refine q1 x ts hx h2 hl ht hbd a dx wl H3 (fresh_back (e1.trans e2) ha) (fresh_back (e1.trans e2) hwl2) ?_ l3
    exact fun y o e => c3 _ _ (e3 _ _ ((e1.trans e2) _ _ e)) (ne_of_none ((e1.trans e2) _ _ e) ha)
theorem o_RowReader_accept (T : TT K mg) : MetX PW w K mg base (CXM w) 6 (He.ga K "RowReader") "accept" (sp_accept (K := K)) := by
  obtain ⟨fd, F⟩ := f_RowReader_accept T
  refine ⟨_, mk3 F (b_RowReader_accept F) sc_RowReader_accept fun a b c cdv A outer s H Q E hr h => ⟨_, (pss_cons (ps_expr (wm0 (o_Line_finish T) hr (by decide) passE (pv 1)))
        (pss_cons (ps_expr (pe_bm PySem.F.plainAttrs_list PySem.F.slot_list_append PySem.F.type_list_append mt_append (pe_fld (pv 0) rfl) (pa_cons (pe_op op_add_str (pe_op op_mulS pe_str (pv 2)) (wc (o_spaced T) hr (by decide) pass0 (pa_cons (pe_fld (pv 1) rfl) pa_nil))) pa_nil)))
        (pss_cons (ps_fldaug (pv 0) pe_int in_add)
        (pss_one (ps_ret (pe_op op_sub (pe_fld (pv 0) rfl) pe_int)))))), ?_⟩, c_RowReader T, m_RowReader_accept T⟩
  obtain ⟨A, L, n, ec, ek, fl, a, dx, wl, ws, k, d, rfl, rfl, rfl, hd, hn, P, l, q1, q2⟩ := h
  refine go_m (ev_var (v := .ref a) rfl) l.ob rfl ea_nil fun H1 e1 => ⟨_, rfl, a, dx, wl, ws, k, rfl, l.ex e1, fun hk H2 e2 => ?_, fun hk H2 e2 => q2 (fun z => by have := List.drop_eq_nil_iff.mp z; omega) H2 (e1.trans e2)⟩
  have hdr : ws.drop k = [] := List.drop_eq_nil_of_le hk
  have P2 := (P.ex e1).ex e2
  have l2 := (l.ex e1).ex e2
  obtain ⟨zs, w1, w2⟩ := P2.w
  obtain ⟨_, _, _, f4⟩ := rd_fld T P2 (te := tVar 0) (σ := [some (.ref A.r), some (.ref a), some (.int (d : Int))]) (ev_var rfl)
  dsimp only
  dsimp only [tSeq, tDrop, tBM, tCons, tNil, tOp]
  refine f4 H2 (Ex.refl _) _ fun H3 e3 => ⟨Or.inl ⟨rfl, _, sq_of (e3 _ _ w1)⟩, ?_⟩
  refine ⟨_, rfl, S [32, 32], (d : Int), rfl, rfl, by omega, by omega, by decide, fun u hu => ?_⟩
  refine go_f (ea_cons (ev_fld (ev_var (v := .ref a) rfl) (l2.ex e3).ob (c_Line T) (n_Line_words T) rfl) ea_nil) fun H4 e4 => ⟨_, rfl, wl, ws, rfl, sq_of ((l2.ex e3).ex e4).wd, l.bd.1, l.bd.2, fun z H5 hz e5 => ⟨u, S z, rfl, rfl, by rw [S_len]; exact Nat.le_trans (show u.length + z.length ≤ 1050000 by omega) (by decide), ?_⟩⟩
  have e35 := (e3.trans e4).trans e5
  obtain ⟨uu, huu⟩ : ∃ uu : List Nat, u ++ S z = S uu := ⟨(u ++ S z).cps.toList, (S_tl _).symm⟩
  rw [huu]
  refine ⟨A.wa, stV zs, .str (S uu), rfl, rfl, e35 _ _ w1, by rw [stV, List.length_map]; exact Nat.lt_of_le_of_lt (show zs.length ≤ 40 by omega) (by decide), ?_⟩
  -- behind written.append
  have nwr : A.wa ≠ A.r := ne_of w1 P2.r (by intro z; cases z)
  have hr6 : (upd H5 A.wa (.lst (stV zs ++ [.str (S uu)]))) A.r = some (.ins (He.ga K "RowReader") A.dr (rdF A n)) := by
    rw [upd_ne nwr.symm]
    exact e35 _ _ P2.r
  refine q_inc (i := (n : Int)) (ev_var (v := .ref A.r) rfl) hr6 (c_RowReader T) (n_RowReader_at T) rfl (show 4 < 1000 by decide) fun H7 e7 => ?_
  have c8 : Ch (fun x => x = A.wa ∨ x = A.r) H (upd H7 A.r (.ins (He.ga K "RowReader") A.dr (putF "at" (.int ((n : Int) + 1)) (rdF A n)))) :=
    (((Ch.of_ex ((e1.trans e2).trans e35)).set (.inl rfl)).trans (Ch.of_ex e7)).set (.inr rfl)
  have P8 : PInv K (upd H7 A.r (.ins (He.ga K "RowReader") A.dr (putF "at" (.int ((n : Int) + 1)) (rdF A n)))) A L (n + 1) 0 0 fl := by
    obtain ⟨cs, c1, c2⟩ := P.c
    obtain ⟨ks, k1, k2⟩ := P.k
    obtain ⟨b1, b2, b3⟩ := P.b
    obtain ⟨n1, n2, n3, n4, n5, n6, n7, n8, n9, n10⟩ := P.ne
    have w0 := P.w
    have lr : ∀ {q : Addr} {xs : List V}, H q = some (.lst xs) → q ≠ A.wa → ¬ (q = A.wa ∨ q = A.r) := fun e h z => z.elim h (ne_of e P.r (by intro z; cases z))
    refine ⟨?_, c8 _ _ P.l (lr P.l n10), c8 _ _ P.m (fun z => z.elim (fun e => ?_) (ne_ins P.m P.r (by decide))), P.f.ch c8 fun q e => ?_, ⟨cs, c8 _ _ c1 (lr c1 n3), by omega⟩, ⟨c8 _ _ P.g.1 (lr P.g.1 n5), P.g.2⟩, ⟨ks, c8 _ _ k1 (lr k1 n6), by omega⟩, ⟨zs ++ [uu], ?_, by rw [List.length_append]; simp; omega⟩, ⟨by omega, by omega, by omega⟩, P.ne⟩
    · rw [upd_same]
      have : ((n : Int) + 1) = ((n + 1 : Nat) : Int) := by omega
      rw [this]
      rfl
    · obtain ⟨zs0, z1, _⟩ := P.w
      exact ne_of P.m z1 (by intro z; cases z) e
    · obtain ⟨zs0, z1, _⟩ := P.w
      rcases e with e | e
      · rw [e]
        exact ⟨_, z1, fun z => (nomatch z), fun kvs z => by cases z⟩
      · rw [e]
        exact ⟨_, P.r, fun z => absurd (Option.some.inj z) (by decide), fun kvs z => by cases z⟩
    · rw [upd_ne nwr]
      refine e7 _ _ ?_
      rw [upd_same]
      simp [stV]
  have f9 := (rd_fld T P8 (te := tVar 0) (σ := [some (.ref A.r), some (.ref a), some (.int (d : Int))]) (ev_var rfl)).2.1
  refine s_ret (ev_is (ev_op f9 ev_c rv_I0) ?_) fun H9 e9 => q1 hdr H9 (c8.trans (Ch.of_ex e9)) (P8.ex e9)
  show V.int (((n + 1 : Nat) : Int) - 1) = V.int (n : Int)
  exact congrArg V.int (by omega)
end WP
set_option Elab.async false
set_option linter.all false
set_option maxRecDepth 100000
set_option maxHeartbeats 4000000
/-! the reader's promises; close, rows of a block -/
namespace WP
open PySem PySem.Spec PyProof.Rows L2 Evl SX
variable {w : World} {K : PySem.W.Frag} {mg : Str → Option Value} {base : Heap}
def Mr (A : PA) : Addr → Prop := fun x => x = A.r ∨ x = A.ca ∨ x = A.ga ∨ x = A.ka ∨ x = A.wa
def Mr1 (A : PA) (y : Addr) : Addr → Prop := fun x => Mr A x ∨ x = y
/-- a scope that shows the stack s -/
structure SC (K : PySem.W.Frag) (H : Hp) (A : PA) (z : List Blk) (many : Nat) (sa ds gv : Addr) (it : V) (kvs : List (Key × V)) : Prop where
  s : H sa = some (.ins (He.ga K "Scope") ds (scF A.ma gv it))
  g : H gv = some (.dK kvs)
  f : ∀ dx pa da, H A.fa = some (.ins (He.ga K "Family") dx [("parents", .ref pa), ("declared", .ref da)]) → pa ≠ gv
  m : Mt z it kvs
  kl : kvs.length ≤ many
def closing (l : LK) : Prop := l = .end_ ∨ l = .else_ ∨ l = .except_
/-- refused: the reader stands at the first line that does not stand -/
def RaiseW (K : PySem.W.Frag) (A : PA) (Ls : List LK) (st : LS) (E : XK) (H : Hp) (M : Addr → Prop) : Prop :=
  ∀ (st' : LS) H', Runs Ls st st' → Stuck Ls st' → (∃ s b, st'.stk = s ++ [b]) → H' A.r = some (.ins (He.ga K "RowReader") A.dr (rdF A st'.many)) → Ch M H H' → Mis K E H'
theorem RaiseW.fwd {A : PA} {Ls : List LK} {st st' : LS} {E : XK} {H H' : Hp} {M M' : Addr → Prop} (h : RaiseW K A Ls st E H M) (r : Runs Ls st st') (c : Ch M H H') (hm : ∀ x, M' x → M x ∨ H x = none) : RaiseW K A Ls st' E H' M' := fun st2 H2 r2 s2 b2 a2 c2 =>
  h st2 H2 (r.trans r2) s2 b2 a2 fun x o e n => c2 _ _ (c _ _ e n) fun m => (hm x m).elim n fun z => by rw [z] at e; cases e
theorem RaiseW.sub {A : PA} {Ls : List LK} {st : LS} {E : XK} {H : Hp} {M M' : Addr → Prop} (h : RaiseW K A Ls st E H M) (hm : ∀ x, M' x → M x ∨ H x = none) : RaiseW K A Ls st E H M' := h.fwd (.refl _) (Ch.refl _) hm
/-- raised at this very line -/
theorem RaiseW.here {A : PA} {Ls : List LK} {st : LS} {E : XK} {H H' : Hp} {M : Addr → Prop} {L : List (List Nat)} {ec ek : Nat} {fl : List (List Nat)} (h : RaiseW K A Ls st E H M) (s : Stuck Ls st) (b : ∃ s b, st.stk = s ++ [b]) (p : PInv K H A L st.many ec ek fl) (hr : ¬ M A.r ∨ H' A.r = some (.ins (He.ga K "RowReader") A.dr (rdF A st.many))) (c : Ch M H H') : Mis K E H' :=
  h st H' (.refl _) s b (hr.elim (fun n => c _ _ p.r n) fun e => e) c
def sp_close : Sp := sp3 fun self ln dp H Q E => ∃ (A : PA) (L : List (List Nat)) (n : Nat) (fl : List (List Nat)) (a dx wl : Addr) (l : LK) (d : Nat), self = .ref A.r ∧ ln = .ref a ∧ dp = .int (d : Int) ∧ d ≤ 100 ∧ n < 40 ∧ PInv K H A L n 0 0 fl ∧ LnH K H a dx wl l.toks 0 ∧ Apart A wl ∧ closing l ∧
  (l = .end_ → ∀ H', Ch (Mr1 A a) H H' → PInv K H' A L (n + 1) 0 0 fl → Q .non H') ∧ (l ≠ .end_ → ∀ H', Ch (fun x => x = a) H H' → Mis K E H')
def sp_rows (m : Nat) : Sp := sp3 fun self dp sc H Q E => ∃ (A : PA) (Ls : List LK) (L : List (List Nat)) (st : LS) (s : List Blk) (b : Blk) (sa ds gv : Addr) (it : V) (kvs : List (Key × V)) (d : Nat),
  self = .ref A.r ∧ dp = .int (d : Int) ∧ sc = .ref sa ∧ Txs Ls L ∧ PInv K H A L st.many 0 0 st.fl ∧ SC K H A st.stk st.many sa ds gv it kvs ∧ st.stk = s ++ [b] ∧ st.stk.length = d ∧ d ≤ 7 ∧ 8 ≤ d + m ∧ 1 ≤ st.many ∧ st.many ≤ Ls.length ∧
  (∀ (pt rw a dx wl : Addr) (st' : LS) (l : LK) (b' : Blk) H', Runs Ls st st' → st'.stk = s ++ [b'] → b'.kind = b.kind → b'.ph = b.ph → Ls[st'.many]? = some l → closing l → st'.many < 40 → PInv K H' A L st'.many 0 0 st'.fl → LnH K H' a dx wl l.toks 0 → Apart A wl → H a = none → H wl = none → H' pt = some (.tup [.ref rw, .ref a]) → H pt = none → Ch (Mr1 A gv) H H' → Q (.ref pt) H') ∧
  RaiseW K A Ls st E H (Mr1 A gv)
def isBlock : LK → Prop | .if_ _ _ => True | .raises_ => True | .try_ => True | .for_ _ _ => True | _ => False
/-- a block whose first word is taken -/
def BlkP (K : PySem.W.Frag) (m : Nat) (P : LK → Prop) (self ln dp sc : V) (H : Hp) (Q : VK) (E : XK) : Prop := ∃ (A : PA) (Ls : List LK) (L : List (List Nat)) (st : LS) (s : List Blk) (b : Blk) (sa ds gv : Addr) (it : V) (kvs : List (Key × V)) (d : Nat) (l : LK) (a dx wl : Addr),
  self = .ref A.r ∧ ln = .ref a ∧ dp = .int (d : Int) ∧ sc = .ref sa ∧ P l ∧ Txs Ls L ∧ PInv K H A L st.many 0 0 st.fl ∧ SC K H A st.stk st.many sa ds gv it kvs ∧ st.stk = s ++ [b] ∧ st.stk.length = d ∧ d ≤ 6 ∧ 8 ≤ d + m ∧ Ls[st.many]? = some l ∧ st.many < 40 ∧ LnH K H a dx wl l.toks 1 ∧ Apart A wl ∧
  (∀ (pt : Addr) (st' : LS) H', Runs Ls st st' → st.many < st'.many → st'.stk = st.stk → PInv K H' A L st'.many 0 0 st'.fl → Ch (Mr1 A a) H H' → Q (.ref pt) H') ∧ RaiseW K A Ls st E H (Mr1 A a)
def sp_blk (m : Nat) (P : LK → Prop) : Sp := sp4 (BlkP K m P)
def sp_block (m : Nat) : Sp := sp5 fun self wd ln dp sc H Q E => BlkP K m (fun l => isBlock l ∧ ∃ x r, l.toks = x :: r ∧ wd = .str (S x)) self ln dp sc H Q E
def sp_row (m : Nat) : Sp := sp4 fun self ln dp sc H Q E => ∃ (A : PA) (Ls : List LK) (L : List (List Nat)) (st : LS) (s : List Blk) (b : Blk) (sa ds gv : Addr) (it : V) (kvs : List (Key × V)) (d : Nat) (l : LK) (a dx wl : Addr),
  self = .ref A.r ∧ ln = .ref a ∧ dp = .int (d : Int) ∧ sc = .ref sa ∧ Txs Ls L ∧ PInv K H A L st.many 0 0 st.fl ∧ SC K H A st.stk st.many sa ds gv it kvs ∧ st.stk = s ++ [b] ∧ st.stk.length = d ∧ d ≤ 7 ∧ 8 ≤ d + m ∧ 1 ≤ st.many ∧ Ls[st.many]? = some l ∧ ¬ closing l ∧ st.many < 40 ∧ LnH K H a dx wl l.toks 0 ∧ Apart A wl ∧
  (∀ (v : V) (st' : LS) (b' : Blk) (kvs' : List (Key × V)) H', Runs Ls st st' → st.many < st'.many → st'.stk = s ++ [b'] → b'.kind = b.kind → b'.ph = b.ph → PInv K H' A L st'.many 0 0 st'.fl → SC K H' A st'.stk st'.many sa ds gv it kvs' → Ch (fun x => Mr1 A gv x ∨ x = a) H H' → Q v H') ∧
  RaiseW K A Ls st E H (fun x => Mr1 A gv x ∨ x = a)
def sp_else (m : Nat) : Sp := sp4 fun self ln dp sc H Q E => ∃ (A : PA) (Ls : List LK) (L : List (List Nat)) (st : LS) (s : List Blk) (b : Blk) (sa ds gv : Addr) (it : V) (kvs : List (Key × V)) (d : Nat) (l : LK) (a dx wl : Addr),
  self = .ref A.r ∧ ln = .ref a ∧ dp = .int (d : Int) ∧ sc = .ref sa ∧ Txs Ls L ∧ PInv K H A L st.many 0 0 st.fl ∧ SC K H A s st.many sa ds gv it kvs ∧ st.stk = s ++ [b] ∧ s.length = d ∧ d ≤ 6 ∧ 8 ≤ d + m ∧ Ls[st.many]? = some l ∧ closing l ∧ st.many < 40 ∧ LnH K H a dx wl l.toks 0 ∧ Apart A wl ∧
  (b.kind = .if_ ∧ b.ph = .rows ∨ b.kind = .try_ ∧ b.ph = .except_ ∧ l ≠ .except_) ∧
  (∀ (v : V) (st' : LS) H', Runs Ls st st' → st'.stk = s → PInv K H' A L st'.many 0 0 st'.fl → Ch (Mr1 A a) H H' → Q v H') ∧ RaiseW K A Ls st E H (Mr1 A a)
theorem LnH.acc {H : Hp} {A : PA} {L : List (List Nat)} {n ec ek : Nat} {fl : List (List Nat)} (P : PInv K H A L n ec ek fl) {a dx wl : Addr} {ws : List (List Nat)} {k : Nat} (l : LnH K H a dx wl ws k) : a ≠ A.wa ∧ a ≠ A.r := by
  obtain ⟨zs, z1, _⟩ := P.w
  exact ⟨ne_of l.ob z1 (by intro z; cases z), ne_ins l.ob P.r (by decide)⟩
theorem o_RowReader_close (T : TT K mg) : MetX PW w K mg base (CXM w) 7 (He.ga K "RowReader") "close" (sp_close (K := K)) := by
  obtain ⟨fd, F⟩ := f_RowReader_close T
  refine ⟨_, mk3 F (b_RowReader_close F) sc_RowReader_close fun a b c cdv A outer s H Q E hr h => ⟨_, (pss_cons (ps_expr (wm (o_Line_expect T) hr (by decide) passE (pv 1) (pa_cons pe_str pa_nil)))
        (pss_one (ps_expr (wm (o_RowReader_accept T) hr (by decide) passE (pv 0) (pa_cons (pv 1) (pa_cons (pv 2) pa_nil)))))), ?_⟩, c_RowReader T, m_RowReader_close T⟩
  obtain ⟨A, L, n, fl, a, dx, wl, l, d, rfl, rfl, rfl, hd, hn, P, ln, hap, hcl, q1, q2⟩ := h
  refine go_m (ev_var (v := .ref a) rfl) ln.ob rfl (ea_cons ev_c ea_nil) fun H1 e1 => ⟨_, _, rfl, a, dx, wl, l.toks, 0, [101, 110, 100], rfl, rfl, ln.ex e1, fun ht H2 c2 l2 => ?_, fun ht H2 c2 => ?_⟩
  · have hl : l = .end_ := by
      rcases hcl with h | h | h
      · exact h
      · subst h
        exact absurd ht (by decide)
      · subst h
        exact absurd ht (by decide)
    subst hl
    have P2 := (P.ex e1).ch1 c2 (ln.ex e1).ob ⟨_, _, _, _, rfl⟩
    dsimp only
    refine go_m (ev_var (v := .ref A.r) rfl) P2.r rfl (ea_cons (ev_var rfl) (ea_cons (ev_var rfl) ea_nil)) fun H3 e3 => ⟨_, _, _, rfl, A, L, n, 0, 0, fl, a, dx, wl, _, 1, d, rfl, rfl, rfl, hd, hn, P2.ex e3, l2.ex e3, fun _ H4 c4 P4 => ?_, fun h => absurd rfl h⟩
    exact q1 rfl H4 ((((Ch.of_ex e1).trans (c2.mono fun x e => .inr e)).trans (Ch.of_ex e3)).trans (c4.mono fun x e => .inl (e.elim (fun z => .inr (.inr (.inr (.inr z)))) fun z => .inl z))) P4
  · refine q2 (fun h => ?_) H2 ((Ch.of_ex e1).trans c2)
    subst h
    exact ht rfl
theorem SC.ex {H H' : Hp} {A : PA} {z : List Blk} {n : Nat} {sa ds gv : Addr} {it : V} {kvs : List (Key × V)} {L : List (List Nat)} {n' ec ek : Nat} {fl : List (List Nat)} (h : SC K H A z n sa ds gv it kvs) (P : PInv K H A L n' ec ek fl) (e : Ex H H') : SC K H' A z n sa ds gv it kvs := by
  obtain ⟨dx, pa, da, f1, f2⟩ := P.f
  refine ⟨e _ _ h.s, e _ _ h.g, fun dx' pa' da' e' => ?_, h.m, h.kl⟩
  rw [e _ _ f1] at e'
  cases e'
  exact h.f _ _ _ f1
/-- the scope stands while others' objects change -/
theorem SC.ch {H H' : Hp} {A : PA} {z : List Blk} {n n' : Nat} {sa ds gv : Addr} {it : V} {kvs : List (Key × V)} {L : List (List Nat)} {n0 ec ek : Nat} {fl : List (List Nat)} {M : Addr → Prop} (h : SC K H A z n sa ds gv it kvs) (P : PInv K H A L n0 ec ek fl) (c : Ch M H H')
    (hm : ∀ x, M x → Mr A x ∨ H x = none ∨ ∃ C d u r, H x = some (.ins C d (("words", u) :: r))) (hn : n ≤ n') : SC K H' A z n' sa ds gv it kvs := by
  obtain ⟨dx, pa, da, f1, f2⟩ := P.f
  obtain ⟨cs, c1, _⟩ := P.c
  obtain ⟨ks, k1, _⟩ := P.k
  obtain ⟨zs, z1, _⟩ := P.w
  have out : ∀ {q : Addr} {o : HO}, H q = some o → (∀ xs, o ≠ .lst xs) → hd1 o ≠ some ("lines" : Str) → hd1 o ≠ some ("words" : Str) → ¬ M q := fun {q o} e h1 h2 h3 m => by
    rcases hm q m with (r | r | r | r | r) | r | ⟨C, d, u, r, e2⟩
    · rw [r, P.r] at e
      exact h2 (by rw [← Option.some.inj e]; rfl)
    · rw [r, c1] at e
      exact h1 _ (Option.some.inj e).symm
    · rw [r, P.g.1] at e
      exact h1 _ (Option.some.inj e).symm
    · rw [r, k1] at e
      exact h1 _ (Option.some.inj e).symm
    · rw [r, z1] at e
      exact h1 _ (Option.some.inj e).symm
    · rw [r] at e
      cases e
    · rw [e2] at e
      exact h3 (by rw [← Option.some.inj e]; rfl)
  refine ⟨c _ _ h.s (out h.s (fun _ z => by cases z) (fun z => absurd (Option.some.inj z) (by decide)) (fun z => absurd (Option.some.inj z) (by decide))), c _ _ h.g (out h.g (fun _ z => by cases z) (fun z => nomatch z) (fun z => nomatch z)), fun dx' pa' da' e' => ?_, h.m, Nat.le_trans h.kl hn⟩
  rw [c _ _ f1 (out f1 (fun _ z => by cases z) (fun z => absurd (Option.some.inj z) (by decide)) (fun z => absurd (Option.some.inj z) (by decide)))] at e'
  cases e'
  exact h.f _ _ _ f1
/-- self.read_rows(depth + 1, a scope that is just made) -/
theorem go_rows (T : TT K mg) {m : Nat} {σ : L2.St} {H : Hp} {te : TE} {E : XK} {Q : VK} {A : PA} {Ls : List LK} {L : List (List Nat)} {st : LS} {s : List Blk} {b : Blk} {d di : Nat} {kvs : List (Key × V)}
    (h0 : σ[0]? = some (some (.ref A.r))) (hd : σ[di]? = some (some (.int (d : Int)))) (tx : Txs Ls L) (P : PInv K H A L st.many 0 0 st.fl) (hs : st.stk = s ++ [b]) (hl : st.stk.length = d + 1) (h6 : d ≤ 6) (hm : 8 ≤ d + 1 + m)
    (hi : ∀ (H1 : Hp) (Q' : VK), Ex H H1 → (∀ (sa ds gv : Addr) (it : V) H2, Ex H1 H2 → H1 gv = none → SC K H2 A st.stk st.many sa ds gv it kvs → Q' (.ref sa) H2) → te σ H1 Q')
    (q : ∀ (pt rw a dx wl : Addr) (st' : LS) (l : LK) (b' : Blk) H', Runs Ls st st' → st'.stk = s ++ [b'] → b'.kind = b.kind → b'.ph = b.ph → Ls[st'.many]? = some l → closing l → st'.many < 40 → PInv K H' A L st'.many 0 0 st'.fl → LnH K H' a dx wl l.toks 0 → Apart A wl → H a = none → H wl = none → H' pt = some (.tup [.ref rw, .ref a]) → H pt = none → Ch (Mr A) H H' → Q (.ref pt) H')
    (qe : RaiseW K A Ls st E H (Mr A)) (h1 : 1 ≤ st.many := by exact Nat.succ_le_succ (Nat.zero_le _)) (h2 : st.many ≤ Ls.length) :
    tM (He.ga K "RowReader") "read_rows" (sp_rows (K := K) m) E (tVar 0) (tCons (tOp (rI0 fun i j => .int (i + j)) (tVar di) (tC (.int 1))) (tCons te tNil)) σ H Q := by
  refine ⟨_, h0, A.r, A.dr, _, rfl, P.r, rfl, ?_⟩
  dsimp only [tCons, tNil, tOp]
  refine ⟨_, hd, (d : Int), 1, rfl, rfl, ?_⟩
  refine hi H _ (Ex.refl _) fun sa ds gv it H2 e2 hg S2 => ?_
  have gn : ∀ x, Mr1 A gv x → Mr A x ∨ H x = none := fun x m => m.imp id fun z => by rw [z]; exact hg
  refine ⟨_, _, _, rfl, A, Ls, L, st, s, b, sa, ds, gv, it, kvs, d + 1, rfl, rfl, rfl, tx, P.ex e2, S2, hs, hl, by omega, hm, h1, h2, fun pt rw a dx wl st' l b' H3 r3 b3 k3 p3 l3 c3 n3 P3 ln3 ap3 ha hw hpt hpn ch => ?_, qe.fwd (.refl _) (Ch.of_ex e2) gn⟩
  refine q pt rw a dx wl st' l b' H3 r3 b3 k3 p3 l3 c3 n3 P3 ln3 ap3 (fresh_back e2 ha) (fresh_back e2 hw) hpt (fresh_back e2 hpn) fun x o e n => ch _ _ (e2 _ _ e) fun z => (gn x z).elim n fun y => by rw [y] at e; cases e
/-- scope.inner() -/
theorem hi_inner0 (T : TT K mg) {σ : L2.St} {H : Hp} {A : PA} {L : List (List Nat)} {st : LS} {z : List Blk} {n0 : Nat} {sa ds gv : Addr} {it : V} {kvs : List (Key × V)} {si : Nat} (hsi : σ[si]? = some (some (.ref sa))) (P : PInv K H A L st.many 0 0 st.fl) (S : SC K H A z n0 sa ds gv it kvs) (hm : Mt st.stk it kvs) (hn : n0 ≤ st.many) (hit : isSc it = true) :
    ∀ (H1 : Hp) (Q' : VK), Ex H H1 → (∀ (sa ds gv : Addr) (it : V) H2, Ex H1 H2 → H1 gv = none → SC K H2 A st.stk st.many sa ds gv it kvs → Q' (.ref sa) H2) → tM (He.ga K "Scope") "inner" (sp_Scope_inner0 (K := K)) E0 (tVar si) tNil σ H1 Q' := fun H1 Q' e1 q =>
  go_m (ev_var hsi) (e1 _ _ S.s) rfl ea_nil fun H2 e2 => ⟨_, rfl, _, _, rfl, sa, ds, A.ma, gv, it, kvs, rfl, rfl, (e1.trans e2) _ _ S.s, (e1.trans e2) _ _ S.g, fun b db g' H3 hb hg hbg e3 hb3 hg3 => by
    obtain ⟨dx, pa, da, f1, f2⟩ := P.f
    have f3 := ((e1.trans e2).trans e3) _ _ f1
    refine q b db g' it H3 (e2.trans e3) (fresh_back e2 hg) ⟨hb3, hg3, fun dx' pa' da' e' => ?_, hm, Nat.le_trans S.kl hn⟩
    rw [f3] at e'
    cases e'
    exact fun z => by
      have := (e1.trans e2) _ _ f2
      rw [z, hg] at this
      cases this⟩
end WP
set_option Elab.async false
set_option linter.all false
set_option maxRecDepth 100000
set_option maxHeartbeats 4000000
/-! else, raises, if, try, for -/
namespace WP
open PySem PySem.Spec PyProof.Rows L2 Evl SX
variable {w : World} {K : PySem.W.Frag} {mg : Str → Option Value} {base : Heap}
theorem lkB (tx : Txs Ls L) {i : Nat} {l : LK} (h : Ls[i]? = some l) : LnB l.toks := (tx.ln i l h).2.1
theorem Mt.sc {z : List Blk} {it : V} {kvs : List (Key × V)} (h : Mt z it kvs) : isSc it = true := by
  rcases h.im with ⟨e, _⟩ | ⟨n, _, e, _⟩ <;> rw [e] <;> rfl
theorem mr_w {A : PA} {a : Addr} : ∀ x, (x = A.wa ∨ x = A.r) → Mr1 A a x := fun x e => .inl (e.elim (fun z => .inr (.inr (.inr (.inr z)))) fun z => .inl z)
theorem mr_a {A : PA} {a : Addr} : ∀ x, x = a → Mr1 A a x := fun x e => .inr e
theorem mr_m {A : PA} {a : Addr} : ∀ x, Mr A x → Mr1 A a x := fun x e => .inl e
theorem mr_c {A : PA} {a : Addr} : ∀ x, Mc A a x → Mr1 A a x := fun x e => by
  rcases e with e | e | e
  · exact .inr e
  · exact .inl (.inr (.inl e))
  · exact .inl (.inr (.inr (.inl e)))
/-- the line is no obstacle for the scope -/
theorem sc_line {H : Hp} {A : PA} {a dx wl : Addr} {ws : List (List Nat)} {k : Nat} (l : LnH K H a dx wl ws k) : ∀ x, Mr1 A a x → Mr A x ∨ H x = none ∨ ∃ C d u r, H x = some (.ins C d (("words", u) :: r)) := fun x e => e.imp id fun z => by
  subst z
  exact .inr ⟨_, _, _, _, l.ob⟩
theorem fresh_mr {H H4 : Hp} {A : PA} {L : List (List Nat)} {n ec ek : Nat} {fl : List (List Nat)} {a x : Addr} {o : HO} (P : PInv K H4 A L n ec ek fl) (ha : H4 a = some o) (c : Ch (Mr1 A a) H H4) (h : H4 x = none) : H x = none := by
  obtain ⟨cs, c1, _⟩ := P.c
  obtain ⟨ks, k1, _⟩ := P.k
  obtain ⟨zs, z1, _⟩ := P.w
  cases e : H x with
  | none => rfl
  | some u =>
    by_cases m : Mr1 A a x
    · rcases m with (r | r | r | r | r) | r <;> subst r
      · rw [P.r] at h; cases h
      · rw [c1] at h; cases h
      · rw [P.g.1] at h; cases h
      · rw [k1] at h; cases h
      · rw [z1] at h; cases h
      · rw [ha] at h; cases h
    · rw [c _ _ e m] at h
      cases h
theorem st_end {st : LS} {s : List Blk} {b : Blk} (hs : st.stk = s ++ [b]) (hn : st.many < 40) (h : ¬ (b.kind = .try_ ∧ b.ph = .rows)) : st.stands .end_ := ⟨by omega, s, b, hs, h⟩
theorem st_else {st : LS} {s : List Blk} {b : Blk} (hs : st.stk = s ++ [b]) (hn : st.many < 40) (h : b.kind = .if_ ∧ b.ph = .rows ∨ b.kind = .try_ ∧ b.ph = .except_) : st.stands .else_ := ⟨by omega, s, b, hs, h⟩
theorem st_top {st : LS} {s : List Blk} {b : Blk} (hs : st.stk = s ++ [b]) {l : LK} (h : st.stands l) : ∃ s' b', st.stk = s' ++ [b'] ∧ s' = s ∧ b' = b := ⟨s, b, hs, rfl, rfl⟩
theorem snoc_inj {α : Type} {s s' : List α} {b b' : α} (h : s ++ [b] = s' ++ [b']) : s = s' ∧ b = b' := by
  have := List.append_inj' h rfl
  exact ⟨this.1, List.cons.inj this.2 |>.1⟩
theorem stuck_of {Ls : List LK} {st : LS} {l : LK} (h : Ls[st.many]? = some l) (hn : ¬ st.stands l) : Stuck Ls st := fun l' e => by
  rw [h] at e
  rw [← Option.some.inj e]
  exact hn
theorem o_else (T : TT K mg) (m : Nat) (o_RowReader_read_rows_n : MetX PW w K mg base (CXM w) (20 + 5 * m) (He.ga K "RowReader") "read_rows" (sp_rows (K := K) m)) : MetX PW w K mg base (CXM w) (21 + 5 * m) (He.ga K "RowReader") "read_else" (sp_else (K := K) (m + 1)) := by
  obtain ⟨fd, F⟩ := f_RowReader_read_else T
  have L0 : 21 + 5 * m = (20 + 5 * m) + 1 := by omega
  rw [L0]
  refine ⟨_, mk4 F (b_RowReader_read_else F) sc_RowReader_read_else fun a b c d cdv A outer s H Q E hr h => ⟨_, (pss_cons (ps_if (pt_cmpR op_ne (wm0 (o_Line_peek T) hr (by omega) pass0 (pv 1)) pe_str (nomark _)) (pss_cons (ps_expr (wm (o_RowReader_close T) hr (by omega) passE (pv 0) (pa_cons (pv 1) (pa_cons (pv 2) pa_nil))))
        (pss_one (ps_ret pe_non))) pss_nil)
        (pss_cons (ps_expr (wm0 (o_Line_take T) hr (by omega) pass0 (pv 1)))
        (pss_cons (ps_expr (wm (o_RowReader_accept T) hr (by omega) passE (pv 0) (pa_cons (pv 1) (pa_cons (pv 2) pa_nil))))
        (pss_cons (ps_asg (wm o_RowReader_read_rows_n hr (by omega) passE (pv 0) (pa_cons (pe_op op_add (pv 2) pe_int) (pa_cons (wm0 (o_Scope_inner0 T) hr (by omega) pass0 (pv 3)) pa_nil))) (pg_tup rfl (pgs_cons (pg_name (i := 4) sc_RowReader_read_else.nd rfl (Or.inl rfl)) (pgs_cons (pg_name (i := 5) sc_RowReader_read_else.nd rfl (Or.inl rfl)) pgs_nil))))
        (pss_cons (ps_expr (wm (o_RowReader_close T) hr (by omega) passE (pv 0) (pa_cons (pv 5) (pa_cons (pv 2) pa_nil))))
        (pss_one (ps_ret (pv 4)))))))), ?_⟩, c_RowReader T, m_RowReader_read_else T⟩
  obtain ⟨A, Ls, L, st, s, b, sa, ds, gv, it, kvs, d, l, a, dx, wl, rfl, rfl, rfl, rfl, tx, P, S1, hs, hl, hd6, hdm, hLs, hcl, hn, ln, hap, hph, q1, q2⟩ := h
  have hb3 := hph
  have nt : ¬ (b.kind = .try_ ∧ b.ph = .rows) := fun z => by
    rcases hph with ⟨h, _⟩ | ⟨_, h, _⟩
    · rw [h] at z; cases z.1
    · rw [h] at z; cases z.2
  refine q_when (b := !decide (tk l.toks 0 = [101, 108, 115, 101])) (et_is (et_test (ev_op (ev_peek T (ev_var (v := .ref a) rfl) ln) (ev_c (v := .str (S [101, 108, 115, 101]))) (rv_ne rfl))) (by rw [dec_S])) (fun hb H1 e1 => ?_) fun hb H1 e1 => ?_
  · -- no else: the end, or refused
    have hne : l ≠ .else_ := fun z => by rw [z] at hb; exact absurd hb (by decide)
    refine go_m (ev_var (v := .ref A.r) rfl) (P.ex e1).r rfl (ea_cons (ev_var rfl) (ea_cons (ev_var rfl) ea_nil)) fun H2 e2 => ⟨_, _, _, rfl, A, L, st.many, st.fl, a, dx, wl, l, d, rfl, rfl, rfl, by omega, hn, (P.ex e1).ex e2, (ln.ex e1).ex e2, hap, hcl, fun he H3 c3 P3 => ?_, fun he H3 c3 => ?_⟩
    · subst he
      dsimp only
      refine s_ret ev_c fun H4 e4 => q1 .non (st.after .end_) H4 (Runs.one hLs (st_end hs hn nt)) ?_ (P3.ex e4) (((Ch.of_ex (e1.trans e2)).trans c3).trans (Ch.of_ex e4))
      show st.stk.dropLast = s
      rw [hs, List.dropLast_concat]
    · have hex : l = .except_ := by
        rcases hcl with h | h | h
        · exact absurd h he
        · exact absurd h hne
        · exact h
      subst hex
      refine RaiseW.here q2 (stuck_of hLs fun z => ?_) ⟨s, b, hs⟩ P (.inr ?_) ((Ch.of_ex (e1.trans e2)).trans (c3.mono mr_a))
      · obtain ⟨_, s', b', e, h1, h2⟩ := z
        rw [hs] at e
        obtain ⟨_, rfl⟩ := snoc_inj e
        rcases hph with ⟨h, _⟩ | ⟨_, _, h⟩
        · rw [h] at h1; cases h1
        · exact h rfl
      · exact c3 _ _ ((e1.trans e2) _ _ P.r) (ln.acc P).2.symm
  · have hel : l = .else_ := by
      have hb := (by simpa using hb : tk l.toks 0 = [101, 108, 115, 101])
      rcases hcl with h | h | h
      · subst h
        exact absurd hb (by decide)
      · exact h
      · subst h
        exact absurd hb (by decide)
    subst hel
    have hst := st_else hs hn (hph.imp id fun h => ⟨h.1, h.2.1⟩)
    refine q_take T (ev_var (v := .ref a) rfl) (ln.ex e1) fun H2 c2 l2 => ?_
    have P2 := (P.ex e1).ch1 c2 (ln.ex e1).ob ⟨_, _, _, _, rfl⟩
    refine go_m (ev_var (v := .ref A.r) rfl) P2.r rfl (ea_cons (ev_var rfl) (ea_cons (ev_var rfl) ea_nil)) fun H3 e3 => ⟨_, _, _, rfl, A, L, st.many, 0, 0, st.fl, a, dx, wl, _, 1, d, rfl, rfl, rfl, by omega, hn, P2.ex e3, l2.ex e3, fun _ H4 c4 P4 => ?_, fun h => absurd rfl h⟩
    dsimp only
    have ch4 : Ch (Mr1 A a) H H4 := (((Ch.of_ex e1).trans (c2.mono mr_a)).trans (Ch.of_ex e3)).trans (c4.mono mr_w)
    have hsA : (st.after .else_).stk = s ++ [⟨b.kind, .else_, [], []⟩] := by
      show topTo st.stk _ = _
      rw [hs, topTo_snoc]
    have S4 : SC K H4 A s st.many sa ds gv it kvs := S1.ch P ch4 (sc_line ln) (Nat.le_refl _)
    have r4 : Runs Ls st (st.after .else_) := Runs.one hLs hst
    refine go_rows T (A := A) (Ls := Ls) (L := L) (st := st.after .else_) (s := s) (d := d) (kvs := kvs) (E := E) (h2 := (List.getElem?_eq_some_iff.mp hLs).1) rfl rfl tx P4 hsA (by rw [hsA, List.length_append, hl]; rfl) hd6 (by omega) (hi_inner0 T (st := st.after .else_) rfl P4 S4 (by rw [hsA]; exact S1.m.inner _ _) (Nat.le_succ _) S1.m.sc) (fun pt rw_ a2 dx2 wl2 st5 l5 b5 H5 r5 hs5 k5 p5 L5 c5 n5 P5 ln5 ap5 ha5 hw5 hpt5 hpn5 ch5 => ?_) (q2.fwd r4 ch4 fun x h => .inl (mr_m x h))
    have nt5 : ¬ (b5.kind = .try_ ∧ b5.ph = .rows) := fun z => by rw [p5] at z; cases z.2
    have ch05 : Ch (Mr1 A a) H H5 := ch4.trans (ch5.mono mr_m)
    refine ⟨pt, [.ref rw_, .ref a2], rfl, .inl (.inl hpt5), rfl, _, _, rfl, _, _, rfl, rfl, ?_⟩
    dsimp only [tDrop]
    refine go_m (ev_var (v := .ref A.r) rfl) P5.r rfl (ea_cons (ev_var rfl) (ea_cons (ev_var rfl) ea_nil)) fun H6 e6 => ⟨_, _, _, rfl, A, L, st5.many, st5.fl, a2, dx2, wl2, l5, d, rfl, rfl, rfl, by omega, n5, P5.ex e6, ln5.ex e6, ap5, c5, fun he H7 c7 P7 => ?_, fun he H7 c7 => ?_⟩
    · subst he
      refine s_ret (ev_var rfl) fun H8 e8 => q1 _ (st5.after .end_) H8 ((r4.trans r5).trans (Runs.one L5 (st_end hs5 n5 nt5))) ?_ (P7.ex e8) ?_
      · show st5.stk.dropLast = s
        rw [hs5, List.dropLast_concat]
      · exact fun x o e n => e8 _ _ (c7 _ _ (e6 _ _ (ch05 _ _ e n)) (fun z => z.elim (fun z => n (.inl z)) fun z => by
          have e4 := ch4 _ _ e n
          rw [z, ha5] at e4
          cases e4))
    · have ha4 : H4 a = some (.ins (He.ga K "Line") dx [("words", .ref wl), ("taken", .int ((0 + 1 : Nat) : Int))]) := c4 _ _ (e3 _ _ l2.ob) fun z => z.elim (ln.acc P).1 (ln.acc P).2
      have hf : H a2 = none := fresh_mr P4 ha4 ch4 ha5
      refine RaiseW.here (M := fun x => Mr1 A a x ∨ x = a2) (H := H5) (H' := H7) (q2.fwd (r4.trans r5) ch05 fun x h => h.imp id fun z => by rw [z]; exact hf) (stuck_of L5 fun z => ?_) ⟨s, b5, hs5⟩ P5 (.inr ?_) ((Ch.of_ex e6).trans (c7.mono fun x e => .inr e))
      · obtain ⟨_, s', b', e, h1⟩ := z
        rw [hs5] at e
        obtain ⟨_, rfl⟩ := snoc_inj e
        rcases c5 with h | h | h
        · exact he h
        · subst h
          have h1 : b5.kind = .if_ ∧ b5.ph = .rows ∨ b5.kind = .try_ ∧ b5.ph = .except_ := h1
          rw [p5] at h1
          rcases h1 with h | h <;> cases h.2
        · subst h
          exact h1.2 p5
      · exact c7 _ _ (e6 _ _ P5.r) (ln5.acc P5).2.symm
/-- self.close(closing, depth) behind rows -/
theorem go_close (T : TT K mg) {σ : L2.St} {H : Hp} {E : XK} {Q : VK} {A : PA} {Ls : List LK} {L : List (List Nat)} {st : LS} {s : List Blk} {b : Blk} {d i j : Nat} {l : LK} {a dx wl : Addr} {M : Addr → Prop}
    (h0 : σ[0]? = some (some (.ref A.r))) (hi : σ[i]? = some (some (.ref a))) (hd : σ[j]? = some (some (.int (d : Int)))) (hd6 : d ≤ 100) (P : PInv K H A L st.many 0 0 st.fl) (ln : LnH K H a dx wl l.toks 0) (ap : Apart A wl) (hc : closing l) (hn : st.many < 40) (hL : Ls[st.many]? = some l) (hs : st.stk = s ++ [b])
    (h1 : ¬ (b.kind = .try_ ∧ b.ph = .rows)) (h2 : ¬ (b.kind = .if_ ∧ b.ph = .rows ∨ b.kind = .try_ ∧ b.ph = .except_)) (h3 : ¬ (b.kind = .try_ ∧ b.ph ≠ .else_))
    (q : ∀ H', Ch (Mr1 A a) H H' → PInv K H' A L (st.many + 1) 0 0 st.fl → Runs Ls st (st.after .end_) → (st.after .end_).stk = s → Q .non H') (qe : RaiseW K A Ls st E H M) (hM : M a) :
    tM (He.ga K "RowReader") "close" (sp_close (K := K)) E (tVar 0) (tCons (tVar i) (tCons (tVar j) tNil)) σ H Q :=
  go_m (ev_var h0) P.r rfl (ea_cons (ev_var hi) (ea_cons (ev_var hd) ea_nil)) fun H1 e1 => ⟨_, _, _, rfl, A, L, st.many, st.fl, a, dx, wl, l, d, rfl, rfl, rfl, hd6, hn, P.ex e1, ln.ex e1, ap, hc, fun he H2 c2 P2 => by
    subst he
    refine q H2 ((Ch.of_ex e1).trans c2) P2 (Runs.one hL (st_end hs hn h1)) ?_
    show st.stk.dropLast = s
    rw [hs, List.dropLast_concat], fun he H2 c2 => by
    refine RaiseW.here qe (stuck_of hL fun z => ?_) ⟨s, b, hs⟩ P (.inr (c2 _ _ (e1 _ _ P.r) (ln.acc P).2.symm)) ((Ch.of_ex e1).trans (c2.mono fun x e => by rw [e]; exact hM))
    obtain ⟨_, s', b', e, z⟩ := z
    rw [hs] at e
    obtain ⟨_, rfl⟩ := snoc_inj e
    rcases hc with h | h | h
    · exact he h
    · subst h
      exact h2 z
    · subst h
      exact h3 z⟩
/-- a line that is a block, accepted: its first words are taken -/
theorem go_accept {σ : L2.St} {H : Hp} {E : XK} {Q : VK} {A : PA} {L : List (List Nat)} {n ec ek : Nat} {fl : List (List Nat)} {a dx wl : Addr} {ws : List (List Nat)} {k d i j : Nat}
    (h0 : σ[0]? = some (some (.ref A.r))) (hi : σ[i]? = some (some (.ref a))) (hd : σ[j]? = some (some (.int (d : Int)))) (hd6 : d ≤ 100) (hn : n < 40) (P : PInv K H A L n ec ek fl) (ln : LnH K H a dx wl ws k)
    (q : ws.drop k = [] → ∀ H', Ch (fun x => x = A.wa ∨ x = A.r) H H' → PInv K H' A L (n + 1) 0 0 fl → Q (.int (n : Int)) H') (qe : ws.drop k ≠ [] → ∀ H', Ex H H' → Mis K E H') :
    tM (He.ga K "RowReader") "accept" (sp_accept (K := K)) E (tVar 0) (tCons (tVar i) (tCons (tVar j) tNil)) σ H Q :=
  go_m (ev_var h0) P.r rfl (ea_cons (ev_var hi) (ea_cons (ev_var hd) ea_nil)) fun H1 e1 => ⟨_, _, _, rfl, A, L, n, ec, ek, fl, a, dx, wl, ws, k, d, rfl, rfl, rfl, hd6, hn, P.ex e1, ln.ex e1, fun h H2 c2 P2 => q h H2 ((Ch.of_ex e1).trans c2) P2, fun h H2 e2 => qe h H2 (e1.trans e2)⟩
theorem o_raises (T : TT K mg) (m : Nat) (o_RowReader_read_rows_n : MetX PW w K mg base (CXM w) (20 + 5 * m) (He.ga K "RowReader") "read_rows" (sp_rows (K := K) m)) : MetX PW w K mg base (CXM w) (21 + 5 * m) (He.ga K "RowReader") "read_raises" (sp_blk (K := K) (m + 1) fun l => l = .raises_) := by
  obtain ⟨fd, F⟩ := f_RowReader_read_raises T
  have L0 : 21 + 5 * m = (20 + 5 * m) + 1 := by omega
  rw [L0]
  refine ⟨_, mk4 F (b_RowReader_read_raises F) sc_RowReader_read_raises fun a b c d cdv A outer s H Q E hr h => ⟨_, (pss_cons (ps_set (i := 4) sc_RowReader_read_raises.nd rfl (Or.inl rfl) (wm (o_Line_take_class T) hr (by omega) pass0 (pv 1) (pa_cons (pe_fld (pe_fld (pv 0) rfl) rfl) pa_nil)))
        (pss_cons (ps_set (i := 5) sc_RowReader_read_raises.nd rfl (Or.inl rfl) pe_non)
        (pss_cons (ps_if (pt_cmpR op_eq (wm0 (o_Line_peek T) hr (by omega) pass0 (pv 1)) pe_str (nomark _)) (pss_cons ps_never
        (pss_one ps_never)) pss_nil)
        (pss_cons (ps_set (i := 6) sc_RowReader_read_raises.nd rfl (Or.inl rfl) (wm (o_RowReader_accept T) hr (by omega) passE (pv 0) (pa_cons (pv 1) (pa_cons (pv 2) pa_nil))))
        (pss_cons (ps_asg (wm o_RowReader_read_rows_n hr (by omega) passE (pv 0) (pa_cons (pe_op op_add (pv 2) pe_int) (pa_cons (wm0 (o_Scope_inner0 T) hr (by omega) pass0 (pv 3)) pa_nil))) (pg_tup rfl (pgs_cons (pg_name (i := 7) sc_RowReader_read_raises.nd rfl (Or.inl rfl)) (pgs_cons (pg_name (i := 8) sc_RowReader_read_raises.nd rfl (Or.inl rfl)) pgs_nil))))
        (pss_cons (ps_expr (wm (o_RowReader_close T) hr (by omega) passE (pv 0) (pa_cons (pv 8) (pa_cons (pv 2) pa_nil))))
        (pss_one (ps_ret (pe_tup (pa_cons pe_str (pa_cons (pv 6) (pa_cons (pv 4) (pa_cons (pv 5) (pa_cons (pv 7) pa_nil)))))))))))))), ?_⟩, c_RowReader T, m_RowReader_read_raises T⟩
  obtain ⟨A, Ls, L, st, s, b, sa, ds, gv, it, kvs, d, l, a, dx, wl, rfl, rfl, rfl, rfl, rfl, tx, P, S1, hs, hl, hd6, hdm, hLs, hn, ln, hap, q1, q2⟩ := h
  have hst : st.stands .raises_ := ⟨by omega, s, b, hs, show st.stk.length ≤ 6 by omega⟩
  have r1 := Runs.one hLs hst
  refine go_m (ev_var (v := .ref a) rfl) ln.ob rfl (ea_cons (ev_fld (rd_fld T P (ev_var (v := .ref A.r) rfl)).2.2.1 P.m (c_Mentions T) (n_Mentions_family T) rfl) ea_nil) fun H1 e1 => ⟨_, _, rfl, a, dx, wl, _, 1, A.fa, rfl, ln.ex e1, rfl, (P.ex e1).f, .inl (by decide), fun H2 c2 l2 => ?_⟩
  dsimp only [gName]
  have P2 := (P.ex e1).ch1 c2 (ln.ex e1).ob ⟨_, _, _, _, rfl⟩
  refine q_asg (v := .non) ev_c fun H3 e3 => ?_
  refine q_when (b := false) (et_is (et_test (ev_op (ev_peek T (ev_var (v := .ref a) rfl) (l2.ex e3)) (ev_c (v := .str (S [102, 114, 111, 109]))) (rv_eq rfl))) (by rw [dec_S]; decide)) (fun hb => (Bool.false_ne_true hb).elim) fun _ H4 e4 => ?_
  have P4 := (P2.ex e3).ex e4
  have l4 := (l2.ex e3).ex e4
  refine go_accept rfl rfl rfl (by omega) hn P4 l4 (fun _ H5 c5 P5 => ?_) fun h => absurd rfl h
  dsimp only [gName]
  have ch5 : Ch (Mr1 A a) H H5 := (((Ch.of_ex e1).trans (c2.mono mr_a)).trans (Ch.of_ex (e3.trans e4))).trans (c5.mono mr_w)
  have hsA : (st.after .raises_).stk = st.stk ++ [⟨.raises, .rows, [], []⟩] := rfl
  have S5 : SC K H5 A st.stk st.many sa ds gv it kvs := S1.ch P ch5 (sc_line ln) (Nat.le_refl _)
  refine go_rows T (A := A) (Ls := Ls) (L := L) (st := st.after .raises_) (s := st.stk) (d := d) (kvs := kvs) (E := E) (h2 := (List.getElem?_eq_some_iff.mp hLs).1) rfl rfl tx P5 hsA (by rw [hsA, List.length_append, hl]; rfl) hd6 (by omega) (hi_inner0 T (st := st.after .raises_) rfl P5 S5 (by rw [hsA]; exact S1.m.inner _ _) (Nat.le_succ _) S1.m.sc) (fun pt rw_ a2 dx2 wl2 st6 l6 b6 H6 r6 hs6 k6 p6 L6 c6 n6 P6 ln6 ap6 ha6 hw6 hpt6 hpn6 ch6 => ?_) (q2.fwd r1 ch5 fun x h => .inl (mr_m x h))
  have ch06 : Ch (Mr1 A a) H H6 := ch5.trans (ch6.mono mr_m)
  have ha5 : H5 a = some (.ins (He.ga K "Line") dx [("words", .ref wl), ("taken", .int ((1 + 1 : Nat) : Int))]) := c5 _ _ l4.ob fun z => z.elim (l4.acc P4).1 (l4.acc P4).2
  have hf : H a2 = none := fresh_mr P5 ha5 ch5 ha6
  refine ⟨pt, [.ref rw_, .ref a2], rfl, .inl (.inl hpt6), rfl, _, _, rfl, _, _, rfl, rfl, ?_⟩
  dsimp only [tDrop]
  refine go_close T (M := fun x => Mr1 A a x ∨ x = a2) rfl rfl rfl (by omega) P6 ln6 ap6 c6 n6 L6 hs6 (fun z => by rw [k6] at z; cases z.1) (fun z => by rw [k6] at z; rcases z with z | z <;> cases z.1) (fun z => by rw [k6] at z; cases z.1) (fun H7 c7 P7 r7 hs7 => ?_) (q2.fwd (r1.trans r6) ch06 fun x h => h.imp id fun z => by rw [z]; exact hf) (.inr rfl)
  dsimp only
  refine s_retU (eu_tup (ea_cons ev_c (ea_cons (ev_var rfl) (ea_cons (ev_var rfl) (ea_cons (ev_var rfl) (ea_cons (ev_var rfl) ea_nil))))) (show 5 ≤ 100000 by decide)) fun p H8 hp e8 h8 => q1 p (st6.after .end_) H8 ((r1.trans r6).trans r7) (Nat.lt_of_lt_of_le (Nat.lt_succ_self st.many) (r6.trans r7).le) hs7 (P7.ex e8) ?_
  exact fun x o e n => e8 _ _ (c7 _ _ (ch06 _ _ e n) (fun z => z.elim (fun z => n (.inl z)) fun z => by rw [z, hf] at e; cases e))
end WP
set_option Elab.async false
set_option linter.all false
set_option maxRecDepth 100000
set_option maxHeartbeats 4000000
/-! for, if -/
namespace WP
open PySem PySem.Spec PyProof.Rows L2 Evl SX
variable {w : World} {K : PySem.W.Frag} {mg : Str → Option Value} {base : Heap}
/-- the objects of a line's reading, as the conditions take them -/
def obOf (A : PA) (L : List (List Nat)) (n : Nat) (a dx wl : Addr) (ws : List (List Nat)) (sa ds gv : Addr) (it : V) (kvs : List (Key × V)) : Ob := ⟨A, L, n, 0, a, dx, wl, ws, sa, ds, gv, it, kvs⟩
theorem cc_of {H : Hp} {A : PA} {L : List (List Nat)} {n n' : Nat} {fl : List (List Nat)} {a dx wl : Addr} {ws : List (List Nat)} {k : Nat} {z : List Blk} {sa ds gv : Addr} {it : V} {kvs : List (Key × V)} (P : PInv K H A L n 0 0 fl) (l : LnH K H a dx wl ws k) (ap : Apart A wl) (S : SC K H A z n' sa ds gv it kvs) : (obOf A L n a dx wl ws sa ds gv it kvs).C K H 0 fl k :=
  ⟨P, l, ap, S.s, S.g, by rcases S.m.im with ⟨e, _⟩ | ⟨m, hm, e, _⟩; exact .inl e; exact .inr ⟨m, hm, e⟩⟩
/-- scope.inner(name) -/
theorem hi_inner1 (T : TT K mg) {σ : L2.St} {H : Hp} {A : PA} {L : List (List Nat)} {st : LS} {z : List Blk} {n0 : Nat} {sa ds gv : Addr} {kvs : List (Key × V)} {si ni : Nat} {n : List Nat} (hsi : σ[si]? = some (some (.ref sa))) (hni : σ[ni]? = some (some (.str (S n)))) (P : PInv K H A L st.many 0 0 st.fl) (S0 : SC K H A z n0 sa ds gv .non kvs) (hm : Mt st.stk (.str (S n)) kvs) (hn : n0 ≤ st.many) :
    ∀ (H1 : Hp) (Q' : VK), Ex H H1 → (∀ (sa ds gv : Addr) (it : V) H2, Ex H1 H2 → H1 gv = none → SC K H2 A st.stk st.many sa ds gv it kvs → Q' (.ref sa) H2) → tM (He.ga K "Scope") "inner" (sp_Scope_inner1 (K := K)) E0 (tVar si) (tCons (tVar ni) tNil) σ H1 Q' := fun H1 Q' e1 q =>
  go_m (ev_var hsi) (e1 _ _ S0.s) rfl (ea_cons (ev_var hni) ea_nil) fun H2 e2 => ⟨_, _, rfl, _, _, rfl, sa, ds, A.ma, gv, .non, kvs, rfl, rfl, (e1.trans e2) _ _ S0.s, (e1.trans e2) _ _ S0.g, fun b db g' H3 hb hg hbg e3 hb3 hg3 => by
    obtain ⟨dx, pa, da, f1, f2⟩ := P.f
    have f3 := ((e1.trans e2).trans e3) _ _ f1
    rw [if_neg (by intro z; cases z)] at hb3
    refine q b db g' (.str (S n)) H3 (e2.trans e3) (fresh_back e2 hg) ⟨hb3, hg3, fun dx' pa' da' e' => ?_, hm, Nat.le_trans S0.kl hn⟩
    rw [f3] at e'
    cases e'
    exact fun z => by
      have := (e1.trans e2) _ _ f2
      rw [z, hg] at this
      cases this⟩
theorem o_for (T : TT K mg) (m : Nat) (o_RowReader_read_rows_n : MetX PW w K mg base (CXM w) (20 + 5 * m) (He.ga K "RowReader") "read_rows" (sp_rows (K := K) m)) : MetX PW w K mg base (CXM w) (21 + 5 * m) (He.ga K "RowReader") "read_for" (sp_blk (K := K) (m + 1) fun l => ∃ n t, l = .for_ n t) := by
  obtain ⟨fd, F⟩ := f_RowReader_read_for T
  have L0 : 21 + 5 * m = (20 + 5 * m) + 1 := by omega
  rw [L0]
  refine ⟨_, mk4 F (b_RowReader_read_for F) sc_RowReader_read_for fun a b c d cdv A outer s H Q E hr h => ⟨_, (pss_cons (ps_set (i := 4) sc_RowReader_read_for.nd rfl (Or.inl rfl) (wm0 (o_Line_take_name T) hr (by omega) pass0 (pv 1)))
        (pss_cons (ps_if (L2.PW.pt (pw_or (pt_cmpR op_notN (pe_fld (pv 3) rfl) pe_non (nomark _)) (pw_or1 (pt_val (wm (o_Scope_sees T) hr (by omega) pass0 (pv 3) (pa_cons (pv 4) pa_nil)))))) (pss_one (ps_misread T)) pss_nil)
        (pss_cons (ps_expr (wm (o_Line_expect T) hr (by omega) passE (pv 1) (pa_cons pe_str pa_nil)))
        (pss_cons (ps_set (i := 5) sc_RowReader_read_for.nd rfl (Or.inl rfl) (wc (o_read_thing T) hr (by omega) passE (pa_cons (pv 1) (pa_cons (pv 3) pa_nil))))
        (pss_cons (ps_set (i := 6) sc_RowReader_read_for.nd rfl (Or.inl rfl) (wm (o_RowReader_accept T) hr (by omega) passE (pv 0) (pa_cons (pv 1) (pa_cons (pv 2) pa_nil))))
        (pss_cons (ps_asg (wm o_RowReader_read_rows_n hr (by omega) passE (pv 0) (pa_cons (pe_op op_add (pv 2) pe_int) (pa_cons (wm (o_Scope_inner1 T) hr (by omega) pass0 (pv 3) (pa_cons (pv 4) pa_nil)) pa_nil))) (pg_tup rfl (pgs_cons (pg_name (i := 7) sc_RowReader_read_for.nd rfl (Or.inl rfl)) (pgs_cons (pg_name (i := 8) sc_RowReader_read_for.nd rfl (Or.inl rfl)) pgs_nil))))
        (pss_cons (ps_expr (wm (o_RowReader_close T) hr (by omega) passE (pv 0) (pa_cons (pv 8) (pa_cons (pv 2) pa_nil))))
        (pss_one (ps_ret (pe_tup (pa_cons pe_str (pa_cons (pv 6) (pa_cons (pv 4) (pa_cons (pv 5) (pa_cons (pv 7) pa_nil))))))))))))))), ?_⟩, c_RowReader T, m_RowReader_read_for T⟩
  obtain ⟨A, Ls, L, st, s, b, sa, ds, gv, it, kvs, d, l, a, dx, wl, rfl, rfl, rfl, rfl, ⟨n, t, rfl⟩, tx, P, S1, hs, hl, hd6, hdm, hLs, hn, ln, hap, q1, q2⟩ := h
  obtain ⟨hwn, hwt⟩ := (tx.ln _ _ hLs).1
  have hC := cc_of P ln hap S1
  generalize ho : obOf A L st.many a dx wl (LK.for_ n t).toks sa ds gv it kvs = o at hC
  have hoM : ∀ {H H' : Hp}, o.M H H' → Ch (Mr1 A a) H H' := fun h => by
    subst ho
    exact h.mono mr_c
  have fail : ¬ (st.stands (.for_ n t)) → ∀ H', Ch (Mr1 A a) H H' → H' A.r = H A.r → Mis K E H' := fun hns H' c e => RaiseW.here q2 (stuck_of hLs hns) ⟨s, b, hs⟩ P (.inr (by rw [e]; exact P.r)) c
  have keepR : ∀ {H' : Hp}, o.M H H' → H' A.r = H A.r := fun {H'} m => by
    rw [P.r]
    refine m _ _ P.r ?_
    subst ho
    obtain ⟨cs, c1, _⟩ := P.c
    rintro (z | z | z)
    · exact (ln.acc P).2 z.symm
    · exact ne_of P.r c1 (by intro z; cases z) z
    · exact ne_of P.r P.g.1 (by intro z; cases z) z
  have oa : o.a = a := by subst ho; rfl
  have osa : o.sa = sa := by subst ho; rfl
  have oit : o.it = it := by subst ho; rfl
  have okv : o.kvs = kvs := by subst ho; rfl
  have ows : o.ws = (LK.for_ n t).toks := by subst ho; rfl
  have hd1 : o.ws.drop 1 = n :: [105, 110] :: t.toks := by rw [ows]; rfl
  refine c_name T hC (ev_var (by rw [oa]; rfl)) hd1 hwn fun H1 m1 C1 d1 => ?_
  dsimp only [gName]
  have sees : ∀ (σ : L2.St) (H : Hp), o.C K H 0 st.fl 2 → σ[3]? = some (some (.ref sa)) → σ[4]? = some (some (.str (S n))) → Ev (tM (He.ga K "Scope") "sees" (sp_Scope_sees (K := K)) E0 (tVar 3) (tCons (tVar 4) tNil)) σ H (.bl ((valV kvs (.inr (S n))).isSome || decide (.str (S n) = it))) := fun σ H C h1 h3 => ev_m (ev_var h1) (by rw [← osa]; exact C.s) rfl (ea_cons (ev_var h3) ea_nil) fun H2 e2 Q' q' => ⟨_, _, rfl, sa, o.ds, o.A.ma, o.gv, it, kvs, n, rfl, rfl, S1.m.sc, by rw [← osa, ← oit]; exact e2 _ _ C.s, by rw [← okv]; exact e2 _ _ C.g, q'⟩
  have itm : ∀ (σ : L2.St) (H : Hp), o.C K H 0 st.fl 2 → σ[3]? = some (some (.ref sa)) → Ev (tFld K (tVar 3) "item") σ H it := fun σ H C h3 => by
    rw [← oit]
    exact c_item T C (ev_var (by rw [osa]; exact h3))
  refine q_when (et_or (et_test (ev_op (itm _ _ C1 rfl) ev_c rv_notN)) fun _ => et_B (sees _ _ C1 rfl rfl)) (fun hb H2 e2 => ?_) fun hb H2 e2 => ?_
  · refine fail (fun z => ?_) H2 ((hoM m1).trans (Ch.of_ex e2)) (by rw [e2 _ _ (by rw [keepR m1]; exact P.r), P.r])
    obtain ⟨_, s', b', e, z1, z2, z3, z4⟩ := z
    have y1 : it = .non := S1.m.non.mpr z2
    have y2 : (valV kvs (.inr (S n))).isSome = false := by
      have := mt (S1.m.sn n).mp z3
      simpa [seen] using this
    rw [y1, y2] at hb
    exact absurd hb (by simp)
  · rw [Bool.or_eq_false_iff, Bool.or_eq_false_iff] at hb
    have hit : it = .non := by simpa using hb.1
    have hns : ¬ seen kvs n := by
      unfold seen
      rw [hb.2.1]
      exact Bool.false_ne_true
    have C2 := C1.ex e2
    refine c_expects T C2 (ev_var (by rw [oa]; rfl)) (ev_c (v := .str (S [105, 110]))) d1 fun H3 m3 C3 d3 => ?_
    dsimp only
    have m13 : o.M H H3 := (m1.trans (Ch.of_ex e2)).trans m3
    refine go_f (ea_cons (ev_var (v := .ref o.a) (by rw [oa]; rfl)) (ea_cons (ev_var (v := .ref o.sa) (by rw [osa]; rfl)) ea_nil)) fun H4 e4 => ⟨_, _, rfl, o, st.fl, _, t, [], rfl, rfl, C3.ex e4, hwt, by rw [d3, List.append_nil], (by intro z; cases z), fun hk th j H5 C5 d5 m5 => ?_, fun hk H5 m5 => ?_⟩
    · dsimp only [gName]
      have m05 : o.M H H5 := (m13.trans (Ch.of_ex e4)).trans m5
      have hst : st.stands (.for_ n t) := ⟨by omega, s, b, hs, by omega, S1.m.non.mp hit, fun z => hns ((S1.m.sn n).mpr z), (S1.m.th t).mp (by rw [← oit, ← okv]; exact hk)⟩
      have r1 := Runs.one hLs hst
      have P5 : PInv K H5 A L st.many 1 0 st.fl := by subst ho; exact C5.p
      have l5 : LnH K H5 a dx wl (LK.for_ n t).toks j := by subst ho; exact C5.l
      have d5' : (LK.for_ n t).toks.drop j = [] := by rw [← ows]; exact d5
      refine go_accept rfl rfl rfl (by omega) hn P5 l5 (fun _ H6 c6 P6 => ?_) fun h => absurd d5' h
      dsimp only [gName]
      have ch6 : Ch (Mr1 A a) H H6 := (hoM m05).trans (c6.mono mr_w)
      have hsA : (st.after (.for_ n t)).stk = st.stk ++ [⟨.for_, .rows, [], [n]⟩] := rfl
      have S6 : SC K H6 A st.stk st.many sa ds gv it kvs := S1.ch P ch6 (sc_line ln) (Nat.le_refl _)
      rw [hit] at S6
      have hmt : Mt (st.after (.for_ n t)).stk (.str (S n)) kvs := by
        rw [hsA]
        have := S1.m
        rw [hit] at this
        exact this.innerI hwn
      refine go_rows T (A := A) (Ls := Ls) (L := L) (st := st.after (.for_ n t)) (s := st.stk) (d := d) (kvs := kvs) (E := E) (h2 := (List.getElem?_eq_some_iff.mp hLs).1) rfl rfl tx P6 hsA (by rw [hsA, List.length_append, hl]; rfl) hd6 (by omega) (hi_inner1 T (st := st.after (.for_ n t)) (n := n) rfl rfl P6 S6 hmt (Nat.le_succ _)) (fun pt rw_ a2 dx2 wl2 st7 l7 b7 H7 r7 hs7 k7 p7 L7 c7 n7 P7 ln7 ap7 ha7 hw7 hpt7 hpn7 ch7 => ?_) (q2.fwd r1 ch6 fun x h => .inl (mr_m x h))
      have ch07 : Ch (Mr1 A a) H H7 := ch6.trans (ch7.mono mr_m)
      have ha6 : H6 a = some (.ins (He.ga K "Line") dx [("words", .ref wl), ("taken", .int (j : Int))]) := c6 _ _ l5.ob fun z => z.elim (l5.acc P5).1 (l5.acc P5).2
      have hf : H a2 = none := fresh_mr P6 ha6 ch6 ha7
      refine ⟨pt, [.ref rw_, .ref a2], rfl, .inl (.inl hpt7), rfl, _, _, rfl, _, _, rfl, rfl, ?_⟩
      dsimp only [tDrop]
      refine go_close T (M := fun x => Mr1 A a x ∨ x = a2) rfl rfl rfl (by omega) P7 ln7 ap7 c7 n7 L7 hs7 (fun z => by rw [k7] at z; cases z.1) (fun z => by rw [k7] at z; rcases z with z | z <;> cases z.1) (fun z => by rw [k7] at z; cases z.1) (fun H8 c8 P8 r8 hs8 => ?_) (q2.fwd (r1.trans r7) ch07 fun x h => h.imp id fun z => by rw [z]; exact hf) (.inr rfl)
      dsimp only
      refine s_retU (eu_tup (ea_cons ev_c (ea_cons (ev_var rfl) (ea_cons (ev_var rfl) (ea_cons (ev_var rfl) (ea_cons (ev_var rfl) ea_nil))))) (show 5 ≤ 100000 by decide)) fun p H9 hp e9 h9 => q1 p (st7.after .end_) H9 ((r1.trans r7).trans r8) (Nat.lt_of_lt_of_le (Nat.lt_succ_self st.many) (r7.trans r8).le) hs8 (P8.ex e9) ?_
      exact fun x o e n => e9 _ _ (c8 _ _ (ch07 _ _ e n) (fun z => z.elim (fun z => n (.inl z)) fun z => by rw [z, hf] at e; cases e))
    · have m05 : o.M H H5 := (m13.trans (Ch.of_ex e4)).trans m5
      refine fail (fun z => hk ?_) H5 (hoM m05) (keepR m05)
      obtain ⟨_, s', b', e, z1, z2, z3, z4⟩ := z
      rw [oit, okv]
      exact (S1.m.th t).mpr z4
end WP
set_option Elab.async false
set_option linter.all false
set_option maxRecDepth 100000
set_option maxHeartbeats 4000000
/-! if, try -/
namespace WP
open PySem PySem.Spec PyProof.Rows L2 Evl SX
variable {w : World} {K : PySem.W.Frag} {mg : Str → Option Value} {base : Heap}
theorem o_if (T : TT K mg) (m : Nat) (o_RowReader_read_rows_n : MetX PW w K mg base (CXM w) (20 + 5 * m) (He.ga K "RowReader") "read_rows" (sp_rows (K := K) m))
    (o_RowReader_read_else_n : MetX PW w K mg base (CXM w) (21 + 5 * m) (He.ga K "RowReader") "read_else" (sp_else (K := K) (m + 1))) : MetX PW w K mg base (CXM w) (22 + 5 * m) (He.ga K "RowReader") "read_if" (sp_blk (K := K) (m + 1) fun l => ∃ neg t, l = .if_ neg t) := by
  obtain ⟨fd, F⟩ := f_RowReader_read_if T
  have L0 : 22 + 5 * m = (21 + 5 * m) + 1 := by omega
  rw [L0]
  refine ⟨_, mk4 F (b_RowReader_read_if F) sc_RowReader_read_if fun a b c d cdv A outer s H Q E hr h => ⟨_, (pss_cons (ps_set (i := 4) sc_RowReader_read_if.nd rfl (Or.inl rfl) (wc (o_read_condition T) hr (by omega) passE (pa_cons (pv 1) (pa_cons (pv 3) pa_nil))))
        (pss_cons (ps_set (i := 5) sc_RowReader_read_if.nd rfl (Or.inl rfl) (wm (o_RowReader_accept T) hr (by omega) passE (pv 0) (pa_cons (pv 1) (pa_cons (pv 2) pa_nil))))
        (pss_cons (ps_asg (wm o_RowReader_read_rows_n hr (by omega) passE (pv 0) (pa_cons (pe_op op_add (pv 2) pe_int) (pa_cons (wm0 (o_Scope_inner0 T) hr (by omega) pass0 (pv 3)) pa_nil))) (pg_tup rfl (pgs_cons (pg_name (i := 6) sc_RowReader_read_if.nd rfl (Or.inl rfl)) (pgs_cons (pg_name (i := 7) sc_RowReader_read_if.nd rfl (Or.inl rfl)) pgs_nil))))
        (pss_one (ps_ret (pe_tup (pa_cons pe_str (pa_cons (pv 5) (pa_cons (pv 4) (pa_cons (pv 6) (pa_cons (wm o_RowReader_read_else_n hr (by omega) passE (pv 0) (pa_cons (pv 7) (pa_cons (pv 2) (pa_cons (pv 3) pa_nil)))) pa_nil))))))))))), ?_⟩, c_RowReader T, m_RowReader_read_if T⟩
  obtain ⟨A, Ls, L, st, s, b, sa, ds, gv, it, kvs, d, l, a, dx, wl, rfl, rfl, rfl, rfl, ⟨neg, t, rfl⟩, tx, P, S1, hs, hl, hd6, hdm, hLs, hn, ln, hap, q1, q2⟩ := h
  have hwt := (tx.ln _ _ hLs).1
  have hC := cc_of P ln hap S1
  generalize ho : obOf A L st.many a dx wl (LK.if_ neg t).toks sa ds gv it kvs = o at hC
  have hoM : ∀ {H H' : Hp}, o.M H H' → Ch (Mr1 A a) H H' := fun h => by
    subst ho
    exact h.mono mr_c
  have fail : ¬ (st.stands (.if_ neg t)) → ∀ H', Ch (Mr1 A a) H H' → H' A.r = H A.r → Mis K E H' := fun hns H' c e => RaiseW.here q2 (stuck_of hLs hns) ⟨s, b, hs⟩ P (.inr (by rw [e]; exact P.r)) c
  have keepR : ∀ {H' : Hp}, o.M H H' → H' A.r = H A.r := fun {H'} m => by
    rw [P.r]
    refine m _ _ P.r ?_
    subst ho
    obtain ⟨cs, c1, _⟩ := P.c
    rintro (z | z | z)
    · exact (ln.acc P).2 z.symm
    · exact ne_of P.r c1 (by intro z; cases z) z
    · exact ne_of P.r P.g.1 (by intro z; cases z) z
  have oa : o.a = a := by subst ho; rfl
  have osa : o.sa = sa := by subst ho; rfl
  have hok : t.ok o.it o.kvs st.fl ↔ t.okL (itemsN st.stk) (seenN st.stk) st.fl := by
    subst ho
    exact S1.m.at_ t
  have ows : o.ws = (LK.if_ neg t).toks := by subst ho; rfl
  have hd1 : o.ws.drop 1 = cnd neg t ++ [] := by rw [ows, List.append_nil]; rfl
  have nst : ¬ t.ok o.it o.kvs st.fl → ¬ st.stands (.if_ neg t) := fun hk z => by
    obtain ⟨_, s', b', e, z1, z2⟩ := z
    exact hk (hok.mpr z2)
  refine go_f (ea_cons (ev_var (v := .ref o.a) (by rw [oa]; rfl)) (ea_cons (ev_var (v := .ref o.sa) (by rw [osa]; rfl)) ea_nil)) fun H1 e1 => ⟨_, _, rfl, o, st.fl, 1, neg, t, [], rfl, rfl, hC.ex e1, hwt, hd1, .inl rfl, fun hk v j H5 _ C5 d5 m5 => ?_, fun hk => ⟨fun H5 m5 => ?_, fun v j r H5 _ C5 d5 hr5 m5 => ?_⟩⟩
  · dsimp only [gName]
    have m05 : o.M H H5 := (Ch.of_ex e1).trans m5
    have hst : st.stands (.if_ neg t) := ⟨by omega, s, b, hs, show st.stk.length ≤ 6 by omega, hok.mp hk⟩
    have r1 := Runs.one hLs hst
    have P5 : PInv K H5 A L st.many 1 0 (t.fl st.fl) := by subst ho; exact C5.p
    have l5 : LnH K H5 a dx wl (LK.if_ neg t).toks j := by subst ho; exact C5.l
    have d5' : (LK.if_ neg t).toks.drop j = [] := by rw [← ows]; exact d5
    refine go_accept rfl rfl rfl (by omega) hn P5 l5 (fun _ H6 c6 P6 => ?_) fun h => absurd d5' h
    dsimp only [gName]
    have ch6 : Ch (Mr1 A a) H H6 := (hoM m05).trans (c6.mono mr_w)
    have hsA : (st.after (.if_ neg t)).stk = st.stk ++ [⟨.if_, .rows, [], []⟩] := rfl
    have S6 : SC K H6 A st.stk st.many sa ds gv it kvs := S1.ch P ch6 (sc_line ln) (Nat.le_refl _)
    refine go_rows T (A := A) (Ls := Ls) (L := L) (st := st.after (.if_ neg t)) (s := st.stk) (d := d) (kvs := kvs) (E := E) (h2 := (List.getElem?_eq_some_iff.mp hLs).1) rfl rfl tx P6 hsA (by rw [hsA, List.length_append, hl]; rfl) hd6 (by omega) (hi_inner0 T (st := st.after (.if_ neg t)) rfl P6 S6 (by rw [hsA]; exact S1.m.inner _ _) (Nat.le_succ _) S1.m.sc) (fun pt rw_ a2 dx2 wl2 st7 l7 b7 H7 r7 hs7 k7 p7 L7 c7 n7 P7 ln7 ap7 ha7 hw7 hpt7 hpn7 ch7 => ?_) (q2.fwd r1 ch6 fun x h => .inl (mr_m x h))
    have ch07 : Ch (Mr1 A a) H H7 := ch6.trans (ch7.mono mr_m)
    have ha6 : H6 a = some (.ins (He.ga K "Line") dx [("words", .ref wl), ("taken", .int (j : Int))]) := c6 _ _ l5.ob fun z => z.elim (l5.acc P5).1 (l5.acc P5).2
    have hf : H a2 = none := fresh_mr P6 ha6 ch6 ha7
    have S7 : SC K H7 A st.stk st7.many sa ds gv it kvs := by
      have hmn : st.many ≤ st7.many := by
        have := r7.le
        exact Nat.le_trans (Nat.le_succ _) this
      exact S1.ch P ch07 (sc_line ln) hmn
    refine ⟨pt, [.ref rw_, .ref a2], rfl, .inl (.inl hpt7), rfl, _, _, rfl, _, _, rfl, rfl, ?_⟩
    dsimp only [tRet, tTup, tCons, tNil, tC]
    refine ⟨_, rfl, _, rfl, _, rfl, ?_⟩
    have gn : ∀ x, Mr1 A a2 x → Mr1 A a x ∨ H x = none := fun x h => h.imp (mr_m x) fun z => by rw [z]; exact hf
    refine go_m (ev_var (v := .ref A.r) rfl) P7.r rfl (ea_cons (ev_var rfl) (ea_cons (ev_var rfl) (ea_cons (ev_var rfl) ea_nil))) fun H8 e8 => ⟨_, _, _, _, rfl, A, Ls, L, st7, st.stk, b7, sa, ds, gv, it, kvs, d, l7, a2, dx2, wl2, rfl, rfl, rfl, rfl, tx, P7.ex e8, S7.ex P7 e8, hs7, hl, hd6, hdm, L7, c7, n7, ln7.ex e8, ap7, .inl ⟨k7, p7⟩, fun v8 st9 H9 r9 hs9 P9 ch9 => ⟨show 5 ≤ sizeLine by decide, fun p hp => ?_⟩, q2.fwd (r1.trans r7) (ch07.trans (Ch.of_ex e8)) gn⟩
    refine q1 p st9 _ ((r1.trans r7).trans r9) (Nat.lt_of_lt_of_le (Nat.lt_succ_self st.many) (r7.trans r9).le) hs9 (P9.ex (Ex.new hp)) ?_
    exact fun x o e n => Ex.new hp _ _ (ch9 _ _ (e8 _ _ (ch07 _ _ e n)) fun z => (gn x z).elim n fun y => by rw [y] at e; cases e)
  · exact fail (nst hk) H5 (hoM ((Ch.of_ex e1).trans m5)) (keepR ((Ch.of_ex e1).trans m5))
  · dsimp only [gName]
    have m05 : o.M H H5 := (Ch.of_ex e1).trans m5
    have P5 : PInv K H5 A L st.many 1 0 st.fl := by subst ho; exact C5.p
    have l5 : LnH K H5 a dx wl (LK.if_ neg t).toks j := by subst ho; exact C5.l
    refine go_accept rfl rfl rfl (by omega) hn P5 l5 (fun h H6 c6 P6 => ?_) fun _ H6 e6 => fail (nst hk) H6 ((hoM m05).trans (Ch.of_ex e6)) (by rw [e6 _ _ (by rw [keepR m05]; exact P.r), P.r])
    rw [← ows, d5] at h
    exact absurd h (stub_ne hr5)
end WP
set_option Elab.async false
set_option linter.all false
set_option maxRecDepth 100000
set_option maxHeartbeats 4000000
/-! try -/
namespace WP
open PySem PySem.Spec PyProof.Rows L2 Evl SX
variable {w : World} {K : PySem.W.Frag} {mg : Str → Option Value} {base : Heap}
theorem PInv.own {H0 H H' : Hp} {A : PA} {L : List (List Nat)} {n0 ec0 ek0 n ec ek : Nat} {fl0 fl : List (List Nat)} {p : Addr} {xs : List V} (P0 : PInv K H0 A L n0 ec0 ek0 fl0) (h0 : H0 p = none) (P : PInv K H A L n ec ek fl) (hp : H p = some (.lst xs)) (c : Ch (fun z => z = p) H H') : PInv K H' A L n ec ek fl := by
  have ne : ∀ {q : Addr} {u : HO}, H0 q = some u → q ≠ p := fun e z => by rw [z, h0] at e; cases e
  obtain ⟨cs0, c0, _⟩ := P0.c
  obtain ⟨ks0, k0, _⟩ := P0.k
  obtain ⟨zs0, w0, _⟩ := P0.w
  obtain ⟨cs, c1, c2⟩ := P.c
  obtain ⟨ks, k1, k2⟩ := P.k
  obtain ⟨zs, w1, w2⟩ := P.w
  refine ⟨c _ _ P.r (ne P0.r), c _ _ P.l (ne P0.l), c _ _ P.m (ne P0.m), P.f.ch c fun q e => ?_, ⟨cs, c _ _ c1 (ne c0), c2⟩, ⟨c _ _ P.g.1 (ne P0.g.1), P.g.2⟩, ⟨ks, c _ _ k1 (ne k0), k2⟩, ⟨zs, c _ _ w1 (ne w0), w2⟩, P.b, P.ne⟩
  subst e
  exact ⟨_, hp, fun z => (nomatch z), fun kvs z => by cases z⟩
theorem Ch.own {M : Addr → Prop} {H0 H H' : Hp} {p : Addr} (h0 : H0 p = none) (m : Ch M H0 H) (c : Ch (fun z => z = p) H H') : Ch M H0 H' := fun x u e nx => c _ _ (m _ _ e nx) fun z => by rw [z, h0] at e; cases e
theorem nMr {H : Hp} {A : PA} {L : List (List Nat)} {n ec ek : Nat} {fl : List (List Nat)} {p : Addr} (P : PInv K H A L n ec ek fl) (h : H p = none) : ¬ Mr A p := by
  obtain ⟨cs, c1, _⟩ := P.c
  obtain ⟨ks, k1, _⟩ := P.k
  obtain ⟨zs, z1, _⟩ := P.w
  rintro (r | r | r | r | r) <;> subst r
  · rw [P.r] at h; cases h
  · rw [c1] at h; cases h
  · rw [P.g.1] at h; cases h
  · rw [k1] at h; cases h
  · rw [z1] at h; cases h
theorem aMr {H : Hp} {A : PA} {L : List (List Nat)} {n ec ek : Nat} {fl : List (List Nat)} {a dx wl : Addr} {ws : List (List Nat)} {k : Nat} (P : PInv K H A L n ec ek fl) (l : LnH K H a dx wl ws k) : ¬ Mr A a := by
  obtain ⟨cs, c1, _⟩ := P.c
  obtain ⟨ks, k1, _⟩ := P.k
  rintro (z | z | z | z | z)
  · exact (l.acc P).2 z
  · exact ne_of l.ob c1 (by intro y; cases y) z
  · exact ne_of l.ob P.g.1 (by intro y; cases y) z
  · exact ne_of l.ob k1 (by intro y; cases y) z
  · exact (l.acc P).1 z
theorem o_try (T : TT K mg) (m : Nat) (o_RowReader_read_rows_n : MetX PW w K mg base (CXM w) (20 + 5 * m) (He.ga K "RowReader") "read_rows" (sp_rows (K := K) m))
    (o_RowReader_read_else_n : MetX PW w K mg base (CXM w) (21 + 5 * m) (He.ga K "RowReader") "read_else" (sp_else (K := K) (m + 1))) : MetX PW w K mg base (CXM w) (22 + 5 * m) (He.ga K "RowReader") "read_try" (sp_blk (K := K) (m + 1) fun l => l = .try_) := by
  obtain ⟨fd, F⟩ := f_RowReader_read_try T
  have L0 : 22 + 5 * m = (21 + 5 * m) + 1 := by omega
  rw [L0]
  refine ⟨_, mk4 F (b_RowReader_read_try F) sc_RowReader_read_try fun a b c d cdv A outer s H Q E hr h => ⟨_, (pss_cons (ps_set (i := 4) sc_RowReader_read_try.nd rfl (Or.inl rfl) (wm (o_RowReader_accept T) hr (by omega) passE (pv 0) (pa_cons (pv 1) (pa_cons (pv 2) pa_nil))))
        (pss_cons (ps_asg (wm o_RowReader_read_rows_n hr (by omega) passE (pv 0) (pa_cons (pe_op op_add (pv 2) pe_int) (pa_cons (wm0 (o_Scope_inner0 T) hr (by omega) pass0 (pv 3)) pa_nil))) (pg_tup rfl (pgs_cons (pg_name (i := 5) sc_RowReader_read_try.nd rfl (Or.inl rfl)) (pgs_cons (pg_name (i := 6) sc_RowReader_read_try.nd rfl (Or.inl rfl)) pgs_nil))))
        (pss_cons (ps_if (pt_cmpR op_ne (wm0 (o_Line_peek T) hr (by omega) pass0 (pv 6)) pe_str (nomark _)) (pss_one (ps_misread T)) pss_nil)
        (pss_cons (ps_set (i := 7) sc_RowReader_read_try.nd rfl (Or.inl rfl) (pe_lst pa_nil))
        (pss_cons (ps_while ownE (pt_cmpR op_eq (wm0 (o_Line_peek T) hr (by omega) pass0 (pv 6)) pe_str (nomark _)) (pss_cons (ps_expr (wm0 (o_Line_take T) hr (by omega) pass0 (pv 6)))
        (pss_cons (ps_set (i := 8) sc_RowReader_read_try.nd rfl (Or.inl rfl) (wm (o_Line_take_class T) hr (by omega) pass0 (pv 6) (pa_cons (pe_fld (pe_fld (pv 0) rfl) rfl) pa_nil)))
        (pss_cons (ps_set (i := 9) sc_RowReader_read_try.nd rfl (Or.inl rfl) (wm (o_RowReader_accept T) hr (by omega) passE (pv 0) (pa_cons (pv 6) (pa_cons (pv 2) pa_nil))))
        (pss_cons (ps_asg (wm o_RowReader_read_rows_n hr (by omega) passE (pv 0) (pa_cons (pe_op op_add (pv 2) pe_int) (pa_cons (wm0 (o_Scope_inner0 T) hr (by omega) pass0 (pv 3)) pa_nil))) (pg_tup rfl (pgs_cons (pg_name (i := 10) sc_RowReader_read_try.nd rfl (Or.inl rfl)) (pgs_cons (pg_name (i := 6) sc_RowReader_read_try.nd rfl (Or.inl rfl)) pgs_nil))))
        (pss_one (ps_expr (pe_bm PySem.F.plainAttrs_list PySem.F.slot_list_append PySem.F.type_list_append mt_append (pv 7) (pa_cons (pe_tup (pa_cons (pv 9) (pa_cons (pv 8) (pa_cons (pv 10) pa_nil)))) pa_nil)))))))))
        (pss_one (ps_ret (pe_tup (pa_cons pe_str (pa_cons (pv 4) (pa_cons (pv 5) (pa_cons (pe_callTy call_tuple_of rfl (z_tuple T) (by decide +kernel) (pa_cons (pv 7) pa_nil)) (pa_cons (wm o_RowReader_read_else_n hr (by omega) passE (pv 0) (pa_cons (pv 6) (pa_cons (pv 2) (pa_cons (pv 3) pa_nil)))) pa_nil))))))))))))), ?_⟩, c_RowReader T, m_RowReader_read_try T⟩
  obtain ⟨A, Ls, L, st, s, b, sa, ds, gv, it, kvs, d, l, a, dx, wl, rfl, rfl, rfl, rfl, rfl, tx, P, S1, hs, hl, hd6, hdm, hLs, hn, ln, hap, q1, q2⟩ := h
  have hst : st.stands .try_ := ⟨by omega, s, b, hs, show st.stk.length ≤ 6 by omega⟩
  have r1 := Runs.one hLs hst
  refine go_accept rfl rfl rfl (by omega) hn P ln (fun _ H1 c1 P1 => ?_) fun h => absurd rfl h
  dsimp only [gName]
  have ch1 : Ch (Mr1 A a) H H1 := c1.mono mr_w
  have ha1 : H1 a = some _ := c1 _ _ ln.ob fun z => z.elim (ln.acc P).1 (ln.acc P).2
  have hsA : (st.after .try_).stk = st.stk ++ [⟨.try_, .rows, [], []⟩] := rfl
  have S2 : SC K H1 A st.stk st.many sa ds gv it kvs := S1.ch P ch1 (sc_line ln) (Nat.le_refl _)
  refine go_rows T (A := A) (Ls := Ls) (L := L) (st := st.after .try_) (s := st.stk) (d := d) (kvs := kvs) (E := E) (h2 := (List.getElem?_eq_some_iff.mp hLs).1) rfl rfl tx P1 hsA (by rw [hsA, List.length_append, hl]; rfl) hd6 (by omega) (hi_inner0 T (st := st.after .try_) rfl P1 S2 (by rw [hsA]; exact S1.m.inner _ _) (Nat.le_succ _) S1.m.sc) (fun pt rw_ a5 dx5 wl5 st5 l5 b5 H5 r5 hs5 k5 p5 L5 c5 n5 P5 ln5 ap5 ha5 hw5 hpt5 hpn5 ch5 => ?_) (q2.fwd r1 ch1 fun x h => .inl (mr_m x h))
  have ch05 : Ch (Mr1 A a) H H5 := ch1.trans (ch5.mono mr_m)
  have hf5 : H a5 = none := fresh_mr P1 ha1 ch1 ha5
  have ha5a : ∃ oa, H5 a = some oa := ⟨_, ch5 _ _ ha1 fun z => by
    obtain ⟨cs, c1', _⟩ := P1.c
    obtain ⟨ks, k1', _⟩ := P1.k
    obtain ⟨zs, z1', _⟩ := P1.w
    rcases z with z | z | z | z | z
    · exact (ln.acc P).2 z
    · exact ne_of ha1 c1' (by intro y; cases y) z
    · exact ne_of ha1 P1.g.1 (by intro y; cases y) z
    · exact ne_of ha1 k1' (by intro y; cases y) z
    · exact (ln.acc P).1 z⟩
  refine ⟨pt, [.ref rw_, .ref a5], rfl, .inl (.inl hpt5), rfl, _, _, rfl, _, _, rfl, rfl, ?_⟩
  -- the line behind the rows must be except
  dsimp only [gName]
  refine q_when (b := !decide (tk l5.toks 0 = [101, 120, 99, 101, 112, 116])) (et_is (et_test (ev_op (ev_peek T (ev_var (v := .ref a5) rfl) ln5) (ev_c (v := .str (S [101, 120, 99, 101, 112, 116]))) (rv_ne rfl))) (by rw [dec_S])) (fun hb H6 e6 => ?_) fun hb H6 e6 => ?_
  · refine RaiseW.here (H := H5) (q2.fwd (r1.trans r5) ch05 fun x h => .inl h) (stuck_of L5 fun z => ?_) ⟨_, b5, hs5⟩ P5 (.inr (e6 _ _ P5.r)) (Ch.of_ex e6)
    obtain ⟨_, s', b', e, z⟩ := z
    rw [hs5] at e
    obtain ⟨_, rfl⟩ := snoc_inj e
    rcases c5 with h | h | h
    · subst h
      exact z ⟨k5, p5⟩
    · subst h
      have z : b5.kind = .if_ ∧ b5.ph = .rows ∨ b5.kind = .try_ ∧ b5.ph = .except_ := z
      rw [k5, p5] at z
      rcases z with z | z <;> cases z.1 <;> cases z.2
    · subst h
      exact absurd hb (by decide)
  · have hl5 : l5 = .except_ := by
      have hb := (by simpa using hb : tk l5.toks 0 = [101, 120, 99, 101, 112, 116])
      rcases c5 with h | h | h
      · subst h
        exact absurd hb (by decide)
      · subst h
        exact absurd hb (by decide)
      · exact h
    refine q_asgL (el_lst ea_nil (by decide)) fun p H7 hp7 e7 h7 => ?_
    have hp5 : H5 p = none := fresh_back e6 hp7
    obtain ⟨oa, hoa⟩ := ha5a
    have hp0 : H p = none := fresh_mr P5 hoa ch05 hp5
    have e67 := e6.trans e7
    refine q_while (fun m' σ' H' => ∃ (st6 : LS) (b6 : Blk) (l6 : LK) (a6 dx6 wl6 : Addr) (hl : List V) (o1 o2 o3 : Option V), m' = 40 - st6.many ∧ σ' = [some (.ref A.r), some (.ref a), some (.int (d : Int)), some (.ref sa), some (.int (st.many : Int)), some (.ref rw_), some (.ref a6), some (.ref p), o1, o2, o3] ∧ Runs Ls st st6 ∧ st.many < st6.many ∧ st6.stk = st.stk ++ [b6] ∧ b6.kind = .try_ ∧ (b6.ph = .except_ ∨ b6.ph = .rows ∧ l6 = .except_) ∧ Ls[st6.many]? = some l6 ∧ closing l6 ∧ st6.many < 40 ∧ PInv K H' A L st6.many 0 0 st6.fl ∧ LnH K H' a6 dx6 wl6 l6.toks 0 ∧ Apart A wl6 ∧ H a6 = none ∧ H' p = some (.lst hl) ∧ hl.length ≤ st6.many ∧ p ≠ a6 ∧ p ≠ wl6 ∧ (∃ oa, H' a = some oa) ∧ Ch (Mr1 A a) H H') (40 - st5.many)
      ⟨st5, b5, l5, a5, dx5, wl5, [], none, none, none, rfl, rfl, r1.trans r5, Nat.lt_of_lt_of_le (Nat.lt_succ_self st.many) r5.le, hs5, k5, .inr ⟨p5, hl5⟩, L5, c5, n5, P5.ex e67, ln5.ex e67, ap5, hf5, h7, Nat.zero_le _, (fun z => by rw [z, ln5.ob] at hp5; cases hp5), (fun z => by rw [z, ln5.wd] at hp5; cases hp5), ⟨_, e67 _ _ hoa⟩, ch05.trans (Ch.of_ex e67)⟩ ?_
    rintro m' σ' H' ⟨st6, b6, l6, a6, dx6, wl6, hl6, o1, o2, o3, rfl, rfl, r6, lt6, hs6, k6, p6, L6, c6, n6, P6, ln6, ap6, hf6, hp6, hz6, hpa6, hpw6, ⟨oa6, hoa6⟩, ch6⟩
    refine ⟨decide (tk l6.toks 0 = [101, 120, 99, 101, 112, 116]), et_is (et_test (ev_op (ev_peek T (ev_var (v := .ref a6) rfl) ln6) (ev_c (v := .str (S [101, 120, 99, 101, 112, 116]))) (rv_eq rfl))) (by rw [dec_S]), fun hb H8 e8 => ?_, fun hb H8 e8 => ?_⟩
    · have hl : l6 = .except_ := by
        have hb := of_decide_eq_true hb
        rcases c6 with h | h | h
        · subst h
          exact absurd hb (by decide)
        · subst h
          exact absurd hb (by decide)
        · exact h
      subst hl
      have hst6 : st6.stands .except_ := ⟨by omega, _, b6, hs6, k6, by rcases p6 with h | h; rw [h]; intro z; cases z; rw [h.1]; intro z; cases z⟩
      have r7 := Runs.one L6 hst6
      refine ⟨fun σ2 H2 => ∃ m'', m'' < 40 - st6.many ∧ _, fun σ2 H2 h => h, ?_⟩
      refine q_take T (ev_var (v := .ref a6) rfl) (ln6.ex e8) fun H9 c9 l9 => ?_
      have P9 := (P6.ex e8).ch1 c9 (ln6.ex e8).ob ⟨_, _, _, _, rfl⟩
      refine go_m (ev_var (v := .ref a6) rfl) l9.ob rfl (ea_cons (ev_fld (rd_fld T P9 (ev_var (v := .ref A.r) rfl)).2.2.1 P9.m (c_Mentions T) (n_Mentions_family T) rfl) ea_nil) fun H10 e10 => ⟨_, _, rfl, a6, dx6, wl6, _, 1, A.fa, rfl, l9.ex e10, rfl, (P9.ex e10).f, .inr (by decide), fun H11 c11 l11 => ?_⟩
      dsimp only [gName]
      have P11 := (P9.ex e10).ch1 c11 (l9.ex e10).ob ⟨_, _, _, _, rfl⟩
      refine go_accept rfl rfl rfl (by omega) n6 P11 l11 (fun _ H12 c12 P12 => ?_) fun h => absurd rfl h
      dsimp only [gName]
      have fr : ∀ {x : Addr} {o : HO}, H x = some o → x ≠ a6 := fun e z => by rw [z, hf6] at e; cases e
      have ch12 : Ch (Mr1 A a) H H12 := fun x o e n => c12 _ _ (c11 _ _ (e10 _ _ (c9 _ _ (e8 _ _ (ch6 _ _ e n)) (fr e))) (fr e)) fun z => n (mr_w x z)
      have haa6 : a ≠ a6 := fr ln.ob
      have oa12 : H12 a = some oa6 := c12 _ _ (c11 _ _ (e10 _ _ (c9 _ _ (e8 _ _ hoa6) haa6)) haa6) fun z => z.elim (ln.acc P).1 (ln.acc P).2
      have hp12 : H12 p = some (.lst hl6) := c12 _ _ (c11 _ _ (e10 _ _ (c9 _ _ (e8 _ _ hp6) hpa6)) hpa6) fun z => by
        obtain ⟨zs, z1, _⟩ := P.w
        rcases z with z | z
        · rw [z, z1] at hp0; cases hp0
        · rw [z, P.r] at hp0; cases hp0
      have hsB : (st6.after .except_).stk = st.stk ++ [⟨.try_, .except_, [], []⟩] := by
        show topTo st6.stk _ = _
        rw [hs6, topTo_snoc, k6]
      have S12 : SC K H12 A st.stk st6.many sa ds gv it kvs := S1.ch P ch12 (sc_line ln) (Nat.le_trans (Nat.le_refl _) r6.le)
      refine go_rows T (A := A) (Ls := Ls) (L := L) (st := st6.after .except_) (s := st.stk) (d := d) (kvs := kvs) (E := E) (h2 := (List.getElem?_eq_some_iff.mp L6).1) rfl rfl tx P12 hsB (by rw [hsB, List.length_append, ‹st.stk.length = d›]; rfl) hd6 (by omega) (hi_inner0 T (st := st6.after .except_) rfl P12 S12 (by rw [hsB]; exact S1.m.inner _ _) (Nat.le_succ _) S1.m.sc) (fun pt2 rw2 a13 dx13 wl13 st13 l13 b13 H13 r13 hs13 k13 p13 L13 c13 n13 P13 ln13 ap13 ha13 hw13 hpt13 hpn13 ch13 => ?_) (q2.fwd (r6.trans r7) ch12 fun x h => .inl (mr_m x h))
      have ch013 : Ch (Mr1 A a) H H13 := ch12.trans (ch13.mono mr_m)
      have hf13 : H a13 = none := fresh_mr P12 oa12 ch12 ha13
      have hp13 : H13 p = some (.lst hl6) := ch13 _ _ hp12 (nMr P hp0)
      have hpa13 : p ≠ a13 := fun z => by rw [z, ha13] at hp12; cases hp12
      have hpw13 : p ≠ wl13 := fun z => by rw [z, hw13] at hp12; cases hp12
      have hap : a ≠ p := fun z => by rw [← z, ln.ob] at hp0; cases hp0
      have h14 : st6.many + 1 ≤ st13.many := r13.le
      refine ⟨pt2, [.ref rw2, .ref a13], rfl, .inl (.inl hpt13), rfl, _, _, rfl, _, _, rfl, rfl, ?_⟩
      dsimp only [gName]
      refine s_appU hp13 (ev_var (v := .ref p) rfl) (eu_tup (ea_cons (ev_var rfl) (ea_cons (ev_var rfl) (ea_cons (ev_var rfl) ea_nil))) (show 3 ≤ 100000 by decide)) (by omega) fun tp H14 htp e14 _ => ?_
      refine ⟨40 - st13.many, by omega, st13, b13, l13, a13, dx13, wl13, hl6 ++ [.ref tp], _, _, _, rfl, rfl, (r6.trans r7).trans r13, by omega, hs13, k13, .inl p13, L13, c13, n13, PInv.own P hp0 (P13.ex e14) (e14 _ _ hp13) ((Ch.of_ex (Ex.refl _)).set (M := fun z => z = p) rfl), (ln13.ex e14).upd hpa13 hpw13, ap13, hf13, upd_same, (by rw [List.length_append]; simp; omega), hpa13, hpw13, ⟨oa6, ?_⟩, Ch.own hp0 (ch013.trans (Ch.of_ex e14)) ((Ch.of_ex (Ex.refl _)).set (M := fun z => z = p) rfl)⟩
      rw [upd_ne hap]
      exact e14 _ _ (ch13 _ _ oa12 (aMr P ln))
    · have hne : l6 ≠ .except_ := fun z => by
        subst z
        exact absurd hb (by decide)
      have p6' : b6.ph = .except_ := p6.elim id fun h => absurd h.2 hne
      have P8 := P6.ex e8
      have ln8 := ln6.ex e8
      dsimp only [tRet, tTup, tCons, tNil, tC, tCB]
      refine ⟨_, rfl, _, rfl, _, rfl, p, hl6, rfl, .inl ⟨sq_of (e8 _ _ hp6), fun tp htp => ?_⟩⟩
      have e9 : Ex H8 (upd H8 tp (.tup hl6)) := Ex.new htp
      have ch9 : Ch (Mr1 A a) H (upd H8 tp (.tup hl6)) := (ch6.trans (Ch.of_ex e8)).trans (Ch.of_ex e9)
      have S9 : SC K (upd H8 tp (.tup hl6)) A st.stk st6.many sa ds gv it kvs := S1.ch P ch9 (sc_line ln) r6.le
      have gn : ∀ x, Mr1 A a6 x → Mr1 A a x ∨ H x = none := fun x h => h.imp (mr_m x) fun z => by rw [z]; exact hf6
      refine go_m (ev_var (v := .ref A.r) rfl) (P8.ex e9).r rfl (ea_cons (ev_var rfl) (ea_cons (ev_var rfl) (ea_cons (ev_var rfl) ea_nil))) fun H10 e10 => ⟨_, _, _, _, rfl, A, Ls, L, st6, st.stk, b6, sa, ds, gv, it, kvs, d, l6, a6, dx6, wl6, rfl, rfl, rfl, rfl, tx, (P8.ex e9).ex e10, S9.ex (P8.ex e9) e10, hs6, ‹st.stk.length = d›, hd6, hdm, L6, c6, n6, (ln8.ex e9).ex e10, ap6, .inr ⟨k6, p6', hne⟩, fun v11 st11 H11 r11 hs11 P11 ch11 => ⟨show 5 ≤ sizeLine by decide, fun pp hpp => ?_⟩, q2.fwd r6 (ch9.trans (Ch.of_ex e10)) gn⟩
      refine q1 pp st11 _ (r6.trans r11) (Nat.lt_of_lt_of_le lt6 r11.le) hs11 (P11.ex (Ex.new hpp)) ?_
      exact fun x o e n => Ex.new hpp _ _ (ch11 _ _ (e10 _ _ (ch9 _ _ e n)) fun z => (gn x z).elim n fun y => by rw [y] at e; cases e)
end WP
set_option Elab.async false
set_option linter.all false
set_option maxRecDepth 100000
set_option maxHeartbeats 4000000
/-! rows -/
namespace WP
open PySem PySem.Spec PyProof.Rows L2 Evl SX
variable {w : World} {K : PySem.W.Frag} {mg : Str → Option Value} {base : Heap}
theorem o_block (T : TT K mg) (m : Nat) (o_RowReader_read_raises_n : MetX PW w K mg base (CXM w) (21 + 5 * m) (He.ga K "RowReader") "read_raises" (sp_blk (K := K) (m + 1) fun l => l = .raises_))
    (o_RowReader_read_if_n : MetX PW w K mg base (CXM w) (22 + 5 * m) (He.ga K "RowReader") "read_if" (sp_blk (K := K) (m + 1) fun l => ∃ neg t, l = .if_ neg t)) (o_RowReader_read_try_n : MetX PW w K mg base (CXM w) (22 + 5 * m) (He.ga K "RowReader") "read_try" (sp_blk (K := K) (m + 1) fun l => l = .try_))
    (o_RowReader_read_for_n : MetX PW w K mg base (CXM w) (21 + 5 * m) (He.ga K "RowReader") "read_for" (sp_blk (K := K) (m + 1) fun l => ∃ n t, l = .for_ n t)) : MetX PW w K mg base (CXM w) (18 + 5 * (m + 1)) (He.ga K "RowReader") "read_block" (sp_block (K := K) (m + 1)) := by
  obtain ⟨fd, F⟩ := f_RowReader_read_block T
  have L0 : 18 + 5 * (m + 1) = (22 + 5 * m) + 1 := by omega
  rw [L0]
  refine ⟨_, mk5 F (b_RowReader_read_block F) sc_RowReader_read_block fun a b c d e0 cdv A outer s H Q E hr h => ⟨_, (pss_cons (ps_if (pt_cmpR op_eq (pv 1) pe_str (nomark _)) (pss_one (ps_ret (wm o_RowReader_read_raises_n hr (by omega) passE (pv 0) (pa_cons (pv 2) (pa_cons (pv 3) (pa_cons (pv 4) pa_nil)))))) pss_nil)
        (pss_cons (ps_if (pt_cmpR op_eq (pv 1) pe_str (nomark _)) (pss_one (ps_ret (wm o_RowReader_read_if_n hr (by omega) passE (pv 0) (pa_cons (pv 2) (pa_cons (pv 3) (pa_cons (pv 4) pa_nil)))))) pss_nil)
        (pss_cons (ps_if (pt_cmpR op_eq (pv 1) pe_str (nomark _)) (pss_one (ps_ret (wm o_RowReader_read_try_n hr (by omega) passE (pv 0) (pa_cons (pv 2) (pa_cons (pv 3) (pa_cons (pv 4) pa_nil)))))) pss_nil)
        (pss_one (ps_ret (wm o_RowReader_read_for_n hr (by omega) passE (pv 0) (pa_cons (pv 2) (pa_cons (pv 3) (pa_cons (pv 4) pa_nil))))))))), ?_⟩, c_RowReader T, m_RowReader_read_block T⟩
  obtain ⟨A, Ls, L, st, s, b, sa, ds, gv, it, kvs, d, l, a, dx, wl, rfl, rfl, rfl, rfl, ⟨hbl, x, r, ex, rfl⟩, tx, P, S1, hs, hl, hd6, hdm, hLs, hn, ln, hap, q1, q2⟩ := h
  have teq : ∀ (H' : Hp) (u : List Nat), EvT (tTest (tOp rEq (tVar 1) (tC (.str (S u))))) [some (.ref A.r), some (.str (S x)), some (.ref a), some (.int (d : Int)), some (.ref sa)] H' (decide (x = u)) := fun H' u => et_is (et_test (ev_op (ev_var rfl) ev_c (rv_eq rfl))) (dec_S _ _)
  have no : ∀ (H' : Hp) (u : List Nat), x ≠ u → EvT (tTest (tOp rEq (tVar 1) (tC (.str (S u))))) [some (.ref A.r), some (.str (S x)), some (.ref a), some (.int (d : Int)), some (.ref sa)] H' false := fun H' u h => et_is (teq H' u) (decide_eq_false h)
  have ye : ∀ (H' : Hp) (u : List Nat), x = u → EvT (tTest (tOp rEq (tVar 1) (tC (.str (S u))))) [some (.ref A.r), some (.str (S x)), some (.ref a), some (.int (d : Int)), some (.ref sa)] H' true := fun H' u h => et_is (teq H' u) (decide_eq_true h)
  have go : ∀ (H1 : Hp) (nm : Str) (Pl : LK → Prop), Ex H H1 → (rdF A st.many).lookup nm = none → Pl l → tRet (tM (He.ga K "RowReader") nm (sp_blk (K := K) (m + 1) Pl) E (tVar 0) (tCons (tVar 2) (tCons (tVar 3) (tCons (tVar 4) tNil)))) { nx := fun _ H' => Q .non H', rt := Q } [some (.ref A.r), some (.str (S x)), some (.ref a), some (.int (d : Int)), some (.ref sa)] H1 := fun H1 nm Pl e1 hn0 hp =>
    go_m (ev_var (v := .ref A.r) rfl) (e1 _ _ P.r) hn0 (ea_cons (ev_var rfl) (ea_cons (ev_var rfl) (ea_cons (ev_var rfl) ea_nil))) fun H2 e2 => ⟨_, _, _, _, rfl, A, Ls, L, st, s, b, sa, ds, gv, it, kvs, d, l, a, dx, wl, rfl, rfl, rfl, rfl, hp, tx, P.ex (e1.trans e2), S1.ex P (e1.trans e2), hs, hl, hd6, hdm, hLs, hn, ln.ex (e1.trans e2), hap, fun pt st' H3 r3 lt3 hs3 P3 c3 => q1 pt st' H3 r3 lt3 hs3 P3 ((Ch.of_ex (e1.trans e2)).trans c3), q2.fwd (.refl _) (Ch.of_ex (e1.trans e2)) fun x h => .inl h⟩
  cases l with
  | raises_ =>
    have e := (List.cons.inj ex).1
    exact q_when (ye H [114, 97, 105, 115, 101, 115] e.symm) (fun _ H1 e1 => go H1 _ _ e1 rfl rfl) fun hb => (Bool.false_ne_true hb.symm).elim
  | if_ neg t =>
    have e := (List.cons.inj ex).1
    refine q_when (no H [114, 97, 105, 115, 101, 115] (by rw [← e]; decide)) (fun hb => (Bool.false_ne_true hb).elim) fun _ H1 e1 => ?_
    exact q_when (ye H1 [105, 102] e.symm) (fun _ H2 e2 => go H2 _ _ (e1.trans e2) rfl ⟨neg, t, rfl⟩) fun hb => (Bool.false_ne_true hb.symm).elim
  | try_ =>
    have e := (List.cons.inj ex).1
    refine q_when (no H [114, 97, 105, 115, 101, 115] (by rw [← e]; decide)) (fun hb => (Bool.false_ne_true hb).elim) fun _ H1 e1 => ?_
    refine q_when (no H1 [105, 102] (by rw [← e]; decide)) (fun hb => (Bool.false_ne_true hb).elim) fun _ H2 e2 => ?_
    exact q_when (ye H2 [116, 114, 121] e.symm) (fun _ H3 e3 => go H3 _ _ ((e1.trans e2).trans e3) rfl rfl) fun hb => (Bool.false_ne_true hb.symm).elim
  | for_ n t =>
    have e := (List.cons.inj ex).1
    refine q_when (no H [114, 97, 105, 115, 101, 115] (by rw [← e]; decide)) (fun hb => (Bool.false_ne_true hb).elim) fun _ H1 e1 => ?_
    refine q_when (no H1 [105, 102] (by rw [← e]; decide)) (fun hb => (Bool.false_ne_true hb).elim) fun _ H2 e2 => ?_
    refine q_when (no H2 [116, 114, 121] (by rw [← e]; decide)) (fun hb => (Bool.false_ne_true hb).elim) fun _ H3 e3 => ?_
    exact go H3 _ _ ((e1.trans e2).trans e3) rfl ⟨n, t, rfl⟩
  | _ => exact False.elim hbl
theorem apart_of {H : Hp} {A : PA} {L : List (List Nat)} {n ec ek : Nat} {fl : List (List Nat)} {wl : Addr} (P : PInv K H A L n ec ek fl) (h : H wl = none) : Apart A wl := by
  have := nMr P h
  exact ⟨fun z => this (.inr (.inl z)), fun z => this (.inr (.inr (.inl z))), fun z => this (.inr (.inr (.inr (.inl z)))), fun z => this (.inr (.inr (.inr (.inr z))))⟩
theorem SC.f_ch {H H' : Hp} {A : PA} {z : List Blk} {n n0 ec ek : Nat} {fl : List (List Nat)} {L : List (List Nat)} {sa ds gv : Addr} {it : V} {kvs : List (Key × V)} {a dx wl : Addr} {ws : List (List Nat)} {k : Nat} (h : SC K H A z n sa ds gv it kvs) (P : PInv K H A L n0 ec ek fl) (l : LnH K H a dx wl ws k) (c : Ch (fun y => Mr1 A gv y ∨ y = a) H H') :
    ∀ dx pa da, H' A.fa = some (.ins (He.ga K "Family") dx [("parents", .ref pa), ("declared", .ref da)]) → pa ≠ gv := fun dx' pa' da' e' => by
  obtain ⟨dxf, pa, da, f1, f2⟩ := P.f
  obtain ⟨cs, c1, _⟩ := P.c
  obtain ⟨ks, k1, _⟩ := P.k
  obtain ⟨zs, z1, _⟩ := P.w
  have nl : ∀ {q : Addr} {xs : List V}, H q = some (.lst xs) → A.fa ≠ q := fun e => ne_of f1 e (by intro y; cases y)
  rw [c _ _ f1 (by
    rintro (((z | z | z | z | z) | z) | z)
    · exact ne_ins f1 P.r (by decide) z
    · exact nl c1 z
    · exact nl P.g.1 z
    · exact nl k1 z
    · exact nl z1 z
    · exact ne_of f1 h.g (by intro y; cases y) z
    · exact ne_ins f1 l.ob (by decide) z)] at e'
  cases e'
  exact h.f _ _ _ f1
theorem o_row (T : TT K mg) (m : Nat) (o_RowReader_read_block_n : MetX PW w K mg base (CXM w) (18 + 5 * m) (He.ga K "RowReader") "read_block" (sp_block (K := K) m)) : MetX PW w K mg base (CXM w) (19 + 5 * m) (He.ga K "RowReader") "read_row" (sp_row (K := K) m) := by
  obtain ⟨fd, F⟩ := f_RowReader_read_row T
  have L0 : 19 + 5 * m = (18 + 5 * m) + 1 := by omega
  rw [L0]
  refine ⟨_, mk4 F (b_RowReader_read_row F) sc_RowReader_read_row fun a b c d cdv A outer s H Q E hr h => ⟨_, (pss_cons (ps_set (i := 4) sc_RowReader_read_row.nd rfl (Or.inl rfl) (wm0 (o_Line_take T) hr (by omega) pass0 (pv 1)))
        (pss_cons (ps_if (pt_cmpR op_in_seq (pv 4) (wgr (g_BLOCKS T)) (by with_unfolding_all rfl)) (pss_cons (ps_if (pt_cmpR op_gt (pv 2) (wgi (i_MOST_DEEP T)) (nomark _)) (pss_one (ps_misread T)) pss_nil)
        (pss_one (ps_ret (wm o_RowReader_read_block_n hr (by omega) passE (pv 0) (pa_cons (pv 4) (pa_cons (pv 1) (pa_cons (pv 2) (pa_cons (pv 3) pa_nil)))))))) pss_nil)
        (pss_cons (ps_set (i := 5) sc_RowReader_read_row.nd rfl (Or.inl rfl) (wc (o_read_plain T) hr (by omega) passE (pa_cons (pv 4) (pa_cons (pv 1) (pa_cons (pv 3) (pa_cons (pe_fld (pv 0) rfl) pa_nil))))))
        (pss_cons (ps_expr (wm (o_RowReader_accept T) hr (by omega) passE (pv 0) (pa_cons (pv 1) (pa_cons (pv 2) pa_nil))))
        (pss_one (ps_ret (pv 5))))))), ?_⟩, c_RowReader T, m_RowReader_read_row T⟩
  obtain ⟨A, Ls, L, st, s, b, sa, ds, gv, it, kvs, d, l, a, dx, wl, rfl, rfl, rfl, rfl, tx, P, S1, hs, hl, hd7, hdm, hm1, hLs, hnc, hn, ln, hap, q1, q2⟩ := h
  obtain ⟨x, r, ex⟩ : ∃ x r, l.toks = x :: r := by
    cases l <;> exact ⟨_, _, rfl⟩
  have t0 : tk l.toks 0 = x := by rw [ex]; rfl
  have Mg : ∀ y, Mr1 A a y → (Mr1 A gv y ∨ y = a) := fun y h => h.elim (fun z => .inl (.inl z)) .inr
  refine ev_take T (ev_var (v := .ref a) rfl) ln fun H1 c1 l1 => ?_
  rw [t0]
  dsimp only [gName]
  have P1 := P.ch1 c1 ln.ob ⟨_, _, _, _, rfl⟩
  have ch1 : Ch (Mr1 A a) H H1 := c1.mono mr_a
  have S2 : SC K H1 A st.stk st.many sa ds gv it kvs := S1.ch P ch1 (sc_line ln) (Nat.le_refl _)
  have tin : EvT (tTest (tOp (rIn K false) (tVar 4) (tC (.ref (He.ga K "BLOCKS"))))) [some (.ref A.r), some (.ref a), some (.int (d : Int)), some (.ref sa), some (.str (S x)), none] H1 ((v_BLOCKS.map fun s => s.cps.toList).any fun k => decide (k = x)) := et_is (et_test (ev_op (ev_var rfl) ev_c (rv_isT (t_BLOCKS T _) rfl (by rw [List.all_map]; exact List.all_eq_true.mpr fun _ _ => rfl)))) inV_str
  by_cases hbl : isBlock l
  · have hin : ((v_BLOCKS.map fun s => s.cps.toList).any fun k => decide (k = x)) = true := by
      cases l with
      | if_ neg t => rw [← (List.cons.inj ex).1]; rfl
      | raises_ => rw [← (List.cons.inj ex).1]; rfl
      | try_ => rw [← (List.cons.inj ex).1]; rfl
      | for_ n t => rw [← (List.cons.inj ex).1]; rfl
      | _ => exact False.elim hbl
    refine q_when (b := true) (et_is tin hin) (fun _ H2 e2 => ?_) fun hb => (Bool.false_ne_true hb.symm).elim
    refine q_when (b := decide (6 < d)) (et_is (et_test (ev_op (ev_var (v := .int (d : Int)) rfl) (ev_c (v := .int 6)) (rv_I0 (g := fun i j => V.bl (decide (j < i)))))) (decide_eq_decide.mpr (by omega))) (fun hb H3 e3 => ?_) fun hb H3 e3 => ?_
    · have hb := of_decide_eq_true hb
      refine RaiseW.here q2 (stuck_of hLs fun z => ?_) ⟨s, b, hs⟩ P (.inr ((e2.trans e3) _ _ P1.r)) ((ch1.mono Mg).trans (Ch.of_ex (e2.trans e3)))
      obtain ⟨_, s', b', e, z⟩ := z
      cases l with
      | if_ neg t =>
        have := z.1
        omega
      | raises_ =>
        have z : st.stk.length ≤ 6 := z
        omega
      | try_ =>
        have z : st.stk.length ≤ 6 := z
        omega
      | for_ n t =>
        have := z.1
        omega
      | _ => exact hbl
    · have hb := of_decide_eq_false hb
      have e23 := e2.trans e3
      refine go_m (ev_var (v := .ref A.r) rfl) (P1.ex e23).r rfl (ea_cons (ev_var rfl) (ea_cons (ev_var rfl) (ea_cons (ev_var rfl) (ea_cons (ev_var rfl) ea_nil)))) fun H4 e4 => ⟨_, _, _, _, _, rfl, A, Ls, L, st, s, b, sa, ds, gv, it, kvs, d, l, a, dx, wl, rfl, rfl, rfl, rfl, ⟨hbl, x, r, ex, rfl⟩, tx, (P1.ex e23).ex e4, (S2.ex P1 e23).ex (P1.ex e23) e4, hs, hl, by omega, hdm, hLs, hn, (l1.ex e23).ex e4, hap, fun pt st' H5 r5 lt5 hs5 P5 c5 => ?_, q2.fwd (.refl _) ((ch1.mono Mg).trans (Ch.of_ex (e23.trans e4))) fun x h => .inl (Mg x h)⟩
      have ch5 : Ch (Mr1 A a) H H5 := (ch1.trans (Ch.of_ex (e23.trans e4))).trans c5
      refine q1 _ st' b kvs H5 r5 lt5 (by rw [hs5, hs]) rfl rfl P5 ?_ (ch5.mono Mg)
      rw [hs5]
      exact S1.ch P ch5 (sc_line ln) r5.le
  · obtain ⟨pk, rfl⟩ : ∃ pk, l = .row pk := by
      cases l with
      | row pk => exact ⟨pk, rfl⟩
      | end_ => exact absurd (.inl rfl) hnc
      | else_ => exact absurd (.inr (.inl rfl)) hnc
      | except_ => exact absurd (.inr (.inr rfl)) hnc
      | test => exact absurd (tx.t1 _ hLs) (by omega)
      | _ => exact absurd trivial hbl
    have hw := (tx.ln _ _ hLs).1
    have exx : x = pk.word := ((List.cons.inj ex).1).symm
    have hin : ((v_BLOCKS.map fun s => s.cps.toList).any fun k => decide (k = x)) = false := by
      rw [exx]
      cases pk with
      | plain w => rcases hw with h | h | h | h <;> subst h <;> rfl
      | leave w => rcases hw with h | h <;> subst h <;> rfl
      | set_ b f => cases b <;> rfl
      | _ => rfl
    refine q_when (b := false) (et_is tin hin) (fun hb => (Bool.false_ne_true hb).elim) fun _ H2 e2 => ?_
    have P2 := P1.ex e2
    have l2 := l1.ex e2
    have S3 := S2.ex P1 e2
    have hC := cc_of P2 l2 hap S3
    have hd0 : (LK.row pk).toks.drop (0 + 1) = pk.args := rfl
    have nst : ¬ pk.ok it kvs st.fl → ¬ st.stands (.row pk) := fun hk z => by
      obtain ⟨_, s', b', e, z⟩ := z
      exact hk ((S1.m.pk pk).mpr z)
    have Mp_ : ∀ y, Mp A a gv y → (Mr1 A gv y ∨ y = a) := fun y h => by
      rcases h with (h | h | h) | h | h
      · exact .inr h
      · exact .inl (.inl (.inr (.inl h)))
      · exact .inl (.inl (.inr (.inr (.inl h))))
      · exact .inl (.inl (.inr (.inr (.inr (.inl h)))))
      · exact .inl (.inr h)
    have c02 : Ch (fun y => Mr1 A gv y ∨ y = a) H H2 := (ch1.mono Mg).trans (Ch.of_ex e2)
    have hb := P.b
    refine go_f (ea_cons (ev_var rfl) (ea_cons (ev_var (v := .ref a) rfl) (ea_cons (ev_var (v := .ref sa) rfl) (ea_cons (rd_fld T P2 (ev_var (v := .ref A.r) rfl)).2.1 ea_nil)))) fun H3 e3 => ⟨_, _, _, _, rfl, obOf A L st.many a dx wl (LK.row pk).toks sa ds gv it kvs, st.fl, 1, pk, by rw [exx], rfl, rfl, rfl, rfl, hC.ex e3, (S3.ex P2 e3).f, (show kvs.length ≤ 1000 from Nat.le_trans S1.kl (by omega)), hw, hd0, fun hk p j H4 C4 d4 n4 => ?_, fun hk => ⟨fun H4 n4 => ?_, fun p j H4 C4 d4 n4 => ?_⟩⟩
    · dsimp only [gName]
      have c04 : Ch (fun y => Mr1 A gv y ∨ y = a) H H4 := (c02.trans (Ch.of_ex e3)).trans (n4.mono Mp_)
      refine go_accept rfl rfl rfl (by omega) hn C4.p C4.l (fun _ H5 c5 P5 => ?_) fun h => absurd d4 h
      dsimp only
      have hst : st.stands (.row pk) := ⟨by omega, s, b, hs, (S1.m.pk pk).mp hk⟩
      have c05 : Ch (fun y => Mr1 A gv y ∨ y = a) H H5 := c04.trans (c5.mono fun y h => .inl (.inl (h.elim (fun z => .inr (.inr (.inr (.inr z)))) .inl)))
      obtain ⟨b', hsA, hk', hp', hmt⟩ : ∃ b', (st.after (.row pk)).stk = s ++ [b'] ∧ b'.kind = b.kind ∧ b'.ph = b.ph ∧ Mt (st.after (.row pk)).stk it (pk.kvs kvs) := by
        cases pk with
        | let_ n c vs =>
          refine ⟨{ b with ns := b.ns ++ [n] }, ?_, rfl, rfl, ?_⟩
          · show topTo st.stk _ = _
            rw [hs, topTo_snoc]
          · show Mt (topTo st.stk _) it (putK kvs _ _)
            have := S1.m
            rw [hs] at this ⊢
            rw [topTo_snoc]
            exact this.put n _
        | _ => exact ⟨b, hs, rfl, rfl, S1.m⟩
      refine s_ret (ev_var rfl) fun H6 e6 => q1 _ (st.after (.row pk)) b' (pk.kvs kvs) H6 (Runs.one hLs hst) (Nat.lt_succ_self _) hsA hk' hp' (P5.ex e6) ?_ (c05.trans (Ch.of_ex e6))
      have nwr : ∀ {q : Addr} {o : HO}, H4 q = some o → (∀ xs, o ≠ .lst xs) → hd1 o ≠ some ("lines" : Str) → H6 q = some o := fun {q o} e h1 h2 => e6 _ _ (c5 _ _ e fun z => by
        obtain ⟨zs, z1, _⟩ := C4.p.w
        rcases z with z | z
        · rw [z, show H4 A.wa = _ from z1] at e
          exact h1 _ (Option.some.inj e).symm
        · rw [z, show H4 A.r = _ from C4.p.r] at e
          exact h2 (by rw [← Option.some.inj e]; rfl))
      refine ⟨nwr C4.s (fun _ z => by cases z) (fun z => absurd (Option.some.inj z) (by decide)), nwr C4.g (fun _ z => by cases z) (fun z => nomatch z), S1.f_ch P ln (c05.trans (Ch.of_ex e6)), hmt, ?_⟩
      have hkl := S1.kl
      show (pk.kvs kvs).length ≤ st.many + 1
      cases pk with
      | let_ n c vs => exact Nat.le_trans (length_putK _ _ _) (by omega)
      | _ => exact Nat.le_succ_of_le hkl
    · have c04 : Ch (fun y => Mr1 A gv y ∨ y = a) H H4 := (c02.trans (Ch.of_ex e3)).trans (n4.mono Mp_)
      refine RaiseW.here q2 (stuck_of hLs (nst hk)) ⟨s, b, hs⟩ P (.inr (n4 _ _ (e3 _ _ P2.r) fun z => ?_)) c04
      rcases z with (z | z | z) | z | z
      · exact (ln.acc P).2 z.symm
      · obtain ⟨cs, c1, _⟩ := P.c
        exact ne_of P.r c1 (by intro y; cases y) z
      · exact ne_of P.r P.g.1 (by intro y; cases y) z
      · obtain ⟨ks, k1, _⟩ := P.k
        exact ne_of P.r k1 (by intro y; cases y) z
      · exact ne_of P.r S1.g (by intro y; cases y) z
    · dsimp only [gName]
      have c04 : Ch (fun y => Mr1 A gv y ∨ y = a) H H4 := (c02.trans (Ch.of_ex e3)).trans (n4.mono Mp_)
      exact go_accept rfl rfl rfl (by omega) hn C4.p C4.l (fun h => absurd h d4) fun _ H5 e5 => RaiseW.here q2 (stuck_of hLs (nst hk)) ⟨s, b, hs⟩ P (.inr (e5 _ _ C4.p.r)) (c04.trans (Ch.of_ex e5))
end WP
set_option Elab.async false
set_option linter.all false
set_option maxRecDepth 100000
set_option maxHeartbeats 4000000
/-! rows, the recursion, the whole -/
namespace WP
open PySem PySem.Spec PyProof.Rows L2 Evl SX
variable {w : World} {K : PySem.W.Frag} {mg : Str → Option Value} {base : Heap}
theorem o_rows (T : TT K mg) (m : Nat) (o_RowReader_read_row_n : MetX PW w K mg base (CXM w) (19 + 5 * m) (He.ga K "RowReader") "read_row" (sp_row (K := K) m)) : MetX PW w K mg base (CXM w) (20 + 5 * m) (He.ga K "RowReader") "read_rows" (sp_rows (K := K) m) := by
  obtain ⟨fd, F⟩ := f_RowReader_read_rows T
  have L0 : 20 + 5 * m = (19 + 5 * m) + 1 := by omega
  rw [L0]
  refine ⟨_, mk3 F (b_RowReader_read_rows F) sc_RowReader_read_rows fun a b c cdv A outer s H Q E hr h => ⟨_, (pss_cons (ps_set (i := 3) sc_RowReader_read_rows.nd rfl (Or.inl rfl) (pe_lst pa_nil))
        (pss_one (ps_while ownE (pt_val pe_bl) (pss_cons (ps_set (i := 4) sc_RowReader_read_rows.nd rfl (Or.inl rfl) (wm0 (o_RowReader_coming T) hr (by omega) passE (pv 0)))
        (pss_cons (ps_if (pt_cmpR op_in_seq (wm0 (o_Line_peek T) hr (by omega) pass0 (pv 4)) (wgr (g_CLOSING T)) (by with_unfolding_all rfl)) (pss_one (ps_ret (pe_tup (pa_cons (pe_callTy call_tuple_of rfl (z_tuple T) (by decide +kernel) (pa_cons (pv 3) pa_nil)) (pa_cons (pv 4) pa_nil))))) pss_nil)
        (pss_one (ps_expr (pe_bm PySem.F.plainAttrs_list PySem.F.slot_list_append PySem.F.type_list_append mt_append (pv 3) (pa_cons (wm o_RowReader_read_row_n hr (by omega) passE (pv 0) (pa_cons (pv 4) (pa_cons (pv 1) (pa_cons (pv 2) pa_nil)))) pa_nil))))))))), ?_⟩, c_RowReader T, m_RowReader_read_rows T⟩
  obtain ⟨A, Ls, L, st, s, b, sa, ds, gv, it, kvs, d, rfl, rfl, rfl, tx, P, S1, hs, hl, hd7, hdm, hm1, hmL, q1, q2⟩ := h
  refine q_asgL (el_lst ea_nil (by decide)) fun p H1 hp e1 h1 => ?_
  have hpM : ¬ Mr A p := nMr P hp
  have hpg : p ≠ gv := fun z => by rw [z, S1.g] at hp; cases hp
  refine s_while (fun m' σ' H' => ∃ (st1 : LS) (b1 : Blk) (kvs1 : List (Key × V)) (hl1 : List V) (o1 : Option V), m' = 40 - st1.many ∧ σ' = [some (.ref A.r), some (.int (d : Int)), some (.ref sa), some (.ref p), o1] ∧ Runs Ls st st1 ∧ st1.stk = s ++ [b1] ∧ b1.kind = b.kind ∧ b1.ph = b.ph ∧ PInv K H' A L st1.many 0 0 st1.fl ∧ SC K H' A st1.stk st1.many sa ds gv it kvs1 ∧ H' p = some (.lst hl1) ∧ hl1.length ≤ st1.many ∧ Ch (Mr1 A gv) H H') (40 - st.many)
    ⟨st, b, kvs, [], none, rfl, rfl, .refl _, hs, rfl, rfl, P.ex e1, S1.ex P e1, h1, Nat.zero_le _, Ch.of_ex e1⟩ ?_
  rintro m' σ' H' ⟨st1, b1, kvs1, hl1, o1, rfl, rfl, r1, hs1, k1, p1, P1, S2, hp1, hz1, c1⟩
  have hb1 := P1.b
  refine ⟨true, et_B ev_c, fun _ H2 e2 => ?_, fun hb => (Bool.false_ne_true hb.symm).elim⟩
  refine ⟨fun σ2 H2 => ∃ m'', m'' < 40 - st1.many ∧ _, fun σ2 H2 h => h, ?_⟩
  have P2 := P1.ex e2
  have hlen : st1.stk.length = d := by
    rw [hs1, ← hl, hs, List.length_append, List.length_append]
    rfl
  refine go_m (ev_var (v := .ref A.r) rfl) P2.r rfl ea_nil fun H3 e3 => ⟨_, rfl, A, L, st1.many, 0, 0, st1.fl, rfl, P2.ex e3, fun x ts hx hn hxl ht hbd a dx wl H4 ha hw e4 ln => ?_, fun hn H4 e4 => ?_, fun hn1 hn2 => ?_⟩
  · -- a line has come
    obtain ⟨l, hLs⟩ : ∃ l, Ls[st1.many]? = some l := by
      have := (List.getElem?_eq_some_iff.mp hx).1
      rw [tx.len] at this
      exact ⟨Ls[st1.many], List.getElem?_eq_getElem this⟩
    obtain ⟨hwf, hbd2, x2, hx2, hxl2, ht2⟩ := tx.ln _ _ hLs
    obtain rfl : x = x2 := by rw [hx] at hx2; exact Option.some.inj hx2
    obtain rfl : ts = l.toks := ht.uniq ht2
    have hn40 : st1.many < 40 := by omega
    dsimp only [gName]
    have e24 := (e2.trans e3).trans e4
    have P4 := P1.ex e24
    have S4 := S2.ex P1 e24
    have ap : Apart A wl := apart_of P2 (fresh_back e3 hw)
    have ha0 : H a = none := by
      have := fresh_back (e2.trans e3) ha
      cases e : H a with
      | none => rfl
      | some u =>
        exfalso
        by_cases z : Mr1 A gv a
        · rcases z with z | z
          · exact nMr P1 this z
          · rw [z, S2.g] at this; cases this
        · rw [c1 _ _ e z] at this; cases this
    have hw0 : H wl = none := by
      have := fresh_back (e2.trans e3) hw
      cases e : H wl with
      | none => rfl
      | some u =>
        exfalso
        by_cases z : Mr1 A gv wl
        · rcases z with z | z
          · exact nMr P1 this z
          · rw [z, S2.g] at this; cases this
        · rw [c1 _ _ e z] at this; cases this
    have hpa : p ≠ a := fun z => by rw [← z, e3 _ _ (e2 _ _ hp1)] at ha; cases ha
    have c4 : Ch (Mr1 A gv) H H4 := c1.trans (Ch.of_ex e24)
    have hp4 : H4 p = some (.lst hl1) := e24 _ _ hp1
    have t0 : tk l.toks 0 ∈ (v_CLOSING.map fun s => s.cps.toList) ↔ closing l := by
      constructor
      · intro h
        cases l with
        | end_ => exact .inl rfl
        | else_ => exact .inr (.inl rfl)
        | except_ => exact .inr (.inr rfl)
        | row pk =>
          exfalso
          revert h
          show pk.word ∉ _
          cases pk with
          | plain w => rcases hwf with h | h | h | h <;> subst h <;> decide
          | leave w => rcases hwf with h | h <;> subst h <;> decide
          | set_ b f =>
            cases b
            · show [99, 108, 101, 97, 114] ∉ _
              decide
            · show [115, 101, 116] ∉ _
              decide
          | call n vs => show [99, 97, 108, 108] ∉ _; decide
          | let_ n c vs => show [108, 101, 116] ∉ _; decide
          | chk neg t => show wAssert ∉ _; decide
          | note n => show wAssert ∉ _; decide
          | asm t => show [97, 115, 115, 117, 109, 101] ∉ _; decide
        | if_ neg t => exfalso; revert h; show [105, 102] ∉ _; decide
        | raises_ => exfalso; revert h; decide
        | try_ => exfalso; revert h; decide
        | for_ n t => exfalso; revert h; show [102, 111, 114] ∉ _; decide
        | test => exfalso; revert h; decide
      · rintro (h | h | h) <;> subst h <;> decide
    refine q_when (b := decide (tk l.toks 0 ∈ (v_CLOSING.map fun s => s.cps.toList))) (et_is (et_test (ev_op (ev_peek T (ev_var (v := .ref a) rfl) ln) ev_c (rv_isT (t_CLOSING T _) rfl (by rw [List.all_map]; exact List.all_eq_true.mpr fun _ _ => rfl)))) ?_) (fun hb H5 e5 => ?_) fun hb H5 e5 => ?_
    · rw [inV_str, Bool.eq_iff_iff, decide_eq_true_iff, List.any_eq_true]
      constructor
      · rintro ⟨k, hk, e⟩
        rw [← of_decide_eq_true e]
        exact hk
      · exact fun h => ⟨_, h, decide_eq_true rfl⟩
    · have hcl := t0.mp (of_decide_eq_true hb)
      dsimp only [tRet, tTup, tCons, tNil, tCB]
      refine ⟨_, rfl, p, hl1, rfl, .inl ⟨sq_of (e5 _ _ hp4), fun tp htp => ⟨_, rfl, show 2 ≤ sizeLine by decide, fun pt hpt => ?_⟩⟩⟩
      have e6 : Ex H5 (upd (upd H5 tp (.tup hl1)) pt (.tup [.ref tp, .ref a])) := (Ex.new htp).trans (Ex.new hpt)
      have hpt0 : H pt = none := by
        have h5 : H5 pt = none := fresh_back (Ex.new htp) hpt
        have := fresh_back (e24.trans e5) h5
        cases e : H pt with
        | none => rfl
        | some u =>
          exfalso
          by_cases z : Mr1 A gv pt
          · rcases z with z | z
            · exact nMr P1 this z
            · rw [z, S2.g] at this; cases this
          · rw [c1 _ _ e z] at this; cases this
      exact q1 pt tp a dx wl st1 l b1 _ r1 hs1 k1 p1 hLs hcl hn40 (P4.ex (e5.trans e6)) (ln.ex (e5.trans e6)) ap ha0 hw0 upd_same hpt0 (c4.trans (Ch.of_ex (e5.trans e6)))
    · have hnc : ¬ closing l := fun h => of_decide_eq_false hb (t0.mpr h)
      -- found.append(self.read_row(line, depth, scope))
      dsimp only [tDrop, tBM, tCons, tNil]
      refine ⟨_, rfl, Or.inl ⟨rfl, _, sq_of (e5 _ _ hp4)⟩, ?_⟩
      have gn : ∀ x, (Mr1 A gv x ∨ x = a) → Mr1 A gv x ∨ H x = none := fun x h => h.imp id fun z => by rw [z]; exact ha0
      refine go_m (ev_var (v := .ref A.r) rfl) (P4.ex e5).r rfl (ea_cons (ev_var rfl) (ea_cons (ev_var rfl) (ea_cons (ev_var rfl) ea_nil))) fun H6 e6 => ⟨_, _, _, _, rfl, A, Ls, L, st1, s, b1, sa, ds, gv, it, kvs1, d, l, a, dx, wl, rfl, rfl, rfl, rfl, tx, (P4.ex e5).ex e6, S4.ex P4 (e5.trans e6), hs1, hlen, hd7, hdm, Nat.le_trans hm1 r1.le, hLs, hnc, hn40, (ln.ex e5).ex e6, ap, fun v st7 b7 kvs7 H7 r7 r17 hs7 k7 p7 P7 S7 c7 => ?_, q2.fwd r1 (c4.trans (Ch.of_ex (e5.trans e6))) gn⟩
      have hp7 : H7 p = some (.lst hl1) := c7 _ _ ((e5.trans e6) _ _ hp4) fun z => z.elim (fun z => z.elim hpM hpg) hpa
      refine ⟨p, hl1, v, rfl, rfl, hp7, Nat.lt_of_le_of_lt (show hl1.length ≤ 40 by omega) (by decide), ?_⟩
      have c07 : Ch (Mr1 A gv) H H7 := fun x o e n => c7 _ _ ((e5.trans e6) _ _ (c4 _ _ e n)) fun z => (gn x z).elim n fun y => by rw [y] at e; cases e
      have cp : ∀ {o : HO}, Ch (fun z => z = p) H7 (upd H7 p o) := (Ch.of_ex (Ex.refl _)).set (M := fun z => z = p) rfl
      refine ⟨40 - st7.many, by omega, st7, b7, kvs7, hl1 ++ [v], _, rfl, rfl, r1.trans r7, hs7, k7.trans k1, p7.trans p1, PInv.own P hp P7 hp7 cp, ?_, upd_same, (by rw [List.length_append]; simp; omega), Ch.own hp c07 cp⟩
      refine ⟨cp _ _ S7.s (ne_of S7.s hp7 (by intro y; cases y)), cp _ _ S7.g hpg.symm, fun dx' pa' da' e' => ?_, S7.m, S7.kl⟩
      obtain ⟨dxf, pa, da, f1, f2⟩ := P7.f
      rw [cp _ _ f1 (ne_of f1 hp7 (by intro y; cases y))] at e'
      cases e'
      exact S7.f _ _ _ f1
  · -- no line
    refine RaiseW.here (st := st1) (q2.fwd r1 c1 fun x h => .inl h) (fun l hl' hst => ?_) ⟨s, b1, hs1⟩ P1 (.inr ((e2.trans (e3.trans e4)) _ _ P1.r)) (Ch.of_ex (e2.trans (e3.trans e4)))
    rcases hn with h | h
    · rw [h, tx.len] at hl'
      have := (List.getElem?_eq_some_iff.mp hl').1
      omega
    · exact hst.1 h
  · have hle := r1.bd hmL
    have hlt : st1.many < Ls.length := by
      rw [tx.len] at hn1
      omega
    obtain ⟨hwf, hbd, x, hx, hxl, ht⟩ := tx.ln _ _ (List.getElem?_eq_getElem hlt)
    exact ⟨x, _, hx, hxl, ht, hbd⟩
theorem block0 (T : TT K mg) {k : Nat} : MetX PW w K mg base (CXM w) k (He.ga K "RowReader") "read_block" (sp_block (K := K) 0) := by
  refine ⟨_, fun A outer s H us vs Q E hr e0 r h => ?_, c_RowReader T, m_RowReader_read_block T⟩
  exfalso
  obtain ⟨_, _, _, _, _, rfl, A, Ls, L, st, s, b, sa, ds, gv, it, kvs, d, l, a, dx, wl, rfl, rfl, rfl, rfl, _, tx, P, S1, hs, hl, hd6, hdm, _⟩ := h
  omega
theorem rec_rows (T : TT K mg) : ∀ m : Nat, MetX PW w K mg base (CXM w) (20 + 5 * m) (He.ga K "RowReader") "read_rows" (sp_rows (K := K) m)
  | 0 => o_rows T 0 (o_row T 0 (block0 T))
  | m + 1 => o_rows T (m + 1) (o_row T (m + 1) (o_block T m (o_raises T m (rec_rows T m)) (o_if T m (rec_rows T m) (o_else T m (rec_rows T m))) (o_try T m (rec_rows T m) (o_else T m (rec_rows T m))) (o_for T m (rec_rows T m))))
section
variable {σ : L2.St} {H : Hp} {Q : List V → Hp → Prop} {R : VK} {te : TE} {t : TA} {v : V} {C : Addr} {sp : Sp} {E : XK}
theorem a_c (h : t σ H fun vs H1 => Q (v :: vs) H1) : tCons (tC v) t σ H Q := h
theorem a_e (h : te σ H fun x H1 => t σ H1 fun vs H2 => Q (x :: vs) H2) : tCons te t σ H Q := h
theorem a_n (h : Q [] H) : tNil σ H Q := h
theorem a_k (h : t σ H fun vs H1 => ∀ x dx, H1 x = none → H1 dx = none → dx ≠ x → sp (.ref x :: vs) (upd (upd H1 dx (.own x)) x (.ins C dx [])) (fun v H2 => v = .non ∧ R (.ref x) H2) E) : StX.tMakeR C sp E t σ H R := h
theorem a_d (h : ∀ p, H p = none → R (.ref p) (upd H p (.dK []))) : tDNewK σ H R := h
end
theorem q_goM {σ : L2.St} {H : Hp} {ta : TE} {t : TA} {a C dx : Addr} {fs : List (Str × V)} {m : Str} {sp : Sp} {E : XK} {vs : List V} {D : Ends} {tz : TS} (ha : Ev ta σ H (.ref a)) (ho : H a = some (.ins C dx fs)) (hl : fs.lookup m = none) (hv : EvA t σ H vs) (h : ∀ H1, Ex H H1 → sp (.ref a :: vs) H1 (fun _ H2 => tz D σ H2) E) : tSeq (tDrop (tM C m sp E ta t)) tz D σ H := go_m ha ho hl hv h
def st0 : LS := ⟨[⟨.test, .rows, [], []⟩], [], 1⟩
def sp_whole : Sp := sp1 fun self H Q E => ∃ (A : PA) (Ls : List LK) (L : List (List Nat)), self = .ref A.r ∧ Txs Ls L ∧ Ls[0]? = some .test ∧ PInv K H A L 0 0 0 [] ∧
  (∀ (p rw : Addr) (st' : LS) H', Runs Ls st0 st' → st'.stk = [] → st'.many ≤ Ls.length → PInv K H' A L st'.many 0 0 st'.fl → H' p = some (.tup [.str (S [97]), .ref rw]) → Ch (Mr A) H H' → Q (.ref p) H') ∧ RaiseW K A Ls st0 E H (Mr A)
theorem o_RowReader_read_whole (T : TT K mg) : MetX PW w K mg base (CXM w) 56 (He.ga K "RowReader") "read_whole" (sp_whole (K := K)) := by
  obtain ⟨fd, F⟩ := f_RowReader_read_whole T
  have o_RowReader_read_rows_n : MetX PW w K mg base (CXM w) (20 + 5 * 7) (He.ga K "RowReader") "read_rows" (sp_rows (K := K) 7) := rec_rows T 7
  have hkn : 20 + 5 * 7 ≤ 55 := by decide
  refine ⟨_, mk1 F (b_RowReader_read_whole F) sc_RowReader_read_whole fun a cdv A outer s H Q E hr h => ⟨_, (pss_cons (ps_set (i := 1) sc_RowReader_read_whole.nd rfl (Or.inl rfl) (wm0 (o_RowReader_coming T) hr (by decide) passE (pv 0)))
        (pss_cons (ps_expr (wm (o_Line_expect T) hr (by decide) passE (pv 1) (pa_cons pe_str pa_nil)))
        (pss_cons (ps_set (i := 2) sc_RowReader_read_whole.nd rfl (Or.inl rfl) (wm0 (o_Line_take_name T) hr (by decide) pass0 (pv 1)))
        (pss_cons (ps_expr (wm (o_RowReader_accept T) hr (by decide) passE (pv 0) (pa_cons (pv 1) (pa_cons pe_int pa_nil))))
        (pss_cons (ps_asg (wm o_RowReader_read_rows_n hr hkn passE (pv 0) (pa_cons pe_int (pa_cons (wk (o_Scope_init T) hr (by decide) pass0 (pa_cons (pe_fld (pv 0) rfl) (pa_cons pe_dnewK (pa_cons pe_non pa_nil)))) pa_nil))) (pg_tup rfl (pgs_cons (pg_name (i := 3) sc_RowReader_read_whole.nd rfl (Or.inl rfl)) (pgs_cons (pg_name (i := 4) sc_RowReader_read_whole.nd rfl (Or.inl rfl)) pgs_nil))))
        (pss_cons (ps_expr (wm (o_RowReader_close T) hr (by decide) passE (pv 0) (pa_cons (pv 4) (pa_cons pe_int pa_nil))))
        (pss_one (ps_ret (pe_tup (pa_cons (pv 2) (pa_cons (pv 3) pa_nil))))))))))), ?_⟩, c_RowReader T, m_RowReader_read_whole T⟩
  obtain ⟨A, Ls, L, rfl, tx, hL0, P, q1, q2⟩ := h
  have hlt : 0 < Ls.length := (List.getElem?_eq_some_iff.mp hL0).1
  obtain ⟨hwf, hbd, x, hx, hxl, ht⟩ := tx.ln _ _ hL0
  refine go_m (ev_var (v := .ref A.r) rfl) P.r rfl ea_nil fun H1 e1 => ⟨_, rfl, A, L, 0, 0, 0, [], rfl, P.ex e1, fun x' ts hx' _ _ ht' _ a dx wl H2 ha hw e2 ln => ?_, fun hn => ?_, fun _ _ => ⟨x, _, hx, hxl, ht, hbd⟩⟩
  · obtain rfl : x' = x := by rw [hx] at hx'; exact (Option.some.inj hx').symm
    obtain rfl : ts = LK.test.toks := ht'.uniq ht
    have P2 := (P.ex e1).ex e2
    have ha0 := fresh_back e1 ha
    dsimp only [gName]
    refine go_m (ev_var (v := .ref a) rfl) ln.ob rfl (ea_cons ev_c ea_nil) fun H3 e3 => ⟨_, _, rfl, a, dx, wl, _, 0, [116, 101, 115, 116], rfl, rfl, ln.ex e3, fun _ H4 c4 l4 => ?_, fun h => absurd rfl h⟩
    dsimp only
    have P4 := (P2.ex e3).ch1 c4 (ln.ex e3).ob ⟨_, _, _, _, rfl⟩
    refine go_m (ev_var (v := .ref a) rfl) l4.ob rfl ea_nil fun H5 e5 => ⟨_, rfl, a, dx, wl, _, 1, rfl, l4.ex e5, by decide, fun H6 c6 l6 => ?_⟩
    dsimp only [gName]
    have P6 := (P4.ex e5).ch1 c6 (l4.ex e5).ob ⟨_, _, _, _, rfl⟩
    refine go_m (ev_var (v := .ref A.r) rfl) P6.r rfl (ea_cons (ev_var (v := .ref a) rfl) (ea_cons (ev_c (v := .int ((0 : Nat) : Int))) ea_nil)) fun H7 e7 => ⟨_, _, _, rfl, A, L, 0, 0, 0, [], a, dx, wl, _, 2, 0, rfl, rfl, rfl, by omega, by omega, P6.ex e7, l6.ex e7, fun _ H8 c8 P8 => ?_, fun h => absurd rfl h⟩
    dsimp only
    have fa : ∀ {x : Addr} {o : HO}, H x = some o → x ≠ a := fun e z => by rw [z, ha0] at e; cases e
    have c08 : Ch (Mr A) H H8 := fun x o e n => c8 _ _ (e7 _ _ (c6 _ _ (e5 _ _ (c4 _ _ ((e1.trans (e2.trans e3)) _ _ e) (fa e))) (fa e))) fun z => n (z.elim (fun z => .inr (.inr (.inr (.inr z)))) .inl)
    -- rows, closing = self.read_rows(1, Scope(self.mentions, {}, None))
    refine ⟨_, rfl, A.r, A.dr, _, rfl, P8.r, rfl, ?_⟩
    refine a_c (a_e (a_k (a_e ?_)))
    refine (rd_fld T P8 (te := tVar 0) (σ := [some (.ref A.r), some (.ref a), some (.str (S [97])), none, none]) (ev_var rfl)).2.2.1 H8 (Ex.refl _) _ fun H9 e9 => a_e (a_d fun gv hgv => a_c (a_n fun sa ds hsa hds hne => ?_))
    have e10 : Ex H9 (upd H9 gv (.dK [])) := Ex.new hgv
    have e11 : Ex (upd H9 gv (.dK [])) (upd (upd (upd H9 gv (.dK [])) ds (.own sa)) sa (.ins (He.ga K "Scope") ds [])) := fun y o e => by
      rw [upd_ne (ne_of_none e hsa), upd_ne (ne_of_none e hds)]
      exact e
    refine ⟨_, _, _, _, rfl, sa, ds, A.ma, gv, rfl, upd_same, rfl, rfl, fun H12 c12 h12 => ⟨rfl, ?_⟩⟩
    have e12 : Ex (upd H9 gv (.dK [])) H12 := fun y o e => c12 _ _ (e11 _ _ e) (ne_of_none e hsa)
    have e8 : Ex H8 H12 := (e9.trans e10).trans e12
    have P12 := P8.ex e8
    have hgv8 : H8 gv = none := fresh_back e9 hgv
    have hgv0 : H gv = none := by
      cases e : H gv with
      | none => rfl
      | some u =>
        exfalso
        by_cases z : Mr A gv
        · exact nMr P8 hgv8 z
        · rw [c08 _ _ e z] at hgv8; cases hgv8
    have S12 : SC K H12 A st0.stk st0.many sa ds gv .non [] := by
      refine ⟨h12, e12 _ _ upd_same, fun dx' pa' da' e' => ?_, ⟨fun n => ?_, .inl ⟨rfl, rfl⟩⟩, Nat.zero_le _⟩
      · obtain ⟨dxf, pa, da, f1, f2⟩ := P8.f
        rw [e8 _ _ f1] at e'
        cases e'
        exact fun z => by rw [z, hgv8] at f2; cases f2
      · exact ⟨fun h => absurd h Bool.false_ne_true, fun h => by cases h⟩
    have gn : ∀ x, Mr1 A gv x → Mr A x ∨ H x = none := fun x m => m.imp id fun z => by rw [z]; exact hgv0
    refine ⟨_, _, _, rfl, A, Ls, L, st0, [], ⟨.test, .rows, [], []⟩, sa, ds, gv, .non, [], 1, rfl, rfl, rfl, tx, P12, S12, rfl, rfl, by omega, by omega, Nat.le_refl _, hlt, fun pt rw_ a2 dx2 wl2 st13 l13 b13 H13 r13 hs13 k13 p13 L13 c13 n13 P13 ln13 ap13 ha13 hw13 hpt13 hpn13 ch13 => ?_, q2.fwd (.refl _) (c08.trans (Ch.of_ex e8)) gn⟩
    have c013 : Ch (Mr A) H H13 := fun x o e n => ch13 _ _ ((c08.trans (Ch.of_ex e8)) _ _ e n) fun z => (gn x z).elim n fun y => by rw [y] at e; cases e
    have hf : H a2 = none := by
      cases e : H a2 with
      | none => rfl
      | some u =>
        exfalso
        by_cases z : Mr A a2
        · exact nMr P12 ha13 z
        · rw [(c08.trans (Ch.of_ex e8)) _ _ e z] at ha13; cases ha13
    refine ⟨pt, [.ref rw_, .ref a2], rfl, .inl (.inl hpt13), rfl, _, _, rfl, _, _, rfl, rfl, ?_⟩
    refine q_goM (ev_var (v := .ref A.r) rfl) P13.r rfl (ea_cons (ev_var (v := .ref a2) rfl) (ea_cons (ev_c (v := .int ((0 : Nat) : Int))) ea_nil)) fun H14 e14 => ⟨_, _, _, rfl, A, L, st13.many, st13.fl, a2, dx2, wl2, l13, 0, rfl, rfl, rfl, by omega, n13, P13.ex e14, ln13.ex e14, ap13, c13, fun he H15 c15 P15 => ?_, fun he H15 c15 => ?_⟩
    · subst he
      refine s_retU (eu_tup (ea_cons (ev_var rfl) (ea_cons (ev_var (v := .ref rw_) rfl) ea_nil)) (show 2 ≤ 100000 by decide)) fun p H16 hp e16 h16 => q1 p rw_ (st13.after .end_) H16 (r13.trans (Runs.one L13 (st_end hs13 n13 (by rw [k13]; intro z; cases z.1)))) ?_ ?_ (P15.ex e16) h16 ?_
      · show st13.stk.dropLast = []
        rw [hs13]
        rfl
      · exact (List.getElem?_eq_some_iff.mp L13).1
      · exact fun x o e n => e16 _ _ (c15 _ _ (e14 _ _ (c013 _ _ e n)) fun z => z.elim n fun y => by rw [y, hf] at e; cases e)
    · refine RaiseW.here (H := H13) (M := fun x => Mr A x ∨ x = a2) (q2.fwd r13 c013 fun x h => h.imp id fun z => by rw [z]; exact hf) (stuck_of L13 fun z => ?_) ⟨_, b13, hs13⟩ P13 (.inr (c15 _ _ (e14 _ _ P13.r) (ln13.acc P13).2.symm)) ((Ch.of_ex e14).trans (c15.mono fun x e => .inr e))
      obtain ⟨_, s', b', e, z⟩ := z
      rw [hs13] at e
      obtain ⟨_, rfl⟩ := snoc_inj e
      rcases c13 with h | h | h
      · exact he h
      · subst h
        have z : b13.kind = .if_ ∧ b13.ph = .rows ∨ b13.kind = .try_ ∧ b13.ph = .except_ := z
        rw [k13] at z
        rcases z with z | z <;> cases z.1
      · subst h
        have z : b13.kind = .try_ ∧ b13.ph ≠ .else_ := z
        rw [k13] at z
        cases z.1
  · rw [tx.len] at hn
    omega
end WP
set_option Elab.async false
set_option linter.all false
set_option maxRecDepth 100000
set_option maxHeartbeats 4000000
/-! the reader made -/
namespace WP
open PySem PySem.Spec PyProof.Rows L2 Evl SX
variable {w : World} {K : PySem.W.Frag} {mg : Str → Option Value} {base : Heap}
theorem fld_d {K : PySem.W.Frag} {σ : L2.St} {H : Hp} {ta tv : TE} {f : Str} {D : Ends} {tz : TS} (h : tv σ H fun y H1 => ta σ H1 fun x H2 => ∃ a C dx fs, x = .ref a ∧ H2 a = some (.ins C dx fs) ∧ Cls K C ∧ NoAttr K C f ∧ fs.length < 1000 ∧ tz D σ (upd H2 a (.ins C dx (putF f y fs)))) : tSeq (sFld K ta tv f) tz D σ H := h
theorem o_RowReader_init (T : TT K mg) : MakX PW w K mg base CX0 3 "RowReader" (He.ga K "RowReader") (sp_RowReader_init (K := K)) := by
  obtain ⟨fd, F⟩ := f_RowReader_init T
  refine ⟨_, mk3 F (b_RowReader_init F) sc_RowReader_init fun a b c cdv A outer s H Q E hr h => ⟨_, (pss_cons (ps_fld (pv 0) (pv 1) rfl)
        (pss_cons (ps_fld (pv 0) pe_int rfl)
        (pss_cons (ps_fld (pv 0) (wk (o_Mentions_init T) hr (by decide) pass0 (pa_cons (pv 2) pa_nil)) rfl)
        (pss_one (ps_fld (pv 0) (pe_lst pa_nil) rfl))))), ?_⟩, k_RowReader T, g_RowReader T⟩
  obtain ⟨a, dx, la, fa, L, rfl, ha, rfl, hla, rfl, hfa, q⟩ := h
  refine q_fld (ev_var (v := .ref la) rfl) (ev_var (v := .ref a) rfl) ha (c_RowReader T) (n_RowReader_lines T) (show 0 < 1000 by decide) fun H1 e1 => ?_
  refine q_fld (ev_c (v := .int ((0 : Nat) : Int))) (ev_var (v := .ref a) rfl) upd_same (c_RowReader T) (n_RowReader_at T) (show 1 < 1000 by decide) fun H2 e2 => ?_
  have c2 : Ch (fun x => x = a) H (upd H2 a (.ins (He.ga K "RowReader") dx (putF "at" (.int ((0 : Nat) : Int)) (putF "lines" (.ref la) [])))) := ch2 (ch1 e1) e2
  have a2 : (upd H2 a (.ins (He.ga K "RowReader") dx (putF "at" (.int ((0 : Nat) : Int)) (putF "lines" (.ref la) [])))) a = some _ := upd_same
  generalize upd H2 a (.ins (He.ga K "RowReader") dx (putF "at" (.int ((0 : Nat) : Int)) (putF "lines" (.ref la) []))) = H3 at c2 a2
  refine fld_d (go_k (ea_cons (ev_var (v := .ref fa) rfl) ea_nil) fun H4 e4 ma dm hma hdm hne => ⟨_, _, rfl, ma, dm, fa, rfl, upd_same, rfl, fun ca ga ka H5 nc ng nk ncg nck ngk c5 m5 ca5 ga5 ka5 => ⟨rfl, ?_⟩⟩)
  have e4' : Ex H4 (upd (upd H4 dm (.own ma)) ma (.ins (He.ga K "Mentions") dm [])) := fun y o e => by
    rw [upd_ne (ne_of_none e hma), upd_ne (ne_of_none e hdm)]
    exact e
  have e5 : Ex H4 H5 := fun y o e => c5 _ _ (e4' _ _ e) (ne_of_none e hma)
  have a5 : H5 a = some _ := e5 _ _ (e4 _ _ a2)
  refine ⟨.ref a, rfl, a, _, dx, _, rfl, a5, c_RowReader T, n_RowReader_mentions T, (show 2 < 1000 by decide), ?_⟩
  have hs : ∀ {x : Addr} {o : HO}, H x = some o → x ≠ a → H5 x = some o := fun e n => e5 _ _ (e4 _ _ (c2 _ _ e n))
  have fr : ∀ {x : Addr}, H5 x ≠ none → H4 x = none → x ≠ a := fun h1 h2 z => by rw [z, e4 _ _ a2] at h2; cases h2
  have nca : ca ≠ a := fun z => by rw [z] at nc; cases (e4' _ _ (e4 _ _ a2)).symm.trans nc
  have nga : ga ≠ a := fun z => by rw [z] at ng; cases (e4' _ _ (e4 _ _ a2)).symm.trans ng
  have nka : ka ≠ a := fun z => by rw [z] at nk; cases (e4' _ _ (e4 _ _ a2)).symm.trans nk
  have nma : ma ≠ a := fun z => by rw [z, e4 _ _ a2] at hma; cases hma
  refine ⟨show 0 ≤ sizeLine by decide, fun wa hwa => ⟨.ref a, rfl, a, _, dx, _, rfl, Ex.new hwa _ _ upd_same, c_RowReader T, n_RowReader_written T, (show 3 < 1000 by decide), ?_⟩⟩
  have old : ∀ {x : Addr} {o : HO}, H5 x = some o → x ≠ a → (upd (upd (upd H5 a (.ins (He.ga K "RowReader") dx (putF "mentions" (.ref ma) (putF "at" (.int ((0 : Nat) : Int)) (putF "lines" (.ref la) []))))) wa (.lst [])) a (.ins (He.ga K "RowReader") dx (putF "written" (.ref wa) (putF "mentions" (.ref ma) (putF "at" (.int ((0 : Nat) : Int)) (putF "lines" (.ref la) [])))))) x = some o := fun {x o} e n => by
    have h1 : (upd H5 a (.ins (He.ga K "RowReader") dx (putF "mentions" (.ref ma) (putF "at" (.int ((0 : Nat) : Int)) (putF "lines" (.ref la) []))))) x = some o := by
      rw [upd_ne n]
      exact e
    rw [upd_ne n, upd_ne (ne_of_none h1 hwa)]
    exact h1
  have nwa : wa ≠ a := fun z => by rw [z, upd_same] at hwa; cases hwa
  have w5 : H5 wa = none := by rw [upd_ne nwa] at hwa; exact hwa
  have back : ∀ {x : Addr}, H5 x ≠ none → (upd H5 a (.ins (He.ga K "RowReader") dx (putF "mentions" (.ref ma) (putF "at" (.int ((0 : Nat) : Int)) (putF "lines" (.ref la) []))))) x ≠ none → x ≠ wa := fun _ h z => h (by rw [z]; exact hwa)
  have h0 : ∀ {x : Addr}, H4 x = none → x ≠ a → H x = none := fun {x} h n => by
    cases e : H x with
    | none => rfl
    | some o => rw [e4 _ _ (c2 _ _ e n)] at h; cases h
  have n4 : ∀ {x : Addr}, (upd (upd H4 dm (.own ma)) ma (.ins (He.ga K "Mentions") dm [])) x = none → H4 x = none := fun h => fresh_back e4' h
  have la5 : H5 la = some (.lst (stV L)) := hs hla (ne_of hla ha (by intro z; cases z))
  have lne : ∀ {x : Addr}, H4 x = none → la ≠ x := fun h z => by
    rw [← z, e4 _ _ (c2 _ _ hla (ne_of hla ha (by intro z; cases z)))] at h
    cases h
  refine q ⟨a, dx, la, ma, dm, fa, ca, ga, ka, wa⟩ _ ⟨rfl, rfl, rfl, h0 hma nma, h0 (n4 nc) nca, h0 (n4 ng) nga, h0 (n4 nk) nka, ?_⟩ ?_ ?_
  · exact h0 (fresh_back e5 w5) nwa
  · exact fun x o e n => old (hs e n) n
  · obtain ⟨dxf, pa, da, f1, f2⟩ := hfa
    refine ⟨upd_same, old la5 (ne_of hla ha (by intro z; cases z)), old m5 nma, ⟨dxf, pa, da, old (hs f1 (ne_hd f1 ha (by intro z; cases z))) (ne_hd f1 ha (by intro z; cases z)), old (hs f2 (ne_of f2 ha (by intro z; cases z))) (ne_of f2 ha (by intro z; cases z))⟩, ⟨[], old ca5 nca, Nat.zero_le _⟩, ⟨old ga5 nga, by decide⟩, ⟨[], old ka5 nka, Nat.zero_le _⟩, ⟨[], ?_, Nat.zero_le _⟩, ⟨by omega, by omega, by omega⟩, ?_⟩
    · show (upd _ a _) wa = _
      rw [upd_ne nwa, upd_same]
      rfl
    · refine ⟨ncg, nck, fun z => ?_, ngk, fun z => ?_, fun z => ?_, lne (n4 nc), lne (n4 ng), lne (n4 nk), lne (fresh_back e5 w5)⟩
      · have z : ca = wa := z
        rw [z, w5] at ca5; cases ca5
      · have z : ga = wa := z
        rw [z, w5] at ga5; cases ga5
      · have z : ka = wa := z
        rw [z, w5] at ka5; cases ka5
end WP
set_option Elab.async false
set_option linter.all false
set_option maxRecDepth 100000
set_option maxHeartbeats 4000000
/-! the two own errors -/
namespace WP
open PySem PySem.Spec PyProof.Rows L2 Evl SX PySem.WSup
variable {w : World} {K : PySem.W.Frag} {mg : Str → Option Value} {base : Heap}
def InitIs (s : Stmt) : Prop := ∃ (msg : Str) (j : Nat) (u1 u2 p0 p1 p2 p3 p4 p5 q1 q2 q3 q4 : Pos), defArgs s = iA u1 u2 ∧ defBody s = iB msg j p0 p1 p2 p3 p4 p5 q1 q2 q3 q4 ∧ defScope s = iS ∧
  ∀ env : Env, ∃ pl : Sem Bool, eval (.Call (.Attribute (.Call (.Name "super" p0) [] [] p1) "__init__" p2) [.Constant (.str msg) j p3] [] p4) env = (do
      let ov ← attributeBase (.Call (.Name "super" p0) [] [] p1) "__init__" env (eval (.Call (.Name "super" p0) [] [] p1) env)
      standAt p2.atName
      let (f, first) ← holding [ov] (getMethod ov "__init__" pl)
      callWith p4 f first (backTo p4 (starEach [.Constant (.str msg) j p3] env)) [])
theorem supFn_ok {C f : Addr} {s : Stmt} (h : supFn K C f = true) (e : supObs K f = some (("__init__" : Str), defArgs s, FuncBody.stmts (defBody s), defScope s)) (hi : InitIs s) :
    ∃ (oc : Value) (od : Option Addr) (osl : Array (Option Value)) (qual : Str) (dV kV doc pm ct : Value) (an : Option Addr) (cda cc : Addr) (msg : Str) (j : Nat) (u1 u2 p0 p1 p2 p3 p4 p5 q1 q2 q3 q4 : Pos)
      (ccl cl : Value) (cdd cld : Option Addr) (ccs csl : Array (Option Value)) (vs : Array Value) (file : Str) (tf : Tok),
    K.lookup f = some ⟨oc, od, .func (PySem.W.ksFn "__init__" qual (iA u1 u2) (iB msg j p0 p1 p2 p3 p4 p5 q1 q2 q3 q4) iS .none kV doc pm an (.ref cda) ct cc), osl⟩ ∧ PySem.W.codeIn K (.ref cda) qual = true ∧
    K.lookup cda = some ⟨ccl, cdd, .fields vs, ccs⟩ ∧ vs[2]? = some (.str file tf) ∧ ((PW.main.file : Str) == file) = true ∧ K.lookup cc = some ⟨cl, cld, .cell (some (.ref C)), csl⟩ ∧
    ∀ env : Env, ∃ pl : Sem Bool, eval (.Call (.Attribute (.Call (.Name "super" p0) [] [] p1) "__init__" p2) [.Constant (.str msg) j p3] [] p4) env = (do
      let ov ← attributeBase (.Call (.Name "super" p0) [] [] p1) "__init__" env (eval (.Call (.Name "super" p0) [] [] p1) env)
      standAt p2.atName
      let (f, first) ← holding [ov] (getMethod ov "__init__" pl)
      callWith p4 f first (backTo p4 (starEach [.Constant (.str msg) j p3] env)) []) := by
  obtain ⟨msg, j, u1, u2, p0, p1, p2, p3, p4, p5, q1, q2, q3, q4, ha, hb, hs, hv⟩ := hi
  unfold supFn at h
  unfold supObs at e
  split at h
  · rename_i oc od fd osl lk
    rw [lk] at e
    replace e := Option.some.inj e
    obtain ⟨nm, qual, params, body, scope, glo, clo, dfl, kV, doc, pm, an, cd, ct, blt⟩ := fd
    dsimp only at e h
    have e9 := lk
    clear e9
    split at h
    · rename_i nm2 cc cda
      obtain ⟨h1, h⟩ := He.ba h
      obtain ⟨h2, h⟩ := He.ba h
      obtain ⟨h3, h⟩ := He.ba h
      obtain ⟨h4, h⟩ := He.ba h
      obtain ⟨h5, h⟩ := He.ba h
      obtain ⟨h6, h7⟩ := He.ba h
      replace h1 := of_decide_eq_true h1
      replace h2 := of_decide_eq_true h2
      replace h3 := of_decide_eq_true h3
      replace h4 := of_decide_eq_true h4
      subst h1 h2 h3 h4
      obtain ⟨e1, y2⟩ := Prod.mk.inj e
      obtain ⟨e2, y3⟩ := Prod.mk.inj y2
      obtain ⟨e3, e4⟩ := Prod.mk.inj y3
      clear e y2 y3
      subst e1 e2 e3 e4
      split at h6
      · rename_i ccl cdd vs ccs lk2
        split at h6
        · rename_i file tf hvs
          split at h7
          · rename_i cl cld D csl lk3
            replace h7 := of_decide_eq_true h7
            subst h7
            rw [ha, hb, hs] at lk
            exact ⟨oc, od, osl, qual, .none, kV, doc, pm, ct, an, cda, cc, msg, j, u1, u2, p0, p1, p2, p3, p4, p5, q1, q2, q3, q4, ccl, cl, cdd, cld, ccs, csl, vs, file, tf, lk, h5, lk2, hvs, h6, lk3, hv⟩
          · cases h7
        · cases h6
      · cases h6
    · cases h
  · cases h
theorem supC_of (T : TT K mg) {x : Str} {s : Stmt} (h : supB K x = true) (e : supObs K (supF K x) = some (("__init__" : Str), defArgs s, FuncBody.stmts (defBody s), defScope s)) (hi : InitIs s) : SupC PW K mg x (He.ga K x) (supF K x) := by
  obtain ⟨a1, h⟩ := He.ba h
  obtain ⟨a2, h⟩ := He.ba h
  obtain ⟨a3, h⟩ := He.ba h
  obtain ⟨a4, h⟩ := He.ba h
  obtain ⟨a5, h⟩ := He.ba h
  obtain ⟨a6, h⟩ := He.ba h
  obtain ⟨a7, h⟩ := He.ba h
  obtain ⟨a8, h⟩ := He.ba h
  obtain ⟨a9, h⟩ := He.ba h
  obtain ⟨b1, h⟩ := He.ba h
  obtain ⟨b2, h⟩ := He.ba h
  obtain ⟨b3, h⟩ := He.ba h
  obtain ⟨b4, h⟩ := He.ba h
  obtain ⟨b5, h⟩ := He.ba h
  obtain ⟨b6, h⟩ := He.ba h
  obtain ⟨b7, h⟩ := He.ba h
  obtain ⟨b8, h⟩ := He.ba h
  obtain ⟨b9, c1⟩ := He.ba h
  obtain ⟨hh, X, G⟩ := T.at_
  exact { gC := PySem.W.mg_of X G (He.eqO_ok a1), gS := z_super T, cls := supCls_ok a2, sa := He.eqO_ok a3, ga := He.eqO_ok a4, gg := He.eqO_ok a5, noN := He.eqO_ok a6, iC := He.eqO_ok a7, tC := of_decide_eq_true a8, kC := a9
          exC := of_decide_eq_true b1, veC := of_decide_eq_true b2, tyC := of_decide_eq_true b3, hdC := b4, te := of_decide_eq_true b5, opq := He.eqO_ok b6, sup := of_decide_eq_true b7, self := of_decide_eq_true b8, top := by decide +kernel, fn := supFn_ok c1 e hi }
theorem i_BadLine : InitIs s_BadLine_init := ⟨_, _, _, _, _, _, _, _, _, _, _, _, _, _, rfl, rfl, rfl, fun env => ⟨_, rfl⟩⟩
theorem i_BadTest : InitIs s_BadTest_init := ⟨_, _, _, _, _, _, _, _, _, _, _, _, _, _, rfl, rfl, rfl, fun env => ⟨_, rfl⟩⟩
theorem x_BadLine (T : TT K mg) : SupC PW K mg "BadLine" (He.ga K "BadLine") (supF K "BadLine") := by
  have e := T.says.sup
  have e0 := congrArg (fun z => z[0]?) e
  obtain ⟨_, h1⟩ := He.ba T.says.ext
  obtain ⟨h2, _⟩ := He.ba h1
  exact supC_of T h2 (Option.some.inj e0) i_BadLine
theorem x_BadTest (T : TT K mg) : SupC PW K mg "BadTest" (He.ga K "BadTest") (supF K "BadTest") := by
  have e := T.says.sup
  have e0 := congrArg (fun z => z[1]?) e
  obtain ⟨_, h1⟩ := He.ba T.says.ext
  obtain ⟨_, h1⟩ := He.ba h1
  obtain ⟨h2, _⟩ := He.ba h1
  exact supC_of T h2 (Option.some.inj e0) i_BadTest
end WP
set_option Elab.async false
set_option linter.all false
set_option maxRecDepth 100000
set_option maxHeartbeats 4000000
/-! the two tries of the reading -/
namespace WP
open PySem PySem.Spec PyProof.Rows L2 Evl SX PySem.WSup WChn
variable {w : World} {K : PySem.W.Frag} {mg : Str → Option Value} {base : Heap}
theorem room1 {k : Nat} {A : Around} (r : Room k A) : A.depth + 1 < recursionLimit := by have := r.dp; omega
section
variable {X : Cx} {CX : CXT} {k j : Nat} {f C : Addr} {sp : Sp} {E : L2.St → XK} {x m : Str} {p pos apos : Pos} {e o : Expr} {es : List Expr} {ta : TE} {t : TA}
theorem run_fnRP {pins : List (Addr × Obj)} {σ : L2.St} {H : Hp} {s : Shared} {Q : VK} {us : List Value} {vs : List V} (F : FnR X.prog X.w X.K X.mg X.base CX k f sp) (hr : Room k X.A) (hx : L2.PassesAt CX X σ (E σ)) (I : Inv X pins σ H s) (r : Vals vs us) (h : sp vs H Q (E σ)) :
    codeAny (model X.prog X.w) X.A (.call (.ref f) ⟨us, []⟩) (fun r s' => match r with | .ok (.ret v) => EP X pins σ Q v s' | .ok _ => False | .error e => X.xe e s') s := by
  refine codeAny_mono (F X.A X.stack s H us vs Q (E σ) hr I.env0 r h) fun r s' hq => ?_
  cases r with
  | error e => exact hx pins H s e s' I hq
  | ok fl =>
    cases fl with
    | ret u => exact I.after hq
    | next => exact False.elim hq
    | brk => exact False.elim hq
    | cont => exact False.elim hq
def tFP (sp : Sp) (E : L2.St → XK) (t : TA) : TE := fun σ H Q => t σ H fun vs H1 => sp vs H1 Q (E σ)
def tMP (C : Addr) (m : Str) (sp : Sp) (E : L2.St → XK) (ta : TE) (t : TA) : TE := fun σ H Q => ta σ H fun x H1 => ∃ a dx fs, x = .ref a ∧ H1 a = some (.ins C dx fs) ∧ fs.lookup m = none ∧ t σ H1 fun vs H2 => sp (x :: vs) H2 Q (E σ)
theorem wcP (c : CalX X.prog X.w X.K X.mg X.base CX k x sp) (hr : Room j X.A) (hk : k ≤ j) (hx : ∀ σ, L2.PassesAt CX X σ (E σ)) (ha : L2.PA X (e :: es) t) (hg : Gl X x := by rfl)
    (hdb : (x == ("__debug__" : Str)) = false := by decide) (he : starEach (e :: es) X.env = (false, eval e X.env) :: starEach es X.env := by rfl) (hpl : (backTo pos (starEach es X.env)).any (·.1) = false := by rfl) :
    PE X (.Call (.Name x p) (e :: es) [] pos) (tFP sp E t) := by
  obtain ⟨f, F, hm, kp⟩ := c
  refine ⟨fun pins s σ H Q I h => ?_⟩
  refine wpAny_Call_Name_kw (ld_glob I hg hm ?_ hdb)
  refine PySem.W.callWith_K (h₀ := X.base) I.ok.mod.kin kp (thn (ha.run pos pins s σ H _ I h) fun us s1 ⟨vs, H1, I1, r, q⟩ => ⟨I1.kIn, ?_⟩) he hpl
  exact wpAny_call (run_fnRP F (hr.mono hk) (hx σ) I1 r q)
theorem wmP0 {pl : Sem Bool} (c : MetX X.prog X.w X.K X.mg X.base CX k C m sp) (hr : Room j X.A) (hk : k ≤ j) (hx : ∀ σ, L2.PassesAt CX X σ (E σ)) (he : PE X o ta)
    (ht : eval (.Call (.Attribute o m apos) [] [] pos) X.env = (do
      let ov ← eval o X.env
      standAt apos.atName
      let (f, first) ← holding [ov] (getMethod ov m pl)
      callWith pos f first (backTo pos (starEach [] X.env)) (backToKw pos (keywordEach [] X.env))) := by rfl) :
    PE X (.Call (.Attribute o m apos) [] [] pos) (tMP C m sp E ta tNil) := by
  obtain ⟨f, F, cl, hm⟩ := c
  refine ⟨fun pins s σ H Q I h => ?_⟩
  refine PySem.W.methodCall_KW (pl := pl) (thn (he.run pins s σ H _ I h) fun u s1 ⟨x, H1, I1, rx, a, dx, fs, ex, ea, l, q⟩ => ?_) ht
  subst ex
  obtain rfl : u = Value.ref a := rx
  refine getmeth_ok I1 ea cl hm l ?_
  exact PySem.W.callWith_K0 (first := [.ref a]) I1.kIn hm.kp (wpAny_call (run_fnRP (us := [.ref a]) (vs := [.ref a]) F (hr.mono hk) (hx σ) I1 (.cons rfl .nil) q))
end
def AtW (K : PySem.W.Frag) (x : Str) (A : PA) (Ls : List LK) (E : XK) (H : Hp) : Prop :=
  ∀ (st' : LS) (dd : Addr) H', Runs Ls st0 st' → Stuck Ls st' → (∃ s b, st'.stk = s ++ [b]) → H' dd = some (.xd [(("at" : Str), .int (st'.many : Int))]) → Ch (Mr A) H H' → E (.ref (He.ga K x)) (some dd) H'
def sp_reads (x : Str) : Sp := sp1 fun self H Q E => ∃ (A : PA) (Ls : List LK) (L : List (List Nat)), self = .ref A.r ∧ Txs Ls L ∧ Ls[0]? = some .test ∧ PInv K H A L 0 0 0 [] ∧
  (∀ (p rw : Addr) (st' : LS) H', Runs Ls st0 st' → st'.stk = [] → st'.many ≤ Ls.length → PInv K H' A L st'.many 0 0 st'.fl → H' p = some (.tup [.str (S [97]), .ref rw]) → Ch (Mr A) H H' → Q (.ref p) H') ∧ AtW K x A Ls E H
def tRdAt (K : PySem.W.Frag) (x : Str) : L2.St → Hp → XK → Prop := fun σ H Q => tCons (tFld K (tVar 0) "at") tNil σ H fun vs H1 => ∃ v, vs = [v] ∧ ∀ d, H1 d = none → Q (.ref (He.ga K x)) (some d) (upd H1 d (.xd [(("at" : Str), v)]))
theorem o_read_test (T : TT K mg) : CalX PW w K mg base (CXc PW w) 57 "read_test" (sp_reads (K := K) "BadLine") := by
  obtain ⟨fd, F⟩ := f_read_test T
  refine ⟨_, mk1 F (b_read_test F) sc_read_test fun a cdv A outer s H Q E hr h => have r1 := room1 hr; ⟨_, pss_one (ps_try_chain (tb := fun W => tRet (tMP (He.ga K "RowReader") "read_whole" (sp_whole (K := K)) (L2.WE W) (tVar 0) tNil)) (t := tRdAt K "BadLine") rfl rfl rfl rfl rfl ⟨rfl, by decide, .inl (g_Misread T)⟩
    (fun W pn xe tk _ => pss_one (ps_ret (wmP0 (o_RowReader_read_whole T) hr (by decide) (fun σ => L2N.passAt tk σ) (pv 0))))
    (fun a pn => pmk_at (x_BadLine T) r1 rfl (pa_cons (pe_fld (pv 0) rfl) pa_nil))), ?_⟩, g_read_test T, F.kp⟩
  obtain ⟨A, Ls, L, rfl, tx, hL0, P, q1, q2⟩ := h
  refine ⟨_, rfl, A.r, A.dr, _, rfl, P.r, rfl, _, rfl, A, Ls, L, rfl, tx, hL0, P, q1, fun st' H' r1 r2 r3 hA c => ?_⟩
  refine ⟨true, xm_Misread T, fun _ a ha => ?_, fun h => by cases h⟩
  refine ⟨_, rfl, _, _, _, _, _, rfl, hA, c_RowReader T, n_RowReader_at T, rfl, _, rfl, fun d hd => ?_⟩
  exact q2 st' d _ r1 r2 r3 upd_same (c.fresh hd)
/-- e.at, e in slot i the exception that the suite holds -/
def tAtE (C : Addr) (i : Nat) (a : Addr) (cls : Value) (d : Option Addr) : TE := fun σ H Q => tVar i σ H fun x H1 => x = .ref a ∧ cls = .ref C ∧ ∃ (dd : Addr) (v : V), d = some dd ∧ H1 dd = some (.xd [(("at" : Str), v)]) ∧ Q v H1
def tRdE (K : PySem.W.Frag) (x : Str) (C : Addr) (i : Nat) (a : Addr) (cls : Value) (d : Option Addr) : L2.St → Hp → XK → Prop := fun σ H Q => tCons (tAtE C i a cls d) tNil σ H fun vs H1 => ∃ v, vs = [v] ∧ ∀ d, H1 d = none → Q (.ref (He.ga K x)) (some d) (upd H1 d (.xd [(("at" : Str), v)]))
theorem o_read_first (T : TT K mg) : CalX PW w K mg base (L2.CX PW w) 58 "read_first" (sp_reads (K := K) "BadTest") := by
  obtain ⟨fd, F⟩ := f_read_first T
  refine ⟨_, mk1 F (b_read_first F) sc_read_first fun a cdv A outer s H Q E hr h => have r1 := room1 hr; ⟨_, pss_one (ps_try_chain2 (i := 1) (tb := fun W => tRet (tFP (sp_reads (K := K) "BadLine") (L2.WE W) (tCons (tVar 0) tNil))) (t := tRdE K "BadTest" (He.ga K "BadLine") 1) rfl rfl rfl rfl rfl sc_read_first.nd rfl rfl ⟨rfl, by decide, .inl (g_BadLine T)⟩
    (fun W pn xe tk _ => pss_one (ps_ret (wcP (o_read_test T) hr (by decide) tk (pa_cons (pv 0) pa_nil))))
    (fun a oe cls d pn hz hf hp => pmk_at (x_BadTest T) r1 rfl (pa_cons (pe_at (x_BadLine T) hp hz hf (pv 1)) pa_nil))), ?_⟩, g_read_first T, F.kp⟩
  obtain ⟨A, Ls, L, rfl, tx, hL0, P, q1, q2⟩ := h
  refine ⟨_, rfl, _, rfl, A, Ls, L, rfl, tx, hL0, P, q1, fun st' dd H' r1 r2 r3 hA c => ?_⟩
  refine ⟨(x_BadLine T).te, fun a ha => ?_⟩
  refine ⟨_, rfl, rfl, rfl, dd, _, rfl, hA, _, rfl, fun d hd => ?_⟩
  exact q2 st' d _ r1 r2 r3 upd_same (c.fresh hd)
end WP
set_option Elab.async false
set_option linter.all false
set_option maxRecDepth 100000
set_option maxHeartbeats 4000000
/-! the test made -/
namespace WP
open PySem PySem.Spec PyProof.Rows L2 Evl SX PySem.WSup WChn
variable {w : World} {K : PySem.W.Frag} {mg : Str → Option Value} {base : Heap}
/-- some value, no more said -/
def EvAny (te : TE) (σ : L2.St) (H : Hp) : Prop := ∀ H1, Ex H H1 → ∀ Q : VK, (∀ y H2, Ex H1 H2 → Q y H2) → te σ H1 Q
section
variable {K : PySem.W.Frag} {σ : L2.St} {H : Hp} {ta tv te : TE} {t : TA} {a C : Addr} {dx : Addr} {fs : List (Str × V)} {f : Str} {D : Ends} {tz : TS} {y : V}
theorem Ev.any (h : Ev te σ H y) : EvAny te σ H := fun H1 e1 Q q => h H1 e1 _ fun H2 e2 => q _ _ e2
theorem any_tup {p : Addr} {xs : List V} (h : Ev te σ H (.ref p)) (hp : H p = some (.lst xs)) : EvAny (tCB (fun xs H Q => ∃ p ys, xs = [.ref p] ∧ ((SqL K H p ys ∧ ∀ l, H l = none → Q (.ref l) (upd H l (.tup ys))) ∨ (SqT K H p ys ∧ Q (.ref p) H))) (tCons te tNil)) σ H := fun H1 e1 Q q =>
  h H1 e1 _ fun H2 e2 => ⟨p, xs, rfl, .inl ⟨sq_of ((e1.trans e2) _ _ hp), fun l hl => q _ _ (e2.trans (Ex.new hl))⟩⟩
theorem any_srt {p : Addr} {xs : List Str} (h : Ev te σ H (.ref p)) (hp : H p = some (.lst (xs.map V.str))) (hx : xs.length < 64) : EvAny (tCB (fun xs H Q => ∃ p ys, xs = [.ref p] ∧ ((SqL K H p ys ∧ ∀ l, H l = none → Q (.ref l) (upd H l (.tup ys))) ∨ (SqT K H p ys ∧ Q (.ref p) H))) (tCons (tCB (rSortedS K) (tCons te tNil)) tNil)) σ H := fun H1 e1 Q q =>
  h H1 e1 _ fun H2 e2 => ⟨p, xs, rfl, sq_of ((e1.trans e2) _ _ hp), hx, fun ys p2 _ _ hp2 => ⟨p2, _, rfl, .inl ⟨sq_of upd_same, fun l hl => q _ _ ((e2.trans (Ex.new hp2)).trans (Ex.new hl))⟩⟩⟩
theorem s_fldA (hv : EvAny tv σ H) (ha : Ev ta σ H (.ref a)) (ho : H a = some (.ins C dx fs)) (hc : Cls K C) (hn : NoAttr K C f) (hl : fs.length < 1000) (k : ∀ (y : V) (fs' : List (Str × V)) (H1 : Hp), fs'.length ≤ fs.length + 1 → H1 a = some (.ins C dx fs') → Ch (fun x => x = a) H H1 → D.nx σ H1) : sFld K ta tv f D σ H :=
  hv H (Ex.refl H) _ fun y H1 e1 => ha H1 e1 _ fun H2 e2 => ⟨a, C, dx, fs, rfl, (e1.trans e2) _ _ ho, hc, hn, hl, k y _ _ (length_putF _ _ _) upd_same ((Ch.of_ex (e1.trans e2)).set rfl)⟩
theorem q_fldA (hv : EvAny tv σ H) (ha : Ev ta σ H (.ref a)) (ho : H a = some (.ins C dx fs)) (hc : Cls K C) (hn : NoAttr K C f) (hl : fs.length < 1000) (k : ∀ (y : V) (fs' : List (Str × V)) (H1 : Hp), fs'.length ≤ fs.length + 1 → H1 a = some (.ins C dx fs') → Ch (fun x => x = a) H H1 → tz D σ H1) : tSeq (sFld K ta tv f) tz D σ H :=
  s_fldA (D := { D with nx := tz D }) hv ha ho hc hn hl k
end
theorem PInv.oth {H H' : Hp} {A : PA} {L : List (List Nat)} {n ec ek : Nat} {fl : List (List Nat)} (h : PInv K H A L n ec ek fl) {a C dx : Addr} (ha : H a = some (.ins C dx [])) (c : Ch (fun x => x = a) H H') : PInv K H' A L n ec ek fl := by
  have k : ∀ {x : Addr} {o : HO}, H x = some o → o ≠ .ins C dx [] → H' x = some o := fun e n => c _ _ e (fun z => n (by rw [z, ha] at e; exact (Option.some.inj e).symm))
  obtain ⟨cs, c1, c2⟩ := h.c
  obtain ⟨ks, k1, k2⟩ := h.k
  obtain ⟨ws, w1, w2⟩ := h.w
  obtain ⟨fx, pa, da, f1, f2⟩ := h.f
  exact ⟨k h.r (by intro z; cases z), k h.l (by intro z; cases z), k h.m (by intro z; cases z), ⟨fx, pa, da, k f1 (by intro z; cases z), k f2 (by intro z; cases z)⟩, ⟨cs, k c1 (by intro z; cases z), c2⟩, ⟨k h.g.1 (by intro z; cases z), h.g.2⟩, ⟨ks, k k1 (by intro z; cases z), k2⟩, ⟨ws, k w1 (by intro z; cases z), w2⟩, h.b, h.ne⟩
def sp_Test_init : Sp := sp4 fun self nm bd rd H Q _ => ∃ (a dx : Addr) (A : PA) (L : List (List Nat)) (n : Nat) (fl : List (List Nat)), self = .ref a ∧ H a = some (.ins (He.ga K "Test") dx []) ∧ rd = .ref A.r ∧ PInv K H A L n 0 0 fl ∧ ∀ H', Ch (fun x => x = a) H H' → Q .non H'
theorem o_Test_init (T : TT K mg) : MakX PW w K mg base CX0 1 "Test" (He.ga K "Test") (sp_Test_init (K := K)) := by
  obtain ⟨fd, F⟩ := f_Test_init T
  refine ⟨_, mk4 F (b_Test_init F) sc_Test_init fun a b c d cdv A outer s H Q E hr h => ⟨_, (pss_cons (ps_fld (pv 0) (pv 1) rfl)
        (pss_cons (ps_fld (pv 0) (pv 2) rfl)
        (pss_cons (ps_fld (pv 0) (pe_fld (pe_fld (pv 3) rfl) rfl) rfl)
        (pss_cons (ps_fld (pv 0) (pe_callTy call_tuple_of rfl (z_tuple T) (by decide +kernel) (pa_cons (pe_callB cr_sortedS rfl (z_sorted T) (by decide +kernel) (pa_cons (pe_fld (pe_fld (pv 3) rfl) rfl) pa_nil)) pa_nil)) rfl)
        (pss_cons (ps_fld (pv 0) (pe_callTy call_tuple_of rfl (z_tuple T) (by decide +kernel) (pa_cons (pe_callB cr_sortedS rfl (z_sorted T) (by decide +kernel) (pa_cons (pe_fld (pe_fld (pv 3) rfl) rfl) pa_nil)) pa_nil)) rfl)
        (pss_cons (ps_fld (pv 0) (pe_callTy call_tuple_of rfl (z_tuple T) (by decide +kernel) (pa_cons (pe_fld (pe_fld (pv 3) rfl) rfl) pa_nil)) rfl)
        (pss_one (ps_fld (pv 0) (pe_callTy call_tuple_of rfl (z_tuple T) (by decide +kernel) (pa_cons (pe_fld (pv 3) rfl) pa_nil)) rfl)))))))), ?_⟩, k_Test T, g_Test T⟩
  obtain ⟨a, dx, A, L, n, fl, rfl, ha, rfl, P, q⟩ := h
  have cT := c_Test T
  refine q_fldA (Ev.any (ev_var rfl)) (ev_var (v := .ref a) rfl) ha cT (n_Test_name T) (show 0 < 1000 by decide) fun _ fs1 H1 l1 a1 c1 => ?_
  refine q_fldA (Ev.any (ev_var rfl)) (ev_var (v := .ref a) rfl) a1 cT (n_Test_body T) (show _ < 1000 by simp at l1; omega) fun _ fs2 H2 l2 a2 c2' => ?_
  have c2 := c1.trans c2'
  have P2 := P.oth ha c2
  have rd : ∀ {H' : Hp} {σ : L2.St}, PInv K H' A L n 0 0 fl → σ[3]? = some (some (.ref A.r)) → Ev (tFld K (tFld K (tVar 3) "mentions") "family") σ H' (.ref A.fa) ∧ Ev (tFld K (tFld K (tVar 3) "mentions") "flags") σ H' (.ref A.ga) ∧ Ev (tFld K (tFld K (tVar 3) "mentions") "called") σ H' (.ref A.ca) ∧ Ev (tFld K (tFld K (tVar 3) "mentions") "checked") σ H' (.ref A.ka) ∧ Ev (tFld K (tVar 3) "written") σ H' (.ref A.wa) := fun {H' σ} P h => by
    obtain ⟨_, _, m, wr⟩ := rd_fld T P (ev_var (v := .ref A.r) h)
    exact ⟨ev_fld m P.m (c_Mentions T) (n_Mentions_family T) rfl, ev_fld m P.m (c_Mentions T) (n_Mentions_flags T) rfl, ev_fld m P.m (c_Mentions T) (n_Mentions_called T) rfl, ev_fld m P.m (c_Mentions T) (n_Mentions_checked T) rfl, wr⟩
  refine q_fldA (Ev.any (rd P2 rfl).1) (ev_var (v := .ref a) rfl) a2 cT (n_Test_family T) (show _ < 1000 by simp at l1; omega) fun _ fs3 H3 l3 a3 c3' => ?_
  have c3 := c2.trans c3'
  have P3 := P.oth ha c3
  refine q_fldA (any_srt (xs := fl.map S) (rd P3 rfl).2.1 (by rw [P3.g.1, List.map_map]; rfl) (by rw [List.length_map]; have := P3.g.2; omega)) (ev_var (v := .ref a) rfl) a3 cT (n_Test_flags T) (show _ < 1000 by simp at l1; omega) fun _ fs4 H4 l4 a4 c4' => ?_
  have c4 := c3.trans c4'
  have P4 := P.oth ha c4
  obtain ⟨cs, z1, z2⟩ := P4.c
  refine q_fldA (any_srt (xs := cs.map S) (rd P4 rfl).2.2.1 (by rw [z1, List.map_map]; rfl) (by rw [List.length_map]; have := P4.b.1; omega)) (ev_var (v := .ref a) rfl) a4 cT (n_Test_called T) (show _ < 1000 by simp at l1; omega) fun _ fs5 H5 l5 a5 c5' => ?_
  have c5 := c4.trans c5'
  have P5 := P.oth ha c5
  obtain ⟨ks, y1, y2⟩ := P5.k
  refine q_fldA (any_tup (rd P5 rfl).2.2.2.1 y1) (ev_var (v := .ref a) rfl) a5 cT (n_Test_checked T) (show _ < 1000 by simp at l1; omega) fun _ fs6 H6 l6 a6 c6' => ?_
  have c6 := c5.trans c6'
  have P6 := P.oth ha c6
  obtain ⟨ws, x1, x2⟩ := P6.w
  exact s_fldA (any_tup (rd P6 rfl).2.2.2.2 x1) (ev_var (v := .ref a) rfl) a6 cT (n_Test_lines T) (show _ < 1000 by simp at l1; omega) fun _ fs7 H7 l7 a7 c7' => q H7 (c6.trans c7')
end WP
set_option Elab.async false
set_option linter.all false
set_option maxRecDepth 100000
set_option maxHeartbeats 4000000
/-! Test.read -/
namespace WP
open PySem PySem.Spec PyProof.Rows L2 Evl SX PySem.WSup WChn
variable {w : World} {K : PySem.W.Frag} {mg : Str → Option Value} {base : Heap}
section
variable {X : Cx} {CX : CXT} {k j i : Nat} {C : Addr} {sp : Sp} {E : XK} {x y : Str} {p pos : Pos} {e : Expr} {es : List Expr} {t : TA} {tm : L2.St → Hp → XK → Prop}
/-- C(..), C a class that a local holds -/
def tMkL (i : Nat) (C : Addr) (sp : Sp) (E : XK) (t : TA) : TE := fun σ H Q => σ[i]? = some (some (.ref C)) ∧ StX.tMakeR C sp E t σ H Q
theorem wkL (c : MakX X.prog X.w X.K X.mg X.base CX k y C sp) (hr : Room j X.A) (hk : k + 1 ≤ j) (hx : Passes CX X E) (hN : X.N[i]? = some x) (hv : Vis X.env.scope x) (ha : L2.PA X (e :: es) t)
    (hdb : (x == ("__debug__" : Str)) = false := by decide) (hcd : (x == ("__classdict__" : Str)) = false := by decide)
    (he : starEach (e :: es) X.env = (false, eval e X.env) :: starEach es X.env := by rfl) (hpl : (backTo pos (starEach es X.env)).any (·.1) = false := by rfl) : PE X (.Call (.Name x p) (e :: es) [] pos) (tMkL i C sp E t) := by
  obtain ⟨f, F, M, _⟩ := c
  refine ⟨fun pins s σ H Q I h => ?_⟩
  obtain ⟨hs, ht⟩ := h
  refine wpAny_Call_Name_kw (thn ((pe_var (pos := p) hN hv hdb hcd).run pins s σ H (fun v H1 => v = .ref C ∧ H1 = H) I ⟨.ref C, hs, rfl, rfl⟩) fun u s1 ⟨v, H1, I1, r1, q1⟩ => ?_)
  obtain ⟨rfl, rfl⟩ := q1
  cases r1
  refine PySem.W.callWith_K (h₀ := X.base) I.ok.mod.kin M.kp (thn (ha.run pos pins s1 σ _ _ I1 ht) fun us s2 ⟨vs, H2, I2, r, q⟩ => ⟨I2.kIn, ?_⟩) he hpl
  exact StX.run_makeR M F (hr.mono hk) hx I2 r q
theorem PMk5.old (h : L2H.PMk5 X e tm) : L2.PMk X e tm := fun pins s σ H Q I q => thn (h pins s σ H Q I q) fun u s' z => by
  obtain ⟨⟨a, oe, vs, sI, H', cls, d, rfl, J, k, hn, he, hz, hd, h1, nb, os, ag, rs, q⟩, _⟩ := z
  exact ⟨a, oe, vs, sI, H', cls, d, rfl, J, k, hn, he, hz.zc, hd, h1, nb, os, ag, rs, q⟩
end
theorem passE2 {P : Program} {w : World} {K : PySem.W.Frag} {mg : Str → Option Value} {base : Heap} {N : List Str} {q : Str} {sc : Scope} {f : Addr} {cdv : Value} {A : Around} {outer : List Env} {s : Shared} {H : Hp} {E : XK} :
    Passes (L2.CX P w) (cxOf (L2.CX P w) P w K mg base N q sc f cdv A outer s H E) E := L2.passes_call (L2.takes_of rfl rfl rfl rfl) (fun _ _ _ _ h => h)
theorem asg_d {te : TE} {tz : TS} {D : Ends} {σ : L2.St} {H : Hp} {i : Nat} (h : te σ H fun v H1 => tz D (σ.set i (some v)) H1) : tSeq (tAsg te (gName i)) tz D σ H := h
theorem asg_g {te : TE} {tz : TS} {D : Ends} {σ : L2.St} {H : Hp} {g : TG} (h : te σ H fun v H1 => g v σ H1 fun σ' H2 => tz D σ' H2) : tSeq (tAsg te g) tz D σ H := h
theorem s_retD {te : TE} {D : Ends} {σ : L2.St} {H : Hp} (h : te σ H fun v H1 => D.rt v H1) : tRet te D σ H := h
def sp_Test_read : Sp := sp3 fun cl tx fam H Q E => ∃ (fa : Addr) (x : List Nat) (Ls : List LK) (L : List (List Nat)), cl = .ref (He.ga K "Test") ∧ tx = .str (S x) ∧ Txt.split (S x) (S [10]) = L.map S ∧ x.length + 2 ≤ sizeLine ∧ Txs Ls L ∧ Ls[0]? = some .test ∧ fam = .ref fa ∧ FamH K H fa ∧
  (∀ (v : V) (st' : LS) H', Runs Ls st0 st' → st'.stk = [] → st'.many = Ls.length → Ex H H' → Q v H') ∧
  (∀ (st' : LS) (dd : Addr) H', Runs Ls st0 st' → Stuck Ls st' → (st'.stk ≠ [] ∨ st'.many < Ls.length) → H' dd = some (.xd [(("at" : Str), .int (st'.many : Int))]) → Ex H H' → E (.ref (He.ga K "BadTest")) (some dd) H')
theorem o_Test_read (T : TT K mg) : FnR PW w K mg base (L2.CX PW w) 59 (d_Test_read.at_ K) (sp_Test_read (K := K)) := by
  obtain ⟨fd, F⟩ := f_Test_read T
  refine mk3 F (b_Test_read F) sc_Test_read fun a b c cdv A outer s H Q E hr h => have r1 := room1 hr; ⟨_, (pss_cons (ps_if (pt_not (pt_val (pe_callB call_isi rfl (z_isinstance T) (by decide +kernel) (pa_cons (pv 1) (pa_cons (pe_bltn (v := .ty "str") (u := .type "str") rfl (z_str T) (by decide +kernel) rfl) pa_nil))))) (pss_one ps_never) pss_nil)
        (pss_cons (ps_set (i := 3) sc_Test_read.nd rfl (Or.inl rfl) (pe_bm PySem.F.plainAttrs_str PySem.F.slot_str_split PySem.F.type_str_split mt_split (pv 1) (pa_cons pe_str pa_nil)))
        (pss_cons (ps_set (i := 4) sc_Test_read.nd rfl (Or.inl rfl) (wk (o_RowReader_init T) hr (by decide) pass0 (pa_cons (pv 3) (pa_cons (pv 2) pa_nil))))
        (pss_cons (ps_asg (wc (o_read_first T) hr (by decide) passE2 (pa_cons (pv 4) pa_nil)) (pg_tup rfl (pgs_cons (pg_name (i := 5) sc_Test_read.nd rfl (Or.inl rfl)) (pgs_cons (pg_name (i := 6) sc_Test_read.nd rfl (Or.inl rfl)) pgs_nil))))
        (pss_cons (ps_if (pt_cmpR op_lt (pe_fld (pv 4) rfl) (pe_callB (id := "len") call_len_seq rfl (z_len T) (by decide +kernel) (pa_cons (pv 3) pa_nil)) (nomark _)) (pss_one (L2.ps_raise rfl (L2.takes_of rfl rfl rfl rfl) (PMk5.old (pmk_at (x_BadTest T) r1 rfl (pa_cons (pe_fld (pv 4) rfl) pa_nil))))) pss_nil)
        (pss_one (ps_ret (wkL (i := 0) (o_Test_init T) hr (by decide) pass0 rfl (Or.inl rfl) (pa_cons (pv 5) (pa_cons (pv 6) (pa_cons (pv 4) pa_nil))))))))))), ?_⟩
  obtain ⟨fa, x, Ls, L, rfl, rfl, hsp, hxl, tx, hL0, rfl, hfa, q1, q2⟩ := h
  refine q_when (b := false) (et_not (et_B (ev_isi (ev_var rfl) (fun H1 _ => .base (.str _)) (b := true) rfl))) (fun hb => (Bool.false_ne_true hb).elim) fun _ H1 e1 => ?_
  refine q_asgL (xs := stV L) (fun H2 e2 Q' q' => ⟨.str (S x), rfl, rfl, ?_⟩) fun la H2 hla e2 h2 => ?_
  · refine ⟨S x, S [10], rfl, rfl, rfl, by rw [S_len]; exact hxl, fun p hp => ?_⟩
    rw [hsp, List.map_map]
    exact q' p _ hp (Ex.new hp) upd_same
  refine asg_d (go_k (ea_cons (ev_var (v := .ref la) rfl) (ea_cons (ev_var (v := .ref fa) rfl) ea_nil)) fun H3 e3 r dr hr0 hdr hne => ?_)
  have e4 : Ex H3 (upd (upd H3 dr (.own r)) r (.ins (He.ga K "RowReader") dr [])) := (Ex.new hdr).trans (Ex.new (by rw [upd_ne (Ne.symm hne)]; exact hr0))
  have hfa4 := hfa.ex (((e1.trans e2).trans e3).trans e4)
  refine ⟨_, _, _, rfl, r, dr, la, fa, L, rfl, upd_same, rfl, (e3.trans e4) _ _ h2, rfl, hfa4, fun A H5 ⟨i1, i2, i3, i4, i5, i6, i7, i8⟩ c5 P => ⟨rfl, ?_⟩⟩
  subst i1 i2 i3
  refine asg_g (go_f (ea_cons (ev_var (v := .ref A.r) rfl) ea_nil) fun H6 e6 => ?_)
  have all : ∀ {H7 : Hp}, Ch (Mr A) H6 H7 → Ex H H7 := fun {H7} c7 x o e => by
    have e3' := ((e1.trans e2).trans e3) _ _ e
    have e4' := e4 _ _ e3'
    have n : ¬ Mr A x := by
      rintro (z | z | z | z | z) <;> rw [z] at e3' e4'
      · cases e3'.symm.trans hr0
      · cases e4'.symm.trans i5
      · cases e4'.symm.trans i6
      · cases e4'.symm.trans i7
      · cases e4'.symm.trans i8
    exact c7 _ _ (e6 _ _ (c5 _ _ e4' (fun z => n (.inl z)))) n
  refine ⟨_, rfl, A, Ls, L, rfl, tx, hL0, P.ex e6, fun p rw st' H7 r7 k7 m7 P7 hp7 c7 => ?_, fun st' dd H7 r7 s7 b7 h7 c7 => ?_⟩
  · refine ⟨p, _, rfl, st_of hp7, rfl, ?_⟩
    refine ⟨_, _, rfl, _, _, rfl, rfl, ?_⟩
    refine q_when (b := decide (st'.many < L.length)) (et_is (et_test (ev_op (rd_fld T P7 (ev_var (v := .ref A.r) rfl)).2.1 (ev_len (ev_var (v := .ref A.la) rfl) (sq_of P7.l)) rv_lt)) ?_) (fun hb H8 e8 => ?_) fun hb H8 e8 => ?_
    · simp [stV]
    · have hb := of_decide_eq_true hb
      refine (rd_fld T (P7.ex e8) (ev_var (v := .ref A.r) rfl)).2.1 H8 (Ex.refl _) _ fun H9 e9 => ⟨_, rfl, fun d hd => ?_⟩
      refine q2 st' d _ r7 (fun l _ hs => ?_) (.inr (by rw [← tx.len]; exact hb)) upd_same (all (c7.trans ((Ch.of_ex (e8.trans e9)).fresh hd)))
      obtain ⟨_, b0, bb, hk, _⟩ := hs
      rw [k7] at hk
      simp at hk
    · have hb := of_decide_eq_false hb
      have hm : st'.many = Ls.length := by have := tx.len; omega
      refine s_retD ⟨rfl, go_k (ea_cons (ev_var (v := .str (S [97])) rfl) (ea_cons (ev_var (v := .ref rw) rfl) (ea_cons (ev_var (v := .ref A.r) rfl) ea_nil))) fun H9 e9 t dt ht hdt hne2 => ?_⟩
      have e10 : Ex H9 (upd (upd H9 dt (.own t)) t (.ins (He.ga K "Test") dt [])) := (Ex.new hdt).trans (Ex.new (by rw [upd_ne (Ne.symm hne2)]; exact ht))
      refine ⟨_, _, _, _, rfl, t, dt, A, L, st'.many, st'.fl, rfl, upd_same, rfl, P7.ex ((e8.trans e9).trans e10), fun H' c => ⟨rfl, ?_⟩⟩
      refine q1 _ st' H' r7 k7 hm (all (c7.trans ?_))
      intro x o e n
      have e' := (e8.trans e9) _ _ e
      exact c _ _ (e10 _ _ e') (ne_of_none e' ht)
  · refine q2 st' dd H7 r7 s7 (.inl ?_) h7 ?_
    · obtain ⟨s, b, e⟩ := b7
      rw [e]
      simp
    · exact all c7
end WP
set_option Elab.async false
set_option linter.all false
set_option maxRecDepth 100000
set_option maxHeartbeats 4000000
/-! _law_refused -/
namespace WP
open PySem PySem.Spec PyProof.Rows L2 Evl SX PySem.WSup WChn
variable {w : World} {K : PySem.W.Frag} {mg : Str → Option Value} {base : Heap}
section
variable {X : Cx} {CX : CXT} {k j i : Nat} {C p g : Addr} {mc : Value} {sp : Sp} {E : L2.St → XK} {o e : Expr} {es : List Expr} {f m : Str} {pos apos : Pos} {ta : TE} {t : TA} {pl : Sem Bool} {pins : List (Addr × Obj)} {σ : L2.St} {H : Hp} {s : Shared}
theorem run_cmP {q : Addr} {Q : VK} {us : List Value} {vs : List V} (F : FnR X.prog X.w X.K X.mg X.base CX k g sp) (hr : Room k X.A) (hx : L2.PassesAt CX X σ (E σ)) (I : Inv X ((q, PySem.W.methodObj (.ref g) (.ref C)) :: pins) σ H s)
    (r : Vals vs us) (h : sp (.ref C :: vs) H Q (E σ)) : wpAny (model X.prog X.w) X.A (call (.ref q) us) (EP X pins σ Q) X.xe s := by
  have z : wpAny (model X.prog X.w) X.A (call (.ref q) us) (EP X ((q, PySem.W.methodObj (.ref g) (.ref C)) :: pins) σ Q) X.xe s :=
    wpAny_call (PySem.W.method_call (ClX.pin_at I) (run_fnRP (us := .ref C :: us) (vs := .ref C :: vs) F hr hx I (.cons rfl r) h))
  exact thn z fun _ _ y => ClX.unpinE y
def tCMethP (C : Addr) (sp : Sp) (E : L2.St → XK) (ta : TE) (t : TA) : TE := fun σ H Q => ta σ H fun x H1 => x = .ref C ∧ t σ H1 fun vs H2 => sp (.ref C :: vs) H2 Q (E σ)
theorem pe_cmethP (he : PE X o ta) (r : ClX.CRead X.K C mc) (c : ClX.CMet X.K C mc m p g) (F : FnR X.prog X.w X.K X.mg X.base CX k g sp) (hr : Room k X.A) (hx : ∀ σ, L2.PassesAt CX X σ (E σ)) (ha : L2.PA X (e :: es) t)
    (hst : starEach (e :: es) X.env = (false, eval e X.env) :: starEach es X.env := by rfl) (hpl : (backTo pos (starEach es X.env)).any (·.1) = false := by rfl)
    (ht : eval (.Call (.Attribute o m apos) (e :: es) [] pos) X.env = (do
      let ov ← eval o X.env
      standAt apos.atName
      let (f, first) ← holding [ov] (getMethod ov m pl)
      callWith pos f first (backTo pos (starEach (e :: es) X.env)) (backToKw pos (keywordEach [] X.env))) := by rfl) :
    PE X (.Call (.Attribute o m apos) (e :: es) [] pos) (tCMethP C sp E ta t) := by
  refine ⟨fun pins s σ H Q I h => ?_⟩
  refine PySem.W.methodCall_KW (pl := pl) (thn (he.run pins s σ H _ I h) fun u s1 ⟨x, H1, I1, rx, ex, q⟩ => ?_) ht
  subst ex
  obtain rfl : u = Value.ref C := rx
  refine ClX.getmethcm_ok I1 r c fun s2 I2 => ?_
  refine ClX.callwith_cm I2 (ClX.base_none I1 (Nat.le_refl _)) c.fi (thn (ha.run pos _ s2 σ H1 _ I2 q) fun us s3 ⟨vs, H2, I3, rv, q2⟩ => ⟨⟨ClX.pin_at I3, I3.kIn⟩, ?_⟩) hst hpl
  exact run_cmP F hr (hx σ) I3 rv q2
end
theorem r_Test (T : TT K mg) : ClX.CRead K (He.ga K "Test") (.type "type") ∧ ClX.CMet K (He.ga K "Test") (.type "type") "read" (He.ma K (He.ga K "Test") "read") (d_Test_read.at_ K) := by
  obtain ⟨_, h1⟩ := He.ba T.says.ext
  obtain ⟨_, h2⟩ := He.ba h1
  obtain ⟨_, h3⟩ := He.ba h2
  obtain ⟨_, h4⟩ := He.ba h3
  obtain ⟨b4, h5⟩ := He.ba h4
  obtain ⟨_, h6⟩ := He.ba h5
  obtain ⟨b6, h7⟩ := He.ba h6
  obtain ⟨b7, h8⟩ := He.ba h7
  obtain ⟨c1, c2⟩ := He.ba b4
  exact ⟨⟨c1, He.eqO_ok c2⟩, He5.cmet_of b6 b7⟩
/-- what the refusal says of a text: none, or the first line that does not stand -/
def Due (Ls : List LK) (v : V) : Prop := (∃ st', Runs Ls st0 st' ∧ st'.stk = [] ∧ st'.many = Ls.length ∧ v = .non) ∨ ∃ st', Runs Ls st0 st' ∧ Stuck Ls st' ∧ (st'.stk ≠ [] ∨ st'.many < Ls.length) ∧ v = .int (st'.many : Int)
theorem seq_d {t u : TS} {D : Ends} {σ : L2.St} {H : Hp} (h : t { D with nx := u D } σ H) : tSeq t u D σ H := h
def sp_law_refused : Sp := sp2 fun tx fam H Q _ => ∃ (fa : Addr) (x : List Nat) (Ls : List LK) (L : List (List Nat)), tx = .str (S x) ∧ Txt.split (S x) (S [10]) = L.map S ∧ x.length + 2 ≤ sizeLine ∧ Txs Ls L ∧ Ls[0]? = some .test ∧ fam = .ref fa ∧ FamH K H fa ∧
  ∀ (v : V) H', Due Ls v → Ex H H' → Q v H'
theorem o__law_refused (T : TT K mg) : CalX PW w K mg base CX0 60 "_law_refused" (sp_law_refused (K := K)) := by
  obtain ⟨fd, F⟩ := f__law_refused T
  refine ⟨_, mk2 F (b__law_refused F) sc__law_refused fun a b cdv A outer s H Q E hr h => ⟨_, pss_cons (ps_set (i := 2) sc__law_refused.nd rfl (Or.inl rfl) pe_non)
    (pss_cons (ps_try_as (i := 3) (tb := fun W => tDrop (tCMethP (He.ga K "Test") (sp_Test_read (K := K)) (L2.WE W) (tC (.ref (He.ga K "Test"))) (tCons (tVar 0) (tCons (tVar 1) tNil)))) (ts := fun a cls d => tAsg (tAtE (He.ga K "BadTest") 3 a cls d) (gName 2)) (Wout := fun _ _ _ _ => False) rfl rfl sc__law_refused.nd rfl rfl ⟨rfl, by decide, .inl (g_BadTest T)⟩ takes0
      (fun W pn xe tk _ => pss_one (ps_expr (pe_cmethP (wgr (g_Test T)) (r_Test T).1 (r_Test T).2 (o_Test_read T) hr (fun σ => L2.passAt tk σ) (pa_cons (pv 0) (pa_cons (pv 1) pa_nil)))))
      (fun a oe cls d pn hz hf => pss_one (ps_set (i := 2) sc__law_refused.nd rfl (Or.inl rfl) (pe_at (x_BadTest T) List.mem_cons_self hz hf (pv 3)))))
    (pss_one (ps_ret (pv 2)))), ?_⟩, g__law_refused T, F.kp⟩
  obtain ⟨fa, x, Ls, L, rfl, hsp, hxl, tx, hL0, rfl, hfa, q⟩ := h
  refine q_asg (v := .non) ev_c fun H1 e1 => ?_
  refine seq_d ⟨rfl, _, rfl, _, rfl, _, _, _, rfl, fa, x, Ls, L, rfl, rfl, hsp, hxl, tx, hL0, rfl, hfa.ex e1, fun v st' H' r k m e => ?_, fun st' dd H' r k m hd e => ?_⟩
  · exact ⟨_, rfl, q _ _ (.inl ⟨st', r, k, m, rfl⟩) (e1.trans e)⟩
  · refine ⟨true, (x_BadTest T).te, fun _ a ha => ?_, fun h => by cases h⟩
    exact ⟨_, rfl, rfl, rfl, dd, _, rfl, hd, _, rfl, q _ _ (.inr ⟨st', r, k, m, rfl⟩) (e1.trans e)⟩
end WP
set_option Elab.async false
set_option linter.all false
set_option maxRecDepth 100000
set_option maxHeartbeats 4000000
/-! Family.plain() -/
namespace WP
open PySem PySem.Spec PyProof.Rows L2 Evl SX PySem.WSup WChn
variable {w : World} {K : PySem.W.Frag} {mg : Str → Option Value} {base : Heap}
section
variable {X : Cx} {CX : CXT} {k j i : Nat} {C p g : Addr} {mc : Value} {sp : Sp} {E : XK} {o e : Expr} {es : List Expr} {f m : Str} {pos apos : Pos} {ta : TE} {t : TA} {pl : Sem Bool} {pins : List (Addr × Obj)} {σ : L2.St} {H : Hp} {s : Shared}
/-- C.m is a staticmethod: its record at p, its def at g -/
structure SMet (K : PySem.W.Frag) (C : Addr) (mc : Value) (m : Str) (p g : Addr) : Prop where
  at_ : PySem.W.findCls K (.ref C) mc m = some (.get (.builtin "staticmethod.__get__") (.ref p) .none (.ref C))
  rc : ∃ rest, PySem.W.recIn K p "staticmethod" = some (.ref g :: rest)
  kp : PySem.W.keepIn K (.ref g) = true
  hd : PySem.W.handedIn (.ref g) = true
def tSm (C : Addr) (sp : Sp) (E : XK) (ta : TE) : TE := fun σ H Q => ta σ H fun x H1 => x = .ref C ∧ sp [] H1 Q E
theorem w_sm (he : PE X o ta) (r : ClX.CRead X.K C mc) (c : SMet X.K C mc m p g) (F : FnR X.prog X.w X.K X.mg X.base CX k g sp) (hr : Room j X.A) (hk : k ≤ j) (hx : Passes CX X E)
    (ht : eval (.Call (.Attribute o m apos) [] [] pos) X.env = (do
      let ov ← eval o X.env
      standAt apos.atName
      let (f, first) ← holding [ov] (getMethod ov m pl)
      callWith pos f first (backTo pos (starEach [] X.env)) (backToKw pos (keywordEach [] X.env))) := by rfl) :
    PE X (.Call (.Attribute o m apos) [] [] pos) (tSm C sp E ta) := by
  refine ⟨fun pins s σ H Q I h => ?_⟩
  refine PySem.W.methodCall_KW (pl := pl) (thn (he.run pins s σ H _ I h) fun u s1 ⟨x, H1, I1, rx, ex, q⟩ => ?_) ht
  subst ex
  obtain rfl : u = Value.ref C := rx
  obtain ⟨rest, hp⟩ := c.rc
  refine PySem.W.method_cls I1.kIn r.ga (PySem.W.cls_bind I1.kIn r.rd c.at_ ?_)
  refine wpAny_call (PySem.W.sm_get (s := { s1 with toks := s1.toks + 1 }) I1.kIn hp (PySem.W.handed_on c.hd ?_))
  have I2 := I1.tok (s1.toks + 1)
  exact PySem.W.callWith_K0 I2.kIn c.kp (wpAny_call (run_fnR (us := []) (vs := []) F (hr.mono hk) hx I2 .nil q))
end
theorem r_Family (T : TT K mg) : ClX.CRead K (He.ga K "Family") (.type "type") ∧ SMet K (He.ga K "Family") (.type "type") "plain" (He.ma K (He.ga K "Family") "plain") (d_Family_plain.at_ K) := by
  obtain ⟨_, h1⟩ := He.ba T.says.ext
  obtain ⟨_, h2⟩ := He.ba h1
  obtain ⟨_, h3⟩ := He.ba h2
  obtain ⟨b3, h4⟩ := He.ba h3
  obtain ⟨_, h5⟩ := He.ba h4
  obtain ⟨b5, h6⟩ := He.ba h5
  obtain ⟨_, h7⟩ := He.ba h6
  obtain ⟨_, h8⟩ := He.ba h7
  obtain ⟨b8, h9⟩ := He.ba h8
  obtain ⟨b9, _⟩ := He.ba h9
  obtain ⟨c1, c2⟩ := He.ba b3
  obtain ⟨d1, d2⟩ := He5.wrapB_ok b5
  exact ⟨⟨c1, He.eqO_ok c2⟩, ⟨d1, d2, b8, b9⟩⟩
def sp_Family_plain : Sp := sp0 fun H Q _ => ∀ fa H', H fa = none → Ex H H' → FamH K H' fa → Q (.ref fa) H'
theorem o_Family_plain (T : TT K mg) : FnR PW w K mg base CX0 3 (d_Family_plain.at_ K) (sp_Family_plain (K := K)) := by
  obtain ⟨fd, F⟩ := f_Family_plain T
  refine mk0 F (b_Family_plain F) sc_Family_plain fun cdv A outer s H Q E hr q => ⟨_, (pss_one (ps_ret (wk (o_Family_init T) hr (by decide) pass0 (pa_cons (pe_tup pa_nil) pa_nil)))), ?_⟩
  refine s_retD ?_
  refine ⟨show 0 ≤ sizeLine by decide, fun p hp => ?_⟩
  intro x dx hx hdx hne
  have e1 : Ex H (upd H p (.tup [])) := Ex.new hp
  have e2 : Ex (upd H p (.tup [])) (upd (upd (upd H p (.tup [])) dx (.own x)) x (.ins (He.ga K "Family") dx [])) := (Ex.new hdx).trans (Ex.new (by rw [upd_ne (Ne.symm hne)]; exact hx))
  refine ⟨_, _, rfl, x, dx, p, rfl, upd_same, rfl, e2 _ _ upd_same, fun H' c f => ⟨rfl, ?_⟩⟩
  refine q x H' (fresh_back e1 hx) (fun y o e => ?_) f
  exact c _ _ (e2 _ _ (e1 _ _ e)) (ne_of_none (e1 _ _ e) hx)
end WP
set_option Elab.async false
set_option linter.all false
set_option maxRecDepth 100000
set_option maxHeartbeats 4000000
/-! the law's lines: texts and tokens -/
namespace WP
open PySem PySem.Spec PyProof.Rows L2 Evl SX
theorem dbl_eq : dblL = [[61, 61], [33, 61], [60, 61], [62, 61]] := by decide
theorem sng_eq : sngL = [[40], [41], [91], [93], [44], [61], [60], [62]] := by decide
def stp (p : Nat → Bool) (r : List Nat) : Prop := ∀ c t, r = c :: t → p c = false
theorem stp_nil {p : Nat → Bool} : stp p [] := fun _ _ e => by cases e
theorem stp_cons {p : Nat → Bool} {c : Nat} {r : List Nat} (h : p c = false) : stp p (c :: r) := fun _ _ e => by cases e; exact h
theorem tw_app {p : Nat → Bool} {r : List Nat} (hr : stp p r) : ∀ {w : List Nat}, w.all p = true → (w ++ r).takeWhile p = w
  | [], _ => by
    cases r with
    | nil => rfl
    | cons c t => rw [List.nil_append, List.takeWhile_cons, hr c t rfl]; rfl
  | a :: w, h => by
    rw [List.all_cons, Bool.and_eq_true] at h
    rw [List.cons_append, List.takeWhile_cons, if_pos h.1, tw_app hr h.2]
theorem tk_of {c : Nat} {w r : List Nat} {ts : List (List Nat)} (hc : c ≠ 32) (e : tokC c (w ++ r) = c :: w) (h : Tk r ts) : Tk (c :: (w ++ r)) ((c :: w) :: ts) := by
  have e' : tokAt (c :: (w ++ r)) = c :: w := e
  have z := Tk.tok (c := c) (l := w ++ r) (ts := ts) hc (by rw [e']; simp) (by rw [e']; simpa using h)
  rw [e'] at z
  exact z
theorem tk_word {w r : List Nat} {ts : List (List Nat)} (h0 : w ≠ []) (hw : w.all alp = true) (hr : stp alp r) (h : Tk r ts) : Tk (w ++ r) (w :: ts) := by
  cases w with
  | nil => exact absurd rfl h0
  | cons c w =>
    have hc : alp c = true := by
      rw [List.all_cons, Bool.and_eq_true] at hw
      exact hw.1
    refine tk_of (fun z => by rw [z] at hc; exact absurd hc (by decide)) ?_ h
    unfold tokC
    rw [if_pos hc, ← List.cons_append]
    exact tw_app hr hw
theorem dig_alp {c : Nat} (h : dig c = true) : alp c = false := by
  simp only [dig, Bool.and_eq_true, decide_eq_true_eq] at h
  simp only [alp, low, cap, Bool.or_eq_false_iff, Bool.and_eq_false_iff, decide_eq_false_iff_not]
  omega
theorem tk_dig {w r : List Nat} {ts : List (List Nat)} (h0 : w ≠ []) (hw : w.all dig = true) (hr : stp dig r) (h : Tk r ts) : Tk (w ++ r) (w :: ts) := by
  cases w with
  | nil => exact absurd rfl h0
  | cons c w =>
    have hc : dig c = true := by
      rw [List.all_cons, Bool.and_eq_true] at hw
      exact hw.1
    refine tk_of (fun z => by rw [z] at hc; exact absurd hc (by decide)) ?_ h
    unfold tokC
    rw [if_neg (by rw [dig_alp hc]; decide), if_pos hc, ← List.cons_append]
    exact tw_app hr hw
theorem tk_neg {w r : List Nat} {ts : List (List Nat)} (h0 : w ≠ []) (hw : w.all dig = true) (hr : stp dig r) (h : Tk r ts) : Tk ((45 :: w) ++ r) ((45 :: w) :: ts) := by
  refine tk_of (by decide) ?_ h
  unfold tokC
  rw [if_neg (by decide), if_neg (by decide), if_pos rfl, tw_app hr hw, if_neg h0]
theorem tk_str {w r : List Nat} {ts : List (List Nat)} (hw : w.all low = true) (h : Tk r ts) : Tk ((34 :: (w ++ [34])) ++ r) ((34 :: (w ++ [34])) :: ts) := by
  refine tk_of (by decide) ?_ h
  unfold tokC
  have e : ((w ++ [34]) ++ r).takeWhile low = w := by
    rw [List.append_assoc]
    exact tw_app (stp_cons (by decide)) hw
  rw [if_neg (by decide), if_neg (by decide), if_neg (by decide), if_pos rfl, e, if_pos]
  rw [List.append_assoc, List.drop_left]
  rfl
theorem tk_sg {c : Nat} {r : List Nat} {ts : List (List Nat)} (hc : c = 40 ∨ c = 41 ∨ c = 44 ∨ c = 91 ∨ c = 93) (h : Tk r ts) : Tk (c :: r) ([c] :: ts) := by
  refine tk_of (w := []) ?_ ?_ h
  · rcases hc with rfl | rfl | rfl | rfl | rfl <;> decide
  · rw [List.nil_append]
    rcases hc with rfl | rfl | rfl | rfl | rfl <;> simp [tokC, dbl_eq, sng_eq, alp, low, cap, dig, List.take_succ_cons]
theorem tk_eq1 {r : List Nat} {ts : List (List Nat)} (h : Tk r ts) : Tk (61 :: 32 :: r) ([61] :: ts) := by
  refine tk_of (w := []) (by decide) ?_ (.sp h)
  rw [List.nil_append]
  simp [tokC, dbl_eq, sng_eq, alp, low, cap, dig, List.take_succ_cons]
theorem tk_eqq {r : List Nat} {ts : List (List Nat)} (h : Tk r ts) : Tk (61 :: 61 :: r) ([61, 61] :: ts) := by
  refine tk_of (w := [61]) (by decide) ?_ h
  simp [tokC, dbl_eq, sng_eq, alp, low, cap, dig, List.take_succ_cons]
theorem all_mono {p q : Nat → Bool} (h : ∀ c, p c = true → q c = true) {w : List Nat} (hw : w.all p = true) : w.all q = true := List.all_eq_true.mpr fun c hc => h c (List.all_eq_true.mp hw c hc)
theorem low_alp {c : Nat} (h : low c = true) : alp c = true := by
  unfold alp
  rw [h]
  rfl
theorem isNm_low {n : List Nat} (h : isNm n = true) : n.all low = true ∧ n ≠ [] := by
  unfold isNm at h
  simp only [Bool.and_eq_true, Bool.not_eq_true', decide_eq_true_eq, decide_eq_false_iff_not] at h
  exact ⟨h.1.2, h.2.1⟩
theorem tk_nm {n r : List Nat} {ts : List (List Nat)} (hn : isNm n = true) (hr : stp alp r) (h : Tk r ts) : Tk (n ++ r) (n :: ts) :=
  tk_word (isNm_low hn).2 (all_mono (fun _ => low_alp) (isNm_low hn).1) hr h
theorem numL_all (n : Nat) : (TL.numL n).all dig = true := List.all_eq_true.mpr fun c hc => by
  have := TL.numL_digits n c hc
  simp only [dig, Bool.and_eq_true, decide_eq_true_eq]
  exact this
theorem isK_str {z : Str} (h : isK (.str z) = true) : z.cps.toList.length ≤ 8 ∧ z.cps.toList.all low = true := by
  have h : isW (.str z) 8 = true := by simpa [isK, isI] using h
  have h2 : (decide ((z.cps.toList.length : Int) ≤ 8) && z.cps.toList.all low) = true := h
  rw [Bool.and_eq_true, decide_eq_true_eq] at h2
  exact ⟨by omega, h2.2⟩
theorem tk_K {v : V} (hk : isK v = true) {c : Nat} {r : List Nat} {ts : List (List Nat)} (hc : c = 44 ∨ c = 41) (h : Tk (c :: r) ts) : Tk (kTxt v ++ (c :: r)) (kTxt v :: ts) := by
  have sa : stp alp (c :: r) := stp_cons (by rcases hc with rfl | rfl <;> decide)
  have sd : stp dig (c :: r) := stp_cons (by rcases hc with rfl | rfl <;> decide)
  cases v with
  | non => exact tk_word (w := [110, 111, 110, 101]) (by decide) (by decide) sa h
  | str z => exact tk_str (isK_str hk).2 h
  | int i =>
    cases i with
    | ofNat n =>
      rw [show Int.ofNat n = (n : Int) from rfl, kTxt_nn]
      exact tk_dig (TL.numL_ne n) (numL_all n) sd h
    | negSucc n =>
      rw [kTxt_neg]
      exact tk_neg (TL.numL_ne _) (numL_all _) sd h
  | _ => simp [isK, isI, isW] at hk
/-- parts of lines: short, no line feed, plain signs -/
def nice (c : Nat) : Bool := c != 10 && decide (c < 1000)
def Frg (x : List Nat) (m : Nat) : Prop := x.length ≤ m ∧ x.all nice = true
theorem Frg.app {x y : List Nat} {m k : Nat} (a : Frg x m) (b : Frg y k) : Frg (x ++ y) (m + k) := ⟨by rw [List.length_append]; have := a.1; have := b.1; omega, by rw [List.all_append, a.2, b.2]; rfl⟩
theorem Frg.le {x : List Nat} {m k : Nat} (a : Frg x m) (h : m ≤ k) : Frg x k := ⟨Nat.le_trans a.1 h, a.2⟩
theorem Frg.nl {x : List Nat} {m : Nat} (a : Frg x m) : 10 ∉ x := fun z => absurd (List.all_eq_true.mp a.2 10 z) (by decide)
theorem low_nice {c : Nat} (h : low c = true) : nice c = true := by
  simp only [low, nice, Bool.and_eq_true, decide_eq_true_eq, bne_iff_ne, ne_eq] at h ⊢
  omega
theorem dig_nice {c : Nat} (h : dig c = true) : nice c = true := by
  simp only [dig, nice, Bool.and_eq_true, decide_eq_true_eq, bne_iff_ne, ne_eq] at h ⊢
  omega
theorem frg_nm {n : List Nat} (h : isNm n = true) : Frg n 12 := ⟨isNm_len h, all_mono (fun _ => low_nice) (isNm_low h).1⟩
theorem frg_K {v : V} (h : isK v = true) : Frg (kTxt v) 31 := ⟨kTxt_len h, by
  cases v with
  | non => decide
  | str z =>
    show (34 :: (z.cps.toList ++ [34])).all nice = true
    rw [List.all_cons, List.all_append, all_mono (fun _ => low_nice) (isK_str h).2]
    decide
  | int i =>
    cases i with
    | ofNat n =>
      rw [show Int.ofNat n = (n : Int) from rfl, kTxt_nn]
      exact all_mono (fun _ => dig_nice) (numL_all n)
    | negSucc n =>
      rw [kTxt_neg, List.all_cons, all_mono (fun _ => dig_nice) (numL_all _)]
      decide
  | _ => simp [isK, isI, isW] at h⟩
theorem joinL_nl : ∀ (l : List (List Nat)), (∀ x ∈ l, x.all nice = true) → (TL.joinL [44, 32] l).all nice = true
  | [], _ => by decide
  | [p], h => h p (by simp)
  | p :: q :: r, h => by
    show (p ++ ([44, 32] ++ TL.joinL [44, 32] (q :: r))).all nice = true
    have h2 := joinL_nl (q :: r) fun x hx => h x (List.mem_cons_of_mem _ hx)
    rw [List.all_append, List.all_append, h p (by simp), h2]
    decide
theorem frg_call {n : List Nat} {vs : List V} (h : (Th.call n vs).wf) : Frg (callT n vs) 150 := by
  obtain ⟨hn, hv, hk⟩ := h
  have a := frg_nm hn
  have b : Frg (TL.joinL [44, 32] (vs.map kTxt)) 99 := by
    refine ⟨?_, joinL_nl _ fun x hx => ?_⟩
    · have := joinL_len (vs.map kTxt) 31 fun x hx => by
        obtain ⟨v, hv, rfl⟩ := List.mem_map.mp hx
        exact kTxt_len (hk v hv)
      rw [List.length_map] at this
      omega
    · obtain ⟨v, hv, rfl⟩ := List.mem_map.mp hx
      exact (frg_K (hk v hv)).2
  exact (a.app (Frg.app (x := [40]) ⟨Nat.le_refl _, by decide⟩ (b.app (y := [41]) (k := 1) ⟨Nat.le_refl _, by decide⟩))).le (by decide)
theorem tk_join {r : List Nat} {ts : List (List Nat)} (h : Tk r ts) : ∀ (vs : List V) (v : V), (∀ u ∈ v :: vs, isK u = true) → Tk (TL.joinL [44, 32] ((v :: vs).map kTxt) ++ (41 :: r)) (kTxt v :: (cm2 vs ++ ([41] :: ts)))
  | [], v, hk => tk_K (hk v (by simp)) (.inr rfl) (tk_sg (by simp) h)
  | u :: vs, v, hk => by
    show Tk ((kTxt v ++ ([44, 32] ++ TL.joinL [44, 32] ((u :: vs).map kTxt))) ++ (41 :: r)) _
    rw [List.append_assoc, List.append_assoc]
    exact tk_K (hk v (by simp)) (.inl rfl) (tk_sg (by simp) (.sp (tk_join h vs u fun x hx => hk x (List.mem_cons_of_mem _ hx))))
theorem tk_call {n : List Nat} {vs : List V} {r : List Nat} {ts : List (List Nat)} (wf : (Th.call n vs).wf) (h : Tk r ts) : Tk (callT n vs ++ r) ((Th.call n vs).toks ++ ts) := by
  obtain ⟨hn, hv, hk⟩ := wf
  show Tk ((n ++ (40 :: (TL.joinL [44, 32] (vs.map kTxt) ++ [41]))) ++ r) ((n :: [40] :: (ctoks vs ++ [[41]])) ++ ts)
  rw [List.append_assoc]
  refine tk_nm hn (stp_cons (by decide)) (tk_sg (by simp) ?_)
  show Tk ((TL.joinL [44, 32] (vs.map kTxt) ++ [41]) ++ r) ((ctoks vs ++ [[41]]) ++ ts)
  rw [List.append_assoc, List.append_assoc]
  cases vs with
  | nil => exact tk_sg (by simp) h
  | cons v vs => exact tk_join h vs v hk
/-! ### words, with a space behind them or at the end -/
theorem w1 {r : List Nat} {ts : List (List Nat)} (w : List Nat) (h : Tk r ts) (hw : (w.all alp && !w.isEmpty) = true := by decide) : Tk (w ++ (32 :: r)) (w :: ts) := by
  rw [Bool.and_eq_true, Bool.not_eq_true'] at hw
  exact tk_word (fun z => by rw [z] at hw; exact absurd hw.2 (by decide)) hw.1 (stp_cons (by decide)) (.sp h)
theorem wE (w : List Nat) (hw : (w.all alp && !w.isEmpty) = true := by decide) : Tk w [w] := by
  rw [Bool.and_eq_true, Bool.not_eq_true'] at hw
  have := tk_word (r := []) (fun z => by rw [z] at hw; exact absurd hw.2 (by decide)) hw.1 stp_nil .nil
  rwa [List.append_nil] at this
theorem d1 {r : List Nat} {ts : List (List Nat)} (h : Tk r ts) : Tk (50 :: 32 :: r) ([50] :: ts) := tk_dig (w := [50]) (by decide) (by decide) (stp_cons (by decide)) (.sp h)
theorem dE : Tk [49] [[49]] := tk_dig (w := [49]) (r := []) (by decide) (by decide) stp_nil .nil
theorem n1 {n r : List Nat} {ts : List (List Nat)} (hn : isNm n = true) (h : Tk r ts) : Tk (n ++ (32 :: r)) (n :: ts) := tk_nm hn (stp_cons (by decide)) (.sp h)
theorem nE {n : List Nat} (hn : isNm n = true) : Tk n [n] := by
  have := tk_nm (r := []) hn stp_nil .nil
  rwa [List.append_nil] at this
theorem cE {n : List Nat} {vs : List V} (wf : (Th.call n vs).wf) : Tk (callT n vs) (Th.call n vs).toks := by
  have := tk_call (r := []) wf .nil
  rwa [List.append_nil, List.append_nil] at this
/-! ### bounds of tokens -/
def TB (ws : List (List Nat)) (m : Nat) : Prop := ws.length ≤ m ∧ ∀ t ∈ ws, t.length ≤ 200
theorem tbn : TB [] 0 := ⟨Nat.le_refl _, fun _ h => by cases h⟩
theorem TB.cons {t : List Nat} {ws : List (List Nat)} {m : Nat} (a : TB ws m) (h : t.length ≤ 200) : TB (t :: ws) (m + 1) := ⟨Nat.succ_le_succ a.1, fun x hx => by
  rcases List.mem_cons.mp hx with e | hx
  · rw [e]; exact h
  · exact a.2 x hx⟩
theorem TB.ln {ws : List (List Nat)} {m : Nat} (a : TB ws m) (h : m ≤ 200) : LnB ws := ⟨Nat.le_trans a.1 h, a.2⟩
theorem tb_nm {n : List Nat} (h : isNm n = true) : n.length ≤ 200 := Nat.le_trans (isNm_len h) (by decide)
theorem cm2_tb : ∀ vs : List V, (∀ v ∈ vs, isK v = true) → TB (cm2 vs ++ [[41]]) (2 * vs.length + 1)
  | [], _ => tbn.cons (by decide)
  | v :: r, h => ((cm2_tb r fun x hx => h x (List.mem_cons_of_mem _ hx)).cons (Nat.le_trans (kTxt_len (h v (by simp))) (by decide))).cons (t := [44]) (by decide)
theorem tb_call {n : List Nat} {vs : List V} (wf : (Th.call n vs).wf) : TB (Th.call n vs).toks 10 := by
  obtain ⟨hn, hv, hk⟩ := wf
  have z : TB (ctoks vs ++ [[41]]) 8 := by
    cases vs with
    | nil => exact ⟨by decide, (tbn.cons (t := [41]) (by decide)).2⟩
    | cons v r =>
      have a := (cm2_tb r fun x hx => hk x (List.mem_cons_of_mem _ hx)).cons (Nat.le_trans (kTxt_len (hk v (by simp))) (by decide))
      refine ⟨Nat.le_trans a.1 ?_, a.2⟩
      rw [List.length_cons] at hv
      omega
  exact (z.cons (t := [40]) (by decide)).cons (tb_nm hn)
/-! ### the lines -/
structure LineT (x : List Nat) (l : LK) : Prop where
  wf : l.wf
  ln : LnB l.toks
  fr : Frg x 300
  tk : Tk x l.toks
  nt : l ≠ .test
theorem lt_ {x : List Nat} {l : LK} {m k : Nat} (wf : l.wf) (tb : TB l.toks m) (hm : m ≤ 200) (fr : Frg x k) (hk : k ≤ 300) (tk : Tk x l.toks) (nt : l ≠ .test) : LineT x l := ⟨wf, tb.ln hm, fr.le hk, tk, nt⟩
theorem frl (x : List Nat) (h : (decide (x.length ≤ 40) && x.all nice) = true := by decide) : Frg x 40 := by
  rw [Bool.and_eq_true, decide_eq_true_eq] at h
  exact h
section
variable {n o f c : List Nat} {vs : List V}
theorem l_end : LineT [101, 110, 100] .end_ := lt_ trivial (tbn.cons (by decide)) (by decide) (frl _) (by decide) (wE _) (by simp)
theorem l_except : LineT [101, 120, 99, 101, 112, 116, 32, 77, 105, 115, 117, 115, 101] .except_ := lt_ trivial ((tbn.cons (by decide)).cons (by decide)) (by decide) (frl _) (by decide) (w1 [101, 120, 99, 101, 112, 116] (wE [77, 105, 115, 117, 115, 101])) (by simp)
theorem l_else : LineT [101, 108, 115, 101] .else_ := lt_ trivial (tbn.cons (by decide)) (by decide) (frl _) (by decide) (wE _) (by simp)
theorem l_plain {w : List Nat} (h : (Pk.plain w).wf) : LineT w (.row (.plain w)) := by
  rcases id h with rfl | rfl | rfl | rfl <;> exact lt_ h (tbn.cons (by decide)) (by decide) (frl _) (by decide) (wE _) (by simp)
theorem l_leave {w : List Nat} (h : (Pk.leave w).wf) : LineT w (.row (.leave w)) := by
  rcases id h with rfl | rfl <;> exact lt_ h (tbn.cons (by decide)) (by decide) (frl _) (by decide) (wE _) (by simp)
theorem l_raises : LineT [114, 97, 105, 115, 101, 115, 32, 69, 114, 114, 111, 114] .raises_ := lt_ trivial ((tbn.cons (by decide)).cons (by decide)) (by decide) (frl _) (by decide) (w1 [114, 97, 105, 115, 101, 115] (wE [69, 114, 114, 111, 114])) (by simp)
theorem l_try : LineT [116, 114, 121] .try_ := lt_ trivial (tbn.cons (by decide)) (by decide) (frl _) (by decide) (wE _) (by simp)
theorem l_call (h : (Th.call c vs).wf) : LineT ([99, 97, 108, 108, 32] ++ callT c vs) (.row (.call c vs)) := lt_ h ((tb_call h).cons (by simp [Pk.word, wAssert])) (by decide) ((frl _).app (frg_call h)) (by decide) (w1 [99, 97, 108, 108] (cE h)) (by simp)
theorem l_chk (h : (Th.call c vs).wf) : LineT ([97, 115, 115, 101, 114, 116, 32, 110, 111, 116, 32] ++ callT c vs) (.row (.chk true (.su (.th (.call c vs))))) := lt_ h (((tb_call h).cons (by decide)).cons (by simp [Pk.word, wAssert])) (by decide) ((frl _).app (frg_call h)) (by decide) (w1 [97, 115, 115, 101, 114, 116] (w1 [110, 111, 116] (cE h))) (by simp)
theorem l_asm (h : (Th.call c vs).wf) : LineT ([97, 115, 115, 117, 109, 101, 32, 50, 32, 105, 110, 32] ++ callT c vs) (.row (.asm (.inn (.call c vs)))) := lt_ h ((((tb_call h).cons (by decide)).cons (by decide)).cons (by simp [Pk.word, wAssert])) (by decide) ((frl _).app (frg_call h)) (by decide) (w1 [97, 115, 115, 117, 109, 101] (d1 (w1 [105, 110] (cE h)))) (by simp)
theorem l_let (hn : isNm n = true) (h : (Th.call c vs).wf) : LineT ((([108, 101, 116, 32] ++ n) ++ [32, 61, 32]) ++ callT c vs) (.row (.let_ n c vs)) := lt_ ⟨hn, h⟩ ((((tb_call h).cons (by decide)).cons (tb_nm hn)).cons (by simp [Pk.word, wAssert])) (by decide) ((((frl _).app (frg_nm hn)).app (frl _)).app (frg_call h)) (by decide) (by
  simp only [List.append_assoc]
  exact w1 [108, 101, 116] (n1 hn (tk_eq1 (cE h)))) (by simp)
theorem l_use (hn : isNm n = true) : LineT ([97, 115, 115, 101, 114, 116, 32] ++ n) (.row (.chk false (.su (.th (.name n))))) := lt_ hn ((tbn.cons (tb_nm hn)).cons (by simp [Pk.word, wAssert])) (by decide) ((frl _).app (frg_nm hn)) (by decide) (w1 [97, 115, 115, 101, 114, 116] (nE hn)) (by simp)
theorem l_eq1 (hn : isNm n = true) : LineT (([97, 115, 115, 117, 109, 101, 32] ++ n) ++ [32, 61, 61, 32, 49]) (.row (.asm (.eq1 n))) := lt_ hn ((((tbn.cons (by decide)).cons (by decide)).cons (tb_nm hn)).cons (by simp [Pk.word, wAssert])) (by decide) (((frl _).app (frg_nm hn)).app (frl _)) (by decide) (by
  simp only [List.append_assoc]
  exact w1 [97, 115, 115, 117, 109, 101] (n1 hn (tk_eqq (.sp dE)))) (by simp)
theorem l_note (hn : isNm n = true) : LineT (([97, 115, 115, 101, 114, 116, 32, 40, 110, 111, 116, 32] ++ n) ++ [32, 105, 115, 32, 119, 111, 114, 100, 44, 32, 34, 34, 41]) (.row (.note n)) := lt_ hn ((((((((((tbn.cons (t := [41]) (by decide)).cons (t := [34, 34]) (by decide)).cons (t := [44]) (by decide)).cons (t := [119, 111, 114, 100]) (by decide)).cons (t := [105, 115]) (by decide)).cons (tb_nm hn)).cons (t := [110, 111, 116]) (by decide)).cons (t := [40]) (by decide)).cons (t := wAssert) (by decide))) (by decide) (((frl _).app (frg_nm hn)).app (frl _)) (by decide) (by
  simp only [List.append_assoc]
  exact w1 [97, 115, 115, 101, 114, 116] (tk_sg (by simp) (w1 [110, 111, 116] (n1 hn (w1 [105, 115] (tk_word (w := [119, 111, 114, 100]) (by decide) (by decide) (stp_cons (by decide)) (tk_sg (by simp) (.sp (tk_str (w := []) (by decide) (tk_sg (by simp) .nil)))))))))) (by simp)
theorem l_it0 (hn : isNm n = true) : LineT ([97, 115, 115, 101, 114, 116, 32] ++ (n ++ [91, 48, 93])) (.row (.chk false (.su (.it0 n)))) := lt_ hn (((((tbn.cons (by decide)).cons (by decide)).cons (by decide)).cons (tb_nm hn)).cons (by simp [Pk.word, wAssert])) (by decide) ((frl _).app ((frg_nm hn).app (frl _))) (by decide)
  (w1 [97, 115, 115, 101, 114, 116] (tk_nm hn (stp_cons (by decide)) (tk_sg (by simp) (tk_dig (w := [48]) (by decide) (by decide) (stp_cons (by decide)) (tk_sg (by simp) .nil))))) (by simp)
theorem l_len (hn : isNm n = true) : LineT ([97, 115, 115, 101, 114, 116, 32] ++ (([108, 101, 110, 40] ++ n) ++ [41, 32, 61, 61, 32, 49])) (.row (.chk false (.len n))) := lt_ hn (((((((tbn.cons (by decide)).cons (by decide)).cons (by decide)).cons (tb_nm hn)).cons (by decide)).cons (by decide)).cons (by simp [Pk.word, wAssert])) (by decide) ((frl _).app (((frl _).app (frg_nm hn)).app (frl _))) (by decide) (by
  simp only [List.append_assoc]
  exact w1 [97, 115, 115, 101, 114, 116] (tk_word (w := [108, 101, 110]) (by decide) (by decide) (stp_cons (by decide)) (tk_sg (by simp) (tk_nm hn (stp_cons (by decide)) (tk_sg (by simp) (.sp (tk_eqq (.sp dE)))))))) (by simp)
theorem l_inn (hn : isNm n = true) : LineT ([97, 115, 115, 101, 114, 116, 32] ++ ([50, 32, 105, 110, 32] ++ n)) (.row (.chk false (.inn (.name n)))) := lt_ hn ((((tbn.cons (tb_nm hn)).cons (by decide)).cons (by decide)).cons (by simp [Pk.word, wAssert])) (by decide) ((frl _).app ((frl _).app (frg_nm hn))) (by decide)
  (w1 [97, 115, 115, 101, 114, 116] (d1 (w1 [105, 110] (nE hn)))) (by simp)
theorem l_set (hn : isNm f = true) : LineT ([115, 101, 116, 32] ++ f) (.row (.set_ true f)) := lt_ hn ((tbn.cons (tb_nm hn)).cons (by simp [Pk.word, wAssert])) (by decide) ((frl _).app (frg_nm hn)) (by decide) (w1 [115, 101, 116] (nE hn)) (by simp)
theorem l_clear (hn : isNm f = true) : LineT ([99, 108, 101, 97, 114, 32] ++ f) (.row (.set_ false f)) := lt_ hn ((tbn.cons (tb_nm hn)).cons (by simp [Pk.word, wAssert])) (by decide) ((frl _).app (frg_nm hn)) (by decide) (w1 [99, 108, 101, 97, 114] (nE hn)) (by simp)
theorem l_on (hn : isNm f = true) : LineT ([97, 115, 115, 101, 114, 116, 32, 111, 110, 32] ++ f) (.row (.chk false (.on f))) := lt_ hn (((tbn.cons (tb_nm hn)).cons (by decide)).cons (by simp [Pk.word, wAssert])) (by decide) ((frl _).app (frg_nm hn)) (by decide) (w1 [97, 115, 115, 101, 114, 116] (w1 [111, 110] (nE hn))) (by simp)
theorem l_ifc (h : (Th.call c vs).wf) : LineT ([105, 102, 32] ++ callT c vs) (.if_ false (.su (.th (.call c vs)))) := lt_ h ((tb_call h).cons (by decide)) (by decide) ((frl _).app (frg_call h)) (by decide) (w1 [105, 102] (cE h)) (by simp)
theorem l_ifn (hn : isNm n = true) : LineT ([105, 102, 32, 110, 111, 116, 32] ++ n) (.if_ true (.su (.th (.name n)))) := lt_ hn (((tbn.cons (tb_nm hn)).cons (by decide)).cons (by decide)) (by decide) ((frl _).app (frg_nm hn)) (by decide) (w1 [105, 102] (w1 [110, 111, 116] (nE hn))) (by simp)
theorem l_ifo (hn : isNm f = true) : LineT ([105, 102, 32, 111, 110, 32] ++ f) (.if_ false (.on f)) := lt_ hn (((tbn.cons (tb_nm hn)).cons (by decide)).cons (by decide)) (by decide) ((frl _).app (frg_nm hn)) (by decide) (w1 [105, 102] (w1 [111, 110] (nE hn))) (by simp)
theorem l_forc (hn : isNm n = true) (h : (Th.call c vs).wf) : LineT ((([102, 111, 114, 32] ++ n) ++ [32, 105, 110, 32]) ++ callT c vs) (.for_ n (.call c vs)) := lt_ ⟨hn, h⟩ ((((tb_call h).cons (by decide)).cons (tb_nm hn)).cons (by decide)) (by decide) ((((frl _).app (frg_nm hn)).app (frl _)).app (frg_call h)) (by decide) (by
  simp only [List.append_assoc]
  exact w1 [102, 111, 114] (n1 hn (w1 [105, 110] (cE h)))) (by simp)
theorem l_forn (hn : isNm n = true) (ho : isNm o = true) : LineT ((([102, 111, 114, 32] ++ n) ++ [32, 105, 110, 32]) ++ o) (.for_ n (.name o)) := lt_ ⟨hn, ho⟩ ((((tbn.cons (tb_nm ho)).cons (by decide)).cons (tb_nm hn)).cons (by decide)) (by decide) ((((frl _).app (frg_nm hn)).app (frl _)).app (frg_nm ho)) (by decide) (by
  simp only [List.append_assoc]
  exact w1 [102, 111, 114] (n1 hn (w1 [105, 110] (nE ho)))) (by simp)
end
/-- the joined text: its split, its length -/
theorem split_lines {L : List (List Nat)} (h0 : L ≠ []) (h : ∀ x ∈ L, Frg x 300) : Txt.split (S (TL.joinL [10] L)) (S [10]) = L.map S := by
  rw [split_S (by decide) (by decide), spl_join h0 fun x hx => (h x hx).nl]
theorem joinL_len1 : ∀ (l : List (List Nat)) (b : Nat), (∀ x ∈ l, x.length ≤ b) → (TL.joinL [10] l).length ≤ l.length * (b + 1)
  | [], b, _ => Nat.zero_le _
  | [p], b, h => by
    have := h p (by simp)
    show p.length ≤ 1 * (b + 1)
    omega
  | p :: q :: r, b, h => by
    have h1 := h p (by simp)
    have h2 := joinL_len1 (q :: r) b fun x hx => h x (List.mem_cons_of_mem _ hx)
    show (p ++ ([10] ++ TL.joinL [10] (q :: r))).length ≤ (q :: r).length.succ * (b + 1)
    rw [List.length_append, List.length_append, Nat.succ_mul]
    simp only [List.length_cons, List.length_nil] at h2 ⊢
    omega
end WP
set_option Elab.async false
set_option linter.all false
set_option maxRecDepth 100000
set_option maxHeartbeats 4000000
/-! the law's own stack machine, told by the kinds of lines -/
namespace WP
open PySem PySem.Spec PyProof.Rows L2 Evl SX
def At.kd : At → Str × Str
  | .on f => ("flag", S f)
  | .len n => ("thing", S n)
  | .inn (.call _ _) => ("call", S [])
  | .inn (.name n) => ("thing", S n)
  | .su (.th (.call _ _)) => ("call", S [])
  | .su (.th (.name n)) => ("use", S n)
  | .su (.it0 n) => ("thing", S n)
  | .eq1 n => ("use", S n)
  | .wd n => ("use", S n)
def LK.kd : LK → Str × Str × Str
  | .row (.plain _) => ("plain", S [], S [])
  | .row (.leave _) => ("leave", S [], S [])
  | .row (.set_ _ f) => ("flag", S f, S [])
  | .row (.call _ _) => ("call", S [], S [])
  | .row (.let_ n _ _) => ("let", S n, S [])
  | .row (.chk _ t) => (t.kd.1, t.kd.2, S [])
  | .row (.note n) => ("use", S n, S [])
  | .row (.asm t) => (t.kd.1, t.kd.2, S [])
  | .end_ => ("end", S [], S [])
  | .except_ => ("except", S [], S [])
  | .else_ => ("else", S [], S [])
  | .if_ _ t => ("if", t.kd.1, t.kd.2)
  | .raises_ => ("raises", S [], S [])
  | .try_ => ("try", S [], S [])
  | .for_ n (.call _ _) => ("for", S n, S [])
  | .for_ n (.name m) => ("for", S n, S m)
  | .test => ("test", S [], S [])
def BK.s : BK → Str
  | .test => "test" | .if_ => "if" | .raises => "raises" | .try_ => "try" | .for_ => "for"
def PH.s : PH → Str
  | .rows => "rows" | .else_ => "else" | .except_ => "except"
def mentB (its sn fl : List (List Nat)) (k nm : Str) : Bool :=
  if V.str k = .str "call" then decide (its = []) else
  if V.str k = .str "use" then inV (.str nm) (stV (if its = [] then sn else its)) else
  if V.str k = .str "thing" then decide (its = []) && inV (.str nm) (stV sn) else
  inV (.str nm) (stV fl) || decide (fl.length < 3)
def standsB (st : LS) (b : Blk) (k a o : Str) : Bool :=
  if inV (.str k) [.str "if", .str "raises", .str "try", .str "for"] && decide (6 < st.stk.length) then false else
  if inV (.str k) [.str "call", .str "use", .str "thing", .str "flag"] then mentB (itemsN st.stk) (seenN st.stk) st.fl k a else
  if V.str k = .str "if" then mentB (itemsN st.stk) (seenN st.stk) st.fl a o else
  if inV (.str k) [.str "let", .str "for"] && (!decide (itemsN st.stk = []) || inV (.str a) (stV (seenN st.stk))) then false else
  if decide (V.str k = .str "for") && !decide (V.str o = .str "") then inV (.str o) (stV (seenN st.stk)) else
  if V.str k = .str "leave" then !decide (itemsN st.stk = []) else
  if V.str k = .str "else" then (decide (V.str b.kind.s = .str "if") && decide (V.str b.ph.s = .str "rows")) || (decide (V.str b.kind.s = .str "try") && decide (V.str b.ph.s = .str "except")) else
  if V.str k = .str "except" then decide (V.str b.kind.s = .str "try") && !decide (V.str b.ph.s = .str "else") else
  !decide (V.str k = .str "end") || (!decide (V.str b.kind.s = .str "try") || !decide (V.str b.ph.s = .str "rows"))
section
variable {its sn fl : List (List Nat)} {a o : Str} {n : List Nat} {st : LS} {b : Blk}
theorem me_call : mentB its sn fl "call" a = decide (its = []) := rfl
theorem me_use : mentB its sn fl "use" (S n) = decide (if its = [] then n ∈ sn else n ∈ its) := by
  show inV (.str (S n)) (stV (if its = [] then sn else its)) = _
  rw [inV_strs]
  by_cases h : its = []
  · rw [Bool.eq_iff_iff]; simp [h]
  · rw [Bool.eq_iff_iff]; simp [h]
theorem me_thing : mentB its sn fl "thing" (S n) = decide (its = [] ∧ n ∈ sn) := by
  show (decide (its = []) && inV (.str (S n)) (stV sn)) = _
  rw [inV_strs, Bool.decide_and]
theorem me_flag : mentB its sn fl "flag" (S n) = decide (n ∈ fl ∨ fl.length < 3) := by
  show (inV (.str (S n)) (stV fl) || decide (fl.length < 3)) = _
  rw [inV_strs, Bool.decide_or]
theorem me_at (t : At) : mentB its sn fl t.kd.1 t.kd.2 = true ↔ t.okL its sn fl := by
  cases t with
  | on f => show mentB its sn fl "flag" (S f) = true ↔ _; rw [me_flag, decide_eq_true_eq]; rfl
  | len n => show mentB its sn fl "thing" (S n) = true ↔ _; rw [me_thing, decide_eq_true_eq]; rfl
  | inn t =>
    cases t with
    | call c vs => show mentB its sn fl "call" (S []) = true ↔ _; rw [me_call, decide_eq_true_eq]; rfl
    | name n => show mentB its sn fl "thing" (S n) = true ↔ _; rw [me_thing, decide_eq_true_eq]; rfl
  | su t =>
    cases t with
    | th t =>
      cases t with
      | call c vs => show mentB its sn fl "call" (S []) = true ↔ _; rw [me_call, decide_eq_true_eq]; rfl
      | name n => show mentB its sn fl "use" (S n) = true ↔ _; rw [me_use, decide_eq_true_eq]; rfl
    | it0 n => show mentB its sn fl "thing" (S n) = true ↔ _; rw [me_thing, decide_eq_true_eq]; rfl
  | eq1 n => show mentB its sn fl "use" (S n) = true ↔ _; rw [me_use, decide_eq_true_eq]; rfl
  | wd n => show mentB its sn fl "use" (S n) = true ↔ _; rw [me_use, decide_eq_true_eq]; rfl
/-- an atom's kind is one of four -/
theorem at_kd (t : At) : t.kd.1 = "call" ∨ t.kd.1 = "use" ∨ t.kd.1 = "thing" ∨ t.kd.1 = "flag" := by
  cases t with
  | inn t => cases t <;> simp [At.kd]
  | su t =>
    cases t with
    | th t => cases t <;> simp [At.kd]
    | it0 n => simp [At.kd]
  | _ => simp [At.kd]
theorem sb_at (t : At) : standsB st b t.kd.1 t.kd.2 o = mentB (itemsN st.stk) (seenN st.stk) st.fl t.kd.1 t.kd.2 := by
  rcases at_kd t with e | e | e | e <;> rw [e] <;> rfl
theorem sb_if : standsB st b "if" a o = if 6 < st.stk.length then false else mentB (itemsN st.stk) (seenN st.stk) st.fl a o := by
  show (if (true && decide (6 < st.stk.length)) = true then false else mentB (itemsN st.stk) (seenN st.stk) st.fl a o) = _
  rw [Bool.true_and]
  by_cases h : 6 < st.stk.length
  · rw [if_pos h, decide_eq_true h, if_pos rfl]
  · rw [if_neg h, decide_eq_false h, if_neg (by decide)]
theorem sb_blk {k : Str} (h : k = "raises" ∨ k = "try") : standsB st b k a o = !decide (6 < st.stk.length) := by
  rcases h with rfl | rfl
  · show (if (true && decide (6 < st.stk.length)) = true then false else true) = _
    rw [Bool.true_and]
    cases decide (6 < st.stk.length) <;> rfl
  · show (if (true && decide (6 < st.stk.length)) = true then false else true) = _
    rw [Bool.true_and]
    cases decide (6 < st.stk.length) <;> rfl
theorem sb_let : standsB st b "let" (S n) o = true ↔ itemsN st.stk = [] ∧ n ∉ seenN st.stk := by
  show (if (true && (!decide (itemsN st.stk = []) || inV (.str (S n)) (stV (seenN st.stk)))) = true then false else true) = true ↔ _
  rw [inV_strs, Bool.true_and]
  by_cases h1 : itemsN st.stk = [] <;> by_cases h2 : n ∈ seenN st.stk <;> simp [h1, h2]
theorem sb_forc : standsB st b "for" (S n) (S []) = true ↔ st.stk.length ≤ 6 ∧ itemsN st.stk = [] ∧ n ∉ seenN st.stk := by
  show (if (true && decide (6 < st.stk.length)) = true then false else if (true && (!decide (itemsN st.stk = []) || inV (.str (S n)) (stV (seenN st.stk)))) = true then false else true) = true ↔ _
  rw [inV_strs, Bool.true_and, Bool.true_and]
  by_cases h0 : 6 < st.stk.length <;> by_cases h1 : itemsN st.stk = [] <;> by_cases h2 : n ∈ seenN st.stk <;> simp [h0, h1, h2] <;> omega
theorem sb_forn {m : List Nat} (hm : m ≠ []) : standsB st b "for" (S n) (S m) = true ↔ st.stk.length ≤ 6 ∧ itemsN st.stk = [] ∧ n ∉ seenN st.stk ∧ m ∈ seenN st.stk := by
  have e : decide (V.str (S m) = V.str "") = false := decide_eq_false fun z => hm (S_inj (b := []) (V.str.inj z))
  show (if (true && decide (6 < st.stk.length)) = true then false else if (true && (!decide (itemsN st.stk = []) || inV (.str (S n)) (stV (seenN st.stk)))) = true then false else
    if (true && !decide (V.str (S m) = V.str "")) = true then inV (.str (S m)) (stV (seenN st.stk)) else true) = true ↔ _
  rw [inV_strs, inV_strs, e, Bool.true_and, Bool.true_and]
  by_cases h0 : 6 < st.stk.length <;> by_cases h1 : itemsN st.stk = [] <;> by_cases h2 : n ∈ seenN st.stk <;> simp [h0, h1, h2] <;> omega
theorem bk_if : V.str b.kind.s = V.str "if" ↔ b.kind = .if_ := by cases b.kind <;> simp [BK.s] <;> decide
theorem bk_try : V.str b.kind.s = V.str "try" ↔ b.kind = .try_ := by cases b.kind <;> simp [BK.s] <;> decide
theorem ph_rows : V.str b.ph.s = V.str "rows" ↔ b.ph = .rows := by cases b.ph <;> simp [PH.s] <;> decide
theorem ph_else : V.str b.ph.s = V.str "else" ↔ b.ph = .else_ := by cases b.ph <;> simp [PH.s] <;> decide
theorem ph_except : V.str b.ph.s = V.str "except" ↔ b.ph = .except_ := by cases b.ph <;> simp [PH.s] <;> decide
end
theorem isNm_ne0 {n : List Nat} (h : isNm n = true) : n ≠ [] := (isNm_low h).2
/-- the law's own word of a line is the machine's -/
theorem stands_iff {st : LS} {s : List Blk} {b : Blk} {l : LK} (hs : st.stk = s ++ [b]) (hm : st.many ≠ 40) (hl : l ≠ .test) (hw : l.wf) : standsB st b l.kd.1 l.kd.2.1 l.kd.2.2 = true ↔ st.stands l := by
  have fwd : ∀ {P : Prop}, (st.stands l ↔ (st.many ≠ 40 ∧ ∃ base b', st.stk = base ++ [b'] ∧ P)) → (st.stands l ↔ P) := fun {P} h =>
    ⟨fun z => by obtain ⟨_, _, _, _, p⟩ := h.mp z; exact p, fun p => h.mpr ⟨hm, s, b, hs, p⟩⟩
  cases l with
  | row p =>
    refine Iff.trans ?_ (fwd Iff.rfl).symm
    cases p with
    | plain w => exact ⟨fun _ => trivial, fun _ => rfl⟩
    | leave w =>
      show (!decide (itemsN st.stk = [])) = true ↔ itemsN st.stk ≠ []
      simp
    | set_ c f =>
      show mentB (itemsN st.stk) (seenN st.stk) st.fl "flag" (S f) = true ↔ _
      rw [me_flag, decide_eq_true_eq]
    | call n vs =>
      show mentB (itemsN st.stk) (seenN st.stk) st.fl "call" (S []) = true ↔ _
      rw [me_call, decide_eq_true_eq]
    | let_ n c vs => exact sb_let
    | chk neg t =>
      show standsB st b t.kd.1 t.kd.2 (S []) = true ↔ _
      rw [sb_at, me_at]
    | note n =>
      show standsB st b (At.wd n).kd.1 (At.wd n).kd.2 (S []) = true ↔ _
      rw [sb_at, me_at]
    | asm t =>
      show standsB st b t.kd.1 t.kd.2 (S []) = true ↔ _
      rw [sb_at, me_at]
  | end_ =>
    have e : st.stands .end_ ↔ ¬ (b.kind = .try_ ∧ b.ph = .rows) := ⟨fun ⟨_, _, _, h1, h2⟩ => by
      rw [hs] at h1
      obtain ⟨_, rfl⟩ := List.append_inj' h1 rfl |>.imp id fun z => by simpa using z
      exact h2, fun h => ⟨hm, s, b, hs, h⟩⟩
    rw [e]
    show (!decide (V.str "end" = V.str "end") || (!decide (V.str b.kind.s = .str "try") || !decide (V.str b.ph.s = .str "rows"))) = true ↔ _
    simp only [bk_try, ph_rows, decide_true, Bool.not_true, Bool.false_or, Bool.or_eq_true, Bool.not_eq_true', decide_eq_false_iff_not]
    constructor
    · rintro (h | h) ⟨h1, h2⟩
      · exact h h1
      · exact h h2
    · intro h
      by_cases h1 : b.kind = .try_
      · exact .inr fun h2 => h ⟨h1, h2⟩
      · exact .inl h1
  | except_ =>
    have e : st.stands .except_ ↔ (b.kind = .try_ ∧ b.ph ≠ .else_) := ⟨fun ⟨_, _, _, h1, h2⟩ => by
      rw [hs] at h1
      obtain ⟨_, rfl⟩ := List.append_inj' h1 rfl |>.imp id fun z => by simpa using z
      exact h2, fun h => ⟨hm, s, b, hs, h⟩⟩
    rw [e]
    show (decide (V.str b.kind.s = .str "try") && !decide (V.str b.ph.s = .str "else")) = true ↔ _
    simp only [bk_try, ph_else, Bool.and_eq_true, decide_eq_true_eq, Bool.not_eq_true', decide_eq_false_iff_not]
  | else_ =>
    have e : st.stands .else_ ↔ (b.kind = .if_ ∧ b.ph = .rows ∨ b.kind = .try_ ∧ b.ph = .except_) := ⟨fun ⟨_, _, _, h1, h2⟩ => by
      rw [hs] at h1
      obtain ⟨_, rfl⟩ := List.append_inj' h1 rfl |>.imp id fun z => by simpa using z
      exact h2, fun h => ⟨hm, s, b, hs, h⟩⟩
    rw [e]
    show ((decide (V.str b.kind.s = .str "if") && decide (V.str b.ph.s = .str "rows")) || (decide (V.str b.kind.s = .str "try") && decide (V.str b.ph.s = .str "except"))) = true ↔ _
    simp only [bk_if, bk_try, ph_rows, ph_except, Bool.or_eq_true, Bool.and_eq_true, decide_eq_true_eq]
  | if_ neg t =>
    refine Iff.trans ?_ (fwd Iff.rfl).symm
    show standsB st b "if" t.kd.1 t.kd.2 = true ↔ st.stk.length ≤ 6 ∧ t.okL (itemsN st.stk) (seenN st.stk) st.fl
    rw [sb_if, ← me_at]
    by_cases h : 6 < st.stk.length
    · rw [if_pos h]
      exact ⟨fun z => (by cases z), fun z => by omega⟩
    · rw [if_neg h]
      exact ⟨fun z => ⟨by omega, z⟩, fun z => z.2⟩
  | raises_ =>
    refine Iff.trans ?_ (fwd Iff.rfl).symm
    show standsB st b "raises" (S []) (S []) = true ↔ st.stk.length ≤ 6
    rw [sb_blk (.inl rfl), Bool.not_eq_true', decide_eq_false_iff_not]
    omega
  | try_ =>
    refine Iff.trans ?_ (fwd Iff.rfl).symm
    show standsB st b "try" (S []) (S []) = true ↔ st.stk.length ≤ 6
    rw [sb_blk (.inr rfl), Bool.not_eq_true', decide_eq_false_iff_not]
    omega
  | for_ n t =>
    refine Iff.trans ?_ (fwd Iff.rfl).symm
    cases t with
    | call c vs =>
      show standsB st b "for" (S n) (S []) = true ↔ st.stk.length ≤ 6 ∧ itemsN st.stk = [] ∧ n ∉ seenN st.stk ∧ itemsN st.stk = []
      rw [sb_forc]
      exact ⟨fun h => ⟨h.1, h.2.1, h.2.2, h.2.1⟩, fun h => ⟨h.1, h.2.1, h.2.2.1⟩⟩
    | name m =>
      show standsB st b "for" (S n) (S m) = true ↔ st.stk.length ≤ 6 ∧ itemsN st.stk = [] ∧ n ∉ seenN st.stk ∧ (itemsN st.stk = [] ∧ m ∈ seenN st.stk)
      rw [sb_forn (isNm_ne0 hw.2)]
      exact ⟨fun h => ⟨h.1, h.2.1, h.2.2.1, h.2.1, h.2.2.2⟩, fun h => ⟨h.1, h.2.1, h.2.2.1, h.2.2.2.2⟩⟩
  | test => exact absurd rfl hl
/-- the same, with what is asked ahead -/
def standsA (st : LS) (k a o : Str) : Bool := if (decide (V.int (st.many : Int) = .int 40) || decide (st.stk = [])) then false else
  match st.stk.getLast? with | some b => standsB st b k a o | none => false
theorem standsA_iff {st : LS} {l : LK} (hl : l ≠ .test) (hw : l.wf) : standsA st l.kd.1 l.kd.2.1 l.kd.2.2 = true ↔ st.stands l := by
  unfold standsA
  by_cases h : st.many = 40
  · rw [if_pos (by rw [h]; rfl)]
    exact ⟨fun z => (by cases z), fun z => absurd h z.1⟩
  · have e : decide (V.int (st.many : Int) = .int 40) = false := decide_eq_false fun z => h (by have := V.int.inj z; omega)
    by_cases h2 : st.stk = []
    · rw [if_pos (by rw [decide_eq_true h2, Bool.or_true])]
      refine ⟨fun z => (by cases z), fun z => ?_⟩
      obtain ⟨_, s, b, e, _⟩ := z
      rw [h2] at e
      simp at e
    · rw [if_neg (by rw [e, decide_eq_false h2]; decide)]
      obtain ⟨s, b, hs⟩ : ∃ s b, st.stk = s ++ [b] := ⟨_, _, (List.dropLast_concat_getLast h2).symm⟩
      rw [show st.stk.getLast? = some b by rw [hs, List.getLast?_concat]]
      exact stands_iff hs h hl hw
/-! ### runs end in one place -/
theorem Runs.uniq {Ls : List LK} {a b : LS} (h : Runs Ls a b) (hb : Stuck Ls b) : ∀ {c : LS}, Runs Ls a c → Stuck Ls c → b = c := by
  induction h with
  | refl st =>
    intro c hc _
    cases hc with
    | refl => rfl
    | step h hs _ => exact absurd hs (hb _ h)
  | step h hs r ih =>
    intro c hc hsc
    cases hc with
    | refl => exact absurd hs (hsc _ h)
    | step h2 hs2 r2 =>
      rw [h] at h2
      obtain rfl := Option.some.inj h2
      exact ih hb r2 hsc
theorem stuck_end {Ls : List LK} {st : LS} (h : st.many = Ls.length) : Stuck Ls st := fun l e => by
  rw [h] at e
  simp at e
/-- what the law has noted -/
def Noted (Ls : List LK) (st : LS) (due : V) : Prop := Runs Ls st0 st ∧ ((due = .non ∧ st.many = Ls.length) ∨ (due = .int (st.many : Int) ∧ Stuck Ls st ∧ st.many < Ls.length))
theorem due_eq {Ls : List LK} {st : LS} {v due : V} (r : Runs Ls st0 st) (h : (due = .non ∧ st.stk = [] ∧ st.many = Ls.length) ∨ (due = .int (st.many : Int) ∧ Stuck Ls st ∧ (st.stk ≠ [] ∨ st.many < Ls.length))) (hv : Due Ls v) : v = due := by
  have hs : Stuck Ls st := by
    rcases h with ⟨_, _, h⟩ | ⟨_, h, _⟩
    · exact stuck_end h
    · exact h
  rcases hv with ⟨st', r', h1, h2, h3⟩ | ⟨st', r', h1, h2, h3⟩
  · obtain rfl := r.uniq hs r' (stuck_end h2)
    rcases h with ⟨e, _, _⟩ | ⟨_, _, h⟩
    · rw [h3, e]
    · exact (h.elim (fun z => z h1) fun z => by omega).elim
  · obtain rfl := r.uniq hs r' h1
    rcases h with ⟨_, e1, e2⟩ | ⟨e, _, _⟩
    · exact (h2.elim (fun z => z e1) fun z => by omega).elim
    · rw [h3, e]
theorem Runs.app {Ls Ms : List LK} {a b : LS} (h : Runs Ls a b) : Runs (Ls ++ Ms) a b := by
  induction h with
  | refl => exact .refl _
  | step h hs _ ih => exact .step (by rw [List.getElem?_append_left (List.getElem?_eq_some_iff.mp h).1]; exact h) hs ih
theorem Stuck.app {Ls Ms : List LK} {st : LS} (h : Stuck Ls st) (hl : st.many < Ls.length) : Stuck (Ls ++ Ms) st := fun l e => by
  rw [List.getElem?_append_left hl] at e
  exact h l e
end WP
set_option Elab.async false
set_option linter.all false
set_option maxRecDepth 100000
set_option maxHeartbeats 4000000
/-! the law's draws -/
namespace WP
open PySem PySem.Spec PyProof.Rows L2 Evl SX
variable {w : World} {K : PySem.W.Frag} {mg : Str → Option Value} {base : Heap}
/-- a bag of draws, its counter at most m -/
def BagH (H : Hp) (p : Addr) (m : Nat) : Prop := ∃ a b c : Int, H p = some (.lst [.int a, .int b, .int c]) ∧ 0 ≤ b ∧ b < 2 ^ 40 ∧ 0 ≤ c ∧ c ≤ (m : Int)
/-- draws were made: the bag alone has changed -/
structure Dr (p : Addr) (m : Nat) (H H' : Hp) : Prop where
  ch : Ch (fun x => x = p) H H'
  bag : BagH H' p m
theorem BagH.ex {H H' : Hp} {p : Addr} {m : Nat} (h : BagH H p m) (e : Ex H H') : BagH H' p m := by
  obtain ⟨a, b, c, h1, h2⟩ := h
  exact ⟨a, b, c, e _ _ h1, h2⟩
theorem BagH.le {H : Hp} {p : Addr} {m k : Nat} (h : BagH H p m) (e : m ≤ k) : BagH H p k := by
  obtain ⟨a, b, c, h1, h2, h3, h4, h5⟩ := h
  exact ⟨a, b, c, h1, h2, h3, h4, by omega⟩
theorem Dr.refl {H : Hp} {p : Addr} {m : Nat} (h : BagH H p m) : Dr p m H H := ⟨Ch.refl H, h⟩
theorem Dr.le {H H' : Hp} {p : Addr} {m k : Nat} (h : Dr p m H H') (e : m ≤ k) : Dr p k H H' := ⟨h.ch, h.bag.le e⟩
theorem Dr.trans {H H1 H2 : Hp} {p : Addr} {m k : Nat} (a : Dr p m H H1) (b : Dr p k H1 H2) : Dr p k H H2 := ⟨a.ch.trans b.ch, b.bag⟩
theorem Dr.ex {H H1 H2 : Hp} {p : Addr} {m : Nat} (a : Dr p m H H1) (e : Ex H1 H2) : Dr p m H H2 := ⟨a.ch.trans (Ch.of_ex e), a.bag.ex e⟩
theorem Ex.dr {H H1 H2 : Hp} {p : Addr} {m : Nat} (e : Ex H H1) (a : Dr p m H1 H2) : Dr p m H H2 := ⟨(Ch.of_ex e).trans a.ch, a.bag⟩
/-- what is no bag stands -/
theorem Dr.keep {H H' : Hp} {p : Addr} {m m' : Nat} (h : Dr p m H H') (hb : BagH H p m') {a : Addr} {o : HO} (ha : H a = some o) (n : ∀ i j k : Int, o ≠ .lst [.int i, .int j, .int k]) : H' a = some o := by
  obtain ⟨i, j, k, e, _⟩ := hb
  exact h.ch _ _ ha fun z => by
    rw [z, e] at ha
    exact n i j k (Option.some.inj ha).symm
def sp_take : Sp := sp2 fun bg mn H Q _ => ∃ (p : Addr) (m : Nat) (n : Int), bg = .ref p ∧ mn = .int n ∧ 0 < n ∧ n ≤ 10 ^ 30 ∧ BagH H p m ∧ m < 1000000 ∧ ∀ (k : Int) H', 0 ≤ k → k < n → Dr p (m + 1) H H' → Q (.int k) H'
theorem o__law_take (T : TT K mg) : CalX PW w K mg base CX0 1 "_law_take" sp_take := by
  obtain ⟨fd, F⟩ := f__law_take T
  refine ⟨_, mk2 F (b__law_take F) sc__law_take fun a b cdv A outer s H Q E hr h => ⟨_, (pss_cons (ps_if (pt_cmpR op_gt (pe_ix ix_list (pv 0) pe_int (fun _ _ => rfl)) pe_int (nomark _)) (pss_cons (ps_set (i := 2) sc__law_take.nd rfl (Or.inl rfl) (pe_op op_mod (pe_callTy call_int1 rfl (z_int T) (by decide +kernel) (pa_cons (pe_ix ix_list (pv 0) pe_int (fun _ _ => rfl)) pa_nil)) (pv 1)))
        (pss_cons (ps_asg (pe_op L2.op_fdivW (pe_ix ix_list (pv 0) pe_int (fun _ _ => rfl)) (pv 1)) (pg_sub (pv 0) pe_int set_list))
        (pss_one (ps_ret (pv 2))))) pss_nil)
        (pss_cons (ps_asg (pe_op op_add (pe_ix ix_list (pv 0) pe_int (fun _ _ => rfl)) pe_int) (pg_sub (pv 0) pe_int set_list))
        (pss_cons (ps_set (i := 3) sc__law_take.nd rfl (Or.inl rfl) (pe_op op_mod (pe_callTy call_int1 rfl (z_int T) (by decide +kernel) (pa_cons (pe_op op_mul (pe_op op_add (pe_ix ix_list (pv 0) pe_int (fun _ _ => rfl)) (pe_op op_mul pe_int (pe_ix ix_list (pv 0) pe_int (fun _ _ => rfl)))) (pe_op op_add (pe_ix ix_list (pv 0) pe_int (fun _ _ => rfl)) pe_int)) pa_nil)) pe_int))
        (pss_one (ps_ret (pe_op op_mod (pe_callTy call_int1 rfl (z_int T) (by decide +kernel) (pa_cons (pe_op L2.op_fdivW (pe_op op_mod (pe_callTy call_int1 rfl (z_int T) (by decide +kernel) (pa_cons (pe_op op_pow (pe_op op_add (pv 3) (pe_op op_mul pe_int (pe_ix ix_list (pv 0) pe_int (fun _ _ => rfl)))) pe_int) pa_nil)) pe_int) pe_int) pa_nil)) (pv 1))))))), ?_⟩, g__law_take T, F.kp⟩
  obtain ⟨p, m, n, rfl, rfl, hn, hn2, ⟨a, b, c, hp, hb, hb2, hc, hc2⟩, hm, q⟩ := h
  have ix : ∀ {σ : L2.St} {H1 : Hp} {x0 x1 x2 v : V} {i : Int}, σ[0]? = some (some (.ref p)) → H1 p = some (.lst [x0, x1, x2]) → atI [x0, x1, x2] i = some v → Ev (tOp (rIxL K) (tVar 0) (tC (.int i))) σ H1 v := fun h0 hp hv => ev_op (ev_var h0) ev_c (rv_ixL (sq_of hp) hv)
  refine q_when (b := decide (0 < a)) (et_test (ev_op (ix rfl hp rfl) ev_c rv_I0)) (fun ha H1 e1 => ?_) fun ha H1 e1 => ?_
  · refine q_asg (v := .int (a % n)) (ev_op (ev_cb (ea_cons (ix rfl (e1 _ _ hp) rfl) ea_nil) fun H2 _ Q' q' => .inl ⟨a, rfl, q' H2 (Ex.refl _)⟩) (ev_var rfl) (rv_I hn)) fun H2 e2 => ?_
    refine q_setL (j := 0) ((e1.trans e2) _ _ hp) (ev_op (ix rfl ((e1.trans e2) _ _ hp) rfl) (ev_var rfl) (rv_I (g := fun i j => .int (i / j)) (L2.wide_div hn (b := 100) (by omega) (by decide) (by decide)))) (ev_var rfl) (ev_c (v := .int ((0 : Nat) : Int))) (by simp) fun H3 e3 => ?_
    refine s_ret (ev_var rfl) fun H4 e4 => q _ _ (Int.emod_nonneg _ (by omega)) (Int.emod_lt_of_pos _ hn) ⟨?_, ⟨a / n, b, c, e4 _ _ upd_same, hb, hb2, hc, by omega⟩⟩
    exact ((Ch.of_ex ((e1.trans e2).trans e3)).set (M := fun x => x = p) rfl).trans (Ch.of_ex e4)
  · refine q_setL (j := 2) (e1 _ _ hp) (ev_op (ix rfl (e1 _ _ hp) rfl) ev_c (rv_I0 (g := fun i j => .int (i + j)))) (ev_var rfl) (ev_c (v := .int ((2 : Nat) : Int))) (by simp) fun H3 e3 => ?_
    have h3 : (upd H3 p (.lst [.int a, .int b, .int (c + 1)])) p = some (.lst [.int a, .int b, .int (c + 1)]) := upd_same
    have c3 : Ch (fun x => x = p) H (upd H3 p (.lst [.int a, .int b, .int (c + 1)])) := (Ch.of_ex (e1.trans e3)).set (M := fun x => x = p) rfl
    show tSeq _ _ _ _ (upd H3 p (.lst [.int a, .int b, .int (c + 1)]))
    generalize upd H3 p (.lst [.int a, .int b, .int (c + 1)]) = H4 at h3 c3
    refine q_asg (v := .int (((b + 40009 * (c + 1)) * (b + 7919)) % 2147483647)) (ev_op (ev_cb (ea_cons (ev_op (ev_op (ix rfl h3 rfl) (ev_op ev_c (ix rfl h3 rfl) (rv_I (g := fun i j => .int (i * j)) ?_)) (rv_I0 (g := fun i j => .int (i + j)))) (ev_op (ix rfl h3 rfl) ev_c (rv_I0 (g := fun i j => .int (i + j)))) (rv_I (g := fun i j => .int (i * j)) ?_)) ea_nil) fun H2 _ Q' q' => .inl ⟨_, rfl, q' H2 (Ex.refl _)⟩) ev_c (rv_I (g := fun i j => .int (i % j)) (by decide))) fun H5 e5 => ?_
    · exact .inl ⟨by decide, by decide⟩
    · exact .inr ⟨by omega, by omega⟩
    have m0 : 0 ≤ ((b + 40009 * (c + 1)) * (b + 7919)) % 2147483647 := Int.emod_nonneg _ (by decide)
    have m1 : ((b + 40009 * (c + 1)) * (b + 7919)) % 2147483647 < 2147483647 := Int.emod_lt_of_pos _ (by decide)
    generalize ((b + 40009 * (c + 1)) * (b + 7919)) % 2147483647 = mx at m0 m1
    have h5 := e5 _ _ h3
    refine s_ret (v := .int (((mx + 104729 * (c + 1)) ^ (2 : Int).toNat % 1000000007 / 64) % n)) (ev_op (ev_cb (ea_cons (ev_op (ev_op (ev_cb (ea_cons (ev_op (ev_op (ev_var rfl) (ev_op ev_c (ix rfl h5 rfl) (rv_I (g := fun i j => .int (i * j)) ?_)) (rv_I0 (g := fun i j => .int (i + j)))) ev_c (rv_I (g := fun i j => .int (i ^ j.toNat)) ?_)) ea_nil) fun H2 _ Q' q' => .inl ⟨_, rfl, q' H2 (Ex.refl _)⟩) ev_c (rv_I (g := fun i j => .int (i % j)) (by decide))) ev_c (rv_I (g := fun i j => .int (i / j)) ⟨by decide, by decide⟩)) ea_nil) fun H2 _ Q' q' => .inl ⟨_, rfl, q' H2 (Ex.refl _)⟩) (ev_var rfl) (rv_I (g := fun i j => .int (i % j)) hn)) fun H6 e6 => q _ _ (Int.emod_nonneg _ (by omega)) (Int.emod_lt_of_pos _ hn) ⟨?_, ⟨a, b, c + 1, e6 _ _ h5, hb, hb2, by omega, by omega⟩⟩
    · exact .inl ⟨by decide, by decide⟩
    · exact ⟨by decide, by decide, by omega⟩
    · exact c3.trans (Ch.of_ex (e5.trans e6))
/-- one of a list, one of a text's signs -/
def sp_of : Sp := sp2 fun bg so H Q _ => ∃ (p : Addr) (m : Nat), bg = .ref p ∧ BagH H p m ∧ m < 1000000 ∧
  ((∃ (l : Addr) (xs : List V), so = .ref l ∧ H l = some (.lst xs) ∧ l ≠ p ∧ xs ≠ [] ∧ xs.length ≤ 1000 ∧ ∀ v H', v ∈ xs → Dr p (m + 1) H H' → Q v H') ∨
   (∃ z : List Nat, so = .str (S z) ∧ z ≠ [] ∧ z.length ≤ 1000 ∧ ∀ c H', c ∈ z → Dr p (m + 1) H H' → Q (.str (S [c])) H'))
theorem atI_nat {α : Type} {xs : List α} {k : Int} (h0 : 0 ≤ k) (h : k < xs.length) : ∃ v, atI xs k = some v ∧ v ∈ xs := by
  obtain ⟨j, rfl⟩ := Int.eq_ofNat_of_zero_le h0
  have hj : j < xs.length := by omega
  refine ⟨xs[j], ?_, List.getElem_mem hj⟩
  unfold atI
  rw [ixN_nat hj]
  show xs[j]? = _
  exact List.getElem?_eq_getElem hj
theorem o__law_of (T : TT K mg) : CalX PW w K mg base CX0 2 "_law_of" sp_of := by
  obtain ⟨fd, F⟩ := f__law_of T
  refine ⟨_, mk2 F (b__law_of F) sc__law_of fun a b cdv A outer s H Q E hr h => ⟨_, (pss_one (ps_ret (pe_ix (IxR.or ix_list ix_str) (pv 1) (wc (o__law_take T) hr (by decide) pass0 (pa_cons (pv 0) (pa_cons (pe_callB (id := "len") (call_or call_len_seq call_len_str) rfl (z_len T) (by decide +kernel) (pa_cons (pv 1) pa_nil)) pa_nil))) (fun _ _ => rfl)))), ?_⟩, g__law_of T, F.kp⟩
  obtain ⟨p, m, rfl, hb, hm, h⟩ := h
  rcases h with ⟨l, xs, rfl, hl, hlp, hne, hz, q⟩ | ⟨z, rfl, hne, hz, q⟩
  · have hpos := List.length_pos_iff.mpr hne
    refine ⟨_, rfl, _, rfl, _, rfl, .inl ⟨l, xs, rfl, .inl (sq_of hl), ?_⟩⟩
    refine ⟨_, _, rfl, p, m, (xs.length : Int), rfl, rfl, by omega, by omega, hb, hm, fun k H' h0 h1 d => ?_⟩
    obtain ⟨v, hv, hm⟩ := atI_nat h0 h1
    exact .inl ⟨l, xs, k, v, rfl, rfl, sq_of (d.ch _ _ hl hlp), hv, q v H' hm d⟩
  · have hpos := List.length_pos_iff.mpr hne
    refine ⟨_, rfl, _, rfl, _, rfl, .inr ⟨S z, rfl, by rw [S_len]; exact sz_of (by omega), ?_⟩⟩
    refine ⟨_, _, rfl, p, m, (z.length : Int), rfl, by rw [S_len], by omega, by omega, hb, hm, fun k H' h0 h1 d => ?_⟩
    obtain ⟨c, hv, hm⟩ := atI_nat h0 h1
    exact .inr ⟨S z, k, c, rfl, rfl, by rw [S_len]; exact sz_of (by omega), hv, q c H' hm d⟩
end WP
set_option Elab.async false
set_option linter.all false
set_option maxRecDepth 100000
set_option maxHeartbeats 4000000
/-! the law's bags, numbers, words, constants -/
namespace WP
open PySem PySem.Spec PyProof.Rows L2 Evl SX
variable {w : World} {K : PySem.W.Frag} {mg : Str → Option Value} {base : Heap}
section
variable {σ : L2.St} {H : Hp} {p : Addr} {m : Nat} {n : Int} {ta tb tl : TE} {E : XK} {Q : VK} {xs : List V}
theorem BagH.fresh {l : Addr} (h : BagH H p m) (hl : H l = none) : l ≠ p := fun z => by
  obtain ⟨a, b, c, e, _⟩ := h
  rw [z, e] at hl
  cases hl
theorem BagH.ne {l : Addr} {o : HO} (h : BagH H p m) (hl : H l = some o) (n : ∀ i j k : Int, o ≠ .lst [.int i, .int j, .int k]) : l ≠ p := fun z => by
  obtain ⟨a, b, c, e, _⟩ := h
  rw [z, e] at hl
  exact n a b c (Option.some.inj hl).symm
theorem do_take (hb : BagH H p m) (ha : Ev ta σ H (.ref p)) (hn : Ev tb σ H (.int n)) (h0 : 0 < n) (h1 : n ≤ 10 ^ 30) (hm : m < 1000000) (q : ∀ (k : Int) H', 0 ≤ k → k < n → Dr p (m + 1) H H' → Q (.int k) H') :
    tF sp_take E (tCons ta (tCons tb tNil)) σ H Q :=
  ha H (Ex.refl _) _ fun H1 e1 => hn H1 e1 _ fun H2 e2 => ⟨_, _, rfl, p, m, n, rfl, rfl, h0, h1, hb.ex (e1.trans e2), hm, fun k H' a b d => q k H' a b (Ex.dr (e1.trans e2) d)⟩
/-- one of a new list, of a list that stands, of a text -/
theorem do_ofL (hb : BagH H p m) (ha : Ev ta σ H (.ref p)) (hl : EvL tl σ H xs) (hne : xs ≠ []) (hz : xs.length ≤ 1000) (hm : m < 1000000) (q : ∀ v H', v ∈ xs → Dr p (m + 1) H H' → Q v H') :
    tF sp_of E (tCons ta (tCons tl tNil)) σ H Q :=
  ha H (Ex.refl _) _ fun H1 e1 => hl H1 e1 _ fun l H2 hl e2 h2 => ⟨_, _, rfl, p, m, rfl, hb.ex (e1.trans e2), hm, .inl ⟨l, xs, rfl, h2, (hb.ex e1).fresh hl, hne, hz, fun v H' a d => q v H' a (Ex.dr (e1.trans e2) d)⟩⟩
theorem do_ofE {l : Addr} (hb : BagH H p m) (ha : Ev ta σ H (.ref p)) (hl : Ev tl σ H (.ref l)) (h : H l = some (.lst xs)) (hlp : l ≠ p) (hne : xs ≠ []) (hz : xs.length ≤ 1000) (hm : m < 1000000) (q : ∀ v H', v ∈ xs → Dr p (m + 1) H H' → Q v H') :
    tF sp_of E (tCons ta (tCons tl tNil)) σ H Q :=
  ha H (Ex.refl _) _ fun H1 e1 => hl H1 e1 _ fun H2 e2 => ⟨_, _, rfl, p, m, rfl, hb.ex (e1.trans e2), hm, .inl ⟨l, xs, rfl, (e1.trans e2) _ _ h, hlp, hne, hz, fun v H' a d => q v H' a (Ex.dr (e1.trans e2) d)⟩⟩
theorem do_ofS {z : List Nat} (hb : BagH H p m) (ha : Ev ta σ H (.ref p)) (hl : Ev tl σ H (.str (S z))) (hne : z ≠ []) (hz : z.length ≤ 1000) (hm : m < 1000000) (q : ∀ c H', c ∈ z → Dr p (m + 1) H H' → Q (.str (S [c])) H') :
    tF sp_of E (tCons ta (tCons tl tNil)) σ H Q :=
  ha H (Ex.refl _) _ fun H1 e1 => hl H1 e1 _ fun H2 e2 => ⟨_, _, rfl, p, m, rfl, hb.ex (e1.trans e2), hm, .inr ⟨z, rfl, hne, hz, fun v H' a d => q v H' a (Ex.dr (e1.trans e2) d)⟩⟩
/-- all but lists stands -/
def NLs (H H' : Hp) : Prop := ∀ a o, H a = some o → (∀ xs, o ≠ .lst xs) → H' a = some o
theorem NLs.trans {H H1 H2 : Hp} (a : NLs H H1) (b : NLs H1 H2) : NLs H H2 := fun x o h n => b x o (a x o h n) n
theorem Ex.nl {H H' : Hp} (e : Ex H H') : NLs H H' := fun x o h _ => e x o h
theorem Dr.nl {H H' : Hp} {p : Addr} {m m' : Nat} (h : Dr p m H H') (hb : BagH H p m') : NLs H H' := fun a o e n => h.keep hb e fun i j k => n _
theorem NLs.upd {H : Hp} {a : Addr} {xs : List V} {o : HO} (h : H a = some (.lst xs)) : NLs H (upd H a o) := fun x u e n => by
  by_cases z : x = a
  · rw [z, h] at e
    exact absurd (Option.some.inj e).symm (n xs)
  · rw [upd_ne z]
    exact e
/-- [e for .. in range(n)], e drawing -/
theorem lc_draw {te : TE} {j c n : Nat} {vs : List Nat} {P : V → Hp → Prop} (hb : BagH H p m) (hn : n ≤ 1000) (hw : ∀ x, wipe ((wipe σ vs).set j (some x)) vs = wipe σ vs)
    (mono : ∀ v H1 H2, P v H1 → NLs H1 H2 → P v H2)
    (he : ∀ (i : Nat) H1, i < n → Dr p (m + c * i) H H1 → ∀ Q : VK, (∀ v H2, P v H2 → Dr p (m + c * i + c) H1 H2 → Q v H2) → te ((wipe σ vs).set j (some (.int (i : Int)))) H1 Q)
    (q : ∀ l xs H', H l = none → H' l = some (.lst xs) → xs.length = n → (∀ v ∈ xs, P v H') → Dr p (m + c * n) H H' → Q (.ref l) H') (Dl : Addr) (hD : H Dl = none) :
    ∃ W : Nat → Nat → Hp → Prop, (∃ m, W 0 m (upd H Dl (.lst []))) ∧ ∀ i m H, W i m H → ((Itr 0 n).stop i H ∧ Q (.ref Dl) H) ∨ ((Itr 0 n).go i H ∧ ∃ Nx : Hp → Prop, (∀ H', Nx H' → ∃ m', m' < m ∧ W (i + 1) m' H') ∧ ∀ x H', (Itr 0 n).yld i H x H' → gName j x (wipe σ vs) H' fun σ2 H2 => wipe σ2 vs = wipe σ vs ∧ tYes σ2 H2 fun b H3 =>
        if b = true then te σ2 H3 fun y H4 => ∃ acc, H4 Dl = some (.lst acc) ∧ acc.length < sizeLine ∧ Nx (upd H4 Dl (.lst (acc ++ [y]))) else Nx H3) := by
  have hDp : Dl ≠ p := hb.fresh hD
  refine lc_range (lo := 0) (n := n) (Qd := fun H' => Q (.ref Dl) H') (fun i H' => ∃ acc, H' Dl = some (.lst acc) ∧ acc.length = i ∧ (∀ v ∈ acc, P v H') ∧ Dr p (m + c * i) H H') ⟨[], upd_same, rfl, (fun v hv => by cases hv), ⟨(Ch.refl H).fresh hD, hb.ex (Ex.new hD)⟩⟩ (fun i H' hi pv => ?_) (fun H' pv => ?_)
  · obtain ⟨acc, h1, h2, h3, h4⟩ := pv
    refine ⟨hw _, ?_⟩
    show te ((wipe σ vs).set j (some (.int ((0 : Int) + (i : Int))))) H' fun y H4 => _
    rw [show (0 : Int) + (i : Int) = (i : Int) by omega]
    refine he i H' hi h4 _ fun v H2 pv d => ?_
    have hD2 : H2 Dl = some (.lst acc) := d.ch _ _ h1 hDp
    refine ⟨acc, hD2, sz_lt (by omega), acc ++ [v], upd_same, by rw [List.length_append, h2]; rfl, fun u hu => ?_, ?_⟩
    · have n2 : NLs H2 (upd H2 Dl (.lst (acc ++ [v]))) := NLs.upd hD2
      rcases List.mem_append.mp hu with hu | hu
      · exact mono _ _ _ (h3 u hu) ((d.nl h4.bag).trans n2)
      · rw [List.mem_singleton] at hu
        rw [hu]
        exact mono _ _ _ pv n2
    · obtain ⟨a, b, c', e, r⟩ := d.bag
      refine ⟨fun x o hx hn => ?_, a, b, c', by rw [upd_ne hDp.symm]; exact e, r.1, r.2.1, r.2.2.1, by have := r.2.2.2; rw [Nat.mul_succ]; omega⟩
      have hx2 := (h4.trans d).ch x o hx hn
      rw [upd_ne (fun z => by rw [z, hD] at hx; cases hx)]
      exact hx2
  · obtain ⟨acc, h1, h2, h3, h4⟩ := pv
    exact q Dl acc H' hD h1 h2 h3 h4
/-- [e for .. in range(a draw)] -/
theorem do_lcT {te : TE} {j c m' : Nat} {vs : List Nat} {P : V → Hp → Prop} (hb : BagH H p m) (ha : Ev ta σ H (.ref p)) (hn : Ev tb σ H (.int n)) (h0 : 0 < n) (h1 : n ≤ 1000) (hm : m < 1000000) (hm1 : m + 1 = m') (hw : ∀ x, wipe ((wipe σ vs).set j (some x)) vs = wipe σ vs)
    (mono : ∀ v H1 H2, P v H1 → NLs H1 H2 → P v H2)
    (he : ∀ (i : Nat) H1, (i : Int) < n → Dr p (m' + c * i) H H1 → ∀ Q : VK, (∀ v H2, P v H2 → Dr p (m' + c * i + c) H1 H2 → Q v H2) → te ((wipe σ vs).set j (some (.int (i : Int)))) H1 Q)
    (q : ∀ l xs H' (k : Nat), (k : Int) < n → H l = none → H' l = some (.lst xs) → xs.length = k → (∀ v ∈ xs, P v H') → Dr p (m' + c * k) H H' → Q (.ref l) H') :
    tLc (iRng1 (tCons (tF sp_take E (tCons ta (tCons tb tNil))) tNil)) (gName j) tYes te vs σ H Q :=
  do_take hb ha hn h0 (Int.le_trans h1 (by decide)) hm fun k H1 k0 k1 d1 => ⟨k, rfl, by omega, by omega, fun Dl hD =>
    lc_draw (hm1 ▸ d1.bag) (by omega) hw mono (fun i H2 hi d2 => he i H2 (by omega) (d1.trans d2)) (fun l xs H2 hl h2 hx hp d2 => q l xs H2 k.toNat (by omega) (by
      cases e : H l with
      | none => rfl
      | some o =>
        have := d1.ch _ _ e (fun z => d1.bag.fresh hl z)
        rw [this] at hl
        cases hl) h2 hx hp (d1.trans d2)) Dl hD⟩
/-- [e for .. in range(n)] -/
theorem do_lcN {te : TE} {j c : Nat} {n : Nat} {ta : TA} {vs : List Nat} {P : V → Hp → Prop} (hb : BagH H p m) (ha : EvA ta σ H [.int (n : Int)]) (h1 : n ≤ 1000) (hw : ∀ x, wipe ((wipe σ vs).set j (some x)) vs = wipe σ vs)
    (mono : ∀ v H1 H2, P v H1 → NLs H1 H2 → P v H2)
    (he : ∀ (i : Nat) H1, i < n → Dr p (m + c * i) H H1 → ∀ Q : VK, (∀ v H2, P v H2 → Dr p (m + c * i + c) H1 H2 → Q v H2) → te ((wipe σ vs).set j (some (.int (i : Int)))) H1 Q)
    (q : ∀ l xs H', H l = none → H' l = some (.lst xs) → xs.length = n → (∀ v ∈ xs, P v H') → Dr p (m + c * n) H H' → Q (.ref l) H') :
    tLc (iRng1 ta) (gName j) tYes te vs σ H Q :=
  ha H (Ex.refl _) _ fun H1 e1 => ⟨(n : Int), rfl, by omega, by omega, fun Dl hD =>
    lc_draw (hb.ex e1) (by omega) hw mono (fun i H2 hi d2 => he i H2 (by omega) (Ex.dr e1 d2)) (fun l xs H2 hl h2 hx hp d2 => q l xs H2 (fresh_back e1 hl) h2 hx hp (Ex.dr e1 d2)) Dl hD⟩
end
def sp_law_bag : Sp := sp2 fun sc at_ H Q _ => ∃ (la : Addr) (ns : List Int) (i : Nat), sc = .ref la ∧ SqL K H la (ns.map V.int) ∧ at_ = .int (i : Int) ∧ i ≤ 100 ∧ ∀ p H', H p = none → Ex H H' → BagH H' p 0 → Q (.ref p) H'
theorem o__law_bag (T : TT K mg) : CalX PW w K mg base CX0 1 "_law_bag" (sp_law_bag (K := K)) := by
  obtain ⟨fd, F⟩ := f__law_bag T
  refine ⟨_, mk2 F (b__law_bag F) sc__law_bag fun a b cdv A outer s H Q E hr h => ⟨_, (pss_cons (ps_set (i := 2) sc__law_bag.nd rfl (Or.inl rfl) (pe_ifExp (pt_cmpR op_lt (pv 1) (pe_callB (id := "len") call_len_seq rfl (z_len T) (by decide +kernel) (pa_cons (pv 0) pa_nil)) (nomark _)) (pe_ix ix_list (pv 0) (pv 1) (fun _ _ => rfl)) pe_int))
        (pss_one (ps_ret (pe_lst (pa_cons (pe_ifExp (pt_cmpR op_ge (pe_callB call_abs rfl (z_abs T) (by decide +kernel) (pa_cons (pv 2) pa_nil)) (pe_op op_pow pe_int pe_int) (nomark _)) (pe_callB call_abs rfl (z_abs T) (by decide +kernel) (pa_cons (pv 2) pa_nil)) pe_int) (pa_cons (pe_op op_add (pe_op op_mod (pe_callTy call_int1 rfl (z_int T) (by decide +kernel) (pa_cons (pv 2) pa_nil)) pe_int) (pe_op op_mul pe_int (pv 1))) (pa_cons pe_int pa_nil))))))), ?_⟩, g__law_bag T, F.kp⟩
  obtain ⟨la, ns, i, rfl, hs, rfl, hi, q⟩ := h
  refine q_asg (v := .int ((ns[i]?).getD 0)) (ev_if (b := decide (i < ns.length)) (et_is (et_test (ev_op (ev_var rfl) (ev_len (ev_var rfl) hs) rv_I0)) ?_) (fun hb => ev_op (ev_var rfl) (ev_var rfl) (rv_ixL hs ?_)) fun hb => ev_is ev_c ?_) fun H1 e1 => ?_
  · rw [List.length_map]
    exact Bool.eq_iff_iff.mpr (by simp)
  · have hl := of_decide_eq_true hb
    unfold atI
    rw [ixN_nat (by rw [List.length_map]; exact hl)]
    show (ns.map V.int)[i]? = _
    rw [List.getElem?_map, List.getElem?_eq_getElem hl]
    rfl
  · have hl := of_decide_eq_false hb
    rw [List.getElem?_eq_none (by omega)]
    rfl
  generalize (ns[i]?).getD 0 = c
  refine s_retL (el_lst (ea_cons (x := .int (if (10 : Int) ^ (18 : Int).toNat ≤ (if c < 0 then -c else c) then (if c < 0 then -c else c) else 0)) (ev_if (b := decide ((10 : Int) ^ (18 : Int).toNat ≤ (if c < 0 then -c else c))) (et_test (ev_op (ev_cb (ea_cons (ev_var rfl) ea_nil) rc_abs) (ev_op ev_c ev_c (rv_I (g := fun i j => .int (i ^ j.toNat)) ⟨by decide, by decide, by decide⟩)) rv_I0)) (fun hb => ev_is (ev_cb (ea_cons (ev_var rfl) ea_nil) rc_abs) ?_) fun hb => ev_is ev_c ?_)
    (ea_cons (x := .int (c % 998244353 + 3000017 * (i : Int))) (ev_op (ev_op (ev_cb (ea_cons (ev_var rfl) ea_nil) fun H2 _ Q' q' => .inl ⟨c, rfl, q' H2 (Ex.refl _)⟩) ev_c (rv_I (g := fun i j => .int (i % j)) (by decide))) (ev_op ev_c (ev_var rfl) (rv_I (g := fun i j => .int (i * j)) (.inl ⟨by decide, by decide⟩))) rv_I0)
    (ea_cons ev_c ea_nil))) (show 3 ≤ 100000 by decide)) fun p H2 hp e2 h2 => ?_
  · rw [if_pos (of_decide_eq_true hb)]
  · rw [if_neg (of_decide_eq_false hb)]
  · have m0 : 0 ≤ c % 998244353 := Int.emod_nonneg _ (by decide)
    have m1 : c % 998244353 < 998244353 := Int.emod_lt_of_pos _ (by decide)
    exact q p H2 (fresh_back e1 hp) (e1.trans e2) ⟨_, _, _, h2, by omega, by omega, by omega, by omega⟩
theorem isK_i {i : Int} (h0 : -(10 ^ 30) < i) (h1 : i < 10 ^ 30) : isK (.int i) = true := by
  have e : smK (.int i) = true := by
    show decide ((if i < 0 then -i else i) < 10 ^ 30) = true
    refine decide_eq_true ?_
    split <;> omega
  show (decide (V.int i = .non) || ((isI (.int i) && smK (.int i)) || isW (.int i) 8)) = true
  rw [e]
  rfl
theorem isK_w {l : List Nat} (h0 : l.length ≤ 8) (h1 : l.all low = true) : isK (.str (S l)) = true := by
  have e : isW (.str (S l)) 8 = true := by
    show (decide ((l.length : Int) ≤ 8) && l.all low) = true
    rw [h1, Bool.and_true]
    exact decide_eq_true (by omega)
  unfold isK
  rw [e, Bool.or_true, Bool.or_true]
theorem par_2 {i j : Nat} {ta : TA} {tz : TS} {D : Ends} {σ : L2.St} {H : Hp} (h : ta σ H fun vs H1 => ∃ v w, vs = [v, w] ∧ tz D ((σ.set i (some v)).set j (some w)) H1) : tSeq (tPar i j ta) tz D σ H := h
theorem par_3 {i j l : Nat} {ta : TA} {tz : TS} {D : Ends} {σ : L2.St} {H : Hp} (h : ta σ H fun vs H1 => ∃ u v w, vs = [u, v, w] ∧ tz D (((σ.set i (some u)).set j (some v)).set l (some w)) H1) : tSeq (tPar3 i j l ta) tz D σ H := h
def sp_number : Sp := sp2 fun bg nr H Q _ => ∃ (p l : Addr) (m : Nat), bg = .ref p ∧ nr = .ref l ∧ H l = some (.lst []) ∧ BagH H p m ∧ m < 900000 ∧ ∀ v H', isK v = true → Dr p (m + 4) H H' → Q v H'
end WP
set_option Elab.async false
set_option linter.all false
set_option maxRecDepth 100000
set_option maxHeartbeats 4000000
/-! numbers, words, constants -/
namespace WP
open PySem PySem.Spec PyProof.Rows L2 Evl SX
variable {w : World} {K : PySem.W.Frag} {mg : Str → Option Value} {base : Heap}
theorem o__law_number (T : TT K mg) : CalX PW w K mg base CX0 3 "_law_number" (sp_number) := by
  obtain ⟨fd, F⟩ := f__law_number T
  refine ⟨_, mk2 F (b__law_number F) sc__law_number fun a b cdv A outer s H Q E hr h => ⟨_, (pss_cons (ps_par (i := 2) (j := 3) rfl sc__law_number.nd rfl rfl (by decide) rfl rfl (pa_cons (wc (o__law_take T) hr (by decide) pass0 (pa_cons (pv 0) (pa_cons pe_int pa_nil))) (pa_cons (pe_op op_sub (pe_op op_pow pe_int pe_int) pe_int) pa_nil)) rfl)
        (pss_cons (ps_if (pt_cmpR op_gt (pv 2) pe_int (nomark _)) (pss_one (ps_ret (pe_op op_sub (wc (o__law_take T) hr (by decide) pass0 (pa_cons (pv 0) (pa_cons pe_int pa_nil))) pe_int))) pss_nil)
        (pss_cons (ps_if (pt_cmpR op_eq (pv 2) pe_int (nomark _)) (pss_one (ps_ret (pe_op op_mul (pe_op op_sub (pv 3) (wc (o__law_take T) hr (by decide) pass0 (pa_cons (pv 0) (pa_cons (pe_op op_pow pe_int pe_int) pa_nil)))) (pe_op op_sub pe_int (pe_op op_mul pe_int (wc (o__law_take T) hr (by decide) pass0 (pa_cons (pv 0) (pa_cons pe_int pa_nil)))))))) pss_nil)
        (pss_one (ps_ret (pe_callB (call_max2 rfl) rfl (z_max T) (by decide +kernel) (pa_cons (pe_un un_neg (pv 3)) (pa_cons (pe_callB (call_min2 rfl) rfl (z_min T) (by decide +kernel) (pa_cons (pv 3) (pa_cons (pe_op op_sub (pe_op op_add (wc (o__law_of T) hr (by decide) pass0 (pa_cons (pv 0) (pa_cons (pe_op op_cat (pv 1) (pe_lst (pa_cons pe_int pa_nil))) pa_nil))) (wc (o__law_take T) hr (by decide) pass0 (pa_cons (pv 0) (pa_cons pe_int pa_nil)))) pe_int) pa_nil))) pa_nil)))))))), ?_⟩, g__law_number T, F.kp⟩
  obtain ⟨p, l, m, rfl, rfl, hl, hb, hm, q⟩ := h
  refine par_2 (do_take (n := 6) hb (ev_var rfl) ev_c (by decide) (by decide) (by omega) fun k H1 k0 k1 d1 => ?_)
  refine ev_op (ev_op ev_c ev_c (rv_I (g := fun i j => .int (i ^ j.toNat)) ⟨by decide, by decide, by decide⟩)) ev_c (rv_I0 (g := fun i j => .int (i - j))) H1 (Ex.refl _) _ fun H3 e2 => ⟨_, _, rfl, ?_⟩
  have d3 : Dr p (m + 1) H H3 := d1.ex e2
  have b3 := d3.bag
  have l3 := d3.keep hb hl fun _ _ _ e => by cases e
  have lp : l ≠ p := hb.ne hl fun _ _ _ e => by cases e
  refine q_when (b := decide (2 < k)) (et_test (ev_op (ev_var rfl) ev_c rv_I0)) (fun hk H4 e4 => ?_) fun hk H4 e4 => ?_
  · refine s_retD (do_take (n := 12) (b3.ex e4) (ev_var rfl) ev_c (by decide) (by decide) (by omega) fun j H5 j0 j1 d5 => ?_)
    exact ⟨j, 4, rfl, rfl, q _ _ (isK_i (by omega) (by omega)) ((d3.ex e4).trans d5 |>.le (by omega))⟩
  · refine q_when (b := decide (V.int k = V.int 2)) (et_test (ev_op (ev_var rfl) ev_c (rv_eq rfl))) (fun hk2 H5 e5 => ?_) fun hk2 H5 e5 => ?_
    · have e45 := e4.trans e5
      refine s_retD ⟨.int ((10 : Int) ^ (30 : Int).toNat - 1), rfl, ?_⟩
      refine do_take (n := (10 : Int) ^ (30 : Int).toNat) (b3.ex e45) (ev_var rfl) (ev_op ev_c ev_c (rv_I (g := fun i j => .int (i ^ j.toNat)) ⟨by decide, by decide, by decide⟩)) (by decide) (by decide) (by omega) fun j H6 j0 j1 d6 => ?_
      refine ⟨_, _, rfl, rfl, ?_⟩
      refine do_take (n := 2) d6.bag (ev_var rfl) ev_c (by decide) (by decide) (by omega) fun i H7 i0 i1 d7 => ?_
      refine ⟨2, i, rfl, rfl, .inl ⟨by decide, by decide⟩, ?_⟩
      refine ⟨1, 2 * i, rfl, rfl, ?_⟩
      refine ⟨_, _, rfl, rfl, .inr ⟨by omega, by omega⟩, ?_⟩
      refine q _ _ ?_ (((d3.ex e45).trans d6).trans d7 |>.le (by omega))
      have j2 : j < 10 ^ 30 := j1
      have hi : i = 0 ∨ i = 1 := by omega
      rcases hi with rfl | rfl
      · exact isK_i (i := (10 ^ 30 - 1 - j) * (1 - 2 * 0)) (by omega) (by omega)
      · exact isK_i (i := (10 ^ 30 - 1 - j) * (1 - 2 * 1)) (by omega) (by omega)
    · have e45 := e4.trans e5
      have top : Ev (tVar 3) [some (.ref p), some (.ref l), some (.int k), some (.int ((10 : Int) ^ (30 : Int).toNat - 1))] H5 (.int (10 ^ 30 - 1)) := ev_var rfl
      refine s_retD ?_
      refine (ev_un (ev_var rfl) ru_neg : Ev _ _ H5 (.int (-(10 ^ 30 - 1)))) H5 (Ex.refl _) _ fun H6 e6 => ?_
      refine ⟨.int (10 ^ 30 - 1), rfl, ?_⟩
      refine do_ofL (xs := [.int 0]) ((b3.ex e45).ex e6) (ev_var rfl) (fun H7 e7 Q' q' => ?_) (by simp) (by simp) (by omega) fun v H7 hv d7 => ?_
      · refine ⟨_, rfl, ⟨by decide, fun z hz => ?_⟩⟩
        refine ⟨l, z, [], [.int 0], rfl, rfl, Ex.new hz _ _ ((e6.trans e7) _ _ (e45 _ _ l3)), upd_same, by decide, fun y hy => q' y _ (fresh_back (Ex.new hz) hy) ((Ex.new hz).trans (Ex.new hy)) upd_same⟩
      · obtain rfl : v = .int 0 := by simpa using hv
        refine do_take (n := 5) d7.bag (ev_var rfl) ev_c (by decide) (by decide) (by omega) fun i H8 i0 i1 d8 => ?_
        refine ⟨0, i, rfl, rfl, ?_⟩
        refine ⟨0 + i, 2, rfl, rfl, ?_⟩
        refine ⟨_, _, rfl, ?_⟩
        refine ⟨_, _, rfl, q _ _ (isK_i ?_ ?_) ((((d3.ex e45).ex e6).trans d7).trans d8 |>.le (by omega))⟩
        · split <;> split <;> omega
        · split <;> split <;> omega
def abcL : List Nat := [97, 98, 99, 100, 101, 102, 103, 104, 105, 106, 107, 108, 109, 110, 111, 112, 113, 114, 115, 116, 117, 118, 119, 120, 121, 122]
theorem abc_low {c : Nat} (h : c ∈ abcL) : low c = true := List.all_eq_true.mp (show abcL.all low = true by decide) c h
theorem joinL_one : ∀ (l : List (List Nat)), (∀ x ∈ l, ∃ c, x = [c] ∧ low c = true) → (TL.joinL [] l).length = l.length ∧ (TL.joinL [] l).all low = true
  | [], _ => ⟨rfl, rfl⟩
  | [p], h => by
    obtain ⟨c, rfl, hc⟩ := h p (by simp)
    exact ⟨rfl, by show ([c] : List Nat).all low = true; simp [hc]⟩
  | p :: q :: r, h => by
    obtain ⟨c, rfl, hc⟩ := h p (by simp)
    obtain ⟨h1, h2⟩ := joinL_one (q :: r) fun x hx => h x (List.mem_cons_of_mem _ hx)
    refine ⟨?_, ?_⟩
    · show ([c] ++ ([] ++ TL.joinL [] (q :: r))).length = _
      rw [List.length_append, List.nil_append, h1]
      simp only [List.length_cons, List.length_nil]
      omega
    · show ([c] ++ ([] ++ TL.joinL [] (q :: r))).all low = true
      rw [List.nil_append, List.all_append, h2]
      simp [hc]
def sp_word : Sp := sp2 fun bg mo H Q _ => ∃ (p : Addr) (m : Nat), bg = .ref p ∧ mo = .int 8 ∧ BagH H p m ∧ m < 900000 ∧ ∀ v H', isK v = true → Dr p (m + 9) H H' → Q v H'
theorem o__law_word (T : TT K mg) : CalX PW w K mg base CX0 3 "_law_word" (sp_word) := by
  obtain ⟨fd, F⟩ := f__law_word T
  refine ⟨_, mk2 F (b__law_word F) sc__law_word fun a b cdv A outer s H Q E hr h => ⟨_, (pss_one (ps_ret (pe_bm PySem.F.plainAttrs_str PySem.F.slot_str_join PySem.F.type_str_join mt_join pe_str (pa_cons (pe_lc (own := [("_law_turn", 2)]) (g := gName 2) (tt := tYes) rfl sc__law_word.nd (pi_range1 rfl (z_range T) (pa_cons (wc (o__law_take T) hr (by decide) pass0 (pa_cons (pv 0) (pa_cons (pe_op op_add (pv 1) pe_int) pa_nil))) pa_nil)) (blkOk_by (N := ["_law_bag_here", "_law_most", "_law_turn"]) (sc := defScope s__law_word) (by decide +kernel)) (fun _ _ _ _ _ => pg_name (i := 2) sc__law_word.nd rfl (Or.inl rfl)) (fun _ _ _ _ _ => pts_nil) (fun _ _ _ _ _ => (wc (o__law_of T) hr (by decide) pass0 (pa_cons (pv 0) (pa_cons pe_str pa_nil))))) pa_nil)))), ?_⟩, g__law_word T, F.kp⟩
  obtain ⟨p, m, rfl, rfl, hb, hm, q⟩ := h
  refine s_retD ⟨rfl, ?_⟩
  refine do_lcT (n := 9) (c := 1) (m' := m + 1) (P := fun v _ => ∃ c, v = .str (S [c]) ∧ low c = true) hb (ev_var rfl) (ev_is (ev_op (ev_var rfl) ev_c rv_I0) rfl) (by decide) (by decide) (by omega) rfl (fun x => rfl) (fun v H1 H2 h _ => h) (fun i H2 hi d2 Q' q' => ?_) (fun l xs H2 k k1 hl h2 hn hp d2 => ?_)
  · exact do_ofS (z := abcL) d2.bag (ev_var rfl) ev_c (by decide) (by decide) (by omega) fun c H3 hc d3 => q' _ _ ⟨c, rfl, abc_low hc⟩ (d3.le (by omega))
  · obtain ⟨ys, rfl, hy⟩ : ∃ ys : List (List Nat), xs = ys.map (fun y => V.str (S y)) ∧ ∀ x ∈ ys, ∃ c, x = [c] ∧ low c = true := by
      clear h2 hn q
      induction xs with
      | nil => exact ⟨[], rfl, fun x hx => by cases hx⟩
      | cons v r ih =>
        obtain ⟨ys, e, hy⟩ := ih fun u hu => hp u (List.mem_cons_of_mem _ hu)
        obtain ⟨c, rfl, hc⟩ := hp v (by simp)
        refine ⟨[c] :: ys, by rw [e]; rfl, fun x hx => ?_⟩
        rcases List.mem_cons.mp hx with e | hx
        · exact ⟨c, e, hc⟩
        · exact hy x hx
    obtain ⟨j1, j2⟩ := joinL_one ys hy
    rw [List.length_map] at hn
    have hsum : (ys.map (·.length)).sum = ys.length := by
      clear j1 j2 hn h2 hp
      induction ys with
      | nil => rfl
      | cons y r ih =>
        obtain ⟨c, rfl, _⟩ := hy y (by simp)
        rw [List.map_cons, List.sum_cons, ih fun x hx => hy x (List.mem_cons_of_mem _ hx)]
        simp only [List.length_cons, List.length_nil]
        omega
    refine ⟨S [], l, ys.map S, rfl, rfl, .inl (by rw [List.map_map]; exact sq_of h2), ?_, ?_⟩
    · rw [lens, hsum, List.length_map]
      show ys.length + ys.length * 0 ≤ _
      omega
    · rw [join_S]
      exact q _ _ (isK_w (by omega) j2) (d2.le (by omega))
def sp_const : Sp := sp1 fun bg H Q _ => ∃ (p : Addr) (m : Nat), bg = .ref p ∧ BagH H p m ∧ m < 800000 ∧ ∀ v H', isK v = true → Dr p (m + 12) H H' → Q v H'
theorem o__law_any_constant (T : TT K mg) : CalX PW w K mg base CX0 4 "_law_any_constant" (sp_const) := by
  obtain ⟨fd, F⟩ := f__law_any_constant T
  refine ⟨_, mk1 F (b__law_any_constant F) sc__law_any_constant fun a cdv A outer s H Q E hr h => ⟨_, (pss_cons (ps_set (i := 1) sc__law_any_constant.nd rfl (Or.inl rfl) (wc (o__law_take T) hr (by decide) pass0 (pa_cons (pv 0) (pa_cons pe_int pa_nil))))
        (pss_cons (ps_if (pt_cmpR op_eq (pv 1) pe_int (nomark _)) (pss_one (ps_ret pe_non)) pss_nil)
        (pss_cons (ps_if (pt_cmpR op_eq (pv 1) pe_int (nomark _)) (pss_one (ps_ret (wc (o__law_of T) hr (by decide) pass0 (pa_cons (pv 0) (pa_cons (pe_lst (pa_cons pe_int (pa_cons pe_int (pa_cons (pe_un un_neg pe_int) (pa_cons pe_int (pa_cons (pe_un un_neg pe_int) (pa_cons pe_int (pa_cons (pe_op op_sub (pe_op op_pow pe_int pe_int) pe_int) (pa_cons (pe_op op_sub pe_int (pe_op op_pow pe_int pe_int)) pa_nil))))))))) pa_nil))))) pss_nil)
        (pss_one (ps_ret (pe_ifExp (pt_cmpR op_lt (pv 1) pe_int (nomark _)) (wc (o__law_number T) hr (by decide) pass0 (pa_cons (pv 0) (pa_cons (pe_lst pa_nil) pa_nil))) (wc (o__law_word T) hr (by decide) pass0 (pa_cons (pv 0) (pa_cons pe_int pa_nil))))))))), ?_⟩, g__law_any_constant T, F.kp⟩
  obtain ⟨p, m, rfl, hb, hm, q⟩ := h
  refine asg_d (do_take (n := 6) hb (ev_var rfl) ev_c (by decide) (by decide) (by omega) fun k H1 k0 k1 d1 => ?_)
  refine q_when (b := decide (V.int k = V.int 0)) (et_test (ev_op (ev_var rfl) ev_c (rv_eq rfl))) (fun _ H2 e2 => ?_) fun _ H2 e2 => ?_
  · exact s_ret ev_c fun H3 e3 => q _ _ rfl ((d1.ex (e2.trans e3)).le (by omega))
  · refine q_when (b := decide (V.int k = V.int 1)) (et_test (ev_op (ev_var rfl) ev_c (rv_eq rfl))) (fun _ H3 e3 => ?_) fun _ H3 e3 => ?_
    · have pw : ∀ {σ : L2.St} {H : Hp}, Ev (tOp (rI CPow fun i j => .int (i ^ j.toNat)) (tC (.int 10)) (tC (.int 30))) σ H (.int ((10 : Int) ^ (30 : Int).toNat)) := ev_op ev_c ev_c (rv_I (g := fun i j => .int (i ^ j.toNat)) ⟨by decide, by decide, by decide⟩)
      refine s_retD (do_ofL (d1.bag.ex (e2.trans e3)) (ev_var rfl) (el_lst (ea_cons ev_c (ea_cons ev_c (ea_cons (ev_un ev_c ru_neg) (ea_cons ev_c (ea_cons (ev_un ev_c ru_neg) (ea_cons ev_c (ea_cons (ev_op pw ev_c (rv_I0 (g := fun i j => .int (i - j)))) (ea_cons (ev_op ev_c pw (rv_I0 (g := fun i j => .int (i - j)))) ea_nil)))))))) (by simp)) (by simp) (by simp) (by omega) fun v H4 hv d4 => ?_)
      refine q _ _ ?_ (((d1.ex (e2.trans e3)).trans d4).le (by omega))
      simp only [List.mem_cons, List.not_mem_nil, or_false] at hv
      rcases hv with rfl | rfl | rfl | rfl | rfl | rfl | rfl | rfl <;> decide
    · refine s_retD ?_
      refine et_test (ev_op (ev_var rfl) ev_c rv_I0) H3 (Ex.refl _) _ fun H4 e4 => ?_
      have d4 := d1.ex ((e2.trans e3).trans e4)
      split
      · refine ⟨_, rfl, show 0 ≤ sizeLine by decide, fun l hl => ?_⟩
        exact ⟨_, _, rfl, p, l, m + 1, rfl, rfl, upd_same, d4.bag.ex (Ex.new hl), by omega, fun v H' hv d => q v H' hv ((((d4.ex (Ex.new hl))).trans d).le (by omega))⟩
      · exact ⟨_, rfl, _, _, rfl, p, m + 1, rfl, rfl, d4.bag, by omega, fun v H' hv d => q v H' hv ((d4.trans d).le (by omega))⟩
end WP
set_option Elab.async false
set_option linter.all false
set_option maxRecDepth 100000
set_option maxHeartbeats 4000000
/-! names and calls -/
namespace WP
open PySem PySem.Spec PyProof.Rows L2 Evl SX
variable {w : World} {K : PySem.W.Frag} {mg : Str → Option Value} {base : Heap}
def sp_written : Sp := sp1 fun v H Q _ => isK v = true ∧ RetV (.str (S (kTxt v))) H Q
theorem o__law_written (T : TT K mg) : CalX PW w K mg base CX0 1 "_law_written" sp_written := by
  obtain ⟨fd, F⟩ := f__law_written T
  refine ⟨_, mk1 F (b__law_written F) sc__law_written fun a cdv A outer s H Q E hr h => ⟨_, (pss_cons (ps_if (pt_val (pe_callB call_isi rfl (z_isinstance T) (by decide +kernel) (pa_cons (pv 0) (pa_cons (pe_bltn (v := .ty "tuple") (u := .type "tuple") rfl (z_tuple T) (by decide +kernel) rfl) pa_nil)))) (pss_one ps_never) pss_nil)
        (pss_cons (ps_if (pt_cmpR op_isN (pv 0) pe_non (nomark _)) (pss_one (ps_ret pe_str)) pss_nil)
        (pss_one (ps_ret (pe_ifExp (pt_val (pe_callB call_isi rfl (z_isinstance T) (by decide +kernel) (pa_cons (pv 0) (pa_cons (pe_bltn (v := .ty "str") (u := .type "str") rfl (z_str T) (by decide +kernel) rfl) pa_nil)))) (pe_op op_add_str (pe_op op_add_str pe_str (pv 0)) pe_str) (pe_callTy call_str_int rfl (z_str T) (by decide +kernel) (pa_cons (pv 0) pa_nil))))))), ?_⟩, g__law_written T, F.kp⟩
  obtain ⟨hk, q⟩ := h
  have hs := isK_sc hk
  refine q_when (b := false) (et_B (ev_isi (ev_var rfl) (fun H1 _ => tyx hs K H1) (b := false) ?_)) (fun hb => (Bool.false_ne_true hb).elim) fun _ H1 e1 => ?_
  · cases a <;> first | rfl | cases hs
  refine q_when (et_test (ev_op (ev_var rfl) ev_c rv_isN)) (fun hn H2 e2 => ?_) fun hn H2 e2 => ?_
  · have e : a = .non := of_decide_eq_true hn
    subst e
    exact s_ret ev_c fun H3 e3 => q.go ((e1.trans e2).trans e3)
  · refine s_ret (v := .str (S (kTxt a))) (ev_if (b := isS a) (et_B (ev_isi (ev_var rfl) (fun H1 _ => tyx hs K H1) (b := isS a) ?_)) (fun hb => ?_) fun hb => ?_) fun H3 e3 => q.go ((e1.trans e2).trans e3)
    · cases a <;> first | rfl | cases hs
    · cases a with
      | str z =>
        obtain ⟨l, rfl⟩ : ∃ l, z = S l := ⟨z.cps.toList, (S_tl z).symm⟩
        have hz : l.length ≤ 8 := (isK_str hk).1
        exact ev_op (ev_op (ev_c (v := .str (S [34]))) (ev_var rfl) (rv_addS (by simp; omega))) (ev_c (v := .str (S [34]))) (rv_addS (by simp; omega))
      | _ => cases hb
    · cases a with
      | int i =>
        refine ev_is (ev_cb (ea_cons (ev_var rfl) ea_nil) (z := .str (toString i : Str)) fun H3 _ Q' q' => ⟨i, rfl, ?_, q' H3 (Ex.refl H3)⟩) ?_
        · have h1 := isK_int hk i rfl
          by_cases h0 : i.natAbs = 0
          · rw [h0]; decide
          · exact Nat.lt_trans ((Nat.log2_lt h0).mpr (Nat.lt_trans h1 (by decide : 10 ^ 40 < 2 ^ 200))) (by decide)
        · exact congrArg V.str (S_tl _).symm
      | str z => cases hb
      | non => cases hn
      | _ => cases hs
def sp_ctext : Sp := sp2 fun nm vl H Q _ => ∃ (n : List Nat) (l : Addr) (vs : List V), nm = .str (S n) ∧ vl = .ref l ∧ H l = some (.lst vs) ∧ (Th.call n vs).wf ∧ RetV (.str (S (callT n vs))) H Q
theorem o__law_call_text (T : TT K mg) : CalX PW w K mg base CX0 2 "_law_call_text" sp_ctext := by
  obtain ⟨fd, F⟩ := f__law_call_text T
  refine ⟨_, mk2 F (b__law_call_text F) sc__law_call_text fun a b cdv A outer s H Q E hr h => ⟨_, (pss_one (ps_ret (pe_op op_add_str (pe_op op_add_str (pe_op op_add_str (pv 0) pe_str) (pe_bm PySem.F.plainAttrs_str PySem.F.slot_str_join PySem.F.type_str_join mt_join pe_str (pa_cons (pe_lc (own := [("_law_value", 2)]) (g := gName 2) (tt := tYes) rfl sc__law_call_text.nd (pi_list (pv 1)) (blkOk_by (N := ["_law_name", "_law_values", "_law_value"]) (sc := defScope s__law_call_text) (by decide +kernel)) (fun _ _ _ _ _ => pg_name (i := 2) sc__law_call_text.nd rfl (Or.inl rfl)) (fun _ _ _ _ _ => pts_nil) (fun _ _ _ _ _ => (wc (o__law_written T) hr (by decide) pass0 (pa_cons (pv 2) pa_nil)))) pa_nil))) pe_str))), ?_⟩, g__law_call_text T, F.kp⟩
  obtain ⟨n, l, vs, rfl, rfl, hl, wf, q⟩ := h
  obtain ⟨hn, h3, hk⟩ := id wf
  have h12 := isNm_len hn
  have hj : (TL.joinL [44, 32] (vs.map kTxt)).length ≤ 99 := by
    have := joinL_len (vs.map kTxt) 31 fun x hx => by
      obtain ⟨v, hv, rfl⟩ := List.mem_map.mp hx
      exact kTxt_len (hk v hv)
    rw [List.length_map] at this
    omega
  refine s_ret (v := .str (S (((n ++ [40]) ++ TL.joinL [44, 32] (vs.map kTxt)) ++ [41]))) (ev_op (ev_op (ev_op (ev_var rfl) (ev_c (v := .str (S [40]))) (rv_addS (by simp; omega))) (ev_join (sep := [44, 32]) (ys := vs.map kTxt) (el_is (el_map (fun v => .str (S (kTxt v))) (ie_list (ev_var rfl) (sq_of hl)) (by omega) (fun x => rfl) fun x H1 _ hx => ev_sp1 (ev_var rfl) fun H2 _ Q' q' => ⟨hk x hx, fun H3 e3 => q' H3 e3⟩) (by rw [List.map_map]; rfl)) ?_) (rv_addS ?_)) (ev_c (v := .str (S [41]))) (rv_addS ?_)) fun H1 e1 => ?_
  · have : ((vs.map kTxt).map (·.length)).sum ≤ vs.length * 31 := by
      clear q hl hj wf h3
      induction vs with
      | nil => exact Nat.le_refl _
      | cons v r ih =>
        have h1 := kTxt_len (hk v (by simp))
        have h2 := ih fun x hx => hk x (List.mem_cons_of_mem _ hx)
        simp only [List.map_cons, List.sum_cons, List.length_cons]
        omega
    rw [List.length_map]
    simp only [List.length_cons, List.length_nil]
    omega
  · simp only [List.length_append, List.length_cons, List.length_nil]
    omega
  · simp only [List.length_append, List.length_cons, List.length_nil]
    omega
  · have e : ((n ++ [40]) ++ TL.joinL [44, 32] (vs.map kTxt)) ++ [41] = callT n vs := by simp [callT]
    rw [e]
    exact q.go e1
def sp_kw : Sp := sp0 fun H Q _ => RetL (v_KEYWORDS.map V.str) H Q
theorem o__law_keywords (T : TT K mg) : CalX PW w K mg base CX0 1 "_law_keywords" sp_kw := by
  obtain ⟨fd, F⟩ := f__law_keywords T
  refine ⟨_, mk0 F (b__law_keywords F) sc__law_keywords fun cdv A outer s H Q E hr q => ⟨_, (pss_one (ps_ret (pe_lst (pa_cons pe_str (pa_cons pe_str (pa_cons pe_str (pa_cons pe_str (pa_cons pe_str (pa_cons pe_str (pa_cons pe_str (pa_cons pe_str (pa_cons pe_str (pa_cons pe_str (pa_cons pe_str (pa_cons pe_str (pa_cons pe_str (pa_cons pe_str (pa_cons pe_str (pa_cons pe_str (pa_cons pe_str (pa_cons pe_str (pa_cons pe_str (pa_cons pe_str (pa_cons pe_str (pa_cons pe_str (pa_cons pe_str (pa_cons pe_str (pa_cons pe_str (pa_cons pe_str (pa_cons pe_str (pa_cons pe_str (pa_cons pe_str (pa_cons pe_str (pa_cons pe_str (pa_cons pe_str (pa_cons pe_str (pa_cons pe_str pa_nil))))))))))))))))))))))))))))))))))))), ?_⟩, g__law_keywords T, F.kp⟩
  refine s_retL (el_is (el_lst (by repeat (first | exact ea_nil | refine ea_cons ev_c ?_)) (by decide)) rfl) fun p H2 hp e2 h2 => q p H2 hp e2 h2
section
variable {σ : L2.St} {H : Hp} {p : Addr} {m : Nat} {n : Int} {ta tb : TE} {E : XK} {D : Ends} {tu tz : TS}
/-- for .. in range(a draw) -/
theorem do_forT {j : Nat} (hb : BagH H p m) (ha : Ev ta σ H (.ref p)) (hn : Ev tb σ H (.int n)) (h0 : 0 < n) (h1 : n ≤ 1000) (hm : m < 1000000) (Pv : Nat → L2.St → Hp → Prop) (hi : ∀ H1, Dr p (m + 1) H H1 → Pv 0 σ H1)
    (hs : ∀ (i : Nat) σ' H', (i : Int) < n → Pv i σ' H' → tu { D with nx := Pv (i + 1), ct := Pv (i + 1), bk := tz D } (σ'.set j (some (.int (i : Int)))) H') (hd : ∀ (k : Nat) σ' H', (k : Int) < n → Pv k σ' H' → tz D σ' H') :
    tSeq (tFor (iRng1 (tCons (tF sp_take E (tCons ta (tCons tb tNil))) tNil)) (gName j) tu) tz D σ H :=
  do_take hb ha hn h0 (Int.le_trans h1 (by decide)) hm fun k H1 k0 k1 d1 => ⟨k, rfl, by omega, by omega, for_range (lo := 0) (n := k.toNat) (D := { D with nx := tz D }) Pv (hi H1 d1) (fun i σ' H' hik p => by
    show tu { D with nx := Pv (i + 1), ct := Pv (i + 1), bk := tz D } (σ'.set j (some (.int ((0 : Int) + (i : Int))))) H'
    rw [show (0 : Int) + (i : Int) = (i : Int) by omega]
    exact hs i σ' H' (by omega) p) fun σ' H' p => hd k.toNat σ' H' (by omega) p⟩
end
def sp_name : Sp := sp1 fun bg H Q _ => ∃ (p : Addr) (m : Nat), bg = .ref p ∧ BagH H p m ∧ m < 900000 ∧ ∀ (n : List Nat) H', isNm n = true → Dr p (m + 14) H H' → Q (.str (S n)) H'
theorem kw_q : (kwL.all fun k => isNm (113 :: k)) = true := by decide
theorem o__law_any_name (T : TT K mg) : CalX PW w K mg base CX0 3 "_law_any_name" sp_name := by
  obtain ⟨fd, F⟩ := f__law_any_name T
  refine ⟨_, mk1 F (b__law_any_name F) sc__law_any_name fun a cdv A outer s H Q E hr h => ⟨_, (PSs.nox (pss_cons (ps_set (i := 1) sc__law_any_name.nd rfl (Or.inl rfl) pe_str)
        (pss_cons (ps_set (i := 2) sc__law_any_name.nd rfl (Or.inl rfl) (wc (o__law_of T) hr (by decide) pass0 (pa_cons (pv 0) (pa_cons (pv 1) pa_nil))))
        (pss_cons (ps_for PassesOwn.never rfl (pi_range1 rfl (z_range T) (pa_cons (wc (o__law_take T) hr (by decide) pass0 (pa_cons (pv 0) (pa_cons pe_int pa_nil))) pa_nil)) (pg_name (i := 3) sc__law_any_name.nd rfl (Or.inl rfl)) (pss_one (ps_set (i := 2) sc__law_any_name.nd rfl (Or.inl rfl) (pe_op op_add_str (pv 2) (wc (o__law_of T) hr (by decide) pass0 (pa_cons (pv 0) (pa_cons (pv 1) pa_nil)))))))
        (pss_cons (ps_if (pt_cmpR op_in_seq (pv 2) (wc0 (o__law_keywords T) hr (by decide) pass0) (by with_unfolding_all rfl)) (pss_one (ps_set (i := 2) sc__law_any_name.nd rfl (Or.inl rfl) (pe_op op_add_str pe_str (pv 2)))) pss_nil)
        (pss_one (ps_ret (pv 2)))))))), ?_⟩, g__law_any_name T, F.kp⟩
  obtain ⟨p, m, rfl, hb, hm, q⟩ := h
  refine q_asg (v := .str (S abcL)) ev_c fun H1 e1 => ?_
  refine asg_d (do_ofS (z := abcL) (hb.ex e1) (ev_var rfl) (ev_var rfl) (by decide) (by decide) (by omega) fun c H2 hc d2 => ?_)
  have d2 := Ex.dr e1 d2
  refine do_forT (n := 12) d2.bag (ev_var rfl) ev_c (by decide) (by decide) (by omega) (fun i σ' H' => Dr p (m + 2 + i) H H' ∧ ∃ (l : List Nat) (o : Option V), l.length = i + 1 ∧ l.all low = true ∧ σ' = [some (.ref p), some (.str (S abcL)), some (.str (S l)), o]) (fun H3 d3 => ⟨d2.trans d3, [c], none, rfl, by simp [abc_low hc], rfl⟩) (fun i σ' H' hi pv => ?_) fun k σ' H' hk pv => ?_
  · obtain ⟨d3, l, o, h1, h2, rfl⟩ := pv
    refine ⟨.str (S l), rfl, ?_⟩
    refine do_ofS (z := abcL) d3.bag (ev_var rfl) (ev_var rfl) (by decide) (by decide) (by omega) fun c H4 hc d4 => ?_
    refine ⟨S l, S [c], rfl, rfl, by rw [S_len, S_len]; exact sz_of (by simp; omega), ?_⟩
    rw [S_cat]
    exact ⟨(d3.trans d4).le (by omega), l ++ [c], _, by rw [List.length_append, h1]; rfl, by rw [List.all_append, h2]; simp [abc_low hc], rfl⟩
  · obtain ⟨d3, l, o, h1, h2, rfl⟩ := pv
    have hne : l ≠ [] := fun z => by rw [z] at h1; cases h1
    refine q_when (b := kwL.any fun k => decide (k = l)) (et_is (et_test (ev_opL (ev_var rfl) (xs := v_KEYWORDS.map V.str) ?_ fun z H4 hz _ => rv_isL (sq_of hz) rfl (by rw [List.all_map]; exact List.all_eq_true.mpr fun _ _ => rfl))) inV_str) (fun hb' H4 e4 => ?_) fun hb' H4 e4 => ?_
    · exact fun H4 e4 Q' q' => ⟨rfl, q'⟩
    · obtain ⟨k, hk1, hk2⟩ := List.any_eq_true.mp hb'
      have hk2 := of_decide_eq_true hk2
      subst hk2
      have hq := List.all_eq_true.mp kw_q k hk1
      refine s_asg (v := .str (S (113 :: k))) (ev_op (ev_c (v := .str (S [113]))) (ev_var rfl) (rv_addS (a := [113]) (b := k) (by simp; omega))) fun H5 e5 => s_ret (ev_var rfl) fun H6 e6 => q _ _ hq ((d3.ex ((e4.trans e5).trans e6)).le (by omega))
    · refine s_ret (ev_var rfl) fun H6 e6 => q _ _ ?_ ((d3.ex (e4.trans e6)).le (by omega))
      unfold isNm
      rw [h2, hb', decide_eq_true (show ((l.length : Nat) : Int) ≤ 12 by omega), decide_eq_false hne]
      rfl
def sp_acall : Sp := sp1 fun bg H Q _ => ∃ (p : Addr) (m : Nat), bg = .ref p ∧ BagH H p m ∧ m < 700000 ∧ ∀ (n : List Nat) (vs : List V) H', (Th.call n vs).wf → Dr p (m + 60) H H' → Q (.str (S (callT n vs))) H'
theorem o__law_any_call (T : TT K mg) : CalX PW w K mg base CX0 5 "_law_any_call" sp_acall := by
  obtain ⟨fd, F⟩ := f__law_any_call T
  refine ⟨_, mk1 F (b__law_any_call F) sc__law_any_call fun a cdv A outer s H Q E hr h => ⟨_, (pss_cons (ps_setLc (i := 1) (own := [("_law_turn", 2)]) (g := gName 2) (tt := tYes) rfl sc__law_any_call.nd rfl rfl (sw_true rfl rfl rfl (by decide +kernel)) (pi_range1 rfl (z_range T) (pa_cons (wc (o__law_take T) hr (by decide) pass0 (pa_cons (pv 0) (pa_cons pe_int pa_nil))) pa_nil)) (blkOk_by (N := ["_law_bag_here", "_law_some", "_law_turn"]) (sc := defScope s__law_any_call) (by decide +kernel)) (fun _ _ _ _ _ => pg_name (i := 2) sc__law_any_call.nd rfl (Or.inl rfl)) (fun _ _ _ _ _ => pts_nil) (fun _ _ _ _ _ => (wc (o__law_any_constant T) hr (by decide) pass0 (pa_cons (pv 0) pa_nil))))
        (pss_one (ps_ret (wc (o__law_call_text T) hr (by decide) pass0 (pa_cons (wc (o__law_any_name T) hr (by decide) pass0 (pa_cons (pv 0) pa_nil)) (pa_cons (pv 1) pa_nil)))))), ?_⟩, g__law_any_call T, F.kp⟩
  obtain ⟨p, m, rfl, hb, hm, q⟩ := h
  refine asg_d (do_lcT (n := 4) (c := 12) (m' := m + 1) (P := fun v _ => isK v = true) hb (ev_var rfl) ev_c (by decide) (by decide) (by omega) rfl (fun x => rfl) (fun v H1 H2 h _ => h) (fun i H2 hi d2 Q' q' => ?_) (fun l xs H2 k k1 hl h2 hn hp d2 => ?_))
  · exact ⟨_, rfl, _, rfl, p, m + 1 + 12 * i, rfl, d2.bag, by omega, fun v H3 hv d3 => q' v H3 hv d3⟩
  · refine s_retD ?_
    refine ⟨_, rfl, _, rfl, p, _, rfl, d2.bag, by omega, fun n H3 hn d3 => ?_⟩
    have h3 := d3.ch _ _ h2 (hb.fresh hl)
    exact ⟨_, rfl, _, _, rfl, n, l, xs, rfl, rfl, h3, ⟨hn, by omega, hp⟩, fun H4 e4 => q n xs H4 ⟨hn, by omega, hp⟩ (((d2.trans d3).ex e4).le (by omega))⟩
end WP
set_option Elab.async false
set_option linter.all false
set_option maxRecDepth 100000
set_option maxHeartbeats 4000000
/-! a line drawn -/
namespace WP
open PySem PySem.Spec PyProof.Rows L2 Evl SX
variable {w : World} {K : PySem.W.Frag} {mg : Str → Option Value} {base : Heap}
section
variable {K : PySem.W.Frag} {σ : L2.St} {H : Hp} {p d : Addr} {m : Nat} {n : Int} {ta tb td : TE} {E : XK} {D : Ends} {tu tz : TS} {xs ys : List V} {v : V}
theorem ev_dgk {k : Str} {kvs : List (Key × V)} (hx : Ev td σ H (.ref d)) (hd : H d = some (.dK kvs)) (hv : valV kvs (.inr k) = some v) : Ev (tDGet td (tC (.str k))) σ H v := fun H1 e Q q => hx H1 e _ fun H2 e2 => ⟨d, v, rfl, hv ▸ DGet.k (k := .inr k) ((e.trans e2) _ _ hd), q H2 e2⟩
/-- some list of these values, of one's own -/
def EvW (te : TE) (σ : L2.St) (H : Hp) (xs : List V) : Prop := ∀ H1, Ex H H1 → ∀ Q : VK, (∀ p H2, Ex H1 H2 → H2 p = some (.lst xs) → Q (.ref p) H2) → te σ H1 Q
theorem owl (h : EvL ta σ H xs) : EvW ta σ H xs := fun H1 e Q q => h H1 e Q fun p H2 _ e2 h2 => q p H2 e2 h2
theorem ow1 {l : Addr} (h : Ev ta σ H (.ref l)) (hl : H l = some (.lst xs)) : EvW ta σ H xs := fun H1 e Q q => h H1 e Q fun H2 e2 => q l H2 e2 ((e.trans e2) _ _ hl)
theorem el_cat (ha : EvW ta σ H xs) (hb : EvW tb σ H ys) (hz : xs.length + ys.length ≤ 100000) : EvL (tOp rCat ta tb) σ H (xs ++ ys) := fun H1 e Q q =>
  ha H1 e _ fun a H2 e2 h2 => hb H2 (e.trans e2) _ fun b H3 e3 h3 => ⟨a, b, xs, ys, rfl, rfl, e3 _ _ h2, h3, sz_of hz, fun p hp => q p _ (fresh_back (e2.trans e3) hp) ((e2.trans e3).trans (Ex.new hp)) upd_same⟩
theorem el_rep2 (ha : EvW ta σ H xs) (hz : xs.length ≤ 1000) : EvL (tOp rRep ta (tC (.int 2))) σ H (xs ++ xs) := fun H1 e Q q =>
  ha H1 e _ fun a H2 e2 h2 => ⟨a, 2, xs, rfl, rfl, h2, by decide, by decide, sz_of (show xs.length * 2 ≤ 100000 by omega), fun p hp => q p _ (fresh_back e2 hp) (e2.trans (Ex.new hp)) (by rw [upd_same]; show some (HO.lst (xs ++ (xs ++ []))) = _; rw [List.append_nil])⟩
theorem el_slW {tl th : TO} {lo hi : Option Int} (h : EvW ta σ H xs) (h1 : EvO tl σ H lo) (h2 : EvO th σ H hi) : EvL (tSl (rSlL K) ta tl th) σ H (cutV xs lo hi) := fun H1 e _ q =>
  h H1 e _ fun a H2 e2 ha => h1 H2 (e.trans e2) _ fun H3 e3 => h2 H3 ((e.trans e2).trans e3) _ fun H4 e4 =>
    ⟨a, xs, rfl, sq_of ((e3.trans e4) _ _ ha), fun p hp => q p _ (fresh_back ((e2.trans e3).trans e4) hp) (((e2.trans e3).trans e4).trans (Ex.new hp)) upd_same⟩
theorem mem_cutV {lo hi : Option Int} (h : v ∈ cutV xs lo hi) : v ∈ xs := List.mem_of_mem_drop (List.mem_of_mem_take h)
theorem stV_ne {l : List (List Nat)} : ∀ i j k : Int, HO.lst (stV l) ≠ .lst [.int i, .int j, .int k] := fun i j k e => by
  cases l with
  | nil => cases HO.lst.inj e
  | cons a r => cases HO.lst.inj e
/-! ### lines -/
/-- a line as the law holds it -/
def LineV (H : Hp) (v : V) : Prop := ∃ (q : Addr) (l : LK) (x : List Nat), v = .ref q ∧ H q = some (.tup [.str l.kd.1, .str l.kd.2.1, .str l.kd.2.2, .str (S x)]) ∧ LineT x l
theorem LineV.nl {H H' : Hp} (h : LineV H v) (n : NLs H H') : LineV H' v := by
  obtain ⟨q, l, x, e, h1, h2⟩ := h
  exact ⟨q, l, x, e, n _ _ h1 (fun _ z => by cases z), h2⟩
/-- the list of lines at ls, since H0 -/
structure LI (p : Addr) (m : Nat) (H0 : Hp) (ls : Addr) (n : Nat) (H : Hp) : Prop where
  dr : Dr p m H0 H
  nw : H0 ls = none
  ne : ls ≠ p
  ls : ∃ xs, H ls = some (.lst xs) ∧ xs.length = n ∧ ∀ v ∈ xs, LineV H v
/-- some.append((kind, name, other, text)) -/
theorem q_line {H0 : Hp} {ls : Addr} {n m m' : Nat} {t : TA} (I : LI p m H0 ls n H) (h6 : σ[6]? = some (some (.ref ls))) (hn : n < 1000) (ht : ∀ Q : List V → Hp → Prop, (∀ (l : LK) (x : List Nat) H1, LineT x l → Dr p m' H H1 → Q [.str l.kd.1, .str l.kd.2.1, .str l.kd.2.2, .str (S x)] H1) → t σ H Q)
    (k : ∀ H', LI p m' H0 ls (n + 1) H' → tz D σ H') : tSeq (tDrop (tBM K "list" rAppend (tVar 6) (tCons (tTup t) tNil))) tz D σ H := by
  obtain ⟨xs, h1, h2, h3⟩ := I.ls
  refine ⟨.ref ls, h6, .inl ⟨rfl, xs, sq_of h1⟩, ?_⟩
  refine ht _ fun l x H1 lt d1 => ⟨show 4 ≤ sizeLine by decide, fun q hq => ?_⟩
  have d2 := d1.ex (Ex.new (o := .tup [.str l.kd.1, .str l.kd.2.1, .str l.kd.2.2, .str (S x)]) hq)
  have hls := d2.ch _ _ h1 I.ne
  refine ⟨ls, xs, .ref q, rfl, rfl, hls, sz_lt (by omega), k _ ?_⟩
  have nu : NLs (upd H1 q (.tup [.str l.kd.1, .str l.kd.2.1, .str l.kd.2.2, .str (S x)])) (upd (upd H1 q (.tup [.str l.kd.1, .str l.kd.2.1, .str l.kd.2.2, .str (S x)])) ls (.lst (xs ++ [.ref q]))) := NLs.upd hls
  refine ⟨⟨?_, ?_⟩, I.nw, I.ne, xs ++ [.ref q], upd_same, by rw [List.length_append, h2]; rfl, fun v hv => ?_⟩
  · intro a o ha hn
    rw [upd_ne (ne_of_none ha I.nw)]
    exact (I.dr.trans d2).ch a o ha hn
  · obtain ⟨a, b, c, e, r⟩ := d2.bag
    exact ⟨a, b, c, by rw [upd_ne (Ne.symm I.ne)]; exact e, r⟩
  · rcases List.mem_append.mp hv with hv | hv
    · exact (h3 v hv).nl ((d2.nl I.dr.bag).trans nu)
    · rw [List.mem_singleton] at hv
      subst hv
      exact ⟨q, l, x, rfl, nu _ _ upd_same (fun _ z => by cases z), lt⟩
/-- the same, nothing drawn -/
theorem q_lineP {H0 : Hp} {ls : Addr} {n m : Nat} {t : TA} {l : LK} {x : List Nat} (I : LI p m H0 ls n H) (h6 : σ[6]? = some (some (.ref ls))) (hn : n < 1000) (lt : LineT x l) (ht : EvA t σ H [.str l.kd.1, .str l.kd.2.1, .str l.kd.2.2, .str (S x)])
    (k : ∀ H', LI p m H0 ls (n + 1) H' → tz D σ H') : tSeq (tDrop (tBM K "list" rAppend (tVar 6) (tCons (tTup t) tNil))) tz D σ H :=
  q_line I h6 hn (fun Q q => ht H (Ex.refl _) _ fun H1 e1 => q l x H1 lt ((Dr.refl I.dr.bag).ex e1)) k
/-- the text drawn from a list -/
theorem q_lineD {H0 : Hp} {ls : Addr} {n m : Nat} {ta tb tc tp tl : TE} {E : XK} {a b c : V} {xs : List V} (I : LI p m H0 ls n H) (h6 : σ[6]? = some (some (.ref ls))) (hn : n < 1000) (hm : m < 900000) (ha : Ev ta σ H a) (hb : Ev tb σ H b) (hc : Ev tc σ H c) (hp : Ev tp σ H (.ref p)) (hl : EvL tl σ H xs) (hne : xs ≠ []) (hz : xs.length ≤ 1000)
    (hv : ∀ v ∈ xs, ∃ (l : LK) (x : List Nat), LineT x l ∧ v = .str (S x) ∧ a = .str l.kd.1 ∧ b = .str l.kd.2.1 ∧ c = .str l.kd.2.2)
    (k : ∀ H', LI p (m + 1) H0 ls (n + 1) H' → tz D σ H') : tSeq (tDrop (tBM K "list" rAppend (tVar 6) (tCons (tTup (tCons ta (tCons tb (tCons tc (tCons (tF sp_of E (tCons tp (tCons tl tNil))) tNil))))) tNil))) tz D σ H :=
  q_line I h6 hn (fun Q q => ha H (Ex.refl _) _ fun H1 e1 => hb H1 e1 _ fun H2 e2 => hc H2 (e1.trans e2) _ fun H3 e3 => by
    have e := (e1.trans e2).trans e3
    refine do_ofL (I.dr.bag.ex e) (hp.mono e) (hl.mono e) hne hz (by omega) fun v H4 hv' d4 => ?_
    obtain ⟨l, x, lt, rfl, rfl, rfl, rfl⟩ := hv v hv'
    exact q l x H4 lt (Ex.dr e d4)) k
end
/-- the state's names, flags and call -/
structure NmH (H : Hp) (d : Addr) (cn : List Nat) (cv : List V) (nl pl : List (List Nat)) : Prop where
  d : ∃ kvs np pp, H d = some (.dK kvs) ∧ valV kvs (.inr "names") = some (.ref np) ∧ valV kvs (.inr "pool") = some (.ref pp) ∧ valV kvs (.inr "call") = some (.str (S (callT cn cv))) ∧ H np = some (.lst (stV nl)) ∧ H pp = some (.lst (stV pl))
  wf : (Th.call cn cv).wf
  nn : nl ≠ [] ∧ nl.length ≤ 1000 ∧ ∀ n ∈ nl, isNm n = true
  pn : pl ≠ [] ∧ pl.length ≤ 1000 ∧ ∀ n ∈ pl, isNm n = true
def sp_line : Sp := sp2 fun bg sd H Q _ => ∃ (p : Addr) (m : Nat) (d : Addr) (cn : List Nat) (cv : List V) (nl pl : List (List Nat)), bg = .ref p ∧ sd = .ref d ∧ BagH H p m ∧ m < 600000 ∧ NmH H d cn cv nl pl ∧ ∀ v H', LineV H' v → Dr p (m + 15) H H' → Q v H'
theorem stV_mem {l : List (List Nat)} {v : V} (h : v ∈ stV l) : ∃ n ∈ l, v = .str (S n) := by
  obtain ⟨n, h1, h2⟩ := List.mem_map.mp h
  exact ⟨n, h1, h2.symm⟩
theorem lst3 {t1 t2 t3 : TE} {σ : L2.St} {H : Hp} {Q : VK} (h : t1 σ H fun v1 H1 => t2 σ H1 fun v2 H2 => t3 σ H2 fun v3 H3 => 3 ≤ sizeLine ∧ ∀ p, H3 p = none → Q (.ref p) (upd H3 p (.lst [v1, v2, v3]))) : tLst (tCons t1 (tCons t2 (tCons t3 tNil))) σ H Q := h
theorem LI.draw {p : Addr} {m m' n : Nat} {H0 H H' : Hp} {ls : Addr} (I : LI p m H0 ls n H) (d : Dr p m' H H') : LI p m' H0 ls n H' := by
  obtain ⟨xs, h1, h2, h3⟩ := I.ls
  exact ⟨I.dr.trans d, I.nw, I.ne, xs, d.ch _ _ h1 I.ne, h2, fun v hv => (h3 v hv).nl (d.nl I.dr.bag)⟩
/-- ('flag', flag, '', of(bag, [..]) + flag) -/
theorem do_flag {σ : L2.St} {H : Hp} {p : Addr} {m : Nat} {f : List Nat} {E : XK} {Q : List V → Hp → Prop} (hf : isNm f = true) (hb : BagH H p m) (hm : m < 900000) (h0 : σ[0]? = some (some (.ref p))) (h4 : σ[4]? = some (some (.str (S f))))
    (q : ∀ (l : LK) (x : List Nat) H1, LineT x l → l.kd = (("flag" : Str), S f, S []) → Dr p (m + 1) H H1 → Q [.str "flag", .str (S f), .str (S []), .str (S x)] H1) :
    (tCons (tC (.str "flag")) (tCons (tVar 4) (tCons (tC (.str "")) (tCons (tOp (fun x y H Q => ∃ i j, x = .str i ∧ y = .str j ∧ i.length + j.length ≤ sizeLine ∧ Q (.str (i ++ j)) H) (tF sp_of E (tCons (tVar 0) (tCons (tLst (tCons (tC (.str "set ")) (tCons (tC (.str "clear ")) (tCons (tC (.str "assert on ")) tNil)))) tNil))) (tVar 4)) tNil)))) σ H Q := by
  refine ⟨.str (S f), h4, ?_⟩
  refine do_ofL (xs := [.str (S [115, 101, 116, 32]), .str (S [99, 108, 101, 97, 114, 32]), .str (S [97, 115, 115, 101, 114, 116, 32, 111, 110, 32])]) hb (ev_var h0) (el_lst (ea_cons ev_c (ea_cons ev_c (ea_cons ev_c ea_nil))) (by simp)) (by simp) (by simp) (by omega) fun v H1 hv d1 => ?_
  have hfl := isNm_len hf
  obtain ⟨y, l, rfl, hy, lt, hk⟩ : ∃ (y : List Nat) (l : LK), v = .str (S y) ∧ y.length ≤ 20 ∧ LineT (y ++ f) l ∧ l.kd = (("flag" : Str), S f, S []) := by
    simp only [List.mem_cons, List.not_mem_nil, or_false] at hv
    rcases hv with rfl | rfl | rfl
    · exact ⟨_, _, rfl, by simp, l_set hf, rfl⟩
    · exact ⟨_, _, rfl, by simp, l_clear hf, rfl⟩
    · exact ⟨_, _, rfl, by simp, l_on hf, rfl⟩
  refine ⟨.str (S f), h4, S y, S f, rfl, rfl, by rw [S_len, S_len]; exact sz_of (by omega), ?_⟩
  rw [S_cat]
  exact q l (y ++ f) H1 lt hk d1
theorem o__law_line (T : TT K mg) : CalX PW w K mg base CX0 3 "_law_line" sp_line := by
  obtain ⟨fd, F⟩ := f__law_line T
  refine ⟨_, mk2 F (b__law_line F) sc__law_line fun a b cdv A outer s H Q E hr h => ⟨_, (have hu := hu_of hr; (pss_cons (ps_par (i := 2) (j := 3) rfl sc__law_line.nd rfl rfl (by decide) rfl rfl (pa_cons (wc (o__law_of T) hr (by decide) pass0 (pa_cons (pv 0) (pa_cons (pe_dget hu (pv 1) pe_str (fun _ _ => rfl)) pa_nil))) (pa_cons (wc (o__law_of T) hr (by decide) pass0 (pa_cons (pv 0) (pa_cons (pe_dget hu (pv 1) pe_str (fun _ _ => rfl)) pa_nil))) pa_nil)) rfl)
        (pss_cons (ps_par (i := 4) (j := 5) rfl sc__law_line.nd rfl rfl (by decide) rfl rfl (pa_cons (wc (o__law_of T) hr (by decide) pass0 (pa_cons (pv 0) (pa_cons (pe_dget hu (pv 1) pe_str (fun _ _ => rfl)) pa_nil))) (pa_cons (pe_dget hu (pv 1) pe_str (fun _ _ => rfl)) pa_nil)) rfl)
        (pss_cons (ps_set (i := 6) sc__law_line.nd rfl (Or.inl rfl) (pe_lst (pa_cons (pe_tup (pa_cons pe_str (pa_cons pe_str (pa_cons pe_str (pa_cons pe_str pa_nil))))) (pa_cons (pe_tup (pa_cons pe_str (pa_cons pe_str (pa_cons pe_str (pa_cons pe_str pa_nil))))) (pa_cons (pe_tup (pa_cons pe_str (pa_cons pe_str (pa_cons pe_str (pa_cons pe_str pa_nil))))) pa_nil)))))
        (pss_cons (ps_expr (pe_bm PySem.F.plainAttrs_list PySem.F.slot_list_append PySem.F.type_list_append mt_append (pv 6) (pa_cons (pe_tup (pa_cons pe_str (pa_cons pe_str (pa_cons pe_str (pa_cons (wc (o__law_of T) hr (by decide) pass0 (pa_cons (pv 0) (pa_cons (pe_lst (pa_cons pe_str (pa_cons pe_str (pa_cons pe_str (pa_cons pe_str pa_nil))))) pa_nil))) pa_nil))))) pa_nil)))
        (pss_cons (ps_expr (pe_bm PySem.F.plainAttrs_list PySem.F.slot_list_append PySem.F.type_list_append mt_append (pv 6) (pa_cons (pe_tup (pa_cons pe_str (pa_cons pe_str (pa_cons pe_str (pa_cons (wc (o__law_of T) hr (by decide) pass0 (pa_cons (pv 0) (pa_cons (pe_lst (pa_cons (pe_op op_add_str pe_str (pv 5)) (pa_cons (pe_op op_add_str pe_str (pv 5)) (pa_cons (pe_op op_add_str pe_str (pv 5)) pa_nil)))) pa_nil))) pa_nil))))) pa_nil)))
        (pss_cons (ps_expr (pe_bm PySem.F.plainAttrs_list PySem.F.slot_list_append PySem.F.type_list_append mt_append (pv 6) (pa_cons (pe_tup (pa_cons pe_str (pa_cons (pv 2) (pa_cons pe_str (pa_cons (pe_op op_add_str (pe_op op_add_str (pe_op op_add_str pe_str (pv 2)) pe_str) (pv 5)) pa_nil))))) pa_nil)))
        (pss_cons (ps_expr (pe_bm PySem.F.plainAttrs_list PySem.F.slot_list_append PySem.F.type_list_append mt_append (pv 6) (pa_cons (pe_tup (pa_cons pe_str (pa_cons (pv 2) (pa_cons pe_str (pa_cons (wc (o__law_of T) hr (by decide) pass0 (pa_cons (pv 0) (pa_cons (pe_lst (pa_cons (pe_op op_add_str pe_str (pv 2)) (pa_cons (pe_op op_add_str (pe_op op_add_str pe_str (pv 2)) pe_str) pa_nil))) pa_nil))) pa_nil))))) pa_nil)))
        (pss_cons (ps_expr (pe_bm PySem.F.plainAttrs_list PySem.F.slot_list_append PySem.F.type_list_append mt_append (pv 6) (pa_cons (pe_tup (pa_cons pe_str (pa_cons (pv 2) (pa_cons pe_str (pa_cons (pe_op op_add_str (pe_op op_add_str pe_str (pv 2)) pe_str) pa_nil))))) pa_nil)))
        (pss_cons (ps_set (i := 7) sc__law_line.nd rfl (Or.inl rfl) (wc (o__law_of T) hr (by decide) pass0 (pa_cons (pv 0) (pa_cons (pe_lst (pa_cons (pe_op op_add_str (pv 2) pe_str) (pa_cons (pe_op op_add_str (pe_op op_add_str pe_str (pv 2)) pe_str) (pa_cons (pe_op op_add_str pe_str (pv 2)) pa_nil)))) pa_nil))))
        (pss_cons (ps_expr (pe_bm PySem.F.plainAttrs_list PySem.F.slot_list_append PySem.F.type_list_append mt_append (pv 6) (pa_cons (pe_tup (pa_cons pe_str (pa_cons (pv 2) (pa_cons pe_str (pa_cons (pe_op op_add_str pe_str (pv 7)) pa_nil))))) pa_nil)))
        (pss_cons (ps_expr (pe_bm PySem.F.plainAttrs_list PySem.F.slot_list_append PySem.F.type_list_append mt_append (pv 6) (pa_cons (pe_tup (pa_cons pe_str (pa_cons (pv 4) (pa_cons pe_str (pa_cons (pe_op op_add_str (wc (o__law_of T) hr (by decide) pass0 (pa_cons (pv 0) (pa_cons (pe_lst (pa_cons pe_str (pa_cons pe_str (pa_cons pe_str pa_nil)))) pa_nil))) (pv 4)) pa_nil))))) pa_nil)))
        (pss_cons (ps_expr (pe_bm PySem.F.plainAttrs_list PySem.F.slot_list_append PySem.F.type_list_append mt_append (pv 6) (pa_cons (pe_tup (pa_cons pe_str (pa_cons pe_str (pa_cons pe_str (pa_cons (wc (o__law_of T) hr (by decide) pass0 (pa_cons (pv 0) (pa_cons (pe_lst (pa_cons pe_str (pa_cons pe_str pa_nil))) pa_nil))) pa_nil))))) pa_nil)))
        (pss_cons (ps_expr (pe_bm PySem.F.plainAttrs_list PySem.F.slot_list_append PySem.F.type_list_append mt_append (pv 6) (pa_cons (pe_tup (pa_cons pe_str (pa_cons pe_str (pa_cons pe_str (pa_cons (pe_op op_add_str pe_str (pv 5)) pa_nil))))) pa_nil)))
        (pss_cons (ps_expr (pe_bm PySem.F.plainAttrs_list PySem.F.slot_list_append PySem.F.type_list_append mt_append (pv 6) (pa_cons (pe_tup (pa_cons pe_str (pa_cons pe_str (pa_cons (pv 2) (pa_cons (pe_op op_add_str pe_str (pv 2)) pa_nil))))) pa_nil)))
        (pss_cons (ps_expr (pe_bm PySem.F.plainAttrs_list PySem.F.slot_list_append PySem.F.type_list_append mt_append (pv 6) (pa_cons (pe_tup (pa_cons pe_str (pa_cons pe_str (pa_cons (pv 4) (pa_cons (pe_op op_add_str pe_str (pv 4)) pa_nil))))) pa_nil)))
        (pss_cons (ps_expr (pe_bm PySem.F.plainAttrs_list PySem.F.slot_list_append PySem.F.type_list_append mt_append (pv 6) (pa_cons (pe_tup (pa_cons pe_str (pa_cons pe_str (pa_cons pe_str (pa_cons pe_str pa_nil))))) pa_nil)))
        (pss_cons (ps_expr (pe_bm PySem.F.plainAttrs_list PySem.F.slot_list_append PySem.F.type_list_append mt_append (pv 6) (pa_cons (pe_tup (pa_cons pe_str (pa_cons pe_str (pa_cons pe_str (pa_cons pe_str pa_nil))))) pa_nil)))
        (pss_cons (ps_expr (pe_bm PySem.F.plainAttrs_list PySem.F.slot_list_append PySem.F.type_list_append mt_append (pv 6) (pa_cons (pe_tup (pa_cons pe_str (pa_cons (pv 2) (pa_cons pe_str (pa_cons (pe_op op_add_str (pe_op op_add_str (pe_op op_add_str pe_str (pv 2)) pe_str) (pv 5)) pa_nil))))) pa_nil)))
        (pss_cons (ps_expr (pe_bm PySem.F.plainAttrs_list PySem.F.slot_list_append PySem.F.type_list_append mt_append (pv 6) (pa_cons (pe_tup (pa_cons pe_str (pa_cons (pv 2) (pa_cons (pv 3) (pa_cons (pe_op op_add_str (pe_op op_add_str (pe_op op_add_str pe_str (pv 2)) pe_str) (pv 3)) pa_nil))))) pa_nil)))
        (pss_cons (ps_set (i := 6) sc__law_line.nd rfl (Or.inl rfl) (pe_op op_cat (pe_op op_cat (pe_op op_cat (pv 6) (pe_op op_rep (pe_slice sl_list (pv 6) po_none (po_some pe_int)) pe_int)) (pe_slice sl_list (pv 6) (po_some pe_int) (po_some pe_int))) (pe_slice sl_list (pv 6) (po_some pe_int) (po_some pe_int))))
        (pss_one (ps_ret (wc (o__law_of T) hr (by decide) pass0 (pa_cons (pv 0) (pa_cons (pv 6) pa_nil)))))))))))))))))))))))))), ?_⟩, g__law_line T, F.kp⟩
  obtain ⟨p, m, d, cn, cv, nl, pl, rfl, rfl, hb, hm, ⟨⟨kvs, np, pp, hd, v1, v2, v3, hnp, hpp⟩, wf, ⟨nn1, nn2, nn3⟩, pn1, pn2, pn3⟩, q⟩ := h
  have npp : np ≠ p := hb.ne hnp stV_ne
  have ppp : pp ≠ p := hb.ne hpp stV_ne
  have kd : ∀ {m' : Nat} {H' : Hp}, Dr p m' H H' → H' d = some (.dK kvs) ∧ H' np = some (.lst (stV nl)) ∧ H' pp = some (.lst (stV pl)) := fun d' => ⟨d'.keep hb hd (fun _ _ _ e => by cases e), d'.ch _ _ hnp npp, d'.ch _ _ hpp ppp⟩
  have nnz : stV nl ≠ [] := fun z => nn1 (List.map_eq_nil_iff.mp z)
  have pnz : stV pl ≠ [] := fun z => pn1 (List.map_eq_nil_iff.mp z)
  have nlz : (stV nl).length ≤ 1000 := by unfold stV; rw [List.length_map]; exact nn2
  have plz : (stV pl).length ≤ 1000 := by unfold stV; rw [List.length_map]; exact pn2
  refine par_2 (do_ofE hb (ev_var rfl) (ev_dgk (ev_var rfl) hd v1) hnp npp nnz nlz (by omega) fun nm H1 h1 d1 => ?_)
  obtain ⟨n, hn, rfl⟩ := stV_mem h1
  have hn := nn3 n hn
  obtain ⟨k1, k2, k3⟩ := kd d1
  refine do_ofE d1.bag (ev_var rfl) (ev_dgk (ev_var rfl) k1 v1) k2 npp nnz nlz (by omega) fun ot H2 h2 d2 => ⟨_, _, rfl, ?_⟩
  obtain ⟨o, ho, rfl⟩ := stV_mem h2
  have ho := nn3 o ho
  have d2 := d1.trans d2
  obtain ⟨k1, k2, k3⟩ := kd d2
  refine par_2 (do_ofE d2.bag (ev_var rfl) (ev_dgk (ev_var rfl) k1 v2) k3 ppp pnz plz (by omega) fun fl H3 h3 d3 => ?_)
  obtain ⟨f, hf, rfl⟩ := stV_mem h3
  have hf := pn3 f hf
  have d3 := d2.trans d3
  obtain ⟨k1, k2, k3⟩ := kd d3
  refine ev_dgk (ev_var rfl) k1 v3 H3 (Ex.refl _) _ fun H4 e4 => ⟨_, _, rfl, ?_⟩
  have d4 := d3.ex e4
  -- the first three lines
  have t3 : ∀ {σ : L2.St} {H1 : Hp} {t : TA} {a b c x : V}, EvA t σ H1 [a, b, c, x] → EvU (tTup t) σ H1 [a, b, c, x] := fun h => eu_tup h (show 4 ≤ 100000 by decide)
  refine asg_d (lst3 ?_)
  refine t3 (ea_cons ev_c (ea_cons ev_c (ea_cons ev_c (ea_cons ev_c ea_nil)))) H4 (Ex.refl _) _ fun q1 H5 hq1 e5 g1 => ?_
  refine t3 (ea_cons ev_c (ea_cons ev_c (ea_cons ev_c (ea_cons ev_c ea_nil)))) H5 (Ex.refl _) _ fun q2 H6 hq2 e6 g2 => ?_
  refine t3 (ea_cons ev_c (ea_cons ev_c (ea_cons ev_c (ea_cons ev_c ea_nil)))) H6 (Ex.refl _) _ fun q3 H7 hq3 e7 g3 => ?_
  refine ⟨show 3 ≤ sizeLine by decide, fun ls hls => ?_⟩
  have d8 := d4.ex (((e5.trans e6).trans e7).trans (Ex.new (o := .lst [.ref q1, .ref q2, .ref q3]) hls))
  have back : H ls = none := by
    cases e : H ls with
    | none => rfl
    | some u =>
      exfalso
      by_cases z : ls = p
      · obtain ⟨_, _, _, eb, _⟩ := (d4.ex ((e5.trans e6).trans e7)).bag
        rw [z, eb] at hls
        cases hls
      · rw [(d4.ex ((e5.trans e6).trans e7)).ch _ _ e z] at hls
        cases hls
  have I : LI p (m + 1 + 1 + 1) H ls 3 (upd H7 ls (.lst [.ref q1, .ref q2, .ref q3])) := by
    refine ⟨d8, back, fun z => ?_, _, upd_same, rfl, fun v hv => ?_⟩
    · rw [z] at back
      obtain ⟨_, _, _, eb, _⟩ := hb
      rw [eb] at back
      cases back
    · simp only [List.mem_cons, List.not_mem_nil, or_false] at hv
      rcases hv with rfl | rfl | rfl
      · exact ⟨q1, .end_, _, rfl, (Ex.new hls) _ _ ((e6.trans e7) _ _ g1), l_end⟩
      · exact ⟨q2, .except_, _, rfl, (Ex.new hls) _ _ (e7 _ _ g2), l_except⟩
      · exact ⟨q3, .else_, _, rfl, (Ex.new hls) _ _ g3, l_else⟩

  generalize upd H7 ls (.lst [.ref q1, .ref q2, .ref q3]) = H8 at I
  clear g1 g2 g3 hq1 hq2 hq3 hls d8 e5 e6 e7 k1 k2 k3 hnp hpp kd
  have hcl := (frg_call wf).1
  have hnl := isNm_len hn
  have hol := isNm_len ho
  have hfl := isNm_len hf
  refine q_lineD (xs := [.str (S [112, 97, 115, 115]), .str (S [102, 97, 105, 108]), .str (S [114, 101, 116, 117, 114, 110]), .str (S [115, 107, 105, 112])]) I rfl (by decide) (by omega) (ev_c (v := .str "plain")) (ev_c (v := .str (S []))) (ev_c (v := .str (S []))) (ev_var rfl) (el_lst (ea_cons (ev_c (v := .str (S [112, 97, 115, 115]))) (ea_cons (ev_c (v := .str (S [102, 97, 105, 108]))) (ea_cons (ev_c (v := .str (S [114, 101, 116, 117, 114, 110]))) (ea_cons (ev_c (v := .str (S [115, 107, 105, 112]))) ea_nil)))) (by simp)) (by simp) (by simp) (fun v hv => ?_) fun H9 I => ?_
  · simp only [List.mem_cons, List.not_mem_nil, or_false] at hv
    rcases hv with rfl | rfl | rfl | rfl
    · exact ⟨_, _, l_plain (.inl rfl), rfl, rfl, rfl, rfl⟩
    · exact ⟨_, _, l_plain (.inr (.inl rfl)), rfl, rfl, rfl, rfl⟩
    · exact ⟨_, _, l_plain (.inr (.inr (.inl rfl))), rfl, rfl, rfl, rfl⟩
    · exact ⟨_, _, l_plain (.inr (.inr (.inr rfl))), rfl, rfl, rfl, rfl⟩
  refine q_lineD (xs := [.str (S ([99, 97, 108, 108, 32] ++ callT cn cv)), .str (S ([97, 115, 115, 101, 114, 116, 32, 110, 111, 116, 32] ++ callT cn cv)), .str (S ([97, 115, 115, 117, 109, 101, 32, 50, 32, 105, 110, 32] ++ callT cn cv))]) I rfl (by decide) (by omega) (ev_c (v := .str "call")) (ev_c (v := .str (S []))) (ev_c (v := .str (S []))) (ev_var rfl) (el_lst (ea_cons (ev_op (ev_c (v := .str (S [99, 97, 108, 108, 32]))) (ev_var (v := .str (S (callT cn cv))) rfl) (rv_addS (by simp; omega))) (ea_cons (ev_op (ev_c (v := .str (S [97, 115, 115, 101, 114, 116, 32, 110, 111, 116, 32]))) (ev_var (v := .str (S (callT cn cv))) rfl) (rv_addS (by simp; omega))) (ea_cons (ev_op (ev_c (v := .str (S [97, 115, 115, 117, 109, 101, 32, 50, 32, 105, 110, 32]))) (ev_var (v := .str (S (callT cn cv))) rfl) (rv_addS (by simp; omega))) ea_nil))) (by simp)) (by simp) (by simp) (fun v hv => ?_) fun H10 I => ?_
  · simp only [List.mem_cons, List.not_mem_nil, or_false] at hv
    rcases hv with rfl | rfl | rfl
    · exact ⟨_, _, l_call wf, rfl, rfl, rfl, rfl⟩
    · exact ⟨_, _, l_chk wf, rfl, rfl, rfl, rfl⟩
    · exact ⟨_, _, l_asm wf, rfl, rfl, rfl, rfl⟩
  refine q_lineP I rfl (by decide) (l_let hn wf) (ea_cons (ev_c (v := .str "let")) (ea_cons (ev_var (v := .str (S n)) rfl) (ea_cons (ev_c (v := .str (S []))) (ea_cons (ev_op (ev_op (ev_op (ev_c (v := .str (S [108, 101, 116, 32]))) (ev_var (v := .str (S n)) rfl) (rv_addS (by simp; omega))) (ev_c (v := .str (S [32, 61, 32]))) (rv_addS (by simp; omega))) (ev_var (v := .str (S (callT cn cv))) rfl) (rv_addS (by simp; omega))) ea_nil)))) fun H11 I => ?_
  refine q_lineD (xs := [.str (S ([97, 115, 115, 101, 114, 116, 32] ++ n)), .str (S (([97, 115, 115, 117, 109, 101, 32] ++ n) ++ [32, 61, 61, 32, 49]))]) I rfl (by decide) (by omega) (ev_c (v := .str "use")) (ev_var (v := .str (S n)) rfl) (ev_c (v := .str (S []))) (ev_var rfl) (el_lst (ea_cons (ev_op (ev_c (v := .str (S [97, 115, 115, 101, 114, 116, 32]))) (ev_var (v := .str (S n)) rfl) (rv_addS (by simp; omega))) (ea_cons (ev_op (ev_op (ev_c (v := .str (S [97, 115, 115, 117, 109, 101, 32]))) (ev_var (v := .str (S n)) rfl) (rv_addS (by simp; omega))) (ev_c (v := .str (S [32, 61, 61, 32, 49]))) (rv_addS (by simp; omega))) ea_nil)) (by simp)) (by simp) (by simp) (fun v hv => ?_) fun H12 I => ?_
  · simp only [List.mem_cons, List.not_mem_nil, or_false] at hv
    rcases hv with rfl | rfl
    · exact ⟨_, _, l_use hn, rfl, rfl, rfl, rfl⟩
    · exact ⟨_, _, l_eq1 hn, rfl, rfl, rfl, rfl⟩
  refine q_lineP I rfl (by decide) (l_note hn) (ea_cons (ev_c (v := .str "use")) (ea_cons (ev_var (v := .str (S n)) rfl) (ea_cons (ev_c (v := .str (S []))) (ea_cons (ev_op (ev_op (ev_c (v := .str (S [97, 115, 115, 101, 114, 116, 32, 40, 110, 111, 116, 32]))) (ev_var (v := .str (S n)) rfl) (rv_addS (by simp; omega))) (ev_c (v := .str (S [32, 105, 115, 32, 119, 111, 114, 100, 44, 32, 34, 34, 41]))) (rv_addS (by simp; omega))) ea_nil)))) fun H13 I => ?_
  refine asg_d (do_ofL (xs := [.str (S (n ++ [91, 48, 93])), .str (S (([108, 101, 110, 40] ++ n) ++ [41, 32, 61, 61, 32, 49])), .str (S ([50, 32, 105, 110, 32] ++ n))]) I.dr.bag (ev_var rfl) (el_lst (ea_cons (ev_op (ev_var (v := .str (S n)) rfl) (ev_c (v := .str (S [91, 48, 93]))) (rv_addS (by simp; omega))) (ea_cons (ev_op (ev_op (ev_c (v := .str (S [108, 101, 110, 40]))) (ev_var (v := .str (S n)) rfl) (rv_addS (by simp; omega))) (ev_c (v := .str (S [41, 32, 61, 61, 32, 49]))) (rv_addS (by simp; omega))) (ea_cons (ev_op (ev_c (v := .str (S [50, 32, 105, 110, 32]))) (ev_var (v := .str (S n)) rfl) (rv_addS (by simp; omega))) ea_nil))) (by simp)) (by simp) (by simp) (by omega) fun th Hz hth dz => ?_)
  have I := I.draw dz
  obtain ⟨tx, lk, rfl, hlen, lt, hkd⟩ : ∃ (tx : List Nat) (lk : LK), th = .str (S tx) ∧ tx.length ≤ 100 ∧ LineT ([97, 115, 115, 101, 114, 116, 32] ++ tx) lk ∧ lk.kd = (("thing" : Str), S n, S []) := by
    simp only [List.mem_cons, List.not_mem_nil, or_false] at hth
    rcases hth with rfl | rfl | rfl
    · exact ⟨_, _, rfl, by simp; omega, l_it0 hn, rfl⟩
    · exact ⟨_, _, rfl, by simp; omega, l_len hn, rfl⟩
    · exact ⟨_, _, rfl, by simp; omega, l_inn hn, rfl⟩
  refine q_lineP I rfl (by decide) lt (by rw [hkd]; exact (ea_cons (ev_c (v := .str "thing")) (ea_cons (ev_var (v := .str (S n)) rfl) (ea_cons (ev_c (v := .str (S []))) (ea_cons (ev_op (ev_c (v := .str (S [97, 115, 115, 101, 114, 116, 32]))) (ev_var (v := .str (S tx)) rfl) (rv_addS (by simp; omega))) ea_nil))))) fun H14 I => ?_
  refine q_line (m' := m + 1 + 1 + 1 + 1 + 1 + 1 + 1 + 1) I rfl (by decide) (fun Q' q' => ?_) fun H15 I => ?_
  · refine do_flag hf I.dr.bag (by omega) rfl rfl fun l x Ha lt hk da => ?_
    have z := q' l x Ha lt da
    rw [hk] at z
    exact z
  refine q_lineD (xs := [.str (S [98, 114, 101, 97, 107]), .str (S [99, 111, 110, 116, 105, 110, 117, 101])]) I rfl (by decide) (by omega) (ev_c (v := .str "leave")) (ev_c (v := .str (S []))) (ev_c (v := .str (S []))) (ev_var rfl) (el_lst (ea_cons (ev_c (v := .str (S [98, 114, 101, 97, 107]))) (ea_cons (ev_c (v := .str (S [99, 111, 110, 116, 105, 110, 117, 101]))) ea_nil)) (by simp)) (by simp) (by simp) (fun v hv => ?_) fun H16 I => ?_
  · simp only [List.mem_cons, List.not_mem_nil, or_false] at hv
    rcases hv with rfl | rfl
    · exact ⟨_, _, l_leave (.inl rfl), rfl, rfl, rfl, rfl⟩
    · exact ⟨_, _, l_leave (.inr rfl), rfl, rfl, rfl, rfl⟩
  refine q_lineP I rfl (by decide) (l_ifc wf) (ea_cons (ev_c (v := .str "if")) (ea_cons (ev_c (v := .str "call")) (ea_cons (ev_c (v := .str (S []))) (ea_cons (ev_op (ev_c (v := .str (S [105, 102, 32]))) (ev_var (v := .str (S (callT cn cv))) rfl) (rv_addS (by simp; omega))) ea_nil)))) fun H17 I => ?_
  refine q_lineP I rfl (by decide) (l_ifn hn) (ea_cons (ev_c (v := .str "if")) (ea_cons (ev_c (v := .str "use")) (ea_cons (ev_var (v := .str (S n)) rfl) (ea_cons (ev_op (ev_c (v := .str (S [105, 102, 32, 110, 111, 116, 32]))) (ev_var (v := .str (S n)) rfl) (rv_addS (by simp; omega))) ea_nil)))) fun H18 I => ?_
  refine q_lineP I rfl (by decide) (l_ifo hf) (ea_cons (ev_c (v := .str "if")) (ea_cons (ev_c (v := .str "flag")) (ea_cons (ev_var (v := .str (S f)) rfl) (ea_cons (ev_op (ev_c (v := .str (S [105, 102, 32, 111, 110, 32]))) (ev_var (v := .str (S f)) rfl) (rv_addS (by simp; omega))) ea_nil)))) fun H19 I => ?_
  refine q_lineP I rfl (by decide) l_raises (ea_cons (ev_c (v := .str "raises")) (ea_cons (ev_c (v := .str (S []))) (ea_cons (ev_c (v := .str (S []))) (ea_cons (ev_c (v := .str (S [114, 97, 105, 115, 101, 115, 32, 69, 114, 114, 111, 114]))) ea_nil)))) fun H20 I => ?_
  refine q_lineP I rfl (by decide) l_try (ea_cons (ev_c (v := .str "try")) (ea_cons (ev_c (v := .str (S []))) (ea_cons (ev_c (v := .str (S []))) (ea_cons (ev_c (v := .str (S [116, 114, 121]))) ea_nil)))) fun H21 I => ?_
  refine q_lineP I rfl (by decide) (l_forc hn wf) (ea_cons (ev_c (v := .str "for")) (ea_cons (ev_var (v := .str (S n)) rfl) (ea_cons (ev_c (v := .str (S []))) (ea_cons (ev_op (ev_op (ev_op (ev_c (v := .str (S [102, 111, 114, 32]))) (ev_var (v := .str (S n)) rfl) (rv_addS (by simp; omega))) (ev_c (v := .str (S [32, 105, 110, 32]))) (rv_addS (by simp; omega))) (ev_var (v := .str (S (callT cn cv))) rfl) (rv_addS (by simp; omega))) ea_nil)))) fun H22 I => ?_
  refine q_lineP I rfl (by decide) (l_forn hn ho) (ea_cons (ev_c (v := .str "for")) (ea_cons (ev_var (v := .str (S n)) rfl) (ea_cons (ev_var (v := .str (S o)) rfl) (ea_cons (ev_op (ev_op (ev_op (ev_c (v := .str (S [102, 111, 114, 32]))) (ev_var (v := .str (S n)) rfl) (rv_addS (by simp; omega))) (ev_c (v := .str (S [32, 105, 110, 32]))) (rv_addS (by simp; omega))) (ev_var (v := .str (S o)) rfl) (rv_addS (by simp; omega))) ea_nil)))) fun H23 I => ?_
  obtain ⟨xs, x1, x2, x3⟩ := I.ls
  have W : ∀ {H' : Hp} {σ : L2.St}, Ex _ H' → σ[6]? = some (some (.ref ls)) → EvW (tVar 6) σ H' xs := fun e h => ow1 (ev_var (v := .ref ls) h) (e _ _ x1)
  have sl : ∀ {lo hi : Option Int}, (cutV xs lo hi).length ≤ 100 := fun {lo hi} => by
    have h1 : (cutV xs lo hi).length ≤ xs.length := by
      unfold cutV
      rw [List.length_take, List.length_drop]
      omega
    omega
  refine q_asgL (el_cat (owl (el_cat (owl (el_cat (W (Ex.refl _) rfl) (owl (el_rep2 (owl (el_slW (W (Ex.refl _) rfl) eo_none (eo_some ev_c))) (Nat.le_trans sl (by decide)))) ?_)) (owl (el_slW (W (Ex.refl _) rfl) (eo_some ev_c) (eo_some ev_c))) ?_)) (owl (el_slW (W (Ex.refl _) rfl) (eo_some ev_c) (eo_some ev_c))) ?_) fun l2 Hb hl2 eb hb2 => ?_
  · have := sl (lo := none) (hi := some 1)
    rw [List.length_append]
    omega
  · have := sl (lo := none) (hi := some 1)
    have := sl (lo := some 1) (hi := some 3)
    simp only [List.length_append]
    omega
  · have := sl (lo := none) (hi := some 1)
    have := sl (lo := some 1) (hi := some 3)
    have := sl (lo := some 5) (hi := some 7)
    simp only [List.length_append]
    omega
  · refine s_retD (do_ofE (I.dr.bag.ex eb) (ev_var rfl) (ev_var rfl) hb2 (I.dr.bag.fresh hl2) ?_ ?_ (by omega) fun v Hc hv dc => ?_)
    · intro z
      have z := congrArg List.length z
      simp only [List.length_append, x2] at z
      simp at z
    · have := sl (lo := none) (hi := some 1)
      have := sl (lo := some 1) (hi := some 3)
      have := sl (lo := some 5) (hi := some 7)
      simp only [List.length_append]
      omega
    · have hv : v ∈ xs := by
        simp only [List.mem_append] at hv
        rcases hv with ((hv | hv | hv) | hv) | hv
        · exact hv
        · exact mem_cutV hv
        · exact mem_cutV hv
        · exact mem_cutV hv
        · exact mem_cutV hv
      refine q v Hc ((x3 v hv).nl (NLs.trans (Ex.nl eb) (dc.nl (I.dr.bag.ex eb)))) (((I.dr.ex eb).trans dc).le (by omega))
end WP
set_option Elab.async false
set_option linter.all false
set_option maxRecDepth 100000
set_option maxHeartbeats 4000000
/-! the law's state; what is seen, what may be mentioned -/
namespace WP
open PySem PySem.Spec PyProof.Rows L2 Evl SX
variable {w : World} {K : PySem.W.Frag} {mg : Str → Option Value} {base : Heap}
theorem hu64_of {k : Nat} {A : Around} (r : Room k A) : A.units + 64 < cLine := by
  have := r.un
  omega
structure StA where
  (d sp fp np pp : Addr) (bs : List (Addr × Addr × Addr))
structure BlkH (H : Hp) (t : Addr × Addr × Addr) (b : Blk) : Prop where
  ob : H t.1 = some (.lst [.str b.kind.s, .str b.ph.s, .ref t.2.1, .ref t.2.2])
  ns : H t.2.1 = some (.lst (stV b.ns))
  im : H t.2.2 = some (.lst (stV b.its))
  nn : ∀ n ∈ b.ns, isNm n = true
  ni : ∀ n ∈ b.its, isNm n = true
structure StH (H : Hp) (A : StA) (st : LS) (cn : List Nat) (cv : List V) (nl pl : List (List Nat)) : Prop where
  d : ∃ kvs, H A.d = some (.dK kvs) ∧ kvs.length ≤ 15 ∧ valV kvs (.inr "stack") = some (.ref A.sp) ∧ valV kvs (.inr "flags") = some (.ref A.fp) ∧ valV kvs (.inr "many") = some (.int (st.many : Int)) ∧
    valV kvs (.inr "call") = some (.str (S (callT cn cv))) ∧ valV kvs (.inr "names") = some (.ref A.np) ∧ valV kvs (.inr "pool") = some (.ref A.pp)
  n : H A.np = some (.lst (stV nl))
  p : H A.pp = some (.lst (stV pl))
  wf : (Th.call cn cv).wf
  nn : nl ≠ [] ∧ nl.length ≤ 1000 ∧ ∀ n ∈ nl, isNm n = true
  pn : pl ≠ [] ∧ pl.length ≤ 1000 ∧ ∀ n ∈ pl, isNm n = true
  s : H A.sp = some (.lst (A.bs.map fun t => .ref t.1))
  bl : A.bs.length = st.stk.length ∧ ∀ (i : Nat) t b, A.bs[i]? = some t → st.stk[i]? = some b → BlkH H t b
  nd : (A.bs.map (·.1)).Nodup
  f : H A.fp = some (.lst (stV st.fl)) ∧ ∀ n ∈ st.fl, isNm n = true
  bd : st.many ≤ 40 ∧ st.stk.length ≤ st.many ∧ st.fl.length ≤ st.many ∧ ∀ b ∈ st.stk, b.ns.length ≤ st.many ∧ b.its.length ≤ st.many
theorem StH.nm {H : Hp} {A : StA} {st : LS} {cn : List Nat} {cv : List V} {nl pl : List (List Nat)} (h : StH H A st cn cv nl pl) : NmH H A.d cn cv nl pl := by
  obtain ⟨kvs, h1, h2, h3, h4, h5, h6, h7, h8⟩ := h.d
  exact ⟨⟨kvs, A.np, A.pp, h1, h7, h8, h6, h.n, h.p⟩, h.wf, h.nn, h.pn⟩
def testA : List Nat := [116, 101, 115, 116, 32, 97]
/-- no bag, no list of line texts -/
def StO (o : HO) : Prop := ∀ xs, o = .lst xs → (∀ i j k : Int, xs ≠ [.int i, .int j, .int k]) ∧ xs.head? ≠ some (.str (S testA))
theorem sto_refs {α : Type} (l : List α) (f : α → Addr) : StO (.lst (l.map fun t => .ref (f t))) := fun xs e => by
  cases e
  cases l with
  | nil => exact ⟨fun i j k z => (by cases z), fun z => (by cases z)⟩
  | cons a r => exact ⟨fun i j k z => (by cases z), fun z => (by cases z)⟩
theorem isNm_testA : isNm testA = false := by decide
theorem sto_strs {l : List (List Nat)} (h : ∀ n ∈ l, isNm n = true) : StO (.lst (stV l)) := fun xs e => by
  cases e
  cases l with
  | nil => exact ⟨fun i j k z => (by cases z), fun z => (by cases z)⟩
  | cons a r =>
    refine ⟨fun i j k z => (by cases z), fun z => ?_⟩
    have z : V.str (S a) = .str (S testA) := Option.some.inj z
    have := h a (by simp)
    rw [S_inj (V.str.inj z), isNm_testA] at this
    cases this
theorem bks_ne (k : BK) : V.str k.s ≠ .str (S testA) := by cases k <;> decide
theorem sto_blk {t : Addr × Addr × Addr} {b : Blk} : StO (.lst [.str b.kind.s, .str b.ph.s, .ref t.2.1, .ref t.2.2]) := fun xs e => by
  cases e
  exact ⟨fun i j k z => (by cases z), fun z => bks_ne _ (Option.some.inj z)⟩
theorem sto_dK {kvs : List (Key × V)} : StO (.dK kvs) := fun xs e => by cases e
section
variable {H H' : Hp} {A : StA} {st : LS} {cn : List Nat} {cv : List V} {nl pl : List (List Nat)}
theorem BlkH.keep {t : Addr × Addr × Addr} {b : Blk} (h : BlkH H t b) (k : ∀ a o, H a = some o → StO o → H' a = some o) : BlkH H' t b :=
  ⟨k _ _ h.ob sto_blk, k _ _ h.ns (sto_strs h.nn), k _ _ h.im (sto_strs h.ni), h.nn, h.ni⟩
theorem StH.keep (h : StH H A st cn cv nl pl) (k : ∀ a o, H a = some o → StO o → H' a = some o) : StH H' A st cn cv nl pl := by
  obtain ⟨kvs, h1, h2⟩ := h.d
  exact ⟨⟨kvs, k _ _ h1 sto_dK, h2⟩, k _ _ h.n (sto_strs h.nn.2.2), k _ _ h.p (sto_strs h.pn.2.2), h.wf, h.nn, h.pn, k _ _ h.s (sto_refs _ _), ⟨h.bl.1, fun i t b h3 h4 => (h.bl.2 i t b h3 h4).keep k⟩, h.nd, ⟨k _ _ h.f.1 (sto_strs h.f.2), h.f.2⟩, h.bd⟩
theorem StH.ex (h : StH H A st cn cv nl pl) (e : Ex H H') : StH H' A st cn cv nl pl := h.keep fun a o x _ => e a o x
theorem StH.dr {p : Addr} {m m' : Nat} (h : StH H A st cn cv nl pl) (hb : BagH H p m) (d : Dr p m' H H') : StH H' A st cn cv nl pl := h.keep fun a o x so => d.keep hb x fun i j k e => (so _ e).1 i j k rfl
end
/-! ### lists compared with [] -/
theorem strOk_nm {n : List Nat} (h : isNm n = true) : PyData.strOk (S n) = true := by
  show (S n).cps.all (· < 0x110000) = true
  rw [← Array.all_toList]
  refine List.all_eq_true.mpr fun c hc => ?_
  have := List.all_eq_true.mp (isNm_low h).1 c hc
  simp only [low, Bool.and_eq_true, decide_eq_true_eq] at this
  exact decide_eq_true (by omega)
def NmL (l : List (List Nat)) : Prop := ∀ n ∈ l, isNm n = true
theorem canLay_strs : ∀ l : List (List Nat), NmL l → PyData.canLayAll0 (l.map fun t => PyData.str (S t)) = true
  | [], _ => by simp [PyData.canLayAll0]
  | n :: r, h => by
    have h1 := strOk_nm (h n (by simp))
    have h2 := canLay_strs r fun x hx => h x (List.mem_cons_of_mem _ hx)
    simp [PyData.canLayAll0, PyData.canLay0, h1, h2]
theorem depth_strs : ∀ l : List (List Nat), PyData.depthAll (l.map fun t => PyData.str (S t)) ≤ 1
  | [] => by simp [PyData.depthAll]
  | n :: r => by
    have := depth_strs r
    simp only [List.map_cons, PyData.depthAll, PyData.depth]
    omega
theorem shaped_strs (l : List (List Nat)) (h : NmL l) : SeqAt.shaped (.list (l.map fun t => PyData.str (S t))) = true := by
  have h1 := depth_strs l
  have h2 : PyData.depth (.list (l.map fun t => PyData.str (S t))) ≤ 64 := by simp only [PyData.depth]; omega
  show (PyData.canLay0 (.list (l.map fun t => PyData.str (S t))) && decide (PyData.depth (.list (l.map fun t => PyData.str (S t))) ≤ 64)) = true
  rw [Bool.and_eq_true]
  exact ⟨by simp only [PyData.canLay0]; exact canLay_strs l h, decide_eq_true h2⟩
theorem dpa_strs {H : Hp} : ∀ l : List (List Nat), DpAll K H (stV l) (l.map fun t => PyData.str (S t))
  | [] => .nil
  | n :: r => .cons (.str _) (dpa_strs r)
def blkD (b : Blk) : PyData := .list [.str b.kind.s, .str b.ph.s, .list (b.ns.map fun t => PyData.str (S t)), .list (b.its.map fun t => PyData.str (S t))]
theorem strOk_k (b : Blk) : PyData.strOk b.kind.s = true ∧ PyData.strOk b.ph.s = true := by
  obtain ⟨k, p, _, _⟩ := b
  exact ⟨(show ∀ k : BK, PyData.strOk k.s = true from fun k => by cases k <;> decide +kernel) k, (show ∀ p : PH, PyData.strOk p.s = true from fun p => by cases p <;> decide +kernel) p⟩
def NmB (l : List Blk) : Prop := ∀ b ∈ l, NmL b.ns ∧ NmL b.its
theorem canLay_blks : ∀ l : List Blk, NmB l → PyData.canLayAll0 (l.map blkD) = true
  | [], _ => by simp [PyData.canLayAll0]
  | n :: r, h => by
    have h1 := h n (by simp)
    have h2 := canLay_blks r fun x hx => h x (List.mem_cons_of_mem _ hx)
    simp [PyData.canLayAll0, PyData.canLay0, blkD, canLay_strs _ h1.1, canLay_strs _ h1.2, strOk_k n, h2]
theorem depth_blks : ∀ l : List Blk, PyData.depthAll (l.map blkD) ≤ 10
  | [] => by simp [PyData.depthAll]
  | n :: r => by
    have := depth_blks r
    have h1 := depth_strs n.ns
    have h2 := depth_strs n.its
    simp only [List.map_cons, PyData.depthAll, PyData.depth, blkD]
    omega
theorem shaped_blks (l : List Blk) (h : NmB l) : SeqAt.shaped (.list (l.map blkD)) = true := by
  have h1 := depth_blks l
  have h2 : PyData.depth (.list (l.map blkD)) ≤ 64 := by simp only [PyData.depth]; omega
  show (PyData.canLay0 (.list (l.map blkD)) && decide (PyData.depth (.list (l.map blkD)) ≤ 64)) = true
  rw [Bool.and_eq_true]
  exact ⟨by simp only [PyData.canLay0]; exact canLay_blks l h, decide_eq_true h2⟩
theorem dpa_blks {H : Hp} : ∀ (bs : List (Addr × Addr × Addr)) (l : List Blk), bs.length = l.length → (∀ (i : Nat) t b, bs[i]? = some t → l[i]? = some b → BlkH H t b) → DpAll K H (bs.map fun t => .ref t.1) (l.map blkD)
  | [], [], _, _ => .nil
  | t :: bs, b :: l, hl, h => by
    have h0 := h 0 t b rfl rfl
    exact .cons (.lst (sq_of h0.ob) (.cons (.str _) (.cons (.str _) (.cons (.lst (sq_of h0.ns) (dpa_strs _)) (.cons (.lst (sq_of h0.im) (dpa_strs _)) .nil))))) (dpa_blks bs l (by simpa using hl) fun i t' b' h1 h2 => h (i + 1) t' b' (by simpa using h1) (by simpa using h2))
  | [], b :: l, hl, _ => by simp at hl
  | t :: bs, [], hl, _ => by simp at hl
theorem eqv_nil {ds : List PyData} : PyData.eqv (.list ds) (.list []) = decide (ds = []) := by
  cases ds <;> simp [PyData.eqv, PyData.eqvAll]
theorem shaped_nil : SeqAt.shaped (.list []) = true := shaped_strs [] fun _ h => by cases h
section
variable {σ : L2.St} {H : Hp} {ta tb : TE} {a : Addr}
theorem ev_eqD {xs : List V} {ds : List PyData} (h : Ev ta σ H (.ref a)) (hl : H a = some (.lst xs)) (hd : ∀ H1, Ex H H1 → DpAll K H1 xs ds) (hs : SeqAt.shaped (.list ds) = true) : Ev (tOp (rEqD K) ta (tLst tNil)) σ H (.bl (decide (ds = []))) :=
  ev_opL h (el_lst ea_nil (by decide)) fun p H1 hp e1 H2 e2 Q q => ⟨.list ds, .list [], .lst (sq_of ((e1.trans e2) _ _ hl)) (hd H2 (e1.trans e2)), .lst (sq_of (e2 _ _ hp)) .nil, hs, shaped_nil, by rw [eqv_nil]; exact q H2 (Ex.refl _)⟩
theorem ev_neD {xs : List V} {ds : List PyData} (h : Ev ta σ H (.ref a)) (hl : H a = some (.lst xs)) (hd : ∀ H1, Ex H H1 → DpAll K H1 xs ds) (hs : SeqAt.shaped (.list ds) = true) : Ev (tOp (rNeD K) ta (tLst tNil)) σ H (.bl (!decide (ds = []))) :=
  ev_opL h (el_lst ea_nil (by decide)) fun p H1 hp e1 H2 e2 Q q => ⟨.list ds, .list [], .lst (sq_of ((e1.trans e2) _ _ hl)) (hd H2 (e1.trans e2)), .lst (sq_of (e2 _ _ hp)) .nil, hs, shaped_nil, by rw [eqv_nil]; exact q H2 (Ex.refl _)⟩
theorem ev_eqS {l : List (List Nat)} (h : Ev ta σ H (.ref a)) (hl : H a = some (.lst (stV l))) (hn : NmL l) : Ev (tOp (rEqD K) ta (tLst tNil)) σ H (.bl (decide (l = []))) :=
  ev_is (ev_eqD h hl (fun H1 _ => dpa_strs l) (shaped_strs l hn)) (by cases l <;> rfl)
theorem ev_neS {l : List (List Nat)} (h : Ev ta σ H (.ref a)) (hl : H a = some (.lst (stV l))) (hn : NmL l) : Ev (tOp (rNeD K) ta (tLst tNil)) σ H (.bl (!decide (l = []))) :=
  ev_is (ev_neD h hl (fun H1 _ => dpa_strs l) (shaped_strs l hn)) (by cases l <;> rfl)
end
theorem StH.nmb {H : Hp} {A : StA} {st : LS} {cn : List Nat} {cv : List V} {nl pl : List (List Nat)} (h : StH H A st cn cv nl pl) : NmB st.stk := fun b hb => by
  obtain ⟨i, hi, rfl⟩ := List.getElem_of_mem hb
  have hi2 : i < A.bs.length := by rw [h.bl.1]; exact hi
  have B := h.bl.2 i _ _ (List.getElem?_eq_getElem hi2) (List.getElem?_eq_getElem hi)
  exact ⟨B.nn, B.ni⟩
theorem NmB.seen {s : List Blk} (h : NmB s) : NmL (seenN s) := fun n hn => by
  obtain ⟨b, hb, hn⟩ := List.mem_flatMap.mp hn
  exact (h b hb).1 n hn
theorem NmB.items {s : List Blk} (h : NmB s) : NmL (itemsN s) := fun n hn => by
  obtain ⟨b, hb, hn⟩ := List.mem_flatMap.mp hn
  exact (h b hb).2 n hn
section
variable {σ : L2.St} {H : Hp} {A : StA} {st : LS} {cn : List Nat} {cv : List V} {nl pl : List (List Nat)} {td : TE}
theorem ev_stack (h : StH H A st cn cv nl pl) (hx : Ev td σ H (.ref A.d)) : Ev (tDGet td (tC (.str "stack"))) σ H (.ref A.sp) := by
  obtain ⟨kvs, h1, h2, h3, _⟩ := h.d
  exact ev_dgk hx h1 h3
theorem ev_flags (h : StH H A st cn cv nl pl) (hx : Ev td σ H (.ref A.d)) : Ev (tDGet td (tC (.str "flags"))) σ H (.ref A.fp) := by
  obtain ⟨kvs, h1, h2, h3, h4, _⟩ := h.d
  exact ev_dgk hx h1 h4
theorem ev_many (h : StH H A st cn cv nl pl) (hx : Ev td σ H (.ref A.d)) : Ev (tDGet td (tC (.str "many"))) σ H (.int (st.many : Int)) := by
  obtain ⟨kvs, h1, h2, h3, h4, h5, _⟩ := h.d
  exact ev_dgk hx h1 h5
theorem ev_stk0 (h : StH H A st cn cv nl pl) (hx : Ev td σ H (.ref A.d)) : Ev (tOp (rEqD K) (tDGet td (tC (.str "stack"))) (tLst tNil)) σ H (.bl (decide (st.stk = []))) :=
  ev_is (ev_eqD (ev_stack h hx) h.s (fun H1 e => dpa_blks _ _ (h.ex e).bl.1 (h.ex e).bl.2) (shaped_blks _ h.nmb)) (by cases st.stk <;> rfl)
theorem ev_stk1 (h : StH H A st cn cv nl pl) (hx : Ev td σ H (.ref A.d)) : Ev (tOp (rNeD K) (tDGet td (tC (.str "stack"))) (tLst tNil)) σ H (.bl (!decide (st.stk = []))) :=
  ev_is (ev_neD (ev_stack h hx) h.s (fun H1 e => dpa_blks _ _ (h.ex e).bl.1 (h.ex e).bl.2) (shaped_blks _ h.nmb)) (by cases st.stk <;> rfl)
end
def sp_seen : Sp := sp1 fun sd H Q _ => ∃ (A : StA) (st : LS) (cn : List Nat) (cv : List V) (nl pl : List (List Nat)), sd = .ref A.d ∧ StH H A st cn cv nl pl ∧
  ∀ (t a b : Addr) H', Ex H H' → H' t = some (.tup [.ref a, .ref b]) → H' a = some (.lst (stV (seenN st.stk))) → H' b = some (.lst (stV (itemsN st.stk))) → Q (.ref t) H'
theorem flat_len {f : Blk → List (List Nat)} {m : Nat} : ∀ s : List Blk, (∀ b ∈ s, (f b).length ≤ m) → (s.flatMap f).length ≤ s.length * m
  | [], _ => Nat.zero_le _
  | b :: s, h => by
    have h1 := h b (by simp)
    have h2 := flat_len s fun x hx => h x (List.mem_cons_of_mem _ hx)
    rw [List.flatMap_cons, List.length_append, List.length_cons, Nat.succ_mul]
    omega
theorem stV_app {a b : List (List Nat)} : stV a ++ stV b = stV (a ++ b) := by simp [stV]
theorem stV_len {a : List (List Nat)} : (stV a).length = a.length := by simp [stV]
theorem o__law_seen (T : TT K mg) : CalX PW w K mg base CX0 1 "_law_seen" sp_seen := by
  obtain ⟨fd, F⟩ := f__law_seen T
  refine ⟨_, mk1 F (b__law_seen F) sc__law_seen fun a cdv A outer s H Q E hr h => ⟨_, (have hu := hu_of hr; (PSs.nox (pss_cons (ps_par (i := 1) (j := 2) rfl sc__law_seen.nd rfl rfl (by decide) rfl rfl (pa_cons (pe_lst pa_nil) (pa_cons (pe_lst pa_nil) pa_nil)) rfl)
        (pss_cons (ps_for PassesOwn.never rfl (pi_list (pe_dget hu (pv 0) pe_str (fun _ _ => rfl))) (pg_name (i := 3) sc__law_seen.nd rfl (Or.inl rfl)) (pss_cons (ps_set (i := 1) sc__law_seen.nd rfl (Or.inl rfl) (pe_op op_cat (pv 1) (pe_ix ix_list (pv 3) pe_int (fun _ _ => rfl))))
        (pss_one (ps_set (i := 2) sc__law_seen.nd rfl (Or.inl rfl) (pe_op op_cat (pv 2) (pe_ix ix_list (pv 3) pe_int (fun _ _ => rfl)))))))
        (pss_one (ps_ret (pe_tup (pa_cons (pv 1) (pa_cons (pv 2) pa_nil))))))))), ?_⟩, g__law_seen T, F.kp⟩
  obtain ⟨A, st, cn, cv, nl, pl, rfl, h, q⟩ := h
  refine par_2 (el_lst (vs := []) ea_nil (by decide) H (Ex.refl _) _ fun a H1 ha e1 h1 => el_lst (vs := []) ea_nil (by decide) H1 (Ex.refl _) _ fun b H2 hb e2 h2 => ⟨_, _, rfl, ?_⟩)
  have hS := h.ex (e1.trans e2)
  have bd : ∀ (i : Nat), (seenN (st.stk.take i)).length ≤ 1600 ∧ (itemsN (st.stk.take i)).length ≤ 1600 := fun i => by
    have hl : (st.stk.take i).length ≤ 40 := by rw [List.length_take]; have := h.bd; omega
    have h1 := flat_len (f := Blk.ns) (m := 40) (st.stk.take i) fun b hb => by have := h.bd.2.2.2 b (List.mem_of_mem_take hb); have := h.bd.1; omega
    have h2 := flat_len (f := Blk.its) (m := 40) (st.stk.take i) fun b hb => by have := h.bd.2.2.2 b (List.mem_of_mem_take hb); have := h.bd.1; omega
    have h3 : (st.stk.take i).length * 40 ≤ 40 * 40 := Nat.mul_le_mul_right _ hl
    exact ⟨Nat.le_trans h1 h3, Nat.le_trans h2 h3⟩
  refine q_forLn (ev_stack hS (ev_var rfl)) (sq_of hS.s) (fun i σ' H' => Ex H H' ∧ ∃ (a b : Addr) (o : Option V), H' a = some (.lst (stV (seenN (st.stk.take i)))) ∧ H' b = some (.lst (stV (itemsN (st.stk.take i)))) ∧ σ' = [some (.ref A.d), some (.ref a), some (.ref b), o])
    (fun H3 e3 => ⟨(e1.trans e2).trans e3, a, b, none, (e2.trans e3) _ _ h1, e3 _ _ h2, rfl⟩) (fun i σ' H' _ pv => sq_of (h.ex pv.1).s) (fun i x σ' H' hx pv => ?_) fun σ' H' pv => ?_
  · obtain ⟨e3, a, b, o, h1, h2, rfl⟩ := pv
    rw [List.getElem?_map] at hx
    obtain ⟨t, ht, rfl⟩ := Option.map_eq_some_iff.mp hx
    have hlt : i < st.stk.length := by
      have := (List.getElem?_eq_some_iff.mp ht).1
      have := h.bl.1
      omega
    have hb : st.stk[i]? = some st.stk[i] := List.getElem?_eq_getElem hlt
    have B := (h.ex e3).bl.2 i t _ ht hb
    have ix : ∀ {H1 : Hp} {σ : L2.St} {j : Int} {v : V}, Ex H' H1 → σ[3]? = some (some (.ref t.1)) → atI [V.str (st.stk[i]).kind.s, .str (st.stk[i]).ph.s, .ref t.2.1, .ref t.2.2] j = some v → Ev (tOp (rIxL K) (tVar 3) (tC (.int j))) σ H1 v := fun e h3 hv => ev_op (ev_var h3) ev_c (rv_ixL (sq_of (e _ _ B.ob)) hv)
    have hbd := bd i
    have hbl : (st.stk[i]).ns.length ≤ 40 ∧ (st.stk[i]).its.length ≤ 40 := by have := h.bd.2.2.2 _ (List.getElem_mem hlt); have := h.bd.1; omega
    have tk : st.stk.take (i + 1) = st.stk.take i ++ [st.stk[i]] := List.take_succ_eq_append_getElem hlt
    refine q_asgL (el_cat (ow1 (ev_var rfl) h1) (ow1 (ix (Ex.refl _) rfl rfl) B.ns) (by rw [stV_len, stV_len]; omega)) fun a' H4 ha' e4 h4 => ?_
    refine s_asgL (el_cat (ow1 (ev_var rfl) (e4 _ _ h2)) (ow1 (ix e4 rfl rfl) (e4 _ _ B.im)) (by rw [stV_len, stV_len]; omega)) fun b' H5 hb' e5 h5 => ?_
    refine ⟨(e3.trans e4).trans e5, a', b', _, ?_, ?_, rfl⟩
    · rw [tk, seenN_snoc, ← stV_app]
      exact e5 _ _ h4
    · rw [tk, itemsN_snoc, ← stV_app]
      exact h5
  · obtain ⟨e3, a, b, o, h1, h2, rfl⟩ := pv
    rw [List.length_map, h.bl.1, List.take_length] at h1 h2
    refine s_retU (eu_tup (ea_cons (ev_var rfl) (ea_cons (ev_var rfl) ea_nil)) (show 2 ≤ 100000 by decide)) fun t H4 ht e4 h4 => q t a b H4 (e3.trans e4) h4 (e4 _ _ h1) (e4 _ _ h2)
end WP
set_option Elab.async false
set_option linter.all false
set_option maxRecDepth 100000
set_option maxHeartbeats 4000000
/-! what may be mentioned, which line can stand -/
namespace WP
open PySem PySem.Spec PyProof.Rows L2 Evl SX
variable {w : World} {K : PySem.W.Frag} {mg : Str → Option Value} {base : Heap}
def sp_ment : Sp := sp3 fun sd k n H Q _ => ∃ (A : StA) (st : LS) (cn : List Nat) (cv : List V) (nl pl : List (List Nat)) (kk nm : Str), sd = .ref A.d ∧ k = .str kk ∧ n = .str nm ∧ StH H A st cn cv nl pl ∧ RetV (.bl (mentB (itemsN st.stk) (seenN st.stk) st.fl kk nm)) H Q
theorem strs_flat' (l : List (List Nat)) : (stV l).all flatV = true := strs_flat l
theorem o__law_mentions (T : TT K mg) : CalX PW w K mg base CX0 2 "_law_mentions" sp_ment := by
  obtain ⟨fd, F⟩ := f__law_mentions T
  refine ⟨_, mk3 F (b__law_mentions F) sc__law_mentions fun a b c cdv A outer s H Q E hr h => ⟨_, (have hu := hu_of hr; have hu64 := hu64_of hr; (pss_cons (ps_asg (wc (o__law_seen T) hr (by decide) pass0 (pa_cons (pv 0) pa_nil)) (pg_tup rfl (pgs_cons (pg_name (i := 3) sc__law_mentions.nd rfl (Or.inl rfl)) (pgs_cons (pg_name (i := 4) sc__law_mentions.nd rfl (Or.inl rfl)) pgs_nil))))
        (pss_cons (ps_if (pt_cmpR op_eq (pv 1) pe_str (nomark _)) (pss_one (ps_ret (pe_cmpR (op_eqD hu64) (pv 4) (pe_lst pa_nil) (nomark _)))) pss_nil)
        (pss_cons (ps_if (pt_cmpR op_eq (pv 1) pe_str (nomark _)) (pss_one (ps_ret (pe_cmpR op_in_seq (pv 2) (pe_ifExp (pt_cmpR (op_eqD hu64) (pv 4) (pe_lst pa_nil) (nomark _)) (pv 3) (pv 4)) (by with_unfolding_all rfl)))) pss_nil)
        (pss_cons (ps_if (pt_cmpR op_eq (pv 1) pe_str (nomark _)) (pss_one (ps_ret (pe_and (pe_cmpR (op_eqD hu64) (pv 4) (pe_lst pa_nil) (nomark _)) (pe_one (pe_cmpR op_in_seq (pv 2) (pv 3) (by with_unfolding_all rfl)))))) pss_nil)
        (pss_one (ps_ret (pe_or (pe_cmpR op_in_seq (pv 2) (pe_dget hu (pv 0) pe_str (fun _ _ => rfl)) (by with_unfolding_all rfl)) (pe_one (pe_cmpR op_lt (pe_callB (id := "len") call_len_seq rfl (z_len T) (by decide +kernel) (pa_cons (pe_dget hu (pv 0) pe_str (fun _ _ => rfl)) pa_nil)) pe_int (nomark _))))))))))), ?_⟩, g__law_mentions T, F.kp⟩
  obtain ⟨A, st, cn, cv, nl, pl, kk, nm, rfl, rfl, rfl, h, q⟩ := h
  refine asg_g (go_f (ea_cons (ev_var rfl) ea_nil) fun H1 e1 => ⟨_, rfl, A, st, cn, cv, nl, pl, rfl, h.ex e1, fun t a b H2 e2 ht ha hb => ?_⟩)
  refine ⟨t, _, rfl, st_of ht, rfl, ?_⟩
  refine ⟨_, _, rfl, _, _, rfl, rfl, ?_⟩
  have e12 := e1.trans e2
  have hN := h.nmb.items
  refine q_when (b := decide (V.str kk = .str "call")) (et_test (ev_op (ev_var rfl) ev_c (rv_eq rfl))) (fun h1 H3 e3 => ?_) fun h1 H3 e3 => ?_
  · refine s_ret (v := .bl (mentB (itemsN st.stk) (seenN st.stk) st.fl kk nm)) (ev_is (ev_eqS (ev_var rfl) (e3 _ _ hb) hN) ?_) fun H4 e4 => q.go ((e12.trans e3).trans e4)
    unfold mentB
    rw [if_pos (of_decide_eq_true h1)]
  refine q_when (b := decide (V.str kk = .str "use")) (et_test (ev_op (ev_var rfl) ev_c (rv_eq rfl))) (fun h2 H4 e4 => ?_) fun h2 H4 e4 => ?_
  · have e34 := e3.trans e4
    refine s_ret (v := .bl (mentB (itemsN st.stk) (seenN st.stk) st.fl kk nm)) (ev_is (ev_op (y := .ref (if itemsN st.stk = [] then a else b)) (ev_var rfl) (ev_if (b := decide (itemsN st.stk = [])) (et_test (ev_eqS (ev_var rfl) (e34 _ _ hb) hN)) (fun hh => ev_is (ev_var rfl) (by rw [if_pos (of_decide_eq_true hh)])) fun hh => ev_is (ev_var rfl) (by rw [if_neg (of_decide_eq_false hh)])) (rv_isL (xs := stV (if itemsN st.stk = [] then seenN st.stk else itemsN st.stk)) ?_ rfl (strs_flat' _))) ?_) fun H5 e5 => q.go ((e12.trans e34).trans e5)
    · by_cases z : itemsN st.stk = []
      · rw [if_pos z, if_pos z]
        exact sq_of (e34 _ _ ha)
      · rw [if_neg z, if_neg z]
        exact sq_of (e34 _ _ hb)
    · show _ = V.bl (mentB (itemsN st.stk) (seenN st.stk) st.fl kk nm)
      unfold mentB
      rw [if_neg (of_decide_eq_false h1), if_pos (of_decide_eq_true h2)]
  refine q_when (b := decide (V.str kk = .str "thing")) (et_test (ev_op (ev_var rfl) ev_c (rv_eq rfl))) (fun h3 H5 e5 => ?_) fun h3 H5 e5 => ?_
  · have e35 := (e3.trans e4).trans e5
    refine s_ret (v := .bl (mentB (itemsN st.stk) (seenN st.stk) st.fl kk nm)) (ev_is (ev_andV (ev_eqS (ev_var rfl) (e35 _ _ hb) hN) fun _ => ev_op (ev_var rfl) (ev_var rfl) (rv_isL (sq_of (e35 _ _ ha)) rfl (strs_flat' _))) ?_) fun H6 e6 => q.go ((e12.trans e35).trans e6)
    unfold mentB
    rw [if_neg (of_decide_eq_false h1), if_neg (of_decide_eq_false h2), if_pos (of_decide_eq_true h3)]
  · have e35 := (e3.trans e4).trans e5
    have h5 := h.ex (e12.trans e35)
    refine s_ret (v := .bl (mentB (itemsN st.stk) (seenN st.stk) st.fl kk nm)) (ev_is (ev_orV (ev_op (ev_var rfl) (ev_flags h5 (ev_var rfl)) (rv_isL (sq_of h5.f.1) rfl (strs_flat' _))) fun _ => ev_op (ev_len (ev_flags h5 (ev_var rfl)) (sq_of h5.f.1)) ev_c rv_I0) ?_) fun H6 e6 => q.go ((e12.trans e35).trans e6)
    unfold mentB
    rw [if_neg (of_decide_eq_false h1), if_neg (of_decide_eq_false h2), if_neg (of_decide_eq_false h3), stV_len]
    refine congrArg V.bl (congrArg _ ?_)
    rw [Bool.eq_iff_iff]
    simp
    omega
theorem atI_last' {α : Type} {l : List α} {x : α} : atI (l ++ [x]) (-1) = some x := by
  have e : ixN (l ++ [x]).length (-1) = some l.length := by
    unfold ixN
    rw [List.length_append]
    simp only [List.length_cons, List.length_nil]
    rw [if_neg (by omega), if_pos (by omega)]
    congr 1
    omega
  unfold atI
  rw [e]
  show (l ++ [x])[l.length]? = some x
  simp
theorem StH.top {H : Hp} {A : StA} {st : LS} {cn : List Nat} {cv : List V} {nl pl : List (List Nat)} (h : StH H A st cn cv nl pl) (hne : st.stk ≠ []) : ∃ s b ts t, st.stk = s ++ [b] ∧ A.bs = ts ++ [t] ∧ ts.length = s.length ∧ BlkH H t b := by
  have hne2 : A.bs ≠ [] := fun z => by
    have := h.bl.1
    rw [z] at this
    exact hne (List.length_eq_zero_iff.mp this.symm)
  have e1 := (List.dropLast_concat_getLast hne).symm
  have e2 := (List.dropLast_concat_getLast hne2).symm
  refine ⟨_, _, _, _, e1, e2, by rw [List.length_dropLast, List.length_dropLast, h.bl.1], ?_⟩
  refine h.bl.2 (st.stk.length - 1) _ _ ?_ ?_
  · rw [← h.bl.1, List.getLast_eq_getElem, List.getElem?_eq_getElem]
  · rw [List.getLast_eq_getElem, List.getElem?_eq_getElem]
def sp_stands : Sp := sp2 fun sd ln H Q _ => ∃ (A : StA) (st : LS) (cn : List Nat) (cv : List V) (nl pl : List (List Nat)) (q : Addr) (k a o x : Str), sd = .ref A.d ∧ ln = .ref q ∧ H q = some (.tup [.str k, .str a, .str o, .str x]) ∧ StH H A st cn cv nl pl ∧ RetV (.bl (standsA st k a o)) H Q
theorem o__law_stands (T : TT K mg) : CalX PW w K mg base CX0 3 "_law_stands" sp_stands := by
  obtain ⟨fd, F⟩ := f__law_stands T
  refine ⟨_, mk2 F (b__law_stands F) sc__law_stands fun a b cdv A outer s H Q E hr h => ⟨_, (have hu := hu_of hr; have hu64 := hu64_of hr; (pss_cons (ps_asg (pv 1) (pg_tup rfl (pgs_cons (pg_name (i := 2) sc__law_stands.nd rfl (Or.inl rfl)) (pgs_cons (pg_name (i := 3) sc__law_stands.nd rfl (Or.inl rfl)) (pgs_cons (pg_name (i := 4) sc__law_stands.nd rfl (Or.inl rfl)) (pgs_cons (pg_name (i := 5) sc__law_stands.nd rfl (Or.inl rfl)) pgs_nil))))))
        (pss_cons (ps_if (L2.PW.pt (pw_or (pt_cmpR op_eq (pe_dget hu (pv 0) pe_str (fun _ _ => rfl)) pe_int (nomark _)) (pw_or1 (pt_cmpR (op_eqD hu64) (pe_dget hu (pv 0) pe_str (fun _ _ => rfl)) (pe_lst pa_nil) (nomark _))))) (pss_one (ps_ret pe_bl)) pss_nil)
        (pss_cons (ps_asg (wc (o__law_seen T) hr (by decide) pass0 (pa_cons (pv 0) pa_nil)) (pg_tup rfl (pgs_cons (pg_name (i := 6) sc__law_stands.nd rfl (Or.inl rfl)) (pgs_cons (pg_name (i := 7) sc__law_stands.nd rfl (Or.inl rfl)) pgs_nil))))
        (pss_cons (ps_par (i := 8) (j := 9) rfl sc__law_stands.nd rfl rfl (by decide) rfl rfl (pa_cons (pe_ix ix_list (pe_ix ix_list (pe_dget hu (pv 0) pe_str (fun _ _ => rfl)) (pe_un un_neg pe_int) (fun _ _ => rfl)) pe_int (fun _ _ => rfl)) (pa_cons (pe_ix ix_list (pe_ix ix_list (pe_dget hu (pv 0) pe_str (fun _ _ => rfl)) (pe_un un_neg pe_int) (fun _ _ => rfl)) pe_int (fun _ _ => rfl)) pa_nil)) rfl)
        (pss_cons (ps_if (L2.PW.pt (pw_and (pt_cmpR op_in_seq (pv 2) (pe_lst (pa_cons pe_str (pa_cons pe_str (pa_cons pe_str (pa_cons pe_str pa_nil))))) (by with_unfolding_all rfl)) (pw_and1 (pt_cmpR op_gt (pe_callB (id := "len") call_len_seq rfl (z_len T) (by decide +kernel) (pa_cons (pe_dget hu (pv 0) pe_str (fun _ _ => rfl)) pa_nil)) pe_int (nomark _))))) (pss_one (ps_ret pe_bl)) pss_nil)
        (pss_cons (ps_if (pt_cmpR op_in_seq (pv 2) (pe_lst (pa_cons pe_str (pa_cons pe_str (pa_cons pe_str (pa_cons pe_str pa_nil))))) (by with_unfolding_all rfl)) (pss_one (ps_ret (wc (o__law_mentions T) hr (by decide) pass0 (pa_cons (pv 0) (pa_cons (pv 2) (pa_cons (pv 3) pa_nil)))))) pss_nil)
        (pss_cons (ps_if (pt_cmpR op_eq (pv 2) pe_str (nomark _)) (pss_one (ps_ret (wc (o__law_mentions T) hr (by decide) pass0 (pa_cons (pv 0) (pa_cons (pv 3) (pa_cons (pv 4) pa_nil)))))) pss_nil)
        (pss_cons (ps_if (L2.PW.pt (pw_and (pt_cmpR op_in_seq (pv 2) (pe_lst (pa_cons pe_str (pa_cons pe_str pa_nil))) (by with_unfolding_all rfl)) (pw_and1 (L2.PW.pt (pw_or (pt_cmpR (op_neD hu64) (pv 7) (pe_lst pa_nil) (nomark _)) (pw_or1 (pt_cmpR op_in_seq (pv 3) (pv 6) (by with_unfolding_all rfl)))))))) (pss_one (ps_ret pe_bl)) pss_nil)
        (pss_cons (ps_if (L2.PW.pt (pw_and (pt_cmpR op_eq (pv 2) pe_str (nomark _)) (pw_and1 (pt_cmpR op_ne (pv 4) pe_str (nomark _))))) (pss_one (ps_ret (pe_cmpR op_in_seq (pv 4) (pv 6) (by with_unfolding_all rfl)))) pss_nil)
        (pss_cons (ps_if (pt_cmpR op_eq (pv 2) pe_str (nomark _)) (pss_one (ps_ret (pe_cmpR (op_neD hu64) (pv 7) (pe_lst pa_nil) (nomark _)))) pss_nil)
        (pss_cons (ps_if (pt_cmpR op_eq (pv 2) pe_str (nomark _)) (pss_one (ps_ret (pe_or (pe_and (pe_cmpR op_eq (pv 8) pe_str (nomark _)) (pe_one (pe_cmpR op_eq (pv 9) pe_str (nomark _)))) (pe_one (pe_and (pe_cmpR op_eq (pv 8) pe_str (nomark _)) (pe_one (pe_cmpR op_eq (pv 9) pe_str (nomark _)))))))) pss_nil)
        (pss_cons (ps_if (pt_cmpR op_eq (pv 2) pe_str (nomark _)) (pss_one (ps_ret (pe_and (pe_cmpR op_eq (pv 8) pe_str (nomark _)) (pe_one (pe_cmpR op_ne (pv 9) pe_str (nomark _)))))) pss_nil)
        (pss_one (ps_ret (pe_or (pe_cmpR op_ne (pv 2) pe_str (nomark _)) (pe_or (pe_cmpR op_ne (pv 8) pe_str (nomark _)) (pe_one (pe_cmpR op_ne (pv 9) pe_str (nomark _)))))))))))))))))))), ?_⟩, g__law_stands T, F.kp⟩
  obtain ⟨A, st, cn, cv, nl, pl, qa, k, a, o, x, rfl, rfl, hq, h, q⟩ := h
  refine asg_g ⟨.ref qa, rfl, qa, _, rfl, st_of hq, rfl, ?_⟩
  refine ⟨_, _, rfl, _, _, rfl, _, _, rfl, _, _, rfl, rfl, ?_⟩
  refine q_when (b := decide (V.int (st.many : Int) = .int 40) || decide (st.stk = [])) (et_or (et_test (ev_op (ev_many h (ev_var rfl)) ev_c (rv_eq rfl))) fun _ => et_test (ev_stk0 h (ev_var rfl))) (fun h1 H1 e1 => ?_) fun h1 H1 e1 => ?_
  · refine s_ret (v := .bl (standsA st k a o)) (ev_is ev_c ?_) fun H2 e2 => q.go (e1.trans e2)
    unfold standsA
    rw [if_pos h1]
  have hne : st.stk ≠ [] := fun z => by
    rw [decide_eq_true z, Bool.or_true] at h1
    cases h1
  obtain ⟨s, b, ts, t, es, et, _, B⟩ := h.top hne
  have eA : standsA st k a o = standsB st b k a o := by
    unfold standsA
    rw [if_neg (by rw [h1]; decide), es, List.getLast?_concat]
  rw [eA] at q
  have hm := h.ex e1
  refine asg_g (go_f (ea_cons (ev_var rfl) ea_nil) fun H2 e2 => ⟨_, rfl, A, st, cn, cv, nl, pl, rfl, hm.ex e2, fun tt sa ia H3 e3 ht ha hi => ?_⟩)
  refine ⟨tt, _, rfl, st_of ht, rfl, ?_⟩
  refine ⟨_, _, rfl, _, _, rfl, rfl, ?_⟩
  have e13 := (e1.trans e2).trans e3
  have h3 := h.ex e13
  have lst : ∀ {σ : L2.St} {H4 : Hp} {j : Int} {v : V}, Ex H H4 → σ[0]? = some (some (.ref A.d)) → atI [V.str b.kind.s, .str b.ph.s, .ref t.2.1, .ref t.2.2] j = some v → Ev (tOp (rIxL K) (tOp (rIxL K) (tDGet (tVar 0) (tC (.str "stack"))) (tUn (rU fun i => .int (-i)) (tC (.int 1)))) (tC (.int j))) σ H4 v := fun {σ H4 j v} e h0 hv =>
    ev_op (ev_op (ev_stack (h.ex e) (ev_var h0)) (ev_un ev_c ru_neg) (rv_ixL (v := .ref t.1) (sq_of (h.ex e).s) (by rw [et, List.map_append]; exact atI_last'))) ev_c (rv_ixL (sq_of (e _ _ B.ob)) hv)
  refine par_2 (lst e13 rfl rfl H3 (Ex.refl _) _ fun H4 e4 => lst (e13.trans e4) rfl rfl H4 (Ex.refl _) _ fun H5 e5 => ⟨_, _, rfl, ?_⟩)
  have e15 := (e13.trans e4).trans e5
  have hi5 := (e4.trans e5) _ _ hi
  have ha5 := (e4.trans e5) _ _ ha
  have h5 := h.ex e15
  have hN := h.nmb.items
  clear lst ht hi ha h3 hm e13 e4 e5 eA h1
  have hlen : decide ((6 : Int) < ((A.bs.map fun t => V.ref t.1).length : Int)) = decide (6 < st.stk.length) := by
    rw [List.length_map, h.bl.1, Bool.eq_iff_iff]
    simp
    try omega
  refine q_when (b := inV (.str k) [.str "if", .str "raises", .str "try", .str "for"] && decide (6 < st.stk.length)) (et_and (et_test (ev_opL (ev_var rfl) (el_lst (ea_cons ev_c (ea_cons ev_c (ea_cons ev_c (ea_cons ev_c ea_nil)))) (by decide)) fun p Hx hp _ => rv_isL (sq_of hp) rfl rfl)) fun _ => et_is (et_test (ev_op (ev_len (ev_stack (h.ex e15) (ev_var rfl)) (sq_of (h.ex e15).s)) ev_c rv_I0)) hlen) (fun c1 G1 g1 => ?_) fun c1 G1 g1 => ?_
  · refine s_ret (v := .bl (standsB st b k a o)) (ev_is ev_c ?_) fun Hz ez => q.go ((e15.trans g1).trans ez)
    unfold standsB
    rw [if_pos (c1)]
  refine q_when (b := inV (.str k) [.str "call", .str "use", .str "thing", .str "flag"]) (et_test (ev_opL (ev_var rfl) (el_lst (ea_cons ev_c (ea_cons ev_c (ea_cons ev_c (ea_cons ev_c ea_nil)))) (by decide)) fun p Hx hp _ => rv_isL (sq_of hp) rfl rfl)) (fun c2 G2 g2 => ?_) fun c2 G2 g2 => ?_
  · refine s_ret (v := .bl (standsB st b k a o)) (ev_is (ev_sp3 (ev_var rfl) (ev_var rfl) (ev_var rfl) fun Hx ex Q' q' => ⟨A, st, cn, cv, nl, pl, k, a, rfl, rfl, rfl, (h.ex ((e15.trans g1).trans g2)).ex ex, q'⟩) ?_) fun Hz ez => q.go (((e15.trans g1).trans g2).trans ez)
    unfold standsB
    rw [if_neg (ne_true_of_eq_false c1), if_pos (c2)]
  refine q_when (b := decide (V.str k = .str "if")) (et_test (ev_op (ev_var rfl) ev_c (rv_eq rfl))) (fun c3 G3 g3 => ?_) fun c3 G3 g3 => ?_
  · refine s_ret (v := .bl (standsB st b k a o)) (ev_is (ev_sp3 (ev_var rfl) (ev_var rfl) (ev_var rfl) fun Hx ex Q' q' => ⟨A, st, cn, cv, nl, pl, a, o, rfl, rfl, rfl, (h.ex (((e15.trans g1).trans g2).trans g3)).ex ex, q'⟩) ?_) fun Hz ez => q.go ((((e15.trans g1).trans g2).trans g3).trans ez)
    unfold standsB
    rw [if_neg (ne_true_of_eq_false c1), if_neg (ne_true_of_eq_false c2), if_pos (of_decide_eq_true c3)]
  refine q_when (b := inV (.str k) [.str "let", .str "for"] && (!decide (itemsN st.stk = []) || inV (.str a) (stV (seenN st.stk)))) (et_and (et_test (ev_opL (ev_var rfl) (el_lst (ea_cons ev_c (ea_cons ev_c ea_nil)) (by decide)) fun p Hx hp _ => rv_isL (sq_of hp) rfl rfl)) fun _ => et_or (et_test (ev_neS (ev_var rfl) (((g1.trans g2).trans g3) _ _ hi5) hN)) fun _ => et_test (ev_op (ev_var rfl) (ev_var rfl) (rv_isL (sq_of (((g1.trans g2).trans g3) _ _ ha5)) rfl (strs_flat' _)))) (fun c4 G4 g4 => ?_) fun c4 G4 g4 => ?_
  · refine s_ret (v := .bl (standsB st b k a o)) (ev_is ev_c ?_) fun Hz ez => q.go (((((e15.trans g1).trans g2).trans g3).trans g4).trans ez)
    unfold standsB
    rw [if_neg (ne_true_of_eq_false c1), if_neg (ne_true_of_eq_false c2), if_neg (of_decide_eq_false c3), if_pos (c4)]
  refine q_when (b := decide (V.str k = .str "for") && !decide (V.str o = .str "")) (et_and (et_test (ev_op (ev_var rfl) ev_c (rv_eq rfl))) fun _ => et_test (ev_op (ev_var rfl) ev_c (rv_ne rfl))) (fun c5 G5 g5 => ?_) fun c5 G5 g5 => ?_
  · refine s_ret (v := .bl (standsB st b k a o)) (ev_is (ev_op (ev_var rfl) (ev_var rfl) (rv_isL (sq_of (((((g1.trans g2).trans g3).trans g4).trans g5) _ _ ha5)) rfl (strs_flat' _))) ?_) fun Hz ez => q.go ((((((e15.trans g1).trans g2).trans g3).trans g4).trans g5).trans ez)
    unfold standsB
    rw [if_neg (ne_true_of_eq_false c1), if_neg (ne_true_of_eq_false c2), if_neg (of_decide_eq_false c3), if_neg (ne_true_of_eq_false c4), if_pos (c5)]
  refine q_when (b := decide (V.str k = .str "leave")) (et_test (ev_op (ev_var rfl) ev_c (rv_eq rfl))) (fun c6 G6 g6 => ?_) fun c6 G6 g6 => ?_
  · refine s_ret (v := .bl (standsB st b k a o)) (ev_is (ev_neS (ev_var rfl) ((((((g1.trans g2).trans g3).trans g4).trans g5).trans g6) _ _ hi5) hN) ?_) fun Hz ez => q.go (((((((e15.trans g1).trans g2).trans g3).trans g4).trans g5).trans g6).trans ez)
    unfold standsB
    rw [if_neg (ne_true_of_eq_false c1), if_neg (ne_true_of_eq_false c2), if_neg (of_decide_eq_false c3), if_neg (ne_true_of_eq_false c4), if_neg (ne_true_of_eq_false c5), if_pos (of_decide_eq_true c6)]
  refine q_when (b := decide (V.str k = .str "else")) (et_test (ev_op (ev_var rfl) ev_c (rv_eq rfl))) (fun c7 G7 g7 => ?_) fun c7 G7 g7 => ?_
  · refine s_ret (v := .bl (standsB st b k a o)) (ev_is (ev_orV (ev_andV (ev_op (ev_var rfl) ev_c (rv_eq rfl)) fun _ => ev_op (ev_var rfl) ev_c (rv_eq rfl)) fun _ => ev_andV (ev_op (ev_var rfl) ev_c (rv_eq rfl)) fun _ => ev_op (ev_var rfl) ev_c (rv_eq rfl)) ?_) fun Hz ez => q.go ((((((((e15.trans g1).trans g2).trans g3).trans g4).trans g5).trans g6).trans g7).trans ez)
    unfold standsB
    rw [if_neg (ne_true_of_eq_false c1), if_neg (ne_true_of_eq_false c2), if_neg (of_decide_eq_false c3), if_neg (ne_true_of_eq_false c4), if_neg (ne_true_of_eq_false c5), if_neg (of_decide_eq_false c6), if_pos (of_decide_eq_true c7)]
  refine q_when (b := decide (V.str k = .str "except")) (et_test (ev_op (ev_var rfl) ev_c (rv_eq rfl))) (fun c8 G8 g8 => ?_) fun c8 G8 g8 => ?_
  · refine s_ret (v := .bl (standsB st b k a o)) (ev_is (ev_andV (ev_op (ev_var rfl) ev_c (rv_eq rfl)) fun _ => ev_op (ev_var rfl) ev_c (rv_ne rfl)) ?_) fun Hz ez => q.go (((((((((e15.trans g1).trans g2).trans g3).trans g4).trans g5).trans g6).trans g7).trans g8).trans ez)
    unfold standsB
    rw [if_neg (ne_true_of_eq_false c1), if_neg (ne_true_of_eq_false c2), if_neg (of_decide_eq_false c3), if_neg (ne_true_of_eq_false c4), if_neg (ne_true_of_eq_false c5), if_neg (of_decide_eq_false c6), if_neg (of_decide_eq_false c7), if_pos (of_decide_eq_true c8)]
  refine s_ret (v := .bl (standsB st b k a o)) (ev_is (ev_orV (ev_op (ev_var rfl) ev_c (rv_ne rfl)) fun _ => ev_orV (ev_op (ev_var rfl) ev_c (rv_ne rfl)) fun _ => ev_op (ev_var rfl) ev_c (rv_ne rfl)) ?_) fun Hz ez => q.go (((((((((e15.trans g1).trans g2).trans g3).trans g4).trans g5).trans g6).trans g7).trans g8).trans ez)
  unfold standsB
  rw [if_neg (ne_true_of_eq_false c1), if_neg (ne_true_of_eq_false c2), if_neg (of_decide_eq_false c3), if_neg (ne_true_of_eq_false c4), if_neg (ne_true_of_eq_false c5), if_neg (of_decide_eq_false c6), if_neg (of_decide_eq_false c7), if_neg (of_decide_eq_false c8)]
end WP
set_option Elab.async false
set_option linter.all false
set_option maxRecDepth 100000
set_option maxHeartbeats 4000000
/-! what a line that stands changes, in the law's own steps -/
namespace WP
open PySem PySem.Spec PyProof.Rows L2 Evl SX
def tlS (x : Str) : List Nat := x.cps.toList
def a1 (st : LS) : LS := ⟨st.stk, st.fl, st.many + 1⟩
def flOf (k a o : Str) : Str := if V.str k = .str "flag" then a else if (decide (V.str k = .str "if") && decide (V.str a = .str "flag")) = true then o else S []
def a2 (f : Str) (st : LS) : LS := if (!decide (V.str f = .str "") && !inV (.str f) (stV st.fl)) = true then ⟨st.stk, st.fl ++ [tlS f], st.many⟩ else st
def a3 (k a : Str) (st : LS) : LS := if V.str k = .str "let" then ⟨topTo st.stk fun b => ⟨b.kind, b.ph, b.ns ++ [tlS a], b.its⟩, st.fl, st.many⟩ else st
def bkOf (k : Str) : BK := if V.str k = .str "if" then .if_ else if V.str k = .str "raises" then .raises else .try_
def a4 (k : Str) (st : LS) : LS := if inV (.str k) [.str "if", .str "raises", .str "try"] = true then ⟨st.stk ++ [⟨bkOf k, .rows, [], []⟩], st.fl, st.many⟩ else st
def a5 (k a : Str) (st : LS) : LS := if V.str k = .str "for" then ⟨st.stk ++ [⟨.for_, .rows, [], [tlS a]⟩], st.fl, st.many⟩ else st
def phOf (k : Str) : PH := if V.str k = .str "else" then .else_ else .except_
def a6 (k : Str) (st : LS) : LS := if inV (.str k) [.str "else", .str "except"] = true then ⟨topTo st.stk fun b => ⟨b.kind, phOf k, [], []⟩, st.fl, st.many⟩ else st
def a7 (k : Str) (st : LS) : LS := if V.str k = .str "end" then ⟨st.stk.dropLast, st.fl, st.many⟩ else st
def aAll (k a o : Str) (st : LS) : LS := a7 k (a6 k (a5 k a (a4 k (a3 k a (a2 (flOf k a o) (a1 st))))))
theorem inV3 {k x y z : Str} (h : inV (.str k) [.str x, .str y, .str z] = true) : k = x ∨ k = y ∨ k = z := by
  have h : (eqV (.str x) (.str k) || (eqV (.str y) (.str k) || (eqV (.str z) (.str k) || false))) = true := h
  have e : ∀ {u : Str}, eqV (.str u) (.str k) = true → k = u := fun {u} h => by
    have h : (u == k) = true := h
    exact (eq_of_beq h).symm
  simp only [Bool.or_eq_true, Bool.or_false] at h
  rcases h with h | h | h
  · exact .inl (e h)
  · exact .inr (.inl (e h))
  · exact .inr (.inr (e h))
theorem inV2 {k x y : Str} (h : inV (.str k) [.str x, .str y] = true) : k = x ∨ k = y := by
  have h : (eqV (.str x) (.str k) || (eqV (.str y) (.str k) || false)) = true := h
  have e : ∀ {u : Str}, eqV (.str u) (.str k) = true → k = u := fun {u} h => by
    have h : (u == k) = true := h
    exact (eq_of_beq h).symm
  simp only [Bool.or_eq_true, Bool.or_false] at h
  rcases h with h | h
  · exact .inl (e h)
  · exact .inr (e h)
theorem bkOf_s {k : Str} (h : inV (.str k) [.str "if", .str "raises", .str "try"] = true) : k = (bkOf k).s := by
  rcases inV3 h with rfl | rfl | rfl <;> rfl
theorem phOf_s {k : Str} (h : inV (.str k) [.str "else", .str "except"] = true) : k = (phOf k).s := by
  rcases inV2 h with rfl | rfl <;> rfl
theorem a2_nil {st : LS} : a2 (S []) st = st := rfl
theorem a2_f {f : List Nat} {st : LS} (hf : f ≠ []) : a2 (S f) st = ⟨st.stk, flA st.fl f, st.many⟩ := by
  have e : decide (V.str (S f) = V.str "") = false := decide_eq_false fun z => hf (S_inj (b := []) (V.str.inj z))
  unfold a2 flA
  rw [e, inV_strs]
  by_cases h : f ∈ st.fl
  · rw [if_pos h, decide_eq_true h]; rfl
  · rw [if_neg h, decide_eq_false h]; rfl
theorem fl_at {t : At} (h : t.wf) (st : LS) : a2 (flOf t.kd.1 t.kd.2 (S [])) st = ⟨st.stk, t.fl st.fl, st.many⟩ := by
  cases t with
  | on f => exact a2_f (isNm_ne0 h)
  | inn t => cases t <;> rfl
  | su t =>
    cases t with
    | th t => cases t <;> rfl
    | it0 n => rfl
  | _ => rfl
theorem fl_if {t : At} (h : t.wf) (st : LS) : a2 (flOf "if" t.kd.1 t.kd.2) st = ⟨st.stk, t.fl st.fl, st.many⟩ := by
  cases t with
  | on f => exact a2_f (isNm_ne0 h)
  | inn t => cases t <;> rfl
  | su t =>
    cases t with
    | th t => cases t <;> rfl
    | it0 n => rfl
  | _ => rfl
/-- behind the flags an atom's kind changes nothing -/
theorem rest_at (t : At) (a : Str) (st : LS) : a7 t.kd.1 (a6 t.kd.1 (a5 t.kd.1 a (a4 t.kd.1 (a3 t.kd.1 a st)))) = st := by
  rcases at_kd t with e | e | e | e <;> rw [e] <;> rfl
theorem after_eq {st : LS} {l : LK} (hl : l ≠ .test) (hw : l.wf) : aAll l.kd.1 l.kd.2.1 l.kd.2.2 st = st.after l := by
  cases l with
  | row p =>
    cases p with
    | plain w => rfl
    | leave w => rfl
    | set_ b f =>
      show a7 "flag" (a6 "flag" (a5 "flag" (S f) (a4 "flag" (a3 "flag" (S f) (a2 (S f) (a1 st)))))) = _
      rw [a2_f (isNm_ne0 hw)]
      rfl
    | call n vs => rfl
    | let_ n c vs => rfl
    | chk neg t =>
      show a7 t.kd.1 (a6 t.kd.1 (a5 t.kd.1 t.kd.2 (a4 t.kd.1 (a3 t.kd.1 t.kd.2 (a2 (flOf t.kd.1 t.kd.2 (S [])) (a1 st)))))) = _
      rw [rest_at, fl_at hw]
      rfl
    | note n => rfl
    | asm t =>
      show a7 t.kd.1 (a6 t.kd.1 (a5 t.kd.1 t.kd.2 (a4 t.kd.1 (a3 t.kd.1 t.kd.2 (a2 (flOf t.kd.1 t.kd.2 (S [])) (a1 st)))))) = _
      rw [rest_at, fl_at hw]
      rfl
  | end_ => rfl
  | except_ => rfl
  | else_ => rfl
  | if_ neg t =>
    show a7 "if" (a6 "if" (a5 "if" t.kd.1 (a4 "if" (a3 "if" t.kd.1 (a2 (flOf "if" t.kd.1 t.kd.2) (a1 st)))))) = _
    rw [fl_if hw]
    rfl
  | raises_ => rfl
  | try_ => rfl
  | for_ n t => cases t <;> rfl
  | test => exact absurd rfl hl
/-- bounds -/
structure Bd (n : Nat) (st : LS) : Prop where
  m : st.many ≤ n
  k : st.stk.length ≤ n
  f : st.fl.length ≤ n
  b : ∀ b ∈ st.stk, b.ns.length ≤ n ∧ b.its.length ≤ n
theorem topTo_mem {s : List Blk} {f : Blk → Blk} {b : Blk} (h : b ∈ topTo s f) : b ∈ s ∨ ∃ c ∈ s, b = f c := by
  unfold topTo at h
  split at h
  · rename_i c e
    rcases List.mem_append.mp h with h | h
    · exact .inl (List.dropLast_subset _ h)
    · rw [List.mem_singleton] at h
      exact .inr ⟨c, List.mem_of_getLast? e, h⟩
  · exact .inl h
theorem topTo_len {s : List Blk} {f : Blk → Blk} : (topTo s f).length ≤ s.length := by
  unfold topTo
  split
  · rename_i c e
    have h0 : s ≠ [] := fun z => by rw [z] at e; cases e
    have := List.length_pos_iff.mpr h0
    rw [List.length_append, List.length_dropLast]
    simp only [List.length_cons, List.length_nil]
    omega
  · exact Nat.le_refl _
section
variable {n : Nat} {st : LS} {k a o f : Str}
theorem Bd.le {m : Nat} (h : Bd n st) (e : n ≤ m) : Bd m st := ⟨Nat.le_trans h.m e, Nat.le_trans h.k e, Nat.le_trans h.f e, fun b hb => ⟨Nat.le_trans (h.b b hb).1 e, Nat.le_trans (h.b b hb).2 e⟩⟩
theorem Bd.a1 (h : Bd n st) : Bd (n + 1) (a1 st) := ⟨Nat.succ_le_succ h.m, Nat.le_succ_of_le h.k, Nat.le_succ_of_le h.f, (h.le (Nat.le_succ n)).b⟩
theorem Bd.a2 (h : Bd n st) : Bd (n + 1) (a2 f st) := by
  unfold WP.a2
  split
  · exact ⟨Nat.le_succ_of_le h.m, Nat.le_succ_of_le h.k, by rw [List.length_append]; exact Nat.succ_le_succ h.f, (h.le (Nat.le_succ n)).b⟩
  · exact h.le (Nat.le_succ n)
theorem Bd.a3 (h : Bd n st) : Bd (n + 1) (a3 k a st) := by
  unfold WP.a3
  split
  · refine ⟨Nat.le_succ_of_le h.m, Nat.le_succ_of_le (Nat.le_trans topTo_len h.k), Nat.le_succ_of_le h.f, fun b hb => ?_⟩
    rcases topTo_mem hb with hb | ⟨c, hc, rfl⟩
    · exact (h.le (Nat.le_succ n)).b b hb
    · have := h.b c hc
      exact ⟨by rw [List.length_append]; exact Nat.succ_le_succ this.1, Nat.le_succ_of_le this.2⟩
  · exact h.le (Nat.le_succ n)
theorem Bd.push (h : Bd n st) {b : Blk} (hb : b.ns.length ≤ n + 1 ∧ b.its.length ≤ n + 1) : Bd (n + 1) ⟨st.stk ++ [b], st.fl, st.many⟩ :=
  ⟨Nat.le_succ_of_le h.m, by rw [List.length_append]; exact Nat.succ_le_succ h.k, Nat.le_succ_of_le h.f, fun c hc => by
    rcases List.mem_append.mp hc with hc | hc
    · exact (h.le (Nat.le_succ n)).b c hc
    · rw [List.mem_singleton] at hc
      rw [hc]
      exact hb⟩
theorem Bd.a4 (h : Bd n st) : Bd (n + 1) (a4 k st) := by
  unfold WP.a4
  split
  · exact h.push ⟨Nat.zero_le _, Nat.zero_le _⟩
  · exact h.le (Nat.le_succ n)
theorem Bd.a5 (h : Bd n st) : Bd (n + 1) (a5 k a st) := by
  unfold WP.a5
  split
  · exact h.push ⟨Nat.zero_le _, Nat.succ_le_succ (Nat.zero_le _)⟩
  · exact h.le (Nat.le_succ n)
theorem Bd.a6 (h : Bd n st) : Bd n (a6 k st) := by
  unfold WP.a6
  split
  · refine ⟨h.m, Nat.le_trans topTo_len h.k, h.f, fun b hb => ?_⟩
    rcases topTo_mem hb with hb | ⟨c, hc, rfl⟩
    · exact h.b b hb
    · exact ⟨Nat.zero_le _, Nat.zero_le _⟩
  · exact h
theorem Bd.a7 (h : Bd n st) : Bd n (a7 k st) := by
  unfold WP.a7
  split
  · exact ⟨h.m, Nat.le_trans (List.length_dropLast ▸ Nat.sub_le _ _) h.k, h.f, fun b hb => h.b b (List.dropLast_subset _ hb)⟩
  · exact h
end
/-- the bounds of a state, told by its lines -/
def BdS (st : LS) : Prop := st.many ≤ 40 ∧ Bd st.many st
theorem bd_row {st : LS} (h : Bd st.many st) {s : List Blk} {f : List (List Nat)} (hs : s.length ≤ st.many + 1) (hf : f.length ≤ st.many + 1) (hb : ∀ b ∈ s, b.ns.length ≤ st.many + 1 ∧ b.its.length ≤ st.many + 1) : Bd (st.many + 1) ⟨s, f, st.many + 1⟩ := ⟨Nat.le_refl _, hs, hf, hb⟩
theorem flA_len {fl : List (List Nat)} {f : List Nat} : (flA fl f).length ≤ fl.length + 1 := by
  unfold flA
  split
  · exact Nat.le_succ _
  · rw [List.length_append]
    exact Nat.le_refl _
theorem At.fl_len {fl : List (List Nat)} (t : At) : (t.fl fl).length ≤ fl.length + 1 := by
  cases t <;> first
    | exact flA_len
    | exact Nat.le_succ _
theorem Pk.fl_len {fl : List (List Nat)} (t : Pk) : (t.fl fl).length ≤ fl.length + 1 := by
  cases t <;> first
    | exact flA_len
    | exact At.fl_len _
    | exact Nat.le_succ _
theorem BdS.after {st : LS} {l : LK} (h : BdS st) (hs : st.stands l) (hl : l ≠ .test) : BdS (st.after l) := by
  obtain ⟨h1, h2⟩ := h
  have h40 := hs.1
  have hm := LS.many_s st l hl
  refine ⟨by rw [hm]; omega, ?_⟩
  rw [hm]
  have h3 := h2.le (Nat.le_succ _)
  have old : ∀ b ∈ st.stk, b.ns.length ≤ st.many + 1 ∧ b.its.length ≤ st.many + 1 := h3.b
  have psh : ∀ {c : Blk} (_ : c.ns.length ≤ st.many + 1 ∧ c.its.length ≤ st.many + 1), ∀ b ∈ st.stk ++ [c], b.ns.length ≤ st.many + 1 ∧ b.its.length ≤ st.many + 1 := fun {c} hc b hb => by
    rcases List.mem_append.mp hb with hb | hb
    · exact old b hb
    · rw [List.mem_singleton] at hb
      rw [hb]
      exact hc
  have pl : ∀ {c : Blk}, (st.stk ++ [c]).length ≤ st.many + 1 := fun {c} => by rw [List.length_append]; exact Nat.succ_le_succ h2.k
  have fl0 : st.fl.length ≤ st.many + 1 := h3.f
  cases l with
  | row p =>
    refine bd_row h2 ?_ (Nat.le_trans (Pk.fl_len p) (Nat.succ_le_succ h2.f)) ?_
    · cases p with
      | let_ n c vs => exact Nat.le_trans topTo_len h3.k
      | _ => exact h3.k
    · cases p with
      | let_ n c vs =>
        intro b hb
        rcases topTo_mem hb with hb | ⟨c, hc, rfl⟩
        · exact old b hb
        · have := h2.b c hc
          exact ⟨by show (c.ns ++ [n]).length ≤ _; rw [List.length_append]; exact Nat.succ_le_succ this.1, Nat.le_succ_of_le this.2⟩
      | _ => exact old
  | end_ => exact bd_row h2 (Nat.le_trans (List.length_dropLast ▸ Nat.sub_le _ _) h3.k) fl0 fun b hb => old b (List.dropLast_subset _ hb)
  | except_ =>
    exact bd_row h2 (Nat.le_trans topTo_len h3.k) fl0 fun b hb => by
      rcases topTo_mem hb with hb | ⟨c, hc, rfl⟩
      · exact old b hb
      · exact ⟨Nat.zero_le _, Nat.zero_le _⟩
  | else_ =>
    exact bd_row h2 (Nat.le_trans topTo_len h3.k) fl0 fun b hb => by
      rcases topTo_mem hb with hb | ⟨c, hc, rfl⟩
      · exact old b hb
      · exact ⟨Nat.zero_le _, Nat.zero_le _⟩
  | if_ neg t => exact bd_row h2 pl (Nat.le_trans (At.fl_len t) (Nat.succ_le_succ h2.f)) (psh ⟨Nat.zero_le _, Nat.zero_le _⟩)
  | raises_ => exact bd_row h2 pl fl0 (psh ⟨Nat.zero_le _, Nat.zero_le _⟩)
  | try_ => exact bd_row h2 pl fl0 (psh ⟨Nat.zero_le _, Nat.zero_le _⟩)
  | for_ n t => exact bd_row h2 pl fl0 (psh ⟨Nat.zero_le _, Nat.succ_le_succ (Nat.zero_le _)⟩)
  | test => exact absurd rfl hl
end WP
set_option Elab.async false
set_option linter.all false
set_option maxRecDepth 100000
set_option maxHeartbeats 4000000
/-! what a line that stands changes -/
namespace WP
open PySem PySem.Spec PyProof.Rows L2 Evl SX
variable {w : World} {K : PySem.W.Frag} {mg : Str → Option Value} {base : Heap}
/-- the state without its bounds -/
structure StC (H : Hp) (A : StA) (st : LS) (cn : List Nat) (cv : List V) (nl pl : List (List Nat)) : Prop where
  d : ∃ kvs, H A.d = some (.dK kvs) ∧ kvs.length ≤ 15 ∧ valV kvs (.inr "stack") = some (.ref A.sp) ∧ valV kvs (.inr "flags") = some (.ref A.fp) ∧ valV kvs (.inr "many") = some (.int (st.many : Int)) ∧
    valV kvs (.inr "call") = some (.str (S (callT cn cv))) ∧ valV kvs (.inr "names") = some (.ref A.np) ∧ valV kvs (.inr "pool") = some (.ref A.pp)
  n : H A.np = some (.lst (stV nl))
  p : H A.pp = some (.lst (stV pl))
  s : H A.sp = some (.lst (A.bs.map fun t => .ref t.1))
  bl : A.bs.length = st.stk.length ∧ ∀ (i : Nat) t b, A.bs[i]? = some t → st.stk[i]? = some b → BlkH H t b
  nd : (A.bs.map (·.1)).Nodup
  f : H A.fp = some (.lst (stV st.fl)) ∧ ∀ n ∈ st.fl, isNm n = true
section
variable {H H' : Hp} {A : StA} {st : LS} {cn : List Nat} {cv : List V} {nl pl : List (List Nat)}
theorem StH.c (h : StH H A st cn cv nl pl) : StC H A st cn cv nl pl := ⟨h.d, h.n, h.p, h.s, h.bl, h.nd, h.f⟩
theorem StC.h (h : StC H A st cn cv nl pl) (wf : (Th.call cn cv).wf) (nn : nl ≠ [] ∧ nl.length ≤ 1000 ∧ ∀ n ∈ nl, isNm n = true) (pn : pl ≠ [] ∧ pl.length ≤ 1000 ∧ ∀ n ∈ pl, isNm n = true) (bd : BdS st) : StH H A st cn cv nl pl :=
  ⟨h.d, h.n, h.p, wf, nn, pn, h.s, h.bl, h.nd, h.f, bd.1, bd.2.k, bd.2.f, bd.2.b⟩
theorem StH.bds (h : StH H A st cn cv nl pl) : BdS st := ⟨h.bd.1, Nat.le_refl _, h.bd.2.1, h.bd.2.2.1, h.bd.2.2.2⟩
/-- what is said of an object stands, the one at x is another -/
theorem keepX {H H' : Hp} {x : Addr} {o0 : HO} (c : Ch (fun z => z = x) H H') (hx : H x = some o0) {a : Addr} {o : HO} (ha : H a = some o) (n : o ≠ o0) : H' a = some o :=
  c _ _ ha fun z => n (by rw [z, hx] at ha; exact (Option.some.inj ha).symm)
theorem StC.ex (h : StC H A st cn cv nl pl) (e : Ex H H') : StC H' A st cn cv nl pl := by
  obtain ⟨kvs, h1, h2⟩ := h.d
  exact ⟨⟨kvs, e _ _ h1, h2⟩, e _ _ h.n, e _ _ h.p, e _ _ h.s, ⟨h.bl.1, fun i t b h3 h4 => have B := h.bl.2 i t b h3 h4; ⟨e _ _ B.ob, e _ _ B.ns, e _ _ B.im, B.nn, B.ni⟩⟩, h.nd, ⟨e _ _ h.f.1, h.f.2⟩⟩
/-- the dict is changed -/
theorem StC.dput (h : StC H A st cn cv nl pl) {kvs kvs' : List (Key × V)} (hd : H A.d = some (.dK kvs)) (c : Ch (fun z => z = A.d) H H') {st' : LS} {A' : StA} (hd' : H' A'.d = some (.dK kvs')) (hl : kvs'.length ≤ 15) (h1 : valV kvs' (.inr "stack") = some (.ref A.sp)) (h2 : valV kvs' (.inr "flags") = some (.ref A'.fp))
    (h3 : valV kvs' (.inr "many") = some (.int (st'.many : Int))) (h4 : valV kvs' (.inr "call") = some (.str (S (callT cn cv)))) (h5 : valV kvs' (.inr "names") = some (.ref A.np)) (h6 : valV kvs' (.inr "pool") = some (.ref A.pp))
    (hf : H' A'.fp = some (.lst (stV st'.fl)) ∧ ∀ n ∈ st'.fl, isNm n = true) (es : st'.stk = st.stk) (e1 : A'.sp = A.sp) (e2 : A'.np = A.np) (e3 : A'.pp = A.pp) (e4 : A'.bs = A.bs) : StC H' A' st' cn cv nl pl := by
  have kl : ∀ {a : Addr} {xs : List V}, H a = some (.lst xs) → H' a = some (.lst xs) := fun e => keepX c hd e (by intro z; cases z)
  obtain ⟨d', sp', fp', np', pp', bs'⟩ := A'
  simp only at e1 e2 e3 e4 h2 hf hd'
  subst e1 e2 e3 e4
  refine ⟨⟨kvs', hd', hl, h1, h2, h3, h4, h5, h6⟩, kl h.n, kl h.p, kl h.s, ⟨by rw [es]; exact h.bl.1, fun i t b h7 h8 => ?_⟩, h.nd, hf⟩
  rw [es] at h8
  have B := h.bl.2 i t b h7 h8
  exact ⟨kl B.ob, kl B.ns, kl B.im, B.nn, B.ni⟩
theorem refs_ne_strs {α : Type} {l : List α} {f : α → Addr} (h : l ≠ []) {m : List (List Nat)} : HO.lst (stV m) ≠ .lst (l.map fun t => .ref (f t)) := fun e => by
  have e := HO.lst.inj e
  cases l with
  | nil => exact h rfl
  | cons a r =>
    cases m with
    | nil => cases e
    | cons b m => cases e
theorem refs_ne_blk {α : Type} {l : List α} {f : α → Addr} {x : Str} {ys : List V} : HO.lst (.str x :: ys) ≠ .lst (l.map fun t => .ref (f t)) := fun e => by
  have e := HO.lst.inj e
  cases l with
  | nil => cases e
  | cons a r => cases e
theorem strs_ne_blk {m : List (List Nat)} {x y : Str} {a b : Addr} : HO.lst (stV m) ≠ .lst [.str x, .str y, .ref a, .ref b] := fun e => by
  have e := HO.lst.inj e
  match m, e with
  | [], e => cases e
  | [_], e => cases e
  | [_, _], e => cases e
  | _ :: _ :: _ :: _, e => cases e
/-- the stack is changed -/
theorem StC.sput (h : StC H A st cn cv nl pl) (hne : A.bs ≠ []) (c : Ch (fun z => z = A.sp) H H') {bs' : List (Addr × Addr × Addr)} {stk' : List Blk} (hs : H' A.sp = some (.lst (bs'.map fun t => .ref t.1))) (hl : bs'.length = stk'.length)
    (hb : ∀ (i : Nat) t b, bs'[i]? = some t → stk'[i]? = some b → (A.bs[i]? = some t ∧ st.stk[i]? = some b) ∨ BlkH H' t b) (hn : (bs'.map (·.1)).Nodup) : StC H' ⟨A.d, A.sp, A.fp, A.np, A.pp, bs'⟩ ⟨stk', st.fl, st.many⟩ cn cv nl pl := by
  obtain ⟨kvs, h1, h2⟩ := h.d
  have ks : ∀ {a : Addr} {m : List (List Nat)}, H a = some (.lst (stV m)) → H' a = some (.lst (stV m)) := fun e => keepX c h.s e (refs_ne_strs hne)
  refine ⟨⟨kvs, keepX c h.s h1 (by intro z; cases z), h2⟩, ks h.n, ks h.p, hs, ⟨hl, fun i t b h3 h4 => ?_⟩, hn, ks h.f.1, h.f.2⟩
  rcases hb i t b h3 h4 with ⟨h5, h6⟩ | B
  · have B := h.bl.2 i t b h5 h6
    exact ⟨keepX c h.s B.ob refs_ne_blk, ks B.ns, ks B.im, B.nn, B.ni⟩
  · exact B
/-- the last block's names are changed -/
theorem StC.bput (h : StC H A st cn cv nl pl) {s : List Blk} {b : Blk} {ts : List (Addr × Addr × Addr)} {t : Addr × Addr × Addr} (es : st.stk = s ++ [b]) (et : A.bs = ts ++ [t]) (hl : ts.length = s.length) (B : BlkH H t b) (c : Ch (fun z => z = t.1) H H') {n' : Addr} {ns' : List (List Nat)}
    (h1 : H' t.1 = some (.lst [.str b.kind.s, .str b.ph.s, .ref n', .ref t.2.2])) (h2 : H' n' = some (.lst (stV ns'))) (h3 : ∀ n ∈ ns', isNm n = true) :
    StC H' ⟨A.d, A.sp, A.fp, A.np, A.pp, ts ++ [(t.1, n', t.2.2)]⟩ ⟨s ++ [⟨b.kind, b.ph, ns', b.its⟩], st.fl, st.many⟩ cn cv nl pl := by
  obtain ⟨kvs, g1, g2⟩ := h.d
  have ks : ∀ {a : Addr} {m : List (List Nat)}, H a = some (.lst (stV m)) → H' a = some (.lst (stV m)) := fun e => keepX c B.ob e strs_ne_blk
  have nd := h.nd
  rw [et, List.map_append, List.nodup_append] at nd
  refine ⟨⟨kvs, keepX c B.ob g1 (by intro z; cases z), g2⟩, ks h.n, ks h.p, ?_, ⟨by rw [List.length_append, List.length_append, hl]; rfl, fun i t' b' h5 h6 => ?_⟩, ?_, ks h.f.1, h.f.2⟩
  · have e := h.s
    rw [et] at e
    have e2 := keepX c B.ob e (fun z => refs_ne_blk z.symm)
    rw [List.map_append] at e2 ⊢
    exact e2
  · by_cases hi : i < ts.length
    · rw [List.getElem?_append_left hi] at h5
      rw [List.getElem?_append_left (by omega)] at h6
      have Bi := h.bl.2 i t' b' (by rw [et, List.getElem?_append_left hi]; exact h5) (by rw [es, List.getElem?_append_left (by omega)]; exact h6)
      refine ⟨c _ _ Bi.ob fun z => ?_, ks Bi.ns, ks Bi.im, Bi.nn, Bi.ni⟩
      exact nd.2.2 t'.1 (List.mem_map.mpr ⟨t', List.mem_of_getElem? h5, rfl⟩) t.1 (by simp) z
    · rw [List.getElem?_append_right (by omega)] at h5
      rw [List.getElem?_append_right (by omega)] at h6
      have e0 : i - ts.length = 0 := by
        have := (List.getElem?_eq_some_iff.mp h5).1
        simp only [List.length_cons, List.length_nil] at this
        omega
      have e1 : i - s.length = 0 := by omega
      rw [e0] at h5
      rw [e1] at h6
      obtain rfl := Option.some.inj h5
      obtain rfl := Option.some.inj h6
      exact ⟨h1, h2, ks B.im, h3, B.ni⟩
  · show ((ts ++ [(t.1, n', t.2.2)]).map (·.1)).Nodup
    have e : (ts ++ [(t.1, n', t.2.2)]).map (·.1) = A.bs.map (·.1) := by
      rw [et, List.map_append, List.map_append]
      rfl
    rw [e]
    exact h.nd
end
section
variable {σ : L2.St} {H : Hp} {A : StA} {st : LS} {cn : List Nat} {cv : List V} {nl pl : List (List Nat)} {td : TE}
theorem StC.stack (h : StC H A st cn cv nl pl) (hx : Ev td σ H (.ref A.d)) : Ev (tDGet td (tC (.str "stack"))) σ H (.ref A.sp) := by
  obtain ⟨kvs, h1, h2, h3, _⟩ := h.d
  exact ev_dgk hx h1 h3
theorem StC.flags (h : StC H A st cn cv nl pl) (hx : Ev td σ H (.ref A.d)) : Ev (tDGet td (tC (.str "flags"))) σ H (.ref A.fp) := by
  obtain ⟨kvs, h1, h2, h3, h4, _⟩ := h.d
  exact ev_dgk hx h1 h4
theorem s_dputk {tv : TE} {D : Ends} {d : Addr} {kvs : List (Key × V)} {k : Str} {v : V} (hv : Ev tv σ H v) (hx : Ev td σ H (.ref d)) (hd : H d = some (.dK kvs)) (hl : kvs.length ≤ 15) (q : ∀ H1, Ex H H1 → D.nx σ (upd H1 d (.dK (putK kvs (.inr k) v)))) : sDPut td (tC (.str k)) tv D σ H :=
  hv H (Ex.refl _) _ fun H1 e1 => hx H1 e1 _ fun H2 e2 => ⟨d, _, rfl, DPut.k (k := .inr k) ((e1.trans e2) _ _ hd) (sz_lt (by omega)), q H2 (e1.trans e2)⟩
end
theorem length_put_old {kvs : List (Key × V)} {k : Key} {v x : V} (h : valV kvs k = some x) : (putK kvs k v).length = kvs.length := by
  unfold putK
  rw [if_pos (by rw [valV_any, h]; rfl), List.length_map]
/-- what a line may change -/
def MA (A : StA) : Addr → Prop := fun x => x = A.d ∨ x = A.sp ∨ ∃ t ∈ A.bs, x = t.1
def sp_after : Sp := sp2 fun sd ln H Q _ => ∃ (A : StA) (st : LS) (cn : List Nat) (cv : List V) (nl pl : List (List Nat)) (q : Addr) (l : LK) (x : Str), sd = .ref A.d ∧ ln = .ref q ∧ H q = some (.tup [.str l.kd.1, .str l.kd.2.1, .str l.kd.2.2, .str x]) ∧ l ≠ .test ∧ l.wf ∧ st.stands l ∧ StH H A st cn cv nl pl ∧
  ∀ (A' : StA) H', A'.d = A.d → StH H' A' (st.after l) cn cv nl pl → Ch (MA A) H H' → Q .non H'
end WP
set_option Elab.async false
set_option linter.all false
set_option maxRecDepth 100000
set_option maxHeartbeats 4000000
/-! _law_after -/
namespace WP
open PySem PySem.Spec PyProof.Rows L2 Evl SX
variable {w : World} {K : PySem.W.Frag} {mg : Str → Option Value} {base : Heap}
section
variable {K : PySem.W.Frag} {σ : L2.St} {H H' : Hp} {A : StA} {st : LS} {cn : List Nat} {cv : List V} {nl pl : List (List Nat)} {td tk tp tn ti : TE} {D : Ends}
/-- stack.append([kind, phase, names, items]) -/
theorem do_pushR {sp : Addr} {xs : List V} {k ph : Str} {ns its : List (List Nat)} (hd : Ev (tDGet td (tC (.str "stack"))) σ H (.ref sp)) (hs : H sp = some (.lst xs)) (hz : xs.length < 1000) (hk : Ev tk σ H (.str k)) (hp : Ev tp σ H (.str ph)) (hn : EvL tn σ H (stV ns)) (hi : EvL ti σ H (stV its))
    (q : ∀ (b1 n1 i1 : Addr) H', H b1 = none → Ch (fun x => x = sp) H H' → H' sp = some (.lst (xs ++ [.ref b1])) → H' b1 = some (.lst [.str k, .str ph, .ref n1, .ref i1]) → H' n1 = some (.lst (stV ns)) → H' i1 = some (.lst (stV its)) → D.nx σ H') :
    tDrop (tBM K "list" rAppend (tDGet td (tC (.str "stack"))) (tCons (tLst (tCons tk (tCons tp (tCons tn (tCons ti tNil))))) tNil)) D σ H := by
  refine hd H (Ex.refl _) _ fun H1 e1 => ⟨.inl ⟨rfl, xs, sq_of (e1 _ _ hs)⟩, ?_⟩
  refine hk H1 e1 _ fun H2 e2 => hp H2 (e1.trans e2) _ fun H3 e3 => hn H3 ((e1.trans e2).trans e3) _ fun n1 H4 hn4 e4 h4 => hi H4 (((e1.trans e2).trans e3).trans e4) _ fun i1 H5 hi5 e5 h5 => ⟨show 4 ≤ sizeLine by decide, fun b1 hb1 => ?_⟩
  have e15 := (((e1.trans e2).trans e3).trans e4).trans e5
  have e6 : Ex H5 (upd H5 b1 (.lst [.str k, .str ph, .ref n1, .ref i1])) := Ex.new hb1
  have hs6 := e6 _ _ (e15 _ _ hs)
  refine ⟨sp, xs, .ref b1, rfl, rfl, hs6, sz_lt (by omega), ?_⟩
  have nsp : ∀ {a : Addr} {o : HO}, H5 a = some o → H a = none → a ≠ sp := fun e n z => by rw [z, hs] at n; cases n
  have n0 : H n1 = none := fresh_back ((e1.trans e2).trans e3) hn4
  have i0 : H i1 = none := fresh_back (((e1.trans e2).trans e3).trans e4) hi5
  have b0 : H b1 = none := fresh_back e15 hb1
  have bsp : b1 ≠ sp := fun z => by rw [z, hs] at b0; cases b0
  refine q b1 n1 i1 _ b0 ((Ch.of_ex (e15.trans e6)).set (M := fun x => x = sp) rfl) upd_same ?_ ?_ ?_
  · rw [upd_ne bsp]
    exact upd_same
  · rw [upd_ne (nsp (e5 _ _ h4) n0)]
    exact e6 _ _ (e5 _ _ h4)
  · rw [upd_ne (nsp h5 i0)]
    exact e6 _ _ h5
/-- a new last block -/
theorem StC.snoc (h : StC H A st cn cv nl pl) (hne : A.bs ≠ []) {ts : List (Addr × Addr × Addr)} {s : List Blk} (hp : ∀ i : Nat, (ts[i]? = none ∨ ts[i]? = A.bs[i]?) ∧ (s[i]? = none ∨ s[i]? = st.stk[i]?)) (hl : ts.length = s.length) (hsub : (ts.map (·.1)).Nodup ∧ ∀ t ∈ ts, t ∈ A.bs)
    (c : Ch (fun x => x = A.sp) H H') {b : Blk} {b1 n1 i1 : Addr} (f : H b1 = none) (hs : H' A.sp = some (.lst ((ts.map fun t => V.ref t.1) ++ [.ref b1]))) (h1 : H' b1 = some (.lst [.str b.kind.s, .str b.ph.s, .ref n1, .ref i1])) (h2 : H' n1 = some (.lst (stV b.ns))) (h3 : H' i1 = some (.lst (stV b.its)))
    (h4 : ∀ n ∈ b.ns, isNm n = true) (h5 : ∀ n ∈ b.its, isNm n = true) : StC H' ⟨A.d, A.sp, A.fp, A.np, A.pp, ts ++ [(b1, n1, i1)]⟩ ⟨s ++ [b], st.fl, st.many⟩ cn cv nl pl := by
  refine h.sput hne c (by rw [List.map_append]; exact hs) (by rw [List.length_append, List.length_append, hl]; rfl) (fun i t b' h6 h7 => ?_) ?_
  · by_cases hi : i < ts.length
    · rw [List.getElem?_append_left hi] at h6
      rw [List.getElem?_append_left (by omega)] at h7
      obtain ⟨p1, p2⟩ := hp i
      exact .inl ⟨by rcases p1 with p | p; rw [p] at h6; cases h6; rw [← p]; exact h6, by rcases p2 with p | p; rw [p] at h7; cases h7; rw [← p]; exact h7⟩
    · rw [List.getElem?_append_right (by omega)] at h6
      rw [List.getElem?_append_right (by omega)] at h7
      have e0 : i - ts.length = 0 := by
        have := (List.getElem?_eq_some_iff.mp h6).1
        simp only [List.length_cons, List.length_nil] at this
        omega
      have e1 : i - s.length = 0 := by omega
      rw [e0] at h6
      rw [e1] at h7
      obtain rfl := Option.some.inj h6
      obtain rfl := Option.some.inj h7
      exact .inr ⟨h1, h2, h3, h4, h5⟩
  · rw [List.map_append, List.nodup_append]
    refine ⟨hsub.1, by simp, fun x hx y hy => ?_⟩
    obtain ⟨t, ht, rfl⟩ := List.mem_map.mp hx
    have hy : y = b1 := by simpa using hy
    rw [hy]
    intro z
    obtain ⟨i, hi, rfl⟩ := List.getElem_of_mem (hsub.2 t ht)
    have hi2 : i < st.stk.length := by rw [← h.bl.1]; exact hi
    have B := h.bl.2 i _ _ (List.getElem?_eq_getElem hi) (List.getElem?_eq_getElem hi2)
    rw [← z, B.ob] at f
    cases f
theorem StC.ne (h : StC H A st cn cv nl pl) (hne : st.stk ≠ []) : A.bs ≠ [] := fun z => by
  have := h.bl.1
  rw [z] at this
  exact hne (List.length_eq_zero_iff.mp this.symm)
/-- the stack grows -/
theorem do_push {b : Blk} (h : StC H A st cn cv nl pl) (hne : st.stk ≠ []) (hz : A.bs.length < 1000) (hx : Ev td σ H (.ref A.d)) (hk : Ev tk σ H (.str b.kind.s)) (hp : Ev tp σ H (.str b.ph.s)) (hn : EvL tn σ H (stV b.ns)) (hi : EvL ti σ H (stV b.its)) (h4 : ∀ n ∈ b.ns, isNm n = true) (h5 : ∀ n ∈ b.its, isNm n = true)
    (q : ∀ (A' : StA) H', A'.d = A.d → A'.sp = A.sp → StC H' A' ⟨st.stk ++ [b], st.fl, st.many⟩ cn cv nl pl → Ch (fun x => x = A.sp) H H' → D.nx σ H') :
    tDrop (tBM K "list" rAppend (tDGet td (tC (.str "stack"))) (tCons (tLst (tCons tk (tCons tp (tCons tn (tCons ti tNil))))) tNil)) D σ H :=
  do_pushR (h.stack hx) h.s (by rw [List.length_map]; exact hz) hk hp hn hi fun b1 n1 i1 H' f c g1 g2 g3 g4 =>
    q ⟨A.d, A.sp, A.fp, A.np, A.pp, A.bs ++ [(b1, n1, i1)]⟩ H' rfl rfl (h.snoc (h.ne hne) (fun i => ⟨.inr rfl, .inr rfl⟩) h.bl.1 ⟨h.nd, fun _ x => x⟩ c f g1 g2 g3 g4 h4 h5) c
theorem StC.top (h : StC H A st cn cv nl pl) (hne : st.stk ≠ []) : ∃ s b ts t, st.stk = s ++ [b] ∧ A.bs = ts ++ [t] ∧ ts.length = s.length ∧ BlkH H t b := by
  have hne2 := h.ne hne
  have e1 := (List.dropLast_concat_getLast hne).symm
  have e2 := (List.dropLast_concat_getLast hne2).symm
  refine ⟨_, _, _, _, e1, e2, by rw [List.length_dropLast, List.length_dropLast, h.bl.1], ?_⟩
  refine h.bl.2 (st.stk.length - 1) _ _ ?_ ?_
  · rw [← h.bl.1, List.getLast_eq_getElem, List.getElem?_eq_getElem]
  · rw [List.getLast_eq_getElem, List.getElem?_eq_getElem]
end
theorem names_ok {l : LK} (hl : l ≠ .test) (hw : l.wf) : (V.str (flOf l.kd.1 l.kd.2.1 l.kd.2.2) ≠ .str "" → isNm (tlS (flOf l.kd.1 l.kd.2.1 l.kd.2.2)) = true) ∧ (V.str l.kd.1 = .str "let" → isNm (tlS l.kd.2.1) = true) ∧ (V.str l.kd.1 = .str "for" → isNm (tlS l.kd.2.1) = true) := by
  have atF : ∀ (t : At), t.wf → (V.str (flOf t.kd.1 t.kd.2 (S [])) ≠ .str "" → isNm (tlS (flOf t.kd.1 t.kd.2 (S []))) = true) := fun t hw => by
    cases t with
    | on f => exact fun _ => hw
    | inn t => cases t <;> exact fun h => (h rfl).elim
    | su t =>
      cases t with
      | th t => cases t <;> exact fun h => (h rfl).elim
      | it0 n => exact fun h => (h rfl).elim
    | _ => exact fun h => (h rfl).elim
  have atI : ∀ (t : At), t.wf → (V.str (flOf "if" t.kd.1 t.kd.2) ≠ .str "" → isNm (tlS (flOf "if" t.kd.1 t.kd.2)) = true) := fun t hw => by
    cases t with
    | on f => exact fun _ => hw
    | inn t => cases t <;> exact fun h => (h rfl).elim
    | su t =>
      cases t with
      | th t => cases t <;> exact fun h => (h rfl).elim
      | it0 n => exact fun h => (h rfl).elim
    | _ => exact fun h => (h rfl).elim
  have atN : ∀ (t : At) (x : Str), x = "let" ∨ x = "for" → V.str t.kd.1 ≠ .str x := fun t x hx => by
    rcases hx with rfl | rfl <;> rcases at_kd t with e | e | e | e <;> rw [e] <;> decide
  cases l with
  | row p =>
    cases p with
    | let_ n c vs => exact ⟨fun h => (h rfl).elim, fun _ => hw.1, fun h => absurd h (by simp only [LK.kd]; decide)⟩
    | set_ b f => exact ⟨fun _ => hw, fun h => absurd h (by simp only [LK.kd]; decide), fun h => absurd h (by simp only [LK.kd]; decide)⟩
    | chk neg t => exact ⟨atF t hw, fun h => absurd h (atN t _ (.inl rfl)), fun h => absurd h (atN t _ (.inr rfl))⟩
    | asm t => exact ⟨atF t hw, fun h => absurd h (atN t _ (.inl rfl)), fun h => absurd h (atN t _ (.inr rfl))⟩
    | _ => exact ⟨fun h => (h rfl).elim, fun h => absurd h (by simp only [LK.kd]; decide), fun h => absurd h (by simp only [LK.kd]; decide)⟩
  | if_ neg t => exact ⟨atI t hw, fun h => absurd h (by simp only [LK.kd]; decide), fun h => absurd h (by simp only [LK.kd]; decide)⟩
  | for_ n t => cases t <;> exact ⟨fun h => (h rfl).elim, fun h => absurd h (by simp only [LK.kd]; decide), fun _ => hw.1⟩
  | test => exact absurd rfl hl
  | _ => exact ⟨fun h => (h rfl).elim, fun h => absurd h (by simp only [LK.kd]; decide), fun h => absurd h (by simp only [LK.kd]; decide)⟩
/-- how far the walk is -/
structure JA (H : Hp) (A : StA) (cn : List Nat) (cv : List V) (nl pl : List (List Nat)) (n : Nat) (stx : LS) (A' : StA) (H' : Hp) : Prop where
  d : A'.d = A.d
  sp : A'.sp = A.sp
  c : StC H' A' stx cn cv nl pl
  bd : Bd n stx
  ne : stx.stk ≠ []
  ch : Ch (MA A) H H'
theorem JA.ex {H H' H1 : Hp} {A A' : StA} {cn : List Nat} {cv : List V} {nl pl : List (List Nat)} {n : Nat} {stx : LS} (j : JA H A cn cv nl pl n stx A' H') (e : Ex H' H1) : JA H A cn cv nl pl n stx A' H1 := ⟨j.d, j.sp, j.c.ex e, j.bd, j.ne, j.ch.trans (Ch.of_ex e)⟩
theorem topTo_ne {s : List Blk} {f : Blk → Blk} (h : s ≠ []) : topTo s f ≠ [] := by
  obtain ⟨t, b, e⟩ : ∃ t b, s = t ++ [b] := ⟨_, _, (List.dropLast_concat_getLast h).symm⟩
  rw [e, topTo_snoc]
  simp
end WP
set_option Elab.async false
set_option linter.all false
set_option maxRecDepth 100000
set_option maxHeartbeats 4000000
/-! _law_after, the walk -/
namespace WP
open PySem PySem.Spec PyProof.Rows L2 Evl SX
variable {w : World} {K : PySem.W.Frag} {mg : Str → Option Value} {base : Heap}
theorem cut_d {t u : TS} {D : Ends} {σ : L2.St} {H : Hp} (Mid : L2.St → Hp → Prop) (h : t { D with nx := Mid } σ H) (k : ∀ σ' H', Mid σ' H' → u D σ' H') : tCut t u D σ H := ⟨Mid, h, k⟩
theorem BkA {A : StA} {H H1 : Hp} (c : Ch (MA A) H H1) {x : Addr} (hx : MA A x) {H2 : Hp} (c2 : Ch (fun z => z = x) H1 H2) : Ch (MA A) H H2 := c.trans (c2.mono fun z e => by rw [e]; exact hx)
theorem o__law_after (T : TT K mg) : CalX PW w K mg base CX0 1 "_law_after" sp_after := by
  obtain ⟨fd, F⟩ := f__law_after T
  refine ⟨_, mk2 F (b__law_after F) sc__law_after fun a b cdv A outer s H Q E hr h => ⟨_, (have hu := hu_of hr; have hu64 := hu64_of hr; (pss_cons (ps_asg (pv 1) (pg_tup rfl (pgs_cons (pg_name (i := 2) sc__law_after.nd rfl (Or.inl rfl)) (pgs_cons (pg_name (i := 3) sc__law_after.nd rfl (Or.inl rfl)) (pgs_cons (pg_name (i := 4) sc__law_after.nd rfl (Or.inl rfl)) (pgs_cons (pg_name (i := 5) sc__law_after.nd rfl (Or.inl rfl)) pgs_nil))))))
        (pss_cons (ps_dput hu (pv 0) pe_str (pe_op op_add (pe_dget hu (pv 0) pe_str (fun _ _ => rfl)) pe_int) rfl)
        (pss_cons (ps_set (i := 6) sc__law_after.nd rfl (Or.inl rfl) (pe_ifExp (pt_cmpR op_eq (pv 2) pe_str (nomark _)) (pv 3) (pe_ifExp (L2.PW.pt (pw_and (pt_cmpR op_eq (pv 2) pe_str (nomark _)) (pw_and1 (pt_cmpR op_eq (pv 3) pe_str (nomark _))))) (pv 4) pe_str)))
        (pss_cut (ps_if (L2.PW.pt (pw_and (pt_cmpR op_ne (pv 6) pe_str (nomark _)) (pw_and1 (pt_cmpR op_notIn_seq (pv 6) (pe_dget hu (pv 0) pe_str (fun _ _ => rfl)) (by with_unfolding_all rfl))))) (pss_one (ps_dput hu (pv 0) pe_str (pe_op op_cat (pe_dget hu (pv 0) pe_str (fun _ _ => rfl)) (pe_lst (pa_cons (pv 6) pa_nil))) rfl)) pss_nil)
        (pss_cut (ps_if (pt_cmpR op_eq (pv 2) pe_str (nomark _)) (pss_one (ps_asg (pe_op op_cat (pe_ix ix_list (pe_ix ix_list (pe_dget hu (pv 0) pe_str (fun _ _ => rfl)) (pe_un un_neg pe_int) (fun _ _ => rfl)) pe_int (fun _ _ => rfl)) (pe_lst (pa_cons (pv 3) pa_nil))) (pg_sub (pe_ix ix_list (pe_dget hu (pv 0) pe_str (fun _ _ => rfl)) (pe_un un_neg pe_int) (fun _ _ => rfl)) pe_int set_list))) pss_nil)
        (pss_cut (ps_if (pt_cmpR op_in_seq (pv 2) (pe_lst (pa_cons pe_str (pa_cons pe_str (pa_cons pe_str pa_nil)))) (by with_unfolding_all rfl)) (pss_one (ps_expr (pe_bm PySem.F.plainAttrs_list PySem.F.slot_list_append PySem.F.type_list_append mt_append (pe_dget hu (pv 0) pe_str (fun _ _ => rfl)) (pa_cons (pe_lst (pa_cons (pv 2) (pa_cons pe_str (pa_cons (pe_lst pa_nil) (pa_cons (pe_lst pa_nil) pa_nil))))) pa_nil)))) pss_nil)
        (pss_cut (ps_if (pt_cmpR op_eq (pv 2) pe_str (nomark _)) (pss_one (ps_expr (pe_bm PySem.F.plainAttrs_list PySem.F.slot_list_append PySem.F.type_list_append mt_append (pe_dget hu (pv 0) pe_str (fun _ _ => rfl)) (pa_cons (pe_lst (pa_cons (pv 2) (pa_cons pe_str (pa_cons (pe_lst pa_nil) (pa_cons (pe_lst (pa_cons (pv 3) pa_nil)) pa_nil))))) pa_nil)))) pss_nil)
        (pss_cut (ps_if (pt_cmpR op_in_seq (pv 2) (pe_lst (pa_cons pe_str (pa_cons pe_str pa_nil))) (by with_unfolding_all rfl)) (pss_cons (ps_set (i := 7) sc__law_after.nd rfl (Or.inl rfl) (pe_bm0 PySem.F.plainAttrs_list PySem.F.slot_list_pop PySem.F.type_list_pop mt_pop (pe_dget hu (pv 0) pe_str (fun _ _ => rfl))))
        (pss_one (ps_expr (pe_bm PySem.F.plainAttrs_list PySem.F.slot_list_append PySem.F.type_list_append mt_append (pe_dget hu (pv 0) pe_str (fun _ _ => rfl)) (pa_cons (pe_lst (pa_cons (pe_ix ix_list (pv 7) pe_int (fun _ _ => rfl)) (pa_cons (pv 2) (pa_cons (pe_lst pa_nil) (pa_cons (pe_lst pa_nil) pa_nil))))) pa_nil))))) pss_nil)
        (pss_one (ps_if (pt_cmpR op_eq (pv 2) pe_str (nomark _)) (pss_one (ps_expr (pe_bm0 PySem.F.plainAttrs_list PySem.F.slot_list_pop PySem.F.type_list_pop mt_pop (pe_dget hu (pv 0) pe_str (fun _ _ => rfl))))) pss_nil))))))))))), ?_⟩, g__law_after T, F.kp⟩
  obtain ⟨A, st, cn, cv, nl, pl, qa, l, x, rfl, rfl, hq, hl, hw, hs, h, q⟩ := h
  obtain ⟨nF, nL, nR⟩ := names_ok hl hw
  have eA := after_eq (st := st) hl hw
  have bdA := h.bds.after hs hl
  have hne : st.stk ≠ [] := by
    obtain ⟨_, s, b, e, _⟩ := hs
    rw [e]
    simp
  rw [← eA] at q bdA
  unfold aAll at q bdA
  clear eA hs hw hl
  generalize l.kd.1 = k at *
  generalize l.kd.2.1 = a at *
  generalize l.kd.2.2 = o at *
  obtain ⟨kvs, hd, kl, k1, k2, k3, k4, k5, k6⟩ := h.d
  refine asg_g ⟨.ref qa, rfl, qa, _, rfl, st_of hq, rfl, ?_⟩
  refine ⟨_, _, rfl, _, _, rfl, _, _, rfl, _, _, rfl, rfl, ?_⟩
  -- many
  refine s_dputk (D := { nx := _, rt := _ }) (ev_op (ev_many h (ev_var rfl)) ev_c (rv_I0 (g := fun i j => .int (i + j)))) (ev_var rfl) hd kl fun H1 e1 => ?_
  have c1 : Ch (fun z => z = A.d) H (upd H1 A.d (.dK (putK kvs (.inr "many") (.int ((st.many : Int) + 1))))) := (Ch.of_ex e1).set (M := fun z => z = A.d) rfl
  have d1 : (upd H1 A.d (.dK (putK kvs (.inr "many") (.int ((st.many : Int) + 1))))) A.d = _ := upd_same
  generalize upd H1 A.d (.dK (putK kvs (.inr "many") (.int ((st.many : Int) + 1)))) = H1 at c1 d1
  have C1 : StC H1 A (a1 st) cn cv nl pl := h.c.dput hd c1 d1 (by rw [length_put_old k3]; exact kl) (by rw [valV_put, if_neg (by decide)]; exact k1) (by rw [valV_put, if_neg (by decide)]; exact k2)
    (by rw [valV_put, if_pos rfl]; rfl) (by rw [valV_put, if_neg (by decide)]; exact k4) (by rw [valV_put, if_neg (by decide)]; exact k5) (by rw [valV_put, if_neg (by decide)]; exact k6) ⟨keepX c1 hd h.f.1 (by intro z; cases z), h.f.2⟩ rfl rfl rfl rfl rfl
  have J1 : JA H A cn cv nl pl 41 (a1 st) A H1 := ⟨rfl, rfl, C1, Bd.a1 (h.bds.2.le h.bds.1), hne, c1.mono fun z e => .inl e⟩
  clear hd c1 d1 C1 k1 k2 k3 k4 k5 k6 kl
  -- the flag
  refine q_asg (v := .str (flOf k a o)) (ev_if (b := decide (V.str k = .str "flag")) (et_test (ev_op (ev_var rfl) ev_c (rv_eq rfl))) (fun hb => ev_is (ev_var rfl) (by unfold flOf; rw [if_pos (of_decide_eq_true hb)])) fun hb => ev_if (b := decide (V.str k = .str "if") && decide (V.str a = .str "flag")) (et_and (et_test (ev_op (ev_var rfl) ev_c (rv_eq rfl))) fun _ => et_test (ev_op (ev_var rfl) ev_c (rv_eq rfl))) (fun hc => ev_is (ev_var rfl) (by unfold flOf; rw [if_neg (of_decide_eq_false hb), if_pos hc])) fun hc => ev_is ev_c (by unfold flOf; rw [if_neg (of_decide_eq_false hb), if_neg (ne_true_of_eq_false hc)]; rfl)) fun H2 e2 => ?_
  have J2 := J1.ex e2
  generalize flOf k a o = f at *
  refine cut_d (fun σ' H' => ∃ o7, σ' = [some (.ref A.d), some (.ref qa), some (.str k), some (.str a), some (.str o), some (.str x), some (.str f), o7] ∧ ∃ A', A'.bs = A.bs ∧ JA H A cn cv nl pl 42 (a2 f (a1 st)) A' H') ?_ fun σ3 H3 ⟨o7, hσ, A3, b3, J3⟩ => ?_
  · refine s_when (b := !decide (V.str f = .str "") && !inV (.str f) (stV (a1 st).fl)) (et_and (et_test (ev_op (ev_var rfl) ev_c (rv_ne rfl))) fun _ => et_test (ev_op (ev_var rfl) (J2.c.flags (ev_var rfl)) (rv_niL (sq_of J2.c.f.1) rfl (strs_flat' _)))) (fun hb H3 e3 => ?_) fun hb H3 e3 => ?_
    · have J3 := J2.ex e3
      obtain ⟨kvs, hd, kl, k1, k2, k3, k4, k5, k6⟩ := J3.c.d
      have eS : stV (a1 st).fl ++ [V.str f] = stV ((a1 st).fl ++ [tlS f]) := by
        rw [← stV_app]
        show _ = stV (a1 st).fl ++ [V.str (S (tlS f))]
        rw [tlS, S_tl]
      refine el_cat (ow1 (J3.c.flags (ev_var rfl)) J3.c.f.1) (owl (el_lst (ea_cons (ev_var (v := .str f) rfl) ea_nil) (show 1 ≤ 100000 by decide))) (by have := J3.bd.f; rw [stV_len]; show _ + 1 ≤ _; omega) H3 (Ex.refl _) _ fun fp H4 hf e4 h4 => ?_
      rw [eS] at h4
      refine ⟨_, rfl, A.d, _, rfl, DPut.k (k := .inr "flags") (e4 _ _ hd) (sz_lt (by omega)), ?_⟩
      have c5 : Ch (fun z => z = A.d) H3 (upd H4 A.d (.dK (putK kvs (.inr "flags") (.ref fp)))) := (Ch.of_ex e4).set (M := fun z => z = A.d) rfl
      have fd : fp ≠ A.d := fun z => by rw [z, e4 _ _ hd] at h4; cases h4
      refine ⟨_, rfl, ⟨A.d, A.sp, fp, A.np, A.pp, A.bs⟩, rfl, rfl, rfl, ?_, Bd.a2 J3.bd, ?_, J3.ch.trans (c5.mono fun z e => .inl e)⟩
      · have es : a2 f (a1 st) = ⟨(a1 st).stk, (a1 st).fl ++ [tlS f], (a1 st).many⟩ := by
          unfold a2
          rw [if_pos hb]
        rw [es]
        refine J3.c.dput hd c5 (st' := ⟨(a1 st).stk, (a1 st).fl ++ [tlS f], (a1 st).many⟩) (A' := ⟨A.d, A.sp, fp, A.np, A.pp, A.bs⟩) upd_same (by rw [length_put_old k2]; exact kl) (by rw [valV_put, if_neg (by decide)]; exact k1) (by rw [valV_put, if_pos rfl])
          (by rw [valV_put, if_neg (by decide)]; exact k3) (by rw [valV_put, if_neg (by decide)]; exact k4) (by rw [valV_put, if_neg (by decide)]; exact k5) (by rw [valV_put, if_neg (by decide)]; exact k6) ⟨?_, ?_⟩ rfl rfl rfl rfl rfl
        · rw [upd_ne fd]
          exact h4
        · intro n hn
          rcases List.mem_append.mp hn with hn | hn
          · exact J3.c.f.2 n hn
          · rw [List.mem_singleton] at hn
            rw [hn]
            rw [Bool.and_eq_true, Bool.not_eq_true'] at hb
            exact nF (of_decide_eq_false hb.1)
      · unfold a2
        rw [if_pos hb]
        exact hne
    · refine ⟨_, rfl, A, rfl, ?_⟩
      have es : a2 f (a1 st) = a1 st := by
        unfold a2
        rw [if_neg (ne_true_of_eq_false hb)]
      rw [es]
      have J3 := J2.ex e3
      exact ⟨J3.d, J3.sp, J3.c, J3.bd.le (by decide), J3.ne, J3.ch⟩
  subst hσ
  generalize a2 f (a1 st) = s2 at *
  clear J1 J2
  obtain ⟨d3, sp3, fp3, np3, pp3, bs3⟩ := A3
  obtain rfl : d3 = A.d := J3.d
  obtain rfl : sp3 = A.sp := J3.sp
  obtain rfl : bs3 = A.bs := b3
  refine cut_d (fun σ' H' => ∃ o7, σ' = [some (.ref A.d), some (.ref qa), some (.str k), some (.str a), some (.str o), some (.str x), some (.str f), o7] ∧ ∃ A', JA H A cn cv nl pl 43 (a3 k a s2) A' H') ?_ fun σ4 H4 ⟨o7, hσ, A4, J4⟩ => ?_
  · refine s_when (b := decide (V.str k = .str "let")) (et_test (ev_op (ev_var rfl) ev_c (rv_eq rfl))) (fun hb H4 e4 => ?_) fun hb H4 e4 => ?_
    · have J4 := J3.ex e4
      obtain ⟨s, b, ts, t, es, et, hl, B⟩ := J4.c.top J4.ne
      have es3 : a3 k a s2 = ⟨s ++ [⟨b.kind, b.ph, b.ns ++ [tlS a], b.its⟩], s2.fl, s2.many⟩ := by
        unfold a3
        rw [if_pos (of_decide_eq_true hb), es, topTo_snoc]
      rw [es3]
      have hlen : b.ns.length ≤ 42 := (J4.bd.b b (by rw [es]; simp)).1
      have lst : ∀ {H5 : Hp}, Ex H4 H5 → Ev (tOp (rIxL K) (tDGet (tVar 0) (tC (.str "stack"))) (tUn (rU fun i => .int (-i)) (tC (.int 1)))) [some (.ref A.d), some (.ref qa), some (.str k), some (.str a), some (.str o), some (.str x), some (.str f), o7] H5 (.ref t.1) := fun {H5} e =>
        ev_op ((J4.c.ex e).stack (ev_var rfl)) (ev_un ev_c ru_neg) (rv_ixL (v := .ref t.1) (sq_of (J4.c.ex e).s) (by rw [et, List.map_append]; exact atI_last'))
      have eS : stV b.ns ++ [V.str a] = stV (b.ns ++ [tlS a]) := by
        rw [← stV_app]
        show _ = stV b.ns ++ [V.str (S (tlS a))]
        rw [tlS, S_tl]
      refine el_cat (ow1 (ev_op (lst (Ex.refl _)) ev_c (rv_ixL (v := .ref t.2.1) (sq_of B.ob) rfl)) B.ns) (owl (el_lst (ea_cons (ev_var (v := .str a) rfl) ea_nil) (show 1 ≤ 100000 by decide))) (by rw [stV_len]; show _ + 1 ≤ _; omega) H4 (Ex.refl _) _ fun n' H5 hn e5 h5 => ?_
      rw [eS] at h5
      refine lst e5 H5 (Ex.refl _) _ fun H6 e6 => ?_
      have e46 := e5.trans e6
      refine ⟨t.1, [.str b.kind.s, .str b.ph.s, .ref t.2.1, .ref t.2.2], 2, 2, rfl, rfl, e46 _ _ B.ob, rfl, ?_⟩
      have c7 : Ch (fun z => z = t.1) H4 (upd H6 t.1 (.lst [.str b.kind.s, .str b.ph.s, .ref n', .ref t.2.2])) := (Ch.of_ex e46).set (M := fun z => z = t.1) rfl
      have nt : n' ≠ t.1 := fun z => by rw [z, B.ob] at hn; cases hn
      refine ⟨_, rfl, ⟨A.d, A.sp, fp3, np3, pp3, ts ++ [(t.1, n', t.2.2)]⟩, rfl, rfl, J4.c.bput es et hl B c7 upd_same ?_ ?_, ?_, by simp, BkA J4.ch (.inr (.inr ⟨t, by rw [show A.bs = ts ++ [t] from et]; simp, rfl⟩)) c7⟩
      · rw [upd_ne nt]
        exact e6 _ _ h5
      · intro n hn
        rcases List.mem_append.mp hn with hn | hn
        · exact B.nn n hn
        · rw [List.mem_singleton] at hn
          rw [hn]
          exact nL (of_decide_eq_true hb)
      · rw [← es3]
        exact Bd.a3 J4.bd
    · have es3 : a3 k a s2 = s2 := by
        unfold a3
        rw [if_neg (of_decide_eq_false hb)]
      rw [es3]
      have J4 := J3.ex e4
      exact ⟨_, rfl, _, J4.d, J4.sp, J4.c, J4.bd.le (by decide), J4.ne, J4.ch⟩
  subst hσ
  generalize a3 k a s2 = s3 at *
  clear J3
  -- if, raises, try
  obtain ⟨d4, sp4, fp4, np4, pp4, bs4⟩ := A4
  obtain rfl : d4 = A.d := J4.d
  obtain rfl : sp4 = A.sp := J4.sp
  refine cut_d (fun σ' H' => ∃ o7, σ' = [some (.ref A.d), some (.ref qa), some (.str k), some (.str a), some (.str o), some (.str x), some (.str f), o7] ∧ ∃ A', JA H A cn cv nl pl 44 (a4 k s3) A' H') ?_ fun σ5 H5 ⟨o7, hσ, A5, J5⟩ => ?_
  · refine s_when (b := inV (.str k) [.str "if", .str "raises", .str "try"]) (et_test (ev_opL (ev_var rfl) (el_lst (ea_cons ev_c (ea_cons ev_c (ea_cons ev_c ea_nil))) (by decide)) fun p Hx hp _ => rv_isL (sq_of hp) rfl rfl)) (fun hb H5 e5 => ?_) fun hb H5 e5 => ?_
    · have J5 := J4.ex e5
      have es : a4 k s3 = ⟨s3.stk ++ [⟨bkOf k, .rows, [], []⟩], s3.fl, s3.many⟩ := by
        unfold a4
        rw [if_pos hb]
      have bd := Bd.a4 (k := k) J5.bd
      rw [es] at bd ⊢
      exact do_push (b := ⟨bkOf k, .rows, [], []⟩) J5.c J5.ne (by rw [J5.c.bl.1]; have := J5.bd.k; omega) (ev_var rfl) (ev_is (ev_var rfl) (congrArg V.str (bkOf_s hb))) ev_c (el_lst ea_nil (Nat.zero_le _)) (el_lst ea_nil (Nat.zero_le _)) (fun _ h => by cases h) (fun _ h => by cases h) fun A' H' ed es c2 c => ⟨_, rfl, A', ed, es, c2, bd, by simp, BkA J5.ch (.inr (.inl rfl)) c⟩
    · have es : a4 k s3 = s3 := by
        unfold a4
        rw [if_neg (ne_true_of_eq_false hb)]
      rw [es]
      have J5 := J4.ex e5
      exact ⟨_, rfl, _, J5.d, J5.sp, J5.c, J5.bd.le (by decide), J5.ne, J5.ch⟩
  subst hσ
  generalize a4 k s3 = s4 at *
  clear J4
  -- for
  obtain ⟨d5, sp5, fp5, np5, pp5, bs5⟩ := A5
  obtain rfl : d5 = A.d := J5.d
  obtain rfl : sp5 = A.sp := J5.sp
  refine cut_d (fun σ' H' => ∃ o7, σ' = [some (.ref A.d), some (.ref qa), some (.str k), some (.str a), some (.str o), some (.str x), some (.str f), o7] ∧ ∃ A', JA H A cn cv nl pl 45 (a5 k a s4) A' H') ?_ fun σ6 H6 ⟨o7, hσ, A6, J6⟩ => ?_
  · refine s_when (b := decide (V.str k = .str "for")) (et_test (ev_op (ev_var rfl) ev_c (rv_eq rfl))) (fun hb H6 e6 => ?_) fun hb H6 e6 => ?_
    · have J6 := J5.ex e6
      have es : a5 k a s4 = ⟨s4.stk ++ [⟨.for_, .rows, [], [tlS a]⟩], s4.fl, s4.many⟩ := by
        unfold a5
        rw [if_pos (of_decide_eq_true hb)]
      have bd := Bd.a5 (k := k) (a := a) J6.bd
      rw [es] at bd ⊢
      have eS : [V.str a] = stV [tlS a] := by
        show _ = [V.str (S (tlS a))]
        rw [tlS, S_tl]
      exact do_push (b := ⟨.for_, .rows, [], [tlS a]⟩) J6.c J6.ne (by rw [J6.c.bl.1]; have := J6.bd.k; omega) (ev_var rfl) (ev_is (ev_var rfl) (of_decide_eq_true hb)) ev_c (el_lst ea_nil (Nat.zero_le _)) (el_is (el_lst (ea_cons (ev_var (v := .str a) rfl) ea_nil) (show 1 ≤ 100000 by decide)) eS) (fun _ h => by cases h) (fun n h => by rw [List.mem_singleton] at h; rw [h]; exact nR (of_decide_eq_true hb)) fun A' H' ed es c2 c => ⟨_, rfl, A', ed, es, c2, bd, by simp, BkA J6.ch (.inr (.inl rfl)) c⟩
    · have es : a5 k a s4 = s4 := by
        unfold a5
        rw [if_neg (of_decide_eq_false hb)]
      rw [es]
      have J6 := J5.ex e6
      exact ⟨_, rfl, _, J6.d, J6.sp, J6.c, J6.bd.le (by decide), J6.ne, J6.ch⟩
  subst hσ
  generalize a5 k a s4 = s5 at *
  clear J5
  -- else, except
  obtain ⟨d6, sp6, fp6, np6, pp6, bs6⟩ := A6
  obtain rfl : d6 = A.d := J6.d
  obtain rfl : sp6 = A.sp := J6.sp
  refine cut_d (fun σ' H' => ∃ o7, σ' = [some (.ref A.d), some (.ref qa), some (.str k), some (.str a), some (.str o), some (.str x), some (.str f), o7] ∧ ∃ A', JA H A cn cv nl pl 45 (a6 k s5) A' H') ?_ fun σ7 H7 ⟨o7, hσ, A7, J7⟩ => ?_
  · refine s_when (b := inV (.str k) [.str "else", .str "except"]) (et_test (ev_opL (ev_var rfl) (el_lst (ea_cons ev_c (ea_cons ev_c ea_nil)) (by decide)) fun p Hx hp _ => rv_isL (sq_of hp) rfl rfl)) (fun hb H7 e7 => ?_) fun hb H7 e7 => ?_
    · have J7 := J6.ex e7
      obtain ⟨s, b, ts, t, es, et, hl, B⟩ := J7.c.top J7.ne
      have es3 : a6 k s5 = ⟨s ++ [⟨b.kind, phOf k, [], []⟩], s5.fl, s5.many⟩ := by
        unfold a6
        rw [if_pos hb, es, topTo_snoc]
      have bd := Bd.a6 (k := k) J7.bd
      rw [es3] at bd ⊢
      have hs0 := J7.c.s
      have et' : bs6 = ts ++ [t] := et
      have er : (bs6.map fun t => V.ref t.1) = (ts.map fun t => V.ref t.1) ++ [.ref t.1] := by rw [et', List.map_append]; rfl
      refine asg_d (J7.c.stack (ev_var rfl) H7 (Ex.refl _) _ fun H8 e8 => ⟨.inl ⟨rfl, _, sq_of (e8 _ _ hs0)⟩, A.sp, _, .ref t.1, rfl, rfl, e8 _ _ hs0, ?_, ?_⟩)
      · show (bs6.map fun t => V.ref t.1)[(bs6.map fun t => V.ref t.1).length - 1]? = _
        rw [er]
        simp
      have e9 : (bs6.map fun t => V.ref t.1).dropLast = ts.map fun t => V.ref t.1 := by rw [er, List.dropLast_concat]
      show tDrop _ _ _ (upd H8 A.sp (.lst (bs6.map fun t => V.ref t.1).dropLast))
      rw [e9]
      have c9 : Ch (fun z => z = A.sp) H7 (upd H8 A.sp (.lst (ts.map fun t => V.ref t.1))) := (Ch.of_ex e8).set (M := fun z => z = A.sp) rfl
      have h9 : (upd H8 A.sp (.lst (ts.map fun t => V.ref t.1))) A.sp = some (.lst (ts.map fun t => V.ref t.1)) := upd_same
      generalize upd H8 A.sp (.lst (ts.map fun t => V.ref t.1)) = H9 at c9 h9
      obtain ⟨kvs, hd, kl, k1, _⟩ := J7.c.d
      have hd9 := keepX c9 hs0 hd (by intro z; cases z)
      have hb9 := keepX c9 hs0 B.ob refs_ne_blk
      have tl : ts.length < 1000 := by rw [hl]; have := J7.bd.k; rw [es, List.length_append] at this; omega
      refine do_pushR (ns := []) (its := []) (ev_dgk (ev_var rfl) hd9 k1) h9 (by rw [List.length_map]; exact tl) (ev_op (ev_var rfl) ev_c (rv_ixL (v := .str b.kind.s) (sq_of hb9) rfl)) (ev_is (ev_var rfl) (congrArg V.str (phOf_s hb))) (el_lst ea_nil (Nat.zero_le _)) (el_lst ea_nil (Nat.zero_le _)) fun b1 n1 i1 H' f1 c1 g1 g2 g3 g4 => ?_
      have b10 : H7 b1 = none := by
        cases e : H7 b1 with
        | none => rfl
        | some u =>
          exfalso
          by_cases z : b1 = A.sp
          · rw [z, h9] at f1
            cases f1
          · rw [c9 _ _ e z] at f1
            cases f1
      have nd := J7.c.nd
      have nd2 : (ts.map (·.1)).Nodup := by
        have nd : (bs6.map (·.1)).Nodup := nd
        rw [et', List.map_append, List.nodup_append] at nd
        exact nd.1
      refine ⟨_, rfl, ⟨A.d, A.sp, fp6, np6, pp6, ts ++ [(b1, n1, i1)]⟩, rfl, rfl, J7.c.snoc (b := ⟨b.kind, phOf k, [], []⟩) (J7.c.ne J7.ne) (fun i => ?_) hl ⟨nd2, fun t' ht => by show t' ∈ bs6; rw [et']; exact List.mem_append_left _ ht⟩ (c9.trans c1) b10 g1 g2 g3 g4 (fun _ h => by cases h) (fun _ h => by cases h), bd, by simp, BkA J7.ch (.inr (.inl rfl)) (c9.trans c1)⟩
      by_cases hi : i < ts.length
      · exact ⟨.inr (by show _ = bs6[i]?; rw [et', List.getElem?_append_left hi]), .inr (by rw [es, List.getElem?_append_left (by omega)])⟩
      · exact ⟨.inl (List.getElem?_eq_none (by omega)), .inl (List.getElem?_eq_none (by omega))⟩
    · have es : a6 k s5 = s5 := by
        unfold a6
        rw [if_neg (ne_true_of_eq_false hb)]
      rw [es]
      have J7 := J6.ex e7
      exact ⟨_, rfl, _, J7.d, J7.sp, J7.c, J7.bd, J7.ne, J7.ch⟩
  subst hσ
  generalize a6 k s5 = s6 at *
  clear J6
  -- end
  obtain ⟨d7, sp7, fp7, np7, pp7, bs7⟩ := A7
  obtain rfl : d7 = A.d := J7.d
  obtain rfl : sp7 = A.sp := J7.sp
  refine s_when (b := decide (V.str k = .str "end")) (et_test (ev_op (ev_var rfl) ev_c (rv_eq rfl))) (fun hb H8 e8 => ?_) fun hb H8 e8 => ?_
  · have J8 := J7.ex e8
    obtain ⟨s, b, ts, t, es, et, hl, B⟩ := J8.c.top J8.ne
    have es3 : a7 k s6 = ⟨s, s6.fl, s6.many⟩ := by
      unfold a7
      rw [if_pos (of_decide_eq_true hb), es, List.dropLast_concat]
    rw [es3] at q bdA
    have hs0 := J8.c.s
    have et' : bs7 = ts ++ [t] := et
    have er : (bs7.map fun t => V.ref t.1) = (ts.map fun t => V.ref t.1) ++ [.ref t.1] := by rw [et', List.map_append]; rfl
    refine J8.c.stack (ev_var rfl) H8 (Ex.refl _) _ fun H9 e9 => ⟨.inl ⟨rfl, _, sq_of (e9 _ _ hs0)⟩, A.sp, _, .ref t.1, rfl, rfl, e9 _ _ hs0, ?_, ?_⟩
    · show (bs7.map fun t => V.ref t.1)[(bs7.map fun t => V.ref t.1).length - 1]? = _
      rw [er]
      simp
    have e9' : (bs7.map fun t => V.ref t.1).dropLast = ts.map fun t => V.ref t.1 := by rw [er, List.dropLast_concat]
    show Q .non (upd H9 A.sp (.lst (bs7.map fun t => V.ref t.1).dropLast))
    rw [e9']
    have c9 : Ch (fun z => z = A.sp) H8 (upd H9 A.sp (.lst (ts.map fun t => V.ref t.1))) := (Ch.of_ex e9).set (M := fun z => z = A.sp) rfl
    refine q ⟨A.d, A.sp, fp7, np7, pp7, ts⟩ _ rfl (StC.h (J8.c.sput (J8.c.ne J8.ne) c9 upd_same hl (fun i t' b' h1 h2 => .inl ⟨?_, ?_⟩) ?_) h.wf h.nn h.pn bdA) (BkA J8.ch (.inr (.inl rfl)) c9)
    · show bs7[i]? = _
      rw [et', List.getElem?_append_left (List.getElem?_eq_some_iff.mp h1).1]
      exact h1
    · rw [es, List.getElem?_append_left (List.getElem?_eq_some_iff.mp h2).1]
      exact h2
    · have nd : (bs7.map (·.1)).Nodup := J8.c.nd
      rw [et', List.map_append, List.nodup_append] at nd
      exact nd.1
  · have es : a7 k s6 = s6 := by
      unfold a7
      rw [if_neg (of_decide_eq_false hb)]
    rw [es] at q bdA
    have J8 := J7.ex e8
    exact q ⟨A.d, A.sp, fp7, np7, pp7, bs7⟩ _ rfl (J8.c.h h.wf h.nn h.pn bdA) J8.ch
end WP
set_option Elab.async false
set_option linter.all false
set_option maxRecDepth 100000
set_option maxHeartbeats 4000000
/-! for the law: names, lists of lines, what stands in a turn -/
namespace WP
open PySem PySem.Spec PyProof.Rows L2 Evl SX
variable {w : World} {K : PySem.W.Frag} {mg : Str → Option Value} {base : Heap}
theorem kw_last : (kwL.all fun k => k.getLast? != some 117 && (k.getLast? != some 118 && k.getLast? != some 120)) = true := by decide
theorem isNm_suf {n : List Nat} (h : isNm n = true) {c : Nat} (hc : c = 117 ∨ c = 118 ∨ c = 120) : isNm (n.take 6 ++ [c]) = true := by
  have h1 : (n.take 6 ++ [c]).all low = true := by
    rw [List.all_append]
    have e : (n.take 6).all low = true := List.all_eq_true.mpr fun d hd => List.all_eq_true.mp (isNm_low h).1 d (List.mem_of_mem_take hd)
    rw [e]
    rcases hc with rfl | rfl | rfl <;> decide
  have h2 : decide (((n.take 6 ++ [c]).length : Int) ≤ 12) = true := decide_eq_true (by rw [List.length_append, List.length_take]; simp only [List.length_cons, List.length_nil]; omega)
  have h3 : decide (n.take 6 ++ [c] = []) = false := decide_eq_false (by simp)
  have h4 : (kwL.any fun k => decide (k = n.take 6 ++ [c])) = false := by
    rw [List.any_eq_false]
    intro k hk z
    have z := of_decide_eq_true z
    have e := List.all_eq_true.mp kw_last k hk
    have e2 : k.getLast? = some c := by rw [z, List.getLast?_concat]
    rw [e2] at e
    rcases hc with rfl | rfl | rfl <;> exact absurd e (by decide)
  unfold isNm
  rw [h1, h2, h3, h4]
  rfl
theorem cutS_6 {n : List Nat} : cutS (S n) none (some 6) = S (n.take 6) := by
  rw [← sliceText_cut]
  exact slice_to (a := n) (i := 6) (by decide)
/-! ### lists of lines compared with [] -/
theorem strOk_frg {x : List Nat} {m : Nat} (h : Frg x m) : PyData.strOk (S x) = true := by
  show (S x).cps.all (· < 0x110000) = true
  rw [← Array.all_toList]
  refine List.all_eq_true.mpr fun c hc => ?_
  have := List.all_eq_true.mp h.2 c hc
  simp only [nice, Bool.and_eq_true, decide_eq_true_eq] at this
  exact decide_eq_true (by omega)
theorem strOk_nil : PyData.strOk (S []) = true := by decide +kernel
theorem at_ok (t : At) (h : t.wf) : PyData.strOk t.kd.1 = true ∧ PyData.strOk t.kd.2 = true := by
  refine ⟨?_, ?_⟩
  · rcases at_kd t with e | e | e | e <;> rw [e] <;> decide +kernel
  · cases t with
    | on f => exact strOk_nm h
    | len n => exact strOk_nm h
    | inn t =>
      cases t with
      | call c vs => exact strOk_nil
      | name n => exact strOk_nm h
    | su t =>
      cases t with
      | th t =>
        cases t with
        | call c vs => exact strOk_nil
        | name n => exact strOk_nm h
      | it0 n => exact strOk_nm h
    | eq1 n => exact strOk_nm h
    | wd n => exact strOk_nm h
theorem kd_ok {l : LK} (hl : l ≠ .test) (h : l.wf) : PyData.strOk l.kd.1 = true ∧ PyData.strOk l.kd.2.1 = true ∧ PyData.strOk l.kd.2.2 = true := by
  have lit : ∀ (k : Str), PyData.strOk k = true → PyData.strOk k = true ∧ PyData.strOk (S []) = true ∧ PyData.strOk (S []) = true := fun k h => ⟨h, strOk_nil, strOk_nil⟩
  have nm : ∀ (k : Str) {n : List Nat}, PyData.strOk k = true → isNm n = true → PyData.strOk k = true ∧ PyData.strOk (S n) = true ∧ PyData.strOk (S []) = true := fun k n h hn => ⟨h, strOk_nm hn, strOk_nil⟩
  cases l with
  | row p =>
    cases p with
    | plain w => exact lit "plain" (by decide +kernel)
    | leave w => exact lit "leave" (by decide +kernel)
    | set_ b f => exact nm "flag" (by decide +kernel) h
    | call n vs => exact lit "call" (by decide +kernel)
    | let_ n c vs => exact nm "let" (by decide +kernel) h.1
    | chk neg t => exact ⟨(at_ok t h).1, (at_ok t h).2, strOk_nil⟩
    | note n => exact nm "use" (by decide +kernel) h
    | asm t => exact ⟨(at_ok t h).1, (at_ok t h).2, strOk_nil⟩
  | end_ => exact lit "end" (by decide +kernel)
  | except_ => exact lit "except" (by decide +kernel)
  | else_ => exact lit "else" (by decide +kernel)
  | if_ neg t => exact ⟨show PyData.strOk "if" = true by decide +kernel, (at_ok t h).1, (at_ok t h).2⟩
  | raises_ => exact lit "raises" (by decide +kernel)
  | try_ => exact lit "try" (by decide +kernel)
  | for_ n t =>
    cases t with
    | call c vs => exact nm "for" (by decide +kernel) h.1
    | name m => exact ⟨show PyData.strOk "for" = true by decide +kernel, strOk_nm h.1, strOk_nm h.2⟩
  | test => exact absurd rfl hl
theorem lines_dp {H : Hp} : ∀ xs : List V, (∀ v ∈ xs, LineV H v) → ∃ ds : List PyData, (∀ H', Ex H H' → DpAll K H' xs ds) ∧ PyData.canLayAll0 ds = true ∧ PyData.depthAll ds ≤ 10 ∧ (ds = [] ↔ xs = [])
  | [], _ => ⟨[], fun _ _ => .nil, by simp [PyData.canLayAll0], by simp [PyData.depthAll], by simp⟩
  | v :: r, h => by
    obtain ⟨ds, h1, h2, h3, _⟩ := lines_dp r fun u hu => h u (List.mem_cons_of_mem _ hu)
    obtain ⟨q, l, x, rfl, hq, lt⟩ := h v (by simp)
    obtain ⟨k1, k2, k3⟩ := kd_ok lt.nt lt.wf
    have k4 := strOk_frg lt.fr
    refine ⟨.tuple [.str l.kd.1, .str l.kd.2.1, .str l.kd.2.2, .str (S x)] :: ds, fun H' e => .cons (.tup (st_of (e _ _ hq)) (.cons (.str _) (.cons (.str _) (.cons (.str _) (.cons (.str _) .nil))))) (h1 H' e), ?_, ?_, by simp⟩
    · simp [PyData.canLayAll0, PyData.canLay0, k1, k2, k3, k4, h2]
    · simp only [PyData.depthAll, PyData.depth]
      omega
theorem ev_neLines {σ : L2.St} {H : Hp} {ta : TE} {a : Addr} {xs : List V} (h : Ev ta σ H (.ref a)) (hl : H a = some (.lst xs)) (hx : ∀ v ∈ xs, LineV H v) : Ev (tOp (rNeD K) ta (tLst tNil)) σ H (.bl (!decide (xs = []))) := by
  obtain ⟨ds, h1, h2, h3, h4⟩ := lines_dp (K := K) xs hx
  have hs : SeqAt.shaped (.list ds) = true := by
    have h5 : PyData.depth (.list ds) ≤ 64 := by simp only [PyData.depth]; omega
    show (PyData.canLay0 (.list ds) && decide (PyData.depth (.list ds) ≤ 64)) = true
    rw [Bool.and_eq_true]
    exact ⟨by simp only [PyData.canLay0]; exact h2, decide_eq_true h5⟩
  refine ev_is (ev_neD h hl h1 hs) ?_
  by_cases z : xs = []
  · rw [decide_eq_true z, decide_eq_true (h4.mpr z)]
  · rw [decide_eq_false z, decide_eq_false fun y => z (h4.mp y)]
/-! ### comprehensions over lists -/
section
variable {σ : L2.St} {H : Hp} {p : Addr} {m : Nat} {tl te : TE} {tt : L2.TT} {Q : VK} {xs : List V}
/-- [e for x in xs], e drawing -/
theorem do_lcLD {j c : Nat} {vs : List Nat} {P : V → Prop} (hb : BagH H p m) (hl : EvL tl σ H xs) (hz : xs.length ≤ 1000) (hw : ∀ x, wipe ((wipe σ vs).set j (some x)) vs = wipe σ vs)
    (he : ∀ (i : Nat) x H1, xs[i]? = some x → Dr p (m + c * i) H H1 → ∀ Q : VK, (∀ v H2, P v → Dr p (m + c * i + c) H1 H2 → Q v H2) → te ((wipe σ vs).set j (some x)) H1 Q)
    (q : ∀ l ys H', H l = none → H' l = some (.lst ys) → ys.length = xs.length → (∀ v ∈ ys, P v) → Dr p (m + c * xs.length) H H' → Q (.ref l) H') : tLc (iList K tl) (gName j) tYes te vs σ H Q :=
  hl H (Ex.refl _) _ fun a H1 ha e1 h1 => ⟨a, rfl, ⟨xs, sq_of h1⟩, fun Dl hD => by
    have hDp : Dl ≠ p := (hb.ex e1).fresh hD
    have hap : a ≠ p := hb.fresh ha
    have haD : a ≠ Dl := fun z => by rw [z, hD] at h1; cases h1
    refine lc_list (xs := xs) (Qd := fun H' => Q (.ref Dl) H') (fun i H' => H' a = some (.lst xs) ∧ ∃ acc, H' Dl = some (.lst acc) ∧ acc.length = i ∧ (∀ v ∈ acc, P v) ∧ Dr p (m + c * i) H H') ⟨?_, [], upd_same, rfl, (fun v hv => by cases hv), (Dr.refl hb).ex (e1.trans (Ex.new hD))⟩ (fun i H' _ pv => sq_of pv.1) (fun i x H' hi pv => ?_) (fun H' pv => ?_)
    · rw [upd_ne haD]
      exact h1
    · obtain ⟨h0, acc, h2, h3, h4, h5⟩ := pv
      have hi2 := (List.getElem?_eq_some_iff.mp hi).1
      refine ⟨hw _, ?_⟩
      show te ((wipe σ vs).set j (some x)) H' fun y H4 => _
      refine he i x H' hi h5 _ fun v H2 pv d => ?_
      have hD2 : H2 Dl = some (.lst acc) := d.ch _ _ h2 hDp
      refine ⟨acc, hD2, sz_lt (by omega), ?_, acc ++ [v], upd_same, by rw [List.length_append, h3]; rfl, fun u hu => ?_, ?_⟩
      · rw [upd_ne haD]
        exact d.ch _ _ h0 hap
      · rcases List.mem_append.mp hu with hu | hu
        · exact h4 u hu
        · rw [List.mem_singleton] at hu
          rw [hu]
          exact pv
      · obtain ⟨b1, b2, b3, e, r⟩ := d.bag
        refine ⟨fun y o hy hn => ?_, b1, b2, b3, by rw [upd_ne hDp.symm]; exact e, r.1, r.2.1, r.2.2.1, by have := r.2.2.2; rw [Nat.mul_succ]; omega⟩
        have hy2 := (h5.trans d).ch y o hy hn
        rw [upd_ne (fun z => by rw [z, fresh_back e1 hD] at hy; cases hy)]
        exact hy2
    · obtain ⟨h0, acc, h2, h3, h4, h5⟩ := pv
      exact q Dl acc H' (fresh_back e1 hD) h2 h3 h4 h5⟩
/-- [x for x in xs if t] -/
theorem do_lcF {j : Nat} {a : Addr} {vs : List Nat} (ha : Ev tl σ H (.ref a)) (hx : SqL K H a xs) (hz : xs.length ≤ 1000) (hw : ∀ x, wipe ((wipe σ vs).set j (some x)) vs = wipe σ vs) (hj : ∀ x, ((wipe σ vs).set j (some x))[j]? = some (some x))
    (ht : ∀ x ∈ xs, ∃ b, EvT tt ((wipe σ vs).set j (some x)) H b) : ∃ ys, (∀ y ∈ ys, y ∈ xs) ∧ EvL (tLc (iList K tl) (gName j) tt (tVar j) vs) σ H ys := by
  have hc : ∀ i : Nat, ∃ b : Bool, ∀ x, xs[i]? = some x → EvT tt ((wipe σ vs).set j (some x)) H b := fun i => by
    cases e : xs[i]? with
    | none => exact ⟨true, fun x h => by cases h⟩
    | some x =>
      obtain ⟨b, h⟩ := ht x (List.mem_of_getElem? e)
      exact ⟨b, fun y hy => by cases hy; exact h⟩
  obtain ⟨f, hf⟩ := Classical.axiomOfChoice hc
  refine ⟨given xs.length f fun i => (xs[i]?).getD .non, fun y hy => ?_, el_lcL f (fun i => (xs[i]?).getD .non) ha hx (by omega) hw (fun i x H1 e hi => (hf i x hi).mono e) fun i x H1 e hi _ => ?_⟩
  · unfold given at hy
    obtain ⟨i, hi, rfl⟩ := List.mem_map.mp hy
    have hi := List.mem_range.mp (List.mem_filter.mp hi).1
    rw [List.getElem?_eq_getElem hi]
    exact List.getElem_mem hi
  · rw [hi]
    exact ev_var (hj x)
end
/-! ### a turn -/
/-- the script's list -/
def ScK (K : PySem.W.Frag) (la : Addr) (ns : List Int) (p : Addr) (H : Hp) : Prop := (la ≠ p ∧ Rd H la (.lst (ns.map V.int))) ∨ ∀ H', SqL K H' la (ns.map V.int)
theorem ScK.sq {la p : Addr} {ns : List Int} {H : Hp} (h : ScK K la ns p H) : SqL K H la (ns.map V.int) := by
  rcases h with h | h
  · exact .inl h.2
  · exact h H
theorem ScK.mk {la p : Addr} {ns : List Int} {H H' : Hp} (h : SqL K H la (ns.map V.int)) (hp : H p = none) (e : Ex H H') : ScK K la ns p H' := by
  rcases h with h | h
  · refine .inl ⟨fun z => ?_, ex_rd e h⟩
    rcases h with h | ⟨o, h⟩ <;> rw [z, hp] at h <;> cases h
  · exact .inr fun H' => .inr h
theorem ScK.keep {la p : Addr} {ns : List Int} {H H' : Hp} (h : ScK K la ns p H) (k : ∀ o, H la = some o → la ≠ p → (o = .lst (ns.map V.int) ∨ ∃ u, o = .frz u (.lst (ns.map V.int))) → H' la = some o) : ScK K la ns p H' := by
  rcases h with ⟨h1, h2⟩ | h
  · refine .inl ⟨h1, ?_⟩
    rcases h2 with h2 | ⟨o, h2⟩
    · exact .inl (k _ h2 h1 (.inl rfl))
    · exact .inr ⟨o, k _ h2 h1 (.inr ⟨o, rfl⟩)⟩
  · exact .inr h
structure LC (K : PySem.W.Frag) (la : Addr) (ns : List Int) (p ll d : Addr) (cn : List Nat) (cv : List V) (nl pl : List (List Nat)) (m : Nat) (L : List (List Nat)) (st : LS) (A : StA) (H : Hp) : Prop where
  sc : ScK K la ns p H
  bag : BagH H p m
  st : StH H A st cn cv nl pl
  ad : A.d = d
  ll : H ll = some (.lst (stV L))
  hd : ∃ L', L = testA :: L'
section
variable {la : Addr} {ns : List Int} {p ll d : Addr} {cn : List Nat} {cv : List V} {nl pl : List (List Nat)} {m m' : Nat} {L : List (List Nat)} {st st' : LS} {A A' : StA} {H H' : Hp} {v : V}
theorem LC.ex (h : LC K la ns p ll d cn cv nl pl m L st A H) (e : Ex H H') : LC K la ns p ll d cn cv nl pl m L st A H' := ⟨h.sc.keep fun o ho _ _ => e _ _ ho, h.bag.ex e, h.st.ex e, h.ad, e _ _ h.ll, h.hd⟩
theorem LC.le (h : LC K la ns p ll d cn cv nl pl m L st A H) (e : m ≤ m') : LC K la ns p ll d cn cv nl pl m' L st A H := ⟨h.sc, h.bag.le e, h.st, h.ad, h.ll, h.hd⟩
theorem LC.dr (h : LC K la ns p ll d cn cv nl pl m L st A H) (x : Dr p m' H H') : LC K la ns p ll d cn cv nl pl m' L st A H' := ⟨h.sc.keep fun o ho n _ => x.ch _ _ ho n, x.bag, h.st.dr h.bag x, h.ad, x.keep h.bag h.ll stV_ne, h.hd⟩
theorem ints_ne_refs {α : Type} {l : List α} {f : α → Addr} (h : l ≠ []) {ns : List Int} : HO.lst (ns.map V.int) ≠ .lst (l.map fun t => .ref (f t)) := fun e => by
  have e := HO.lst.inj e
  cases l with
  | nil => exact h rfl
  | cons a r =>
    cases ns with
    | nil => cases e
    | cons b m => cases e
/-- what is no dict, no list of refs, no block, is not of the state's own -/
theorem MA_keep (hs : StH H A st cn cv nl pl) (hne : st.stk ≠ []) (c : Ch (MA A) H H') {a : Addr} {o : HO} (ha : H a = some o) (n1 : ∀ kvs, o ≠ .dK kvs) (n2 : ∀ r xs, o ≠ .lst (.ref r :: xs)) (n3 : ∀ k x i j, o ≠ .lst [.str k, .str x, .ref i, .ref j]) : H' a = some o := by
  refine c _ _ ha fun z => ?_
  rcases z with z | z | ⟨t, ht, z⟩
  · obtain ⟨kvs, hd, _⟩ := hs.d
    rw [z, hd] at ha
    exact n1 _ (Option.some.inj ha).symm
  · rw [z, hs.s] at ha
    have hb := hs.c.ne hne
    cases e : A.bs with
    | nil => exact hb e
    | cons t r =>
      rw [e] at ha
      exact n2 _ _ (Option.some.inj ha).symm
  · obtain ⟨i, hi, rfl⟩ := List.getElem_of_mem ht
    have hi2 : i < st.stk.length := by rw [← hs.bl.1]; exact hi
    have B := hs.bl.2 i _ _ (List.getElem?_eq_getElem hi) (List.getElem?_eq_getElem hi2)
    rw [z, B.ob] at ha
    exact n3 _ _ _ _ (Option.some.inj ha).symm
theorem LC.after (h : LC K la ns p ll d cn cv nl pl m L st A H) (hne : st.stk ≠ []) (c : Ch (MA A) H H') (hs : StH H' A' st' cn cv nl pl) (hd : A'.d = A.d) : LC K la ns p ll d cn cv nl pl m L st' A' H' := by
  refine ⟨h.sc.keep fun o ho _ z => ?_, ?_, hs, hd.trans h.ad, ?_, h.hd⟩
  · rcases z with rfl | ⟨u, rfl⟩
    · refine MA_keep h.st hne c ho (fun _ z => by cases z) (fun r xs z => ?_) fun k x i j z => ?_
      · have z := HO.lst.inj z
        cases ns <;> cases z
      · have z := HO.lst.inj z
        cases ns <;> cases z
    · exact MA_keep h.st hne c ho (fun _ z => by cases z) (fun r xs z => by cases z) fun k x i j z => by cases z
  · obtain ⟨i, j, k, e, r⟩ := h.bag
    exact ⟨i, j, k, MA_keep h.st hne c e (fun _ z => by cases z) (fun r xs z => by cases z) (fun k x i j z => by cases z), r⟩
  · obtain ⟨L', rfl⟩ := h.hd
    refine MA_keep h.st hne c h.ll (fun _ z => by cases z) (fun r xs z => by cases HO.lst.inj z) fun k x i j z => strs_ne_blk z
theorem LineV.after (hv : LineV H v) (h : StH H A st cn cv nl pl) (hne : st.stk ≠ []) (c : Ch (MA A) H H') : LineV H' v := by
  obtain ⟨q, l, x, e, h1, h2⟩ := hv
  exact ⟨q, l, x, e, MA_keep h hne c h1 (fun _ z => by cases z) (fun _ _ z => by cases z) (fun _ _ _ _ z => by cases z), h2⟩
theorem LC.app (h : LC K la ns p ll d cn cv nl pl m L st A H) (x : List Nat) : LC K la ns p ll d cn cv nl pl m (L ++ [x]) st A (upd H ll (.lst (stV (L ++ [x])))) := by
  obtain ⟨L', rfl⟩ := h.hd
  have n : ∀ {a : Addr} {o : HO}, H a = some o → o ≠ .lst (stV (testA :: L')) → (upd H ll (.lst (stV (testA :: L' ++ [x])))) a = some o := fun {a o} e n => by
    rw [upd_ne (fun z => n (by rw [z, h.ll] at e; exact (Option.some.inj e).symm))]
    exact e
  refine ⟨h.sc.keep fun o ho _ z => n ho fun y => ?_, ?_, h.st.keep fun a o ho so => n ho fun y => ?_, h.ad, upd_same, ⟨L' ++ [x], rfl⟩⟩
  · subst y
    rcases z with z | ⟨u, z⟩
    · have z := HO.lst.inj z
      cases ns <;> cases z
    · cases z
  · obtain ⟨i, j, k, e, r⟩ := h.bag
    exact ⟨i, j, k, n e (fun y => stV_ne i j k y.symm), r⟩
  · subst y
    exact (so _ rfl).2 rfl
end
/-! ### the pure part of a turn -/
structure LP (Ls : List LK) (L : List (List Nat)) (st : LS) (due : V) : Prop where
  tx : Txs Ls L
  h0 : Ls[0]? = some .test
  fr : ∀ x ∈ L, Frg x 300
  nt : Noted Ls st due
theorem Txs.snoc {Ls : List LK} {L : List (List Nat)} (h : Txs Ls L) (h0 : Ls ≠ []) {x : List Nat} {l : LK} (t : LineT x l) : Txs (Ls ++ [l]) (L ++ [x]) := by
  have hl := h.len
  refine ⟨by rw [List.length_append, List.length_append, hl]; rfl, fun i e => ?_, fun i l' e => ?_⟩
  · by_cases hi : i < Ls.length
    · rw [List.getElem?_append_left hi] at e
      exact h.t1 i e
    · rw [List.getElem?_append_right (by omega)] at e
      have e0 : i - Ls.length = 0 := by
        have := (List.getElem?_eq_some_iff.mp e).1
        simp only [List.length_cons, List.length_nil] at this
        omega
      rw [e0] at e
      exact absurd (Option.some.inj e) t.nt
  · by_cases hi : i < Ls.length
    · rw [List.getElem?_append_left hi] at e
      obtain ⟨a, b, y, c, d⟩ := h.ln i l' e
      exact ⟨a, b, y, by rw [List.getElem?_append_left (by omega)]; exact c, d⟩
    · rw [List.getElem?_append_right (by omega)] at e
      have e0 : i - Ls.length = 0 := by
        have := (List.getElem?_eq_some_iff.mp e).1
        simp only [List.length_cons, List.length_nil] at this
        omega
      rw [e0] at e
      obtain rfl := Option.some.inj e
      exact ⟨t.wf, t.ln, x, by rw [List.getElem?_append_right (by omega), show i - L.length = 0 by omega]; rfl, Nat.le_trans t.fr.1 (by decide), t.tk⟩
def due1 (st : LS) (due : V) (n : Nat) (k a o : Str) : V := if (decide (due = .non) && !standsA st k a o) = true then .int (n : Int) else due
def st1 (st : LS) (due' : V) (l : LK) : LS := if due' = .non then st.after l else st
theorem due1_stands {st : LS} {due : V} {n : Nat} {l : LK} (t : l ≠ .test) (hw : l.wf) (h : due1 st due n l.kd.1 l.kd.2.1 l.kd.2.2 = .non) : st.stands l := by
  unfold due1 at h
  split at h
  · cases h
  · rename_i z
    rw [h] at z
    refine (standsA_iff t hw).mp ?_
    cases e : standsA st l.kd.1 l.kd.2.1 l.kd.2.2 with
    | true => rfl
    | false => exact absurd (by rw [e]; rfl) z
theorem LP.next {Ls : List LK} {L : List (List Nat)} {st : LS} {due : V} (h : LP Ls L st due) {x : List Nat} {l : LK} (t : LineT x l) : LP (Ls ++ [l]) (L ++ [x]) (st1 st (due1 st due L.length l.kd.1 l.kd.2.1 l.kd.2.2) l) (due1 st due L.length l.kd.1 l.kd.2.1 l.kd.2.2) := by
  have hne : Ls ≠ [] := fun z => by have := h.h0; rw [z] at this; cases this
  refine ⟨h.tx.snoc hne t, by rw [List.getElem?_append_left (List.length_pos_iff.mpr hne)]; exact h.h0, fun y hy => ?_, ?_⟩
  · rcases List.mem_append.mp hy with hy | hy
    · exact h.fr y hy
    · rw [List.mem_singleton] at hy
      rw [hy]
      exact t.fr
  · obtain ⟨r, hn⟩ := h.nt
    rcases hn with ⟨rfl, hm⟩ | ⟨rfl, hs, hm⟩
    · have hl : (Ls ++ [l])[st.many]? = some l := by rw [hm, List.getElem?_append_right (Nat.le_refl _), Nat.sub_self]; rfl
      cases e : standsA st l.kd.1 l.kd.2.1 l.kd.2.2 with
      | true =>
        have hst := (standsA_iff t.nt t.wf).mp e
        have ed : due1 st .non L.length l.kd.1 l.kd.2.1 l.kd.2.2 = .non := by
          unfold due1
          rw [e]
          rfl
        rw [ed]
        unfold st1
        rw [if_pos rfl]
        exact ⟨r.app.trans (.one hl hst), .inl ⟨rfl, by rw [LS.many_s _ _ t.nt, hm, List.length_append]; rfl⟩⟩
      | false =>
        have ed : due1 st .non L.length l.kd.1 l.kd.2.1 l.kd.2.2 = .int (st.many : Int) := by
          unfold due1
          rw [e, h.tx.len, hm]
          rfl
        rw [ed]
        unfold st1
        rw [if_neg (by intro z; cases z)]
        refine ⟨r.app, .inr ⟨rfl, fun l' e' hs => ?_, by rw [hm, List.length_append]; exact Nat.lt_succ_self _⟩⟩
        rw [hl] at e'
        obtain rfl := Option.some.inj e'
        rw [(standsA_iff t.nt t.wf).mpr hs] at e
        cases e
    · have ed : due1 st (.int (st.many : Int)) L.length l.kd.1 l.kd.2.1 l.kd.2.2 = .int (st.many : Int) := by
        unfold due1
        rw [decide_eq_false (by intro z; cases z), Bool.false_and]
        rfl
      rw [ed]
      unfold st1
      rw [if_neg (by intro z; cases z)]
      exact ⟨r.app, .inr ⟨rfl, hs.app hm, by rw [List.length_append]; exact Nat.lt_succ_of_lt hm⟩⟩
theorem LP.first : LP [.test] [testA] st0 .non := by
  refine ⟨⟨rfl, fun i e => ?_, fun i l e => ?_⟩, rfl, fun x hx => ?_, .refl _, .inl ⟨rfl, rfl⟩⟩
  · cases i with
    | zero => rfl
    | succ i => simp at e
  · cases i with
    | zero =>
      obtain rfl := Option.some.inj e
      exact ⟨trivial, ((tbn.cons (t := [97]) (by decide)).cons (t := [116, 101, 115, 116]) (by decide)).ln (by decide), testA, rfl, by decide, w1 [116, 101, 115, 116] (wE [97])⟩
    | succ i => simp at e
  · rw [List.mem_singleton] at hx
    rw [hx]
    exact ⟨by decide, by decide⟩
/-- what is due at last -/
def due2 (st : LS) (due : V) (n : Nat) : V := if (decide (due = .non) && !decide (st.stk = [])) = true then .int (n : Int) else due
theorem LP.last {Ls : List LK} {L : List (List Nat)} {st : LS} {due v : V} (h : LP Ls L st due) (hv : Due Ls v) : v = due2 st due L.length := by
  obtain ⟨r, hn⟩ := h.nt
  refine due_eq r ?_ hv
  rcases hn with ⟨rfl, hm⟩ | ⟨rfl, hs, hm⟩
  · by_cases e : st.stk = []
    · refine .inl ⟨?_, e, hm⟩
      unfold due2
      rw [decide_eq_true e]
      rfl
    · refine .inr ⟨?_, stuck_end hm, .inl e⟩
      unfold due2
      rw [decide_eq_false e, h.tx.len, hm]
      rfl
  · refine .inr ⟨?_, hs, .inr hm⟩
    unfold due2
    rw [decide_eq_false (by intro z; cases z), Bool.false_and]
    rfl
theorem due2_sc {st : LS} {due : V} {n : Nat} (h : due = .non ∨ ∃ i, due = .int i) : due2 st due n = .non ∨ ∃ i, due2 st due n = .int i := by
  unfold due2
  split
  · exact .inr ⟨_, rfl⟩
  · exact h
end WP
set_option Elab.async false
set_option linter.all false
set_option maxRecDepth 100000
set_option maxHeartbeats 4000000
/-! the law -/
namespace WP
open PySem PySem.Spec PyProof.Rows L2 Evl SX
variable {w : World} {K : PySem.W.Frag} {mg : Str → Option Value} {base : Heap}
section
variable {K : PySem.W.Frag} {σ : L2.St} {H : Hp} {p d ll fl sl : Addr} {m : Nat} {E : XK} {Q : VK} {R : Bool → Hp → Prop} {L : List (List Nat)} {A : StA} {st : LS} {cn : List Nat} {cv : List V} {nl pl : List (List Nat)} {most : Int} {xs ys : List V} {wild : Bool} {te : TE}
theorem lst1 {t1 : TE} (h : t1 σ H fun v1 H1 => 1 ≤ sizeLine ∧ ∀ p, H1 p = none → Q (.ref p) (upd H1 p (.lst [v1]))) : tLst (tCons t1 tNil) σ H Q := h
theorem lst4 {t1 t2 t3 t4 : TE} (h : t1 σ H fun v1 H1 => t2 σ H1 fun v2 H2 => t3 σ H2 fun v3 H3 => t4 σ H3 fun v4 H4 => 4 ≤ sizeLine ∧ ∀ p, H4 p = none → Q (.ref p) (upd H4 p (.lst [v1, v2, v3, v4]))) : tLst (tCons t1 (tCons t2 (tCons t3 (tCons t4 tNil)))) σ H Q := h
theorem q_wh {t : L2.TT} {tu tz : TS} {D : Ends} (W : Nat → L2.St → Hp → Prop) (m0 : Nat) (h0 : W m0 σ H)
    (hs : ∀ m σ' H', W m σ' H' → t σ' H' fun b H1 => if b = true then ∃ N : L2.St → Hp → Prop, (∀ σ2 H2, N σ2 H2 → ∃ m', m' < m ∧ W m' σ2 H2) ∧ tu { D with nx := N, ct := N, bk := tz D } σ' H1 else tz D σ' H1) : tSeq (tWhile t tu) tz D σ H := ⟨W, ⟨m0, h0⟩, hs⟩
theorem do_cond (hS : StH H A st cn cv nl pl) (hb : BagH H p m) (hm : m < 1000000) (hl : H ll = some (.lst (stV L))) (h5 : σ[5]? = some (some (.ref ll))) (h7 : σ[7]? = some (some (.int most))) (h3 : σ[3]? = some (some (.ref A.d))) (h2 : σ[2]? = some (some (.ref p)))
    (k : ∀ b H1, (b = true → (L.length : Int) < most) → Dr p (m + 1) H H1 → R b H1) :
    (tAnd (tTest (tOp (rI0 fun i j => .bl (decide (i < j))) (tCB (rLenS K) (tCons (tVar 5) tNil)) (tVar 7))) (tOr (tTest (tOp (rNeD K) (tDGet (tVar 3) (tC (.str "stack"))) (tLst tNil))) (tTest (tOp (rI0 fun i j => .bl (decide (j < i))) (tF sp_take E (tCons (tVar 2) (tCons (tC (.int 3)) tNil))) (tC (.int 0)))))) σ H R := by
  refine et_test (ev_op (ev_len (ev_var h5) (sq_of hl)) (ev_var h7) rv_I0) H (Ex.refl _) _ fun H1 e1 => ?_
  have d1 : Dr p (m + 1) H H1 := ((Dr.refl hb).ex e1).le (Nat.le_succ _)
  split
  · rename_i hlt
    have hlt := of_decide_eq_true hlt
    rw [stV_len] at hlt
    refine et_test (ev_stk1 (hS.ex e1) (ev_var h3)) H1 (Ex.refl _) _ fun H2 e2 => ?_
    split
    · exact k true H2 (fun _ => hlt) (d1.ex e2)
    · refine do_take (n := 3) ((hb.ex e1).ex e2) (ev_var h2) ev_c (by decide) (by decide) hm fun j H3 j0 j1 d3 => ?_
      exact ⟨j, 0, rfl, rfl, _, rfl, k _ H3 (fun _ => hlt) (Ex.dr (e1.trans e2) d3)⟩
  · exact k false H1 (fun h => by cases h) d1
/-- the line that is taken: one of those drawn -/
theorem do_pick (hb : BagH H p m) (hm : m < 1000000) (h11 : σ[11]? = some (some (.ref fl))) (h9 : σ[9]? = some (some (.ref sl))) (h8 : σ[8]? = some (some (.bl wild))) (h2 : σ[2]? = some (some (.ref p))) (hf : H fl = some (.lst ys)) (hs : H sl = some (.lst xs)) (nf : fl ≠ p) (ns : sl ≠ p) (hx : ∀ v ∈ xs, LineV H v) (hy : ∀ y ∈ ys, y ∈ xs) (hne : xs ≠ [])
    (k : ∀ v H1, v ∈ xs → Dr p (m + 1) H H1 → Q v H1) :
    tIf (tAnd (tTest (tOp (rNeD K) (tVar 11) (tLst tNil))) (tOr (tNot (tB (tVar 8))) (tTest (tOp (rI0 fun i j => .bl (decide (j < i))) (tF sp_take E (tCons (tVar 2) (tCons (tC (.int 12)) tNil))) (tC (.int 0)))))) (tOp (rIxL K) (tVar 11) (tC (.int 0))) (tOp (rIxL K) (tVar 9) (tC (.int 0))) σ H Q := by
  have first : ∀ {zs : List V}, zs ≠ [] → ∃ v, atI zs 0 = some v ∧ v ∈ zs := fun {zs} h => by
    obtain ⟨v, h1, h2⟩ := atI_nat (xs := zs) (k := 0) (Int.le_refl _) (by have := List.length_pos_iff.mpr h; omega)
    exact ⟨v, h1, h2⟩
  have fin : ∀ b H1, (b = true → ys ≠ []) → Dr p (m + 1) H H1 → (if b = true then (tOp (rIxL K) (tVar 11) (tC (.int 0))) σ H1 Q else (tOp (rIxL K) (tVar 9) (tC (.int 0))) σ H1 Q) := fun b H1 hb1 d => by
    split
    · rename_i z
      obtain ⟨v, v1, v2⟩ := first (hb1 z)
      exact ⟨.ref fl, h11, fl, ys, 0, v, rfl, rfl, sq_of (d.ch _ _ hf nf), v1, k v H1 (hy v v2) d⟩
    · obtain ⟨v, v1, v2⟩ := first hne
      exact ⟨.ref sl, h9, sl, xs, 0, v, rfl, rfl, sq_of (d.ch _ _ hs ns), v1, k v H1 v2 d⟩
  refine et_test (ev_neLines (ev_var h11) hf fun y h => hx y (hy y h)) H (Ex.refl _) _ fun H1 e1 => ?_
  have d1 : Dr p (m + 1) H H1 := ((Dr.refl hb).ex e1).le (Nat.le_succ _)
  split
  · rename_i z
    have hys : ys ≠ [] := by
      rw [Bool.not_eq_true'] at z
      exact of_decide_eq_false z
    refine ⟨.bl wild, h8, wild, rfl, ?_⟩
    cases wild with
    | false => exact fin true H1 (fun _ => hys) d1
    | true =>
      refine do_take (n := 12) (hb.ex e1) (ev_var h2) ev_c (by decide) (by decide) hm fun j H3 j0 j1 d3 => ?_
      exact ⟨j, 0, rfl, rfl, _, rfl, fin _ H3 (fun _ => hys) (Ex.dr e1 d3)⟩
  · exact fin false H1 (fun h => by cases h) d1
theorem ev_joinE {l : Addr} {sep : List Nat} {ys : List (List Nat)} (h : Ev te σ H (.ref l)) (hl : H l = some (.lst (stV ys))) (hz : (ys.map (·.length)).sum + ys.length * sep.length ≤ 100000) :
    Ev (tBM K "str" (fun x xs H Q => ∃ a p, ∃ ys : List Str, x = .str a ∧ xs = [.ref p] ∧ (SqL K H p (ys.map V.str) ∨ SqT K H p (ys.map V.str)) ∧ (ys.map (·.length)).sum + ys.length * a.length ≤ 16777216 ∧ Q (.str (Txt.join a ys)) H) (tC (.str (S sep))) (tCons te tNil)) σ H (.str (S (TL.joinL sep ys))) := fun H1 e Q q =>
  ⟨rfl, h H1 e _ fun H2 e2 => ⟨S sep, l, ys.map S, rfl, rfl, .inl (by rw [List.map_map]; exact sq_of ((e.trans e2) _ _ hl)), by rw [lens, List.length_map, S_len]; omega, by rw [join_S]; exact q H2 e2⟩⟩
end
theorem sum_len {b : Nat} : ∀ l : List (List Nat), (∀ x ∈ l, x.length ≤ b) → (l.map (·.length)).sum ≤ l.length * b
  | [], _ => Nat.zero_le _
  | x :: r, h => by
    have h1 := h x (by simp)
    have h2 := sum_len r fun y hy => h y (List.mem_cons_of_mem _ hy)
    rw [List.map_cons, List.sum_cons, List.length_cons, Nat.succ_mul]
    omega
/-- the while's word -/
def LawW (K : PySem.W.Frag) (la : Addr) (ns : List Int) (p ll d : Addr) (cn : List Nat) (cv : List V) (nl pl : List (List Nat)) (i : Int) (o4 : Option V) (most : Int) (wild : Bool) (m : Nat) (σ : L2.St) (H : Hp) : Prop :=
  ∃ (Ls : List LK) (L : List (List Nat)) (st : LS) (A : StA) (due : V) (o9 o10 o11 o12 : Option V), m = 46 - L.length ∧ L.length ≤ 46 ∧ σ = [some (.ref la), some (.int i), some (.ref p), some (.ref d), o4, some (.ref ll), some due, some (.int most), some (.bl wild), o9, o10, o11, o12] ∧
    (due = .non ∨ ∃ i, due = .int i) ∧ LP Ls L st due ∧ LC K la ns p ll d cn cv nl pl (1000 + 100 * L.length) L st A H
theorem due1_sc {st : LS} {due : V} {n : Nat} {k a o : Str} (h : due = .non ∨ ∃ i, due = .int i) : due1 st due n k a o = .non ∨ ∃ i, due1 st due n k a o = .int i := by
  unfold due1
  split
  · exact .inr ⟨_, rfl⟩
  · exact h
theorem names_of : ∀ ys : List V, (∀ v ∈ ys, ∃ n, v = .str (S n) ∧ isNm n = true) → ∃ nl : List (List Nat), ys = stV nl ∧ ∀ n ∈ nl, isNm n = true
  | [], _ => ⟨[], rfl, fun _ h => by cases h⟩
  | v :: r, h => by
    obtain ⟨nl, e, h2⟩ := names_of r fun u hu => h u (List.mem_cons_of_mem _ hu)
    obtain ⟨n, rfl, hn⟩ := h v (by simp)
    refine ⟨n :: nl, by rw [e]; rfl, fun x hx => ?_⟩
    rcases List.mem_cons.mp hx with z | hx
    · rw [z]; exact hn
    · exact h2 x hx
/-- the state while it is made -/
structure Sm (H : Hp) (d sp fp b1 n1 i1 : Addr) (cn : List Nat) (cv : List V) (kvs : List (Key × V)) (k : Nat) : Prop where
  d : H d = some (.dK kvs)
  l : kvs.length ≤ k
  v1 : valV kvs (.inr "stack") = some (.ref sp)
  v2 : valV kvs (.inr "flags") = some (.ref fp)
  v3 : valV kvs (.inr "many") = some (.int 1)
  v4 : valV kvs (.inr "call") = some (.str (S (callT cn cv)))
  s : H sp = some (.lst [.ref b1])
  b : H b1 = some (.lst [.str "test", .str "rows", .ref n1, .ref i1])
  n : H n1 = some (.lst [])
  i : H i1 = some (.lst [])
  f : H fp = some (.lst [])
section
variable {H H' : Hp} {d sp fp b1 n1 i1 p : Addr} {cn : List Nat} {cv : List V} {kvs kvs' : List (Key × V)} {k m m' : Nat}
theorem Sm.ex (h : Sm H d sp fp b1 n1 i1 cn cv kvs k) (e : Ex H H') : Sm H' d sp fp b1 n1 i1 cn cv kvs k := ⟨e _ _ h.d, h.l, h.v1, h.v2, h.v3, h.v4, e _ _ h.s, e _ _ h.b, e _ _ h.n, e _ _ h.i, e _ _ h.f⟩
theorem Sm.dr (h : Sm H d sp fp b1 n1 i1 cn cv kvs k) (hb : BagH H p m) (x : Dr p m' H H') : Sm H' d sp fp b1 n1 i1 cn cv kvs k :=
  ⟨x.keep hb h.d (fun _ _ _ z => by cases z), h.l, h.v1, h.v2, h.v3, h.v4, x.keep hb h.s (fun _ _ _ z => by cases z), x.keep hb h.b (fun _ _ _ z => by cases z), x.keep hb h.n (fun _ _ _ z => by cases z), x.keep hb h.i (fun _ _ _ z => by cases z), x.keep hb h.f (fun _ _ _ z => by cases z)⟩
/-- a key of another name -/
theorem Sm.put (h : Sm H d sp fp b1 n1 i1 cn cv kvs k) {x : Str} {v : V} (h1 : (Sum.inr "stack" : Key) ≠ .inr x) (h2 : (Sum.inr "flags" : Key) ≠ .inr x) (h3 : (Sum.inr "many" : Key) ≠ .inr x) (h4 : (Sum.inr "call" : Key) ≠ .inr x) : Sm (upd H d (.dK (putK kvs (.inr x) v))) d sp fp b1 n1 i1 cn cv (putK kvs (.inr x) v) (k + 1) := by
  have n : ∀ {a : Addr} {xs : List V}, H a = some (.lst xs) → (upd H d (.dK (putK kvs (.inr x) v))) a = some (.lst xs) := fun {a xs} e => by
    rw [upd_ne (fun z => by rw [z, h.d] at e; cases e)]
    exact e
  exact ⟨upd_same, Nat.le_trans (length_putK _ _ _) (Nat.succ_le_succ h.l), by rw [valV_put, if_neg h1]; exact h.v1, by rw [valV_put, if_neg h2]; exact h.v2, by rw [valV_put, if_neg h3]; exact h.v3, by rw [valV_put, if_neg h4]; exact h.v4, n h.s, n h.b, n h.n, n h.i, n h.f⟩
end
theorem tp_cons {tk tv : TE} {r : List (TE × TE)} {σ : L2.St} {H : Hp} {Q : List (V × V) → Hp → Prop} (h : tk σ H fun x H1 => tv σ H1 fun y H2 => tPairs r σ H2 fun ps H3 => Q ((x, y) :: ps) H3) : tPairs ((tk, tv) :: r) σ H Q := h
theorem tp_nil {σ : L2.St} {H : Hp} {Q : List (V × V) → Hp → Prop} (h : Q [] H) : tPairs [] σ H Q := h
theorem sdp_ {td ty tv : TE} {tz : TS} {D : Ends} {σ : L2.St} {H : Hp} (h : tv σ H fun v H1 => td σ H1 fun x H2 => ty σ H2 fun y H3 => ∃ a H4, x = .ref a ∧ DPut H3 a y v H4 ∧ tz D σ H4) : tSeq (sDPut td ty tv) tz D σ H := h
theorem if_ne {ta tb te : TE} {tu tw : TS} {sp : Sp} {E : XK} {D : Ends} {σ : L2.St} {H : Hp} (h : ta σ H fun x H1 => tb σ H1 fun y H2 => sp [x, y] H2 (fun v H3 => te σ H3 fun u H4 => scal v u = true ∧ ∃ k, V.bl (!decide (v = u)) = .bl k ∧ if k = true then tu D σ H4 else tw D σ H4) E) : tIfS (tTest (tOp rNe (tF sp E (tCons ta (tCons tb tNil))) te)) tu tw D σ H := h
theorem tc_ {v : V} {σ : L2.St} {H : Hp} {Q : VK} (h : Q v H) : tC v σ H Q := h
theorem do_state {σ : L2.St} {H : Hp} {p : Addr} {E : XK} {Q : VK} (h2 : σ[2]? = some (some (.ref p))) (hb : BagH H p 0)
    (q : ∀ d sp fp b1 n1 i1 cn cv kvs H', (Th.call cn cv).wf → Sm H' d sp fp b1 n1 i1 cn cv kvs 4 → Dr p 60 H H' → Q (.ref d) H') :
    tDisp [(tC (.str "stack"), tLst (tCons (tLst (tCons (tC (.str "test")) (tCons (tC (.str "rows")) (tCons (tLst tNil) (tCons (tLst tNil) tNil))))) tNil)), (tC (.str "flags"), tLst tNil), (tC (.str "many"), tC (.int 1)), (tC (.str "call"), tF sp_acall E (tCons (tVar 2) tNil))] σ H Q := by
  intro d hd
  have e0 : Ex H (upd H d (.dK [])) := Ex.new hd
  have g0 : (upd H d (.dK [])) d = some (.dK []) := upd_same
  generalize upd H d (.dK []) = H1 at e0 g0
  refine tp_cons (tc_ (lst1 (lst4 (tc_ (tc_ ?_)))))
  refine el_lst (vs := []) ea_nil (by decide) _ (Ex.refl _) _ fun n1 H3 hn1 e3 g1 => ?_
  refine el_lst (vs := []) ea_nil (by decide) _ (Ex.refl _) _ fun i1 H4 hi1 e4 g2 => ⟨by decide, fun b1 hb1 => ⟨by decide, fun sp hsp => ?_⟩⟩
  have e5 : Ex H4 (upd H4 b1 (.lst [.str "test", .str "rows", .ref n1, .ref i1])) := Ex.new hb1
  have g5 : (upd H4 b1 (.lst [.str "test", .str "rows", .ref n1, .ref i1])) b1 = some (.lst [.str "test", .str "rows", .ref n1, .ref i1]) := upd_same
  show tPairs _ _ (upd (upd H4 b1 (.lst [.str "test", .str "rows", .ref n1, .ref i1])) sp (.lst [.ref b1])) _
  have hsp : (upd H4 b1 (.lst [.str "test", .str "rows", .ref n1, .ref i1])) sp = none := hsp
  generalize upd H4 b1 (.lst [.str "test", .str "rows", .ref n1, .ref i1]) = H5 at e5 g5 hsp
  have e6 : Ex H5 (upd H5 sp (.lst [.ref b1])) := Ex.new hsp
  have g6 : (upd H5 sp (.lst [.ref b1])) sp = some (.lst [.ref b1]) := upd_same
  generalize upd H5 sp (.lst [.ref b1]) = H6 at e6 g6
  refine tp_cons (tc_ ?_)
  refine el_lst (vs := []) ea_nil (by decide) _ (Ex.refl _) _ fun fp H7 hfp e7 g7 => ?_
  refine tp_cons (tc_ (tc_ (tp_cons (tc_ ?_))))
  have eA := ((((e3.trans e4).trans e5).trans e6).trans e7)
  have hb7 : BagH H7 p 0 := hb.ex (e0.trans eA)
  refine ⟨.ref p, h2, .ref p, rfl, p, 0, rfl, hb7, by decide, fun cn cv H8 wf d8 => tp_nil ?_⟩
  have kp : ∀ {a : Addr} {o : HO}, H7 a = some o → (∀ i j k : Int, o ≠ .lst [.int i, .int j, .int k]) → H8 a = some o := fun e n => d8.keep hb7 e n
  have hd8 : H8 d = some (.dK []) := kp (eA _ _ g0) (fun _ _ _ z => by cases z)
  refine ⟨hd8, [(.inr "stack", .ref sp), (.inr "flags", .ref fp), (.inr "many", .int 1), (.inr "call", .str (S (callT cn cv)))], rfl, show 4 ≤ 15 by decide, ?_⟩
  have nd : ∀ {a : Addr} {xs : List V} {o : HO}, H8 a = some (.lst xs) → (upd H8 d o) a = some (.lst xs) := fun {a xs o} e => by
    rw [upd_ne (fun z => by rw [z, hd8] at e; cases e)]
    exact e
  refine q d sp fp b1 n1 i1 cn cv _ _ wf ⟨upd_same, length_mergeK _ _, rfl, rfl, rfl, rfl, nd (kp ((e7 _ _ g6)) (fun _ _ _ z => by cases z)), nd (kp ((e6.trans e7) _ _ g5) (fun _ _ _ z => by cases z)), nd (kp ((((e4.trans e5).trans e6).trans e7) _ _ g1) (fun _ _ _ z => by cases z)), nd (kp (((e5.trans e6).trans e7) _ _ g2) (fun _ _ _ z => by cases z)), nd (kp g7 (fun _ _ _ z => by cases z))⟩ ?_
  have d9 : Dr p 60 H H8 := Ex.dr (e0.trans eA) d8
  refine ⟨fun a o ha hn => ?_, ?_⟩
  · rw [upd_ne (ne_of_none ha hd)]
    exact d9.ch a o ha hn
  · obtain ⟨i, j, k, e, r⟩ := d9.bag
    exact ⟨i, j, k, nd e, r⟩
def sp_law : Sp := sp1 fun sc H Q _ => ∃ (la : Addr) (ns : List Int), sc = .ref la ∧ SqL K H la (ns.map V.int) ∧ ∀ H', Q (.bl true) H'
theorem law_ok (T : TT K mg) {fd : FuncData} (F : FunD K "law" "law" (defArgs s_law) (defBody s_law) (defScope s_law) [] [] (d_law.at_ K) fd) : FnOk PW w K mg base CX0 61 (d_law.at_ K) fd ["_law_script"] (sp_law (K := K)) := by
  refine F.ok sc_law (fun vs H Q E h => by obtain ⟨a, rfl, _⟩ := h; rfl) (fun cdv A outer s H vs Q E hr h => ?_)
  obtain ⟨a, rfl, la, ns, rfl, hS, q⟩ := h
  refine ⟨_, (have hu := hu_of hr; have hu64 := hu64_of hr; (PSs.nox (pss_cons (ps_for PassesOwn.never rfl (pi_range1 rfl (z_range T) (pa_cons (pe_callB (call_max2 rfl) rfl (z_max T) (by decide +kernel) (pa_cons pe_int (pa_cons (pe_callB (call_min2 rfl) rfl (z_min T) (by decide +kernel) (pa_cons pe_int (pa_cons (pe_callB (id := "len") call_len_seq rfl (z_len T) (by decide +kernel) (pa_cons (pv 0) pa_nil)) pa_nil))) pa_nil))) pa_nil)) (pg_name (i := 1) sc_law.nd rfl (Or.inl rfl)) (pss_cons (ps_set (i := 2) sc_law.nd rfl (Or.inr rfl) (wc (o__law_bag T) hr (by decide) pass0 (pa_cons (pv 0) (pa_cons (pv 1) pa_nil))))
        (pss_cons (ps_set (i := 3) sc_law.nd rfl (Or.inr rfl) (pe_disp (pps_cons pe_str (pe_lst (pa_cons (pe_lst (pa_cons pe_str (pa_cons pe_str (pa_cons (pe_lst pa_nil) (pa_cons (pe_lst pa_nil) pa_nil))))) pa_nil)) (pps_cons pe_str (pe_lst pa_nil) (pps_cons pe_str pe_int (pps_cons pe_str (wc (o__law_any_call T) hr (by decide) pass0 (pa_cons (pv 2) pa_nil)) pps_nil)))) rfl rfl (List.cons_ne_nil _ _) (by decide)))
        (pss_cons (ps_dput hu (pv 3) pe_str (pe_lc (own := [("_law_end", 4)]) (g := gName 4) (tt := tYes) rfl sc_law.nd (pi_list (pe_lst (pa_cons pe_str (pa_cons pe_str (pa_cons pe_str pa_nil))))) (blkOk_by (N := ["_law_script", "_law_at", "_law_bag_here", "_law_state", "_law_end", "_law_lines", "_law_due", "_law_most", "_law_is_wild", "_law_some", "_law_turn", "_law_fine", "_law_line_here"]) (sc := defScope s_law) (by decide +kernel)) (fun _ _ _ _ _ => pg_name (i := 4) sc_law.nd rfl (Or.inl rfl)) (fun _ _ _ _ _ => pts_nil) (fun _ _ _ _ _ => (pe_op op_add_str (pe_slice sl_str (wc (o__law_any_name T) hr (by decide) pass0 (pa_cons (pv 2) pa_nil)) po_none (po_some pe_int)) (pv 4)))) rfl)
        (pss_cons (ps_dput hu (pv 3) pe_str (pe_op op_cat (pe_dget hu (pv 3) pe_str (fun _ _ => rfl)) (pe_lst (pa_cons pe_str pa_nil))) rfl)
        (pss_cons (ps_par3 (i := 5) (j := 6) (l := 7) rfl sc_law.nd rfl rfl rfl (by decide) (by decide) (by decide) rfl rfl rfl (pa_cons (pe_lst (pa_cons pe_str pa_nil)) (pa_cons pe_non (pa_cons (wc (o__law_of T) hr (by decide) pass0 (pa_cons (pv 2) (pa_cons (pe_lst (pa_cons pe_int (pa_cons pe_int (pa_cons (pe_op op_add pe_int (wc (o__law_take T) hr (by decide) pass0 (pa_cons (pv 2) (pa_cons pe_int pa_nil)))) pa_nil)))) pa_nil))) pa_nil))) rfl)
        (pss_cons (ps_set (i := 8) sc_law.nd rfl (Or.inl rfl) (pe_cmpR op_eq (wc (o__law_take T) hr (by decide) pass0 (pa_cons (pv 2) (pa_cons pe_int pa_nil))) pe_int (nomark _)))
        (pss_cons (ps_while PassesOwn.never (L2.PW.pt (pw_and (pt_cmpR op_lt (pe_callB (id := "len") call_len_seq rfl (z_len T) (by decide +kernel) (pa_cons (pv 5) pa_nil)) (pv 7) (nomark _)) (pw_and1 (L2.PW.pt (pw_or (pt_cmpR (op_neD hu64) (pe_dget hu (pv 3) pe_str (fun _ _ => rfl)) (pe_lst pa_nil) (nomark _)) (pw_or1 (pt_cmpR op_gt (wc (o__law_take T) hr (by decide) pass0 (pa_cons (pv 2) (pa_cons pe_int pa_nil))) pe_int (nomark _)))))))) (pss_cons (ps_setLc (i := 9) (own := [("_law_turn", 10)]) (g := gName 10) (tt := tYes) rfl sc_law.nd rfl rfl (sw_true rfl rfl rfl (by decide +kernel)) (pi_range1 rfl (z_range T) (pa_cons pe_int pa_nil)) (blkOk_by (N := ["_law_script", "_law_at", "_law_bag_here", "_law_state", "_law_end", "_law_lines", "_law_due", "_law_most", "_law_is_wild", "_law_some", "_law_turn", "_law_fine", "_law_line_here"]) (sc := defScope s_law) (by decide +kernel)) (fun _ _ _ _ _ => pg_name (i := 10) sc_law.nd rfl (Or.inl rfl)) (fun _ _ _ _ _ => pts_nil) (fun _ _ _ _ _ => (wc (o__law_line T) hr (by decide) pass0 (pa_cons (pv 2) (pa_cons (pv 3) pa_nil)))))
        (pss_cons (ps_setLc (i := 11) (own := [("_law_line_here", 12)]) (g := gName 12) rfl sc_law.nd rfl rfl (sw_true rfl rfl rfl (by decide +kernel)) (pi_list (pv 9)) (blkOk_by (N := ["_law_script", "_law_at", "_law_bag_here", "_law_state", "_law_end", "_law_lines", "_law_due", "_law_most", "_law_is_wild", "_law_some", "_law_turn", "_law_fine", "_law_line_here"]) (sc := defScope s_law) (by decide +kernel)) (fun _ _ _ _ _ => pg_name (i := 12) sc_law.nd rfl (Or.inl rfl)) (fun _ _ _ _ _ => pts_one (pt_val (wc (o__law_stands T) hr (by decide) pass0 (pa_cons (pv 3) (pa_cons (pv 12) pa_nil))))) (fun _ _ _ _ _ => (pv 12)))
        (pss_cons (ps_set (i := 12) sc_law.nd rfl (Or.inl rfl) (pe_ifExp (L2.PW.pt (pw_and (pt_cmpR (op_neD hu64) (pv 11) (pe_lst pa_nil) (nomark _)) (pw_and1 (L2.PW.pt (pw_or (pt_not (pt_val (pv 8))) (pw_or1 (pt_cmpR op_gt (wc (o__law_take T) hr (by decide) pass0 (pa_cons (pv 2) (pa_cons pe_int pa_nil))) pe_int (nomark _)))))))) (pe_ix ix_list (pv 11) pe_int (fun _ _ => rfl)) (pe_ix ix_list (pv 9) pe_int (fun _ _ => rfl))))
        (pss_cut (ps_if (L2.PW.pt (pw_and (pt_cmpR op_isN (pv 6) pe_non (nomark _)) (pw_and1 (pt_not (pt_val (wc (o__law_stands T) hr (by decide) pass0 (pa_cons (pv 3) (pa_cons (pv 12) pa_nil)))))))) (pss_one (ps_set (i := 6) sc_law.nd rfl (Or.inl rfl) (pe_callB (id := "len") call_len_seq rfl (z_len T) (by decide +kernel) (pa_cons (pv 5) pa_nil)))) pss_nil)
        (pss_cut (ps_if (pt_cmpR op_isN (pv 6) pe_non (nomark _)) (pss_one (ps_expr (wc (o__law_after T) hr (by decide) pass0 (pa_cons (pv 3) (pa_cons (pv 12) pa_nil))))) pss_nil)
        (pss_one (ps_expr (pe_bm PySem.F.plainAttrs_list PySem.F.slot_list_append PySem.F.type_list_append mt_append (pv 5) (pa_cons (pe_ix ix_tup (pv 12) pe_int (fun _ _ => rfl)) pa_nil))))))))))
        (pss_cut (ps_if (L2.PW.pt (pw_and (pt_cmpR op_isN (pv 6) pe_non (nomark _)) (pw_and1 (pt_cmpR (op_neD hu64) (pe_dget hu (pv 3) pe_str (fun _ _ => rfl)) (pe_lst pa_nil) (nomark _))))) (pss_one (ps_set (i := 6) sc_law.nd rfl (Or.inl rfl) (pe_callB (id := "len") call_len_seq rfl (z_len T) (by decide +kernel) (pa_cons (pv 5) pa_nil)))) pss_nil)
        (pss_one (ps_if (pt_cmpR op_ne (wc (o__law_refused T) hr (by decide) pass0 (pa_cons (pe_bm PySem.F.plainAttrs_str PySem.F.slot_str_join PySem.F.type_str_join mt_join pe_str (pa_cons (pv 5) pa_nil)) (pa_cons (w_sm (wgr (g_Family T)) (r_Family T).1 (r_Family T).2 (o_Family_plain T) hr (by decide) pass0) pa_nil))) (pv 6) (nomark _)) (pss_one (ps_ret pe_bl)) pss_nil)))))))))))
        (pss_one (ps_ret pe_bl))))), ?_⟩
  obtain ⟨n, hn0, hn4, hne⟩ : ∃ n : Int, 0 ≤ n ∧ n ≤ 4 ∧ EvA (tCons (tCB rMax2 (tCons (tC (.int 1)) (tCons (tCB (fun xs H Q => ∃ i j, xs = [.int i, .int j] ∧ Q (.int (if j < i then j else i)) H) (tCons (tC (.int 4)) (tCons (tCB (rLenS K) (tCons (tVar 0) tNil)) tNil))) tNil))) tNil) (L2.start ["_law_script", "_law_at", "_law_bag_here", "_law_state", "_law_end", "_law_lines", "_law_due", "_law_most", "_law_is_wild", "_law_some", "_law_turn", "_law_fine", "_law_line_here"] [.ref la]) H [.int n] := by
    refine ⟨_, ?_, ?_, ea_cons (ev_max2 ev_c (ev_cb (z := .int (if ((ns.map V.int).length : Int) < 4 then ((ns.map V.int).length : Int) else 4)) (ea_cons ev_c (ea_cons (ev_len (ev_var rfl) hS) ea_nil)) fun H1 _ Q' q' => ⟨_, _, rfl, q' H1 (Ex.refl _)⟩)) ea_nil⟩
    · split <;> omega
    · split <;> split <;> omega
  refine q_forR1 hne ⟨hn0, by omega⟩ (fun i σ' H' => SqL K H' la (ns.map V.int) ∧ ∃ o1 o2 o3 o4 o5 o6 o7 o8 o9 o10 o11 o12 : Option V, σ' = [some (.ref la), o1, o2, o3, o4, o5, o6, o7, o8, o9, o10, o11, o12]) (fun H1 e1 => ⟨ex_l e1 hS, none, none, none, none, none, none, none, none, none, none, none, none, rfl⟩) (fun i σ' H' hi pv => ?_) fun σ' H' pv => ?_
  rotate_left
  · exact s_ret ev_c fun H1 _ => q H1
  obtain ⟨hS, o1, o2, o3, o4, o5, o6, o7, o8, o9, o10, o11, o12, rfl⟩ := pv
  refine asg_d (go_f (ea_cons (ev_var rfl) (ea_cons (ev_var rfl) ea_nil)) fun H1 e1 => ⟨_, _, rfl, la, ns, i, rfl, ex_l e1 hS, rfl, by omega, fun p H2 hp e2 hb2 => ?_⟩)
  have sc2 : ScK K la ns p H2 := ScK.mk (ex_l e1 hS) hp e2
  clear hS hne
  -- the state
  refine asg_d (do_state rfl hb2 fun d sp fp b1 n1 i1 cn cv kvs H3 wf sm3 d3 => ?_)
  have sc3 : ScK K la ns p H3 := sc2.keep fun o ho n _ => d3.ch _ _ ho n
  -- the names
  refine sdp_ (do_lcLD (c := 14) (P := fun v => ∃ n, v = .str (S n) ∧ isNm n = true) (xs := [.str (S [117]), .str (S [118]), .str (S [120])]) d3.bag (el_lst (ea_cons ev_c (ea_cons ev_c (ea_cons ev_c ea_nil))) (by simp)) (by simp) (fun x => rfl) (fun j x H4 hx d4 Q' q' => ?_) (fun np ys H4 hnp h4 hlen hP d4 => ?_))
  · obtain ⟨c, rfl, hc⟩ : ∃ c, x = .str (S [c]) ∧ (c = 117 ∨ c = 118 ∨ c = 120) := by
      have hm := List.mem_of_getElem? hx
      simp only [List.mem_cons, List.not_mem_nil, or_false] at hm
      rcases hm with rfl | rfl | rfl
      · exact ⟨117, rfl, .inl rfl⟩
      · exact ⟨118, rfl, .inr (.inl rfl)⟩
      · exact ⟨120, rfl, .inr (.inr rfl)⟩
    have hj := (List.getElem?_eq_some_iff.mp hx).1
    simp only [List.length_cons, List.length_nil] at hj
    refine ⟨.ref p, rfl, .ref p, rfl, p, _, rfl, d4.bag, by omega, fun n H5 hn d5 => ?_⟩
    have h12 := isNm_len hn
    refine ⟨6, rfl, S n, rfl, by rw [S_len]; exact sz_of (by omega), .str (S [c]), rfl, ?_⟩
    rw [cutS_6]
    refine ⟨S (n.take 6), S [c], rfl, rfl, by rw [S_len, S_len]; exact sz_of (by rw [List.length_take]; simp; omega), ?_⟩
    rw [S_cat]
    exact q' _ H5 ⟨_, rfl, isNm_suf hn hc⟩ d5
  obtain ⟨nl, rfl, hnl⟩ := names_of ys hP
  have hnl3 : nl.length = 3 := by rw [stV_len] at hlen; exact hlen
  have sm4 := sm3.dr d3.bag d4
  have sc4 : ScK K la ns p H4 := sc3.keep fun o ho n _ => d4.ch _ _ ho n
  have npd : ∀ {H' : Hp} {a : Addr} {xs : List V}, H' a = some (.lst xs) → H' d = some (.dK kvs) → a ≠ d := fun h1 h2 z => by rw [z, h2] at h1; cases h1
  refine ⟨.ref d, rfl, d, _, rfl, DPut.k (k := .inr "names") sm4.d (sz_lt (by have := sm4.l; omega)), ?_⟩
  have sm5 := sm4.put (x := "names") (v := .ref np) (by decide) (by decide) (by decide) (by decide)
  have vn5 : valV (putK kvs (.inr "names") (.ref np)) (.inr "names") = some (.ref np) := by rw [valV_put, if_pos rfl]
  have np5 : (upd H4 d (.dK (putK kvs (.inr "names") (.ref np)))) np = some (.lst (stV nl)) := by
    rw [upd_ne (npd h4 sm4.d)]
    exact h4
  have bg5 : BagH (upd H4 d (.dK (putK kvs (.inr "names") (.ref np)))) p (60 + 14 * 3) := by
    obtain ⟨x, y, z, e, r⟩ := d4.bag
    exact ⟨x, y, z, by rw [upd_ne (npd e sm4.d)]; exact e, r⟩
  have sc5 : ScK K la ns p (upd H4 d (.dK (putK kvs (.inr "names") (.ref np)))) := sc4.keep fun o ho _ z => by
    rw [upd_ne (fun y => by rw [y, sm4.d] at ho; rcases z with z | ⟨u, z⟩ <;> rw [z] at ho <;> cases ho)]
    exact ho
  show tSeq _ _ _ _ (upd H4 d (.dK (putK kvs (.inr "names") (.ref np))))
  generalize upd H4 d (.dK (putK kvs (.inr "names") (.ref np))) = H5 at sm5 np5 bg5 sc5
  generalize putK kvs (.inr "names") (.ref np) = kvs5 at sm5 vn5
  clear npd sm4 sc4 d4 hP h4
  -- the pool
  refine sdp_ (el_cat (ow1 (ev_dgk (ev_var rfl) sm5.d vn5) np5) (owl (el_lst (ea_cons (ev_c (v := .str (S [107, 113]))) ea_nil) (by simp))) (by rw [stV_len]; simp; omega) H5 (Ex.refl _) _ fun pp H6 hpp e6 h6 => ?_)
  have h6 : H6 pp = some (.lst (stV (nl ++ [[107, 113]]))) := by rw [← stV_app]; exact h6
  have sm6 := sm5.ex e6
  have npd : ∀ {a : Addr} {xs : List V}, H6 a = some (.lst xs) → a ≠ d := fun h1 z => by rw [z, sm6.d] at h1; cases h1
  refine ⟨.ref d, rfl, d, _, rfl, DPut.k (k := .inr "pool") sm6.d (sz_lt (by have := sm6.l; omega)), ?_⟩
  have sm7 := sm6.put (x := "pool") (v := .ref pp) (by decide) (by decide) (by decide) (by decide)
  have vn7 : valV (putK kvs5 (.inr "pool") (.ref pp)) (.inr "names") = some (.ref np) := by rw [valV_put, if_neg (by decide)]; exact vn5
  have vp7 : valV (putK kvs5 (.inr "pool") (.ref pp)) (.inr "pool") = some (.ref pp) := by rw [valV_put, if_pos rfl]
  have np7 : (upd H6 d (.dK (putK kvs5 (.inr "pool") (.ref pp)))) np = some (.lst (stV nl)) := by
    rw [upd_ne (npd (e6 _ _ np5))]
    exact e6 _ _ np5
  have pp7 : (upd H6 d (.dK (putK kvs5 (.inr "pool") (.ref pp)))) pp = some (.lst (stV (nl ++ [[107, 113]]))) := by
    rw [upd_ne (npd h6)]
    exact h6
  have bg7 : BagH (upd H6 d (.dK (putK kvs5 (.inr "pool") (.ref pp)))) p (60 + 14 * 3) := by
    obtain ⟨x, y, z, e, r⟩ := bg5
    exact ⟨x, y, z, by rw [upd_ne (npd (e6 _ _ e))]; exact e6 _ _ e, r⟩
  have sc7 : ScK K la ns p (upd H6 d (.dK (putK kvs5 (.inr "pool") (.ref pp)))) := sc5.keep fun o ho _ z => by
    have ho := e6 _ _ ho
    rw [upd_ne (fun y => by rw [y, sm6.d] at ho; rcases z with z | ⟨u, z⟩ <;> rw [z] at ho <;> cases ho)]
    exact ho
  show tSeq _ _ _ _ (upd H6 d (.dK (putK kvs5 (.inr "pool") (.ref pp))))
  generalize upd H6 d (.dK (putK kvs5 (.inr "pool") (.ref pp))) = H7 at sm7 np7 pp7 bg7 sc7
  generalize putK kvs5 (.inr "pool") (.ref pp) = kvs7 at sm7 vn7 vp7
  clear npd sm6 h6 e6 bg5 sc5 np5 vn5 sm5 hpp
  have hs7 : StH H7 ⟨d, sp, fp, np, pp, [(b1, n1, i1)]⟩ st0 cn cv nl (nl ++ [[107, 113]]) := by
    refine ⟨⟨kvs7, sm7.d, Nat.le_trans sm7.l (by decide), sm7.v1, sm7.v2, sm7.v3, sm7.v4, vn7, vp7⟩, np7, pp7, wf, ⟨fun z => (by rw [z] at hnl3; cases hnl3), by omega, hnl⟩, ⟨by simp, by rw [List.length_append, hnl3]; decide, fun n hn => ?_⟩, sm7.s, ⟨rfl, fun i t b h1 h2 => ?_⟩, by simp, ⟨sm7.f, fun _ h => by cases h⟩, by decide, by decide, by decide, fun b hb => ?_⟩
    · rcases List.mem_append.mp hn with hn | hn
      · exact hnl n hn
      · rw [List.mem_singleton] at hn
        rw [hn]
        decide
    · cases i with
      | zero =>
        obtain rfl := Option.some.inj h1
        obtain rfl := Option.some.inj h2
        exact ⟨sm7.b, sm7.n, sm7.i, fun _ h => (by cases h), fun _ h => (by cases h)⟩
      | succ i => simp at h1
    · have hb : b = ⟨.test, .rows, [], []⟩ := by simpa [st0] using hb
      rw [hb]
      exact ⟨by decide, by decide⟩
  generalize nl ++ [[107, 113]] = pl at hs7
  clear sm7 np7 pp7 vn7 vp7
  -- lines, due, most
  refine par_3 (el_lst (ea_cons (ev_c (v := .str (S testA))) ea_nil) (by simp) H7 (Ex.refl _) _ fun ll H8 hll e8 h8 => ?_)
  have hs8 := hs7.ex e8
  have bg8 := bg7.ex e8
  have sc8 : ScK K la ns p H8 := sc7.keep fun o ho _ _ => e8 _ _ ho
  have lc8 : LC K la ns p ll d cn cv nl pl (60 + 14 * 3) [testA] st0 ⟨d, sp, fp, np, pp, [(b1, n1, i1)]⟩ H8 := ⟨sc8, bg8, hs8, rfl, h8, [], rfl⟩
  clear hs8 bg8 sc8 hs7 bg7 sc7 h8
  refine ⟨.ref p, rfl, lst3 ?_⟩
  refine do_take (n := 20) lc8.bag (ev_var rfl) ev_c (by decide) (by decide) (by decide) fun k H9 k0 k1 d9 => ⟨12, k, rfl, rfl, by decide, fun ml hml => ?_⟩
  have lc9 := (lc8.dr d9).ex (Ex.new (o := .lst [.int 46, .int 46, .int (12 + k)]) hml)
  refine ⟨_, _, rfl, p, _, rfl, lc9.bag, by decide, .inl ⟨ml, _, rfl, upd_same, fun z => ?_, by simp, by simp, fun mv H10 hmv d10 => ⟨_, _, _, rfl, ?_⟩⟩⟩
  · obtain ⟨x, y, u, e, _⟩ := d9.bag
    rw [z, e] at hml
    cases hml
  have lc10 := lc9.dr d10
  obtain ⟨most, rfl, hmost⟩ : ∃ most : Int, mv = .int most ∧ most ≤ 46 := by
    simp only [List.mem_cons, List.not_mem_nil, or_false] at hmv
    rcases hmv with rfl | rfl | rfl
    · exact ⟨46, rfl, by decide⟩
    · exact ⟨46, rfl, by decide⟩
    · exact ⟨12 + k, rfl, by omega⟩
  refine asg_d (do_take (n := 2) lc10.bag (ev_var rfl) ev_c (by decide) (by decide) (by decide) fun wi H11 w0 w1 d11 => ⟨rfl, ?_⟩)
  have lc11 := lc10.dr d11
  generalize decide (V.int wi = V.int 0) = wild
  clear lc8 lc9 lc10 d9 d10 d11 hml hmv
  refine q_wh (LawW K la ns p ll d cn cv nl pl (i : Int) _ most wild) 45 ⟨[.test], [testA], st0, _, .non, o9, o10, o11, o12, rfl, by decide, rfl, .inl rfl, LP.first, lc11.le (by decide)⟩ ?_
  clear lc11
  rintro mw σ1 H12 ⟨Ls, L, st, A, due, o9, o10, o11, o12, rfl, hL46, rfl, hdu, lp, lc⟩
  obtain ⟨dA, spA, fpA, npA, ppA, bsA⟩ := A
  obtain rfl : dA = d := lc.ad
  refine do_cond lc.st lc.bag (by omega) lc.ll rfl rfl rfl rfl fun b H13 hb1 d1 => ?_
  have lc1 := lc.dr d1
  cases b with
  | false =>
    rw [if_neg (by decide)]
    refine cut_d (fun σ' H' => σ' = [some (.ref la), some (.int (i : Int)), some (.ref p), some (.ref dA), o4, some (.ref ll), some (due2 st due L.length), some (.int most), some (.bl wild), o9, o10, o11, o12] ∧ LC K la ns p ll dA cn cv nl pl (1000 + 100 * L.length + 1) L st ⟨dA, spA, fpA, npA, ppA, bsA⟩ H') ?_ fun σ2 H14 ⟨hσ, lc2⟩ => ?_
    · refine s_when (b := decide (due = .non) && !decide (st.stk = [])) (et_and (et_test (ev_op (ev_var rfl) ev_c rv_isN)) fun _ => et_test (ev_stk1 lc1.st (ev_var rfl))) (fun hb H14 e14 => ?_) fun hb H14 e14 => ?_
      · refine s_asg (ev_len (ev_var rfl) (sq_of (lc1.ex e14).ll)) fun H15 e15 => ⟨?_, (lc1.ex e14).ex e15⟩
        unfold due2
        rw [if_pos hb, stV_len]
        rfl
      · refine ⟨?_, lc1.ex e14⟩
        unfold due2
        rw [if_neg (ne_true_of_eq_false hb)]
    · subst hσ
      have hz : (L.map (·.length)).sum ≤ L.length * 300 := sum_len L fun x hx => (lp.fr x hx).1
      have hz2 := joinL_len1 L 300 fun x hx => (lp.fr x hx).1
      have hLne : L ≠ [] := by
        obtain ⟨L', e⟩ := lc2.hd
        rw [e]
        simp
      refine if_ne (ev_joinE (sep := [10]) (ev_var rfl) lc2.ll (by simp only [List.length_cons, List.length_nil]; omega) H14 (Ex.refl _) _ fun H15 e15 => ?_)
      refine ⟨rfl, rfl, fun fa H16 hfa e16 fam => ?_⟩
      refine ⟨_, _, rfl, fa, TL.joinL [10] L, Ls, L, rfl, split_lines hLne lp.fr, Nat.le_trans (show _ ≤ 100000 by omega) (by decide), lp.tx, lp.h0, rfl, fam, fun v H17 hv e17 => ?_⟩
      obtain rfl := lp.last hv
      have hsc : scal (due2 st due L.length) (due2 st due L.length) = true := by
        rcases due2_sc (st := st) (n := L.length) hdu with e | ⟨j, e⟩ <;> rw [e] <;> rfl
      refine ⟨_, rfl, hsc, _, rfl, ?_⟩
      rw [decide_eq_true rfl, if_neg (by decide)]
      exact ⟨(((lc2.ex e15).ex e16).ex e17).sc.sq, _, _, _, _, _, _, _, _, _, _, _, _, rfl⟩
  | true =>
    rw [if_pos rfl]
    have hlt : L.length < 46 := by
      have := hb1 rfl
      omega
    refine ⟨LawW K la ns p ll dA cn cv nl pl (i : Int) o4 most wild (46 - (L.length + 1)), fun σ2 H2 h => ⟨46 - (L.length + 1), by omega, h⟩, ?_⟩
    -- four lines
    refine asg_d (do_lcN (n := 4) (c := 15) (P := fun v H => LineV H v) d1.bag (ea_cons ev_c ea_nil) (by decide) (fun x => rfl) (fun v H1 H2 h n => h.nl n) (fun j H14 hj d2 Q' q' => ?_) (fun sl xs H14 hsl h14 hlen hP d2 => ?_))
    · exact ⟨.ref p, rfl, .ref dA, rfl, _, _, rfl, p, _, dA, cn, cv, nl, pl, rfl, rfl, d2.bag, by omega, (lc1.dr d2).st.nm, fun v H15 lv d3 => q' v H15 lv d3⟩
    have lc2 := lc1.dr d2
    have nsl : sl ≠ p := d1.bag.fresh hsl
    have hxn : xs ≠ [] := fun z => by rw [z] at hlen; cases hlen
    -- those that stand
    obtain ⟨ys, hys, hev⟩ := do_lcF (K := K) (σ := [some (.ref la), some (.int (i : Int)), some (.ref p), some (.ref dA), o4, some (.ref ll), some due, some (.int most), some (.bl wild), some (.ref sl), o10, o11, o12]) (H := H14) (j := 12) (vs := [12]) (tl := tVar 9) (tt := tB (tF sp_stands E0 (tCons (tVar 3) (tCons (tVar 12) tNil)))) (a := sl) (xs := xs) (ev_var rfl) (sq_of h14) (by omega) (fun x => rfl) (fun x => rfl) fun x hx => by
      obtain ⟨qx, lx, tx, rfl, hqx, ltx⟩ := hP x hx
      exact ⟨standsA st lx.kd.1 lx.kd.2.1 lx.kd.2.2, et_B (ev_sp2 (ev_var rfl) (ev_var rfl) fun H1 ex Q' q' => ⟨_, st, cn, cv, nl, pl, qx, lx.kd.1, lx.kd.2.1, lx.kd.2.2, S tx, rfl, rfl, ex _ _ hqx, lc2.st.ex ex, q'⟩)⟩
    refine q_asgL hev fun fl H15 hfl e15 h15 => ?_
    have lc3 := lc2.ex e15
    -- the line that is taken
    refine asg_d (do_pick lc3.bag (by omega) rfl rfl rfl rfl h15 (e15 _ _ h14) (lc2.bag.fresh hfl) nsl (fun v hv => (hP v hv).nl (Ex.nl e15)) hys hxn fun v H16 hv d3 => ?_)
    have lc4 := lc3.dr d3
    obtain ⟨qv, l, tx, rfl, hq0, lt⟩ := hP v hv
    have hq16 : H16 qv = some (.tup [.str l.kd.1, .str l.kd.2.1, .str l.kd.2.2, .str (S tx)]) := (d3.nl lc3.bag) _ _ (e15 _ _ hq0) (fun _ z => by cases z)
    clear hev hys hP hv hq0 h14 h15 hfl hsl nsl hxn lc1 lc2 lc3 d1 d2 d3 e15 hlen
    -- what is due
    refine cut_d (fun σ' H' => σ' = [some (.ref la), some (.int (i : Int)), some (.ref p), some (.ref dA), o4, some (.ref ll), some (due1 st due L.length l.kd.1 l.kd.2.1 l.kd.2.2), some (.int most), some (.bl wild), some (.ref sl), o10, some (.ref fl), some (.ref qv)] ∧ LC K la ns p ll dA cn cv nl pl (1000 + 100 * (L.length + 1)) L st ⟨dA, spA, fpA, npA, ppA, bsA⟩ H' ∧ H' qv = some (.tup [.str l.kd.1, .str l.kd.2.1, .str l.kd.2.2, .str (S tx)])) ?_ fun σ2 H17 ⟨hσ, lc5, hq17⟩ => ?_
    · refine s_when (b := decide (due = .non) && !standsA st l.kd.1 l.kd.2.1 l.kd.2.2) (et_and (et_test (ev_op (ev_var rfl) ev_c rv_isN)) fun _ => et_not (et_B (ev_sp2 (ev_var rfl) (ev_var rfl) fun H1 ex Q' q' => ⟨_, st, cn, cv, nl, pl, qv, _, _, _, S tx, rfl, rfl, ex _ _ hq16, lc4.st.ex ex, q'⟩))) (fun hb H17 e17 => ?_) fun hb H17 e17 => ?_
      · refine s_asg (ev_len (ev_var rfl) (sq_of (lc4.ex e17).ll)) fun H18 e18 => ⟨?_, ((lc4.ex e17).ex e18).le (by omega), (e17.trans e18) _ _ hq16⟩
        unfold due1
        rw [if_pos hb, stV_len]
        rfl
      · refine ⟨?_, (lc4.ex e17).le (by omega), e17 _ _ hq16⟩
        unfold due1
        rw [if_neg (ne_true_of_eq_false hb)]
        rfl
    subst hσ
    -- what it changes
    refine cut_d (fun σ' H' => σ' = [some (.ref la), some (.int (i : Int)), some (.ref p), some (.ref dA), o4, some (.ref ll), some (due1 st due L.length l.kd.1 l.kd.2.1 l.kd.2.2), some (.int most), some (.bl wild), some (.ref sl), o10, some (.ref fl), some (.ref qv)] ∧ ∃ A', LC K la ns p ll dA cn cv nl pl (1000 + 100 * (L.length + 1)) L (st1 st (due1 st due L.length l.kd.1 l.kd.2.1 l.kd.2.2) l) A' H' ∧ H' qv = some (.tup [.str l.kd.1, .str l.kd.2.1, .str l.kd.2.2, .str (S tx)])) ?_ fun σ2 H18 ⟨hσ, A', lc6, hq18⟩ => ?_
    · refine s_when (b := decide (due1 st due L.length l.kd.1 l.kd.2.1 l.kd.2.2 = .non)) (et_test (ev_op (ev_var rfl) ev_c rv_isN)) (fun hb H18 e18 => ?_) fun hb H18 e18 => ?_
      · have hb := of_decide_eq_true hb
        have hst := due1_stands lt.nt lt.wf hb
        have hne : st.stk ≠ [] := by
          obtain ⟨_, s', b', e, _⟩ := hst
          rw [e]
          simp
        have lc6 := lc5.ex e18
        refine ⟨.ref dA, rfl, .ref qv, rfl, _, _, rfl, _, st, cn, cv, nl, pl, qv, l, S tx, rfl, rfl, e18 _ _ hq17, lt.nt, lt.wf, hst, lc6.st, fun A' H19 hd hs ch => ⟨rfl, A', ?_, ?_⟩⟩
        · unfold st1
          rw [if_pos hb]
          exact lc6.after hne ch hs hd
        · exact MA_keep lc6.st hne ch (e18 _ _ hq17) (fun _ z => by cases z) (fun _ _ z => by cases z) (fun _ _ _ _ z => by cases z)
      · refine ⟨rfl, ⟨dA, spA, fpA, npA, ppA, bsA⟩, ?_, e18 _ _ hq17⟩
        unfold st1
        rw [if_neg (of_decide_eq_false hb)]
        exact lc5.ex e18
    subst hσ
    -- its text
    refine s_app lc6.ll (ev_var rfl) (ev_op (ev_var rfl) ev_c (rv_ixT (v := .str (S tx)) (st_of hq18) rfl)) (by rw [stV_len]; omega) fun H19 e19 => ?_
    have hap : stV L ++ [V.str (S tx)] = stV (L ++ [tx]) := by rw [← stV_app]; rfl
    rw [hap]
    refine ⟨Ls ++ [l], L ++ [tx], _, A', _, _, _, _, _, by rw [List.length_append]; rfl, by rw [List.length_append]; simp only [List.length_cons, List.length_nil]; omega, rfl, due1_sc hdu, lp.next lt, ?_⟩
    rw [List.length_append]
    exact (lc6.ex e19).app tx
end WP
set_option Elab.async false
set_option linter.all false
set_option maxRecDepth 100000
set_option maxHeartbeats 0
/-! the claim -/
namespace WP
open PySem PySem.Spec PyProof.Rows L2
theorem facts {w : World} {K : PySem.W.Frag} {h : Heap} {mg : Str → Option Value} {f : Addr} (X : K.In h) (G : h.Ns mainGlobals mg) (hfa : mg ("law" : Str) = some (.ref f)) (c : SaysW K) :
    ∃ fd : FuncData, (∀ (s : Shared) (v : Value), BindsTo s fd ⟨[v], []⟩ [("_law_script", v)]) ∧ ∀ base : Heap, K.In base → base.Ns mainGlobals mg → FnOk PW w K mg base CX0 61 f fd ["_law_script"] (sp_law (K := K)) := by
  have T : TT K mg := ⟨c, h, X, G⟩
  obtain ⟨fd, F⟩ := f_law T
  have e : f = d_law.at_ K := by
    have e := hfa.symm.trans (g_law T)
    exact Value.ref.inj (Option.some.inj e)
  subst e
  have b := FunD.bindsA (ps := ["_law_script"]) F fun _ _ _ _ _ _ us hl => match us, hl with | [_], _ => rfl
  exact ⟨fd, fun s v => b s [v] rfl, fun base _ _ => law_ok T F⟩
end WP
open PySem PySem.W PySem.Calls PyProof.Rows
theorem PySem.Challenge.cw_whatpasses_k23_whole_first_wrong_line_holds : PySem.Challenge.rw_whatpasses_k23_whole_first_wrong_line.Holds := by
  w_on; o_law
  refine HandSHeadRun.head_any (r := OpenLaw.row PySem.Challenge.rw_whatpasses_k23_whole_first_wrong_line) (q := view (OpenLaw.row PySem.Challenge.rw_whatpasses_k23_whole_first_wrong_line).prog [87]) (H := WP.hk) (ob := WP.ob) (M := 8000) (loose := WP.loose) (d := HandSHeadRun.topDef (OpenLaw.row PySem.Challenge.rw_whatpasses_k23_whole_first_wrong_line).prog 87) (kwd := []) WP.ob_eq
    (by kernel_rfl) (fun s => by kernel_rfl) WP.run (by kernel_rfl) (by kernel_rfl) (by kernel_rfl) (by rfl) (by first | assumption | decide +kernel) (by decide +kernel) ⟨rfl, rfl, rfl, rfl, rfl, by decide +kernel⟩ ?hw ?hc
  case hw => w_witness2
  case hc =>
    refine L2.walk_ofE (l := PySem.Challenge.rw_whatpasses_k23_whole_first_wrong_line) (n := 63) (k := 61) (x := "_law_script") (CX := L2.CX0) rfl (by decide) (by kernel_rfl) ⟨rfl, by decide, by decide⟩ ?F (fun _ _ _ _ z => z)
    intro w mg fa h Y G hmg0
    obtain ⟨K, KX, c⟩ := Y
    have hmg : mg ("law" : PySem.Str) = some (.ref fa) := by
      have e : (HandSHeadRun.topDef (OpenLaw.row PySem.Challenge.rw_whatpasses_k23_whole_first_wrong_line).prog 87).name = ("law" : PySem.Str) := by kernel_rfl
      rw [← e]
      exact hmg0
    obtain ⟨fd, hb, hF⟩ := WP.facts (w := w) KX G hmg c
    exact ⟨K, fd, WP.sp_law (K := K), KX, hb, fun H a ns hl _ hS => ⟨.ref a, rfl, a, ns, rfl, hS, fun _ => rfl⟩, hF⟩
