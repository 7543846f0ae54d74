import PyProof.Rows.All
import Wide.All
import OpenK.AllK
import Wide.FinOn
import PyProof.EqAt
import PyProof.EqKinds
import PyProof.TupleCall
import HandS.ForMost
import HandS.ForExc
import HandS.ExcInit
import HandS.Defaults
import HandS.Evl
import HandS.ClsMeth
import HandS.IsInst
import HandS.ExcIs
import HandS.ExcField
import HandS.TryMany
import HandS.HotCalls
import HandS.TupAny
import HandS.Codes
import HandS.Wide
import HandS.HeadHook1
import HandS.HeadHook2
import HandS.HeadNt
import KE.KExcInit
import KE.KStateDown
import Lean
import HandS.Head0
import HandS.Head1
import HandS.Head2
import HandS.HeadEnd
import KE.KExcIs
import HandS.Steps
import PySem.Challenge.RW_ownersagree_k23_whole_first_error
set_option Elab.async false
set_option linter.all false
set_option maxRecDepth 100000
set_option maxHeartbeats 4000000
/-! the text by places, the scopes, what the head tells (printed by gen_base.py) -/
namespace K23
open PySem PySem.Spec PyProof.Rows L2
def topS (i : Nat) : Stmt := PySem.Challenge.pw_ownersagree_k23_whole_first_error.main.body.getD i (.Pass ⟨0, 0, 0, 0⟩)
abbrev s_BadLine_init : Stmt := inClass (topS 3) 0
abbrev s_DuplicateName_init : Stmt := inClass (topS 4) 0
abbrev s_UnknownName_init : Stmt := inClass (topS 5) 0
abbrev s_WrongTable_init : Stmt := inClass (topS 6) 0
abbrev s_WrongCount_init : Stmt := inClass (topS 7) 0
abbrev s_TooMany_init : Stmt := inClass (topS 8) 0
abbrev s_is_name : Stmt := topS 14
abbrev s_is_value : Stmt := topS 15
abbrev s_is_constant : Stmt := topS 16
abbrev s_split_words : Stmt := topS 17
abbrev s_all_names : Stmt := topS 18
abbrev s_is_path : Stmt := topS 19
abbrev s_is_term : Stmt := topS 20
abbrev s_split_term : Stmt := topS 25
abbrev s_Names_init : Stmt := inClass (topS 26) 0
abbrev s_Names_check_new : Stmt := inClass (topS 26) 1
abbrev s_Names_add_row : Stmt := inClass (topS 26) 2
abbrev s_Names_add_value : Stmt := inClass (topS 26) 3
abbrev s_Names_check_row : Stmt := inClass (topS 26) 4
abbrev s_Names_check_any_row : Stmt := inClass (topS 26) 5
abbrev s_Names_table_of : Stmt := inClass (topS 26) 6
abbrev s_Names_check_term : Stmt := inClass (topS 26) 7
abbrev s_read_parameter : Stmt := topS 27
abbrev s_is_test : Stmt := topS 28
abbrev s_read_test : Stmt := topS 29
abbrev s_Handler_init : Stmt := inClass (topS 31) 4
abbrev s_Handler_read : Stmt := inClass (topS 31) 5
abbrev s_read_first : Stmt := topS 32
abbrev s_read_line_handlers : Stmt := topS 33
abbrev s_read_deed : Stmt := topS 35
abbrev s_read_new : Stmt := topS 36
abbrev s_read_move : Stmt := topS 37
abbrev s_read_set : Stmt := topS 38
abbrev s_read_each : Stmt := topS 39
abbrev s_Schema_init : Stmt := inClass (topS 41) 3
abbrev s_Schema_read : Stmt := inClass (topS 41) 4
abbrev s_Schema_check_table : Stmt := inClass (topS 41) 7
abbrev s_Schema_columns : Stmt := inClass (topS 41) 8
abbrev s_Schema_parent_of : Stmt := inClass (topS 41) 9
abbrev s_Schema_chain_of : Stmt := inClass (topS 41) 10
abbrev s_Schema_check_position : Stmt := inClass (topS 41) 15
abbrev s_read_line_schemas : Stmt := topS 42
abbrev s_read_table : Stmt := topS 44
abbrev s_law_schema_of : Stmt := topS 48
abbrev s_law_forest : Stmt := topS 49
abbrev s_law_get_named : Stmt := topS 50
abbrev s_law_handler_told : Stmt := topS 51
abbrev s_law_get_state : Stmt := topS 52
abbrev s_law_draw : Stmt := topS 53
abbrev s_law_get_words : Stmt := topS 54
abbrev s_law_get_chain : Stmt := topS 55
abbrev s_law_table_line : Stmt := topS 56
abbrev s_law_soup_term : Stmt := topS 57
abbrev s_law_soup_line : Stmt := topS 58
abbrev s_law_term_error : Stmt := topS 59
abbrev s_law_line_names : Stmt := topS 60
abbrev s_law_name_error : Stmt := topS 61
abbrev s_law_fit_error : Stmt := topS 62
abbrev s_law_line_error : Stmt := topS 63
abbrev s_law : Stmt := topS 64
theorem sc_BadLine_init : FnScope ["self", "line"] ["self", "line"] (defScope s_BadLine_init) := ⟨rfl, rfl, rfl, by decide +kernel, rfl, by decide +kernel, by decide +kernel⟩
theorem sc_DuplicateName_init : FnScope ["self", "line", "name"] ["self", "line", "name"] (defScope s_DuplicateName_init) := ⟨rfl, rfl, rfl, by decide +kernel, rfl, by decide +kernel, by decide +kernel⟩
theorem sc_UnknownName_init : FnScope ["self", "line", "name"] ["self", "line", "name"] (defScope s_UnknownName_init) := ⟨rfl, rfl, rfl, by decide +kernel, rfl, by decide +kernel, by decide +kernel⟩
theorem sc_WrongTable_init : FnScope ["self", "line", "name"] ["self", "line", "name"] (defScope s_WrongTable_init) := ⟨rfl, rfl, rfl, by decide +kernel, rfl, by decide +kernel, by decide +kernel⟩
theorem sc_WrongCount_init : FnScope ["self", "line"] ["self", "line"] (defScope s_WrongCount_init) := ⟨rfl, rfl, rfl, by decide +kernel, rfl, by decide +kernel, by decide +kernel⟩
theorem sc_TooMany_init : FnScope ["self", "line"] ["self", "line"] (defScope s_TooMany_init) := ⟨rfl, rfl, rfl, by decide +kernel, rfl, by decide +kernel, by decide +kernel⟩
theorem sc_is_name : FnScope ["word", "sign"] ["word"] (defScope s_is_name) := ⟨rfl, rfl, rfl, by decide +kernel, rfl, by decide +kernel, by decide +kernel⟩
theorem sc_is_value : FnScope ["thing", "sign"] ["thing"] (defScope s_is_value) := ⟨rfl, rfl, rfl, by decide +kernel, rfl, by decide +kernel, by decide +kernel⟩
theorem sc_is_constant : FnScope ["thing"] ["thing"] (defScope s_is_constant) := ⟨rfl, rfl, rfl, by decide +kernel, rfl, by decide +kernel, by decide +kernel⟩
theorem sc_split_words : FnScope ["line", "words"] ["line"] (defScope s_split_words) := ⟨rfl, rfl, rfl, by decide +kernel, rfl, by decide +kernel, by decide +kernel⟩
theorem sc_all_names : FnScope ["words", "word"] ["words"] (defScope s_all_names) := ⟨rfl, rfl, rfl, by decide +kernel, rfl, by decide +kernel, by decide +kernel⟩
theorem sc_is_path : FnScope ["word", "least", "names"] ["word", "least"] (defScope s_is_path) := ⟨rfl, rfl, rfl, by decide +kernel, rfl, by decide +kernel, by decide +kernel⟩
theorem sc_is_term : FnScope ["word"] ["word"] (defScope s_is_term) := ⟨rfl, rfl, rfl, by decide +kernel, rfl, by decide +kernel, by decide +kernel⟩
theorem sc_split_term : FnScope ["term", "name", "dot", "position"] ["term"] (defScope s_split_term) := ⟨rfl, rfl, rfl, by decide +kernel, rfl, by decide +kernel, by decide +kernel⟩
theorem sc_Names_init : FnScope ["self", "schema"] ["self", "schema"] (defScope s_Names_init) := ⟨rfl, rfl, rfl, by decide +kernel, rfl, by decide +kernel, by decide +kernel⟩
theorem sc_Names_check_new : FnScope ["self", "line", "name"] ["self", "line", "name"] (defScope s_Names_check_new) := ⟨rfl, rfl, rfl, by decide +kernel, rfl, by decide +kernel, by decide +kernel⟩
theorem sc_Names_add_row : FnScope ["self", "line", "name", "table"] ["self", "line", "name", "table"] (defScope s_Names_add_row) := ⟨rfl, rfl, rfl, by decide +kernel, rfl, by decide +kernel, by decide +kernel⟩
theorem sc_Names_add_value : FnScope ["self", "line", "name"] ["self", "line", "name"] (defScope s_Names_add_value) := ⟨rfl, rfl, rfl, by decide +kernel, rfl, by decide +kernel, by decide +kernel⟩
theorem sc_Names_check_row : FnScope ["self", "line", "name"] ["self", "line", "name"] (defScope s_Names_check_row) := ⟨rfl, rfl, rfl, by decide +kernel, rfl, by decide +kernel, by decide +kernel⟩
theorem sc_Names_check_any_row : FnScope ["self", "line", "name"] ["self", "line", "name"] (defScope s_Names_check_any_row) := ⟨rfl, rfl, rfl, by decide +kernel, rfl, by decide +kernel, by decide +kernel⟩
theorem sc_Names_table_of : FnScope ["self", "name"] ["self", "name"] (defScope s_Names_table_of) := ⟨rfl, rfl, rfl, by decide +kernel, rfl, by decide +kernel, by decide +kernel⟩
theorem sc_Names_check_term : FnScope ["self", "line", "term", "parts"] ["self", "line", "term"] (defScope s_Names_check_term) := ⟨rfl, rfl, rfl, by decide +kernel, rfl, by decide +kernel, by decide +kernel⟩
theorem sc_read_parameter : FnScope ["names", "line", "words"] ["names", "line", "words"] (defScope s_read_parameter) := ⟨rfl, rfl, rfl, by decide +kernel, rfl, by decide +kernel, by decide +kernel⟩
theorem sc_is_test : FnScope ["words", "word"] ["words", "word"] (defScope s_is_test) := ⟨rfl, rfl, rfl, by decide +kernel, rfl, by decide +kernel, by decide +kernel⟩
theorem sc_read_test : FnScope ["names", "tests", "line", "words"] ["names", "tests", "line", "words"] (defScope s_read_test) := ⟨rfl, rfl, rfl, by decide +kernel, rfl, by decide +kernel, by decide +kernel⟩
theorem sc_Handler_init : FnScope ["self", "schema", "text"] ["self", "schema", "text"] (defScope s_Handler_init) := ⟨rfl, rfl, rfl, by decide +kernel, rfl, by decide +kernel, by decide +kernel⟩
theorem sc_Handler_read : FnScope ["schema", "text", "handler", "at", "line"] ["schema", "text"] (defScope s_Handler_read) := ⟨rfl, rfl, rfl, by decide +kernel, rfl, by decide +kernel, by decide +kernel⟩
theorem sc_read_first : FnScope ["handler", "words"] ["handler", "words"] (defScope s_read_first) := ⟨rfl, rfl, rfl, by decide +kernel, rfl, by decide +kernel, by decide +kernel⟩
theorem sc_read_line_handlers : FnScope ["handler", "line", "text", "words", "form", "part"] ["handler", "line", "text"] (defScope s_read_line_handlers) := ⟨rfl, rfl, rfl, by decide +kernel, rfl, by decide +kernel, by decide +kernel⟩
theorem sc_read_deed : FnScope ["handler", "line", "form", "words"] ["handler", "line", "form", "words"] (defScope s_read_deed) := ⟨rfl, rfl, rfl, by decide +kernel, rfl, by decide +kernel, by decide +kernel⟩
theorem sc_read_new : FnScope ["handler", "line", "words", "under", "start", "names", "terms", "known", "term", "parent"] ["handler", "line", "words"] (defScope s_read_new) := ⟨rfl, rfl, rfl, by decide +kernel, rfl, by decide +kernel, by decide +kernel⟩
theorem sc_read_move : FnScope ["handler", "line", "name", "target", "known", "parent"] ["handler", "line", "name", "target"] (defScope s_read_move) := ⟨rfl, rfl, rfl, by decide +kernel, rfl, by decide +kernel, by decide +kernel⟩
theorem sc_read_set : FnScope ["handler", "line", "words", "names", "known"] ["handler", "line", "words"] (defScope s_read_set) := ⟨rfl, rfl, rfl, by decide +kernel, rfl, by decide +kernel, by decide +kernel⟩
theorem sc_read_each : FnScope ["handler", "line", "words", "known"] ["handler", "line", "words"] (defScope s_read_each) := ⟨rfl, rfl, rfl, by decide +kernel, rfl, by decide +kernel, by decide +kernel⟩
theorem sc_Schema_init : FnScope ["self", "text"] ["self", "text"] (defScope s_Schema_init) := ⟨rfl, rfl, rfl, by decide +kernel, rfl, by decide +kernel, by decide +kernel⟩
theorem sc_Schema_read : FnScope ["text", "schema", "at", "line"] ["text"] (defScope s_Schema_read) := ⟨rfl, rfl, rfl, by decide +kernel, rfl, by decide +kernel, by decide +kernel⟩
theorem sc_Schema_check_table : FnScope ["self", "table", "line"] ["self", "table", "line"] (defScope s_Schema_check_table) := ⟨rfl, rfl, rfl, by decide +kernel, rfl, by decide +kernel, by decide +kernel⟩
theorem sc_Schema_columns : FnScope ["self", "table"] ["self", "table"] (defScope s_Schema_columns) := ⟨rfl, rfl, rfl, by decide +kernel, rfl, by decide +kernel, by decide +kernel⟩
theorem sc_Schema_parent_of : FnScope ["self", "table"] ["self", "table"] (defScope s_Schema_parent_of) := ⟨rfl, rfl, rfl, by decide +kernel, rfl, by decide +kernel, by decide +kernel⟩
theorem sc_Schema_chain_of : FnScope ["self", "table", "found"] ["self", "table"] (defScope s_Schema_chain_of) := ⟨rfl, rfl, rfl, by decide +kernel, rfl, by decide +kernel, by decide +kernel⟩
theorem sc_Schema_check_position : FnScope ["self", "line", "table", "names", "name", "parent"] ["self", "line", "table", "names"] (defScope s_Schema_check_position) := ⟨rfl, rfl, rfl, by decide +kernel, rfl, by decide +kernel, by decide +kernel⟩
theorem sc_read_line_schemas : FnScope ["schema", "line", "words", "form"] ["schema", "line", "words"] (defScope s_read_line_schemas) := ⟨rfl, rfl, rfl, by decide +kernel, rfl, by decide +kernel, by decide +kernel⟩
theorem sc_read_table : FnScope ["schema", "line", "table", "parent", "columns", "at", "column"] ["schema", "line", "table", "parent", "columns"] (defScope s_read_table) := ⟨rfl, rfl, rfl, by decide +kernel, rfl, by decide +kernel, by decide +kernel⟩
theorem sc_law_schema_of : FnScope ["_law_tables", "_law_t"] ["_law_tables"] (defScope s_law_schema_of) := ⟨rfl, rfl, rfl, by decide +kernel, rfl, by decide +kernel, by decide +kernel⟩
theorem sc_law_forest : FnScope ["_law_state", "_law_names", "_law_most", "_law_tables", "_law_k", "_law_parents", "_law_first", "_law_columns", "_law_c", "_law_t"] ["_law_state", "_law_names", "_law_most"] (defScope s_law_forest) := ⟨rfl, rfl, rfl, by decide +kernel, rfl, by decide +kernel, by decide +kernel⟩
theorem sc_law_get_named : FnScope ["_law_error", "_law_word"] ["_law_error", "_law_word"] (defScope s_law_get_named) := ⟨rfl, rfl, rfl, by decide +kernel, rfl, by decide +kernel, by decide +kernel⟩
theorem sc_law_handler_told : FnScope ["_law_schema", "_law_text", "e"] ["_law_schema", "_law_text"] (defScope s_law_handler_told) := ⟨rfl, rfl, rfl, by decide +kernel, rfl, by decide +kernel, by decide +kernel⟩
theorem sc_law_get_state : FnScope ["_law_script", "_law_cell"] ["_law_script"] (defScope s_law_get_state) := ⟨rfl, rfl, rfl, by decide +kernel, rfl, by decide +kernel, by decide +kernel⟩
theorem sc_law_draw : FnScope ["_law_st", "_law_limit", "_law_cell", "_law_digit"] ["_law_st", "_law_limit"] (defScope s_law_draw) := ⟨rfl, rfl, rfl, by decide +kernel, rfl, by decide +kernel, by decide +kernel⟩
theorem sc_law_get_words : FnScope ["_law_st", "_law_most", "_law_count", "_law_signs", "_law_size", "_law_place", "_law_fill", "_law_some", "_law_first", "_law_tail", "_law_k"] ["_law_st", "_law_most", "_law_count"] (defScope s_law_get_words) := ⟨rfl, rfl, rfl, by decide +kernel, rfl, by decide +kernel, by decide +kernel⟩
theorem sc_law_get_chain : FnScope ["_law_tb", "_law_t"] ["_law_tb", "_law_t"] (defScope s_law_get_chain) := ⟨rfl, rfl, rfl, by decide +kernel, rfl, by decide +kernel, by decide +kernel⟩
theorem sc_law_table_line : FnScope ["_law_tb", "_law_t", "_law_name", "_law_parent", "_law_columns"] ["_law_tb", "_law_t"] (defScope s_law_table_line) := ⟨rfl, rfl, rfl, by decide +kernel, rfl, by decide +kernel, by decide +kernel⟩
theorem sc_law_soup_term : FnScope ["_law_state", "_law_names", "_law_columns", "_law_kind", "_law_words"] ["_law_state", "_law_names", "_law_columns"] (defScope s_law_soup_term) := ⟨rfl, rfl, rfl, by decide +kernel, rfl, by decide +kernel, by decide +kernel⟩
theorem sc_law_soup_line : FnScope ["_law_state", "_law_names", "_law_tables", "_law_columns", "_law_kind", "_law_table", "_law_row", "_law_term", "_law_column", "_law_terms", "_law_under", "_law_k"] ["_law_state", "_law_names", "_law_tables", "_law_columns"] (defScope s_law_soup_line) := ⟨rfl, rfl, rfl, by decide +kernel, rfl, by decide +kernel, by decide +kernel⟩
theorem sc_law_term_error : FnScope ["_law_tables", "_law_known", "_law_term", "_law_words", "_law_t", "_law_word"] ["_law_tables", "_law_known", "_law_term"] (defScope s_law_term_error) := ⟨rfl, rfl, rfl, by decide +kernel, rfl, by decide +kernel, by decide +kernel⟩
theorem sc_law_line_names : FnScope ["_law_tables", "_law_known", "_law_words", "_law_form", "_law_found", "_law_start", "_law_row", "_law_error", "_law_word"] ["_law_tables", "_law_known", "_law_words"] (defScope s_law_line_names) := ⟨rfl, rfl, rfl, by decide +kernel, rfl, by decide +kernel, by decide +kernel⟩
theorem sc_law_name_error : FnScope ["_law_tables", "_law_known", "_law_row", "_law_places", "_law_used", "_law_t"] ["_law_tables", "_law_known", "_law_row"] (defScope s_law_name_error) := ⟨rfl, rfl, rfl, by decide +kernel, rfl, by decide +kernel, by decide +kernel⟩
theorem sc_law_fit_error : FnScope ["_law_tables", "_law_known", "_law_words", "_law_rows", "_law_t"] ["_law_tables", "_law_known", "_law_words"] (defScope s_law_fit_error) := ⟨rfl, rfl, rfl, by decide +kernel, rfl, by decide +kernel, by decide +kernel⟩
theorem sc_law_line_error : FnScope ["_law_tables", "_law_known", "_law_words", "_law_stage", "_law_error", "_law_kind", "_law_told", "_law_t"] ["_law_tables", "_law_known", "_law_words"] (defScope s_law_line_error) := ⟨rfl, rfl, rfl, by decide +kernel, rfl, by decide +kernel, by decide +kernel⟩
theorem sc_law : FnScope ["_law_script", "_law_state", "_law_names", "_law_tables", "_law_columns", "_law_schema", "_law_lines", "_law_k", "_law_line", "_law_known", "_law_due", "_law_error", "_law_turn"] ["_law_script"] (defScope s_law) := ⟨rfl, rfl, rfl, by decide +kernel, rfl, by decide +kernel, by decide +kernel⟩
/-- the def of a static method -/
def sfd (K : PySem.W.Frag) (x m : Str) : Addr := He5.wf K (He.ga K x) "staticmethod" m
def d_BadLine_init : He.DefD := ⟨("BadLine", some "__init__"), "__init__", "BadLine.__init__", defArgs s_BadLine_init, defBody s_BadLine_init, defScope s_BadLine_init, [], []⟩
def a_BadLine_init (K : PySem.W.Frag) : Addr := He.fAd K ("BadLine", some "__init__")
def d_DuplicateName_init : He.DefD := ⟨("DuplicateName", some "__init__"), "__init__", "DuplicateName.__init__", defArgs s_DuplicateName_init, defBody s_DuplicateName_init, defScope s_DuplicateName_init, [], []⟩
def a_DuplicateName_init (K : PySem.W.Frag) : Addr := He.fAd K ("DuplicateName", some "__init__")
def d_UnknownName_init : He.DefD := ⟨("UnknownName", some "__init__"), "__init__", "UnknownName.__init__", defArgs s_UnknownName_init, defBody s_UnknownName_init, defScope s_UnknownName_init, [], []⟩
def a_UnknownName_init (K : PySem.W.Frag) : Addr := He.fAd K ("UnknownName", some "__init__")
def d_WrongTable_init : He.DefD := ⟨("WrongTable", some "__init__"), "__init__", "WrongTable.__init__", defArgs s_WrongTable_init, defBody s_WrongTable_init, defScope s_WrongTable_init, [], []⟩
def a_WrongTable_init (K : PySem.W.Frag) : Addr := He.fAd K ("WrongTable", some "__init__")
def d_WrongCount_init : He.DefD := ⟨("WrongCount", some "__init__"), "__init__", "WrongCount.__init__", defArgs s_WrongCount_init, defBody s_WrongCount_init, defScope s_WrongCount_init, [], []⟩
def a_WrongCount_init (K : PySem.W.Frag) : Addr := He.fAd K ("WrongCount", some "__init__")
def d_TooMany_init : He.DefD := ⟨("TooMany", some "__init__"), "__init__", "TooMany.__init__", defArgs s_TooMany_init, defBody s_TooMany_init, defScope s_TooMany_init, [], []⟩
def a_TooMany_init (K : PySem.W.Frag) : Addr := He.fAd K ("TooMany", some "__init__")
def d_is_name : He.DefD := ⟨("is_name", none), "is_name", "is_name", defArgs s_is_name, defBody s_is_name, defScope s_is_name, [], []⟩
def a_is_name (K : PySem.W.Frag) : Addr := He.fAd K ("is_name", none)
def d_is_value : He.DefD := ⟨("is_value", none), "is_value", "is_value", defArgs s_is_value, defBody s_is_value, defScope s_is_value, [], []⟩
def a_is_value (K : PySem.W.Frag) : Addr := He.fAd K ("is_value", none)
def d_is_constant : He.DefD := ⟨("is_constant", none), "is_constant", "is_constant", defArgs s_is_constant, defBody s_is_constant, defScope s_is_constant, [], []⟩
def a_is_constant (K : PySem.W.Frag) : Addr := He.fAd K ("is_constant", none)
def d_split_words : He.DefD := ⟨("split_words", none), "split_words", "split_words", defArgs s_split_words, defBody s_split_words, defScope s_split_words, [], []⟩
def a_split_words (K : PySem.W.Frag) : Addr := He.fAd K ("split_words", none)
def d_all_names : He.DefD := ⟨("all_names", none), "all_names", "all_names", defArgs s_all_names, defBody s_all_names, defScope s_all_names, [], []⟩
def a_all_names (K : PySem.W.Frag) : Addr := He.fAd K ("all_names", none)
def d_is_path : He.DefD := ⟨("is_path", none), "is_path", "is_path", defArgs s_is_path, defBody s_is_path, defScope s_is_path, [], []⟩
def a_is_path (K : PySem.W.Frag) : Addr := He.fAd K ("is_path", none)
def d_is_term : He.DefD := ⟨("is_term", none), "is_term", "is_term", defArgs s_is_term, defBody s_is_term, defScope s_is_term, [], []⟩
def a_is_term (K : PySem.W.Frag) : Addr := He.fAd K ("is_term", none)
def d_split_term : He.DefD := ⟨("split_term", none), "split_term", "split_term", defArgs s_split_term, defBody s_split_term, defScope s_split_term, [], []⟩
def a_split_term (K : PySem.W.Frag) : Addr := He.fAd K ("split_term", none)
def d_Names_init : He.DefD := ⟨("Names", some "__init__"), "__init__", "Names.__init__", defArgs s_Names_init, defBody s_Names_init, defScope s_Names_init, [], []⟩
def a_Names_init (K : PySem.W.Frag) : Addr := He.fAd K ("Names", some "__init__")
def d_Names_check_new : He.DefD := ⟨("Names", some "check_new"), "check_new", "Names.check_new", defArgs s_Names_check_new, defBody s_Names_check_new, defScope s_Names_check_new, [], []⟩
def a_Names_check_new (K : PySem.W.Frag) : Addr := He.fAd K ("Names", some "check_new")
def d_Names_add_row : He.DefD := ⟨("Names", some "add_row"), "add_row", "Names.add_row", defArgs s_Names_add_row, defBody s_Names_add_row, defScope s_Names_add_row, [], []⟩
def a_Names_add_row (K : PySem.W.Frag) : Addr := He.fAd K ("Names", some "add_row")
def d_Names_add_value : He.DefD := ⟨("Names", some "add_value"), "add_value", "Names.add_value", defArgs s_Names_add_value, defBody s_Names_add_value, defScope s_Names_add_value, [], []⟩
def a_Names_add_value (K : PySem.W.Frag) : Addr := He.fAd K ("Names", some "add_value")
def d_Names_check_row : He.DefD := ⟨("Names", some "check_row"), "check_row", "Names.check_row", defArgs s_Names_check_row, defBody s_Names_check_row, defScope s_Names_check_row, [], []⟩
def a_Names_check_row (K : PySem.W.Frag) : Addr := He.fAd K ("Names", some "check_row")
def d_Names_check_any_row : He.DefD := ⟨("Names", some "check_any_row"), "check_any_row", "Names.check_any_row", defArgs s_Names_check_any_row, defBody s_Names_check_any_row, defScope s_Names_check_any_row, [], []⟩
def a_Names_check_any_row (K : PySem.W.Frag) : Addr := He.fAd K ("Names", some "check_any_row")
def d_Names_table_of : He.DefD := ⟨("Names", some "table_of"), "table_of", "Names.table_of", defArgs s_Names_table_of, defBody s_Names_table_of, defScope s_Names_table_of, [], []⟩
def a_Names_table_of (K : PySem.W.Frag) : Addr := He.fAd K ("Names", some "table_of")
def d_Names_check_term : He.DefD := ⟨("Names", some "check_term"), "check_term", "Names.check_term", defArgs s_Names_check_term, defBody s_Names_check_term, defScope s_Names_check_term, [], []⟩
def a_Names_check_term (K : PySem.W.Frag) : Addr := He.fAd K ("Names", some "check_term")
def d_read_parameter : He.DefD := ⟨("read_parameter", none), "read_parameter", "read_parameter", defArgs s_read_parameter, defBody s_read_parameter, defScope s_read_parameter, [], []⟩
def a_read_parameter (K : PySem.W.Frag) : Addr := He.fAd K ("read_parameter", none)
def d_is_test : He.DefD := ⟨("is_test", none), "is_test", "is_test", defArgs s_is_test, defBody s_is_test, defScope s_is_test, [], []⟩
def a_is_test (K : PySem.W.Frag) : Addr := He.fAd K ("is_test", none)
def d_read_test : He.DefD := ⟨("read_test", none), "read_test", "read_test", defArgs s_read_test, defBody s_read_test, defScope s_read_test, [], []⟩
def a_read_test (K : PySem.W.Frag) : Addr := He.fAd K ("read_test", none)
def d_Handler_init : He.DefD := ⟨("Handler", some "__init__"), "__init__", "Handler.__init__", defArgs s_Handler_init, defBody s_Handler_init, defScope s_Handler_init, [], []⟩
def a_Handler_init (K : PySem.W.Frag) : Addr := He.fAd K ("Handler", some "__init__")
def d_Handler_read : He.DefD := ⟨("Handler", some "read"), "read", "Handler.read", defArgs s_Handler_read, defBody s_Handler_read, defScope s_Handler_read, [], []⟩
def a_Handler_read (K : PySem.W.Frag) : Addr := sfd K "Handler" "read"
def d_read_first : He.DefD := ⟨("read_first", none), "read_first", "read_first", defArgs s_read_first, defBody s_read_first, defScope s_read_first, [], []⟩
def a_read_first (K : PySem.W.Frag) : Addr := He.fAd K ("read_first", none)
def d_read_line_handlers : He.DefD := ⟨("read_line_handlers", none), "read_line", "read_line", defArgs s_read_line_handlers, defBody s_read_line_handlers, defScope s_read_line_handlers, [], []⟩
def a_read_line_handlers (K : PySem.W.Frag) : Addr := He.fAd K ("read_line_handlers", none)
def d_read_deed : He.DefD := ⟨("read_deed", none), "read_deed", "read_deed", defArgs s_read_deed, defBody s_read_deed, defScope s_read_deed, [], []⟩
def a_read_deed (K : PySem.W.Frag) : Addr := He.fAd K ("read_deed", none)
def d_read_new : He.DefD := ⟨("read_new", none), "read_new", "read_new", defArgs s_read_new, defBody s_read_new, defScope s_read_new, [], []⟩
def a_read_new (K : PySem.W.Frag) : Addr := He.fAd K ("read_new", none)
def d_read_move : He.DefD := ⟨("read_move", none), "read_move", "read_move", defArgs s_read_move, defBody s_read_move, defScope s_read_move, [], []⟩
def a_read_move (K : PySem.W.Frag) : Addr := He.fAd K ("read_move", none)
def d_read_set : He.DefD := ⟨("read_set", none), "read_set", "read_set", defArgs s_read_set, defBody s_read_set, defScope s_read_set, [], []⟩
def a_read_set (K : PySem.W.Frag) : Addr := He.fAd K ("read_set", none)
def d_read_each : He.DefD := ⟨("read_each", none), "read_each", "read_each", defArgs s_read_each, defBody s_read_each, defScope s_read_each, [], []⟩
def a_read_each (K : PySem.W.Frag) : Addr := He.fAd K ("read_each", none)
def d_Schema_init : He.DefD := ⟨("Schema", some "__init__"), "__init__", "Schema.__init__", defArgs s_Schema_init, defBody s_Schema_init, defScope s_Schema_init, [], []⟩
def a_Schema_init (K : PySem.W.Frag) : Addr := He.fAd K ("Schema", some "__init__")
def d_Schema_read : He.DefD := ⟨("Schema", some "read"), "read", "Schema.read", defArgs s_Schema_read, defBody s_Schema_read, defScope s_Schema_read, [], []⟩
def a_Schema_read (K : PySem.W.Frag) : Addr := sfd K "Schema" "read"
def d_Schema_check_table : He.DefD := ⟨("Schema", some "check_table"), "check_table", "Schema.check_table", defArgs s_Schema_check_table, defBody s_Schema_check_table, defScope s_Schema_check_table, [.int 0], []⟩
def a_Schema_check_table (K : PySem.W.Frag) : Addr := He.fAd K ("Schema", some "check_table")
def d_Schema_columns : He.DefD := ⟨("Schema", some "columns"), "columns", "Schema.columns", defArgs s_Schema_columns, defBody s_Schema_columns, defScope s_Schema_columns, [], []⟩
def a_Schema_columns (K : PySem.W.Frag) : Addr := He.fAd K ("Schema", some "columns")
def d_Schema_parent_of : He.DefD := ⟨("Schema", some "parent_of"), "parent_of", "Schema.parent_of", defArgs s_Schema_parent_of, defBody s_Schema_parent_of, defScope s_Schema_parent_of, [], []⟩
def a_Schema_parent_of (K : PySem.W.Frag) : Addr := He.fAd K ("Schema", some "parent_of")
def d_Schema_chain_of : He.DefD := ⟨("Schema", some "chain_of"), "chain_of", "Schema.chain_of", defArgs s_Schema_chain_of, defBody s_Schema_chain_of, defScope s_Schema_chain_of, [], []⟩
def a_Schema_chain_of (K : PySem.W.Frag) : Addr := He.fAd K ("Schema", some "chain_of")
def d_Schema_check_position : He.DefD := ⟨("Schema", some "check_position"), "check_position", "Schema.check_position", defArgs s_Schema_check_position, defBody s_Schema_check_position, defScope s_Schema_check_position, [], []⟩
def a_Schema_check_position (K : PySem.W.Frag) : Addr := He.fAd K ("Schema", some "check_position")
def d_read_line_schemas : He.DefD := ⟨("read_line_schemas", none), "read_line", "read_line", defArgs s_read_line_schemas, defBody s_read_line_schemas, defScope s_read_line_schemas, [], []⟩
def a_read_line_schemas (K : PySem.W.Frag) : Addr := He.fAd K ("read_line_schemas", none)
def d_read_table : He.DefD := ⟨("read_table", none), "read_table", "read_table", defArgs s_read_table, defBody s_read_table, defScope s_read_table, [], []⟩
def a_read_table (K : PySem.W.Frag) : Addr := He.fAd K ("read_table", none)
def d_law_schema_of : He.DefD := ⟨("_law_schema_of", none), "_law_schema_of", "_law_schema_of", defArgs s_law_schema_of, defBody s_law_schema_of, defScope s_law_schema_of, [], []⟩
def a_law_schema_of (K : PySem.W.Frag) : Addr := He.fAd K ("_law_schema_of", none)
def d_law_forest : He.DefD := ⟨("_law_forest", none), "_law_forest", "_law_forest", defArgs s_law_forest, defBody s_law_forest, defScope s_law_forest, [], []⟩
def a_law_forest (K : PySem.W.Frag) : Addr := He.fAd K ("_law_forest", none)
def d_law_get_named : He.DefD := ⟨("_law_get_named", none), "_law_get_named", "_law_get_named", defArgs s_law_get_named, defBody s_law_get_named, defScope s_law_get_named, [], []⟩
def a_law_get_named (K : PySem.W.Frag) : Addr := He.fAd K ("_law_get_named", none)
def d_law_handler_told : He.DefD := ⟨("_law_handler_told", none), "_law_handler_told", "_law_handler_told", defArgs s_law_handler_told, defBody s_law_handler_told, defScope s_law_handler_told, [], []⟩
def a_law_handler_told (K : PySem.W.Frag) : Addr := He.fAd K ("_law_handler_told", none)
def d_law_get_state : He.DefD := ⟨("_law_get_state", none), "_law_get_state", "_law_get_state", defArgs s_law_get_state, defBody s_law_get_state, defScope s_law_get_state, [], []⟩
def a_law_get_state (K : PySem.W.Frag) : Addr := He.fAd K ("_law_get_state", none)
def d_law_draw : He.DefD := ⟨("_law_draw", none), "_law_draw", "_law_draw", defArgs s_law_draw, defBody s_law_draw, defScope s_law_draw, [], []⟩
def a_law_draw (K : PySem.W.Frag) : Addr := He.fAd K ("_law_draw", none)
def d_law_get_words : He.DefD := ⟨("_law_get_words", none), "_law_get_words", "_law_get_words", defArgs s_law_get_words, defBody s_law_get_words, defScope s_law_get_words, [], []⟩
def a_law_get_words (K : PySem.W.Frag) : Addr := He.fAd K ("_law_get_words", none)
def d_law_get_chain : He.DefD := ⟨("_law_get_chain", none), "_law_get_chain", "_law_get_chain", defArgs s_law_get_chain, defBody s_law_get_chain, defScope s_law_get_chain, [], []⟩
def a_law_get_chain (K : PySem.W.Frag) : Addr := He.fAd K ("_law_get_chain", none)
def d_law_table_line : He.DefD := ⟨("_law_table_line", none), "_law_table_line", "_law_table_line", defArgs s_law_table_line, defBody s_law_table_line, defScope s_law_table_line, [], []⟩
def a_law_table_line (K : PySem.W.Frag) : Addr := He.fAd K ("_law_table_line", none)
def d_law_soup_term : He.DefD := ⟨("_law_soup_term", none), "_law_soup_term", "_law_soup_term", defArgs s_law_soup_term, defBody s_law_soup_term, defScope s_law_soup_term, [], []⟩
def a_law_soup_term (K : PySem.W.Frag) : Addr := He.fAd K ("_law_soup_term", none)
def d_law_soup_line : He.DefD := ⟨("_law_soup_line", none), "_law_soup_line", "_law_soup_line", defArgs s_law_soup_line, defBody s_law_soup_line, defScope s_law_soup_line, [], []⟩
def a_law_soup_line (K : PySem.W.Frag) : Addr := He.fAd K ("_law_soup_line", none)
def d_law_term_error : He.DefD := ⟨("_law_term_error", none), "_law_term_error", "_law_term_error", defArgs s_law_term_error, defBody s_law_term_error, defScope s_law_term_error, [], []⟩
def a_law_term_error (K : PySem.W.Frag) : Addr := He.fAd K ("_law_term_error", none)
def d_law_line_names : He.DefD := ⟨("_law_line_names", none), "_law_line_names", "_law_line_names", defArgs s_law_line_names, defBody s_law_line_names, defScope s_law_line_names, [], []⟩
def a_law_line_names (K : PySem.W.Frag) : Addr := He.fAd K ("_law_line_names", none)
def d_law_name_error : He.DefD := ⟨("_law_name_error", none), "_law_name_error", "_law_name_error", defArgs s_law_name_error, defBody s_law_name_error, defScope s_law_name_error, [], []⟩
def a_law_name_error (K : PySem.W.Frag) : Addr := He.fAd K ("_law_name_error", none)
def d_law_fit_error : He.DefD := ⟨("_law_fit_error", none), "_law_fit_error", "_law_fit_error", defArgs s_law_fit_error, defBody s_law_fit_error, defScope s_law_fit_error, [], []⟩
def a_law_fit_error (K : PySem.W.Frag) : Addr := He.fAd K ("_law_fit_error", none)
def d_law_line_error : He.DefD := ⟨("_law_line_error", none), "_law_line_error", "_law_line_error", defArgs s_law_line_error, defBody s_law_line_error, defScope s_law_line_error, [], []⟩
def a_law_line_error (K : PySem.W.Frag) : Addr := He.fAd K ("_law_line_error", none)
def d_law : He.DefD := ⟨("law", none), "law", "law", defArgs s_law, defBody s_law, defScope s_law, [], []⟩
def a_law (K : PySem.W.Frag) : Addr := He.fAd K ("law", none)
def fn1 : List ((PySem.W.Frag → Addr) × He.DefD) := [(a_BadLine_init, d_BadLine_init), (a_DuplicateName_init, d_DuplicateName_init), (a_UnknownName_init, d_UnknownName_init), (a_WrongTable_init, d_WrongTable_init), (a_WrongCount_init, d_WrongCount_init), (a_TooMany_init, d_TooMany_init), (a_is_name, d_is_name), (a_is_value, d_is_value), (a_is_constant, d_is_constant), (a_split_words, d_split_words), (a_all_names, d_all_names), (a_is_path, d_is_path), (a_is_term, d_is_term), (a_split_term, d_split_term), (a_Names_init, d_Names_init), (a_Names_check_new, d_Names_check_new), (a_Names_add_row, d_Names_add_row), (a_Names_add_value, d_Names_add_value), (a_Names_check_row, d_Names_check_row), (a_Names_check_any_row, d_Names_check_any_row), (a_Names_table_of, d_Names_table_of), (a_Names_check_term, d_Names_check_term), (a_read_parameter, d_read_parameter), (a_is_test, d_is_test), (a_read_test, d_read_test), (a_Handler_init, d_Handler_init), (a_Handler_read, d_Handler_read), (a_read_first, d_read_first), (a_read_line_handlers, d_read_line_handlers), (a_read_deed, d_read_deed)]
def fn2 : List ((PySem.W.Frag → Addr) × He.DefD) := [(a_read_new, d_read_new), (a_read_move, d_read_move), (a_read_set, d_read_set), (a_read_each, d_read_each), (a_Schema_init, d_Schema_init), (a_Schema_read, d_Schema_read), (a_Schema_check_table, d_Schema_check_table), (a_Schema_columns, d_Schema_columns), (a_Schema_parent_of, d_Schema_parent_of), (a_Schema_chain_of, d_Schema_chain_of), (a_Schema_check_position, d_Schema_check_position), (a_read_line_schemas, d_read_line_schemas), (a_read_table, d_read_table), (a_law_schema_of, d_law_schema_of), (a_law_forest, d_law_forest), (a_law_get_named, d_law_get_named), (a_law_handler_told, d_law_handler_told), (a_law_get_state, d_law_get_state), (a_law_draw, d_law_draw), (a_law_get_words, d_law_get_words), (a_law_get_chain, d_law_get_chain), (a_law_table_line, d_law_table_line), (a_law_soup_term, d_law_soup_term), (a_law_soup_line, d_law_soup_line), (a_law_term_error, d_law_term_error), (a_law_line_names, d_law_line_names), (a_law_name_error, d_law_name_error), (a_law_fit_error, d_law_fit_error), (a_law_line_error, d_law_line_error), (a_law, d_law)]
def fn : List ((PySem.W.Frag → Addr) × He.DefD) := fn1 ++ fn2
def fa0 : List He.Fa := [.glo "is_name", .glo "is_value", .glo "is_constant", .glo "split_words", .glo "all_names", .glo "is_path", .glo "is_term", .glo "split_term", .glo "read_parameter", .glo "is_test", .glo "read_test", .glo "read_first", .glo "read_line_handlers", .glo "read_deed", .glo "read_new", .glo "read_move", .glo "read_set", .glo "read_each", .glo "read_line_schemas", .glo "read_table", .glo "_law_schema_of", .glo "_law_forest", .glo "_law_get_named", .glo "_law_handler_told", .glo "_law_get_state", .glo "_law_draw", .glo "_law_get_words", .glo "_law_get_chain", .glo "_law_table_line", .glo "_law_soup_term"]
def fa1 : List He.Fa := [.glo "_law_soup_line", .glo "_law_term_error", .glo "_law_line_names", .glo "_law_name_error", .glo "_law_fit_error", .glo "_law_line_error", .glo "law", .glo "AgreeError", .glo "BadLine", .glo "DuplicateName", .glo "UnknownName", .glo "WrongTable", .glo "WrongCount", .glo "TooMany", .glo "Names", .glo "Handler", .glo "Schema", .free "len", .free "all", .free "isinstance", .free "list", .free "enumerate", .free "tuple", .free "range", .free "abs", .free "int", .free "dict", .free "str", .free "bool", .int "LONGEST_NAME" 12]
def fa2 : List He.Fa := [.int "LONGEST_VALUE" 20, .int "MOST_ROWS" 3, .int "MOST_VALUES" 4, .int "MOST_TESTS" 8, .str "LETTERS" "abcdefghijklmnopqrstuvwxyz", .str "SIGNS" "abcdefghijklmnopqrstuvwxyz0123456789", .cls "Names", .mkr "Names", .noat "Names" "schema", .noat "Names" "row_tables", .noat "Names" "value_names", .noat "Names" "others", .meth "Names" "check_new", .meth "Names" "add_row", .meth "Names" "add_value", .meth "Names" "check_row", .meth "Names" "check_any_row", .meth "Names" "table_of", .meth "Names" "check_term", .cls "Handler", .mkr "Handler", .noat "Handler" "schema", .noat "Handler" "text", .noat "Handler" "name", .noat "Handler" "known", .noat "Handler" "tests", .noat "Handler" "lines", .noat "Handler" "parts", .cls "Schema", .mkr "Schema"]
def fa3 : List He.Fa := [.noat "Schema" "text", .noat "Schema" "column_lists", .noat "Schema" "parents", .noat "Schema" "owners", .noat "Schema" "following", .meth "Schema" "check_table", .meth "Schema" "columns", .meth "Schema" "parent_of", .meth "Schema" "chain_of", .meth "Schema" "check_position"]
def fa : List He.Fa := fa0 ++ fa1 ++ fa2 ++ fa3
/-! ### further facts of one Bool -/
/-- an own exception class with an own __init__ (a def): fields fs -/
def oexB (K : PySem.W.Frag) (x : Str) (fs : List Str) : Bool :=
  PySem.W.excInitIn K (He.ga K x) PySem.HandSPX.veTail "ValueError.__new__" && (PySem.W.hasDictIn K (He.ga K x) && (He.eqO (PySem.W.findIn K (.ref (He.ga K x)) "__setattr__") (some (some (.builtin "object.__setattr__"))) &&
  (decide (PySem.W.subIn K (.ref (He.ga K x)) (.type "BaseException") = some true) && (decide (PySem.W.typeIn K (.ref (He.ga K x)) = some (.type "type")) && (PySem.W.keepIn K (.ref (He.ga K x)) &&
  (He.eqO (PySem.W.findIn K (.ref (He.ga K x)) "__init__") (some (some (.ref (He.ma K (He.ga K x) "__init__")))) && (decide (PySem.W.typeIn K (.ref (He.ma K (He.ga K x) "__init__")) = some (.type "function")) &&
  (fs.all (fun f => He.eqO (PySem.W.findIn K (.ref (He.ga K x)) f) (some none)) && (xfB K (He.ga K x) && (He.eqO (PySem.W.findIn K (.ref (He.ga K x)) "__class__") (some (some (.builtin "object.__class__"))) &&
  (decide (PySem.W.mroIn K (He.ga K x) (.type "object") = some true) && decide (PySem.W.kitOne K (.ref (He.ga K x)) (.ref (He.ga K "AgreeError")) = some true))))))))))))
def excs : List (Str × List Str) := [("BadLine", ["line"]), ("DuplicateName", ["line", "name"]), ("UnknownName", ["line", "name"]), ("WrongTable", ["line", "name"]), ("WrongCount", ["line"]), ("TooMany", ["line"])]
/-- which class an except clause takes -/
def exmB (K : PySem.W.Frag) : Bool := (excs.map (·.1)).all fun x => (excs.map (·.1)).all fun y => decide (PySem.W.exmOne K (.ref (He.ga K x)) (.ref (He.ga K y)) = some (decide (x = y)))
/-- a constant of a class read off the class -/
def conB (K : PySem.W.Frag) (x f : Str) (i : Int) : Bool := match PySem.W.findCls K (.ref (He.ga K x)) (.type "type") f with
  | some (.val (.int j _)) => decide (j = i)
  | _ => false
def readB (K : PySem.W.Frag) (x : Str) : Bool := PySem.W.readsIn K (He.ga K x) (.type "type") && He.eqO (PySem.W.specialIn K (.ref (He.ga K x)) "__getattribute__") (some (some (.builtin "type.__getattribute__")))
def descB (K : PySem.W.Frag) : Bool := He.eqO (PySem.W.specialIn K (.builtin "object.__class__") "__get__") (some (some (.builtin "getset_descriptor.__get__"))) && decide (PySem.W.takesIn K (.builtin "object.__class__") = some true)
/-- a static method of a class -/
def staB (K : PySem.W.Frag) (x m : Str) : Bool := He5.wrapB K (He.ga K x) "staticmethod" "staticmethod.__get__" m
def consts : List (Str × Str × Int) := [("Handler", "MOST_DEEDS", 8), ("Schema", "MOST_COLUMNS", 4), ("Schema", "MOST_TABLES", 6), ("Schema", "LONGEST_CHAIN", 4)]
def exB (K : PySem.W.Frag) : Bool := (excs.all fun p => oexB K p.1 p.2) && (exmB K && (consts.all (fun p => conB K p.1 p.2.1 p.2.2) && (readB K "Handler" && (readB K "Schema" && (staB K "Handler" "read" && (staB K "Schema" "read" && descB K))))))
/-! ### the Hook -/
abbrev FnW := He.FnW
def fnA (K : PySem.W.Frag) (a : Addr) : FnW := match K.lookup a with
  | some ⟨_, _, .func fd, _⟩ => some (fd.name, fd.qualname, fd.params, fd.body, fd.scope, fd.globals, fd.closure, fd.builtins)
  | _ => none
def okA (K : PySem.W.Frag) (a : Addr) (d : He.DefD) : Bool := PySem.W.keepIn K (.ref a) && (match K.lookup a with
  | some ⟨_, _, .func fd, _⟩ => PySem.W.codeIn K fd.code d.qual && (He.dflB K fd.defaults (d.dvs K) && He.kwdB K fd.kwdefaults (d.kws K))
  | _ => false)
theorem funD_at {K : PySem.W.Frag} {a : Addr} {d : He.DefD} (e : fnA K a = d.val) (c : okA K a d = true) : ∃ fd, FunD K d.name d.qual d.params d.body d.scope (d.dvs K) (d.kws K) a fd := by
  obtain ⟨kp, c2⟩ := He.ba c
  unfold fnA at e
  cases q : K.lookup a with
  | none =>
    rw [q] at c2
    cases c2
  | some o =>
    obtain ⟨oc, od, dt, osl⟩ := o
    rw [q] at c2 e
    cases dt with
    | func fd =>
      obtain ⟨n1, n2, n3, n4, n5, n6, n7, n8, n9, n10, n11, n12, n13, n14, n15⟩ := fd
      have e2 : (some (n1, n2, n3, n4, n5, n6, n7, n15) : FnW) = some (d.name, d.qual, d.params, .stmts d.body, d.scope, mainGlobals, [], builtinsNs) := e
      simp only [Option.some.injEq, Prod.mk.injEq] at e2
      obtain ⟨h1, h2, h3, h4, h5, h6, h7, h8⟩ := e2
      subst h1 h2 h3 h4 h5 h6 h7 h8
      have c3 : (PySem.W.codeIn K n13 d.qual && (He.dflB K n8 (d.dvs K) && He.kwdB K n9 (d.kws K))) = true := c2
      obtain ⟨k1, k2⟩ := He.ba c3
      obtain ⟨k3, k4⟩ := He.ba k2
      exact ⟨_, ⟨oc, od, n8, n9, n10, n11, n12, n13, n14, osl, rfl, q, k1, He.dflB_ok k3, He.kwdB_ok k4⟩, kp⟩
    | _ => cases c2
abbrev Al : Type := Bool × List FnW
def obsK (K : PySem.W.Frag) : Al := ((fa.all fun f => f.ok K) && ((fn.all fun d => okA K (d.1 K) d.2) && exB K), fn.map fun d => fnA K (d.1 K))
def valK : Al := (true, fn.map fun d => d.2.val)
def SaysK (K : PySem.W.Frag) : Prop := obsK K = valK
/-- new addresses, told by a number's bits (the kernel's own numbers: eraseDups over the same list took 4 GB more) -/
def addF (m : Nat) (acc : List Addr) : List Addr → Nat × List Addr
  | [] => (m, acc)
  | a :: r => match Nat.beq (Nat.land (Nat.shiftRight m a) 1) 1 with
    | true => addF m acc r
    | false => addF (Nat.lor m (Nat.shiftLeft 1 a)) (a :: acc) r
def asF (g : Addr → Option Obj) : Nat → Nat → List Addr → List Addr → List Addr
  | 0, _, _, all => all
  | n + 1, m, fr, all => match addF m [] (fr.flatMap fun a => match g a with
      | some o => He.refsD o
      | none => []) with
    | (m2, more) => asF g n m2 more (all ++ more)
def asK (g : Addr → Option Obj) (n : Nat) : List Addr := match addF 0 [] [mainGlobals, cStatics] with
  | (m, l) => asF g n m l l
def obsG (n : Nat) (g : Addr → Option Obj) : Al := obsK (He.frG g (asK g n))
def hookK (n : Nat) : PySem.W.Hook where
  α := Al
  obs := fun s => obsG n s.heap.get?
  val := fun _ => valK
  says := fun _ h => ∃ K : PySem.W.Frag, K.In h ∧ SaysK K
  of := fun _ _ e => ⟨_, He.frG_in, e⟩
  keeps := fun _ _ _ ⟨K, hK, c⟩ k => ⟨K, PySem.W.Frag.In.keeps hK k, c⟩
theorem obsG_eq {n : Nat} {g : Addr → Option Obj} {s : Shared} (h : ∀ a, g a = s.heap.get? a) : obsG n g = (hookK n).obs s := by
  have e : g = s.heap.get? := funext h
  rw [e] <;> rfl
theorem SaysK.fact {K : PySem.W.Frag} (c : SaysK K) (i : Nat) {f : He.Fa} (h : fa[i]? = some f := by rfl) : f.ok K = true := by
  have c1 := (He.ba (show ((fa.all fun f => f.ok K) && ((fn.all fun d => okA K (d.1 K) d.2) && exB K)) = true from congrArg (fun z : Al => z.1) c)).1
  exact List.all_eq_true.mp c1 f (List.mem_of_getElem? h)
theorem SaysK.ex {K : PySem.W.Frag} (c : SaysK K) : exB K = true :=
  (He.ba (He.ba (show ((fa.all fun f => f.ok K) && ((fn.all fun d => okA K (d.1 K) d.2) && exB K)) = true from congrArg (fun z : Al => z.1) c)).2).2
theorem SaysK.def_ {K : PySem.W.Frag} (c : SaysK K) (i : Nat) {d : (PySem.W.Frag → Addr) × He.DefD} (h : fn[i]? = some d := by rfl) : ∃ fd, FunD K d.2.name d.2.qual d.2.params d.2.body d.2.scope (d.2.dvs K) (d.2.kws K) (d.1 K) fd := by
  have c2 := (He.ba (He.ba (show ((fa.all fun f => f.ok K) && ((fn.all fun d => okA K (d.1 K) d.2) && exB K)) = true from congrArg (fun z : Al => z.1) c)).2).1
  have e : fn.map (fun d => fnA K (d.1 K)) = fn.map (fun d => d.2.val) := congrArg (fun z : Al => z.2) c
  have e2 : (fn.map (fun d => fnA K (d.1 K)))[i]? = (fn.map (fun d => d.2.val))[i]? := by rw [e]
  rw [List.getElem?_map, List.getElem?_map, h] at e2
  exact funD_at (Option.some.inj e2) (List.all_eq_true.mp c2 d (List.mem_of_getElem? h))
/-- what the walks lean on: the written part and the module's names -/
structure Txt (K : PySem.W.Frag) (mg : Str → Option Value) : Prop where
  says : SaysK K
  glo : ∀ x, PySem.W.nsIn K mainGlobals x = some (some (.ref (He.ga K x))) → mg x = some (.ref (He.ga K x))
  fre : ∀ x, PySem.W.nsIn K mainGlobals x = some none → mg x = none
  int : ∀ (x : Str) (i : Int), (He.Fa.int x i).ok K = true → ∃ t, mg x = some (.int i t)
  str : ∀ (x z : Str), (He.Fa.str x z).ok K = true → ∃ t, mg x = some (.str z t)
theorem txt_of {K : PySem.W.Frag} {h : Heap} {mg : Str → Option Value} (X : K.In h) (G : h.Ns mainGlobals mg) (c : SaysK K) : Txt K mg :=
  ⟨c, fun _ e => PySem.W.mg_of X G e, fun _ e => PySem.W.mg_none_of X G e, fun _ _ e => He.int_ok X G e, fun _ _ e => He.str_ok X G e⟩
section
variable {K : PySem.W.Frag} {mg : Str → Option Value}
theorem Txt.g_is_name (T : Txt K mg) : mg "is_name" = some (.ref (He.ga K "is_name")) := T.glo _ (He.eqO_ok (T.says.fact 0 (f := .glo "is_name") rfl))
theorem Txt.g_is_value (T : Txt K mg) : mg "is_value" = some (.ref (He.ga K "is_value")) := T.glo _ (He.eqO_ok (T.says.fact 1 (f := .glo "is_value") rfl))
theorem Txt.g_is_constant (T : Txt K mg) : mg "is_constant" = some (.ref (He.ga K "is_constant")) := T.glo _ (He.eqO_ok (T.says.fact 2 (f := .glo "is_constant") rfl))
theorem Txt.g_split_words (T : Txt K mg) : mg "split_words" = some (.ref (He.ga K "split_words")) := T.glo _ (He.eqO_ok (T.says.fact 3 (f := .glo "split_words") rfl))
theorem Txt.g_all_names (T : Txt K mg) : mg "all_names" = some (.ref (He.ga K "all_names")) := T.glo _ (He.eqO_ok (T.says.fact 4 (f := .glo "all_names") rfl))
theorem Txt.g_is_path (T : Txt K mg) : mg "is_path" = some (.ref (He.ga K "is_path")) := T.glo _ (He.eqO_ok (T.says.fact 5 (f := .glo "is_path") rfl))
theorem Txt.g_is_term (T : Txt K mg) : mg "is_term" = some (.ref (He.ga K "is_term")) := T.glo _ (He.eqO_ok (T.says.fact 6 (f := .glo "is_term") rfl))
theorem Txt.g_split_term (T : Txt K mg) : mg "split_term" = some (.ref (He.ga K "split_term")) := T.glo _ (He.eqO_ok (T.says.fact 7 (f := .glo "split_term") rfl))
theorem Txt.g_read_parameter (T : Txt K mg) : mg "read_parameter" = some (.ref (He.ga K "read_parameter")) := T.glo _ (He.eqO_ok (T.says.fact 8 (f := .glo "read_parameter") rfl))
theorem Txt.g_is_test (T : Txt K mg) : mg "is_test" = some (.ref (He.ga K "is_test")) := T.glo _ (He.eqO_ok (T.says.fact 9 (f := .glo "is_test") rfl))
theorem Txt.g_read_test (T : Txt K mg) : mg "read_test" = some (.ref (He.ga K "read_test")) := T.glo _ (He.eqO_ok (T.says.fact 10 (f := .glo "read_test") rfl))
theorem Txt.g_read_first (T : Txt K mg) : mg "read_first" = some (.ref (He.ga K "read_first")) := T.glo _ (He.eqO_ok (T.says.fact 11 (f := .glo "read_first") rfl))
theorem Txt.g_read_line_handlers (T : Txt K mg) : mg "read_line_handlers" = some (.ref (He.ga K "read_line_handlers")) := T.glo _ (He.eqO_ok (T.says.fact 12 (f := .glo "read_line_handlers") rfl))
theorem Txt.g_read_deed (T : Txt K mg) : mg "read_deed" = some (.ref (He.ga K "read_deed")) := T.glo _ (He.eqO_ok (T.says.fact 13 (f := .glo "read_deed") rfl))
theorem Txt.g_read_new (T : Txt K mg) : mg "read_new" = some (.ref (He.ga K "read_new")) := T.glo _ (He.eqO_ok (T.says.fact 14 (f := .glo "read_new") rfl))
theorem Txt.g_read_move (T : Txt K mg) : mg "read_move" = some (.ref (He.ga K "read_move")) := T.glo _ (He.eqO_ok (T.says.fact 15 (f := .glo "read_move") rfl))
theorem Txt.g_read_set (T : Txt K mg) : mg "read_set" = some (.ref (He.ga K "read_set")) := T.glo _ (He.eqO_ok (T.says.fact 16 (f := .glo "read_set") rfl))
theorem Txt.g_read_each (T : Txt K mg) : mg "read_each" = some (.ref (He.ga K "read_each")) := T.glo _ (He.eqO_ok (T.says.fact 17 (f := .glo "read_each") rfl))
theorem Txt.g_read_line_schemas (T : Txt K mg) : mg "read_line_schemas" = some (.ref (He.ga K "read_line_schemas")) := T.glo _ (He.eqO_ok (T.says.fact 18 (f := .glo "read_line_schemas") rfl))
theorem Txt.g_read_table (T : Txt K mg) : mg "read_table" = some (.ref (He.ga K "read_table")) := T.glo _ (He.eqO_ok (T.says.fact 19 (f := .glo "read_table") rfl))
theorem Txt.g_law_schema_of (T : Txt K mg) : mg "_law_schema_of" = some (.ref (He.ga K "_law_schema_of")) := T.glo _ (He.eqO_ok (T.says.fact 20 (f := .glo "_law_schema_of") rfl))
theorem Txt.g_law_forest (T : Txt K mg) : mg "_law_forest" = some (.ref (He.ga K "_law_forest")) := T.glo _ (He.eqO_ok (T.says.fact 21 (f := .glo "_law_forest") rfl))
theorem Txt.g_law_get_named (T : Txt K mg) : mg "_law_get_named" = some (.ref (He.ga K "_law_get_named")) := T.glo _ (He.eqO_ok (T.says.fact 22 (f := .glo "_law_get_named") rfl))
theorem Txt.g_law_handler_told (T : Txt K mg) : mg "_law_handler_told" = some (.ref (He.ga K "_law_handler_told")) := T.glo _ (He.eqO_ok (T.says.fact 23 (f := .glo "_law_handler_told") rfl))
theorem Txt.g_law_get_state (T : Txt K mg) : mg "_law_get_state" = some (.ref (He.ga K "_law_get_state")) := T.glo _ (He.eqO_ok (T.says.fact 24 (f := .glo "_law_get_state") rfl))
theorem Txt.g_law_draw (T : Txt K mg) : mg "_law_draw" = some (.ref (He.ga K "_law_draw")) := T.glo _ (He.eqO_ok (T.says.fact 25 (f := .glo "_law_draw") rfl))
theorem Txt.g_law_get_words (T : Txt K mg) : mg "_law_get_words" = some (.ref (He.ga K "_law_get_words")) := T.glo _ (He.eqO_ok (T.says.fact 26 (f := .glo "_law_get_words") rfl))
theorem Txt.g_law_get_chain (T : Txt K mg) : mg "_law_get_chain" = some (.ref (He.ga K "_law_get_chain")) := T.glo _ (He.eqO_ok (T.says.fact 27 (f := .glo "_law_get_chain") rfl))
theorem Txt.g_law_table_line (T : Txt K mg) : mg "_law_table_line" = some (.ref (He.ga K "_law_table_line")) := T.glo _ (He.eqO_ok (T.says.fact 28 (f := .glo "_law_table_line") rfl))
theorem Txt.g_law_soup_term (T : Txt K mg) : mg "_law_soup_term" = some (.ref (He.ga K "_law_soup_term")) := T.glo _ (He.eqO_ok (T.says.fact 29 (f := .glo "_law_soup_term") rfl))
theorem Txt.g_law_soup_line (T : Txt K mg) : mg "_law_soup_line" = some (.ref (He.ga K "_law_soup_line")) := T.glo _ (He.eqO_ok (T.says.fact 30 (f := .glo "_law_soup_line") rfl))
theorem Txt.g_law_term_error (T : Txt K mg) : mg "_law_term_error" = some (.ref (He.ga K "_law_term_error")) := T.glo _ (He.eqO_ok (T.says.fact 31 (f := .glo "_law_term_error") rfl))
theorem Txt.g_law_line_names (T : Txt K mg) : mg "_law_line_names" = some (.ref (He.ga K "_law_line_names")) := T.glo _ (He.eqO_ok (T.says.fact 32 (f := .glo "_law_line_names") rfl))
theorem Txt.g_law_name_error (T : Txt K mg) : mg "_law_name_error" = some (.ref (He.ga K "_law_name_error")) := T.glo _ (He.eqO_ok (T.says.fact 33 (f := .glo "_law_name_error") rfl))
theorem Txt.g_law_fit_error (T : Txt K mg) : mg "_law_fit_error" = some (.ref (He.ga K "_law_fit_error")) := T.glo _ (He.eqO_ok (T.says.fact 34 (f := .glo "_law_fit_error") rfl))
theorem Txt.g_law_line_error (T : Txt K mg) : mg "_law_line_error" = some (.ref (He.ga K "_law_line_error")) := T.glo _ (He.eqO_ok (T.says.fact 35 (f := .glo "_law_line_error") rfl))
theorem Txt.g_law (T : Txt K mg) : mg "law" = some (.ref (He.ga K "law")) := T.glo _ (He.eqO_ok (T.says.fact 36 (f := .glo "law") rfl))
theorem Txt.g_AgreeError (T : Txt K mg) : mg "AgreeError" = some (.ref (He.ga K "AgreeError")) := T.glo _ (He.eqO_ok (T.says.fact 37 (f := .glo "AgreeError") rfl))
theorem Txt.g_BadLine (T : Txt K mg) : mg "BadLine" = some (.ref (He.ga K "BadLine")) := T.glo _ (He.eqO_ok (T.says.fact 38 (f := .glo "BadLine") rfl))
theorem Txt.g_DuplicateName (T : Txt K mg) : mg "DuplicateName" = some (.ref (He.ga K "DuplicateName")) := T.glo _ (He.eqO_ok (T.says.fact 39 (f := .glo "DuplicateName") rfl))
theorem Txt.g_UnknownName (T : Txt K mg) : mg "UnknownName" = some (.ref (He.ga K "UnknownName")) := T.glo _ (He.eqO_ok (T.says.fact 40 (f := .glo "UnknownName") rfl))
theorem Txt.g_WrongTable (T : Txt K mg) : mg "WrongTable" = some (.ref (He.ga K "WrongTable")) := T.glo _ (He.eqO_ok (T.says.fact 41 (f := .glo "WrongTable") rfl))
theorem Txt.g_WrongCount (T : Txt K mg) : mg "WrongCount" = some (.ref (He.ga K "WrongCount")) := T.glo _ (He.eqO_ok (T.says.fact 42 (f := .glo "WrongCount") rfl))
theorem Txt.g_TooMany (T : Txt K mg) : mg "TooMany" = some (.ref (He.ga K "TooMany")) := T.glo _ (He.eqO_ok (T.says.fact 43 (f := .glo "TooMany") rfl))
theorem Txt.g_Names (T : Txt K mg) : mg "Names" = some (.ref (He.ga K "Names")) := T.glo _ (He.eqO_ok (T.says.fact 44 (f := .glo "Names") rfl))
theorem Txt.g_Handler (T : Txt K mg) : mg "Handler" = some (.ref (He.ga K "Handler")) := T.glo _ (He.eqO_ok (T.says.fact 45 (f := .glo "Handler") rfl))
theorem Txt.g_Schema (T : Txt K mg) : mg "Schema" = some (.ref (He.ga K "Schema")) := T.glo _ (He.eqO_ok (T.says.fact 46 (f := .glo "Schema") rfl))
theorem Txt.b_len (T : Txt K mg) : mg "len" = none := T.fre _ (He.eqO_ok (T.says.fact 47 (f := .free "len") rfl))
theorem Txt.b_all (T : Txt K mg) : mg "all" = none := T.fre _ (He.eqO_ok (T.says.fact 48 (f := .free "all") rfl))
theorem Txt.b_isinstance (T : Txt K mg) : mg "isinstance" = none := T.fre _ (He.eqO_ok (T.says.fact 49 (f := .free "isinstance") rfl))
theorem Txt.b_list (T : Txt K mg) : mg "list" = none := T.fre _ (He.eqO_ok (T.says.fact 50 (f := .free "list") rfl))
theorem Txt.b_enumerate (T : Txt K mg) : mg "enumerate" = none := T.fre _ (He.eqO_ok (T.says.fact 51 (f := .free "enumerate") rfl))
theorem Txt.b_tuple (T : Txt K mg) : mg "tuple" = none := T.fre _ (He.eqO_ok (T.says.fact 52 (f := .free "tuple") rfl))
theorem Txt.b_range (T : Txt K mg) : mg "range" = none := T.fre _ (He.eqO_ok (T.says.fact 53 (f := .free "range") rfl))
theorem Txt.b_abs (T : Txt K mg) : mg "abs" = none := T.fre _ (He.eqO_ok (T.says.fact 54 (f := .free "abs") rfl))
theorem Txt.b_int (T : Txt K mg) : mg "int" = none := T.fre _ (He.eqO_ok (T.says.fact 55 (f := .free "int") rfl))
theorem Txt.b_dict (T : Txt K mg) : mg "dict" = none := T.fre _ (He.eqO_ok (T.says.fact 56 (f := .free "dict") rfl))
theorem Txt.b_str (T : Txt K mg) : mg "str" = none := T.fre _ (He.eqO_ok (T.says.fact 57 (f := .free "str") rfl))
theorem Txt.b_bool (T : Txt K mg) : mg "bool" = none := T.fre _ (He.eqO_ok (T.says.fact 58 (f := .free "bool") rfl))
theorem Txt.i_LONGEST_NAME (T : Txt K mg) : ∃ t, mg "LONGEST_NAME" = some (.int 12 t) := T.int _ _ (T.says.fact 59 (f := .int "LONGEST_NAME" 12) rfl)
theorem Txt.i_LONGEST_VALUE (T : Txt K mg) : ∃ t, mg "LONGEST_VALUE" = some (.int 20 t) := T.int _ _ (T.says.fact 60 (f := .int "LONGEST_VALUE" 20) rfl)
theorem Txt.i_MOST_ROWS (T : Txt K mg) : ∃ t, mg "MOST_ROWS" = some (.int 3 t) := T.int _ _ (T.says.fact 61 (f := .int "MOST_ROWS" 3) rfl)
theorem Txt.i_MOST_VALUES (T : Txt K mg) : ∃ t, mg "MOST_VALUES" = some (.int 4 t) := T.int _ _ (T.says.fact 62 (f := .int "MOST_VALUES" 4) rfl)
theorem Txt.i_MOST_TESTS (T : Txt K mg) : ∃ t, mg "MOST_TESTS" = some (.int 8 t) := T.int _ _ (T.says.fact 63 (f := .int "MOST_TESTS" 8) rfl)
theorem Txt.t_LETTERS (T : Txt K mg) : ∃ t, mg "LETTERS" = some (.str "abcdefghijklmnopqrstuvwxyz" t) := T.str _ _ (T.says.fact 64 (f := .str "LETTERS" "abcdefghijklmnopqrstuvwxyz") rfl)
theorem Txt.t_SIGNS (T : Txt K mg) : ∃ t, mg "SIGNS" = some (.str "abcdefghijklmnopqrstuvwxyz0123456789" t) := T.str _ _ (T.says.fact 65 (f := .str "SIGNS" "abcdefghijklmnopqrstuvwxyz0123456789") rfl)
theorem Txt.c_Names (T : Txt K mg) : Cls K (He.ga K "Names") := He.cls_ok (T.says.fact 66 (f := .cls "Names") rfl)
theorem Txt.mk_Names (T : Txt K mg) : Mk K (He.ga K "Names") (He.ma K (He.ga K "Names") "__init__") := He.mkr_ok (T.says.fact 67 (f := .mkr "Names") rfl)
theorem Txt.n_Names_schema (T : Txt K mg) : NoAttr K (He.ga K "Names") "schema" := He.noat_ok (T.says.fact 68 (f := .noat "Names" "schema") rfl)
theorem Txt.n_Names_row_tables (T : Txt K mg) : NoAttr K (He.ga K "Names") "row_tables" := He.noat_ok (T.says.fact 69 (f := .noat "Names" "row_tables") rfl)
theorem Txt.n_Names_value_names (T : Txt K mg) : NoAttr K (He.ga K "Names") "value_names" := He.noat_ok (T.says.fact 70 (f := .noat "Names" "value_names") rfl)
theorem Txt.n_Names_others (T : Txt K mg) : NoAttr K (He.ga K "Names") "others" := He.noat_ok (T.says.fact 71 (f := .noat "Names" "others") rfl)
theorem Txt.m_Names_check_new (T : Txt K mg) : Meth K (He.ga K "Names") "check_new" (He.ma K (He.ga K "Names") "check_new") := He.meth_ok (T.says.fact 72 (f := .meth "Names" "check_new") rfl)
theorem Txt.m_Names_add_row (T : Txt K mg) : Meth K (He.ga K "Names") "add_row" (He.ma K (He.ga K "Names") "add_row") := He.meth_ok (T.says.fact 73 (f := .meth "Names" "add_row") rfl)
theorem Txt.m_Names_add_value (T : Txt K mg) : Meth K (He.ga K "Names") "add_value" (He.ma K (He.ga K "Names") "add_value") := He.meth_ok (T.says.fact 74 (f := .meth "Names" "add_value") rfl)
theorem Txt.m_Names_check_row (T : Txt K mg) : Meth K (He.ga K "Names") "check_row" (He.ma K (He.ga K "Names") "check_row") := He.meth_ok (T.says.fact 75 (f := .meth "Names" "check_row") rfl)
theorem Txt.m_Names_check_any_row (T : Txt K mg) : Meth K (He.ga K "Names") "check_any_row" (He.ma K (He.ga K "Names") "check_any_row") := He.meth_ok (T.says.fact 76 (f := .meth "Names" "check_any_row") rfl)
theorem Txt.m_Names_table_of (T : Txt K mg) : Meth K (He.ga K "Names") "table_of" (He.ma K (He.ga K "Names") "table_of") := He.meth_ok (T.says.fact 77 (f := .meth "Names" "table_of") rfl)
theorem Txt.m_Names_check_term (T : Txt K mg) : Meth K (He.ga K "Names") "check_term" (He.ma K (He.ga K "Names") "check_term") := He.meth_ok (T.says.fact 78 (f := .meth "Names" "check_term") rfl)
theorem Txt.c_Handler (T : Txt K mg) : Cls K (He.ga K "Handler") := He.cls_ok (T.says.fact 79 (f := .cls "Handler") rfl)
theorem Txt.mk_Handler (T : Txt K mg) : Mk K (He.ga K "Handler") (He.ma K (He.ga K "Handler") "__init__") := He.mkr_ok (T.says.fact 80 (f := .mkr "Handler") rfl)
theorem Txt.n_Handler_schema (T : Txt K mg) : NoAttr K (He.ga K "Handler") "schema" := He.noat_ok (T.says.fact 81 (f := .noat "Handler" "schema") rfl)
theorem Txt.n_Handler_text (T : Txt K mg) : NoAttr K (He.ga K "Handler") "text" := He.noat_ok (T.says.fact 82 (f := .noat "Handler" "text") rfl)
theorem Txt.n_Handler_name (T : Txt K mg) : NoAttr K (He.ga K "Handler") "name" := He.noat_ok (T.says.fact 83 (f := .noat "Handler" "name") rfl)
theorem Txt.n_Handler_known (T : Txt K mg) : NoAttr K (He.ga K "Handler") "known" := He.noat_ok (T.says.fact 84 (f := .noat "Handler" "known") rfl)
theorem Txt.n_Handler_tests (T : Txt K mg) : NoAttr K (He.ga K "Handler") "tests" := He.noat_ok (T.says.fact 85 (f := .noat "Handler" "tests") rfl)
theorem Txt.n_Handler_lines (T : Txt K mg) : NoAttr K (He.ga K "Handler") "lines" := He.noat_ok (T.says.fact 86 (f := .noat "Handler" "lines") rfl)
theorem Txt.n_Handler_parts (T : Txt K mg) : NoAttr K (He.ga K "Handler") "parts" := He.noat_ok (T.says.fact 87 (f := .noat "Handler" "parts") rfl)
theorem Txt.c_Schema (T : Txt K mg) : Cls K (He.ga K "Schema") := He.cls_ok (T.says.fact 88 (f := .cls "Schema") rfl)
theorem Txt.mk_Schema (T : Txt K mg) : Mk K (He.ga K "Schema") (He.ma K (He.ga K "Schema") "__init__") := He.mkr_ok (T.says.fact 89 (f := .mkr "Schema") rfl)
theorem Txt.n_Schema_text (T : Txt K mg) : NoAttr K (He.ga K "Schema") "text" := He.noat_ok (T.says.fact 90 (f := .noat "Schema" "text") rfl)
theorem Txt.n_Schema_column_lists (T : Txt K mg) : NoAttr K (He.ga K "Schema") "column_lists" := He.noat_ok (T.says.fact 91 (f := .noat "Schema" "column_lists") rfl)
theorem Txt.n_Schema_parents (T : Txt K mg) : NoAttr K (He.ga K "Schema") "parents" := He.noat_ok (T.says.fact 92 (f := .noat "Schema" "parents") rfl)
theorem Txt.n_Schema_owners (T : Txt K mg) : NoAttr K (He.ga K "Schema") "owners" := He.noat_ok (T.says.fact 93 (f := .noat "Schema" "owners") rfl)
theorem Txt.n_Schema_following (T : Txt K mg) : NoAttr K (He.ga K "Schema") "following" := He.noat_ok (T.says.fact 94 (f := .noat "Schema" "following") rfl)
theorem Txt.m_Schema_check_table (T : Txt K mg) : Meth K (He.ga K "Schema") "check_table" (He.ma K (He.ga K "Schema") "check_table") := He.meth_ok (T.says.fact 95 (f := .meth "Schema" "check_table") rfl)
theorem Txt.m_Schema_columns (T : Txt K mg) : Meth K (He.ga K "Schema") "columns" (He.ma K (He.ga K "Schema") "columns") := He.meth_ok (T.says.fact 96 (f := .meth "Schema" "columns") rfl)
theorem Txt.m_Schema_parent_of (T : Txt K mg) : Meth K (He.ga K "Schema") "parent_of" (He.ma K (He.ga K "Schema") "parent_of") := He.meth_ok (T.says.fact 97 (f := .meth "Schema" "parent_of") rfl)
theorem Txt.m_Schema_chain_of (T : Txt K mg) : Meth K (He.ga K "Schema") "chain_of" (He.ma K (He.ga K "Schema") "chain_of") := He.meth_ok (T.says.fact 98 (f := .meth "Schema" "chain_of") rfl)
theorem Txt.m_Schema_check_position (T : Txt K mg) : Meth K (He.ga K "Schema") "check_position" (He.ma K (He.ga K "Schema") "check_position") := He.meth_ok (T.says.fact 99 (f := .meth "Schema" "check_position") rfl)
theorem Txt.f_BadLine_init (T : Txt K mg) : ∃ fd, FunD K "__init__" "BadLine.__init__" (defArgs s_BadLine_init) (defBody s_BadLine_init) (defScope s_BadLine_init) [] [] (a_BadLine_init K) fd := T.says.def_ 0 (d := (a_BadLine_init, d_BadLine_init)) rfl
theorem Txt.f_DuplicateName_init (T : Txt K mg) : ∃ fd, FunD K "__init__" "DuplicateName.__init__" (defArgs s_DuplicateName_init) (defBody s_DuplicateName_init) (defScope s_DuplicateName_init) [] [] (a_DuplicateName_init K) fd := T.says.def_ 1 (d := (a_DuplicateName_init, d_DuplicateName_init)) rfl
theorem Txt.f_UnknownName_init (T : Txt K mg) : ∃ fd, FunD K "__init__" "UnknownName.__init__" (defArgs s_UnknownName_init) (defBody s_UnknownName_init) (defScope s_UnknownName_init) [] [] (a_UnknownName_init K) fd := T.says.def_ 2 (d := (a_UnknownName_init, d_UnknownName_init)) rfl
theorem Txt.f_WrongTable_init (T : Txt K mg) : ∃ fd, FunD K "__init__" "WrongTable.__init__" (defArgs s_WrongTable_init) (defBody s_WrongTable_init) (defScope s_WrongTable_init) [] [] (a_WrongTable_init K) fd := T.says.def_ 3 (d := (a_WrongTable_init, d_WrongTable_init)) rfl
theorem Txt.f_WrongCount_init (T : Txt K mg) : ∃ fd, FunD K "__init__" "WrongCount.__init__" (defArgs s_WrongCount_init) (defBody s_WrongCount_init) (defScope s_WrongCount_init) [] [] (a_WrongCount_init K) fd := T.says.def_ 4 (d := (a_WrongCount_init, d_WrongCount_init)) rfl
theorem Txt.f_TooMany_init (T : Txt K mg) : ∃ fd, FunD K "__init__" "TooMany.__init__" (defArgs s_TooMany_init) (defBody s_TooMany_init) (defScope s_TooMany_init) [] [] (a_TooMany_init K) fd := T.says.def_ 5 (d := (a_TooMany_init, d_TooMany_init)) rfl
theorem Txt.f_is_name (T : Txt K mg) : ∃ fd, FunD K "is_name" "is_name" (defArgs s_is_name) (defBody s_is_name) (defScope s_is_name) [] [] (a_is_name K) fd := T.says.def_ 6 (d := (a_is_name, d_is_name)) rfl
theorem Txt.f_is_value (T : Txt K mg) : ∃ fd, FunD K "is_value" "is_value" (defArgs s_is_value) (defBody s_is_value) (defScope s_is_value) [] [] (a_is_value K) fd := T.says.def_ 7 (d := (a_is_value, d_is_value)) rfl
theorem Txt.f_is_constant (T : Txt K mg) : ∃ fd, FunD K "is_constant" "is_constant" (defArgs s_is_constant) (defBody s_is_constant) (defScope s_is_constant) [] [] (a_is_constant K) fd := T.says.def_ 8 (d := (a_is_constant, d_is_constant)) rfl
theorem Txt.f_split_words (T : Txt K mg) : ∃ fd, FunD K "split_words" "split_words" (defArgs s_split_words) (defBody s_split_words) (defScope s_split_words) [] [] (a_split_words K) fd := T.says.def_ 9 (d := (a_split_words, d_split_words)) rfl
theorem Txt.f_all_names (T : Txt K mg) : ∃ fd, FunD K "all_names" "all_names" (defArgs s_all_names) (defBody s_all_names) (defScope s_all_names) [] [] (a_all_names K) fd := T.says.def_ 10 (d := (a_all_names, d_all_names)) rfl
theorem Txt.f_is_path (T : Txt K mg) : ∃ fd, FunD K "is_path" "is_path" (defArgs s_is_path) (defBody s_is_path) (defScope s_is_path) [] [] (a_is_path K) fd := T.says.def_ 11 (d := (a_is_path, d_is_path)) rfl
theorem Txt.f_is_term (T : Txt K mg) : ∃ fd, FunD K "is_term" "is_term" (defArgs s_is_term) (defBody s_is_term) (defScope s_is_term) [] [] (a_is_term K) fd := T.says.def_ 12 (d := (a_is_term, d_is_term)) rfl
theorem Txt.f_split_term (T : Txt K mg) : ∃ fd, FunD K "split_term" "split_term" (defArgs s_split_term) (defBody s_split_term) (defScope s_split_term) [] [] (a_split_term K) fd := T.says.def_ 13 (d := (a_split_term, d_split_term)) rfl
theorem Txt.f_Names_init (T : Txt K mg) : ∃ fd, FunD K "__init__" "Names.__init__" (defArgs s_Names_init) (defBody s_Names_init) (defScope s_Names_init) [] [] (a_Names_init K) fd := T.says.def_ 14 (d := (a_Names_init, d_Names_init)) rfl
theorem Txt.f_Names_check_new (T : Txt K mg) : ∃ fd, FunD K "check_new" "Names.check_new" (defArgs s_Names_check_new) (defBody s_Names_check_new) (defScope s_Names_check_new) [] [] (a_Names_check_new K) fd := T.says.def_ 15 (d := (a_Names_check_new, d_Names_check_new)) rfl
theorem Txt.f_Names_add_row (T : Txt K mg) : ∃ fd, FunD K "add_row" "Names.add_row" (defArgs s_Names_add_row) (defBody s_Names_add_row) (defScope s_Names_add_row) [] [] (a_Names_add_row K) fd := T.says.def_ 16 (d := (a_Names_add_row, d_Names_add_row)) rfl
theorem Txt.f_Names_add_value (T : Txt K mg) : ∃ fd, FunD K "add_value" "Names.add_value" (defArgs s_Names_add_value) (defBody s_Names_add_value) (defScope s_Names_add_value) [] [] (a_Names_add_value K) fd := T.says.def_ 17 (d := (a_Names_add_value, d_Names_add_value)) rfl
theorem Txt.f_Names_check_row (T : Txt K mg) : ∃ fd, FunD K "check_row" "Names.check_row" (defArgs s_Names_check_row) (defBody s_Names_check_row) (defScope s_Names_check_row) [] [] (a_Names_check_row K) fd := T.says.def_ 18 (d := (a_Names_check_row, d_Names_check_row)) rfl
theorem Txt.f_Names_check_any_row (T : Txt K mg) : ∃ fd, FunD K "check_any_row" "Names.check_any_row" (defArgs s_Names_check_any_row) (defBody s_Names_check_any_row) (defScope s_Names_check_any_row) [] [] (a_Names_check_any_row K) fd := T.says.def_ 19 (d := (a_Names_check_any_row, d_Names_check_any_row)) rfl
theorem Txt.f_Names_table_of (T : Txt K mg) : ∃ fd, FunD K "table_of" "Names.table_of" (defArgs s_Names_table_of) (defBody s_Names_table_of) (defScope s_Names_table_of) [] [] (a_Names_table_of K) fd := T.says.def_ 20 (d := (a_Names_table_of, d_Names_table_of)) rfl
theorem Txt.f_Names_check_term (T : Txt K mg) : ∃ fd, FunD K "check_term" "Names.check_term" (defArgs s_Names_check_term) (defBody s_Names_check_term) (defScope s_Names_check_term) [] [] (a_Names_check_term K) fd := T.says.def_ 21 (d := (a_Names_check_term, d_Names_check_term)) rfl
theorem Txt.f_read_parameter (T : Txt K mg) : ∃ fd, FunD K "read_parameter" "read_parameter" (defArgs s_read_parameter) (defBody s_read_parameter) (defScope s_read_parameter) [] [] (a_read_parameter K) fd := T.says.def_ 22 (d := (a_read_parameter, d_read_parameter)) rfl
theorem Txt.f_is_test (T : Txt K mg) : ∃ fd, FunD K "is_test" "is_test" (defArgs s_is_test) (defBody s_is_test) (defScope s_is_test) [] [] (a_is_test K) fd := T.says.def_ 23 (d := (a_is_test, d_is_test)) rfl
theorem Txt.f_read_test (T : Txt K mg) : ∃ fd, FunD K "read_test" "read_test" (defArgs s_read_test) (defBody s_read_test) (defScope s_read_test) [] [] (a_read_test K) fd := T.says.def_ 24 (d := (a_read_test, d_read_test)) rfl
theorem Txt.f_Handler_init (T : Txt K mg) : ∃ fd, FunD K "__init__" "Handler.__init__" (defArgs s_Handler_init) (defBody s_Handler_init) (defScope s_Handler_init) [] [] (a_Handler_init K) fd := T.says.def_ 25 (d := (a_Handler_init, d_Handler_init)) rfl
theorem Txt.f_Handler_read (T : Txt K mg) : ∃ fd, FunD K "read" "Handler.read" (defArgs s_Handler_read) (defBody s_Handler_read) (defScope s_Handler_read) [] [] (a_Handler_read K) fd := T.says.def_ 26 (d := (a_Handler_read, d_Handler_read)) rfl
theorem Txt.f_read_first (T : Txt K mg) : ∃ fd, FunD K "read_first" "read_first" (defArgs s_read_first) (defBody s_read_first) (defScope s_read_first) [] [] (a_read_first K) fd := T.says.def_ 27 (d := (a_read_first, d_read_first)) rfl
theorem Txt.f_read_line_handlers (T : Txt K mg) : ∃ fd, FunD K "read_line" "read_line" (defArgs s_read_line_handlers) (defBody s_read_line_handlers) (defScope s_read_line_handlers) [] [] (a_read_line_handlers K) fd := T.says.def_ 28 (d := (a_read_line_handlers, d_read_line_handlers)) rfl
theorem Txt.f_read_deed (T : Txt K mg) : ∃ fd, FunD K "read_deed" "read_deed" (defArgs s_read_deed) (defBody s_read_deed) (defScope s_read_deed) [] [] (a_read_deed K) fd := T.says.def_ 29 (d := (a_read_deed, d_read_deed)) rfl
theorem Txt.f_read_new (T : Txt K mg) : ∃ fd, FunD K "read_new" "read_new" (defArgs s_read_new) (defBody s_read_new) (defScope s_read_new) [] [] (a_read_new K) fd := T.says.def_ 30 (d := (a_read_new, d_read_new)) rfl
theorem Txt.f_read_move (T : Txt K mg) : ∃ fd, FunD K "read_move" "read_move" (defArgs s_read_move) (defBody s_read_move) (defScope s_read_move) [] [] (a_read_move K) fd := T.says.def_ 31 (d := (a_read_move, d_read_move)) rfl
theorem Txt.f_read_set (T : Txt K mg) : ∃ fd, FunD K "read_set" "read_set" (defArgs s_read_set) (defBody s_read_set) (defScope s_read_set) [] [] (a_read_set K) fd := T.says.def_ 32 (d := (a_read_set, d_read_set)) rfl
theorem Txt.f_read_each (T : Txt K mg) : ∃ fd, FunD K "read_each" "read_each" (defArgs s_read_each) (defBody s_read_each) (defScope s_read_each) [] [] (a_read_each K) fd := T.says.def_ 33 (d := (a_read_each, d_read_each)) rfl
theorem Txt.f_Schema_init (T : Txt K mg) : ∃ fd, FunD K "__init__" "Schema.__init__" (defArgs s_Schema_init) (defBody s_Schema_init) (defScope s_Schema_init) [] [] (a_Schema_init K) fd := T.says.def_ 34 (d := (a_Schema_init, d_Schema_init)) rfl
theorem Txt.f_Schema_read (T : Txt K mg) : ∃ fd, FunD K "read" "Schema.read" (defArgs s_Schema_read) (defBody s_Schema_read) (defScope s_Schema_read) [] [] (a_Schema_read K) fd := T.says.def_ 35 (d := (a_Schema_read, d_Schema_read)) rfl
theorem Txt.f_Schema_check_table (T : Txt K mg) : ∃ fd, FunD K "check_table" "Schema.check_table" (defArgs s_Schema_check_table) (defBody s_Schema_check_table) (defScope s_Schema_check_table) [.int 0] [] (a_Schema_check_table K) fd := T.says.def_ 36 (d := (a_Schema_check_table, d_Schema_check_table)) rfl
theorem Txt.f_Schema_columns (T : Txt K mg) : ∃ fd, FunD K "columns" "Schema.columns" (defArgs s_Schema_columns) (defBody s_Schema_columns) (defScope s_Schema_columns) [] [] (a_Schema_columns K) fd := T.says.def_ 37 (d := (a_Schema_columns, d_Schema_columns)) rfl
theorem Txt.f_Schema_parent_of (T : Txt K mg) : ∃ fd, FunD K "parent_of" "Schema.parent_of" (defArgs s_Schema_parent_of) (defBody s_Schema_parent_of) (defScope s_Schema_parent_of) [] [] (a_Schema_parent_of K) fd := T.says.def_ 38 (d := (a_Schema_parent_of, d_Schema_parent_of)) rfl
theorem Txt.f_Schema_chain_of (T : Txt K mg) : ∃ fd, FunD K "chain_of" "Schema.chain_of" (defArgs s_Schema_chain_of) (defBody s_Schema_chain_of) (defScope s_Schema_chain_of) [] [] (a_Schema_chain_of K) fd := T.says.def_ 39 (d := (a_Schema_chain_of, d_Schema_chain_of)) rfl
theorem Txt.f_Schema_check_position (T : Txt K mg) : ∃ fd, FunD K "check_position" "Schema.check_position" (defArgs s_Schema_check_position) (defBody s_Schema_check_position) (defScope s_Schema_check_position) [] [] (a_Schema_check_position K) fd := T.says.def_ 40 (d := (a_Schema_check_position, d_Schema_check_position)) rfl
theorem Txt.f_read_line_schemas (T : Txt K mg) : ∃ fd, FunD K "read_line" "read_line" (defArgs s_read_line_schemas) (defBody s_read_line_schemas) (defScope s_read_line_schemas) [] [] (a_read_line_schemas K) fd := T.says.def_ 41 (d := (a_read_line_schemas, d_read_line_schemas)) rfl
theorem Txt.f_read_table (T : Txt K mg) : ∃ fd, FunD K "read_table" "read_table" (defArgs s_read_table) (defBody s_read_table) (defScope s_read_table) [] [] (a_read_table K) fd := T.says.def_ 42 (d := (a_read_table, d_read_table)) rfl
theorem Txt.f_law_schema_of (T : Txt K mg) : ∃ fd, FunD K "_law_schema_of" "_law_schema_of" (defArgs s_law_schema_of) (defBody s_law_schema_of) (defScope s_law_schema_of) [] [] (a_law_schema_of K) fd := T.says.def_ 43 (d := (a_law_schema_of, d_law_schema_of)) rfl
theorem Txt.f_law_forest (T : Txt K mg) : ∃ fd, FunD K "_law_forest" "_law_forest" (defArgs s_law_forest) (defBody s_law_forest) (defScope s_law_forest) [] [] (a_law_forest K) fd := T.says.def_ 44 (d := (a_law_forest, d_law_forest)) rfl
theorem Txt.f_law_get_named (T : Txt K mg) : ∃ fd, FunD K "_law_get_named" "_law_get_named" (defArgs s_law_get_named) (defBody s_law_get_named) (defScope s_law_get_named) [] [] (a_law_get_named K) fd := T.says.def_ 45 (d := (a_law_get_named, d_law_get_named)) rfl
theorem Txt.f_law_handler_told (T : Txt K mg) : ∃ fd, FunD K "_law_handler_told" "_law_handler_told" (defArgs s_law_handler_told) (defBody s_law_handler_told) (defScope s_law_handler_told) [] [] (a_law_handler_told K) fd := T.says.def_ 46 (d := (a_law_handler_told, d_law_handler_told)) rfl
theorem Txt.f_law_get_state (T : Txt K mg) : ∃ fd, FunD K "_law_get_state" "_law_get_state" (defArgs s_law_get_state) (defBody s_law_get_state) (defScope s_law_get_state) [] [] (a_law_get_state K) fd := T.says.def_ 47 (d := (a_law_get_state, d_law_get_state)) rfl
theorem Txt.f_law_draw (T : Txt K mg) : ∃ fd, FunD K "_law_draw" "_law_draw" (defArgs s_law_draw) (defBody s_law_draw) (defScope s_law_draw) [] [] (a_law_draw K) fd := T.says.def_ 48 (d := (a_law_draw, d_law_draw)) rfl
theorem Txt.f_law_get_words (T : Txt K mg) : ∃ fd, FunD K "_law_get_words" "_law_get_words" (defArgs s_law_get_words) (defBody s_law_get_words) (defScope s_law_get_words) [] [] (a_law_get_words K) fd := T.says.def_ 49 (d := (a_law_get_words, d_law_get_words)) rfl
theorem Txt.f_law_get_chain (T : Txt K mg) : ∃ fd, FunD K "_law_get_chain" "_law_get_chain" (defArgs s_law_get_chain) (defBody s_law_get_chain) (defScope s_law_get_chain) [] [] (a_law_get_chain K) fd := T.says.def_ 50 (d := (a_law_get_chain, d_law_get_chain)) rfl
theorem Txt.f_law_table_line (T : Txt K mg) : ∃ fd, FunD K "_law_table_line" "_law_table_line" (defArgs s_law_table_line) (defBody s_law_table_line) (defScope s_law_table_line) [] [] (a_law_table_line K) fd := T.says.def_ 51 (d := (a_law_table_line, d_law_table_line)) rfl
theorem Txt.f_law_soup_term (T : Txt K mg) : ∃ fd, FunD K "_law_soup_term" "_law_soup_term" (defArgs s_law_soup_term) (defBody s_law_soup_term) (defScope s_law_soup_term) [] [] (a_law_soup_term K) fd := T.says.def_ 52 (d := (a_law_soup_term, d_law_soup_term)) rfl
theorem Txt.f_law_soup_line (T : Txt K mg) : ∃ fd, FunD K "_law_soup_line" "_law_soup_line" (defArgs s_law_soup_line) (defBody s_law_soup_line) (defScope s_law_soup_line) [] [] (a_law_soup_line K) fd := T.says.def_ 53 (d := (a_law_soup_line, d_law_soup_line)) rfl
theorem Txt.f_law_term_error (T : Txt K mg) : ∃ fd, FunD K "_law_term_error" "_law_term_error" (defArgs s_law_term_error) (defBody s_law_term_error) (defScope s_law_term_error) [] [] (a_law_term_error K) fd := T.says.def_ 54 (d := (a_law_term_error, d_law_term_error)) rfl
theorem Txt.f_law_line_names (T : Txt K mg) : ∃ fd, FunD K "_law_line_names" "_law_line_names" (defArgs s_law_line_names) (defBody s_law_line_names) (defScope s_law_line_names) [] [] (a_law_line_names K) fd := T.says.def_ 55 (d := (a_law_line_names, d_law_line_names)) rfl
theorem Txt.f_law_name_error (T : Txt K mg) : ∃ fd, FunD K "_law_name_error" "_law_name_error" (defArgs s_law_name_error) (defBody s_law_name_error) (defScope s_law_name_error) [] [] (a_law_name_error K) fd := T.says.def_ 56 (d := (a_law_name_error, d_law_name_error)) rfl
theorem Txt.f_law_fit_error (T : Txt K mg) : ∃ fd, FunD K "_law_fit_error" "_law_fit_error" (defArgs s_law_fit_error) (defBody s_law_fit_error) (defScope s_law_fit_error) [] [] (a_law_fit_error K) fd := T.says.def_ 57 (d := (a_law_fit_error, d_law_fit_error)) rfl
theorem Txt.f_law_line_error (T : Txt K mg) : ∃ fd, FunD K "_law_line_error" "_law_line_error" (defArgs s_law_line_error) (defBody s_law_line_error) (defScope s_law_line_error) [] [] (a_law_line_error K) fd := T.says.def_ 58 (d := (a_law_line_error, d_law_line_error)) rfl
theorem Txt.f_law (T : Txt K mg) : ∃ fd, FunD K "law" "law" (defArgs s_law) (defBody s_law) (defScope s_law) [] [] (a_law K) fd := T.says.def_ 59 (d := (a_law, d_law)) rfl
end
end K23

set_option Elab.async false
set_option linter.all false
set_option maxRecDepth 100000
set_option maxHeartbeats 0
/-! the head: the top's run, told by the Hook -/
namespace K23
open PySem PySem.Calls PySem.Spec PyProof.Rows L2
abbrev R : PySem.W.OpenRow := PySem.W.OpenLaw.row PySem.Challenge.rw_ownersagree_k23_whole_first_error
def loose1 : List PySem.Str := ["_wall", "AgreeError", "BadLine", "DuplicateName", "UnknownName", "WrongTable", "WrongCount", "TooMany", "LETTERS", "SIGNS", "LONGEST_NAME", "LONGEST_VALUE", "is_name", "is_value", "is_constant", "split_words", "all_names", "is_path", "is_term", "MOST_ROWS", "MOST_VALUES", "MOST_TESTS", "split_term", "Names", "read_parameter", "is_test", "read_test", "Handler"]
def loose2 : List PySem.Str := ["read_first", "read_line", "read_line_handlers", "read_deed", "read_new", "read_move", "read_set", "read_each", "Schema", "read_line_schemas", "read_table", "read_owner", "read_follow", "_law_schema_of", "_law_forest", "_law_get_named", "_law_handler_told", "_law_get_state", "_law_draw", "_law_get_words", "_law_get_chain", "_law_table_line", "_law_soup_term", "_law_soup_line", "_law_term_error", "_law_line_names", "_law_name_error", "_law_fit_error", "_law_line_error"]
def loose : List PySem.Str := loose1 ++ loose2
abbrev hk : PySem.W.Hook := hookK 6
def ob (s : PySem.W.SharedT) : Al := obsG 6 (HandSHeadRun.getT s)
theorem ob_eq (s : PySem.W.SharedT) : ob s = hk.obs s.abs := obsG_eq (HandSHeadRun.getT_eq s)
def frag (s : PySem.W.SharedT) : PySem.W.Frag := He.frG (HandSHeadRun.getT s) (asK (HandSHeadRun.getT s) 6)
abbrev qv : Program := PySem.W.view R.prog [64]
abbrev Xq : Shared → Bool := fun s => PySem.W.xlAt qv [] s && PySem.W.recOk R.toRowW.records s
noncomputable abbrev endS (w : World) (os : OsState) : Option PySem.W.SharedT := HandSHeadRun.endF (HandSHeadRun.stepQ (HandSHeadRun.denQ HandSHeadRun.tabQ) R.prog w) 12000 R.prog w os
theorem run (w : World) : HandSHeadRun.RunEq R qv hk ob 12000 loose w := by
  intro os
  kernel_rfl
end K23

set_option Elab.async false
set_option linter.all false
set_option maxRecDepth 100000
set_option maxHeartbeats 4000000
/-! rules of our own over the hand layer: calls by bundles, errors with fields, a static method -/
namespace K23
open PySem PySem.Spec PyProof.Rows L2
/-! ### a def by its name, a method by its class -/
structure CalX (P : Program) (w : World) (K : PySem.W.Frag) (mg : Str → Option Value) (base : Heap) (CX : CXT) (k : Nat) (x : Str) (ps : List Str) (sp : Sp) : Prop where
  ex : ∃ (f : Addr) (fd : FuncData), FnOk P w K mg base CX k f fd ps sp ∧ mg x = some (.ref f) ∧ PySem.W.keepIn K (.ref f) = true ∧ Binds K fd ps []
structure MetX (P : Program) (w : World) (K : PySem.W.Frag) (mg : Str → Option Value) (base : Heap) (CX : CXT) (k : Nat) (C : Addr) (m : Str) (ps : List Str) (sp : Sp) (dvs : List V) : Prop where
  cls : Cls K C
  ex : ∃ (f : Addr) (fd : FuncData) (ds : List Value), FnOk P w K mg base CX k f fd ps sp ∧ Meth K C m f ∧ Binds K fd ps ds ∧ Vals dvs ds
structure MakX (P : Program) (w : World) (K : PySem.W.Frag) (mg : Str → Option Value) (base : Heap) (CX : CXT) (k : Nat) (x : Str) (C : Addr) (ps : List Str) (sp : Sp) : Prop where
  ex : ∃ (f : Addr) (fd : FuncData), FnOk P w K mg base CX k f fd ps sp ∧ Mk K C f ∧ mg x = some (.ref C) ∧ Binds K fd ps []
section
variable {X : Cx} {CX : CXT} {j k : Nat} {x m : Str} {ps : List Str} {sp : Sp} {dvs : List V} {E : XK} {p pos apos : Pos} {o e : Expr} {es : List Expr} {ta : TE} {t : TA} {C : Addr}
theorem pe_cx (c : CalX X.prog X.w X.K X.mg X.base CX k x ps sp) (hr : Room j X.A) (hk : k ≤ j) (hx : Passes CX X E) (ha : PA X (e :: es) t) (hg : Gl X x := by rfl)
    (hdb : (x == ("__debug__" : Str)) = false := by decide) (he : starEach (e :: es) X.env = (false, eval e X.env) :: starEach es X.env := by rfl) (hpl : (backTo pos (starEach es X.env)).any (·.1) = false := by rfl) :
    PE X (.Call (.Name x p) (e :: es) [] pos) (tCall sp [] E t) := by
  obtain ⟨f, fd, F, g, kp, b⟩ := c.ex
  exact pe_call F (hr.mono hk) hg g kp b .nil hx ha hdb he hpl
theorem pe_mx {pl : Sem Bool} (c : MetX X.prog X.w X.K X.mg X.base CX k C m ps sp dvs) (hr : Room j X.A) (hk : k ≤ j) (hx : Passes CX X E) (ho : PE X o ta) (ha : PA X (e :: es) t)
    (hst : starEach (e :: es) X.env = (false, eval e X.env) :: starEach es X.env := by rfl) (hpl : (backTo pos (starEach es X.env)).any (·.1) = false := by rfl)
    (ht : eval (.Call (.Attribute o m apos) (e :: es) [] pos) X.env = (do
      let ov ← eval o X.env
      standAt apos.atName
      let (f, first) ← holding [ov] (getMethod ov m pl)
      callWith pos f first (backTo pos (starEach (e :: es) X.env)) (backToKw pos (keywordEach [] X.env))) := by rfl) :
    PE X (.Call (.Attribute o m apos) (e :: es) [] pos) (tMeth C m sp dvs E ta t) := by
  obtain ⟨f, fd, ds, F, g, b, vd⟩ := c.ex
  exact pe_meth ho c.cls g F (hr.mono hk) b vd hx ha hst hpl ht
theorem pe_kx (c : MakX X.prog X.w X.K X.mg X.base CX k x C ps sp) (hr : Room j X.A) (hk : k + 1 ≤ j) (hx : Passes CX X E) (ha : PA X (e :: es) t) (hg : Gl X x := by rfl)
    (hdb : (x == ("__debug__" : Str)) = false := by decide) (he : starEach (e :: es) X.env = (false, eval e X.env) :: starEach es X.env := by rfl) (hpl : (backTo pos (starEach es X.env)).any (·.1) = false := by rfl) :
    PE X (.Call (.Name x p) (e :: es) [] pos) (tMake C sp [] E t) := by
  obtain ⟨f, fd, F, mk, g, b⟩ := c.ex
  exact pe_make mk F (hr.mono hk) hg g b .nil hx ha hdb he hpl
/-- a module's number or text -/
theorem pe_gi {i : Int} (h : ∃ t, X.mg x = some (.int i t)) (hg : Gl X x := by rfl) (hd : (x == ("__debug__" : Str)) = false := by decide) : PE X (.Name x pos) (tC (.int i)) := by
  obtain ⟨t, h⟩ := h
  exact pe_glob hg h ⟨t, rfl⟩ hd
theorem pe_gs {z : Str} (h : ∃ t, X.mg x = some (.str z t)) (hg : Gl X x := by rfl) (hd : (x == ("__debug__" : Str)) = false := by decide) : PE X (.Name x pos) (tC (.str z)) := by
  obtain ⟨t, h⟩ := h
  exact pe_glob hg h ⟨t, rfl⟩ hd
end
/-! ### the errors -/
inductive Er where
  | bad | dup (n : Str) | unk (n : Str) | wtab (n : Str) | wcnt | many
  deriving DecidableEq
def Er.cls : Er → Str
  | .bad => "BadLine"
  | .dup _ => "DuplicateName"
  | .unk _ => "UnknownName"
  | .wtab _ => "WrongTable"
  | .wcnt => "WrongCount"
  | .many => "TooMany"
def Er.name : Er → Option Str
  | .dup n => some n
  | .unk n => some n
  | .wtab n => some n
  | _ => none
def Er.fs (l : Int) (e : Er) : List (Str × V) := match e.name with
  | some n => [("name", .str n), ("line", .int l)]
  | none => [("line", .int l)]
/-- the error er of the line l, its dict at d -/
def ErAt (K : PySem.W.Frag) (l : Int) (er : Er) (cls : Value) (d : Option Addr) (H : Hp) : Prop := cls = .ref (He.ga K er.cls) ∧ ∃ dd, d = some dd ∧ H dd = some (.xd (er.fs l))
/-- what a caller wishes of it: over every heap that keeps G -/
def Rz (K : PySem.W.Frag) (l : Int) (er : Er) (G : Hp) (E : XK) : Prop := ∀ cls d H, Evl.Ex G H → ErAt K l er cls d H → E cls d H
theorem Rz.mono {K : PySem.W.Frag} {l : Int} {er : Er} {G G' : Hp} {E : XK} (h : Rz K l er G E) (e : Evl.Ex G G') : Rz K l er G' E := fun cls d H x y => h cls d H (e.trans x) y
/-! ### their __init__ -/
def spI1 (K : PySem.W.Frag) (x : Str) : Sp := fun vs H Q _ => ∃ (a : Addr) (l : V), vs = [.ref a, l] ∧ H a = some (exo a (He.ga K x) none) ∧ ∀ dx, H dx = none → dx ≠ a → Q .non (upd (upd H dx (exd dx [("line", l)])) a (exo a (He.ga K x) (some dx)))
def spI2 (K : PySem.W.Frag) (x : Str) : Sp := fun vs H Q _ => ∃ (a : Addr) (l n : V), vs = [.ref a, l, n] ∧ H a = some (exo a (He.ga K x) none) ∧
  ∀ dx, H dx = none → dx ≠ a → Q .non (upd (upd (upd H dx (exd dx [("line", l)])) a (exo a (He.ga K x) (some dx))) dx (exd dx [("name", n), ("line", l)]))
structure ExT (K : PySem.W.Frag) (mg : Str → Option Value) (x : Str) (fs : List Str) : Prop where
  g : mg x = some (.ref (He.ga K x))
  o : OexC K (He.ga K x)
  iC : PySem.W.findIn K (.ref (He.ga K x)) "__init__" = some (some (.ref (He.ma K (He.ga K x) "__init__")))
  tI : PySem.W.typeIn K (.ref (He.ma K (He.ga K x) "__init__")) = some (.type "function")
  no : ∀ f ∈ fs, PySem.W.findIn K (.ref (He.ga K x)) f = some none
  xf : XfC K (He.ga K x)
  cl : PySem.W.findIn K (.ref (He.ga K x)) "__class__" = some (some (.builtin "object.__class__"))
  mo : PySem.W.mroIn K (He.ga K x) (.type "object") = some true
  kit : PySem.W.kitOne K (.ref (He.ga K x)) (.ref (He.ga K "AgreeError")) = some true
theorem tail_refs : ∀ l : List Value, PySem.W.excTail PySem.HandSPX.veTail l = true → PySem.HandSPX.refsVE l = true
  | [], h => absurd h (by decide +kernel)
  | a :: r, h => by
    rcases PySem.W.excTail_cases (a :: r) h with ⟨c, q, e, z⟩ | e
    · obtain ⟨e1, e2⟩ := List.cons.inj e
      rw [e1]
      exact tail_refs r (by rw [e2]; exact z)
    · rw [e]; decide +kernel
theorem oex_of {K : PySem.W.Frag} {C : Addr} (q : PySem.W.excInitIn K C PySem.HandSPX.veTail "ValueError.__new__" = true) (hd : PySem.W.hasDictIn K C = true) (sa : PySem.W.findIn K (.ref C) "__setattr__" = some (some (.builtin "object.__setattr__")))
    (ex : PySem.W.subIn K (.ref C) (.type "BaseException") = some true) (ty : PySem.W.typeIn K (.ref C) = some (.type "type")) (kp : PySem.W.keepIn K (.ref C) = true) : OexC K C := by
  refine ⟨?_, sa, ex, ty, kp⟩
  unfold PySem.W.excInitIn at q
  split at q
  · rename_i dd cd sl hl
    split at q
    · rename_i C2 bm a0 a1 a2 a3 n a5 hm hsl
      rw [Bool.and_eq_true, Bool.and_eq_true, Bool.and_eq_true, beq_iff_eq, beq_iff_eq, Bool.not_eq_true'] at q
      obtain ⟨⟨⟨q1, q2⟩, q3⟩, q4⟩ := q
      obtain ⟨v1, v2, v3, v4, v5, v6, v7, v8, v9, v10, v11⟩ := cd
      dsimp only at hm q3
      have hdict : v6 = true := by
        unfold PySem.W.hasDictIn PySem.W.clsIn at hd
        rw [hl] at hd
        exact hd
      have esl : sl = #[a0, a1, a2, a3, some (.builtin n), a5] := by
        cases sl with
        | mk l => exact congrArg Array.mk hsl
      subst hm q1 q2 q3 hdict esl
      exact ⟨_, _, _, _, bm, _, _, _, _, dd, _, _, _, _, _, hl, tail_refs bm q4⟩
    · cases q
  · cases q
end K23

set_option Elab.async false
set_option linter.all false
set_option maxRecDepth 100000
set_option maxHeartbeats 4000000
/-! the package's errors: their __init__, how they are raised -/
namespace K23
open PySem PySem.Spec PyProof.Rows L2
section
variable {P : Program} {w : World} {K : PySem.W.Frag} {mg : Str → Option Value} {base : Heap}
theorem ext_of (T : Txt K mg) {x : Str} {fs : List Str} (h : (x, fs) ∈ excs) (g : mg x = some (.ref (He.ga K x))) : ExT K mg x fs := by
  have h1 := List.all_eq_true.mp (He.ba T.says.ex).1 _ h
  obtain ⟨a1, h1⟩ := He.ba h1
  obtain ⟨a2, h1⟩ := He.ba h1
  obtain ⟨a3, h1⟩ := He.ba h1
  obtain ⟨a4, h1⟩ := He.ba h1
  obtain ⟨a5, h1⟩ := He.ba h1
  obtain ⟨a6, h1⟩ := He.ba h1
  obtain ⟨a7, h1⟩ := He.ba h1
  obtain ⟨a8, h1⟩ := He.ba h1
  obtain ⟨a9, h1⟩ := He.ba h1
  obtain ⟨a10, h1⟩ := He.ba h1
  obtain ⟨a11, h1⟩ := He.ba h1
  obtain ⟨a12, a13⟩ := He.ba h1
  exact ⟨g, oex_of a1 a2 (He.eqO_ok a3) (of_decide_eq_true a4) (of_decide_eq_true a5) a6, He.eqO_ok a7, of_decide_eq_true a8, fun f hf => He.eqO_ok (List.all_eq_true.mp a9 f hf), xfB_ok a10, He.eqO_ok a11, of_decide_eq_true a12, of_decide_eq_true a13⟩
theorem ex_BadLine (T : Txt K mg) : ExT K mg "BadLine" ["line"] := ext_of T (List.mem_of_getElem? (i := 0) rfl) T.g_BadLine
theorem ex_DuplicateName (T : Txt K mg) : ExT K mg "DuplicateName" ["line", "name"] := ext_of T (List.mem_of_getElem? (i := 1) rfl) T.g_DuplicateName
theorem ex_UnknownName (T : Txt K mg) : ExT K mg "UnknownName" ["line", "name"] := ext_of T (List.mem_of_getElem? (i := 2) rfl) T.g_UnknownName
theorem ex_WrongTable (T : Txt K mg) : ExT K mg "WrongTable" ["line", "name"] := ext_of T (List.mem_of_getElem? (i := 3) rfl) T.g_WrongTable
theorem ex_WrongCount (T : Txt K mg) : ExT K mg "WrongCount" ["line"] := ext_of T (List.mem_of_getElem? (i := 4) rfl) T.g_WrongCount
theorem ex_TooMany (T : Txt K mg) : ExT K mg "TooMany" ["line"] := ext_of T (List.mem_of_getElem? (i := 5) rfl) T.g_TooMany
theorem ok_BadLine_init (T : Txt K mg) : ∃ fd, FnOk P w K mg base (L2.CX P w) 1 (He.ma K (He.ga K "BadLine") "__init__") fd ["self", "line"] (spI1 K "BadLine") ∧ Binds K fd ["self", "line"] [] := by
  obtain ⟨fd, F⟩ := T.f_BadLine_init
  have X := ex_BadLine T
  refine ⟨fd, F.ok sc_BadLine_init (fun vs H Q E h => ?_) (fun cdv A outer s H vs Q E hr h => ?_), F.bindsN fun _ _ _ _ _ _ us hl => ?_⟩
  · obtain ⟨a, l, rfl, _⟩ := h; rfl
  · obtain ⟨a, l, rfl, ha, q⟩ := h
    refine ⟨_, pss_one (ps_ost (pv 0) (pv 1)), ?_⟩
    exact ⟨_, rfl, _, rfl, a, _, rfl, X.o, X.no _ (by decide), .inl ⟨ha, fun dx hd ne => q dx hd ne⟩⟩
  · match us, hl with
    | [_, _], _ => rfl
theorem ok_DuplicateName_init (T : Txt K mg) : ∃ fd, FnOk P w K mg base (L2.CX P w) 1 (He.ma K (He.ga K "DuplicateName") "__init__") fd ["self", "line", "name"] (spI2 K "DuplicateName") ∧ Binds K fd ["self", "line", "name"] [] := by
  obtain ⟨fd, F⟩ := T.f_DuplicateName_init
  have X := ex_DuplicateName T
  refine ⟨fd, F.ok sc_DuplicateName_init (fun vs H Q E h => ?_) (fun cdv A outer s H vs Q E hr h => ?_), F.bindsN fun _ _ _ _ _ _ us hl => ?_⟩
  · obtain ⟨a, l, n, rfl, _⟩ := h; rfl
  · obtain ⟨a, l, n, rfl, ha, q⟩ := h
    refine ⟨_, pss_cons (ps_ost (pv 0) (pv 1)) (pss_one (ps_ost (pv 0) (pv 2))), ?_⟩
    refine ⟨_, rfl, _, rfl, a, _, rfl, X.o, X.no _ (by decide), .inl ⟨ha, fun dx hd ne => ?_⟩⟩
    refine ⟨_, rfl, _, rfl, a, _, rfl, X.o, X.no _ (by decide), .inr ⟨dx, [("line", l)], upd_same, ?_, (by show 1 ≤ 900; decide), q dx hd ne⟩⟩
    rw [upd_ne ne]; exact upd_same
  · match us, hl with
    | [_, _, _], _ => rfl
theorem ok_UnknownName_init (T : Txt K mg) : ∃ fd, FnOk P w K mg base (L2.CX P w) 1 (He.ma K (He.ga K "UnknownName") "__init__") fd ["self", "line", "name"] (spI2 K "UnknownName") ∧ Binds K fd ["self", "line", "name"] [] := by
  obtain ⟨fd, F⟩ := T.f_UnknownName_init
  have X := ex_UnknownName T
  refine ⟨fd, F.ok sc_UnknownName_init (fun vs H Q E h => ?_) (fun cdv A outer s H vs Q E hr h => ?_), F.bindsN fun _ _ _ _ _ _ us hl => ?_⟩
  · obtain ⟨a, l, n, rfl, _⟩ := h; rfl
  · obtain ⟨a, l, n, rfl, ha, q⟩ := h
    refine ⟨_, pss_cons (ps_ost (pv 0) (pv 1)) (pss_one (ps_ost (pv 0) (pv 2))), ?_⟩
    refine ⟨_, rfl, _, rfl, a, _, rfl, X.o, X.no _ (by decide), .inl ⟨ha, fun dx hd ne => ?_⟩⟩
    refine ⟨_, rfl, _, rfl, a, _, rfl, X.o, X.no _ (by decide), .inr ⟨dx, [("line", l)], upd_same, ?_, (by show 1 ≤ 900; decide), q dx hd ne⟩⟩
    rw [upd_ne ne]; exact upd_same
  · match us, hl with
    | [_, _, _], _ => rfl
theorem ok_WrongTable_init (T : Txt K mg) : ∃ fd, FnOk P w K mg base (L2.CX P w) 1 (He.ma K (He.ga K "WrongTable") "__init__") fd ["self", "line", "name"] (spI2 K "WrongTable") ∧ Binds K fd ["self", "line", "name"] [] := by
  obtain ⟨fd, F⟩ := T.f_WrongTable_init
  have X := ex_WrongTable T
  refine ⟨fd, F.ok sc_WrongTable_init (fun vs H Q E h => ?_) (fun cdv A outer s H vs Q E hr h => ?_), F.bindsN fun _ _ _ _ _ _ us hl => ?_⟩
  · obtain ⟨a, l, n, rfl, _⟩ := h; rfl
  · obtain ⟨a, l, n, rfl, ha, q⟩ := h
    refine ⟨_, pss_cons (ps_ost (pv 0) (pv 1)) (pss_one (ps_ost (pv 0) (pv 2))), ?_⟩
    refine ⟨_, rfl, _, rfl, a, _, rfl, X.o, X.no _ (by decide), .inl ⟨ha, fun dx hd ne => ?_⟩⟩
    refine ⟨_, rfl, _, rfl, a, _, rfl, X.o, X.no _ (by decide), .inr ⟨dx, [("line", l)], upd_same, ?_, (by show 1 ≤ 900; decide), q dx hd ne⟩⟩
    rw [upd_ne ne]; exact upd_same
  · match us, hl with
    | [_, _, _], _ => rfl
theorem ok_WrongCount_init (T : Txt K mg) : ∃ fd, FnOk P w K mg base (L2.CX P w) 1 (He.ma K (He.ga K "WrongCount") "__init__") fd ["self", "line"] (spI1 K "WrongCount") ∧ Binds K fd ["self", "line"] [] := by
  obtain ⟨fd, F⟩ := T.f_WrongCount_init
  have X := ex_WrongCount T
  refine ⟨fd, F.ok sc_WrongCount_init (fun vs H Q E h => ?_) (fun cdv A outer s H vs Q E hr h => ?_), F.bindsN fun _ _ _ _ _ _ us hl => ?_⟩
  · obtain ⟨a, l, rfl, _⟩ := h; rfl
  · obtain ⟨a, l, rfl, ha, q⟩ := h
    refine ⟨_, pss_one (ps_ost (pv 0) (pv 1)), ?_⟩
    exact ⟨_, rfl, _, rfl, a, _, rfl, X.o, X.no _ (by decide), .inl ⟨ha, fun dx hd ne => q dx hd ne⟩⟩
  · match us, hl with
    | [_, _], _ => rfl
theorem ok_TooMany_init (T : Txt K mg) : ∃ fd, FnOk P w K mg base (L2.CX P w) 1 (He.ma K (He.ga K "TooMany") "__init__") fd ["self", "line"] (spI1 K "TooMany") ∧ Binds K fd ["self", "line"] [] := by
  obtain ⟨fd, F⟩ := T.f_TooMany_init
  have X := ex_TooMany T
  refine ⟨fd, F.ok sc_TooMany_init (fun vs H Q E h => ?_) (fun cdv A outer s H vs Q E hr h => ?_), F.bindsN fun _ _ _ _ _ _ us hl => ?_⟩
  · obtain ⟨a, l, rfl, _⟩ := h; rfl
  · obtain ⟨a, l, rfl, ha, q⟩ := h
    refine ⟨_, pss_one (ps_ost (pv 0) (pv 1)), ?_⟩
    exact ⟨_, rfl, _, rfl, a, _, rfl, X.o, X.no _ (by decide), .inl ⟨ha, fun dx hd ne => q dx hd ne⟩⟩
  · match us, hl with
    | [_, _], _ => rfl
end
/-! ### raise X(line), raise X(line, name) -/
section
variable {X : Cx} {ta : TA} {e : Expr} {es : List Expr} {p pos pos2 : Pos} {W : WX} {k : Nat} {x : Str}
def tRz1 (C : Addr) (W : WX) (ta : TA) : TS := fun _ σ H => ta σ H fun vs H1 => ∃ l : V, vs = [l] ∧ ∀ d, H1 d = none → W (.ref C) (some d) σ (upd H1 d (.xd [("line", l)]))
def tRz2 (C : Addr) (W : WX) (ta : TA) : TS := fun _ σ H => ta σ H fun vs H1 => ∃ l n : V, vs = [l, n] ∧ ∀ d, H1 d = none → W (.ref C) (some d) σ (upd H1 d (.xd [("name", n), ("line", l)]))
theorem passI {E : XK} : Passes (L2.CX X.prog X.w) X (fun _ _ _ => False) := passL
theorem del_back1 {H : Hp} {a dx : Addr} {u v w z : HO} (ha : H a = none) (hd : dx ≠ a) : upd (del (upd (upd (upd H a u) dx v) a w) a) dx z = upd H dx z := by
  funext b
  by_cases h1 : b = dx
  · rw [h1, upd_same, upd_same]
  · rw [upd_ne h1, upd_ne h1]
    by_cases h2 : b = a
    · rw [h2, del_same, ha]
    · rw [del_ne h2, upd_ne h2, upd_ne h1, upd_ne h2]
theorem del_back2 {H : Hp} {a dx : Addr} {u v w y z : HO} (ha : H a = none) (hd : dx ≠ a) : upd (del (upd (upd (upd (upd H a u) dx v) a w) dx y) a) dx z = upd H dx z := by
  funext b
  by_cases h1 : b = dx
  · rw [h1, upd_same, upd_same]
  · rw [upd_ne h1, upd_ne h1]
    by_cases h2 : b = a
    · rw [h2, del_same, ha]
    · rw [del_ne h2, upd_ne h1, upd_ne h2, upd_ne h1, upd_ne h2]
/-- arguments whose end may be weakened -/
def taM (ta : TA) : TA := fun σ H Q => ∃ Q0 : List V → Hp → Prop, ta σ H Q0 ∧ ∀ vs H1, Q0 vs H1 → Q vs H1
theorem pa_mono (ha : PA X (e :: es) ta) : PA X (e :: es) (taM ta) := ⟨fun pos pins s σ H Q I ⟨Q0, q, m⟩ =>
  thn (ha.run pos pins s σ H Q0 I q) fun us s1 ⟨vs, H1, I1, r, z⟩ => ⟨vs, H1, I1, r, m vs H1 z⟩⟩
theorem ps_rz1 {fd : FuncData} {ps : List Str} {f : Addr} (T : ExT X.K X.mg x ["line"]) (ef : f = He.ma X.K (He.ga X.K x) "__init__") (F : FnOk X.prog X.w X.K X.mg X.base (L2.CX X.prog X.w) 1 f fd ps (spI1 X.K x)) (hb : Binds X.K fd ps []) (hr : Room k X.A) (hk : 2 ≤ k)
    (hc : X.calm = true) (tk : Takes X W) (ha : PA X (e :: es) ta) (hg : Gl X x := by rfl) (hdb : (x == ("__debug__" : Str)) = false := by decide)
    (he : starEach (e :: es) X.env = (false, eval e X.env) :: starEach es X.env := by rfl) (hpl : (backTo pos (starEach es X.env)).any (·.1) = false := by rfl) :
    PS X (.Raise (some (.Call (.Name x p) (e :: es) [] pos)) none pos2) (tRz1 (He.ga X.K x) W ta) := by
  subst ef
  have h := ps_raise (pos := pos2) hc tk (pmk_oex (p := p) (pos := pos) T.o T.iC T.tI F (hr.mono hk) hb .nil passL hg T.g (pa_mono ha) hdb he hpl)
  refine ⟨fun pins s σ H D I q => h.run pins s σ H D I ⟨_, q, ?_⟩⟩
  rintro vs H1 ⟨l, rfl, z⟩
  refine ⟨by simp, fun a hna => ⟨a, l, rfl, upd_same, fun dx hd ne => ?_⟩⟩
  have hd1 : H1 dx = none := by rw [← hd, upd_ne ne]
  refine ⟨rfl, dx, [("line", l)], upd_same, ?_, hd1, ?_⟩
  · rw [upd_ne ne]; exact upd_same
  · rw [del_back1 hna ne]; exact z dx hd1
theorem ps_rz2 {fd : FuncData} {ps : List Str} {f : Addr} (T : ExT X.K X.mg x ["line", "name"]) (ef : f = He.ma X.K (He.ga X.K x) "__init__") (F : FnOk X.prog X.w X.K X.mg X.base (L2.CX X.prog X.w) 1 f fd ps (spI2 X.K x)) (hb : Binds X.K fd ps []) (hr : Room k X.A) (hk : 2 ≤ k)
    (hc : X.calm = true) (tk : Takes X W) (ha : PA X (e :: es) ta) (hg : Gl X x := by rfl) (hdb : (x == ("__debug__" : Str)) = false := by decide)
    (he : starEach (e :: es) X.env = (false, eval e X.env) :: starEach es X.env := by rfl) (hpl : (backTo pos (starEach es X.env)).any (·.1) = false := by rfl) :
    PS X (.Raise (some (.Call (.Name x p) (e :: es) [] pos)) none pos2) (tRz2 (He.ga X.K x) W ta) := by
  subst ef
  have h := ps_raise (pos := pos2) hc tk (pmk_oex (p := p) (pos := pos) T.o T.iC T.tI F (hr.mono hk) hb .nil passL hg T.g (pa_mono ha) hdb he hpl)
  refine ⟨fun pins s σ H D I q => h.run pins s σ H D I ⟨_, q, ?_⟩⟩
  rintro vs H1 ⟨l, n, rfl, z⟩
  refine ⟨by simp, fun a hna => ⟨a, l, n, rfl, upd_same, fun dx hd ne => ?_⟩⟩
  have hd1 : H1 dx = none := by rw [← hd, upd_ne ne]
  refine ⟨rfl, dx, _, ?_, upd_same, hd1, ?_⟩
  · rw [upd_ne (Ne.symm ne)]; exact upd_same
  · rw [del_back2 hna ne]; exact z dx hd1
end
section
variable {X : Cx} {ta : TA} {e : Expr} {es : List Expr} {p pos pos2 : Pos} {W : WX} {k : Nat}
theorem rz_BadLine (T : Txt X.K X.mg) (hr : Room k X.A) (hk : 2 ≤ k) (hc : X.calm = true) (tk : Takes X W) (ha : PA X (e :: es) ta) (hg : Gl X "BadLine" := by rfl)
    (he : starEach (e :: es) X.env = (false, eval e X.env) :: starEach es X.env := by rfl) (hpl : (backTo pos (starEach es X.env)).any (·.1) = false := by rfl) :
    PS X (.Raise (some (.Call (.Name "BadLine" p) (e :: es) [] pos)) none pos2) (tRz1 (He.ga X.K "BadLine") W ta) := by
  obtain ⟨fd, F, b⟩ := ok_BadLine_init (P := X.prog) (w := X.w) (base := X.base) T
  exact ps_rz1 (ex_BadLine T) rfl F b hr hk hc tk ha hg (by decide) he hpl
theorem rz_DuplicateName (T : Txt X.K X.mg) (hr : Room k X.A) (hk : 2 ≤ k) (hc : X.calm = true) (tk : Takes X W) (ha : PA X (e :: es) ta) (hg : Gl X "DuplicateName" := by rfl)
    (he : starEach (e :: es) X.env = (false, eval e X.env) :: starEach es X.env := by rfl) (hpl : (backTo pos (starEach es X.env)).any (·.1) = false := by rfl) :
    PS X (.Raise (some (.Call (.Name "DuplicateName" p) (e :: es) [] pos)) none pos2) (tRz2 (He.ga X.K "DuplicateName") W ta) := by
  obtain ⟨fd, F, b⟩ := ok_DuplicateName_init (P := X.prog) (w := X.w) (base := X.base) T
  exact ps_rz2 (ex_DuplicateName T) rfl F b hr hk hc tk ha hg (by decide) he hpl
theorem rz_UnknownName (T : Txt X.K X.mg) (hr : Room k X.A) (hk : 2 ≤ k) (hc : X.calm = true) (tk : Takes X W) (ha : PA X (e :: es) ta) (hg : Gl X "UnknownName" := by rfl)
    (he : starEach (e :: es) X.env = (false, eval e X.env) :: starEach es X.env := by rfl) (hpl : (backTo pos (starEach es X.env)).any (·.1) = false := by rfl) :
    PS X (.Raise (some (.Call (.Name "UnknownName" p) (e :: es) [] pos)) none pos2) (tRz2 (He.ga X.K "UnknownName") W ta) := by
  obtain ⟨fd, F, b⟩ := ok_UnknownName_init (P := X.prog) (w := X.w) (base := X.base) T
  exact ps_rz2 (ex_UnknownName T) rfl F b hr hk hc tk ha hg (by decide) he hpl
theorem rz_WrongTable (T : Txt X.K X.mg) (hr : Room k X.A) (hk : 2 ≤ k) (hc : X.calm = true) (tk : Takes X W) (ha : PA X (e :: es) ta) (hg : Gl X "WrongTable" := by rfl)
    (he : starEach (e :: es) X.env = (false, eval e X.env) :: starEach es X.env := by rfl) (hpl : (backTo pos (starEach es X.env)).any (·.1) = false := by rfl) :
    PS X (.Raise (some (.Call (.Name "WrongTable" p) (e :: es) [] pos)) none pos2) (tRz2 (He.ga X.K "WrongTable") W ta) := by
  obtain ⟨fd, F, b⟩ := ok_WrongTable_init (P := X.prog) (w := X.w) (base := X.base) T
  exact ps_rz2 (ex_WrongTable T) rfl F b hr hk hc tk ha hg (by decide) he hpl
theorem rz_WrongCount (T : Txt X.K X.mg) (hr : Room k X.A) (hk : 2 ≤ k) (hc : X.calm = true) (tk : Takes X W) (ha : PA X (e :: es) ta) (hg : Gl X "WrongCount" := by rfl)
    (he : starEach (e :: es) X.env = (false, eval e X.env) :: starEach es X.env := by rfl) (hpl : (backTo pos (starEach es X.env)).any (·.1) = false := by rfl) :
    PS X (.Raise (some (.Call (.Name "WrongCount" p) (e :: es) [] pos)) none pos2) (tRz1 (He.ga X.K "WrongCount") W ta) := by
  obtain ⟨fd, F, b⟩ := ok_WrongCount_init (P := X.prog) (w := X.w) (base := X.base) T
  exact ps_rz1 (ex_WrongCount T) rfl F b hr hk hc tk ha hg (by decide) he hpl
theorem rz_TooMany (T : Txt X.K X.mg) (hr : Room k X.A) (hk : 2 ≤ k) (hc : X.calm = true) (tk : Takes X W) (ha : PA X (e :: es) ta) (hg : Gl X "TooMany" := by rfl)
    (he : starEach (e :: es) X.env = (false, eval e X.env) :: starEach es X.env := by rfl) (hpl : (backTo pos (starEach es X.env)).any (·.1) = false := by rfl) :
    PS X (.Raise (some (.Call (.Name "TooMany" p) (e :: es) [] pos)) none pos2) (tRz1 (He.ga X.K "TooMany") W ta) := by
  obtain ⟨fd, F, b⟩ := ok_TooMany_init (P := X.prog) (w := X.w) (base := X.base) T
  exact ps_rz1 (ex_TooMany T) rfl F b hr hk hc tk ha hg (by decide) he hpl
end
end K23

set_option Elab.async false
set_option linter.all false
set_option maxRecDepth 100000
set_option maxHeartbeats 4000000
/-! operations that the layer lacks: a static method called on its class, a class's number, xs[1::2], a great power, a sign repeated, dict(d), d.update(d2) -/
namespace K23
open PySem PySem.Spec PyProof.Rows L2
/-! ### a static method -/
structure StaX (P : Program) (w : World) (K : PySem.W.Frag) (mg : Str → Option Value) (base : Heap) (CX : CXT) (k : Nat) (C : Addr) (m : Str) (ps : List Str) (sp : Sp) : Prop where
  rd : ClX.CRead K C (.type "type")
  ex : ∃ (p f : Addr) (fd : FuncData) (rest : List Value), PySem.W.findCls K (.ref C) (.type "type") m = some (.get (.builtin "staticmethod.__get__") (.ref p) .none (.ref C)) ∧ PySem.W.recIn K p "staticmethod" = some (.ref f :: rest) ∧
    FnOk P w K mg base CX k f fd ps sp ∧ PySem.W.keepIn K (.ref f) = true ∧ Binds K fd ps []
def tSta (C : Addr) (sp : Sp) (E : XK) (ta : TE) (t : TA) : TE := fun σ H Q => ta σ H fun x H1 => x = .ref C ∧ t σ H1 fun vs H2 => sp vs H2 Q E
section
variable {X : Cx} {CX : CXT} {j k : Nat} {x m : Str} {ps : List Str} {sp : Sp} {E : XK} {p pos apos : Pos} {o e : Expr} {es : List Expr} {ta : TE} {t : TA} {C : Addr}
theorem pe_sta {pl : Sem Bool} (c : StaX X.prog X.w X.K X.mg X.base CX k C m ps sp) (hr : Room j X.A) (hk : k ≤ j) (hx : Passes CX X E) (ho : PE X o ta) (ha : PA X (e :: es) t)
    (hst : starEach (e :: es) X.env = (false, eval e X.env) :: starEach es X.env := by rfl) (hpl : (backTo pos (starEach es X.env)).any (·.1) = false := by rfl)
    (ht : eval (.Call (.Attribute o m apos) (e :: es) [] pos) X.env = (do
      let ov ← eval o X.env
      standAt apos.atName
      let (f, first) ← holding [ov] (getMethod ov m pl)
      callWith pos f first (backTo pos (starEach (e :: es) X.env)) (backToKw pos (keywordEach [] X.env))) := by rfl) :
    PE X (.Call (.Attribute o m apos) (e :: es) [] pos) (tSta C sp E ta t) := by
  obtain ⟨q0, f, fd, rest, at_, rc, F, kp, b⟩ := c.ex
  refine ⟨fun pins s σ H Q I h => ?_⟩
  refine PySem.W.methodCall_KW (pl := pl) (thn (ho.run pins s σ H _ I h) fun u s1 hh => ?_) ht
  obtain ⟨y, H1, I1, ry, ey, q⟩ := hh
  subst ey
  obtain rfl : u = Value.ref C := ry
  have run : ∀ s2 : Shared, Inv X pins σ H1 s2 → wpAny (model X.prog X.w) X.A (callWith pos (.ref f) [] (backTo pos (starEach (e :: es) X.env)) (backToKw pos (keywordEach [] X.env))) (EP X pins σ Q) X.xe s2 := fun s2 I2 =>
    PySem.W.callWith_K (h₀ := X.base) I.ok.mod.kin kp (thn (ha.run pos pins s2 σ H1 _ I2 q) fun us s3 hz => by
      obtain ⟨vs, H2, I3, r3, q3⟩ := hz
      exact ⟨I3.kIn, run_fn (dvs := []) (ds := []) F (hr.mono hk) b .nil hx I3 r3 (by rw [List.append_nil]; exact q3)⟩) hst hpl
  exact PySem.W.method_cls I1.kIn c.rd.ga (PySem.W.cls_bind I1.kIn c.rd.rd at_ (wpAny_call (PySem.W.sm_get (s := { s1 with toks := s1.toks + 1 }) I1.kIn rc (PySem.W.handed_on rfl (run _ (I1.tok _))))))
/-- a number of a class -/
theorem pe_con1 {f : Str} {i : Int} (g : X.mg x = some (.ref C)) (r : ClX.CRead X.K C (.type "type")) (h : ∃ t, PySem.W.findCls X.K (.ref C) (.type "type") f = some (.val (.int i t))) (hg : Gl X x := by rfl)
    (hd : (x == ("__debug__" : Str)) = false := by decide) (hb : attributeBase (.Name x p) f X.env (eval (.Name x p) X.env) = eval (.Name x p) X.env := by rfl) : PE X (.Attribute (.Name x p) f pos) (tC (.int i)) := by
  obtain ⟨t, h⟩ := h
  have h1 := ClX.pe_cval (f := f) (pos := pos) (pe_glob (pos := p) (v := .ref C) hg g rfl hd) hb
  exact ⟨fun pins s σ H Q I q => h1.run pins s σ H Q I ⟨C, .type "type", .int i, _, rfl, r, ⟨h, t, rfl⟩, q⟩⟩
end
section
variable {X : Cx}
/-! ### xs[1::2] of a list of four -/
def tSl2 (K : PySem.W.Frag) (te : TE) : TE := fun σ H Q => te σ H fun x H1 => ∃ a x0 x1 x2 x3, x = .ref a ∧ SqL K H1 a [x0, x1, x2, x3] ∧ ∀ p, H1 p = none → Q (.ref p) (upd H1 p (.lst [x1, x3]))
theorem pick2 (u0 u1 u2 u3 : Value) : slicePick #[u0, u1, u2, u3] (some 1) none (some 2) = #[u1, u3] := by
  have h : sliceRange (sliceBounds (some 1) none (some 2) 4).1 (sliceBounds (some 1) none (some 2) 4).2.1 (sliceBounds (some 1) none (some 2) 4).2.2 = [1, 3] := by decide +kernel
  unfold slicePick
  show ((sliceRange (sliceBounds (some 1) none (some 2) 4).1 (sliceBounds (some 1) none (some 2) 4).2.1 (sliceBounds (some 1) none (some 2) 4).2.2).filterMap _).toArray = _
  rw [h]
  rfl
theorem pe_sl2 {e : Expr} {te : TE} {j1 j2 : Nat} {p1 p2 p3 pos : Pos} (he : PE X e te) : PE X (.Subscript e (.Slice (some (.Constant (.int 1) j1 p1)) none (some (.Constant (.int 2) j2 p2)) p3) pos) (tSl2 X.K te) := by
  refine ⟨fun pins s σ H Q I h => ?_⟩
  refine Subscript_ (thn (he.run pins s σ H _ I h) fun v s1 hz => ?_)
  obtain ⟨x, H1, I1, rx, a, x0, x1, x2, x3, ex, hx, q⟩ := hz
  subst ex
  cases rx
  have g1 : PO X (some (.Constant (.int 1) j1 p1)) (tPart (tC (.int 1))) := po_some pe_int
  have g2 : PO X (some (.Constant (.int 2) j2 p2)) (tPart (tC (.int 2))) := po_some pe_int
  refine wpAny_Slice (thn (g1.run pins s1 σ H1 (fun o K2 => o = some 1 ∧ K2 = H1) I1 ⟨1, rfl, rfl, rfl⟩) fun va s2 y1 => ?_)
  obtain ⟨o1, K1, J1, pa, eo1, eK1⟩ := y1
  subst eo1 eK1
  refine thn (po_none.run pins s2 σ K1 (fun o K2 => o = none ∧ K2 = K1) J1 ⟨rfl, rfl⟩) fun vb s3 y2 => ?_
  obtain ⟨o2, K2, J2, pb, eo2, eK2⟩ := y2
  subst eo2 eK2
  refine thn (g2.run pins s3 σ K2 (fun o K3 => o = some 2 ∧ K3 = K2) J2 ⟨2, rfl, rfl, rfl⟩) fun vc s4 y3 => ?_
  obtain ⟨o3, K3, J3, pc, eo3, eK3⟩ := y3
  subst eo3 eK3
  have J4 : Inv X pins σ K3 { s4 with heap := s4.heap.push { cls := .type "slice", data := .fields #[va, vb, vc] } } := J3.kept (t' := s4.toks) fun b ob z => Heap.get?_push_of_some _ z
  obtain ⟨its, r, ht, hz⟩ := J4.list hx
  obtain ⟨w0, w1, w2, w3, rfl, r0, r1, r2, r3⟩ : ∃ w0 w1 w2 w3, its = [w0, w1, w2, w3] ∧ RelV x0 w0 ∧ RelV x1 w1 ∧ RelV x2 w2 ∧ RelV x3 w3 := by
    cases r with
    | cons a0 r => cases r with
      | cons a1 r => cases r with
        | cons a2 r => cases r with
          | cons a3 r => cases r with
            | nil => exact ⟨_, _, _, _, rfl, a0, a1, a2, a3⟩
  refine tail_any (ops := [.ref a, .ref s4.heap.objs.size]) ht.isList.typeIs PySem.slot_list_getitem.lookup ?_ (by with_unfolding_all rfl)
  refine wpAny_getItem_list_slice ht.isList (Heap.IsSliceOf.new _ va vb vc) pa pb pc (by decide) ?_ (by show 4 ≤ sizeLine; decide)
  rw [pick2]
  refine ⟨.ref _, _, J4.laid (t' := s4.toks) (o := .lst [x1, x3]) (fun b ob z => Heap.get?_push_of_some _ z) (Nat.le_refl _) ?_, rfl, q _ (J4.hok.fresh (Nat.le_refl _))⟩
  exact ⟨by show 2 ≤ sizeLine; decide, [w1, w3], 0, .cons r1 (.cons r3 .nil), Heap.get?_push_size _ rfl⟩
/-! ### a power -/
def CPowW (i j : Int) : Prop := 0 ≤ j ∧ (Builtin.Int.intBits i : Int) * j ≤ 2 ^ 27
theorem op_powW : OpR X (binaryOp .Pow) (rI CPowW fun i j => .int (i ^ j.toNat)) := opI fun _ _ _ _ _ _ _ hc q => pow_int hc.1 hc.2 q
/-! ### a sign, n times -/
def repS (c : Nat) (n : Int) : Str := ⟨(List.replicate n.toNat c).toArray⟩
theorem rep_eq (c : Nat) : ∀ n : Nat, (List.replicate n (#[c] : Array Nat)).foldl (· ++ ·) #[] = (List.replicate n c).toArray := by
  have key : ∀ (n : Nat) (acc : Array Nat), (List.replicate n (#[c] : Array Nat)).foldl (· ++ ·) acc = acc ++ (List.replicate n c).toArray := by
    intro n
    induction n with
    | zero => intro acc; simp
    | succ n ih =>
      intro acc
      rw [List.replicate_succ, List.foldl_cons, ih, List.replicate_succ]
      apply Array.ext'
      simp
  intro n
  rw [key]
  simp
theorem op_repC : OpR X (binaryOp .Mult) (fun x y H Q => ∃ (c : Nat) (n : Int), x = .str ⟨#[c]⟩ ∧ y = .int n ∧ -100 ≤ n ∧ n ≤ 100 ∧ Q (.str (repS c n)) H) := by
  intro pins s σ H x y u v Q I rx ry h
  obtain ⟨c, n, ex, ey, h1, h2, q⟩ := h
  subst ex ey
  obtain ⟨t, rfl⟩ := rx
  obtain ⟨t2, rfl⟩ := ry
  have f1 : decide (n < -(2 ^ 63 : Int)) = false := decide_eq_false (by omega)
  have f2 : decide (n ≥ (2 ^ 63 : Int)) = false := decide_eq_false (by omega)
  refine PySem.P.mul_str (by rw [f1, f2]; rfl) (fun a b => ?_) (fun a b => ?_) ?_
  · have h3 : (1 : Int) ≤ (2 ^ 63 - 1) / n := Int.le_ediv_of_mul_le (by omega) (by omega)
    show ¬ ((1 : Nat) : Int) > (2 ^ 63 - 1) / n
    omega
  · show decide (1 * n.toNat > sizeLine) = false
    refine decide_eq_false ?_
    rw [sizeLine_eq]
    omega
  · by_cases a : n < 1
    · rw [if_pos a]
      have e : repS c n = Str.empty := by
        unfold repS
        rw [show n.toNat = 0 by omega]
        rfl
      rw [e] at q
      exact ⟨by decide, ⟨.str Str.empty, H, I.tok _, ⟨_, rfl⟩, q⟩⟩
    · rw [if_neg a]
      by_cases b : n = 1
      · subst b
        exact ⟨.str (repS c 1), H, I, ⟨_, rfl⟩, q⟩
      · have b2 : (n == 1 || (⟨#[c]⟩ : Str).length == 0) = false := by
          have : (n == 1) = false := by simpa using b
          rw [this]
          rfl
        rw [b2, if_neg Bool.false_ne_true]
        show (Made.str ⟨(List.replicate n.toNat (#[c] : Array Nat)).foldl (· ++ ·) #[]⟩).post _ _
        rw [rep_eq]
        refine ⟨?_, ⟨.str (repS c n), H, I.tok _, ⟨_, rfl⟩, q⟩⟩
        show (List.replicate n.toNat c).toArray.size ≤ sizeLine
        rw [List.size_toArray, List.length_replicate, sizeLine_eq]
        omega
end
section
variable {X : Cx}
/-! ### dict(d), d.update(d2) -/
theorem call_dictC : CallR X (.type "dict") (fun xs H Q => ∃ (a : Addr) (kvs : List (Key × V)), xs = [.ref a] ∧ H a = some (.dK kvs) ∧ ∀ p, H p = none → Q (.ref p) (upd H p (.dK kvs))) := by
  intro pins s σ H xs us Q I r h
  obtain ⟨a, kvs, rfl, ha, q⟩ := h
  obtain ⟨u, rfl, ru⟩ := vals1 r
  cases ru
  obtain ⟨hl, hm, vs, rel, hd⟩ := (show ObjOk X.prog X.w H s.heap a (.dK kvs) from I.hok a _ ha)
  have hlv : vs.length ≤ sizeLine := by rw [← Paired.length rel]; exact hl
  obtain ⟨hp, g, dr, tk, os⟩ := s
  refine kt_call_dict hm hd hlv fun h' hd' hs => ?_
  have k : ∀ b o, hp.get? b = some o → h'.get? b = some o := fun b o e => (hs.2 b (Nat.ne_of_lt (Heap.lt_size e))).trans (Heap.get?_push_of_some _ e)
  have hm2 : (hp.objs.size == sysModules) = false := beq_eq_false_iff_ne.mpr (Nat.ne_of_gt I.big)
  exact ⟨.ref hp.objs.size, _, I.laid (t' := tk) (o := .dK kvs) k (Nat.le_refl _) ⟨hl, hm2, vs, rel, hd'⟩, rfl, q _ (I.hok.fresh (Nat.le_refl _))⟩
def rUpd : V → List V → Hp → VK → Prop := fun x vs H Q => ∃ (a b : Addr) (kvs more : List (Key × V)), x = .ref a ∧ vs = [.ref b] ∧ a ≠ b ∧ H a = some (.dK kvs) ∧ H b = some (.dK more) ∧ kvs.length + more.length ≤ sizeLine ∧ Q .non (upd H a (.dK (mergeK kvs more)))
theorem mt_update : MtR X "dict.update" rUpd := by
  intro pins s σ H x xs v us Q I rx rv h
  obtain ⟨a, b, kvs, more, rfl, rfl, ne, ha, hb, hl, q⟩ := h
  cases rx
  obtain ⟨u, rfl, ru⟩ := rv.one
  cases ru
  obtain ⟨l1, m1, vs, r1, d1⟩ := (show ObjOk X.prog X.w H s.heap a (.dK kvs) from I.hok a _ ha)
  obtain ⟨l2, m2, rs, r2, d2⟩ := (show ObjOk X.prog X.w H s.heap b (.dK more) from I.hok b _ hb)
  have hsz : vs.length + rs.length ≤ sizeLine := by rw [← Paired.length r1, ← Paired.length r2]; exact hl
  obtain ⟨hp, g, dr, tk, os⟩ := s
  refine call_meetsIn PySem.F.slot_dict_update d1.typeIs PySem.F.entry_dict_update (PySem.F.args_dict_update_2 _ _) (meets_dict_update (mixKind X.prog X.w) a b ne m2) ⟨vs, rs, d1, d2, hsz, fun h' n1 n2 hs => ?_⟩
  refine ⟨.non, _, I.write (t' := tk) (x := a) (e := a) (o := .dK (mergeK kvs more)) (by rw [ha]; trivial) (.inl rfl) (fun b o hb e => (hs.2 b hb).trans e) ⟨_, (show ∃ o, h'.get? a = some o from (by obtain ⟨o, _, _, e, _⟩ := n1; exact ⟨o, e⟩)).choose_spec⟩ ?_, rfl, q⟩
  exact ⟨Nat.le_trans (length_mergeK more kvs) hl, m1, _, KV.merge r2 r1, n1⟩
end
end K23

set_option Elab.async false
set_option linter.all false
set_option maxRecDepth 100000
set_option maxHeartbeats 4000000
/-! a caught error handed to a def; several except clauses with a name -/
namespace K23
open PySem PySem.Spec PyProof.Rows L2
open L2H (RoomH PinOk cxH inv_startH roomH_of)
/-! ### a def that is called while an error p is handled; it raises nothing -/
abbrev SpP := (Addr × Obj) → Sp
structure FnHot (P : Program) (w : World) (K : PySem.W.Frag) (mg : Str → Option Value) (base : Heap) (k : Nat) (f : Addr) (fd : FuncData) (ps : List Str) (sp : SpP) : Prop where
  len : ∀ p vs H Q E, sp p vs H Q E → vs.length = ps.length
  run : ∀ (A : Around) (outer : List Env) (s : Shared) (H : Hp) (args : Args) (us : List Value) (vs : List V) (Q : VK) (E : XK) (p : Addr × Obj), RoomH k A → PinOk outer H s p → Env0 P w K mg base A outer s H → BindsTo s fd args (ps.zip us) → Vals vs us → sp p vs H Q E →
    codeAny (model P w) A (.call (.ref f) args) (CR CX0 outer P w H s Q E) s
theorem fnW_of {P : Program} {w : World} {K : PySem.W.Frag} {mg : Str → Option Value} {base : Heap} {x qual : Str} {params : Arguments} {body : List Stmt} {scope : Scope} {dvs : List V} {kws : List (Str × V)} {f : Addr} {fd : FuncData} {N ps : List Str} {k : Nat} {sp : SpP}
    (F : FunD K x qual params body scope dvs kws f fd) (S : FnScope N ps scope) (len : ∀ p vs H Q E, sp p vs H Q E → vs.length = ps.length)
    (hb : ∀ (cdv : Value) (A : Around) (outer : List Env) (s : Shared) (H : Hp) (vs : List V) (Q : VK) (E : XK) (p : Addr × Obj), RoomH k (A.deeper (envOfC qual scope s.heap.objs.size f cdv)) → sp p vs H Q E →
      ∃ t, PSs (cxH CX0 P w K mg base N qual scope f cdv A outer s H E p).nox body t ∧ t { nx := fun _ H' => Q .non H', rt := Q } (L2.start N vs) H) : FnHot P w K mg base (k + 1) f fd ps sp := by
  obtain ⟨oc, od, dV, kV, doc, pm, an, cdv, ct, osl, rfl, lk, hcd, _, _⟩ := F.ex
  refine ⟨len, ?_⟩
  intro A outer s H args us vs Q E p hr pin e0 bt vr hsp
  have KX : K.In s.heap := e0.mod.kin.keeps fun b o z => (e0.bs b o z).1
  have par : ∀ y ∈ ps.zip us, scope.names.lookup y.1 = some .local ∨ (scope.names.lookup y.1 = some .cell ∧ ((cellsFrom (s.heap.objs.size + 1) scope.names []).lookup y.1).isSome = true) := by
    rintro ⟨n, v⟩ hy
    rcases S.par n (List.of_mem_zip hy).1 with q | q
    · exact Or.inl q
    · exact Or.inr ⟨q, PySem.W.cellsFrom_some _ _ _ (Or.inl q)⟩
  refine codeAny_call_function hr.depth (KX _ _ lk) rfl S.co S.gen rfl (PySem.W.codeRec_of KX hcd) (bt _ _ _ _ ?_)
  refine wpAny_newFunctionEnv_cells S.kind par ?_
  rintro env rfl s1 x
  refine ⟨(e0.mod.nolimit.keeps fun b o z => (e0.bs b o z).1).keeps x.toInCall.keep, codeAny_func ?_⟩
  obtain ⟨t, ht, hq⟩ := hb cdv A outer s H vs Q E p (hr.deeper _) hsp
  have I := inv_startH (CX := CX0) (cd := cdv) (f := f) (qual := qual) (E := E) S pin e0 (len _ _ _ _ _ hsp) vr x
  refine wpAny_mono (ht.nox.run [] s1 (L2.start N vs) H _ I hq) ?_ (fun e s2 z => z)
  intro fl s2 hs
  cases fl with
  | next =>
    obtain ⟨σ2, H2, J, q⟩ := hs
    exact ⟨V.non, H2, J.os, J.bare, J.base, J.hok, rfl, q⟩
  | ret u =>
    obtain ⟨v, σ2, H2, J, rv, q⟩ := hs
    exact ⟨v, H2, J.os, J.bare, J.base, J.hok, rv, q⟩
  | brk =>
    obtain ⟨_, _, _, q⟩ := hs
    exact q.elim
  | cont =>
    obtain ⟨_, _, _, q⟩ := hs
    exact q.elim
def tCallW (sp : SpP) (p : Addr × Obj) (t : TA) : TE := fun σ H Q => t σ H fun vs H1 => sp p vs H1 Q E0
section
variable {X : Cx} {k : Nat} {f : Addr} {fd : FuncData} {ps : List Str} {sp : SpP} {x : Str} {q pos : Pos} {e : Expr} {es : List Expr} {t : TA} {p : Addr × Obj}
theorem pe_callW (F : FnHot X.prog X.w X.K X.mg X.base k f fd ps sp) (hr : RoomH k X.A) (hp : p ∈ X.pn) (hm : X.mg x = some (.ref f)) (hk : PySem.W.keepIn X.K (.ref f) = true) (hb : Binds X.K fd ps []) (ha : PA X (e :: es) t) (hg : Gl X x := by rfl)
    (hdb : (x == ("__debug__" : Str)) = false := by decide) (he : starEach (e :: es) X.env = (false, eval e X.env) :: starEach es X.env := by rfl) (hpl : (backTo pos (starEach es X.env)).any (·.1) = false := by rfl) :
    PE X (.Call (.Name x q) (e :: es) [] pos) (tCallW sp p t) := by
  refine ⟨fun pins s σ H Q I h => wpAny_Call_Name_kw (ld_glob I hg hm ?_ hdb)⟩
  refine PySem.W.callWith_K (h₀ := X.base) I.ok.mod.kin hk (thn (ha.run pos pins s σ H _ I h) fun us s1 hz => ?_) he hpl
  obtain ⟨vs, H1, I1, r, z⟩ := hz
  refine ⟨I1.kIn, ?_⟩
  have hl : us.length = ps.length := by rw [← r.length]; exact F.len _ _ _ _ _ z
  have b := hb s1 us I1.kIn (by rw [List.append_nil]; exact hl)
  rw [List.append_nil] at b
  have P1 := I1.pin p (List.mem_append_left _ hp)
  have pin : PinOk X.stack H1 s1 p := ⟨P1.1, P1.2.1, fun hm => (List.mem_cons.mp (I1.stkSub p.1 hm)).elim P1.2.2.1 P1.2.2.2.1, P1.2.2.2.2⟩
  refine wpAny_call (codeAny_mono (F.run X.A X.stack s1 H1 ⟨us, []⟩ us vs Q E0 p hr pin I1.env0 b r z) ?_)
  intro r2 s2 hq
  cases r2 with
  | error _ => exact False.elim hq
  | ok fl =>
    cases fl with
    | ret u => exact I1.after hq
    | next => exact False.elim hq
    | brk => exact False.elim hq
    | cont => exact False.elim hq
/-- err.f, err pinned at a -/
def tXfW (a : Addr) (d : Addr) (f : Str) (te : TE) : TE := fun σ H Q => te σ H fun x H1 => x = .ref a ∧ ∃ (fs : List (Str × V)) (v : V), H1 d = some (.xd fs) ∧ fs.lookup f = some v ∧ Q v H1
theorem pe_xfW {a C d : Addr} {oe : Obj} {te : TE} {n : Str} (T : XfC X.K C) (hno : PySem.W.findIn X.K (.ref C) n = some none) (hp : (a, oe) ∈ X.pn) (hz : Zc (.ref C) (some d) oe) (hf : ∃ vs, oe.data = .fields vs) (he : PE X e te)
    (hb : attributeBase e n X.env (eval e X.env) = eval e X.env := by rfl) : PE X (.Attribute e n pos) (tXfW a d n te) := by
  refine ⟨fun pins s σ H Q I h => attr_of hb (thn (he.run pins s σ H _ I h) fun u s1 hh => ?_)⟩
  obtain ⟨x, H1, I1, rx, ex, fs, v, ed, l, q⟩ := hh
  subst ex
  obtain rfl : u = Value.ref a := rx
  obtain ⟨vs, hv⟩ := hf
  obtain ⟨mA, hns, rel⟩ := (show ObjOk X.prog X.w H1 s1.heap d (.xd fs) from I1.hok d _ ed)
  obtain ⟨od, ho, hl⟩ := lookIn_ns hns
  obtain ⟨w, hw, rw'⟩ := RelO.some_of (v := v) (o := mA n) (by rw [← l]; exact rel n)
  have J : PySem.W.InstAt s1.heap a oe C (some od) := ⟨(I1.pin (a, oe) (List.mem_append_left _ hp)).1, hz.1, by unfold PySem.W.notCls; rw [hv] <;> rfl, by rw [hz.2]; exact ho⟩
  exact HandSPX.exc_get I1.kIn J T.ga T.gg T.exC (PySem.W.findObj_own T.hdC hno rfl (by rw [hl, hw])) (handed_of rw') ⟨v, H1, I1.tok _, rw', q⟩
/-- isinstance(err, C), err pinned at a -/
def rIsW (K : PySem.W.Frag) (C a d : Addr) : List V → Hp → VK → Prop := fun xs H Q => ∃ (fs : List (Str × V)) (c : V) (cv : Value) (b : Bool), xs = [.ref a, c] ∧ H d = some (.xd fs) ∧ ClsV c cv ∧ PySem.W.kitOne K (.ref C) cv = some b ∧ Q (.bl b) H
theorem call_isW {a C d : Addr} {oe : Obj} {y : Str} {fs0 : List Str} (T : ExT X.K X.mg y fs0) (eC : C = He.ga X.K y) (hn : PySem.W.specialIn X.K (.builtin "object.__class__") "__get__" = some (some (.builtin "getset_descriptor.__get__"))) (ht : PySem.W.takesIn X.K (.builtin "object.__class__") = some true)
    (hp : (a, oe) ∈ X.pn) (hz : Zc (.ref C) (some d) oe) (hf : ∃ vs, oe.data = .fields vs) : CallR X (.builtin "isinstance") (rIsW X.K C a d) := by
  subst eC
  intro pins s σ H xs us Q I r h
  obtain ⟨fs, c, cv, b, rfl, ed, k, e, q⟩ := h
  obtain ⟨u1, u2, rfl, r1, r2⟩ := vals2 r
  have e2 := k.eq r2
  subst e2
  obtain rfl : u1 = Value.ref a := r1
  obtain ⟨vs, hv⟩ := hf
  obtain ⟨mA, hns, _⟩ := (show ObjOk X.prog X.w H s.heap d (.xd fs) from I.hok d _ ed)
  obtain ⟨od, ho, _⟩ := lookIn_ns hns
  have J : PySem.W.InstAt s.heap a oe (He.ga X.K y) (some od) := ⟨(I.pin (a, oe) (List.mem_append_left _ hp)).1, hz.1, by unfold PySem.W.notCls; rw [hv] <;> rfl, by rw [hz.2]; exact ho⟩
  have hcl : (PySem.W.clsIn X.K (He.ga X.K y)).isSome = true := by
    obtain ⟨cd, hc, _⟩ := PySem.W.any_some T.xf.hdC
    rw [hc]; rfl
  exact PySem.W.kia_one (PySem.W.kitx_exc (od := some od) hcl T.xf.ga T.xf.gg T.xf.exC T.cl hn ht T.mo) I.kIn J e (fun z => nomatch z) fun tk => ⟨.bl b, H, I.tok tk, rfl, q⟩
end
end K23

set_option Elab.async false
set_option linter.all false
set_option maxRecDepth 100000
set_option maxHeartbeats 4000000
/-! try: body, several clauses `except x as n: suite` -/
namespace K23
open PySem PySem.Spec PyProof.Rows L2
abbrev Cls1 := Value × (Addr → Value → Option Addr → TS)
/-- behind a suite the name is gone -/
def gone (i : Nat) (D : Ends) : Ends := { nx := fun σ H => D.nx (σ.set i none) H, rt := D.rt, bk := fun σ H => D.bk (σ.set i none) H, ct := fun σ H => D.ct (σ.set i none) H }
/-- the clauses in turn: what each wishes of an error of the body -/
def wNamed (K : PySem.W.Frag) (i : Nat) (Wout : WX) (D : Ends) : List Cls1 → WX
  | [] => Wout
  | p :: r => fun cls d σ H => ∃ b, PySem.W.exmOne K cls p.1 = some b ∧ (b = true → ∀ a, H a = none → p.2 a cls d (gone i D) (σ.set i (some (.ref a))) H) ∧ (b = false → wNamed K i Wout D r cls d σ H)
inductive HdsN (X : Cx) (n : Str) : List ExceptHandler → List Cls1 → Prop
  | nil : HdsN X n [] []
  | cons {x : Str} {c : Value} {ts : Addr → Value → Option Addr → TS} {b0 : Stmt} {suite : List Stmt} {np pos' : Pos} {hds : List ExceptHandler} {l : List Cls1} (hc : Names X x c)
      (hsu : ∀ (a : Addr) (oe : Obj) (cls : Value) (d : Option Addr) (pn : List (Addr × Obj)), Zc cls d oe → (∃ vs, oe.data = .fields vs) → PSs (X.suite a ((a, oe) :: pn)) (b0 :: suite) (ts a cls d)) (r : HdsN X n hds l) :
      HdsN X n (.ExceptHandler (some (.Name x np)) (some n) (b0 :: suite) pos' :: hds) ((c, ts) :: l)
section
variable {X : Cx} {body : List Stmt} {h0 : ExceptHandler} {hds : List ExceptHandler} {l : List Cls1} {pos : Pos} {tb : WX → TS} {Wout : WX} {n : Str} {i : Nat}
theorem ps_try_named (hs : X.stack = X.env :: X.outer) (hf : X.env.frame = some X.env.locals) (hN : X.N.Nodup) (hi : X.N[i]? = some n) (hln : X.env.kindOf n = some .local) (tk : Takes X Wout)
    (hb : ∀ (W : WX) (pn : List (Addr × Obj)) (xe : Value → Shared → Prop), Takes (X.tr pn xe) W → PassesOwn (model X.prog X.w) X.A X.env xe → PSs (X.tr pn xe) body (tb W)) (hh : HdsN X n (h0 :: hds) l) :
    PS X (.Try body (h0 :: hds) [] [] pos) (fun D σ H => tb (wNamed X.K i Wout D l) D σ H) := by
  refine ⟨fun pins s σ H D I h => wpAny_Try_except ?_⟩
  have ok := I.ok
  have fr0 : X.A.frames = some (X.env :: X.outer) := ok.frames.trans (congrArg some hs)
  let post : Value → Shared → Prop := fun e s₁ => wpAny (model X.prog X.w) X.A (noteFrame e X.env) (fun _ s₂ => wpAny (model X.prog X.w) X.A (setFlight e none) (fun _ s₃ => wpAny (model X.prog X.w) X.A (handleBy e X.env (h0 :: hds)) (SP X pins D) X.xe s₃) X.xe s₂) X.xe s₁
  have caught : Takes (X.tr (X.pn ++ pins) post) (wNamed X.K i Wout D l) := by
    rintro u s1 ⟨a, B, sI, pins1, σ1, H1, cls, d, rfl, I1, nb, up, sky, na, os, ag, w0⟩
    have J : Inv X pins σ1 H1 sI := I1.ofTry ok
    have sky1 : Sky B (X.env :: X.outer) a (Zc cls d) X.env.locals s1.heap := by rw [← hs]; exact sky
    show wpAny (model X.prog X.w) X.A (noteFrame (.ref a) X.env) _ _ _
    refine Sky.land Zc.steady fr0 hf sky1 ?_
    intro h3 fl up3
    have J3 : Inv X pins σ1 H1 { s1 with heap := h3 } := J.landed nb fl.1 (up.trans up3) os ag
    obtain ⟨o3, v3, g3, z3, e3⟩ := fl.there
    have off : a ∉ frs (X.env :: X.outer) := fun hm => by
      obtain ⟨_, o', g', no⟩ := fl.2.2.1.mem hm
      have := g3.symm.trans g'
      cases this
      exact no _ e3
    have nL : a ≠ X.env.locals := fun z => off (List.mem_filterMap.mpr ⟨X.env, .head _, by rw [hf, z]⟩)
    have nF : a ∉ X.fs := fun hm => by
      obtain ⟨e, he, q⟩ := List.mem_filterMap.mp hm
      exact off (List.mem_filterMap.mpr ⟨e, .tail _ he, q⟩)
    have S3 := J3.suite g3 e3 na nL nF
    -- one clause behind the other
    suffices turn : ∀ (hs' : List ExceptHandler) (l' : List Cls1), HdsN X n hs' l' → wNamed X.K i Wout D l' cls d σ1 H1 → wpAny (model X.prog X.w) X.A (handleBy (.ref a) X.env hs') (SP X pins D) X.xe { s1 with heap := h3 } from turn _ _ hh w0
    intro hs' l' hk
    induction hk with
    | nil =>
      intro w1
      obtain ⟨k1, k2, k3, oe, vs, T, oT, ts', he, hz, hd, h1, hr⟩ := id fl
      have up2 : wpAny (model X.prog X.w) X.A (setFlight (.ref a) X.env.frame) (fun _ s4 => wpAny (model X.prog X.w) X.A (throw (.ref a) : Sem Flow) (SP X pins D) X.xe s4) X.xe { s1 with heap := h3 } := by
        rw [hf]
        refine HandSPX.setFlight_upZ fl ?_
        intro h4 held up4
        exact wpAny_throw (tk _ _ ⟨a, B, sI, pins, σ1, H1, cls, d, rfl, J, nb, (up.trans up3).trans up4, Or.inr (Or.inr (by rw [hs]; exact held)), na, os, ag, w1⟩)
      refine wpAny_handleBy_nil ?_
      unfold PySem.passOn
      refine wpAny_bind (wpAny_field he hd h1 ?_)
      have nn : ¬ ((Value.ref T == Value.none) = true) := by simp
      rw [if_neg nn]
      first
        | exact wpAny_bind up2
        | exact wpAny_bind (wpAny_pure (wpAny_bind up2))
    | @cons x c ts b0 suite np pos' hds2 l2 hc hsu r ih =>
      rintro ⟨b, hb1, yes, no⟩
      refine wpAny_handleBy_cons (codeAny_handlers_test ?_) (by intro q; cases q)
      have look : PySem.W.Looks (model X.prog X.w) h3 (typeOf (.ref a)) cls := fun A Q E s k q => wpAny_typeOf_ref (k _ _ g3) (by rw [z3.1]; exact q)
      have named : ∀ {Q E : Value → Shared → Prop}, Q c { s1 with heap := h3 } → wpAny (model X.prog X.w) (X.A.mark (some (.ref a))) (eval (.Name x np) X.env) Q E { s1 with heap := h3 } := by
        intro Q E q
        obtain ⟨hg, hdb, hm | ⟨hm, hv, hnn⟩⟩ := hc
        · exact ld_glob (X := X.suite a ((a, o3) :: (X.pn ++ pins))) S3 hg hm q hdb
        · exact ld_blt (X := X.suite a ((a, o3) :: (X.pn ++ pins))) S3 hg hm hv q hnn hdb
      refine named ((PySem.W.exm_one (M := model X.prog X.w) J3.kIn look hb1).here ?_)
      cases b with
      | false =>
        show wpAny _ X.A (handleBy (.ref a) X.env hds2) _ _ _
        exact ih (no rfl)
      | true =>
        refine codeAny_handlers_suite_as ?_
        refine HandSPX.lands_againZ fl ?_
        intro h4 fl4 up4
        obtain ⟨o4, v4, g4, z4, e4⟩ := fl4.there
        have S4 := (J.landed (s' := { s1 with heap := h4 }) nb fl4.1 ((up.trans up3).trans up4) os ag).suite g4 e4 na nL nF
        refine store_ok (X := X.suite a ((a, o4) :: (X.pn ++ pins))) (v := .ref a) S4 hN hi (.inl hln) rfl ?_ (.inr hln)
        intro s5 S5
        have out : ∀ {σ6 : L2.St} {H6 : Hp} {s6 : Shared} {Q : Shared → Prop}, Inv (X.suite a ((a, o4) :: (X.pn ++ pins))) [] σ6 H6 s6 → (∀ s7, Inv X pins (σ6.set i none) H6 s7 → Q s7) →
            wpAny (model X.prog X.w) X.A (do bindName X.env n .none; unbindBehindTheSuite X.env n pos') (fun _ s7 => Q s7) X.xe s6 := fun S6 hq => gone_ok (S6.unsuite ok) hN hi hln hq
        refine wpAny_mono ((hsu a o4 cls d (X.pn ++ pins) z4 ⟨_, e4⟩).run [] s5 _ H1 _ S5 (yes rfl a na)) ?_ (fun _ _ z => z.elim)
        intro fl6 s6 q6
        cases fl6 with
        | next =>
          obtain ⟨_, _, S6, q⟩ := q6
          exact out S6 fun s7 J7 => ⟨_, _, J7, q⟩
        | ret u =>
          obtain ⟨_, _, _, S6, rr, q⟩ := q6
          exact out S6 fun s7 J7 => ⟨_, _, _, J7, rr, q⟩
        | brk =>
          obtain ⟨_, _, S6, q⟩ := q6
          exact out S6 fun s7 J7 => ⟨_, _, J7, q⟩
        | cont =>
          obtain ⟨_, _, S6, q⟩ := q6
          exact out S6 fun s7 J7 => ⟨_, _, J7, q⟩
  refine wpAny_mono ((hb _ (X.pn ++ pins) post caught PassesOwn.looking).run [] s σ H D (I.toTry _) h) ?_ (fun _ _ z => z)
  intro fl s1 q
  cases fl with
  | next =>
    obtain ⟨σ1, H1, J, q⟩ := q
    exact wpAny_execs_nil ⟨σ1, H1, J.ofTry ok, q⟩
  | ret u =>
    obtain ⟨v, σ1, H1, J, rr, q⟩ := q
    exact ⟨v, σ1, H1, J.ofTry ok, rr, q⟩
  | brk =>
    obtain ⟨σ1, H1, J, q⟩ := q
    exact ⟨σ1, H1, J.ofTry ok, q⟩
  | cont =>
    obtain ⟨σ1, H1, J, q⟩ := q
    exact ⟨σ1, H1, J.ofTry ok, q⟩
end
end K23

set_option Elab.async false
set_option linter.all false
set_option maxRecDepth 100000
set_option maxHeartbeats 4000000
/-! what readings evaluate to: fields, dicts, calls, comprehensions, texts (beside HandS.Evl) -/
namespace K23
open PySem PySem.Spec PyProof.Rows L2 Evl
/-! ### dicts with text keys -/
def sd (l : List (Str × V)) : List (Key × V) := l.map fun p => (.inr p.1, p.2)
theorem valV_sd (k : Str) : ∀ l : List (Str × V), valV (sd l) (.inr k) = l.lookup k
  | [] => rfl
  | (a, v) :: r => by
    show valV ((.inr a, v) :: sd r) (.inr k) = _
    by_cases h : a = k
    · subst h
      rw [valV_pos rfl]
      simp [List.lookup]
    · have h2 : (k == a) = false := beq_eq_false_iff_ne.mpr (Ne.symm h)
      rw [valV_neg (fun z => h (Sum.inr.inj z)), valV_sd k r]
      simp [List.lookup, h2]
theorem putK_sd {k : Str} {v : V} {l : List (Str × V)} (h : l.lookup k = none) : putK (sd l) (.inr k) v = sd (l ++ [(k, v)]) := by
  rw [putK_new v (by rw [valV_sd]; exact h)]
  unfold sd
  rw [List.map_append]
  rfl
theorem sd_len (l : List (Str × V)) : (sd l).length = l.length := by unfold sd; rw [List.length_map]
section
variable {K : PySem.W.Frag} {σ : L2.St} {H H' : Hp} {ta tb te tx td ty : TE} {t u : TT} {x y z v : V} {r : R2} {a C dx : Addr} {fs : List (Str × V)} {f m : Str} {sp : Sp} {E : XK} {D : Ends} {tz : TS}
/-! ### fields, dicts -/
theorem ev_fld (h : Ev ta σ H (.ref a)) (ho : H a = some (.ins C dx fs)) (hc : Cls K C) (hn : NoAttr K C f) (hl : fs.lookup f = some v) : Ev (tFld K ta f) σ H v := fun H1 e Q q =>
  h H1 e _ fun H2 e2 => ⟨a, C, dx, fs, v, rfl, e2 _ _ (e _ _ ho), hc, hn, hl, q H2 e2⟩
theorem et_in {k : Str} {l : List (Str × V)} (hy : Ev ty σ H (.str k)) (hd : Ev td σ H (.ref a)) (ho : H a = some (.dK (sd l))) : EvT (tB (tDIn ty td)) σ H (l.lookup k).isSome := fun H1 e Q q =>
  hy H1 e _ fun H2 e2 => hd H2 (e.trans e2) _ fun H3 e3 => ⟨a, _, rfl, DGet.k (k := .inr k) ((e.trans (e2.trans e3)) _ _ ho), _, rfl, by rw [valV_sd]; exact q H3 (e2.trans e3)⟩
theorem et_notIn {k : Str} {l : List (Str × V)} (hy : Ev ty σ H (.str k)) (hd : Ev td σ H (.ref a)) (ho : H a = some (.dK (sd l))) : EvT (tB (tDNotIn ty td)) σ H (!(l.lookup k).isSome) := fun H1 e Q q =>
  hy H1 e _ fun H2 e2 => hd H2 (e.trans e2) _ fun H3 e3 => ⟨a, _, rfl, DGet.k (k := .inr k) ((e.trans (e2.trans e3)) _ _ ho), _, rfl, by rw [valV_sd]; exact q H3 (e2.trans e3)⟩
theorem ev_dget {k : Str} {l : List (Str × V)} (hd : Ev td σ H (.ref a)) (hy : Ev ty σ H (.str k)) (ho : H a = some (.dK (sd l))) (hl : l.lookup k = some v) : Ev (tDGet td ty) σ H v := fun H1 e Q q =>
  hd H1 e _ fun H2 e2 => hy H2 (e.trans e2) _ fun H3 e3 => ⟨a, v, rfl, by have g := DGet.k (k := .inr k) ((e.trans (e2.trans e3)) _ _ ho); rw [valV_sd, hl] at g; exact g, q H3 (e2.trans e3)⟩
/-! ### calls -/
theorem ev_meth {t : TA} {dvs vs : List V} (ha : Ev ta σ H (.ref a)) (ho : H a = some (.ins C dx fs)) (hl : fs.lookup m = none) (h : EvA t σ H vs) (hs : SpV sp (.ref a :: (vs ++ dvs)) H z) : Ev (tMeth C m sp dvs E ta t) σ H z := fun H1 e Q q =>
  ha H1 e _ fun H2 e2 => ⟨a, dx, fs, rfl, e2 _ _ (e _ _ ho), hl, h H2 (e.trans e2) _ fun H3 e3 => hs H3 (e.trans (e2.trans e3)) Q (fun H4 e4 => q H4 (e2.trans (e3.trans e4))) E⟩
theorem el_meth {t : TA} {dvs vs xs : List V} (ha : Ev ta σ H (.ref a)) (ho : H a = some (.ins C dx fs)) (hl : fs.lookup m = none) (h : EvA t σ H vs) (hs : SpL sp (.ref a :: (vs ++ dvs)) H xs) : EvL (tMeth C m sp dvs E ta t) σ H xs := fun H1 e Q q =>
  ha H1 e _ fun H2 e2 => ⟨a, dx, fs, rfl, e2 _ _ (e _ _ ho), hl, h H2 (e.trans e2) _ fun H3 e3 => hs H3 (e.trans (e2.trans e3)) Q (fun p H4 hp e4 h4 => q p H4 (fresh_back (e2.trans e3) hp) (e2.trans (e3.trans e4)) h4) E⟩
/-- one argument, a new list -/
theorem ev_call1 {xs : List V} (h : EvL te σ H xs) (hs : ∀ p H1, H1 p = some (.lst xs) → Ex H H1 → SpV sp [.ref p] H1 z) : Ev (tCall sp [] E (tCons te tNil)) σ H z := fun H1 e Q q =>
  h H1 e _ fun p H2 _ e2 hp => hs p H2 hp (e.trans e2) H2 (Ex.refl H2) Q (fun H3 e3 => q H3 (e2.trans e3)) E
theorem ev_all {bs : List Bool} (h : EvL te σ H (bs.map V.bl)) : Ev (tCB (rAll K) (tCons te tNil)) σ H (.bl (bs.all id)) := fun H1 e Q q =>
  h H1 e _ fun p H2 _ e2 hp => ⟨p, bs, rfl, sq_of hp, q H2 e2⟩
def SpT (sp : Sp) (vs : List V) (H : Hp) (xs : List V) : Prop := ∀ H1, Ex H H1 → ∀ Q : VK, (∀ p H2, H1 p = none → Ex H1 H2 → H2 p = some (.tup xs) → Q (.ref p) H2) → ∀ E : XK, sp vs H1 Q E
theorem eu_call {dvs vs xs : List V} {t : TA} (h : EvA t σ H vs) (hs : SpT sp (vs ++ dvs) H xs) : EvU (tCall sp dvs E t) σ H xs := fun H1 e Q q =>
  h H1 e _ fun H2 e2 => hs H2 (e.trans e2) Q (fun p H3 hp e3 h3 => q p H3 (fresh_back e2 hp) (e2.trans e3) h3) E
theorem SpV.mono {vs : List V} (h : SpV sp vs H z) (e : Ex H H') : SpV sp vs H' z := fun H1 e1 => h H1 (e.trans e1)
/-- a call that may raise, as a statement -/
theorem q_meth {t : TA} {dvs vs : List V} (ha : Ev ta σ H (.ref a)) (ho : H a = some (.ins C dx fs)) (hl : fs.lookup m = none) (h : EvA t σ H vs) (hs : ∀ H1, Ex H H1 → sp (.ref a :: (vs ++ dvs)) H1 (fun _ H2 => tz D σ H2) E) :
    tSeq (tDrop (tMeth C m sp dvs E ta t)) tz D σ H := ha H (Ex.refl H) _ fun H1 e1 => ⟨a, dx, fs, rfl, e1 _ _ ho, hl, h H1 e1 _ fun H2 e2 => hs H2 (e1.trans e2)⟩
theorem s_meth {t : TA} {dvs vs : List V} (ha : Ev ta σ H (.ref a)) (ho : H a = some (.ins C dx fs)) (hl : fs.lookup m = none) (h : EvA t σ H vs) (hs : ∀ H1, Ex H H1 → sp (.ref a :: (vs ++ dvs)) H1 (fun _ H2 => D.nx σ H2) E) :
    tDrop (tMeth C m sp dvs E ta t) D σ H := ha H (Ex.refl H) _ fun H1 e1 => ⟨a, dx, fs, rfl, e1 _ _ ho, hl, h H1 e1 _ fun H2 e2 => hs H2 (e1.trans e2)⟩
theorem q_call {t : TA} {dvs vs : List V} (h : EvA t σ H vs) (hs : ∀ H1, Ex H H1 → sp (vs ++ dvs) H1 (fun _ H2 => tz D σ H2) E) : tSeq (tDrop (tCall sp dvs E t)) tz D σ H := h H (Ex.refl H) _ fun H1 e1 => hs H1 e1
theorem s_call {t : TA} {dvs vs : List V} (h : EvA t σ H vs) (hs : ∀ H1, Ex H H1 → sp (vs ++ dvs) H1 (fun _ H2 => D.nx σ H2) E) : tDrop (tCall sp dvs E t) D σ H := h H (Ex.refl H) _ fun H1 e1 => hs H1 e1
theorem s_retCall {t : TA} {dvs vs : List V} (h : EvA t σ H vs) (hs : ∀ H1, Ex H H1 → sp (vs ++ dvs) H1 D.rt E) : tRet (tCall sp dvs E t) D σ H := h H (Ex.refl H) _ fun H1 e1 => hs H1 e1
theorem s_rz1 {W : WX} {l : V} {t : TA} (h : EvA t σ H [l]) (q : ∀ H1 d, Ex H H1 → H1 d = some (.xd [("line", l)]) → W (.ref C) (some d) σ H1) : tRz1 C W t D σ H :=
  h H (Ex.refl H) _ fun H1 e1 => ⟨l, rfl, fun d hd => q _ d (e1.trans (Ex.new hd)) upd_same⟩
theorem s_rz2 {W : WX} {l n : V} {t : TA} (h : EvA t σ H [l, n]) (q : ∀ H1 d, Ex H H1 → H1 d = some (.xd [("name", n), ("line", l)]) → W (.ref C) (some d) σ H1) : tRz2 C W t D σ H :=
  h H (Ex.refl H) _ fun H1 e1 => ⟨l, n, rfl, fun d hd => q _ d (e1.trans (Ex.new hd)) upd_same⟩
/-! ### texts -/
abbrev tlS (x : Str) : List Nat := x.cps.toList
theorem tlS_len (x : Str) : (tlS x).length = x.length := by simp [Str.length]
theorem el_split {to : TE} {s b : Str} (h : Ev to σ H (.str s)) (hs : Ev te σ H (.str b)) (hb : (b.length == 0) = false) (hl : s.length ≤ 90000) :
    EvL (tM1 (fun x xs H Q => ∃ a b, x = .str a ∧ xs = [.str b] ∧ (b.length == 0) = false ∧ a.length + 2 ≤ sizeLine ∧ rNewStrs (Txt.split a b) H Q) to te) σ H ((Txt.split s b).map V.str) := fun H1 e Q q =>
  h H1 e _ fun H2 e2 => ⟨⟨s, rfl⟩, hs H2 (e.trans e2) _ fun H3 e3 => ⟨s, b, rfl, rfl, hb, sz_of (by omega), fun p hp => q p _ (fresh_back (e2.trans e3) hp) ((e2.trans e3).trans (Ex.new hp)) upd_same⟩⟩
/-! ### comprehensions: every item, by a function -/
theorem wipe1 {j : Nat} {x : V} : wipe ((wipe σ [j]).set j (some x)) [j] = wipe σ [j] := by
  show ((σ.set j none).set j (some x)).set j none = σ.set j none
  rw [List.set_set, List.set_set]
theorem given_all (n : Nat) (w : Nat → V) : given n (fun _ => true) w = (List.range n).map w := by
  unfold given
  rw [List.filter_eq_self.mpr (fun _ _ => rfl)]
theorem et_yes : EvT tYes σ H true := fun H1 _ _ q => q H1 (Ex.refl H1)
theorem map_range_get {A B : Type} (xs : List A) (g : A → B) (d : B) : (List.range xs.length).map (fun i => (xs[i]?.map g).getD d) = xs.map g := by
  apply List.ext_getElem
  · simp
  · intro i h1 h2
    simp at h1
    simp [h1]
theorem el_map {xs : List V} {tl : TE} {j : Nat} (g : V → V) (h : Ev tl σ H (.ref a)) (hx : SqL K H a xs) (hz : xs.length ≤ 40000) (he : ∀ (x : V) H1, Ex H H1 → x ∈ xs → Ev te ((wipe σ [j]).set j (some x)) H1 (g x)) :
    EvL (tLc (iList K tl) (gName j) tYes te [j]) σ H (xs.map g) := by
  have q := el_lcL (K := K) (te := te) (t := tYes) (σ := σ) (H := H) (vs := [j]) (j := j) (fun _ => true) (fun i => (xs[i]?.map g).getD .non) h hx hz (fun _ => wipe1) (fun _ _ _ _ _ => et_yes)
    (fun i x H1 e hi _ => by
      rw [hi]
      exact he x H1 e (List.mem_of_getElem? hi))
  rw [given_all, map_range_get] at q
  exact q
theorem el_mapN {xs : List V} {tl : TE} {j : Nat} (g : V → V) (h : EvL tl σ H xs) (hz : xs.length ≤ 40000) (he : ∀ (x : V) H1, Ex H H1 → x ∈ xs → Ev te ((wipe σ [j]).set j (some x)) H1 (g x)) :
    EvL (tLc (iList K tl) (gName j) tYes te [j]) σ H (xs.map g) := by
  have q := el_lcNL (K := K) (te := te) (t := tYes) (σ := σ) (H := H) (vs := [j]) (j := j) (fun _ => true) (fun i => (xs[i]?.map g).getD .non) h hz (fun _ => wipe1) (fun _ _ _ _ _ => et_yes)
    (fun i x H1 e hi _ => by
      rw [hi]
      exact he x H1 e (List.mem_of_getElem? hi))
  rw [given_all, map_range_get] at q
  exact q
/-- over a text's signs -/
theorem el_mapS {s : Str} {tl : TE} {j : Nat} (g : Nat → V) (h : Ev tl σ H (.str s)) (hz : s.length ≤ 40000) (he : ∀ (c : Nat) H1, Ex H H1 → Ev te ((wipe σ [j]).set j (some (.str ⟨#[c]⟩))) H1 (g c)) :
    EvL (tLc (iStr tl) (gName j) tYes te [j]) σ H ((tlS s).map g) := fun H0 e0 Q q => h H0 e0 _ fun H1 e1 => ⟨s, rfl, fun Dl hD => by
  have hsz : s.cps.size ≤ 40000 := hz
  refine ⟨fun i m H2 => m = s.cps.size - i ∧ i ≤ s.cps.size ∧ Ex H1 H2 ∧ H2 Dl = some (.lst (((tlS s).take i).map g)), ⟨s.cps.size, rfl, Nat.zero_le _, Ex.new hD, upd_same⟩, ?_⟩
  rintro i m H2 ⟨rfl, hi, ex, hl⟩
  by_cases hlt : i < s.cps.size
  · refine .inr ⟨hlt, fun H3 => Ex H1 H3 ∧ H3 Dl = some (.lst (((tlS s).take (i + 1)).map g)), fun H3 p => ⟨s.cps.size - (i + 1), by omega, rfl, hlt, p⟩, ?_⟩
    rintro x H3 ⟨rfl, c, hc, rfl⟩
    refine ⟨wipe1, ?_⟩
    show te _ H3 _
    refine he c H3 ((e0.trans e1).trans ex) H3 (Ex.refl H3) _ fun H4 e4 => ⟨_, e4 _ _ hl, ?_, ?_, ?_⟩
    · rw [List.length_map, List.length_take]
      exact sz_lt (by omega)
    · exact Ex.mut (ex.trans e4) hD
    · rw [upd_same, List.take_add_one, show (tlS s)[i]? = some c by rw [Array.getElem?_toList]; exact hc, List.map_append]
      rfl
  · have e : i = s.cps.size := by omega
    refine .inl ⟨Nat.le_of_not_lt hlt, q Dl H2 (fresh_back e1 hD) (e1.trans ex) ?_⟩
    rw [hl, List.take_of_length_le (by simp; omega)]⟩
/-! ### lists: truth, sums, choices -/
theorem et_truL {xs : List V} (h : Ev te σ H (.ref a)) (hx : SqL K H a xs) : EvT (fun σ H Q => te σ H fun x H' => ∃ k, TruV K x H' k ∧ Q k H') σ H (!xs.isEmpty) := fun H1 e Q q =>
  h H1 e _ fun H2 e2 => ⟨_, Or.inl ⟨xs, ex_l (e.trans e2) hx, rfl⟩, q H2 e2⟩
theorem el_if {b : Bool} {xs : List V} (h : EvT t σ H b) (h1 : b = true → EvL ta σ H xs) (h2 : b = false → EvL tb σ H xs) : EvL (tIf t ta tb) σ H xs := fun H1 e Q q => h H1 e _ fun H2 e2 => by
  cases b with
  | true =>
    show ta σ H2 Q
    exact h1 rfl H2 (e.trans e2) Q fun p H3 hp e3 h3 => q p H3 (fresh_back e2 hp) (e2.trans e3) h3
  | false =>
    show tb σ H2 Q
    exact h2 rfl H2 (e.trans e2) Q fun p H3 hp e3 h3 => q p H3 (fresh_back e2 hp) (e2.trans e3) h3
theorem eu_if {b : Bool} {xs : List V} (h : EvT t σ H b) (h1 : b = true → EvU ta σ H xs) (h2 : b = false → EvU tb σ H xs) : EvU (tIf t ta tb) σ H xs := fun H1 e Q q => h H1 e _ fun H2 e2 => by
  cases b with
  | true =>
    show ta σ H2 Q
    exact h1 rfl H2 (e.trans e2) Q fun p H3 hp e3 h3 => q p H3 (fresh_back e2 hp) (e2.trans e3) h3
  | false =>
    show tb σ H2 Q
    exact h2 rfl H2 (e.trans e2) Q fun p H3 hp e3 h3 => q p H3 (fresh_back e2 hp) (e2.trans e3) h3
theorem EvU.mono {xs : List V} (e : Ex H H') (h : EvU te σ H xs) : EvU te σ H' xs := fun H1 a Q q => h H1 (e.trans a) Q q
/-- two new lists, one behind the other -/
theorem el_catNN {xs ys : List V} (ha : EvL ta σ H xs) (hb : EvL tb σ H ys) (hl : xs.length + ys.length ≤ 100000) : EvL (tOp rCat ta tb) σ H (xs ++ ys) := fun H1 e Q q =>
  ha H1 e _ fun p H2 hp e2 h2 => hb H2 (e.trans e2) _ fun p2 H3 hp2 e3 h3 => ⟨p, p2, xs, ys, rfl, rfl, e3 _ _ h2, h3, sz_of hl, fun p3 hp3 => q p3 _ (fresh_back (e2.trans e3) hp3) ((e2.trans e3).trans (Ex.new hp3)) upd_same⟩
theorem el_catLN {xs ys : List V} (ha : Ev ta σ H (.ref a)) (ho : H a = some (.lst xs)) (hb : EvL tb σ H ys) (hl : xs.length + ys.length ≤ 100000) : EvL (tOp rCat ta tb) σ H (xs ++ ys) := fun H1 e Q q =>
  ha H1 e _ fun H2 e2 => hb H2 (e.trans e2) _ fun p2 H3 hp2 e3 h3 => ⟨a, p2, xs, ys, rfl, rfl, e3 _ _ (e2 _ _ (e _ _ ho)), h3, sz_of hl, fun p3 hp3 => q p3 _ (fresh_back (e2.trans e3) hp3) ((e2.trans e3).trans (Ex.new hp3)) upd_same⟩
end
end K23

set_option Elab.async false
set_option linter.all false
set_option maxRecDepth 100000
set_option maxHeartbeats 4000000
/-! the module words -/
namespace K23
open PySem PySem.Spec PyProof.Rows L2 Evl
/-! ### what they compute -/
def LET : Str := "abcdefghijklmnopqrstuvwxyz"
def SIG : Str := "abcdefghijklmnopqrstuvwxyz0123456789"
def inSig (c : Nat) : Bool := decide (c ∈ tlS SIG)
def isName (x : Str) : Bool := (decide ((1 : Int) ≤ x.length) && decide ((x.length : Int) ≤ 12)) && ((tlS x).head?.any (fun c => decide (c ∈ tlS LET)) && (tlS x).all inSig)
def isVal (x : Str) : Bool := (decide ((1 : Int) ≤ x.length) && decide ((x.length : Int) ≤ 20)) && (tlS x).all inSig
def isCon (x : Str) : Bool := !decide ((x.length : Int) < 3) && (decide ((tlS x).head? = some 39) && (decide ((tlS x).getLast? = some 39) && isVal (cutS x (some 1) (some (-1)))))
def splitW (x : Str) : List Str := if Str.empty ∈ Txt.split x " " then [] else Txt.split x " "
def isPath (x : Str) (n : Int) : Bool := decide (n ≤ (Txt.split x ".").length) && (Txt.split x ".").all isName
def isTerm (x : Str) : Bool := isCon x || isPath x 1
/-! ### readings -/
section
variable {K : PySem.W.Frag} {σ : L2.St} {H H' : Hp} {ta tb tc te : TE} {t u : TT}
theorem et_chainLe {i j k : Int} (ha : Ev ta σ H (.int i)) (hb : Ev tb σ H (.int j)) (hc : Ev tc σ H (.int k)) :
    EvT (tTest (tChain (rI0 fun i j => .bl (decide (i ≤ j))) (rI0 fun i j => .bl (decide (i ≤ j))) ta tb tc)) σ H (decide (i ≤ j) && decide (j ≤ k)) := fun H1 e Q q =>
  ha H1 e _ fun H2 e2 => hb H2 (e.trans e2) _ fun H3 e3 => ⟨i, j, rfl, rfl, _, rfl, by
    cases h : decide (i ≤ j) with
    | true =>
      show tc σ H3 _
      refine hc H3 (e.trans (e2.trans e3)) _ fun H4 e4 => ⟨j, k, rfl, rfl, _, rfl, ?_⟩
      have z := q H4 (e2.trans (e3.trans e4))
      rw [h] at z
      exact z
    | false =>
      have z := q H3 (e2.trans e3)
      rw [h] at z
      exact ⟨false, rfl, z⟩⟩
theorem et_inS {c : Nat} {z : Str} (ha : Ev ta σ H (.str ⟨#[c]⟩)) (hb : Ev tb σ H (.str z)) : EvT (tTest (tOp rInS ta tb)) σ H (decide (c ∈ tlS z)) := fun H1 e Q q =>
  ha H1 e _ fun H2 e2 => hb H2 (e.trans e2) _ fun H3 e3 => ⟨c, z, rfl, rfl, _, rfl, q H3 (e2.trans e3)⟩
theorem et_notInS {c : Nat} {z : Str} (ha : Ev ta σ H (.str ⟨#[c]⟩)) (hb : Ev tb σ H (.str z)) : EvT (tTest (tOp rNotInS ta tb)) σ H (!decide (c ∈ tlS z)) := fun H1 e Q q =>
  ha H1 e _ fun H2 e2 => hb H2 (e.trans e2) _ fun H3 e3 => ⟨c, z, rfl, rfl, _, rfl, q H3 (e2.trans e3)⟩
theorem ev_inS {c : Nat} {z : Str} (ha : Ev ta σ H (.str ⟨#[c]⟩)) (hb : Ev tb σ H (.str z)) : Ev (tOp rInS ta tb) σ H (.bl (decide (c ∈ tlS z))) := fun H1 e Q q =>
  ha H1 e _ fun H2 e2 => hb H2 (e.trans e2) _ fun H3 e3 => ⟨c, z, rfl, rfl, q H3 (e2.trans e3)⟩
def rLenStr : List V → Hp → VK → Prop := fun xs H Q => ∃ z : Str, xs = [.str z] ∧ z.length ≤ sizeLine ∧ Q (.int z.length) H
theorem ev_lenS {z : Str} (ha : Ev ta σ H (.str z)) (hl : z.length ≤ 100000) : Ev (tCB rLenStr (tCons ta tNil)) σ H (.int z.length) := fun H1 e Q q =>
  ha H1 e _ fun H2 e2 => ⟨z, rfl, sz_of hl, q H2 e2⟩
theorem call_lenS {X : Cx} : CallR X (.builtin "len") rLenStr := call_len_str
end
def spName : Sp := fun vs H Q _ => ∃ x : Str, vs = [.str x] ∧ x.length ≤ 40000 ∧ RetV (.bl (isName x)) H Q
def spVal : Sp := fun vs H Q _ => ∃ x : Str, vs = [.str x] ∧ x.length ≤ 40000 ∧ RetV (.bl (isVal x)) H Q
section
variable {P : Program} {w : World} {K : PySem.W.Frag} {mg : Str → Option Value} {base : Heap}
theorem head_of {x : Str} (h : 0 < x.length) : ∃ c r, tlS x = c :: r := by
  have := tlS_len x
  cases e : tlS x with
  | nil => rw [e] at this; simp at this; omega
  | cons c r => exact ⟨c, r, rfl⟩
theorem ok_is_name (T : Txt K mg) : CalX P w K mg base CX0 1 "is_name" ["word"] spName := by
  obtain ⟨fd, F⟩ := T.f_is_name
  refine ⟨_, fd, F.ok sc_is_name (fun vs H Q E h => ?_) (fun cdv A outer s H vs Q E hr h => ?_), T.g_is_name, F.kp, F.bindsN fun _ _ _ _ _ _ us hl => match us, hl with | [_], _ => rfl⟩
  · obtain ⟨x, rfl, _⟩ := h; rfl
  · obtain ⟨x, rfl, hx, q⟩ := h
    refine ⟨_, (PSs.nox (pss_cons (ps_if (PW.pt (pw_or (pt_not (pt_chain op_le op_le pe_int (pe_callB call_lenS (by rfl) T.b_len PySem.boot_len (pa_cons (pv 0) pa_nil)) (pe_gi T.i_LONGEST_NAME))) (pw_or1 (pt_cmpR op_notInS (pe_ix ix_str (pv 0) pe_int (fun _ _ => rfl)) (pe_gs T.t_LETTERS) rfl)))) (pss_one (ps_ret pe_bl)) pss_nil)
        (pss_one (ps_ret (pe_callB (cr_all rfl) (by rfl) T.b_all (by decide +kernel) (pa_cons (pe_lc (own := [("sign", 1)]) (g := gName 1) (tt := tYes) (by rfl) sc_is_name.nd (pi_str (pv 0)) (blkOk_by (own := [("sign", 1)]) (N := ["word", "sign"]) (sc := defScope s_is_name) (by decide +kernel)) (fun _ _ _ _ _ => pg_name (i := 1) sc_is_name.nd rfl (Or.inl rfl)) (fun _ _ _ _ _ => pts_nil) (fun _ _ _ _ _ => (pe_cmpR op_inS (pv 1) (pe_gs T.t_SIGNS) rfl))) pa_nil)))))), ?_⟩
    have hl : x.length ≤ 100000 := by omega
    refine q_when (et_or (et_not (et_chainLe ev_c (ev_lenS (ev_var rfl) hl) ev_c)) (b := !(tlS x).head?.any (fun c => decide (c ∈ tlS LET))) (fun hb => ?_)) (fun hb H1 e1 => ?_) (fun hb H1 e1 => ?_)
    · have h1 : 1 ≤ x.length := by
        rw [Bool.not_eq_false', Bool.and_eq_true, decide_eq_true_eq] at hb
        omega
      obtain ⟨c, r, hc⟩ := head_of h1
      rw [hc]
      exact et_notInS (ev_op (ev_var rfl) ev_c (rv_ixS hl (by rw [show x.cps.toList = c :: r from hc]; exact atI_nat (j := 0) rfl))) ev_c
    · refine s_ret ev_c fun H2 e2 => ?_
      have z : isName x = false := by
        unfold isName
        rw [Bool.or_eq_true, Bool.not_eq_true', Bool.not_eq_true'] at hb
        rcases hb with hb | hb <;> rw [hb] <;> simp
      rw [z] at q
      exact q H2 (e1.trans e2)
    · refine s_ret (ev_all (bs := (tlS x).map inSig) (by rw [List.map_map]; exact el_mapS (g := V.bl ∘ inSig) (ev_var rfl) hx (fun c H2 _ => ev_inS (ev_var rfl) ev_c))) fun H2 e2 => ?_
      have z : isName x = ((tlS x).map inSig).all id := by
        unfold isName
        rw [Bool.or_eq_false_iff, Bool.not_eq_false', Bool.not_eq_false'] at hb
        rw [hb.1, hb.2, List.all_map]
        rfl
      rw [z] at q
      exact q H2 (e1.trans e2)
theorem call_listL {X : Cx} : CallR X (.type "list") (rListS X.K) := by
  intro pins s σ H xs us Q I r h
  obtain ⟨p, ys, rfl, h1, h2⟩ := h
  exact call_list_of pins s σ H _ us Q I r ⟨p, ys, rfl, h1, h2⟩
theorem call_lenL {X : Cx} : CallR X (.builtin "len") (rLenS X.K) := call_len_seq
theorem sp_name {x : Str} {H : Hp} (h : x.length ≤ 40000) : SpV spName [.str x] H (.bl (isName x)) := fun H1 _ Q q E => ⟨x, rfl, h, q⟩
theorem sp_val {x : Str} {H : Hp} (h : x.length ≤ 40000) : SpV spVal [.str x] H (.bl (isVal x)) := fun H1 _ Q q E => ⟨x, rfl, h, q⟩
theorem ev_isStr {σ : L2.St} {H : Hp} {ta tb : TE} {z : Str} (ha : Ev ta σ H (.str z)) (hb : Ev tb σ H (.ty "str")) : Ev (tCB (rIsi K) (tCons ta (tCons tb tNil))) σ H (.bl true) := fun H1 e Q q =>
  ha H1 e _ fun H2 e2 => hb H2 (e.trans e2) _ fun H3 e3 => ⟨.str z, .ty "str", .type "str", .type "str", true, rfl, .ty _, .base (.str z), kit_ty (by decide +kernel), q H3 (e2.trans e3)⟩
theorem ok_is_value (T : Txt K mg) : CalX P w K mg base CX0 1 "is_value" ["thing"] spVal := by
  obtain ⟨fd, F⟩ := T.f_is_value
  refine ⟨_, fd, F.ok sc_is_value (fun vs H Q E h => ?_) (fun cdv A outer s H vs Q E hr h => ?_), T.g_is_value, F.kp, F.bindsN fun _ _ _ _ _ _ us hl => match us, hl with | [_], _ => rfl⟩
  · obtain ⟨x, rfl, _⟩ := h; rfl
  · obtain ⟨x, rfl, hx, q⟩ := h
    refine ⟨_, (PSs.nox (pss_cons (ps_if (PW.pt (pw_or (pt_not (pt_val (pe_callB call_isi (by rfl) T.b_isinstance (by decide +kernel) (pa_cons (pv 0) (pa_cons (pe_bltn (v := .ty "str") (by rfl) T.b_str (by decide +kernel) rfl) pa_nil))))) (pw_or1 (pt_not (pt_chain op_le op_le pe_int (pe_callB call_lenS (by rfl) T.b_len PySem.boot_len (pa_cons (pv 0) pa_nil)) (pe_gi T.i_LONGEST_VALUE)))))) (pss_one (ps_ret pe_bl)) pss_nil)
        (pss_one (ps_ret (pe_callB (cr_all rfl) (by rfl) T.b_all (by decide +kernel) (pa_cons (pe_lc (own := [("sign", 1)]) (g := gName 1) (tt := tYes) (by rfl) sc_is_value.nd (pi_str (pv 0)) (blkOk_by (own := [("sign", 1)]) (N := ["thing", "sign"]) (sc := defScope s_is_value) (by decide +kernel)) (fun _ _ _ _ _ => pg_name (i := 1) sc_is_value.nd rfl (Or.inl rfl)) (fun _ _ _ _ _ => pts_nil) (fun _ _ _ _ _ => (pe_cmpR op_inS (pv 1) (pe_gs T.t_SIGNS) rfl))) pa_nil)))))), ?_⟩
    have hl : x.length ≤ 100000 := by omega
    refine q_when (et_or (et_not (et_B (ev_isStr (ev_var rfl) ev_c))) (fun _ => et_not (et_chainLe ev_c (ev_lenS (ev_var rfl) hl) ev_c))) (fun hb H1 e1 => ?_) (fun hb H1 e1 => ?_)
    · refine s_ret ev_c fun H2 e2 => ?_
      have z : isVal x = false := by
        unfold isVal
        rw [Bool.not_true, Bool.false_or, Bool.not_eq_true'] at hb
        rw [hb, Bool.false_and]
      rw [z] at q
      exact q H2 (e1.trans e2)
    · refine s_ret (ev_all (bs := (tlS x).map inSig) (by rw [List.map_map]; exact el_mapS (g := V.bl ∘ inSig) (ev_var rfl) hx (fun c H2 _ => ev_inS (ev_var rfl) ev_c))) fun H2 e2 => ?_
      have z : isVal x = ((tlS x).map inSig).all id := by
        unfold isVal
        rw [Bool.not_true, Bool.false_or, Bool.not_eq_false'] at hb
        rw [hb, List.all_map, Bool.true_and]
        rfl
      rw [z] at q
      exact q H2 (e1.trans e2)
def spCon : Sp := fun vs H Q _ => ∃ x : Str, vs = [.str x] ∧ x.length ≤ 40000 ∧ RetV (.bl (isCon x)) H Q
theorem str1_eq (c d : Nat) : decide (V.str ⟨#[c]⟩ = V.str ⟨#[d]⟩) = decide (some c = some d) := by
  by_cases h : c = d
  · subst h; rw [decide_eq_true rfl, decide_eq_true rfl]
  · rw [decide_eq_false (fun z => h (by injection z with z; injection z with z; simpa using z)), decide_eq_false (fun z => h (Option.some.inj z))]
theorem ok_is_constant (T : Txt K mg) : CalX P w K mg base CX0 2 "is_constant" ["thing"] spCon := by
  have c_is_value := ok_is_value (P := P) (w := w) (base := base) T
  obtain ⟨fd, F⟩ := T.f_is_constant
  refine ⟨_, fd, F.ok sc_is_constant (fun vs H Q E h => ?_) (fun cdv A outer s H vs Q E hr h => ?_), T.g_is_constant, F.kp, F.bindsN fun _ _ _ _ _ _ us hl => match us, hl with | [_], _ => rfl⟩
  · obtain ⟨x, rfl, _⟩ := h; rfl
  · obtain ⟨x, rfl, hx, q⟩ := h
    refine ⟨_, (PSs.nox (pss_cons (ps_if (PW.pt (pw_or (pt_not (pt_val (pe_callB call_isi (by rfl) T.b_isinstance (by decide +kernel) (pa_cons (pv 0) (pa_cons (pe_bltn (v := .ty "str") (by rfl) T.b_str (by decide +kernel) rfl) pa_nil))))) (pw_or1 (pt_cmpR op_lt (pe_callB call_lenS (by rfl) T.b_len PySem.boot_len (pa_cons (pv 0) pa_nil)) pe_int (nomark _))))) (pss_one (ps_ret pe_bl)) pss_nil)
        (pss_one (ps_ret (pe_and (pe_cmpR op_eq (pe_ix ix_str (pv 0) pe_int (fun _ _ => rfl)) pe_str (nomark _)) (pe_and (pe_cmpR op_eq (pe_ix ix_str (pv 0) (pe_un un_neg pe_int) (fun _ _ => rfl)) pe_str (nomark _)) (pe_one (pe_cx c_is_value hr (by decide) pass0 (pa_cons (pe_slice sl_str (pv 0) (po_some pe_int) (po_some (pe_un un_neg pe_int))) pa_nil))))))))), ?_⟩
    have hl : x.length ≤ 100000 := by omega
    refine q_when (et_or (et_not (et_B (ev_isStr (ev_var rfl) ev_c))) (fun _ => et_test (ev_op (ev_lenS (ev_var rfl) hl) ev_c rv_I0))) (fun hb H1 e1 => ?_) (fun hb H1 e1 => ?_)
    · refine s_ret ev_c fun H2 e2 => ?_
      have z : isCon x = false := by
        unfold isCon
        rw [Bool.not_true, Bool.false_or] at hb
        rw [hb]
        rfl
      rw [z] at q
      exact q H2 (e1.trans e2)
    · rw [Bool.not_true, Bool.false_or] at hb
      have h3 : 3 ≤ x.length := by have := of_decide_eq_false hb; omega
      obtain ⟨c, r, hc⟩ := head_of (x := x) (by omega)
      obtain ⟨d, hd⟩ : ∃ d, (tlS x)[x.length - 1]? = some d := ⟨_, List.getElem?_eq_getElem (by rw [tlS_len]; omega)⟩
      have a0 : atI (tlS x) (0 : Int) = some c := by rw [hc]; exact atI_nat (j := 0) rfl
      have a1 : atI (tlS x) (-1 : Int) = some d := by
        unfold atI ixN
        rw [if_neg (by omega), if_pos (by rw [tlS_len]; omega), tlS_len]
        show (tlS x)[((-1 : Int) + x.length).toNat]? = some d
        rw [show ((-1 : Int) + x.length).toNat = x.length - 1 by omega]
        exact hd
      have hlast : (tlS x).getLast? = some d := by rw [List.getLast?_eq_getElem?, tlS_len]; exact hd
      have hcut : (cutS x (some 1) (some (-1))).length ≤ 40000 := Nat.le_trans (cutS_length x _ _) hx
      have z : isCon x = (decide (V.str ⟨#[c]⟩ = V.str ⟨#[39]⟩) && (decide (V.str ⟨#[d]⟩ = V.str ⟨#[39]⟩) && isVal (cutS x (some 1) (some (-1))))) := by
        unfold isCon
        rw [hb, hlast, hc, str1_eq, str1_eq]
        rfl
      rw [z] at q
      refine s_ret (ev_andV (ev_op (ev_op (ev_var rfl) ev_c (rv_ixS hl a0)) ev_c (rv_eq rfl)) (fun _ => ev_andV (ev_op (ev_op (ev_var rfl) (ev_un ev_c ru_neg) (rv_ixS hl a1)) ev_c (rv_eq rfl)) (fun _ => ev_call (ea_cons ?_ ea_nil) (sp_val hcut)))) fun H2 e2 => q H2 (e1.trans e2)
      exact fun H2 e2 Q2 q2 => ⟨.str x, rfl, 1, rfl, 1, rfl, -1, rfl, x, rfl, sz_of hl, q2 H2 (Ex.refl H2)⟩
end
end K23

set_option Elab.async false
set_option linter.all false
set_option maxRecDepth 100000
set_option maxHeartbeats 4000000
/-! words, going on: split_words, all_names, is_path, is_term; split_term, is_test -/
namespace K23
open PySem PySem.Spec PyProof.Rows L2 Evl
/-! ### a text in a list of texts -/
theorem inV_str (x : Str) (l : List Str) : inV (.str x) (l.map V.str) = decide (x ∈ l) := by
  induction l with
  | nil => rfl
  | cons y r ih =>
    have e : inV (.str x) ((y :: r).map V.str) = (eqV (.str y) (.str x) || inV (.str x) (r.map V.str)) := rfl
    rw [e, ih]
    have e2 : eqV (.str y) (.str x) = decide (y = x) := by
      show (y == x) = decide (y = x)
      by_cases h : y = x
      · subst h; simp
      · rw [beq_eq_false_iff_ne.mpr h, decide_eq_false h]
    rw [e2]
    by_cases h : y = x
    · subst h; simp
    · rw [decide_eq_false h, Bool.false_or]
      by_cases h2 : x ∈ r
      · simp [h2]
      · rw [decide_eq_false h2, decide_eq_false (by simp [h2, Ne.symm h])]
theorem flat_strs (l : List Str) : (l.map V.str).all flatV = true := by
  rw [List.all_map]
  exact List.all_eq_true.mpr fun _ _ => rfl
def spSplit : Sp := fun vs H Q _ => ∃ x : Str, vs = [.str x] ∧ x.length ≤ 40000 ∧ RetL ((splitW x).map V.str) H Q
def spNames (K : PySem.W.Frag) : Sp := fun vs H Q _ => ∃ (a : Addr) (ws : List Str), vs = [.ref a] ∧ SqL K H a (ws.map V.str) ∧ ws.length ≤ 40000 ∧ (∀ x ∈ ws, x.length ≤ 40000) ∧ RetV (.bl (ws.all isName)) H Q
/-- the parts between the dots are few and short -/
def dotsOk (x : Str) : Prop := (Txt.split x ".").length ≤ 40000 ∧ ∀ y ∈ Txt.split x ".", y.length ≤ 40000
def spPath : Sp := fun vs H Q _ => ∃ (x : Str) (n : Int), vs = [.str x, .int n] ∧ x.length ≤ 40000 ∧ dotsOk x ∧ RetV (.bl (isPath x n)) H Q
def spTerm : Sp := fun vs H Q _ => ∃ x : Str, vs = [.str x] ∧ x.length ≤ 40000 ∧ (isCon x = true ∨ dotsOk x) ∧ RetV (.bl (isTerm x)) H Q
def splitT (x : Str) : List V := if isCon x = true then [.str "constant", .str x] else if x = "me" then [.str "me"] else
  if (Txt.partition x ".").2.1 = "" then [.str "value", .str x] else [.str "row", .str (Txt.partition x ".").1, .str (Txt.partition x ".").2.2]
def spSplitT : Sp := fun vs H Q _ => ∃ x : Str, vs = [.str x] ∧ x.length ≤ 40000 ∧ ∀ p H2, H p = none → Ex H H2 → H2 p = some (.tup (splitT x)) → Q (.ref p) H2
theorem sp_con {x : Str} {H : Hp} (h : x.length ≤ 40000) : SpV spCon [.str x] H (.bl (isCon x)) := fun H1 _ Q q E => ⟨x, rfl, h, q⟩
theorem sp_path {x : Str} {n : Int} {H : Hp} (h : x.length ≤ 40000) (h2 : dotsOk x) : SpV spPath [.str x, .int n] H (.bl (isPath x n)) := fun H1 _ Q q E => ⟨x, n, rfl, h, h2, q⟩
theorem sp_term {x : Str} {H : Hp} (h : x.length ≤ 40000) (h2 : isCon x = true ∨ dotsOk x) : SpV spTerm [.str x] H (.bl (isTerm x)) := fun H1 _ Q q E => ⟨x, rfl, h, h2, q⟩
theorem sp_names {K : PySem.W.Frag} {a : Addr} {ws : List Str} {H : Hp} (ha : SqL K H a (ws.map V.str)) (h1 : ws.length ≤ 40000) (h2 : ∀ x ∈ ws, x.length ≤ 40000) : SpV (spNames K) [.ref a] H (.bl (ws.all isName)) := fun H1 e Q q E => ⟨a, ws, rfl, ex_l e ha, h1, h2, q⟩
theorem sp_split {x : Str} {H : Hp} (h : x.length ≤ 40000) : SpL spSplit [.str x] H ((splitW x).map V.str) := fun H1 _ Q q E => ⟨x, rfl, h, q⟩
theorem sp_splitT {x : Str} {H : Hp} (h : x.length ≤ 40000) : SpT spSplitT [.str x] H (splitT x) := fun H1 _ Q q E => ⟨x, rfl, h, q⟩
section
variable {P : Program} {w : World} {K : PySem.W.Frag} {mg : Str → Option Value} {base : Heap}
theorem ok_split_words (T : Txt K mg) : CalX P w K mg base CX0 1 "split_words" ["line"] spSplit := by
  obtain ⟨fd, F⟩ := T.f_split_words
  refine ⟨_, fd, F.ok sc_split_words (fun vs H Q E h => ?_) (fun cdv A outer s H vs Q E hr h => ?_), T.g_split_words, F.kp, F.bindsN fun _ _ _ _ _ _ us hl => match us, hl with | [_], _ => rfl⟩
  · obtain ⟨x, rfl, _⟩ := h; rfl
  · obtain ⟨x, rfl, hx, q⟩ := h
    refine ⟨_, (PSs.nox (pss_cons (ps_set (i := 1) sc_split_words.nd rfl (by first | exact Or.inl rfl | exact Or.inr rfl) (pe_split (pv 0) pe_str))
        (pss_cons (ps_if (pt_cmpR op_in_seq pe_str (pv 1) rfl) (pss_one (ps_ret (pe_lst pa_nil))) pss_nil)
        (pss_one (ps_ret (pv 1)))))), ?_⟩
    refine q_asgL (el_split (ev_var rfl) ev_c rfl (by omega)) fun p H1 hp e1 h1 => ?_
    refine q_when (et_test (ev_op ev_c (ev_var rfl) (rv_isL (sq_of h1) rfl (flat_strs _)))) (fun hb H2 e2 => ?_) (fun hb H2 e2 => ?_)
    · rw [inV_str, decide_eq_true_eq] at hb
      refine s_retL (el_lst ea_nil (by decide)) fun p2 H3 hp2 e3 h3 => ?_
      have z : splitW x = [] := if_pos hb
      rw [z] at q
      exact q p2 H3 (fresh_back (e1.trans e2) hp2) ((e1.trans e2).trans e3) h3
    · rw [inV_str, decide_eq_false_iff_not] at hb
      refine s_ret (ev_var rfl) fun H3 e3 => ?_
      have z : splitW x = Txt.split x " " := if_neg hb
      rw [z] at q
      exact q p H3 hp ((e1.trans e2).trans e3) (e3 _ _ (e2 _ _ h1))
theorem ok_all_names (T : Txt K mg) : CalX P w K mg base CX0 2 "all_names" ["words"] (spNames K) := by
  have c_is_name := ok_is_name (P := P) (w := w) (base := base) T
  obtain ⟨fd, F⟩ := T.f_all_names
  refine ⟨_, fd, F.ok sc_all_names (fun vs H Q E h => ?_) (fun cdv A outer s H vs Q E hr h => ?_), T.g_all_names, F.kp, F.bindsN fun _ _ _ _ _ _ us hl => match us, hl with | [_], _ => rfl⟩
  · obtain ⟨a, ws, rfl, _⟩ := h; rfl
  · obtain ⟨a, ws, rfl, ha, h1, h2, q⟩ := h
    refine ⟨_, (PSs.nox (pss_one (ps_ret (pe_callB (cr_all rfl) (by rfl) T.b_all (by decide +kernel) (pa_cons (pe_lc (own := [("word", 1)]) (g := gName 1) (tt := tYes) (by rfl) sc_all_names.nd (pi_list (pv 0)) (blkOk_by (own := [("word", 1)]) (N := ["words", "word"]) (sc := defScope s_all_names) (by decide +kernel)) (fun _ _ _ _ _ => pg_name (i := 1) sc_all_names.nd rfl (Or.inl rfl)) (fun _ _ _ _ _ => pts_nil) (fun _ _ _ _ _ => (pe_cx c_is_name hr (by decide) pass0 (pa_cons (pv 1) pa_nil)))) pa_nil))))), ?_⟩
    have z : ws.all isName = (ws.map isName).all id := by rw [List.all_map]; rfl
    rw [z] at q
    refine s_ret (ev_all (bs := ws.map isName) ?_) q
    have e : (ws.map isName).map V.bl = (ws.map V.str).map (fun v => match v with | .str x => .bl (isName x) | _ => .non) := by
      rw [List.map_map, List.map_map]; rfl
    rw [e]
    refine el_map _ (ev_var rfl) ha (by rw [List.length_map]; exact h1) fun x H1 e1 hx => ?_
    obtain ⟨y, hy, rfl⟩ := List.mem_map.mp hx
    exact ev_call (ea_cons (ev_var rfl) ea_nil) (sp_name (h2 y hy))
theorem ok_is_path (T : Txt K mg) : CalX P w K mg base CX0 3 "is_path" ["word", "least"] spPath := by
  have c_all_names := ok_all_names (P := P) (w := w) (base := base) T
  obtain ⟨fd, F⟩ := T.f_is_path
  refine ⟨_, fd, F.ok sc_is_path (fun vs H Q E h => ?_) (fun cdv A outer s H vs Q E hr h => ?_), T.g_is_path, F.kp, F.bindsN fun _ _ _ _ _ _ us hl => match us, hl with | [_, _], _ => rfl⟩
  · obtain ⟨x, n, rfl, _⟩ := h; rfl
  · obtain ⟨x, n, rfl, hx, hd, q⟩ := h
    refine ⟨_, (PSs.nox (pss_cons (ps_set (i := 2) sc_is_path.nd rfl (by first | exact Or.inl rfl | exact Or.inr rfl) (pe_split (pv 0) pe_str))
        (pss_one (ps_ret (pe_and (pe_cmpR op_ge (pe_callB call_lenL (by rfl) T.b_len PySem.boot_len (pa_cons (pv 2) pa_nil)) (pv 1) (nomark _)) (pe_one (pe_cx c_all_names hr (by decide) pass0 (pa_cons (pv 2) pa_nil)))))))), ?_⟩
    refine q_asgL (el_split (ev_var rfl) ev_c rfl (by omega)) fun p H1 hp e1 h1 => ?_
    refine s_ret (ev_andV (ev_op (ev_len (ev_var rfl) (sq_of h1)) (ev_var rfl) rv_I0) (fun _ => ev_call (ea_cons (ev_var rfl) ea_nil) (sp_names (sq_of h1) hd.1 hd.2))) fun H2 e2 => ?_
    rw [List.length_map]
    exact q H2 (e1.trans e2)
theorem ok_is_term (T : Txt K mg) : CalX P w K mg base CX0 4 "is_term" ["word"] spTerm := by
  have c_is_path := ok_is_path (P := P) (w := w) (base := base) T
  have c_is_constant := ok_is_constant (P := P) (w := w) (base := base) T
  obtain ⟨fd, F⟩ := T.f_is_term
  refine ⟨_, fd, F.ok sc_is_term (fun vs H Q E h => ?_) (fun cdv A outer s H vs Q E hr h => ?_), T.g_is_term, F.kp, F.bindsN fun _ _ _ _ _ _ us hl => match us, hl with | [_], _ => rfl⟩
  · obtain ⟨x, rfl, _⟩ := h; rfl
  · obtain ⟨x, rfl, hx, hd, q⟩ := h
    refine ⟨_, (PSs.nox (pss_one (ps_ret (pe_or (pe_cx c_is_constant hr (by decide) pass0 (pa_cons (pv 0) pa_nil)) (pe_one (pe_cx c_is_path hr (by decide) pass0 (pa_cons (pv 0) (pa_cons pe_int pa_nil)))))))), ?_⟩
    refine s_ret (ev_orV (ev_call (ea_cons (ev_var rfl) ea_nil) (sp_con hx)) (fun hc => ev_call (ea_cons (ev_var rfl) (ea_cons ev_c ea_nil)) (sp_path hx (hd.resolve_left (by rw [hc]; decide))))) q
theorem ok_split_term (T : Txt K mg) : CalX P w K mg base CX0 3 "split_term" ["term"] spSplitT := by
  have c_is_constant := ok_is_constant (P := P) (w := w) (base := base) T
  obtain ⟨fd, F⟩ := T.f_split_term
  refine ⟨_, fd, F.ok sc_split_term (fun vs H Q E h => ?_) (fun cdv A outer s H vs Q E hr h => ?_), T.g_split_term, F.kp, F.bindsN fun _ _ _ _ _ _ us hl => match us, hl with | [_], _ => rfl⟩
  · obtain ⟨x, rfl, _⟩ := h; rfl
  · obtain ⟨x, rfl, hx, q⟩ := h
    refine ⟨_, (PSs.nox (pss_cons (ps_if (pt_val (pe_cx c_is_constant hr (by decide) pass0 (pa_cons (pv 0) pa_nil))) (pss_one (ps_ret (pe_tup (pa_cons pe_str (pa_cons (pv 0) pa_nil))))) pss_nil)
        (pss_cons (ps_if (pt_cmpR op_eq (pv 0) pe_str (nomark _)) (pss_one (ps_ret (pe_tup (pa_cons pe_str pa_nil)))) pss_nil)
        (pss_cons (ps_asg (pe_partition (pv 0) pe_str) (pg_tup (by rfl) (pgs_cons (pg_name (i := 1) sc_split_term.nd rfl (by first | exact Or.inl rfl | exact Or.inr rfl)) (pgs_cons (pg_name (i := 2) sc_split_term.nd rfl (by first | exact Or.inl rfl | exact Or.inr rfl)) (pgs_cons (pg_name (i := 3) sc_split_term.nd rfl (by first | exact Or.inl rfl | exact Or.inr rfl)) pgs_nil)))))
        (pss_cons (ps_if (pt_cmpR op_eq (pv 2) pe_str (nomark _)) (pss_one (ps_ret (pe_tup (pa_cons pe_str (pa_cons (pv 0) pa_nil))))) pss_nil)
        (pss_one (ps_ret (pe_tup (pa_cons pe_str (pa_cons (pv 1) (pa_cons (pv 3) pa_nil))))))))))), ?_⟩
    refine q_when (et_B (ev_call (ea_cons (ev_var rfl) ea_nil) (sp_con hx))) (fun hb H1 e1 => ?_) (fun hb H1 e1 => ?_)
    · refine s_retU (eu_tup (ea_cons ev_c (ea_cons (ev_var rfl) ea_nil)) (Nat.le_of_ble_eq_true rfl)) fun p H2 hp e2 h2 => ?_
      refine q p H2 (fresh_back e1 hp) (e1.trans e2) ?_
      unfold splitT
      rw [if_pos hb]
      exact h2
    · refine q_when (et_test (ev_op (ev_var rfl) ev_c (rv_eq rfl))) (fun hm H2 e2 => ?_) (fun hm H2 e2 => ?_)
      · refine s_retU (eu_tup (ea_cons ev_c ea_nil) (by decide)) fun p H3 hp e3 h3 => ?_
        refine q p H3 (fresh_back (e1.trans e2) hp) ((e1.trans e2).trans e3) ?_
        unfold splitT
        rw [if_neg (by rw [hb]; decide), if_pos (V.str.inj (of_decide_eq_true hm))]
        exact h3
      · have hm2 : ¬ x = "me" := fun z => of_decide_eq_false hm (by rw [z])
        refine ⟨.str x, rfl, ⟨x, rfl⟩, x, ".", rfl, rfl, rfl, Nat.le_trans hx (by decide), fun p hp => ?_⟩
        refine ⟨p, _, rfl, st_of upd_same, rfl, ?_⟩
        refine ⟨_, _, rfl, _, _, rfl, _, _, rfl, rfl, ?_⟩
        have e3 : Ex H2 (upd H2 p (.tup [.str (Txt.partition x ".").1, .str (Txt.partition x ".").2.1, .str (Txt.partition x ".").2.2])) := Ex.new hp
        refine q_when (et_test (ev_op (ev_var rfl) ev_c (rv_eq rfl))) (fun hz H4 e4 => ?_) (fun hz H4 e4 => ?_)
        · refine s_retU (eu_tup (ea_cons ev_c (ea_cons (ev_var rfl) ea_nil)) (Nat.le_of_ble_eq_true rfl)) fun p2 H5 hp2 e5 h5 => ?_
          refine q p2 H5 (fresh_back (e1.trans (e2.trans (e3.trans e4))) hp2) ((e1.trans (e2.trans (e3.trans e4))).trans e5) ?_
          unfold splitT
          rw [if_neg (by rw [hb]; decide), if_neg hm2, if_pos (V.str.inj (of_decide_eq_true hz))]
          exact h5
        · refine s_retU (eu_tup (ea_cons ev_c (ea_cons (ev_var rfl) (ea_cons (ev_var rfl) ea_nil))) (Nat.le_of_ble_eq_true rfl)) fun p2 H5 hp2 e5 h5 => ?_
          refine q p2 H5 (fresh_back (e1.trans (e2.trans (e3.trans e4))) hp2) ((e1.trans (e2.trans (e3.trans e4))).trans e5) ?_
          unfold splitT
          rw [if_neg (by rw [hb]; decide), if_neg hm2, if_neg (fun z => of_decide_eq_false hz (by rw [z]))]
          exact h5
end
end K23

set_option Elab.async false
set_option linter.all false
set_option maxRecDepth 100000
set_option maxHeartbeats 4000000
/-! the data: tables, terms, lines, what is known; what a line's error is -/
namespace K23
open PySem
/-! ### tables -/
structure Tb where
  name : Str
  par : Option Nat
  cols : List Str
abbrev Tabs := List Tb
def findT (tabs : Tabs) (t : Str) : Option Tb := tabs.find? fun b => decide (b.name = t)
def ixT (tabs : Tabs) (t : Str) : Nat := tabs.findIdx fun b => decide (b.name = t)
def nameI (tabs : Tabs) (i : Nat) : Str := (tabs[i]?.map (·.name)).getD ""
def parI (tabs : Tabs) (i : Nat) : Option Nat := tabs[i]?.bind (·.par)
def colsI (tabs : Tabs) (i : Nat) : List Str := (tabs[i]?.map (·.cols)).getD []
/-- the chain of the i-th table, at most n long -/
def chainF (tabs : Tabs) : Nat → Nat → List Nat
  | 0, _ => []
  | n + 1, i => i :: (match parI tabs i with
    | some j => chainF tabs n j
    | none => [])
def chainI (tabs : Tabs) (i : Nat) : List Nat := chainF tabs (i + 1) i
structure WF (tabs : Tabs) : Prop where
  few : tabs.length ≤ 6
  nod : (tabs.map (·.name)).Nodup
  nam : ∀ b ∈ tabs, isName b.name = true ∧ b.name ≠ "me"
  par : ∀ i j, parI tabs i = some j → j < i
  col : ∀ b ∈ tabs, b.cols.length ≤ 4 ∧ b.cols ≠ [] ∧ b.cols.Nodup ∧ ∀ c ∈ b.cols, isName c = true
  chn : ∀ i, i < tabs.length → (chainI tabs i).length ≤ 4
/-! ### terms -/
inductive Tm where
  | me
  | con (n : Str)
  | val (n : Str)
  | pos (x : Str) (ups : List Str) (c : Str)
def Tm.str : Tm → Str
  | .me => "me"
  | .con n => "'" ++ n ++ "'"
  | .val n => n
  | .pos x ups c => Txt.join "." (x :: (ups ++ [c]))
def Nam (x : Str) : Prop := isName x = true ∧ x ≠ "me"
def Tm.ok : Tm → Prop
  | .me => True
  | .con n => Nam n
  | .val n => Nam n
  | .pos x ups c => Nam x ∧ (∀ u ∈ ups, Nam u) ∧ ups.length ≤ 2 ∧ Nam c
/-! ### what is known -/
structure St where
  rows : List (Str × Nat)
  vals : List Str
  news : List (Str × Nat)
  nt : Nat
  np : Nat
def St.ini : St := ⟨[], [], [], 0, 0⟩
def rowIx (st : St) (x : Str) : Option Nat := st.rows.lookup x
def anyIx (st : St) (x : Str) : Option Nat := match st.news.lookup x with
  | some i => some i
  | none => st.rows.lookup x
/-! ### errors of names -/
def newErr (st : St) (n : Str) : Option Er := if n = "me" ∨ (st.rows.lookup n).isSome = true ∨ n ∈ st.vals ∨ (st.news.lookup n).isSome = true then some (.dup n) else none
def tabErr (tabs : Tabs) (t : Str) : Option Er := if (findT tabs t).isSome = true then none else some (.unk t)
def rowErr (st : St) (x : Str) : Option Er := if (rowIx st x).isSome = true then none else some (.unk x)
def anyErr (st : St) (x : Str) : Option Er := if (anyIx st x).isSome = true then none else some (.unk x)
def colErr (tabs : Tabs) (i : Nat) (c : Str) : Option Er := if c ∈ colsI tabs i then none else some (.unk c)
/-- a position read from the i-th table -/
def posErr (tabs : Tabs) : Nat → List Str → Str → Option Er
  | i, [], c => colErr tabs i c
  | i, u :: r, c => match parI tabs i with
    | some j => if nameI tabs j = u then posErr tabs j r c else some (.unk u)
    | none => some (.unk u)
def termErr (tabs : Tabs) (st : St) : Tm → Option Er
  | .me => none
  | .con _ => none
  | .val n => if n ∈ st.vals then none else some (.unk n)
  | .pos x ups c => match rowIx st x with
    | some i => posErr tabs i ups c
    | none => some (.unk x)
def firstE (l : List (Option Er)) : Option Er := l.findSome? id
/-! ### lines -/
inductive Line where
  | row (x t : Str)
  | value (u : Str)
  | need (a b : Tm)
  | new (n t : Str) (u : Option Str) (ts : List Tm)
  | move (x y : Str)
  | set (x c : Str) (a : Tm)
  | each (t x c : Str) (a : Tm)
  | take (x : Str)
def Line.words : Line → List Str
  | .row x t => ["row", x, "in", t]
  | .value u => ["value", u]
  | .need a b => ["need", a.str, "=", b.str]
  | .new n t none ts => (["new", n, "in", t, "with"] : List Str) ++ ts.map Tm.str
  | .new n t (some x) ts => (["new", n, "in", t, "under", x, "with"] : List Str) ++ ts.map Tm.str
  | .move x y => ["move", x, "under", y]
  | .set x c a => ["set", Txt.join "." [x, c], "=", a.str]
  | .each t x c a => ["each", t, "below", x, "sets", c, "=", a.str]
  | .take x => ["take", x]
def Line.ok : Line → Prop
  | .row x t => Nam x ∧ Nam t
  | .value u => Nam u
  | .need a b => a.ok ∧ b.ok
  | .new n t u ts => Nam n ∧ Nam t ∧ (∀ x, u = some x → Nam x) ∧ (∀ a ∈ ts, a.ok) ∧ 1 ≤ ts.length ∧ ts.length ≤ 2
  | .move x y => Nam x ∧ Nam y
  | .set x c a => Nam x ∧ Nam c ∧ a.ok
  | .each t x c a => Nam t ∧ Nam x ∧ Nam c ∧ a.ok
  | .take x => Nam x
/-- where the line may stand -/
def Line.late (st : St) : Line → Bool
  | .row _ _ => decide (0 < st.nt ∨ 0 < st.np)
  | .value _ => decide (0 < st.nt ∨ 0 < st.np)
  | .need _ _ => decide (0 < st.np)
  | _ => false
def Line.checks (tabs : Tabs) (st : St) : Line → List (Option Er)
  | .row x t => [newErr st x, tabErr tabs t, if st.rows.length = 3 then some .many else none]
  | .value u => [newErr st u]
  | .need a b => [termErr tabs st a, termErr tabs st b]
  | .new n t u ts => [newErr st n, tabErr tabs t] ++ ((u.map (anyErr st)).toList ++ (ts.map (termErr tabs st) ++
      [match u with
        | none => if (parI tabs (ixT tabs t)).isSome = true then some (.wtab t) else none
        | some x => if parI tabs (ixT tabs t) = anyIx st x then none else some (.wtab x),
      if ts.length = (colsI tabs (ixT tabs t)).length then none else some .wcnt]))
  | .move x y => [rowErr st x, anyErr st y, if ((anyIx st x).bind (parI tabs)) = anyIx st y then none else some (.wtab y)]
  | .set x c a => [rowErr st x, colErr tabs ((anyIx st x).getD 0) c, termErr tabs st a]
  | .each t x c a => [tabErr tabs t, anyErr st x, colErr tabs (ixT tabs t) c, termErr tabs st a,
      if (anyIx st x).getD 0 ∈ (chainI tabs (ixT tabs t)).drop 1 then none else some (.wtab t)]
  | .take x => [rowErr st x]
def lineErr (tabs : Tabs) (st : St) (bad : Bool) (ln : Line) : Option Er := if bad = true ∨ ln.late st = true then some .bad else firstE (ln.checks tabs st)
def Line.step (tabs : Tabs) (st : St) : Line → St
  | .row x t => { st with rows := st.rows ++ [(x, ixT tabs t)] }
  | .value u => { st with vals := st.vals ++ [u] }
  | .need _ _ => { st with nt := st.nt + 1 }
  | .new n t _ _ => { st with news := st.news ++ [(n, ixT tabs t)], np := st.np + 1 }
  | _ => { st with np := st.np + 1 }
/-- what stays true of what is known -/
structure Kn (tabs : Tabs) (st : St) : Prop where
  rix : ∀ p ∈ st.rows, p.2 < tabs.length
  nix : ∀ p ∈ st.news, p.2 < tabs.length
  dis : ∀ x, (st.news.lookup x).isSome = true → st.rows.lookup x = none
  rn : ∀ p ∈ st.rows, Nam p.1
  nn : ∀ p ∈ st.news, Nam p.1
  vn : ∀ v ∈ st.vals, Nam v
  rl : st.rows.length ≤ 3
theorem firstE_nil : firstE [] = none := rfl
theorem firstE_cons (a : Option Er) (l : List (Option Er)) : firstE (a :: l) = match a with
    | some e => some e
    | none => firstE l := by
  cases a <;> rfl
theorem firstE_some (e : Er) (l : List (Option Er)) : firstE (some e :: l) = some e := rfl
theorem firstE_none (l : List (Option Er)) : firstE (none :: l) = firstE l := rfl
theorem firstE_append (l m : List (Option Er)) : firstE (l ++ m) = match firstE l with
    | some e => some e
    | none => firstE m := by
  induction l with
  | nil => rfl
  | cons a r ih =>
    cases a with
    | some e => rfl
    | none => exact ih
/-! ### tables by name and by place -/
theorem find_ix {tabs : Tabs} {t : Str} {b : Tb} (h : findT tabs t = some b) : tabs[ixT tabs t]? = some b ∧ b.name = t := by
  unfold findT at h
  unfold ixT
  rw [List.find?_eq_some_iff_getElem] at h
  obtain ⟨h1, i, hi, h2, h3⟩ := h
  have e : tabs.findIdx (fun b => decide (b.name = t)) = i := by
    rw [List.findIdx_eq hi]
    exact ⟨by rw [h2]; exact h1, fun j hj => by
      have := h3 j hj
      simpa using this⟩
  rw [e, List.getElem?_eq_getElem hi, h2]
  exact ⟨rfl, of_decide_eq_true h1⟩
theorem find_lt {tabs : Tabs} {t : Str} (h : (findT tabs t).isSome = true) : ixT tabs t < tabs.length := by
  obtain ⟨b, hb⟩ := Option.isSome_iff_exists.mp h
  exact (List.getElem?_eq_some_iff.mp (find_ix hb).1).1
theorem find_none {tabs : Tabs} {t : Str} (h : (findT tabs t).isSome = false) : ∀ b ∈ tabs, b.name ≠ t := by
  have h2 : findT tabs t = none := by cases e : findT tabs t with
    | none => rfl
    | some b => rw [e] at h; cases h
  intro b hb z
  have := List.find?_eq_none.mp h2 b hb
  exact this (decide_eq_true z)
theorem find_at {tabs : Tabs} (w : (tabs.map (·.name)).Nodup) {i : Nat} {b : Tb} (h : tabs[i]? = some b) : findT tabs b.name = some b ∧ ixT tabs b.name = i := by
  have hs : (findT tabs b.name).isSome = true := by
    cases e : (findT tabs b.name).isSome with
    | true => rfl
    | false => exact absurd rfl (find_none e b (List.mem_of_getElem? h))
  obtain ⟨b2, hb2⟩ := Option.isSome_iff_exists.mp hs
  obtain ⟨h1, h2⟩ := find_ix hb2
  have e : ixT tabs b.name = i := by
    have p1 : (tabs.map (·.name))[ixT tabs b.name]? = some b.name := by rw [List.getElem?_map, h1, Option.map_some, h2]
    have p2 : (tabs.map (·.name))[i]? = some b.name := by rw [List.getElem?_map, h, Option.map_some]
    obtain ⟨q1, r1⟩ := List.getElem?_eq_some_iff.mp p1
    obtain ⟨q2, r2⟩ := List.getElem?_eq_some_iff.mp p2
    exact (List.getElem_inj w).mp (r1.trans r2.symm)
  rw [e, h] at h1
  exact ⟨hb2.trans h1.symm, e⟩
theorem name_inj {tabs : Tabs} (w : (tabs.map (·.name)).Nodup) {i j : Nat} (hi : i < tabs.length) (hj : j < tabs.length) (h : nameI tabs i = nameI tabs j) : i = j := by
  have e1 := find_at w (List.getElem?_eq_getElem hi)
  have e2 := find_at w (List.getElem?_eq_getElem hj)
  unfold nameI at h
  rw [List.getElem?_eq_getElem hi, List.getElem?_eq_getElem hj] at h
  have h2 : tabs[i].name = tabs[j].name := h
  rw [← e1.2, ← e2.2, h2]
theorem name_ix {tabs : Tabs} {t : Str} (h : (findT tabs t).isSome = true) : nameI tabs (ixT tabs t) = t := by
  obtain ⟨b, hb⟩ := Option.isSome_iff_exists.mp h
  obtain ⟨h1, h2⟩ := find_ix hb
  unfold nameI
  rw [h1]
  exact h2
theorem ix_name {tabs : Tabs} (w : (tabs.map (·.name)).Nodup) {i : Nat} (hi : i < tabs.length) : ixT tabs (nameI tabs i) = i ∧ (findT tabs (nameI tabs i)).isSome = true := by
  have e1 := find_at w (List.getElem?_eq_getElem hi)
  unfold nameI
  rw [List.getElem?_eq_getElem hi]
  exact ⟨e1.2, by show (findT tabs tabs[i].name).isSome = true; rw [e1.1]; rfl⟩
theorem par_lt {tabs : Tabs} (W : WF tabs) {i j : Nat} (h : parI tabs i = some j) : i < tabs.length ∧ j < tabs.length := by
  have h1 : i < tabs.length := by
    cases e : tabs[i]? with
    | none => unfold parI at h; rw [e] at h; cases h
    | some b => exact (List.getElem?_eq_some_iff.mp e).1
  have := W.par i j h
  exact ⟨h1, by omega⟩
end K23

set_option Elab.async false
set_option linter.all false
set_option maxRecDepth 100000
set_option maxHeartbeats 4000000
/-! texts: cut and joined; the words of a line, the parts of a term -/
namespace K23
open PySem L2
theorem tl_ext {a b : Str} (h : tlS a = tlS b) : a = b := TL.ext_tl h
theorem tl_cat (a b : Str) : tlS (a ++ b) = tlS a ++ tlS b := TL.tl_append a b
theorem tl_join (s : Str) (ws : List Str) : tlS (Txt.join s ws) = TL.joinL (tlS s) (ws.map tlS) := (congrArg tlS (TL.join_eq s ws)).trans (TL.tl_join s ws)
theorem joinL_nil (s : List Nat) : TL.joinL s [] = [] := rfl
theorem joinL_one (s p : List Nat) : TL.joinL s [p] = p := rfl
theorem joinL_cons (s p q : List Nat) (r : List (List Nat)) : TL.joinL s (p :: q :: r) = p ++ (s ++ TL.joinL s (q :: r)) := rfl
theorem split_join {c : Nat} {sep : Str} (hs : tlS sep = [c]) (hc : c < 256) {ws : List Str} (hne : ws ≠ []) (h : ∀ w ∈ ws, c ∉ tlS w) : Txt.split (Txt.join sep ws) sep = ws := by
  have e1 : sep = SX.S [c] := by rw [← hs, SX.S_tl]
  have e2 : ws = (ws.map tlS).map SX.S := by
    rw [List.map_map]
    conv => lhs; rw [← List.map_id ws]
    exact List.map_congr_left fun w _ => (SX.S_tl w).symm
  have h3 : ∀ p ∈ ws.map tlS, c ∉ p := fun p hp => by
    obtain ⟨w, hw, rfl⟩ := List.mem_map.mp hp
    exact h w hw
  have hne2 : ws.map tlS ≠ [] := fun e => hne (List.map_eq_nil_iff.mp e)
  have g := SX.split_S (a := TL.joinL [c] (ws.map tlS)) (b := [c]) (List.cons_ne_nil _ _) (by simp [hc])
  rw [← SX.join_S, ← e2, ← e1, SX.spl_join hne2 h3, ← e2] at g
  exact g
theorem joinL_mem {s : List Nat} {c : Nat} : ∀ {ps : List (List Nat)}, c ∈ TL.joinL s ps → c ∈ s ∨ ∃ p ∈ ps, c ∈ p
  | [], h => nomatch h
  | [p], h => .inr ⟨p, .head _, h⟩
  | p :: q :: r, h => by
    rw [joinL_cons, List.mem_append, List.mem_append] at h
    rcases h with h | h | h
    · exact .inr ⟨p, .head _, h⟩
    · exact .inl h
    · rcases joinL_mem h with g | ⟨z, hz, g⟩
      · exact .inl g
      · exact .inr ⟨z, .tail _ hz, g⟩
theorem join_mem {sep : Str} {ws : List Str} {c : Nat} (h : c ∈ tlS (Txt.join sep ws)) : c ∈ tlS sep ∨ ∃ w ∈ ws, c ∈ tlS w := by
  rw [tl_join] at h
  rcases joinL_mem h with g | ⟨p, hp, g⟩
  · exact .inl g
  · obtain ⟨w, hw, rfl⟩ := List.mem_map.mp hp
    exact .inr ⟨w, hw, g⟩
theorem joinL_len {s : List Nat} {B : Nat} : ∀ {ps : List (List Nat)}, (∀ p ∈ ps, p.length ≤ B) → (TL.joinL s ps).length ≤ ps.length * (B + s.length)
  | [], _ => Nat.zero_le _
  | [p], h => by
    have := h p (.head _)
    show p.length ≤ 1 * (B + s.length)
    omega
  | p :: q :: r, h => by
    have h1 := h p (.head _)
    have h2 := joinL_len (s := s) (ps := q :: r) fun z hz => h z (.tail _ hz)
    rw [joinL_cons, List.length_append, List.length_append, List.length_cons (a := p), Nat.succ_mul]
    omega
theorem join_len {sep : Str} {ws : List Str} {B : Nat} (h : ∀ w ∈ ws, w.length ≤ B) : (Txt.join sep ws).length ≤ ws.length * (B + sep.length) := by
  have g := joinL_len (s := tlS sep) (B := B) (ps := ws.map tlS) fun p hp => by
    obtain ⟨w, hw, rfl⟩ := List.mem_map.mp hp
    rw [tlS_len]
    exact h w hw
  rw [← tl_join, tlS_len, List.length_map, tlS_len] at g
  exact g
/-! ### names -/
theorem tl_sp : tlS " " = [32] := rfl
theorem tl_dot : tlS "." = [46] := rfl
theorem tl_nl : tlS "\n" = [10] := rfl
theorem tl_quo : tlS "'" = [39] := rfl
theorem sig_ok {c : Nat} (h : inSig c = true) : c ≠ 32 ∧ c ≠ 46 ∧ c ≠ 10 ∧ c ≠ 39 := by
  have h1 : c ∈ tlS SIG := of_decide_eq_true h
  have h2 : ∀ d ∈ tlS SIG, d ≠ 32 ∧ d ≠ 46 ∧ d ≠ 10 ∧ d ≠ 39 := by decide +kernel
  exact h2 c h1
theorem let_sig {c : Nat} (h : c ∈ tlS LET) : inSig c = true := by
  have h2 : ∀ d ∈ tlS LET, inSig d = true := by decide +kernel
  exact h2 c h
theorem name_sig {x : Str} (h : isName x = true) : ∀ c ∈ tlS x, inSig c = true := by
  unfold isName at h
  rw [Bool.and_eq_true, Bool.and_eq_true (a := Option.any _ _)] at h
  exact List.all_eq_true.mp h.2.2
theorem name_len {x : Str} (h : isName x = true) : 1 ≤ x.length ∧ x.length ≤ 12 := by
  unfold isName at h
  rw [Bool.and_eq_true, Bool.and_eq_true, decide_eq_true_eq, decide_eq_true_eq] at h
  omega
theorem name_head {x : Str} (h : isName x = true) : ∃ c r, tlS x = c :: r ∧ c ∈ tlS LET := by
  obtain ⟨c, r, e⟩ := head_of (x := x) (by have := name_len h; omega)
  unfold isName at h
  rw [Bool.and_eq_true, Bool.and_eq_true (a := Option.any _ _), e] at h
  exact ⟨c, r, e, of_decide_eq_true h.2.1⟩
theorem name_free {x : Str} (h : isName x = true) : 32 ∉ tlS x ∧ 46 ∉ tlS x ∧ 10 ∉ tlS x ∧ 39 ∉ tlS x :=
  ⟨fun m => (sig_ok (name_sig h _ m)).1 rfl, fun m => (sig_ok (name_sig h _ m)).2.1 rfl, fun m => (sig_ok (name_sig h _ m)).2.2.1 rfl, fun m => (sig_ok (name_sig h _ m)).2.2.2 rfl⟩
theorem name_val {x : Str} (h : isName x = true) : isVal x = true := by
  have h1 := name_len h
  unfold isVal
  rw [Bool.and_eq_true, Bool.and_eq_true, decide_eq_true_eq, decide_eq_true_eq]
  exact ⟨by omega, List.all_eq_true.mpr (name_sig h)⟩
theorem name_ne {x : Str} (h : isName x = true) : x ≠ Str.empty := fun e => by
  have := name_len h
  rw [e] at this
  have z : Str.empty.length = 0 := rfl
  omega
theorem split_one {x : Str} {c : Nat} {sep : Str} (hs : tlS sep = [c]) (hc : c < 256) (h : c ∉ tlS x) : Txt.split x sep = [x] := by
  have g := split_join hs hc (ws := [x]) (by simp) (by simpa using h)
  have e : Txt.join sep [x] = x := tl_ext (by rw [tl_join]; rfl)
  rw [e] at g
  exact g
/-! ### constants -/
theorem con_tl (n : Str) : tlS ("'" ++ n ++ "'") = 39 :: (tlS n ++ [39]) := by
  rw [tl_cat, tl_cat, tl_quo]
  rfl
theorem con_len (n : Str) : (("'" : Str) ++ n ++ "'").length = n.length + 2 := by
  rw [← tlS_len, con_tl, List.length_cons, List.length_append, tlS_len]
  rfl
theorem con_cut (n : Str) : cutS ("'" ++ n ++ "'") (some 1) (some (-1)) = n := by
  apply tl_ext
  have e : HT.sIx (n.length + 2) 0 (some 1) = 1 := by unfold HT.sIx; simp
  have e2 : HT.sIx (n.length + 2) (n.length + 2) (some (-1)) = n.length + 1 := by unfold HT.sIx; simp; omega
  unfold cutS
  rw [con_len, e, e2]
  show List.take (n.length + 1 - 1) (List.drop 1 (tlS ("'" ++ n ++ "'"))) = _
  rw [con_tl, List.drop_succ_cons, List.drop_zero, show n.length + 1 - 1 = (tlS n).length by rw [tlS_len]; omega, List.take_left']
  rfl
theorem isCon_con {n : Str} (h : isVal n = true) : isCon ("'" ++ n ++ "'") = true := by
  have h1 : 1 ≤ n.length := by
    unfold isVal at h
    rw [Bool.and_eq_true, Bool.and_eq_true, decide_eq_true_eq] at h
    omega
  unfold isCon
  rw [con_len, con_cut, h, con_tl, decide_eq_false (by omega), show 39 :: (tlS n ++ [39]) = (39 :: tlS n) ++ [39] from rfl, List.getLast?_concat]
  rfl
theorem isCon_not {x : Str} {c : Nat} {r : List Nat} (h : tlS x = c :: r) (hc : c ≠ 39) : isCon x = false := by
  unfold isCon
  rw [h]
  simp [hc]
/-! ### terms -/
theorem joinL_head (s : List Nat) (p : List Nat) (r : List (List Nat)) : ∃ t, TL.joinL s (p :: r) = p ++ t := by
  cases r with
  | nil => exact ⟨[], by simp [joinL_one]⟩
  | cons q r => exact ⟨_, joinL_cons s p q r⟩
theorem pos_head {x : Str} {r : List Str} (h : isName x = true) : ∃ c t, tlS (Txt.join "." (x :: r)) = c :: t ∧ c ∈ tlS LET := by
  obtain ⟨c, t, e, hc⟩ := name_head h
  rw [tl_join, List.map_cons]
  obtain ⟨u, hu⟩ := joinL_head (tlS ".") (tlS x) (r.map tlS)
  rw [hu, e]
  exact ⟨c, _, rfl, hc⟩
theorem let_ne39 {c : Nat} (h : c ∈ tlS LET) : c ≠ 39 := (sig_ok (let_sig h)).2.2.2
theorem pos_split {x : Str} {r : List Str} (h : ∀ y ∈ x :: r, isName y = true) : Txt.split (Txt.join "." (x :: r)) "." = x :: r :=
  split_join tl_dot (by decide) (by simp) fun w hw => (name_free (h w hw)).2.1
theorem pos_part {x y : Str} {r : List Str} (h : isName x = true) : Txt.partition (Txt.join "." (x :: y :: r)) "." = ((x, ".", Txt.join "." (y :: r)) : Str × Str × Str) := by
  have e : Txt.join "." (x :: y :: r) = x ++ "." ++ Txt.join "." (y :: r) := by
    apply tl_ext
    rw [tl_cat, tl_cat, tl_join, tl_join, List.append_assoc]
    rfl
  rw [e]
  exact TL.partition_app (s := 46) (S := []) tl_dot (name_free h).2.1
theorem pos_isPath {x : Str} {r : List Str} {n : Int} (h : ∀ y ∈ x :: r, isName y = true) (hn : n ≤ ((x :: r).length : Nat)) : isPath (Txt.join "." (x :: r)) n = true := by
  unfold isPath
  rw [pos_split h, Bool.and_eq_true, decide_eq_true_eq]
  exact ⟨hn, List.all_eq_true.mpr h⟩
theorem pos_dots {x : Str} {r : List Str} (h : ∀ y ∈ x :: r, isName y = true) (hl : r.length ≤ 10000) : dotsOk (Txt.join "." (x :: r)) := by
  unfold dotsOk
  rw [pos_split h]
  exact ⟨by rw [List.length_cons]; omega, fun y hy => by have := name_len (h y hy); omega⟩
theorem one_join (x : Str) : Txt.join "." [x] = x := tl_ext (by rw [tl_join]; rfl)
theorem me_name : isName "me" = true := by decide +kernel
theorem Tm.names {x c : Str} {ups : List Str} (h : (Tm.pos x ups c).ok) : ∀ y ∈ x :: (ups ++ [c]), isName y = true := fun y hy => by
  obtain ⟨h1, h2, _, h4⟩ := h
  rcases List.mem_cons.mp hy with rfl | hy
  · exact h1.1
  · rcases List.mem_append.mp hy with hy | hy
    · exact (h2 y hy).1
    · rw [List.mem_singleton.mp hy]; exact h4.1
theorem Tm.isTerm {a : Tm} (h : a.ok) : K23.isTerm a.str = true := by
  unfold K23.isTerm
  rw [Bool.or_eq_true]
  cases a with
  | me => exact .inr (by have g := pos_isPath (x := "me") (r := []) (n := 1) (by simpa using me_name) (by decide); rw [one_join] at g; exact g)
  | con n => exact .inl (isCon_con (name_val h.1))
  | val n => exact .inr (by have g := pos_isPath (x := n) (r := []) (n := 1) (by simpa using h.1) (by simp); rw [one_join] at g; exact g)
  | pos x ups c => exact .inr (pos_isPath (Tm.names h) (by simp; omega))
theorem Tm.dots {a : Tm} (h : a.ok) : isCon a.str = true ∨ dotsOk a.str := by
  cases a with
  | me => exact .inr (by have g := pos_dots (x := "me") (r := []) (by simpa using me_name) (by decide); rw [one_join] at g; exact g)
  | con n => exact .inl (isCon_con (name_val h.1))
  | val n => exact .inr (by have g := pos_dots (x := n) (r := []) (by simpa using h.1) (by simp); rw [one_join] at g; exact g)
  | pos x ups c => exact .inr (pos_dots (Tm.names h) (by have := h.2.2.1; simp; omega))
def Tm.parts : Tm → List V
  | .me => [.str "me"]
  | .con n => [.str "constant", .str ("'" ++ n ++ "'")]
  | .val n => [.str "value", .str n]
  | .pos x ups c => [.str "row", .str x, .str (Txt.join "." (ups ++ [c]))]
theorem Tm.pos_ne {x c : Str} {ups : List Str} : Txt.join "." (x :: (ups ++ [c])) ≠ "me" := fun e => by
  have g := congrArg tlS e
  rw [tl_join] at g
  have h : 46 ∈ tlS ("me" : Str) := by
    rw [← g]
    cases ups with
    | nil => simp [joinL_cons, tl_dot]
    | cons u r => simp [joinL_cons, tl_dot]
  revert h
  decide +kernel
theorem Tm.split {a : Tm} (h : a.ok) : splitT a.str = a.parts := by
  unfold splitT
  cases a with
  | me => decide +kernel
  | con n => rw [if_pos (show isCon (Tm.con n).str = true from isCon_con (name_val h.1))]; rfl
  | val n =>
    obtain ⟨c, r, e, hc⟩ := name_head h.1
    have p := TL.partition_none (y := ".") (s := 46) (S := []) tl_dot (a := n) (name_free h.1).2.1
    show (if isCon n = true then _ else if n = "me" then _ else if (Txt.partition n ".").2.1 = "" then _ else _) = _
    rw [if_neg (by rw [isCon_not e (let_ne39 hc)]; decide), if_neg h.2, p, if_pos (show Str.empty = ("" : Str) from rfl)]
    rfl
  | pos x ups c =>
    obtain ⟨d, r, e, hd⟩ := pos_head (x := x) (r := ups ++ [c]) h.1.1
    have p : Txt.partition (Txt.join "." (x :: (ups ++ [c]))) "." = ((x, ".", Txt.join "." (ups ++ [c])) : Str × Str × Str) := by
      cases hu : ups ++ [c] with
      | nil => simp at hu
      | cons y r => exact pos_part h.1.1
    show (if isCon (Txt.join "." (x :: (ups ++ [c]))) = true then _ else if (Txt.join "." (x :: (ups ++ [c]))) = "me" then _ else if (Txt.partition (Txt.join "." (x :: (ups ++ [c]))) ".").2.1 = "" then _ else _) = _
    rw [if_neg (by rw [isCon_not e (let_ne39 hd)]; decide), if_neg Tm.pos_ne, p, if_neg (show ¬ (("." : Str) = "") by decide +kernel)]
    rw [show (Tm.pos x ups c).str = Txt.join "." (x :: (ups ++ [c])) from rfl, p]
    rfl
theorem Tm.ups_split {x c : Str} {ups : List Str} (h : (Tm.pos x ups c).ok) : Txt.split (Txt.join "." (ups ++ [c])) "." = ups ++ [c] :=
  split_join tl_dot (by decide) (by simp) fun w hw => (name_free (Tm.names h w (.tail _ hw))).2.1
theorem Tm.len {a : Tm} (h : a.ok) : a.str.length ≤ 60 := by
  cases a with
  | me => decide +kernel
  | con n =>
    have := name_len h.1
    show (("'" : Str) ++ n ++ "'").length ≤ 60
    rw [con_len]; omega
  | val n =>
    have := name_len h.1
    show n.length ≤ 60
    omega
  | pos x ups c =>
    have g := join_len (sep := ".") (ws := x :: (ups ++ [c])) (B := 12) fun w hw => (name_len (Tm.names h w hw)).2
    have h3 := h.2.2.1
    have h4 : (x :: (ups ++ [c])).length ≤ 4 := by simp; omega
    have h5 : ("." : Str).length = 1 := rfl
    show (Txt.join "." (x :: (ups ++ [c]))).length ≤ 60
    rw [h5] at g
    exact Nat.le_trans g (Nat.le_trans (Nat.mul_le_mul_right _ h4) (by decide))
/-! ### words: not empty, no blank, no line's end -/
def Wd (x : Str) : Prop := x ≠ Str.empty ∧ 32 ∉ tlS x ∧ 10 ∉ tlS x ∧ x.length ≤ 60
theorem Nam.wd {x : Str} (h : Nam x) : Wd x := ⟨name_ne h.1, (name_free h.1).1, (name_free h.1).2.2.1, by have := name_len h.1; omega⟩
theorem Tm.wd {a : Tm} (h : a.ok) : Wd a.str := by
  refine ⟨?_, ?_, ?_, Tm.len h⟩
  · cases a with
    | me => decide +kernel
    | con n => exact fun e => by have g := congrArg Str.length e; rw [show (Tm.con n).str.length = n.length + 2 from con_len n] at g; exact absurd g (by show n.length + 2 ≠ 0; omega)
    | val n => exact name_ne h.1
    | pos x ups c =>
        intro e
        obtain ⟨d, r, e2, _⟩ := pos_head (x := x) (r := ups ++ [c]) h.1.1
        rw [show Txt.join "." (x :: (ups ++ [c])) = Str.empty from e] at e2
        exact absurd (congrArg List.length e2) (by simp [Str.empty])
  all_goals
    cases a with
    | me => decide +kernel
    | con n =>
      show _ ∉ tlS ("'" ++ n ++ "'")
      rw [con_tl]
      have := name_free h.1
      simp [this]
    | val n => first | exact (name_free h.1).1 | exact (name_free h.1).2.2.1
    | pos x ups c =>
      intro m
      rcases join_mem m with m | ⟨w, hw, m⟩
      · exact absurd m (by decide +kernel)
      · have := name_free (Tm.names h w hw)
        first | exact this.1 m | exact this.2.2.1 m
theorem wd_join {xs : List Str} (h : ∀ x ∈ xs, isName x = true) (hne : xs ≠ []) (hl : xs.length ≤ 3) : Wd (Txt.join "." xs) := by
  obtain ⟨x, r, rfl⟩ := List.exists_cons_of_ne_nil hne
  refine ⟨fun e => ?_, fun m => ?_, fun m => ?_, ?_⟩
  · obtain ⟨d, r2, e2, _⟩ := pos_head (x := x) (r := r) (h x (.head _))
    rw [e] at e2
    cases e2
  · rcases join_mem m with m | ⟨w, hw, m⟩
    · exact absurd m (by decide +kernel)
    · exact (name_free (h w hw)).1 m
  · rcases join_mem m with m | ⟨w, hw, m⟩
    · exact absurd m (by decide +kernel)
    · exact (name_free (h w hw)).2.2.1 m
  · have g := join_len (sep := ".") (ws := x :: r) (B := 12) fun w hw => (name_len (h w hw)).2
    have h5 : ("." : Str).length = 1 := rfl
    rw [h5] at g
    exact Nat.le_trans g (Nat.le_trans (Nat.mul_le_mul_right _ hl) (by decide))
theorem wd_lit {x : Str} (h : (decide (x ≠ Str.empty) && (decide (32 ∉ tlS x) && (decide (10 ∉ tlS x) && decide (x.length ≤ 60)))) = true) : Wd x := by
  simp only [Bool.and_eq_true, decide_eq_true_eq] at h
  exact h
theorem Line.wds {ln : Line} (h : ln.ok) : ∀ x ∈ ln.words, Wd x := by
  have lit : ∀ x ∈ (["row", "in", "value", "need", "=", "new", "with", "under", "move", "set", "each", "below", "sets", "take"] : List Str), Wd x := fun x hx => wd_lit (by revert x; decide +kernel)
  have l : ∀ {x : Str}, x ∈ (["row", "in", "value", "need", "=", "new", "with", "under", "move", "set", "each", "below", "sets", "take"] : List Str) → Wd x := fun hx => lit _ hx
  cases ln with
  | row x t => simp only [Line.words, List.forall_mem_cons]; exact ⟨l (by simp), h.1.wd, l (by simp), h.2.wd, by simp⟩
  | value u => simp only [Line.words, List.forall_mem_cons]; exact ⟨l (by simp), Nam.wd h, by simp⟩
  | need a b => simp only [Line.words, List.forall_mem_cons]; exact ⟨l (by simp), Tm.wd h.1, l (by simp), Tm.wd h.2, by simp⟩
  | new n t u ts =>
    have ht : ∀ x ∈ ts.map Tm.str, Wd x := fun x hx => by
      obtain ⟨a, ha, rfl⟩ := List.mem_map.mp hx
      exact Tm.wd (h.2.2.2.1 a ha)
    cases u with
    | none => simp only [Line.words, List.cons_append, List.nil_append, List.forall_mem_cons]; exact ⟨l (by simp), h.1.wd, l (by simp), h.2.1.wd, l (by simp), ht⟩
    | some x => simp only [Line.words, List.cons_append, List.nil_append, List.forall_mem_cons]; exact ⟨l (by simp), h.1.wd, l (by simp), h.2.1.wd, l (by simp), (h.2.2.1 x rfl).wd, l (by simp), ht⟩
  | move x y => simp only [Line.words, List.forall_mem_cons]; exact ⟨l (by simp), h.1.wd, l (by simp), h.2.wd, by simp⟩
  | set x c a => simp only [Line.words, List.forall_mem_cons]; exact ⟨l (by simp), wd_join (by simp [h.1.1, h.2.1.1]) (by simp) (by simp), l (by simp), Tm.wd h.2.2, by simp⟩
  | each t x c a => simp only [Line.words, List.forall_mem_cons]; exact ⟨l (by simp), h.1.wd, l (by simp), h.2.1.wd, l (by simp), h.2.2.1.wd, l (by simp), Tm.wd h.2.2.2, by simp⟩
  | take x => simp only [Line.words, List.forall_mem_cons]; exact ⟨l (by simp), Nam.wd h, by simp⟩
theorem Line.words_ne (ln : Line) : ln.words ≠ [] := by
  cases ln with
  | new n t u ts => cases u <;> simp [Line.words]
  | _ => simp [Line.words]
theorem Line.words_len {ln : Line} (h : ln.ok) : ln.words.length ≤ 9 := by
  cases ln with
  | new n t u ts =>
    have := h.2.2.2.2.2
    cases u <;> simp [Line.words] <;> omega
  | _ => simp [Line.words]
/-- a line's words, one more ahead when it is spoiled -/
def wordsB (bad : Bool) (ln : Line) : List Str := if bad = true then "bad" :: ln.words else ln.words
theorem wordsB_wd {bad : Bool} {ln : Line} (h : ln.ok) : ∀ x ∈ wordsB bad ln, Wd x := by
  cases bad with
  | false => exact Line.wds h
  | true =>
    show ∀ x ∈ (("bad" : Str) :: ln.words), Wd x
    simp only [List.forall_mem_cons]
    exact ⟨wd_lit (by decide +kernel), Line.wds h⟩
theorem wordsB_ne {bad : Bool} {ln : Line} : wordsB bad ln ≠ [] := by
  cases bad with
  | false => exact ln.words_ne
  | true => exact List.cons_ne_nil _ _
theorem wordsB_len {bad : Bool} {ln : Line} (h : ln.ok) : (wordsB bad ln).length ≤ 10 := by
  have := Line.words_len h
  cases bad with
  | false => exact Nat.le_trans this (by decide)
  | true => show (ln.words).length + 1 ≤ 10; omega
def lineText (bad : Bool) (ln : Line) : Str := Txt.join " " (wordsB bad ln)
theorem words_split {ws : List Str} (h : ∀ x ∈ ws, Wd x) (hne : ws ≠ []) : Txt.split (Txt.join " " ws) " " = ws := split_join tl_sp (by decide) hne fun w hw => (h w hw).2.1
theorem words_splitW {ws : List Str} (h : ∀ x ∈ ws, Wd x) (hne : ws ≠ []) : splitW (Txt.join " " ws) = ws := by
  unfold splitW
  rw [words_split h hne, if_neg fun m => (h _ m).1 rfl]
theorem words_len {ws : List Str} (h : ∀ x ∈ ws, Wd x) (hl : ws.length ≤ 10) : (Txt.join " " ws).length ≤ 610 := by
  have g := join_len (sep := " ") (ws := ws) (B := 60) fun w hw => (h w hw).2.2.2
  have h5 : (" " : Str).length = 1 := rfl
  rw [h5] at g
  exact Nat.le_trans g (Nat.mul_le_mul_right 61 hl)
theorem words_nl {ws : List Str} (h : ∀ x ∈ ws, Wd x) : 10 ∉ tlS (Txt.join " " ws) := fun m => by
  rcases join_mem m with m | ⟨w, hw, m⟩
  · exact absurd m (by decide +kernel)
  · exact (h w hw).2.2.1 m
theorem text_split {ls : List Str} (hne : ls ≠ []) (h : ∀ x ∈ ls, 10 ∉ tlS x) : Txt.split (Txt.join "\n" ls) "\n" = ls := split_join tl_nl (by decide) hne h
theorem text_len {ls : List Str} (h : ∀ x ∈ ls, x.length ≤ 610) (hl : ls.length ≤ 10) : (Txt.join "\n" ls).length ≤ 6110 := by
  have g := join_len (sep := "\n") (ws := ls) (B := 610) h
  have h5 : ("\n" : Str).length = 1 := rfl
  rw [h5] at g
  exact Nat.le_trans g (Nat.mul_le_mul_right 611 hl)
end K23

set_option Elab.async false
set_option linter.all false
set_option maxRecDepth 100000
set_option maxHeartbeats 4000000
/-! the schema: its reading questions -/
namespace K23
open PySem PySem.Spec PyProof.Rows L2 Evl
section
variable {K : PySem.W.Frag} {σ : L2.St} {H H' : Hp} {ta tb te tx td ty tv : TE} {t u : TT} {x y z v : V} {D : Ends} {tu tz : TS} {a : Addr}
theorem et_isN (h : Ev ta σ H x) : EvT (tB (tIsN ta)) σ H (decide (x = .non)) := fun H1 e Q q => h H1 e _ fun H2 e2 => ⟨_, rfl, q H2 e2⟩
theorem et_notN (h : Ev ta σ H x) : EvT (tB (tNotN ta)) σ H (!decide (x = .non)) := fun H1 e Q q => h H1 e _ fun H2 e2 => ⟨_, rfl, q H2 e2⟩
theorem s_put {k : Str} {l : List (Str × V)} {m : List (Key × V)} (hv : Ev tv σ H v) (hd : Ev td σ H (.ref a)) (hy : Ev ty σ H (.str k)) (ho : H a = some (.dK (sd l))) (hl : l.length ≤ 1000) (he : putK (sd l) (.inr k) v = m)
    (q : ∀ H1, Ex H H1 → D.nx σ (upd H1 a (.dK m))) : sDPut td ty tv D σ H := hv H (Ex.refl H) _ fun H1 e1 => hd H1 e1 _ fun H2 e2 => hy H2 (e1.trans e2) _ fun H3 e3 =>
  ⟨a, _, rfl, DPut.k (k := .inr k) ((e1.trans (e2.trans e3)) _ _ ho) (by rw [sd_len]; exact sz_lt (by omega)), by rw [he]; exact q H3 (e1.trans (e2.trans e3))⟩
theorem s_putL {k : Str} {l : List (Str × V)} {xs : List V} (hv : EvL tv σ H xs) (hd : Ev td σ H (.ref a)) (hy : Ev ty σ H (.str k)) (ho : H a = some (.dK (sd l))) (hl : l.length ≤ 1000) (hn : l.lookup k = none)
    (q : ∀ p H1, H p = none → Ex H H1 → H1 p = some (.lst xs) → D.nx σ (upd H1 a (.dK (sd (l ++ [(k, .ref p)]))))) : sDPut td ty tv D σ H := hv H (Ex.refl H) _ fun p H1 hp e1 h1 => hd H1 e1 _ fun H2 e2 => hy H2 (e1.trans e2) _ fun H3 e3 =>
  ⟨a, _, rfl, DPut.k (k := .inr k) ((e1.trans (e2.trans e3)) _ _ ho) (by rw [sd_len]; exact sz_lt (by omega)), by rw [putK_sd hn]; exact q p H3 hp (e1.trans (e2.trans e3)) ((e2.trans e3) _ _ h1)⟩
theorem q_put {k : Str} {l : List (Str × V)} {m : List (Key × V)} (hv : Ev tv σ H v) (hd : Ev td σ H (.ref a)) (hy : Ev ty σ H (.str k)) (ho : H a = some (.dK (sd l))) (hl : l.length ≤ 1000) (he : putK (sd l) (.inr k) v = m)
    (q : ∀ H1, Ex H H1 → tz D σ (upd H1 a (.dK m))) : tSeq (sDPut td ty tv) tz D σ H := s_put (D := { D with nx := tz D }) hv hd hy ho hl he q
theorem q_putL {k : Str} {l : List (Str × V)} {xs : List V} (hv : EvL tv σ H xs) (hd : Ev td σ H (.ref a)) (hy : Ev ty σ H (.str k)) (ho : H a = some (.dK (sd l))) (hl : l.length ≤ 1000) (hn : l.lookup k = none)
    (q : ∀ p H1, H p = none → Ex H H1 → H1 p = some (.lst xs) → tz D σ (upd H1 a (.dK (sd (l ++ [(k, .ref p)]))))) : tSeq (sDPut td ty tv) tz D σ H := s_putL (D := { D with nx := tz D }) hv hd hy ho hl hn q
/-! ### for i, x in enumerate(xs) -/
abbrev g2 (K : PySem.W.Frag) (i j : Nat) : TG := gTup K 2 (gCons (gName i) (gCons (gName j) gNil))
theorem for_enum {xs : List V} {i j : Nat} (Pv : Nat → L2.St → Hp → Prop) (h0 : Pv 0 σ H) (hl : ∀ k σ' H', k ≤ xs.length → Pv k σ' H' → SqL K H' a xs)
    (hs : ∀ k x σ' H' T, xs[k]? = some x → Pv k σ' H' → H' T = none → tu { D with nx := Pv (k + 1), ct := Pv (k + 1), bk := D.nx } ((σ'.set i (some (.int (k : Nat)))).set j (some x)) (upd H' T (.tup [.int (k : Nat), x]))) (hd : ∀ σ' H', Pv xs.length σ' H' → D.nx σ' H') :
    ∃ W : Nat → Nat → L2.St → Hp → Prop, (∃ m, W 0 m σ H) ∧ ∀ i' m σ H, W i' m σ H →
      ((Ite K a).stop i' H ∧ D.nx σ H) ∨ ((Ite K a).go i' H ∧ ∃ N : L2.St → Hp → Prop, (∀ σ' H', N σ' H' → ∃ m', m' < m ∧ W (i' + 1) m' σ' H') ∧ ∀ x H', (Ite K a).yld i' H x H' → g2 K i j x σ H' fun σ2 H2 => tu { D with nx := N, ct := N, bk := D.nx } σ2 H2) := by
  refine ⟨fun k m σ' H' => m = xs.length - k ∧ k ≤ xs.length ∧ Pv k σ' H', ⟨xs.length, by simp, Nat.zero_le _, h0⟩, ?_⟩
  rintro k m σ' H' ⟨rfl, hi, p⟩
  have q := hl k σ' H' hi p
  by_cases hlt : k < xs.length
  · refine .inr ⟨⟨xs, xs[k], q, by simp [hlt]⟩, Pv (k + 1), fun σ2 H2 p' => ⟨xs.length - (k + 1), by omega, rfl, hlt, p'⟩, fun x H2 y => ?_⟩
    obtain ⟨T, x', rfl, hT, rfl, y⟩ := y
    exact ⟨T, _, rfl, st_of upd_same, rfl, _, _, rfl, _, _, rfl, rfl, hs k x' σ' H' T (y xs q) p hT⟩
  · have e : k = xs.length := by omega
    subst e
    exact .inl ⟨⟨xs, q, Nat.le_refl _⟩, hd σ' H' p⟩
theorem s_forE {xs : List V} {i j : Nat} (h : EvL te σ H xs) (Pv : Addr → Nat → L2.St → Hp → Prop) (h0 : ∀ p H1, H p = none → Ex H H1 → H1 p = some (.lst xs) → Pv p 0 σ H1) (hl : ∀ p k σ' H', k ≤ xs.length → Pv p k σ' H' → SqL K H' p xs)
    (hs : ∀ p k x σ' H' T, xs[k]? = some x → Pv p k σ' H' → H' T = none → tu { D with nx := Pv p (k + 1), ct := Pv p (k + 1), bk := D.nx } ((σ'.set i (some (.int (k : Nat)))).set j (some x)) (upd H' T (.tup [.int (k : Nat), x])))
    (hd : ∀ p σ' H', Pv p xs.length σ' H' → D.nx σ' H') : tFor (iEnum K (tCons te tNil)) (g2 K i j) tu D σ H :=
  h H (Ex.refl H) _ fun p H1 hp e h1 => ⟨p, xs, rfl, sq_of h1, for_enum (Pv p) (h0 p H1 hp e h1) (hl p) (hs p) (hd p)⟩
theorem q_forE {xs : List V} {i j : Nat} (h : EvL te σ H xs) (Pv : Addr → Nat → L2.St → Hp → Prop) (h0 : ∀ p H1, H p = none → Ex H H1 → H1 p = some (.lst xs) → Pv p 0 σ H1) (hl : ∀ p k σ' H', k ≤ xs.length → Pv p k σ' H' → SqL K H' p xs)
    (hs : ∀ p k x σ' H' T, xs[k]? = some x → Pv p k σ' H' → H' T = none → tu { D with nx := Pv p (k + 1), ct := Pv p (k + 1), bk := tz D } ((σ'.set i (some (.int (k : Nat)))).set j (some x)) (upd H' T (.tup [.int (k : Nat), x])))
    (hd : ∀ p σ' H', Pv p xs.length σ' H' → tz D σ' H') : tSeq (tFor (iEnum K (tCons te tNil)) (g2 K i j) tu) tz D σ H := s_forE (D := { D with nx := tz D }) h Pv h0 hl hs hd
theorem q_forEv {xs : List V} {i j : Nat} (h : Ev te σ H (.ref a)) (hx : SqL K H a xs) (Pv : Nat → L2.St → Hp → Prop) (h0 : ∀ H1, Ex H H1 → Pv 0 σ H1) (hl : ∀ k σ' H', k ≤ xs.length → Pv k σ' H' → SqL K H' a xs)
    (hs : ∀ k x σ' H' T, xs[k]? = some x → Pv k σ' H' → H' T = none → tu { D with nx := Pv (k + 1), ct := Pv (k + 1), bk := tz D } ((σ'.set i (some (.int (k : Nat)))).set j (some x)) (upd H' T (.tup [.int (k : Nat), x])))
    (hd : ∀ σ' H', Pv xs.length σ' H' → tz D σ' H') : tSeq (tFor (iEnum K (tCons te tNil)) (g2 K i j) tu) tz D σ H :=
  h H (Ex.refl H) _ fun H1 e1 => ⟨a, xs, rfl, ex_l e1 hx, for_enum (D := { D with nx := tz D }) Pv (h0 H1 e1) hl hs hd⟩
end
/-! ### slices at the ends -/
theorem atI_last (l : List V) (v : V) : atI (l ++ [v]) (-1) = some v := by
  unfold atI ixN
  rw [if_neg (by omega), if_pos (by simp; omega)]
  simp
  rw [show ((-1 : Int) + (l.length + 1 : Int)).toNat = l.length by omega]
  simp
theorem cutV_init (l : List V) (v : V) : cutV (l ++ [v]) none (some (-1)) = l := by
  unfold cutV
  have e1 : HT.sIx (l ++ [v]).length 0 none = 0 := rfl
  have e2 : HT.sIx (l ++ [v]).length (l ++ [v]).length (some (-1)) = l.length := by unfold HT.sIx; simp; omega
  rw [e1, e2, List.drop_zero, Nat.sub_zero, List.take_left']
  rfl
theorem sIx_nat {n m d : Nat} (h : m ≤ n) : HT.sIx n d (some (m : Int)) = m := by
  unfold HT.sIx
  simp
  rw [if_neg (by omega)]
  omega
theorem cutV_from (l : List V) (m : Nat) (h : m ≤ l.length) : cutV l (some (m : Int)) none = l.drop m := by
  unfold cutV
  rw [sIx_nat h, show HT.sIx l.length l.length none = l.length from rfl, List.take_of_length_le (by simp)]
/-! ### outcomes: nothing wrong, or an error of the line -/
def RetE (K : PySem.W.Frag) (l : Int) (er : Option Er) (v : V) (H : Hp) (Q : VK) (E : XK) : Prop := match er with
  | none => ∀ H2, Ex H H2 → Q v H2
  | some e => Rz K l e H E
theorem Rz.go {K : PySem.W.Frag} {l : Int} {er : Er} {G H : Hp} {E : XK} {d : Addr} (h : Rz K l er G E) (e : Ex G H) (hd : H d = some (.xd (er.fs l))) : E (.ref (He.ga K er.cls)) (some d) H := h _ _ H e ⟨rfl, d, rfl, hd⟩
theorem RetE.mono {K : PySem.W.Frag} {l : Int} {er : Option Er} {v : V} {H H' : Hp} {Q : VK} {E : XK} (h : RetE K l er v H Q E) (e : Ex H H') : RetE K l er v H' Q E := by
  cases er with
  | none => exact fun H2 e2 => h H2 (e.trans e2)
  | some er => exact Rz.mono h e
/-! ### the schema in the heap: the first n tables read -/
def hasT (tabs : Tabs) (n : Nat) (t : Str) : Bool := (tabs.take n).any fun b => decide (b.name = t)
def parV (tabs : Tabs) : Option Nat → V
  | none => .non
  | some j => .str (nameI tabs j)
abbrev SC (K : PySem.W.Frag) : Addr := He.ga K "Schema"
def schF (text : Str) (cl pr ow fo : Addr) : List (Str × V) := [("text", .str text), ("column_lists", .ref cl), ("parents", .ref pr), ("owners", .ref ow), ("following", .ref fo)]
structure SchX (K : PySem.W.Frag) (tabs : Tabs) (n : Nat) (H : Hp) (sc dx : Addr) (text : Str) (cl pr ow fo : Addr) (cs ps : List (Str × V)) : Prop where
  o : H sc = some (.ins (SC K) dx (schF text cl pr ow fo))
  c : H cl = some (.dK (sd cs))
  p : H pr = some (.dK (sd ps))
  ne : cl ≠ pr
  le : n ≤ tabs.length
  cn : cs.length = n
  pn : ps.length = n
  has : ∀ t, (cs.lookup t).isSome = hasT tabs n t
  hasP : ∀ t, (ps.lookup t).isSome = hasT tabs n t
  cols : ∀ i b, i < n → tabs[i]? = some b → ∃ p, cs.lookup b.name = some (.ref p) ∧ H p = some (.lst (b.cols.map V.str))
  pars : ∀ i b, i < n → tabs[i]? = some b → ps.lookup b.name = some (parV tabs b.par)
def Sch (K : PySem.W.Frag) (tabs : Tabs) (n : Nat) (H : Hp) (sc : Addr) : Prop := ∃ dx text cl pr ow fo cs ps, SchX K tabs n H sc dx text cl pr ow fo cs ps
theorem Sch.mono {K : PySem.W.Frag} {tabs : Tabs} {n : Nat} {H H' : Hp} {sc : Addr} (h : Sch K tabs n H sc) (e : Ex H H') : Sch K tabs n H' sc := by
  obtain ⟨dx, text, cl, pr, ow, fo, cs, ps, X⟩ := h
  refine ⟨dx, text, cl, pr, ow, fo, cs, ps, e _ _ X.o, e _ _ X.c, e _ _ X.p, X.ne, X.le, X.cn, X.pn, X.has, X.hasP, fun i b hi hb => ?_, X.pars⟩
  obtain ⟨p, h1, h2⟩ := X.cols i b hi hb
  exact ⟨p, h1, e _ _ h2⟩
theorem hasT_full {tabs : Tabs} {t : Str} : hasT tabs tabs.length t = (findT tabs t).isSome := by
  unfold hasT findT
  rw [List.take_length, List.isSome_find?]
/-! ### what the schema's methods promise -/
def spCT (K : PySem.W.Frag) : Sp := fun vs H Q E => ∃ (sc : Addr) (t : Str) (l : Int) (tabs : Tabs) (n : Nat), vs = [.ref sc, .str t, .int l] ∧ Sch K tabs n H sc ∧ RetE K l (if hasT tabs n t = true then none else some (.unk t)) .non H Q E
def spCols (K : PySem.W.Frag) : Sp := fun vs H Q E => ∃ (sc : Addr) (b : Tb) (tabs : Tabs) (n i : Nat), vs = [.ref sc, .str b.name] ∧ Sch K tabs n H sc ∧ i < n ∧ tabs[i]? = some b ∧ RetL (b.cols.map V.str) H Q
def spPar (K : PySem.W.Frag) : Sp := fun vs H Q E => ∃ (sc : Addr) (b : Tb) (tabs : Tabs) (n i : Nat), vs = [.ref sc, .str b.name] ∧ Sch K tabs n H sc ∧ i < n ∧ tabs[i]? = some b ∧ RetV (parV tabs b.par) H Q
def spChain (K : PySem.W.Frag) : Sp := fun vs H Q E => ∃ (sc : Addr) (b : Tb) (tabs : Tabs) (n i : Nat), vs = [.ref sc, .str b.name] ∧ Sch K tabs n H sc ∧ WF tabs ∧ i < n ∧ tabs[i]? = some b ∧ RetL ((chainI tabs i).map fun j => V.str (nameI tabs j)) H Q
def spPos (K : PySem.W.Frag) : Sp := fun vs H Q E => ∃ (sc p : Addr) (l : Int) (b : Tb) (tabs : Tabs) (i : Nat) (ups : List Str) (c : Str), vs = [.ref sc, .int l, .str b.name, .ref p] ∧ Sch K tabs tabs.length H sc ∧ WF tabs ∧ tabs[i]? = some b ∧
  SqL K H p ((ups ++ [c]).map V.str) ∧ RetE K l (posErr tabs i ups c) .non H Q E
/-! ### chains -/
theorem chainF_fuel {tabs : Tabs} (W : WF tabs) : ∀ (i n m : Nat), i < n → i < m → chainF tabs n i = chainF tabs m i := by
  intro i
  induction i using Nat.strongRecOn with
  | _ i ih =>
    intro n m hn hm
    obtain ⟨n, rfl⟩ : ∃ k, n = k + 1 := ⟨n - 1, by omega⟩
    obtain ⟨m, rfl⟩ : ∃ k, m = k + 1 := ⟨m - 1, by omega⟩
    unfold chainF
    cases h : parI tabs i with
    | none => rfl
    | some j =>
      have := W.par i j h
      show i :: chainF tabs n j = i :: chainF tabs m j
      rw [ih j this n m (by omega) (by omega)]
def restOf (tabs : Tabs) : Option Nat → List Nat
  | none => []
  | some j => chainI tabs j
theorem chainI_eq {tabs : Tabs} (W : WF tabs) (i : Nat) : chainI tabs i = i :: restOf tabs (parI tabs i) := by
  unfold chainI
  rw [show chainF tabs (i + 1) i = i :: (match parI tabs i with | some j => chainF tabs i j | none => []) from rfl]
  cases h : parI tabs i with
  | none => rfl
  | some j =>
    have := W.par i j h
    show i :: chainF tabs i j = i :: chainF tabs (j + 1) j
    rw [chainF_fuel W j i (j + 1) this (by omega)]
theorem parI_at {tabs : Tabs} {i : Nat} {b : Tb} (h : tabs[i]? = some b) : parI tabs i = b.par := by unfold parI; rw [h]; rfl
theorem nameI_at {tabs : Tabs} {i : Nat} {b : Tb} (h : tabs[i]? = some b) : nameI tabs i = b.name := by unfold nameI; rw [h]; rfl
theorem colsI_at {tabs : Tabs} {i : Nat} {b : Tb} (h : tabs[i]? = some b) : colsI tabs i = b.cols := by unfold colsI; rw [h]; rfl
theorem chainI_lt {tabs : Tabs} (W : WF tabs) : ∀ (i : Nat), i < tabs.length → ∀ j ∈ chainI tabs i, j ≤ i := by
  intro i
  induction i using Nat.strongRecOn with
  | _ i ih =>
    intro hi j hj
    rw [chainI_eq W] at hj
    rcases List.mem_cons.mp hj with rfl | hj
    · exact Nat.le_refl _
    · cases h : parI tabs i with
      | none => rw [h] at hj; cases hj
      | some k =>
        rw [h] at hj
        have := W.par i k h
        have := ih k this (by omega) j hj
        omega
theorem hasT_at {tabs : Tabs} {n i : Nat} {b : Tb} (h : tabs[i]? = some b) (hi : i < n) : hasT tabs n b.name = true := by
  unfold hasT
  rw [List.any_eq_true]
  refine ⟨b, ?_, decide_eq_true rfl⟩
  rw [List.mem_take_iff_getElem]
  obtain ⟨h1, h2⟩ := List.getElem?_eq_some_iff.mp h
  exact ⟨i, by omega, h2⟩
section
variable {P : Program} {w : World} {K : PySem.W.Frag} {mg : Str → Option Value} {base : Heap}
theorem fn_check_table (T : Txt K mg) : ∃ fd, FnOk P w K mg base (L2.CX P w) 3 (He.ma K (SC K) "check_table") fd ["self", "table", "line"] (spCT K) ∧ Binds K fd ["self", "table", "line"] [] ∧ ∃ ds, Vals [.int 0] ds ∧ Binds K fd ["self", "table", "line"] ds := by
  obtain ⟨fd, F⟩ := T.f_Schema_check_table
  refine ⟨fd, F.ok sc_Schema_check_table (fun vs H Q E h => ?_) (fun cdv A outer s H vs Q E hr h => ?_), ?_, ?_⟩
  · obtain ⟨sc, t, l, tabs, n, rfl, _⟩ := h; rfl
  · obtain ⟨sc, t, l, tabs, n, rfl, ⟨dx, text, cl, pr, ow, fo, cs, ps, X⟩, q⟩ := h
    refine ⟨_, (pss_one (ps_if (pt_cmp (pc_dnotin (hu_of hr) (pv 1) (pe_fld (pv 0) rfl))) (pss_one (rz_UnknownName T hr (by decide) rfl (takes_of rfl rfl rfl rfl) (pa_cons (pv 2) (pa_cons (pv 1) pa_nil)))) pss_nil)), ?_⟩
    refine s_when (et_notIn (ev_var rfl) (ev_fld (ev_var rfl) X.o T.c_Schema T.n_Schema_column_lists rfl) X.c) (fun hb H1 e1 => ?_) (fun hb H1 e1 => ?_)
    · rw [X.has, Bool.not_eq_true'] at hb
      rw [if_neg (by rw [hb]; decide)] at q
      exact s_rz2 (ea_cons (ev_var rfl) (ea_cons (ev_var rfl) ea_nil)) fun H2 d e2 hd => Rz.go (er := .unk t) q (e1.trans e2) hd
    · rw [X.has, Bool.not_eq_false'] at hb
      rw [if_pos hb] at q
      exact q H1 e1
  · obtain ⟨ds, v, b⟩ := F.binds1 (ps := ["self", "table", "line"]) 3 1 (by simp) rfl (fun _ _ _ _ _ _ _ us its hu hi => match us, hu, its, hi with | [_, _, _], _, [_], _ => ⟨_, rfl, rfl⟩)
    cases v
    exact b
  · exact F.binds1 (ps := ["self", "table", "line"]) 2 0 (by simp) rfl (fun _ _ _ _ _ _ _ us its hu hi => match us, hu, its, hi with | [_, _], _, [_], _ => ⟨_, rfl, rfl⟩)
theorem ok_check_table (T : Txt K mg) : MetX P w K mg base (L2.CX P w) 3 (SC K) "check_table" ["self", "table", "line"] (spCT K) [] := by
  obtain ⟨fd, F, b, _⟩ := fn_check_table (P := P) (w := w) (base := base) T
  exact ⟨T.c_Schema, _, fd, [], F, T.m_Schema_check_table, b, .nil⟩
theorem ok_check_table1 (T : Txt K mg) : MetX P w K mg base (L2.CX P w) 3 (SC K) "check_table" ["self", "table", "line"] (spCT K) [.int 0] := by
  obtain ⟨fd, F, _, ds, v, b⟩ := fn_check_table (P := P) (w := w) (base := base) T
  exact ⟨T.c_Schema, _, fd, ds, F, T.m_Schema_check_table, b, v⟩
theorem sch_m (m : Str) (h : (schF Str.empty 0 0 0 0).lookup m = none) {text : Str} {cl pr ow fo : Addr} : (schF text cl pr ow fo).lookup m = none := by
  unfold schF at h ⊢
  simp only [List.lookup] at h ⊢
  revert h
  repeat' split
  all_goals simp
theorem ok_columns (T : Txt K mg) : MetX P w K mg base CX0 4 (SC K) "columns" ["self", "table"] (spCols K) [] := by
  have m_check_table1 := ok_check_table1 (P := P) (w := w) (base := base) T
  obtain ⟨fd, F⟩ := T.f_Schema_columns
  refine ⟨T.c_Schema, _, fd, [], F.ok sc_Schema_columns (fun vs H Q E h => ?_) (fun cdv A outer s H vs Q E hr h => ?_), T.m_Schema_columns, F.bindsN fun _ _ _ _ _ _ us hl => match us, hl with | [_, _], _ => rfl, .nil⟩
  · obtain ⟨sc, b, tabs, n, i, rfl, _⟩ := h; rfl
  · obtain ⟨sc, b, tabs, n, i, rfl, S, hi, hb, q⟩ := h
    obtain ⟨dx, text, cl, pr, ow, fo, cs, ps, X⟩ := id S
    refine ⟨_, (PSs.nox (pss_cons (ps_expr (pe_mx m_check_table1 hr (by decide) passL (pv 0) (pa_cons (pv 1) pa_nil)))
        (pss_one (ps_ret (pe_callTy call_listL (by rfl) T.b_list (by decide +kernel) (pa_cons (pe_dget (hu_of hr) (pe_fld (pv 0) rfl) (pv 1) (fun _ _ => rfl)) pa_nil)))))), ?_⟩
    refine q_meth (ev_var rfl) X.o (sch_m _ rfl) (ea_cons (ev_var rfl) ea_nil) fun H1 e1 => ?_
    refine ⟨sc, b.name, 0, tabs, n, rfl, S.mono e1, ?_⟩
    rw [if_pos (hasT_at hb hi)]
    intro H2 e2
    obtain ⟨p, h1, h2⟩ := X.cols i b hi hb
    have e := e1.trans e2
    exact s_retL (el_list (ev_dget (ev_fld (ev_var rfl) (e _ _ X.o) T.c_Schema T.n_Schema_column_lists rfl) (ev_var rfl) (e _ _ X.c) h1) (sq_of (e _ _ h2))) fun p2 H3 hp e3 h3 => q p2 H3 (fresh_back e hp) (e.trans e3) h3
theorem ok_parent_of (T : Txt K mg) : MetX P w K mg base CX0 4 (SC K) "parent_of" ["self", "table"] (spPar K) [] := by
  have m_check_table1 := ok_check_table1 (P := P) (w := w) (base := base) T
  obtain ⟨fd, F⟩ := T.f_Schema_parent_of
  refine ⟨T.c_Schema, _, fd, [], F.ok sc_Schema_parent_of (fun vs H Q E h => ?_) (fun cdv A outer s H vs Q E hr h => ?_), T.m_Schema_parent_of, F.bindsN fun _ _ _ _ _ _ us hl => match us, hl with | [_, _], _ => rfl, .nil⟩
  · obtain ⟨sc, b, tabs, n, i, rfl, _⟩ := h; rfl
  · obtain ⟨sc, b, tabs, n, i, rfl, S, hi, hb, q⟩ := h
    obtain ⟨dx, text, cl, pr, ow, fo, cs, ps, X⟩ := id S
    refine ⟨_, (PSs.nox (pss_cons (ps_expr (pe_mx m_check_table1 hr (by decide) passL (pv 0) (pa_cons (pv 1) pa_nil)))
        (pss_one (ps_ret (pe_dget (hu_of hr) (pe_fld (pv 0) rfl) (pv 1) (fun _ _ => rfl)))))), ?_⟩
    refine q_meth (ev_var rfl) X.o (sch_m _ rfl) (ea_cons (ev_var rfl) ea_nil) fun H1 e1 => ?_
    refine ⟨sc, b.name, 0, tabs, n, rfl, S.mono e1, ?_⟩
    rw [if_pos (hasT_at hb hi)]
    intro H2 e2
    have e := e1.trans e2
    exact s_ret (ev_dget (ev_fld (ev_var rfl) (e _ _ X.o) T.c_Schema T.n_Schema_parents rfl) (ev_var rfl) (e _ _ X.p) (X.pars i b hi hb)) fun H3 e3 => q H3 (e.trans e3)
theorem ok_chain_of (T : Txt K mg) : MetX P w K mg base CX0 4 (SC K) "chain_of" ["self", "table"] (spChain K) [] := by
  have m_check_table1 := ok_check_table1 (P := P) (w := w) (base := base) T
  obtain ⟨fd, F⟩ := T.f_Schema_chain_of
  refine ⟨T.c_Schema, _, fd, [], F.ok sc_Schema_chain_of (fun vs H Q E h => ?_) (fun cdv A outer s H vs Q E hr h => ?_), T.m_Schema_chain_of, F.bindsN fun _ _ _ _ _ _ us hl => match us, hl with | [_, _], _ => rfl, .nil⟩
  · obtain ⟨sc, b, tabs, n, i, rfl, _⟩ := h; rfl
  · obtain ⟨sc, b, tabs, n, i, rfl, S, W, hi, hb, q⟩ := h
    obtain ⟨dx, text, cl, pr, ow, fo, cs, ps, X⟩ := id S
    refine ⟨_, (PSs.nox (pss_cons (ps_expr (pe_mx m_check_table1 hr (by decide) passL (pv 0) (pa_cons (pv 1) pa_nil)))
        (pss_cons (ps_set (i := 2) sc_Schema_chain_of.nd rfl (by first | exact Or.inl rfl | exact Or.inr rfl) (pe_lst pa_nil))
        (pss_cons (ps_while PassesOwn.never (pt_cmp (pc_notN (pv 1))) (pss_cons (ps_expr (pe_bm PySem.F.plainAttrs_list PySem.F.slot_list_append PySem.F.type_list_append mt_append (pv 2) (pa_cons (pv 1) pa_nil)))
        (pss_one (ps_set (i := 1) sc_Schema_chain_of.nd rfl (by first | exact Or.inl rfl | exact Or.inr rfl) (pe_dget (hu_of hr) (pe_fld (pv 0) rfl) (pv 1) (fun _ _ => rfl))))))
        (pss_one (ps_ret (pv 2))))))), ?_⟩
    refine q_meth (ev_var rfl) X.o (sch_m _ rfl) (ea_cons (ev_var rfl) ea_nil) fun H1 e1 => ?_
    refine ⟨sc, b.name, 0, tabs, n, rfl, S.mono e1, ?_⟩
    rw [if_pos (hasT_at hb hi)]
    intro H2 e2
    have e := e1.trans e2
    have hle := X.le
    refine q_asgL (el_lst ea_nil (by decide)) fun f H3 hf e3 h3 => ?_
    have ef := e.trans e3
    let Wd : Nat → L2.St → Hp → Prop := fun m σ' H' => ∃ (done : List Nat) (cur : Option Nat), σ' = [some (.ref sc), some (parV tabs cur), some (.ref f)] ∧ Ex H H' ∧ H' f = some (.lst (done.map fun j => V.str (nameI tabs j))) ∧ (∀ j, cur = some j → j < n) ∧
      done ++ restOf tabs cur = chainI tabs i ∧ m = (match cur with | some j => j + 1 | none => 0)
    refine q_while Wd (i + 1) ⟨[], some i, ?_, ef, h3, fun j hj => by cases hj; exact hi, rfl, rfl⟩ ?_
    · show _ = [_, some (V.str (nameI tabs i)), _]
      rw [nameI_at hb]
      rfl
    · rintro m σ' H' ⟨done, cur, rfl, eH, hf', hc, hch, rfl⟩
      refine ⟨_, et_notN (ev_var rfl), fun hb1 H4 e4 => ?_, fun hb1 H4 e4 => ?_⟩
      · cases cur with
        | none => cases hb1
        | some j =>
          refine ⟨fun σ2 H2 => ∃ m', m' < j + 1 ∧ Wd m' σ2 H2, fun σ2 H2 z => z, ?_⟩
          have hj := hc j rfl
          obtain ⟨bj, hbj⟩ : ∃ bj, tabs[j]? = some bj := ⟨_, List.getElem?_eq_getElem (show j < tabs.length by omega)⟩
          have hlen : done.length ≤ 90000 := by
            have h1 := congrArg List.length hch
            rw [List.length_append] at h1
            have h2 := W.chn i (by omega)
            omega
          refine q_app (e4 _ _ hf') (ev_var rfl) (ev_var rfl) (by rw [List.length_map]; omega) fun H5 e5 => ?_
          have e6 : Ex H (upd H5 f (.lst (done.map (fun j => V.str (nameI tabs j)) ++ [V.str (nameI tabs j)]))) := Ex.mut (eH.trans (e4.trans e5)) (fresh_back e hf)
          refine s_asg (ev_dget (ev_fld (ev_var rfl) (e6 _ _ X.o) T.c_Schema T.n_Schema_parents rfl) (ev_is (ev_var rfl) (show parV tabs (some j) = V.str bj.name by show V.str (nameI tabs j) = _; rw [nameI_at hbj])) (e6 _ _ X.p) (X.pars j bj hj hbj)) fun H7 e7 => ?_
          have hpj : parI tabs j = bj.par := parI_at hbj
          refine ⟨(match bj.par with | some k => k + 1 | none => 0), ?_, done ++ [j], bj.par, rfl, e6.trans e7, ?_, fun k hk => ?_, ?_, rfl⟩
          · cases hp : bj.par with
            | none => exact Nat.succ_pos _
            | some k =>
              have := W.par j k (hpj.trans hp)
              show k + 1 < j + 1
              omega
          · rw [List.map_append]
            exact e7 _ _ upd_same
          · have := W.par j k (hpj.trans hk)
            omega
          · rw [List.append_assoc, ← hch, ← hpj]
            show done ++ (j :: restOf tabs (parI tabs j)) = done ++ chainI tabs j
            rw [← chainI_eq W]
      · cases cur with
        | some j => cases hb1
        | none =>
          have hd : done = chainI tabs i := by rw [← hch]; exact (List.append_nil _).symm
          rw [hd] at hf'
          exact s_ret (ev_var rfl) fun H5 e5 => q f H5 (fresh_back e hf) (eH.trans (e4.trans e5)) (e5 _ _ (e4 _ _ hf'))
theorem ok_check_position (T : Txt K mg) : MetX P w K mg base (L2.CX P w) 3 (SC K) "check_position" ["self", "line", "table", "names"] (spPos K) [] := by
  obtain ⟨fd, F⟩ := T.f_Schema_check_position
  refine ⟨T.c_Schema, _, fd, [], F.ok sc_Schema_check_position (fun vs H Q E h => ?_) (fun cdv A outer s H vs Q E hr h => ?_), T.m_Schema_check_position, F.bindsN fun _ _ _ _ _ _ us hl => match us, hl with | [_, _, _, _], _ => rfl, .nil⟩
  · obtain ⟨sc, p, l, b, tabs, i, ups, c, rfl, _⟩ := h; rfl
  · obtain ⟨sc, p, l, b, tabs, i, ups, c, rfl, S, W, hb, hp, q⟩ := h
    obtain ⟨dx, text, cl, pr, ow, fo, cs, ps, X⟩ := id S
    refine ⟨_, (pss_cons (ps_for (passes_of rfl) rfl (pi_list (pe_slice sl_list (pv 3) po_none (po_some (pe_un un_neg pe_int)))) (pg_name (i := 4) sc_Schema_check_position.nd rfl (by first | exact Or.inl rfl | exact Or.inr rfl)) (pss_cons (ps_set (i := 5) sc_Schema_check_position.nd rfl (by first | exact Or.inl rfl | exact Or.inr rfl) (pe_dget (hu_of hr) (pe_fld (pv 0) rfl) (pv 2) (fun _ _ => rfl)))
        (pss_cons (ps_if (PW.pt (pw_or (pt_cmp (pc_isN (pv 5))) (pw_or1 (pt_cmpR op_ne (pv 5) (pv 4) (nomark _))))) (pss_one (rz_UnknownName T hr (by decide) rfl (takes_of rfl rfl rfl rfl) (pa_cons (pv 1) (pa_cons (pv 4) pa_nil)))) pss_nil)
        (pss_one (ps_set (i := 2) sc_Schema_check_position.nd rfl (by first | exact Or.inl rfl | exact Or.inr rfl) (pv 4))))))
        (pss_one (ps_if (pt_cmpR op_notIn_seq (pe_ix ix_list (pv 3) (pe_un un_neg pe_int) (fun _ _ => rfl)) (pe_dget (hu_of hr) (pe_fld (pv 0) rfl) (pv 2) (fun _ _ => rfl)) rfl) (pss_one (rz_UnknownName T hr (by decide) rfl (takes_of rfl rfl rfl rfl) (pa_cons (pv 1) (pa_cons (pe_ix ix_list (pv 3) (pe_un un_neg pe_int) (fun _ _ => rfl)) pa_nil)))) pss_nil))), ?_⟩
    have hmap : (ups ++ [c]).map V.str = ups.map V.str ++ [V.str c] := by rw [List.map_append]; rfl
    rw [hmap] at hp
    have hsl := cutV_init (ups.map V.str) (V.str c)
    refine q_forNLn (xs := ups.map V.str) (hsl ▸ el_sl (ev_var rfl) eo_none (eo_some (ev_un ev_c ru_neg)) hp) (fun pn k σ' H' => ∃ (j : Nat) (bj : Tb) (o1 o2 : Option V), σ' = [some (.ref sc), some (.int l), some (.str bj.name), some (.ref p), o1, o2] ∧ Ex H H' ∧ H' pn = some (.lst (ups.map V.str)) ∧ tabs[j]? = some bj ∧ posErr tabs i ups c = posErr tabs j (ups.drop k) c)
      (fun pn H1 hpn e1 h1 => ⟨i, b, none, none, rfl, e1, h1, hb, rfl⟩) (fun pn k σ' H' _ ⟨_, _, _, _, _, _, h, _⟩ => sq_of h) ?_ ?_
    · rintro pn k x σ' H' hx ⟨j, bj, o1, o2, rfl, eH, hpn, hbj, hpos⟩
      rw [List.getElem?_map] at hx
      obtain ⟨u, hu, rfl⟩ : ∃ u, ups[k]? = some u ∧ V.str u = x := by
        cases hu : ups[k]? with
        | none => rw [hu] at hx; cases hx
        | some u => rw [hu] at hx; exact ⟨u, rfl, Option.some.inj hx⟩
      have hdrop : ups.drop k = u :: ups.drop (k + 1) := by
        obtain ⟨h1, h2⟩ := List.getElem?_eq_some_iff.mp hu
        rw [List.drop_eq_getElem_cons h1, h2]
      rw [hdrop] at hpos
      have hpj : parI tabs j = bj.par := parI_at hbj
      have hjl : j < tabs.length := (List.getElem?_eq_some_iff.mp hbj).1
      refine q_asg (ev_dget (ev_fld (ev_var rfl) (eH _ _ X.o) T.c_Schema T.n_Schema_parents rfl) (ev_var rfl) (eH _ _ X.p) (X.pars j bj hjl hbj)) fun H2 e2 => ?_
      have unk : ∀ (o : Option V) (D2 : Ends) H3, Ex H H3 → posErr tabs i ups c = some (.unk u) → tRz2 (He.ga K "UnknownName") (fun cls d _ H => E cls d H) (tCons (tVar 1) (tCons (tVar 4) tNil)) D2 [some (.ref sc), some (.int l), some (.str bj.name), some (.ref p), some (.str u), o] H3 := fun o D2 H3 e3 z => by
        rw [z] at q
        exact s_rz2 (ea_cons (ev_var rfl) (ea_cons (ev_var rfl) ea_nil)) fun H4 d e4 hd => Rz.go (er := .unk u) q (e3.trans e4) hd
      cases hpp : bj.par with
      | none =>
        refine q_when (b := true) (et_or (a := true) (b := true) (et_isN (x := .non) (ev_var rfl)) (fun z => by cases z)) (fun _ H3 e3 => ?_) (fun z => by cases z)
        have z : posErr tabs i ups c = some (.unk u) := by rw [hpos]; unfold posErr; rw [hpj, hpp]
        exact unk _ _ H3 (eH.trans (e2.trans e3)) z
      | some j2 =>
        have hlt := W.par j j2 (hpj.trans hpp)
        obtain ⟨b2, hb2⟩ : ∃ b2, tabs[j2]? = some b2 := ⟨_, List.getElem?_eq_getElem (show j2 < tabs.length by omega)⟩
        have hn2 : nameI tabs j2 = b2.name := nameI_at hb2
        refine q_when (et_or (et_isN (ev_var rfl)) (fun _ => et_test (ev_op (ev_var rfl) (ev_var rfl) (rv_ne rfl)))) (fun hz H3 e3 => ?_) (fun hz H3 e3 => ?_)
        · have hne : nameI tabs j2 ≠ u := fun z => by
            subst z
            rw [show (decide (parV tabs (some j2) = V.non)) = false from rfl, Bool.false_or, decide_eq_true (show parV tabs (some j2) = V.str (nameI tabs j2) from rfl)] at hz
            cases hz
          have z : posErr tabs i ups c = some (.unk u) := by rw [hpos]; unfold posErr; rw [hpj, hpp]; exact if_neg hne
          exact unk _ _ H3 (eH.trans (e2.trans e3)) z
        · have he : nameI tabs j2 = u := by
            rw [show (decide (parV tabs (some j2) = V.non)) = false from rfl, Bool.false_or, Bool.not_eq_false', decide_eq_true_eq] at hz
            exact V.str.inj hz
          refine s_asg (ev_var rfl) fun H4 e4 => ⟨j2, b2, some (.str u), some (parV tabs (some j2)), ?_, eH.trans (e2.trans (e3.trans e4)), (e2.trans (e3.trans e4)) _ _ hpn, hb2, ?_⟩
          · rw [← hn2, he]; rfl
          · rw [hpos, posErr, hpj, hpp]
            exact if_pos he
    · rintro pn σ' H' ⟨j, bj, o1, o2, rfl, eH, hpn, hbj, hpos⟩
      rw [List.length_map, List.drop_length] at hpos
      have hjl : j < tabs.length := (List.getElem?_eq_some_iff.mp hbj).1
      obtain ⟨pc, hc1, hc2⟩ := X.cols j bj hjl hbj
      have hcol : posErr tabs i ups c = if c ∈ bj.cols then none else some (.unk c) := by rw [hpos]; unfold posErr colErr; rw [colsI_at hbj]
      refine s_when (et_test (ev_op (ev_op (ev_var rfl) (ev_un ev_c ru_neg) (rv_ixL (ex_l eH hp) (atI_last _ _))) (ev_dget (ev_fld (ev_var rfl) (eH _ _ X.o) T.c_Schema T.n_Schema_column_lists rfl) (ev_var rfl) (eH _ _ X.c) hc1) (rv_niL (sq_of (eH _ _ hc2)) rfl (flat_strs _)))) (fun hz H1 e1 => ?_) (fun hz H1 e1 => ?_)
      · rw [inV_str, Bool.not_eq_true', decide_eq_false_iff_not] at hz
        rw [hcol, if_neg hz] at q
        exact s_rz2 (ea_cons (ev_var rfl) (ea_cons (ev_op (ev_var rfl) (ev_un ev_c ru_neg) (rv_ixL (ex_l (eH.trans e1) hp) (atI_last _ _))) ea_nil)) fun H4 d e4 hd => Rz.go (er := .unk c) q (eH.trans (e1.trans e4)) hd
      · rw [inV_str, Bool.not_eq_false', decide_eq_true_eq] at hz
        rw [hcol, if_pos hz] at q
        exact q H1 (eH.trans e1)
end
end K23

set_option Elab.async false
set_option linter.all false
set_option maxRecDepth 100000
set_option maxHeartbeats 4000000
/-! the schema: its reading from the text -/
namespace K23
open PySem PySem.Spec PyProof.Rows L2 Evl
/-! ### numbers of classes, static methods -/
section
variable {K : PySem.W.Frag} {mg : Str → Option Value}
theorem conB_ok {x f : Str} {i : Int} (h : conB K x f i = true) : ∃ t, PySem.W.findCls K (.ref (He.ga K x)) (.type "type") f = some (.val (.int i t)) := by
  unfold conB at h
  split at h
  · rename_i j t hj
    have := of_decide_eq_true h
    subst this
    exact ⟨t, hj⟩
  · cases h
theorem readB_ok {x : Str} (h : readB K x = true) : ClX.CRead K (He.ga K x) (.type "type") := ⟨(He.ba h).1, He.eqO_ok (He.ba h).2⟩
theorem ex_and (K : PySem.W.Frag) (h : exB K = true) : exmB K = true ∧ ((consts.all fun p => conB K p.1 p.2.1 p.2.2) = true) ∧ readB K "Handler" = true ∧ readB K "Schema" = true ∧ staB K "Handler" "read" = true ∧ staB K "Schema" "read" = true ∧ descB K = true := by
  unfold exB at h
  rw [Bool.and_eq_true, Bool.and_eq_true, Bool.and_eq_true, Bool.and_eq_true, Bool.and_eq_true, Bool.and_eq_true, Bool.and_eq_true] at h
  exact h.2
theorem Txt.cons (T : Txt K mg) : (consts.all fun p => conB K p.1 p.2.1 p.2.2) = true := (ex_and K T.says.ex).2.1
theorem Txt.rdH (T : Txt K mg) : ClX.CRead K (He.ga K "Handler") (.type "type") := readB_ok (ex_and K T.says.ex).2.2.1
theorem Txt.rdS (T : Txt K mg) : ClX.CRead K (He.ga K "Schema") (.type "type") := readB_ok (ex_and K T.says.ex).2.2.2.1
theorem Txt.stH (T : Txt K mg) : staB K "Handler" "read" = true := (ex_and K T.says.ex).2.2.2.2.1
theorem Txt.stS (T : Txt K mg) : staB K "Schema" "read" = true := (ex_and K T.says.ex).2.2.2.2.2.1
theorem Txt.exm (T : Txt K mg) : exmB K = true := (ex_and K T.says.ex).1
theorem Txt.desc (T : Txt K mg) : descB K = true := (ex_and K T.says.ex).2.2.2.2.2.2
theorem Txt.con (T : Txt K mg) {x f : Str} {i : Int} (h : (x, f, i) ∈ consts) : ∃ t, PySem.W.findCls K (.ref (He.ga K x)) (.type "type") f = some (.val (.int i t)) := conB_ok (List.all_eq_true.mp T.cons (x, f, i) h)
end
section
variable {X : Cx} {p pos : Pos}
theorem Txt.k_Handler_MOST_DEEDS (T : Txt X.K X.mg) (hg : Gl X "Handler" := by rfl) : PE X (.Attribute (.Name "Handler" p) "MOST_DEEDS" pos) (tC (.int 8)) := pe_con1 T.g_Handler T.rdH (T.con (List.mem_of_getElem? (i := 0) rfl)) hg
theorem Txt.k_Schema_MOST_COLUMNS (T : Txt X.K X.mg) (hg : Gl X "Schema" := by rfl) : PE X (.Attribute (.Name "Schema" p) "MOST_COLUMNS" pos) (tC (.int 4)) := pe_con1 T.g_Schema T.rdS (T.con (List.mem_of_getElem? (i := 1) rfl)) hg
theorem Txt.k_Schema_MOST_TABLES (T : Txt X.K X.mg) (hg : Gl X "Schema" := by rfl) : PE X (.Attribute (.Name "Schema" p) "MOST_TABLES" pos) (tC (.int 6)) := pe_con1 T.g_Schema T.rdS (T.con (List.mem_of_getElem? (i := 2) rfl)) hg
theorem Txt.k_Schema_LONGEST_CHAIN (T : Txt X.K X.mg) (hg : Gl X "Schema" := by rfl) : PE X (.Attribute (.Name "Schema" p) "LONGEST_CHAIN" pos) (tC (.int 4)) := pe_con1 T.g_Schema T.rdS (T.con (List.mem_of_getElem? (i := 3) rfl)) hg
end
/-! ### fields set -/
section
variable {K : PySem.W.Frag} {σ : L2.St} {H H' : Hp} {ta tb te tx td ty tv : TE} {t u : TT} {x y z v : V} {D : Ends} {tu tz : TS} {a C dx : Addr} {fs : List (Str × V)} {f : Str}
/-- all but a is kept -/
def Nb (a : Addr) (H H' : Hp) : Prop := ∀ b o, b ≠ a → H b = some o → H' b = some o
theorem Nb.trans {H1 : Hp} (h : Nb a H H1) (g : Nb a H1 H') : Nb a H H' := fun b o ne e => g b o ne (h b o ne e)
theorem Nb.ex (h : Ex H H') : Nb a H H' := fun b o _ e => h b o e
theorem Nb.set {o : HO} (h : Nb a H H') : Nb a H (upd H' a o) := fun b u ne e => by rw [upd_ne ne]; exact h b u ne e
theorem s_fld (hv : Ev tv σ H v) (ha : Ev ta σ H (.ref a)) (ho : H a = some (.ins C dx fs)) (c : Cls K C) (n : NoAttr K C f) (hl : fs.length < 1000) (k : ∀ H1, Ex H H1 → D.nx σ (upd H1 a (.ins C dx (putF f v fs)))) : sFld K ta tv f D σ H :=
  hv H (Ex.refl H) _ fun H1 e1 => ha H1 e1 _ fun H2 e2 => ⟨a, C, dx, fs, rfl, (e1.trans e2) _ _ ho, c, n, hl, k H2 (e1.trans e2)⟩
theorem q_fld (hv : Ev tv σ H v) (ha : Ev ta σ H (.ref a)) (ho : H a = some (.ins C dx fs)) (c : Cls K C) (n : NoAttr K C f) (hl : fs.length < 1000) (k : ∀ H1, Ex H H1 → tz D σ (upd H1 a (.ins C dx (putF f v fs)))) : tSeq (sFld K ta tv f) tz D σ H :=
  s_fld (D := { D with nx := tz D }) hv ha ho c n hl k
theorem s_fldD (ha : ∀ H1, Ex H H1 → Ev ta σ H1 (.ref a)) (ho : H a = some (.ins C dx fs)) (c : Cls K C) (n : NoAttr K C f) (hl : fs.length < 1000) (k : ∀ p H1, H p = none → Ex H H1 → H1 p = some (.dK []) → D.nx σ (upd H1 a (.ins C dx (putF f (.ref p) fs)))) : sFld K ta tDNewK f D σ H :=
  fun p hp => ha _ (Ex.new hp) _ (Ex.refl _) _ fun H2 e2 => ⟨a, C, dx, fs, rfl, e2 _ _ (Ex.new hp _ _ ho), c, n, hl, k p H2 hp ((Ex.new hp).trans e2) (e2 _ _ upd_same)⟩
theorem q_fldD (ha : ∀ H1, Ex H H1 → Ev ta σ H1 (.ref a)) (ho : H a = some (.ins C dx fs)) (c : Cls K C) (n : NoAttr K C f) (hl : fs.length < 1000) (k : ∀ p H1, H p = none → Ex H H1 → H1 p = some (.dK []) → tz D σ (upd H1 a (.ins C dx (putF f (.ref p) fs)))) : tSeq (sFld K ta tDNewK f) tz D σ H :=
  s_fldD (D := { D with nx := tz D }) ha ho c n hl k
theorem s_fldL {xs : List V} (hv : EvL tv σ H xs) (ha : ∀ H1, Ex H H1 → Ev ta σ H1 (.ref a)) (ho : H a = some (.ins C dx fs)) (c : Cls K C) (n : NoAttr K C f) (hl : fs.length < 1000) (k : ∀ p H1, H p = none → Ex H H1 → H1 p = some (.lst xs) → D.nx σ (upd H1 a (.ins C dx (putF f (.ref p) fs)))) : sFld K ta tv f D σ H :=
  hv H (Ex.refl H) _ fun p H1 hp e1 h1 => ha H1 e1 _ (Ex.refl _) _ fun H2 e2 => ⟨a, C, dx, fs, rfl, e2 _ _ (e1 _ _ ho), c, n, hl, k p H2 hp (e1.trans e2) (e2 _ _ h1)⟩
theorem q_fldL {xs : List V} (hv : EvL tv σ H xs) (ha : ∀ H1, Ex H H1 → Ev ta σ H1 (.ref a)) (ho : H a = some (.ins C dx fs)) (c : Cls K C) (n : NoAttr K C f) (hl : fs.length < 1000) (k : ∀ p H1, H p = none → Ex H H1 → H1 p = some (.lst xs) → tz D σ (upd H1 a (.ins C dx (putF f (.ref p) fs)))) : tSeq (sFld K ta tv f) tz D σ H :=
  s_fldL (D := { D with nx := tz D }) hv ha ho c n hl k
theorem el_is {xs ys : List V} (h : EvL te σ H xs) (e : xs = ys) : EvL te σ H ys := by
  rw [← e]
  exact h
/-- arguments, the last a new list -/
def EvAL (t : TA) (σ : L2.St) (H : Hp) (vs xs : List V) : Prop := ∀ H1, Ex H H1 → ∀ Q : List V → Hp → Prop, (∀ p H2, H1 p = none → Ex H1 H2 → H2 p = some (.lst xs) → Q (vs ++ [.ref p]) H2) → t σ H1 Q
theorem eal_one {xs : List V} (h : EvL te σ H xs) : EvAL (tCons te tNil) σ H [] xs := fun H1 e Q q => h H1 e _ fun p H2 hp e2 h2 => q p H2 hp e2 h2
theorem eal_cons {ta' : TA} {vs xs : List V} (h : Ev te σ H x) (hr : EvAL ta' σ H vs xs) : EvAL (tCons te ta') σ H (x :: vs) xs := fun H1 e Q q =>
  h H1 e _ fun H2 e2 => hr H2 (e.trans e2) _ fun p H3 hp e3 h3 => q p H3 (fresh_back e2 hp) (e2.trans e3) h3
theorem s_callNL {ta' : TA} {sp : Sp} {E : XK} {dvs vs xs : List V} (h : EvAL ta' σ H vs xs) (hs : ∀ p H1, H p = none → Ex H H1 → H1 p = some (.lst xs) → sp ((vs ++ [.ref p]) ++ dvs) H1 (fun _ H2 => D.nx σ H2) E) : tDrop (tCall sp dvs E ta') D σ H :=
  h H (Ex.refl H) _ hs
theorem ne_kind {o o' : HO} {b : Addr} (h : H a = some o) (h' : H b = some o') (n : o ≠ o') : a ≠ b := fun e => by
  rw [e, h'] at h
  exact n (Option.some.inj h).symm
theorem lk_app {l : List (Str × V)} {k t : Str} : (l ++ [(k, v)]).lookup t = match l.lookup t with
    | some x => some x
    | none => if t = k then some v else none := by
  induction l with
  | nil =>
    by_cases h : t = k
    · subst h; simp [List.lookup]
    · have : (t == k) = false := beq_eq_false_iff_ne.mpr h
      simp [List.lookup, this, h]
  | cons p r ih =>
    obtain ⟨q, x⟩ := p
    by_cases h : t = q
    · subst h; simp [List.lookup]
    · have : (t == q) = false := beq_eq_false_iff_ne.mpr h
      simp only [List.cons_append, List.lookup, this]
      exact ih
end
/-! ### the text of a table -/
def tbWords (tabs : Tabs) (b : Tb) : List Str := match b.par with
  | none => ("root" : Str) :: b.name :: b.cols
  | some j => ("table" : Str) :: b.name :: nameI tabs j :: b.cols
def tbText (tabs : Tabs) (b : Tb) : Str := Txt.join " " (tbWords tabs b)
def schText (tabs : Tabs) : Str := Txt.join "\n" (tabs.map (tbText tabs))
theorem isName_wd {x : Str} (h : isName x = true) : Wd x := ⟨name_ne h, (name_free h).1, (name_free h).2.2.1, by have := name_len h; omega⟩
theorem nameI_name {tabs : Tabs} (W : WF tabs) {i : Nat} (h : i < tabs.length) : isName (nameI tabs i) = true := by
  rw [nameI_at (List.getElem?_eq_getElem h)]
  exact (W.nam _ (List.getElem_mem h)).1
theorem par_at {tabs : Tabs} (W : WF tabs) {i j : Nat} {b : Tb} (hb : tabs[i]? = some b) (hp : b.par = some j) : j < i ∧ i < tabs.length := by
  have h := W.par i j ((parI_at hb).trans hp)
  exact ⟨h, (List.getElem?_eq_some_iff.mp hb).1⟩
theorem tbWords_names {tabs : Tabs} (W : WF tabs) {i : Nat} {b : Tb} (hb : tabs[i]? = some b) : ∀ x ∈ (tbWords tabs b).drop 1, isName x = true := by
  have hm := List.mem_of_getElem? hb
  have h1 := (W.nam b hm).1
  have h2 := (W.col b hm).2.2.2
  unfold tbWords
  cases hp : b.par with
  | none =>
    intro x hx
    rcases List.mem_cons.mp hx with rfl | hx
    · exact h1
    · exact h2 x hx
  | some j =>
    have := par_at W hb hp
    intro x hx
    rcases List.mem_cons.mp hx with rfl | hx
    · exact h1
    · rcases List.mem_cons.mp hx with rfl | hx
      · exact nameI_name W (by omega)
      · exact h2 x hx
theorem tbWords_wd {tabs : Tabs} (W : WF tabs) {i : Nat} {b : Tb} (hb : tabs[i]? = some b) : ∀ x ∈ tbWords tabs b, Wd x := by
  have h := tbWords_names W hb
  have hw : ∃ w r, tbWords tabs b = w :: r ∧ Wd w := by
    unfold tbWords
    cases b.par with
    | none => exact ⟨_, _, rfl, wd_lit (by decide +kernel)⟩
    | some j => exact ⟨_, _, rfl, wd_lit (by decide +kernel)⟩
  obtain ⟨w, r, e, hw⟩ := hw
  rw [e] at h ⊢
  intro x hx
  rcases List.mem_cons.mp hx with rfl | hx
  · exact hw
  · exact isName_wd (h x hx)
theorem tbWords_ne (tabs : Tabs) (b : Tb) : tbWords tabs b ≠ [] := by unfold tbWords; cases b.par <;> exact List.cons_ne_nil _ _
theorem tbWords_len {tabs : Tabs} (W : WF tabs) {i : Nat} {b : Tb} (hb : tabs[i]? = some b) : (tbWords tabs b).length ≤ 10 := by
  have h := (W.col b (List.mem_of_getElem? hb)).1
  unfold tbWords
  cases b.par with
  | none => show b.cols.length + 1 + 1 ≤ 10; omega
  | some j => show b.cols.length + 1 + 1 + 1 ≤ 10; omega
theorem schText_split {tabs : Tabs} (W : WF tabs) (hne : tabs ≠ []) : Txt.split (schText tabs) "\n" = tabs.map (tbText tabs) :=
  text_split (fun e => hne (List.map_eq_nil_iff.mp e)) fun x hx => by
    obtain ⟨b, hb, rfl⟩ := List.mem_map.mp hx
    obtain ⟨i, hi, e⟩ := List.getElem_of_mem hb
    exact words_nl (tbWords_wd W (i := i) (by rw [List.getElem?_eq_getElem hi, e]))
theorem schText_len {tabs : Tabs} (W : WF tabs) : (schText tabs).length ≤ 6110 := by
  refine text_len (fun x hx => ?_) (by rw [List.length_map]; have := W.few; omega)
  obtain ⟨b, hb, rfl⟩ := List.mem_map.mp hx
  obtain ⟨i, hi, e⟩ := List.getElem_of_mem hb
  have hb2 : tabs[i]? = some b := by rw [List.getElem?_eq_getElem hi, e]
  exact words_len (tbWords_wd W hb2) (tbWords_len W hb2)
/-! ### promises -/
def spSchInit (K : PySem.W.Frag) : Sp := fun vs H Q _ => ∃ (a dx : Addr) (text : Str), vs = [.ref a, .str text] ∧ H a = some (.ins (SC K) dx []) ∧ ∀ H2 cl pr ow fo, Nb a H H2 → H2 a = some (.ins (SC K) dx (schF text cl pr ow fo)) → H cl = none → H pr = none → cl ≠ pr →
  H2 cl = some (.dK []) → H2 pr = some (.dK []) → Q .non H2
/-- all but cl, pr is kept -/
def Nb2 (cl pr : Addr) (H H' : Hp) : Prop := ∀ b o, b ≠ cl → b ≠ pr → H b = some o → H' b = some o
def TabRead (K : PySem.W.Frag) (tabs : Tabs) (n : Nat) (sc dx : Addr) (text : Str) (cl pr ow fo : Addr) (H : Hp) (Q : VK) : Prop := ∀ H2 cs ps, Nb2 cl pr H H2 → SchX K tabs (n + 1) H2 sc dx text cl pr ow fo cs ps → Q .non H2
def spTable (K : PySem.W.Frag) : Sp := fun vs H Q _ => ∃ (sc cp dx cl pr ow fo : Addr) (l : Int) (b : Tb) (tabs : Tabs) (n : Nat) (text : Str) (cs ps : List (Str × V)), vs = [.ref sc, .int l, .str b.name, parV tabs b.par, .ref cp] ∧ WF tabs ∧ tabs[n]? = some b ∧
  SchX K tabs n H sc dx text cl pr ow fo cs ps ∧ H cp = some (.lst (b.cols.map V.str)) ∧ TabRead K tabs n sc dx text cl pr ow fo H Q
def spLineS (K : PySem.W.Frag) : Sp := fun vs H Q _ => ∃ (sc wp dx cl pr ow fo : Addr) (l : Int) (b : Tb) (tabs : Tabs) (n : Nat) (text : Str) (cs ps : List (Str × V)), vs = [.ref sc, .int l, .ref wp] ∧ WF tabs ∧ tabs[n]? = some b ∧
  SchX K tabs n H sc dx text cl pr ow fo cs ps ∧ H wp = some (.lst ((tbWords tabs b).map V.str)) ∧ TabRead K tabs n sc dx text cl pr ow fo H Q
def spSchRead (K : PySem.W.Frag) : Sp := fun vs H Q _ => ∃ tabs : Tabs, vs = [.str (schText tabs)] ∧ WF tabs ∧ tabs ≠ [] ∧ ∀ sc H2, Ex H H2 → Sch K tabs tabs.length H2 sc → Q (.ref sc) H2
theorem hasT_succ {tabs : Tabs} {n : Nat} {b : Tb} (hb : tabs[n]? = some b) (t : Str) : hasT tabs (n + 1) t = (hasT tabs n t || decide (b.name = t)) := by
  unfold hasT
  rw [List.take_add_one, hb, List.any_append]
  simp
theorem hasT_new {tabs : Tabs} (W : WF tabs) {n : Nat} {b : Tb} (hb : tabs[n]? = some b) : hasT tabs n b.name = false := by
  unfold hasT
  rw [Bool.eq_false_iff]
  intro h
  rw [List.any_eq_true] at h
  obtain ⟨c, hc, he⟩ := h
  rw [List.mem_take_iff_getElem] at hc
  obtain ⟨i, hi, rfl⟩ := hc
  have hn := (List.getElem?_eq_some_iff.mp hb).1
  have e1 : nameI tabs i = nameI tabs n := by
    rw [nameI_at hb, nameI_at (List.getElem?_eq_getElem (show i < tabs.length by omega))]
    exact of_decide_eq_true he
  have := name_inj W.nod (by omega) hn e1
  omega
theorem SchX.add {K : PySem.W.Frag} {tabs : Tabs} {n : Nat} {H : Hp} {sc dx : Addr} {text : Str} {cl pr ow fo : Addr} {cs ps : List (Str × V)} (X : SchX K tabs n H sc dx text cl pr ow fo cs ps) (W : WF tabs) {b : Tb} (hb : tabs[n]? = some b) {p : Addr} {H2 : Hp}
    (hn : Nb2 cl pr H H2) (hc : H2 cl = some (.dK (sd (cs ++ [(b.name, .ref p)])))) (hp : H2 pr = some (.dK (sd (ps ++ [(b.name, parV tabs b.par)])))) (hl : H2 p = some (.lst (b.cols.map V.str))) :
    SchX K tabs (n + 1) H2 sc dx text cl pr ow fo (cs ++ [(b.name, .ref p)]) (ps ++ [(b.name, parV tabs b.par)]) := by
  have hnew := hasT_new W hb
  have hlt := (List.getElem?_eq_some_iff.mp hb).1
  have lc : cs.lookup b.name = none := by have := X.has b.name; rw [hnew] at this; exact Option.isSome_eq_false_iff.mp this |> Option.isNone_iff_eq_none.mp
  have lp : ps.lookup b.name = none := by have := X.hasP b.name; rw [hnew] at this; exact Option.isSome_eq_false_iff.mp this |> Option.isNone_iff_eq_none.mp
  refine ⟨hn _ _ (ne_kind X.o X.c (by simp)) (ne_kind X.o X.p (by simp)) X.o, hc, hp, X.ne, by omega, by simp [X.cn], by simp [X.pn], fun t => ?_, fun t => ?_, fun i c hi hc2 => ?_, fun i c hi hc2 => ?_⟩
  · rw [hasT_succ hb, lk_app, ← X.has]
    cases cs.lookup t with
    | some x => rfl
    | none =>
      by_cases h : t = b.name
      · subst h; simp
      · simp [h, Ne.symm h]
  · rw [hasT_succ hb, lk_app, ← X.hasP]
    cases ps.lookup t with
    | some x => rfl
    | none =>
      by_cases h : t = b.name
      · subst h; simp
      · simp [h, Ne.symm h]
  · by_cases h : i < n
    · obtain ⟨q, h1, h2⟩ := X.cols i c h hc2
      exact ⟨q, by rw [lk_app, h1], hn _ _ (ne_kind h2 X.c (by simp)) (ne_kind h2 X.p (by simp)) h2⟩
    · have : i = n := by omega
      subst this
      rw [hb] at hc2
      cases hc2
      exact ⟨p, by rw [lk_app, lc]; exact if_pos rfl, hl⟩
  · by_cases h : i < n
    · rw [lk_app, X.pars i c h hc2]
    · have : i = n := by omega
      subst this
      rw [hb] at hc2
      cases hc2
      rw [lk_app, lp]; exact if_pos rfl
theorem cutV_to (l : List V) (m : Nat) (h : m ≤ l.length) : cutV l none (some (m : Int)) = l.take m := by
  unfold cutV
  rw [sIx_nat h, show HT.sIx l.length 0 none = 0 from rfl, List.drop_zero, Nat.sub_zero]
theorem sf1 {text : Str} {cl : Addr} : putF "column_lists" (.ref cl) (putF "text" (.str text) []) = ([("text", .str text), ("column_lists", .ref cl)] : List (Str × V)) := by
  have h1 : ("text" : Str) ≠ "column_lists" := by decide +kernel
  simp only [putF, if_neg h1]
theorem sf2 {text : Str} {cl pr : Addr} : putF "parents" (.ref pr) ([("text", .str text), ("column_lists", .ref cl)] : List (Str × V)) = ([("text", .str text), ("column_lists", .ref cl), ("parents", .ref pr)] : List (Str × V)) := by
  have h1 : ("text" : Str) ≠ "parents" := by decide +kernel
  have h2 : ("column_lists" : Str) ≠ "parents" := by decide +kernel
  simp only [putF, if_neg h1, if_neg h2]
theorem sf3 {text : Str} {cl pr ow : Addr} : putF "owners" (.ref ow) ([("text", .str text), ("column_lists", .ref cl), ("parents", .ref pr)] : List (Str × V)) = ([("text", .str text), ("column_lists", .ref cl), ("parents", .ref pr), ("owners", .ref ow)] : List (Str × V)) := by
  have h1 : ("text" : Str) ≠ "owners" := by decide +kernel
  have h2 : ("column_lists" : Str) ≠ "owners" := by decide +kernel
  have h3 : ("parents" : Str) ≠ "owners" := by decide +kernel
  simp only [putF, if_neg h1, if_neg h2, if_neg h3]
theorem sf4 {text : Str} {cl pr ow fo : Addr} : putF "following" (.ref fo) ([("text", .str text), ("column_lists", .ref cl), ("parents", .ref pr), ("owners", .ref ow)] : List (Str × V)) = schF text cl pr ow fo := by
  have h1 : ("text" : Str) ≠ "following" := by decide +kernel
  have h2 : ("column_lists" : Str) ≠ "following" := by decide +kernel
  have h3 : ("parents" : Str) ≠ "following" := by decide +kernel
  have h4 : ("owners" : Str) ≠ "following" := by decide +kernel
  simp only [putF, schF, if_neg h1, if_neg h2, if_neg h3, if_neg h4]
section
variable {P : Program} {w : World} {K : PySem.W.Frag} {mg : Str → Option Value} {base : Heap}
theorem ok_Schema (T : Txt K mg) : MakX P w K mg base CX0 1 "Schema" (SC K) ["self", "text"] (spSchInit K) := by
  obtain ⟨fd, F⟩ := T.f_Schema_init
  refine ⟨_, fd, F.ok sc_Schema_init (fun vs H Q E h => ?_) (fun cdv A outer s H vs Q E hr h => ?_), T.mk_Schema, T.g_Schema, F.bindsN fun _ _ _ _ _ _ us hl => match us, hl with | [_, _], _ => rfl⟩
  · obtain ⟨a, dx, text, rfl, _⟩ := h; rfl
  · obtain ⟨a, dx, text, rfl, ho, q⟩ := h
    refine ⟨_, (PSs.nox (pss_cons (ps_fld (pv 0) (pv 1) rfl)
        (pss_cons (ps_fld (pv 0) pe_dnewK rfl)
        (pss_cons (ps_fld (pv 0) pe_dnewK rfl)
        (pss_cons (ps_fld (pv 0) pe_dnewK rfl)
        (pss_one (ps_fld (pv 0) pe_dnewK rfl))))))), ?_⟩
    refine q_fld (ev_var rfl) (ev_var rfl) ho T.c_Schema T.n_Schema_text (by decide) fun H1 e1 => ?_
    refine q_fldD (fun _ _ => ev_var rfl) upd_same T.c_Schema T.n_Schema_column_lists (by show 1 < 1000; decide) fun cl H2 hcl e2 h2 => ?_
    rw [sf1]
    refine q_fldD (fun _ _ => ev_var rfl) upd_same T.c_Schema T.n_Schema_parents (by show 2 < 1000; decide) fun pr H3 hpr e3 h3 => ?_
    rw [sf2]
    refine q_fldD (fun _ _ => ev_var rfl) upd_same T.c_Schema T.n_Schema_owners (by show 3 < 1000; decide) fun ow H4 how e4 h4 => ?_
    rw [sf3]
    refine s_fldD (fun _ _ => ev_var rfl) upd_same T.c_Schema T.n_Schema_following (by show 4 < 1000; decide) fun fo H5 hfo e5 h5 => ?_
    rw [sf4]
    have n1 : Nb a H (upd H1 a (.ins (SC K) dx (putF "text" (.str text) []))) := (Nb.ex e1).set
    have n2 := (n1.trans (Nb.ex e2)).set (o := .ins (SC K) dx ([("text", .str text), ("column_lists", .ref cl)] : List (Str × V)))
    have n3 := (n2.trans (Nb.ex e3)).set (o := .ins (SC K) dx ([("text", .str text), ("column_lists", .ref cl), ("parents", .ref pr)] : List (Str × V)))
    have n4 := (n3.trans (Nb.ex e4)).set (o := .ins (SC K) dx ([("text", .str text), ("column_lists", .ref cl), ("parents", .ref pr), ("owners", .ref ow)] : List (Str × V)))
    have n5 := (n4.trans (Nb.ex e5)).set (o := .ins (SC K) dx (schF text cl pr ow fo))
    have ncl : cl ≠ a := fun z => by rw [z, upd_same] at hcl; cases hcl
    have npr : pr ≠ a := fun z => by rw [z, upd_same] at hpr; cases hpr
    have fr : ∀ {b : Addr} {H' : Hp}, Nb a H H' → b ≠ a → H' b = none → H b = none := fun n ne e => by
      cases z : H _ with
      | none => rfl
      | some o => rw [n _ o ne z] at e; cases e
    have npc : cl ≠ pr := fun z => by
      rw [← z, upd_ne ncl] at hpr
      rw [h2] at hpr
      cases hpr
    refine q _ cl pr ow fo n5 upd_same (fr n1 ncl hcl) (fr n2 npr hpr) npc ?_ ?_
    · rw [upd_ne ncl]
      refine e5 _ _ ?_
      rw [upd_ne ncl]
      refine e4 _ _ ?_
      rw [upd_ne ncl]
      refine e3 _ _ ?_
      rw [upd_ne ncl]
      exact h2
    · rw [upd_ne npr]
      refine e5 _ _ ?_
      rw [upd_ne npr]
      refine e4 _ _ ?_
      rw [upd_ne npr]
      exact h3
theorem ok_read_table (T : Txt K mg) : CalX P w K mg base CX0 6 "read_table" ["schema", "line", "table", "parent", "columns"] (spTable K) := by
  have m_check_table := ok_check_table (P := P) (w := w) (base := base) T
  have m_chain_of := ok_chain_of (P := P) (w := w) (base := base) T
  obtain ⟨fd, F⟩ := T.f_read_table
  refine ⟨_, fd, F.ok sc_read_table (fun vs H Q E h => ?_) (fun cdv A outer s H vs Q E hr h => ?_), T.g_read_table, F.kp, F.bindsN fun _ _ _ _ _ _ us hl => match us, hl with | [_, _, _, _, _], _ => rfl⟩
  · obtain ⟨sc, cp, dx, cl, pr, ow, fo, l, b, tabs, n, text, cs, ps, rfl, _⟩ := h; rfl
  · obtain ⟨sc, cp, dx, cl, pr, ow, fo, l, b, tabs, n, text, cs, ps, rfl, W, hb, X, hcp, q⟩ := h
    refine ⟨_, (PSs.nox (pss_cons (ps_if (pt_cmp (pc_din (hu_of hr) (pv 2) (pe_fld (pv 0) rfl))) (pss_one ps_never) pss_nil)
        (pss_cons (ps_if (pt_cmp (pc_notN (pv 3))) (pss_one (ps_expr (pe_mx m_check_table hr (by decide) passL (pv 0) (pa_cons (pv 3) (pa_cons (pv 1) pa_nil))))) pss_nil)
        (pss_cons (ps_for PassesOwn.never rfl (pi_enum (by rfl) T.b_enumerate (pa_cons (pv 4) pa_nil)) (pg_tup (by rfl) (pgs_cons (pg_name (i := 5) sc_read_table.nd rfl (by first | exact Or.inl rfl | exact Or.inr rfl)) (pgs_cons (pg_name (i := 6) sc_read_table.nd rfl (by first | exact Or.inl rfl | exact Or.inr rfl)) pgs_nil))) (pss_one (ps_if (pt_cmpR op_in_seq (pv 6) (pe_slice sl_list (pv 4) po_none (po_some (pv 5))) rfl) (pss_one ps_never) pss_nil)))
        (pss_cons (ps_if (PW.pt (pw_or (pt_cmpR op_gt (pe_callB call_lenL (by rfl) T.b_len PySem.boot_len (pa_cons (pv 4) pa_nil)) (T.k_Schema_MOST_COLUMNS) (nomark _)) (pw_or1 (pt_cmpR op_eq (pe_callB call_lenD (by rfl) T.b_len PySem.boot_len (pa_cons (pe_fld (pv 0) rfl) pa_nil)) (T.k_Schema_MOST_TABLES) (nomark _))))) (pss_one ps_never) pss_nil)
        (pss_cons (ps_if (PW.pt (pw_and (pt_cmp (pc_notN (pv 3))) (pw_and1 (pt_cmpR op_eq (pe_callB call_lenL (by rfl) T.b_len PySem.boot_len (pa_cons (pe_mx m_chain_of hr (by decide) pass0 (pv 0) (pa_cons (pv 3) pa_nil)) pa_nil)) (T.k_Schema_LONGEST_CHAIN) (nomark _))))) (pss_one ps_never) pss_nil)
        (pss_cons (ps_dput (hu_of hr) (pe_fld (pv 0) rfl) (pv 2) (pe_callTy call_listL (by rfl) T.b_list (by decide +kernel) (pa_cons (pv 4) pa_nil)) rfl)
        (pss_one (ps_dput (hu_of hr) (pe_fld (pv 0) rfl) (pv 2) (pv 3) rfl))))))))), ?_⟩
    have S : Sch K tabs n H sc := ⟨_, _, _, _, _, _, _, _, X⟩
    have hnew := hasT_new W hb
    have hnl := (List.getElem?_eq_some_iff.mp hb).1
    have wc := W.col b (List.mem_of_getElem? hb)
    have lc : cs.lookup b.name = none := by have := X.has b.name; rw [hnew] at this; exact Option.isSome_eq_false_iff.mp this |> Option.isNone_iff_eq_none.mp
    have lp : ps.lookup b.name = none := by have := X.hasP b.name; rw [hnew] at this; exact Option.isSome_eq_false_iff.mp this |> Option.isNone_iff_eq_none.mp
    refine q_when (et_in (ev_var rfl) (ev_fld (ev_var rfl) X.o T.c_Schema T.n_Schema_column_lists rfl) X.c) (fun hz => by rw [lc] at hz; cases hz) fun _ H1 e1 => ?_
    -- the parent is a table
    have step : ∀ H2, Ex H H2 → ∀ tz D, (∀ H3, Ex H2 H3 → tz D [some (.ref sc), some (.int l), some (.str b.name), some (parV tabs b.par), some (.ref cp), none, none] H3) →
        tSeq (tIfS (tB (tNotN (tVar 3))) (tDrop (tMeth (SC K) "check_table" (spCT K) [] (fun _ _ _ => False) (tVar 0) (tCons (tVar 3) (tCons (tVar 1) tNil)))) tNext) tz D [some (.ref sc), some (.int l), some (.str b.name), some (parV tabs b.par), some (.ref cp), none, none] H2 := by
      intro H2 e2 tz D k
      cases hp : b.par with
      | none =>
        rw [hp] at k
        exact q_when (b := false) (et_notN (x := .non) (ev_var rfl)) (fun z => by cases z) fun _ H3 e3 => k H3 e3
      | some j =>
        rw [hp] at k
        have hj := par_at W hb hp
        refine q_when (b := true) (et_notN (x := .str (nameI tabs j)) (ev_var rfl)) (fun _ H3 e3 => ?_) (fun z => by cases z)
        refine s_meth (ev_var rfl) ((e2.trans e3) _ _ X.o) (sch_m _ rfl) (ea_cons (ev_var rfl) (ea_cons (ev_var rfl) ea_nil)) fun H4 e4 => ⟨sc, nameI tabs j, l, tabs, n, rfl, S.mono (e2.trans (e3.trans e4)), ?_⟩
        obtain ⟨bj, hbj⟩ : ∃ bj, tabs[j]? = some bj := ⟨_, List.getElem?_eq_getElem (show j < tabs.length by omega)⟩
        rw [nameI_at hbj, if_pos (hasT_at hbj hj.1)]
        exact fun H5 e5 => k H5 (e3.trans (e4.trans e5))
    refine step H1 e1 _ _ fun H2 e2 => ?_
    have eH2 := e1.trans e2
    refine q_forEv (ev_var rfl) (sq_of (eH2 _ _ hcp)) (fun k σ' H' => ∃ o1 o2 : Option V, σ' = [some (.ref sc), some (.int l), some (.str b.name), some (parV tabs b.par), some (.ref cp), o1, o2] ∧ Ex H H') (fun H3 e3 => ⟨none, none, rfl, eH2.trans e3⟩)
      (fun k σ' H' _ ⟨_, _, _, e⟩ => sq_of (e _ _ hcp)) ?_ ?_
    · rintro k x σ' H' Ta hx ⟨o1, o2, rfl, e⟩ hTa
      have e' : Ex H (upd H' Ta (.tup [.int (k : Nat), x])) := e.trans (Ex.new hTa)
      have hk : k < (b.cols.map V.str).length := (List.getElem?_eq_some_iff.mp hx).1
      obtain ⟨c, hc, rfl⟩ : ∃ c, b.cols[k]? = some c ∧ V.str c = x := by
        rw [List.getElem?_map] at hx
        cases hc : b.cols[k]? with
        | none => rw [hc] at hx; cases hx
        | some c => rw [hc] at hx; exact ⟨c, rfl, Option.some.inj hx⟩
      have hcut := cutV_to (b.cols.map V.str) k (by omega)
      have hnot : inV (.str c) ((b.cols.map V.str).take k) = false := by
        rw [← List.map_take, inV_str, decide_eq_false_iff_not]
        intro hm
        obtain ⟨i, hi, he⟩ := List.mem_take_iff_getElem.mp hm
        obtain ⟨h1, h2⟩ := List.getElem?_eq_some_iff.mp hc
        have := (List.getElem_inj wc.2.2.1).mp (he.trans h2.symm)
        omega
      refine s_when (b := false) (et_is (et_test (ev_opL (ev_var rfl) (hcut ▸ el_sl (ev_var rfl) eo_none (eo_some (ev_var rfl)) (sq_of (e' _ _ hcp))) fun p H3 h3 _ => rv_isL (sq_of h3) rfl (by rw [← List.map_take]; exact flat_strs _))) hnot) (fun z => by cases z) fun _ H3 e3 => ⟨_, _, rfl, e'.trans e3⟩
    · rintro σ' H' ⟨o1, o2, rfl, e⟩
      have hcl := X.cn
      have few := W.few
      refine q_when (b := false) (et_is (et_or (et_test (ev_op (ev_len (ev_var rfl) (sq_of (e _ _ hcp))) ev_c rv_I0)) fun _ => et_test (ev_op (ev_cb (ea_cons (ev_fld (ev_var rfl) (e _ _ X.o) T.c_Schema T.n_Schema_column_lists rfl) ea_nil) (fun H3 e3 Q2 q2 => ⟨cl, _, rfl, e3 _ _ (e _ _ X.c), q2 H3 (Ex.refl H3)⟩)) ev_c (rv_eq rfl))) ?_)
        (fun z => by cases z) fun _ H3 e3 => ?_
      · rw [List.length_map, sd_len, hcl, decide_eq_false (by have := wc.1; omega), Bool.false_or, decide_eq_false fun z => ?_]
        have := V.int.inj z
        omega
      · have e4 := e.trans e3
        have chain : ∀ tz D, (∀ H5, Ex H3 H5 → tz D [some (.ref sc), some (.int l), some (.str b.name), some (parV tabs b.par), some (.ref cp), o1, o2] H5) →
            tSeq (tIfS (tAnd (tB (tNotN (tVar 3))) (tTest (tOp rEq (tCB (rLenS K) (tCons (tMeth (SC K) "chain_of" (spChain K) [] (fun _ _ _ => False) (tVar 0) (tCons (tVar 3) tNil)) tNil)) (tC (.int 4))))) tNever tNext) tz D [some (.ref sc), some (.int l), some (.str b.name), some (parV tabs b.par), some (.ref cp), o1, o2] H3 := by
          intro tz D k
          cases hp : b.par with
          | none =>
            rw [hp] at k
            exact q_when (b := false) (et_and (a := false) (b := false) (et_notN (x := .non) (ev_var rfl)) (fun z => by cases z)) (fun z => by cases z) fun _ H3 e3 => k H3 e3
          | some j =>
            rw [hp] at k
            have hj := par_at W hb hp
            obtain ⟨bj, hbj⟩ : ∃ bj, tabs[j]? = some bj := ⟨_, List.getElem?_eq_getElem (show j < tabs.length by omega)⟩
            have hne : ((chainI tabs j).length : Int) ≠ 4 := fun z => by
              have h1 := W.chn n hnl
              rw [chainI_eq W, parI_at hb, hp] at h1
              have : (chainI tabs j).length + 1 ≤ 4 := h1
              omega
            refine q_when (b := false) (et_is (et_and (et_notN (x := .str (nameI tabs j)) (ev_var rfl)) fun _ => et_test (ev_op (ev_lenN (el_meth (ev_var rfl) (e4 _ _ X.o) (sch_m _ rfl) (ea_cons (ev_is (ev_var rfl) (show V.str (nameI tabs j) = V.str bj.name by rw [nameI_at hbj])) ea_nil) (fun H5 e5 Q2 q2 E2 => ⟨sc, bj, tabs, n, j, rfl, S.mono (e4.trans e5), W, hj.1, hbj, fun p H6 hp6 e6 h6 => q2 p H6 hp6 e6 h6⟩))) ev_c (rv_eq rfl))) ?_) (fun z => by cases z) fun _ H3 e3 => k H3 e3
            rw [List.length_map, decide_eq_false fun z => hne (V.int.inj z), Bool.and_false]
        refine chain _ _ fun H5 e5 => ?_
        have e6 := e4.trans e5
        refine q_putL (el_list (ev_var rfl) (sq_of (e6 _ _ hcp))) (ev_fld (ev_var rfl) (e6 _ _ X.o) T.c_Schema T.n_Schema_column_lists rfl) (ev_var rfl) (e6 _ _ X.c) (by omega) lc fun p H7 hp e7 h7 => ?_
        have e8 := e6.trans e7
        have npc : sc ≠ cl := ne_kind X.o X.c (by simp)
        have ppr : pr ≠ cl := X.ne.symm
        refine s_put (l := ps) (ev_var rfl) (ev_fld (ev_var rfl) (by rw [upd_ne npc]; exact e8 _ _ X.o) T.c_Schema T.n_Schema_parents rfl) (ev_var rfl) (by rw [upd_ne ppr]; exact e8 _ _ X.p) (by have := X.pn; omega) (putK_sd lp) fun H9 e9 => ?_
        have hcl2 : H7 cl = some (.dK (sd cs)) := e8 _ _ X.c
        have npl : p ≠ cl := ne_kind h7 hcl2 (by simp)
        have nppr : p ≠ pr := ne_kind h7 (e8 _ _ X.p) (by simp)
        have nb : Nb2 cl pr H (upd H9 pr (.dK (sd (ps ++ [(b.name, parV tabs b.par)])))) := fun a o h1 h2 h3 => by
          rw [upd_ne h2]
          refine e9 _ _ ?_
          rw [upd_ne h1]
          exact e8 _ _ h3
        refine q _ _ _ nb (X.add W hb (p := p) nb ?_ upd_same ?_)
        · rw [upd_ne X.ne]
          exact e9 _ _ upd_same
        · rw [upd_ne nppr]
          refine e9 _ _ ?_
          rw [upd_ne npl]
          exact h7
theorem ok_read_line_schemas (T : Txt K mg) : CalX P w K mg base CX0 7 "read_line_schemas" ["schema", "line", "words"] (spLineS K) := by
  have c_read_table := ok_read_table (P := P) (w := w) (base := base) T
  have c_all_names := ok_all_names (P := P) (w := w) (base := base) T
  obtain ⟨fd, F⟩ := T.f_read_line_schemas
  refine ⟨_, fd, F.ok sc_read_line_schemas (fun vs H Q E h => ?_) (fun cdv A outer s H vs Q E hr h => ?_), T.g_read_line_schemas, F.kp, F.bindsN fun _ _ _ _ _ _ us hl => match us, hl with | [_, _, _], _ => rfl⟩
  · obtain ⟨sc, wp, dx, cl, pr, ow, fo, l, b, tabs, n, text, cs, ps, rfl, _⟩ := h; rfl
  · obtain ⟨sc, wp, dx, cl, pr, ow, fo, l, b, tabs, n, text, cs, ps, rfl, W, hb, X, hwp, q⟩ := h
    refine ⟨_, (PSs.nox (pss_cons (ps_set (i := 3) sc_read_line_schemas.nd rfl (by first | exact Or.inl rfl | exact Or.inr rfl) (pe_ifExp (pt_truth (pv 2) (by intro _; rfl)) (pe_ix ix_list (pv 2) pe_int (fun _ _ => rfl)) pe_str))
        (pss_one (ps_if (PW.pt (pw_and (pt_cmpR op_eq (pv 3) pe_str (nomark _)) (pw_and (pt_cmpR op_gt (pe_callB call_lenL (by rfl) T.b_len PySem.boot_len (pa_cons (pv 2) pa_nil)) pe_int (nomark _)) (pw_and1 (pt_val (pe_cx c_all_names hr (by decide) pass0 (pa_cons (pe_slice sl_list (pv 2) (po_some pe_int) po_none) pa_nil))))))) (pss_one (ps_expr (pe_cx c_read_table hr (by decide) pass0 (pa_cons (pv 0) (pa_cons (pv 1) (pa_cons (pe_ix ix_list (pv 2) pe_int (fun _ _ => rfl)) (pa_cons pe_non (pa_cons (pe_slice sl_list (pv 2) (po_some pe_int) po_none) pa_nil)))))))) (pss_one (ps_if (PW.pt (pw_and (pt_cmpR op_eq (pv 3) pe_str (nomark _)) (pw_and (pt_cmpR op_gt (pe_callB call_lenL (by rfl) T.b_len PySem.boot_len (pa_cons (pv 2) pa_nil)) pe_int (nomark _)) (pw_and1 (pt_val (pe_cx c_all_names hr (by decide) pass0 (pa_cons (pe_slice sl_list (pv 2) (po_some pe_int) po_none) pa_nil))))))) (pss_one (ps_expr (pe_cx c_read_table hr (by decide) pass0 (pa_cons (pv 0) (pa_cons (pv 1) (pa_cons (pe_ix ix_list (pv 2) pe_int (fun _ _ => rfl)) (pa_cons (pe_ix ix_list (pv 2) pe_int (fun _ _ => rfl)) (pa_cons (pe_slice sl_list (pv 2) (po_some pe_int) po_none) pa_nil)))))))) (pss_one ps_never))))))), ?_⟩
    have names := tbWords_names W hb
    have wc := W.col b (List.mem_of_getElem? hb)
    have cne : 1 ≤ b.cols.length := List.length_pos_iff.mpr wc.2.1
    have allN : ∀ {H' : Hp} {p : Addr}, H' p = some (.lst (((tbWords tabs b).drop 1).map V.str)) → SpV (spNames K) [.ref p] H' (.bl true) := fun h => by
      have g := sp_names (K := K) (sq_of h) (by rw [List.length_drop]; have := tbWords_len W hb; omega) (fun x hx => by have := name_len (names x hx); omega)
      rw [List.all_eq_true.mpr names] at g
      exact g
    have fin : ∀ {H2 : Hp}, Ex H H2 → ∀ {v : V} {p : Addr} {H3 : Hp}, v = parV tabs b.par → Ex H2 H3 → H3 p = some (.lst (b.cols.map V.str)) → spTable K [.ref sc, .int l, .str b.name, v, .ref p] H3 (fun _ H4 => Q .non H4) (fun _ _ _ => False) := by
      intro H2 e2 v p H3 hv e3 h3
      subst hv
      refine ⟨sc, p, dx, cl, pr, ow, fo, l, b, tabs, n, text, cs, ps, rfl, W, hb, ⟨(e2.trans e3) _ _ X.o, (e2.trans e3) _ _ X.c, (e2.trans e3) _ _ X.p, X.ne, X.le, X.cn, X.pn, X.has, X.hasP, fun i b hi hb => ?_, X.pars⟩, h3, fun H4 cs' ps' nb X' => q H4 cs' ps' (fun a o h1 h2 h3 => nb a o h1 h2 ((e2.trans e3) _ _ h3)) X'⟩
      obtain ⟨p, h1, h2⟩ := X.cols i b hi hb
      exact ⟨p, h1, (e2.trans e3) _ _ h2⟩
    cases hp : b.par with
    | none =>
      have hw : tbWords tabs b = ("root" : Str) :: b.name :: b.cols := by unfold tbWords; rw [hp]
      rw [hw] at hwp allN
      have hwp' : H wp = some (.lst (.str "root" :: .str b.name :: b.cols.map V.str)) := hwp
      have len : (V.str "root" :: V.str b.name :: b.cols.map V.str).length = b.cols.length + 2 := by simp
      refine q_asg (v := .str "root") (ev_if (b := true) (et_truL (ev_var rfl) (sq_of hwp')) (fun _ => ev_op (ev_var rfl) ev_c (rv_ixL (sq_of hwp') (atI_nat (j := 0) rfl))) (fun z => by cases z)) fun H1 e1 => ?_
      refine s_if (b := true) (et_is (et_and (et_test (ev_op (ev_var rfl) ev_c (rv_eq rfl))) fun _ => et_and (et_test (ev_op (ev_len (ev_var rfl) (sq_of (e1 _ _ hwp'))) ev_c rv_I0)) fun _ => et_B (ev_call1 (el_is (el_sl (ev_var rfl) (eo_some ev_c) eo_none (sq_of (e1 _ _ hwp'))) (cutV_from (V.str "root" :: V.str b.name :: b.cols.map V.str) 1 (by simp))) fun p H2 h2 _ => allN h2)) ?_) (fun _ H2 e2 => ?_) (fun z => by cases z)
      · rw [len, decide_eq_true (show (2 : Int) < ((b.cols.length + 2 : Nat) : Int) by omega), decide_eq_true rfl]
        rfl
      · have e3 := e1.trans e2
        exact s_callNL (eal_cons (ev_var rfl) (eal_cons (ev_var rfl) (eal_cons (ev_op (ev_var rfl) ev_c (rv_ixL (sq_of (e3 _ _ hwp')) (atI_nat (j := 1) rfl))) (eal_cons ev_c (eal_one (el_is (el_sl (ev_var rfl) (eo_some ev_c) eo_none (sq_of (e3 _ _ hwp'))) (cutV_from (V.str "root" :: V.str b.name :: b.cols.map V.str) 2 (by simp)))))))) fun p H3 _ e4 h4 => fin e3 (by rw [hp]; rfl) e4 h4
    | some j =>
      have hw : tbWords tabs b = ("table" : Str) :: b.name :: nameI tabs j :: b.cols := by unfold tbWords; rw [hp]
      rw [hw] at hwp allN
      have hwp' : H wp = some (.lst (.str "table" :: .str b.name :: .str (nameI tabs j) :: b.cols.map V.str)) := hwp
      have len : (V.str "table" :: V.str b.name :: .str (nameI tabs j) :: b.cols.map V.str).length = b.cols.length + 3 := by simp
      have nrt : decide (V.str "table" = V.str "root") = false := by decide +kernel
      refine q_asg (v := .str "table") (ev_if (b := true) (et_truL (ev_var rfl) (sq_of hwp')) (fun _ => ev_op (ev_var rfl) ev_c (rv_ixL (sq_of hwp') (atI_nat (j := 0) rfl))) (fun z => by cases z)) fun H1 e1 => ?_
      refine s_if (b := false) (et_is (et_and (b := false) (et_test (ev_op (ev_var rfl) ev_c (rv_eq rfl))) fun z => by rw [nrt] at z; cases z) (by rw [Bool.and_false])) (fun z => by cases z) fun _ H2 e2 => ?_
      have e3 := e1.trans e2
      refine s_if (b := true) (et_is (et_and (et_test (ev_op (ev_var rfl) ev_c (rv_eq rfl))) fun _ => et_and (et_test (ev_op (ev_len (ev_var rfl) (sq_of (e3 _ _ hwp'))) ev_c rv_I0)) fun _ => et_B (ev_call1 (el_is (el_sl (ev_var rfl) (eo_some ev_c) eo_none (sq_of (e3 _ _ hwp'))) (cutV_from (V.str "table" :: V.str b.name :: .str (nameI tabs j) :: b.cols.map V.str) 1 (by simp))) fun p H2 h2 _ => allN h2)) ?_) (fun _ H4 e4 => ?_) (fun z => by cases z)
      · rw [len, decide_eq_true (show (3 : Int) < ((b.cols.length + 3 : Nat) : Int) by omega), decide_eq_true rfl]
        rfl
      · have e5 := e3.trans e4
        exact s_callNL (eal_cons (ev_var rfl) (eal_cons (ev_var rfl) (eal_cons (ev_op (ev_var rfl) ev_c (rv_ixL (sq_of (e5 _ _ hwp')) (atI_nat (j := 1) rfl))) (eal_cons (ev_op (ev_var rfl) ev_c (rv_ixL (sq_of (e5 _ _ hwp')) (atI_nat (j := 2) rfl))) (eal_one (el_is (el_sl (ev_var rfl) (eo_some ev_c) eo_none (sq_of (e5 _ _ hwp'))) (cutV_from (V.str "table" :: V.str b.name :: .str (nameI tabs j) :: b.cols.map V.str) 3 (by simp)))))))) fun p H3 _ e6 h6 => fin e5 (by rw [hp]; rfl) e6 h6
end
end K23

set_option Elab.async false
set_option linter.all false
set_option maxRecDepth 100000
set_option maxHeartbeats 4000000
/-! the schema: read whole -/
namespace K23
open PySem PySem.Spec PyProof.Rows L2 Evl
section
variable {K : PySem.W.Frag} {σ : L2.St} {H H' : Hp} {ta tb te tx td ty tv : TE} {t u : TT} {x y z v : V} {D : Ends} {tu tz : TS} {a C dx : Addr} {fs : List (Str × V)} {f : Str}
/-- an instance made: its address, the heap behind -/
theorem q_make {ta : TA} {sp : Sp} {E : XK} {i : Nat} {vs dvs : List V} (h : EvA ta σ H vs) (k : ∀ x dx H1 H2, Ex H H1 → H1 x = none → H1 dx = none → dx ≠ x → H2 = upd (upd H1 dx (.own x)) x (.ins C dx []) →
    sp (.ref x :: (vs ++ dvs)) H2 (fun v H3 => v = .non ∧ tz D (σ.set i (some (.ref x))) H3) E) : tSeq (tAsg (tMake C sp dvs E ta) (gName i)) tz D σ H :=
  h H (Ex.refl H) _ fun H1 e1 x dx hx hdx ne => k x dx H1 _ e1 hx hdx ne rfl
/-- arguments, the last but .. a call that gives a new list -/
theorem eal_call {ta' : TA} {sp : Sp} {E : XK} {dvs vs xs : List V} (h : EvA ta' σ H vs) (hs : SpL sp (vs ++ dvs) H xs) : EvAL (tCons (tCall sp dvs E ta') tNil) σ H [] xs := eal_one (el_call h hs)
end
theorem Nb2.trans {cl pr : Addr} {H H1 H2 : Hp} (h : Nb2 cl pr H H1) (g : Nb2 cl pr H1 H2) : Nb2 cl pr H H2 := fun b o n1 n2 e => g b o n1 n2 (h b o n1 n2 e)
theorem Nb2.ex' {cl pr : Addr} {H H1 : Hp} (h : Ex H H1) : Nb2 cl pr H H1 := fun b o _ _ e => h b o e
theorem SchX.mono {K : PySem.W.Frag} {tabs : Tabs} {n : Nat} {H H' : Hp} {sc dx : Addr} {text : Str} {cl pr ow fo : Addr} {cs ps : List (Str × V)} (X : SchX K tabs n H sc dx text cl pr ow fo cs ps) (e : Ex H H') : SchX K tabs n H' sc dx text cl pr ow fo cs ps :=
  ⟨e _ _ X.o, e _ _ X.c, e _ _ X.p, X.ne, X.le, X.cn, X.pn, X.has, X.hasP, fun i b hi hb => by
    obtain ⟨p, h1, h2⟩ := X.cols i b hi hb
    exact ⟨p, h1, e _ _ h2⟩, X.pars⟩
theorem sp_splitL {x : Str} {H : Hp} {ws : List Str} (h : x.length ≤ 40000) (e : splitW x = ws) : SpL spSplit [.str x] H (ws.map V.str) := by
  rw [← e]
  exact sp_split h
theorem StaX.of {P : Program} {w : World} {K : PySem.W.Frag} {mg : Str → Option Value} {base : Heap} {CX : CXT} {k : Nat} {x m : Str} {ps : List Str} {sp : Sp} {fd : FuncData} (rd : ClX.CRead K (He.ga K x) (.type "type")) (h : staB K x m = true)
    (F : FnOk P w K mg base CX k (sfd K x m) fd ps sp) (kp : PySem.W.keepIn K (.ref (sfd K x m)) = true) (b : Binds K fd ps []) : StaX P w K mg base CX k (He.ga K x) m ps sp := by
  obtain ⟨h1, rest, h2⟩ := He5.wrapB_ok h
  exact ⟨rd, _, _, fd, rest, h1, h2, F, kp, b⟩
section
variable {P : Program} {w : World} {K : PySem.W.Frag} {mg : Str → Option Value} {base : Heap}
theorem st_Schema (T : Txt K mg) : StaX P w K mg base CX0 9 (SC K) "read" ["text"] (spSchRead K) := by
  have c_split_words := ok_split_words (P := P) (w := w) (base := base) T
  have c_read_line_schemas := ok_read_line_schemas (P := P) (w := w) (base := base) T
  have k_Schema := ok_Schema (P := P) (w := w) (base := base) T
  obtain ⟨fd, F⟩ := T.f_Schema_read
  refine StaX.of T.rdS T.stS (F.ok (k := 8) sc_Schema_read (fun vs H Q E h => ?_) (fun cdv A outer s H vs Q E hr h => ?_)) F.kp (F.bindsN fun _ _ _ _ _ _ us hl => match us, hl with | [_], _ => rfl)
  · obtain ⟨tabs, rfl, _⟩ := h; rfl
  · obtain ⟨tabs, rfl, W, hne, q⟩ := h
    refine ⟨_, (PSs.nox (pss_cons (ps_set (i := 1) sc_Schema_read.nd rfl (by first | exact Or.inl rfl | exact Or.inr rfl) (pe_kx k_Schema hr (by decide) pass0 (pa_cons (pv 0) pa_nil)))
        (pss_cons (ps_for PassesOwn.never rfl (pi_enum (by rfl) T.b_enumerate (pa_cons (pe_split (pv 0) pe_str) pa_nil)) (pg_tup (by rfl) (pgs_cons (pg_name (i := 2) sc_Schema_read.nd rfl (by first | exact Or.inl rfl | exact Or.inr rfl)) (pgs_cons (pg_name (i := 3) sc_Schema_read.nd rfl (by first | exact Or.inl rfl | exact Or.inr rfl)) pgs_nil))) (pss_one (ps_expr (pe_cx c_read_line_schemas hr (by decide) pass0 (pa_cons (pv 1) (pa_cons (pe_op op_add (pv 2) pe_int) (pa_cons (pe_cx c_split_words hr (by decide) pass0 (pa_cons (pv 3) pa_nil)) pa_nil)))))))
        (pss_one (ps_ret (pv 1)))))), ?_⟩
    refine q_make (ea_cons (ev_var rfl) ea_nil) fun sc dx H1 H2 e1 hx hdx ne eH2 => ?_
    have hsc2 : H2 sc = some (.ins (SC K) dx []) := by rw [eH2]; exact upd_same
    have e2 : Ex H H2 := by
      rw [eH2]
      exact (e1.trans (Ex.mut (Ex.new hdx) hx))
    refine ⟨sc, dx, schText tabs, rfl, hsc2, fun H3 cl pr ow fo nb ho hcl hpr hne2 hc hp => ⟨rfl, ?_⟩⟩
    have hscH : H sc = none := fresh_back e1 hx
    have e3 : Ex H H3 := fun a o h => nb a o (ne_of_none h hscH) (e2 _ _ h)
    have hclH : H cl = none := fresh_back e2 hcl
    have hprH : H pr = none := fresh_back e2 hpr
    have X0 : SchX K tabs 0 H3 sc dx (schText tabs) cl pr ow fo [] [] := ⟨ho, hc, hp, hne2, Nat.zero_le _, rfl, rfl, fun t => by unfold hasT; rw [List.take_zero]; rfl, fun t => by unfold hasT; rw [List.take_zero]; rfl, fun i b hi => absurd hi (Nat.not_lt_zero _), fun i b hi => absurd hi (Nat.not_lt_zero _)⟩
    have len := schText_len W
    have spl := schText_split W hne
    refine q_forE (xs := (tabs.map (tbText tabs)).map V.str) (el_is (el_split (ev_var rfl) ev_c rfl (by omega)) (by rw [spl])) (fun p k σ' H' => ∃ (o1 o2 : Option V) (cs ps : List (Str × V)), σ' = [some (.str (schText tabs)), some (.ref sc), o1, o2] ∧ Ex H H' ∧ H' p = some (.lst ((tabs.map (tbText tabs)).map V.str)) ∧ SchX K tabs k H' sc dx (schText tabs) cl pr ow fo cs ps)
      (fun p H4 hp4 e4 h4 => ⟨none, none, [], [], rfl, e3.trans e4, h4, X0.mono e4⟩) (fun p k σ' H' _ ⟨_, _, _, _, _, _, h, _⟩ => sq_of h) ?_ ?_
    · rintro p k x σ' H' Ta hx ⟨o1, o2, cs, ps, rfl, eH, hp4, X⟩ hTa
      obtain ⟨b, hb, rfl⟩ : ∃ b, tabs[k]? = some b ∧ V.str (tbText tabs b) = x := by
        rw [List.getElem?_map, List.getElem?_map] at hx
        cases hb : tabs[k]? with
        | none => rw [hb] at hx; cases hx
        | some b => rw [hb] at hx; exact ⟨b, rfl, Option.some.inj hx⟩
      have wd := tbWords_wd W hb
      have wl := words_len wd (tbWords_len W hb)
      refine s_callNL (xs := (tbWords tabs b).map V.str) (eal_cons (ev_var rfl) (eal_cons (ev_op (ev_var rfl) ev_c rv_I0) (eal_call (ea_cons (ev_var rfl) ea_nil) (sp_splitL (show (tbText tabs b).length ≤ 40000 by unfold tbText; omega) (words_splitW wd (tbWords_ne _ _)))))) fun p2 H5 hp2 e5 h5 => ?_
      have e5' : Ex H' H5 := (Ex.new hTa).trans e5
      refine ⟨sc, p2, dx, cl, pr, ow, fo, _, b, tabs, k, schText tabs, cs, ps, rfl, W, hb, X.mono e5', h5, fun H6 cs' ps' nb' X' => ?_⟩
      refine ⟨_, _, cs', ps', rfl, fun a o h => nb' a o (ne_of_none h hclH) (ne_of_none h hprH) (e5' _ _ (eH _ _ h)), nb' _ _ (ne_kind hp4 X.c (by simp)) (ne_kind hp4 X.p (by simp)) (e5' _ _ hp4), X'⟩
    · rintro p σ' H' ⟨o1, o2, cs, ps, rfl, eH, hp4, X⟩
      rw [List.length_map, List.length_map] at X
      exact s_ret (ev_var rfl) fun H4 e4 => q sc H4 (eH.trans e4) ⟨_, _, _, _, _, _, _, _, X.mono e4⟩
end
end K23

set_option Elab.async false
set_option linter.all false
set_option maxRecDepth 100000
set_option maxHeartbeats 4000000
/-! what is known of names: the class Names -/
namespace K23
open PySem PySem.Spec PyProof.Rows L2 Evl
section
variable {K : PySem.W.Frag} {σ : L2.St} {H H' : Hp} {ta tb te tx td ty tv : TE} {t u : TT} {x y z v : V} {D : Ends} {tu tz : TS} {a C dx : Addr} {fs : List (Str × V)} {f m : Str} {ta' : TA} {sp : Sp} {E : XK}
theorem s_methNL {dvs vs xs : List V} (ha : Ev ta σ H (.ref a)) (ho : H a = some (.ins C dx fs)) (hl : fs.lookup m = none) (h : EvAL ta' σ H vs xs) (hs : ∀ p H1, H p = none → Ex H H1 → H1 p = some (.lst xs) → sp (.ref a :: ((vs ++ [.ref p]) ++ dvs)) H1 (fun _ H2 => D.nx σ H2) E) :
    tDrop (tMeth C m sp dvs E ta ta') D σ H := ha H (Ex.refl H) _ fun H1 e1 => ⟨a, dx, fs, rfl, e1 _ _ ho, hl, h H1 e1 _ fun p H2 hp e2 h2 => hs p H2 (fresh_back e1 hp) (e1.trans e2) h2⟩
end
/-! ### the addresses -/
structure Ad where
  h : Addr
  hx : Addr
  k : Addr
  kx : Addr
  sc : Addr
  rt : Addr
  vn : Addr
  ot : Addr
  ts : Addr
  ls : Addr
  ps : Addr
/-- what is written to -/
def Ad.mu (A : Ad) : List Addr := [A.rt, A.vn, A.ot, A.ts, A.ls, A.ps]
abbrev NC (K : PySem.W.Frag) : Addr := He.ga K "Names"
abbrev HC (K : PySem.W.Frag) : Addr := He.ga K "Handler"
def namF (A : Ad) : List (Str × V) := [("schema", .ref A.sc), ("row_tables", .ref A.rt), ("value_names", .ref A.vn), ("others", .ref A.ot)]
def hanF (A : Ad) (text name : Str) : List (Str × V) := [("schema", .ref A.sc), ("text", .str text), ("name", .str name), ("known", .ref A.k), ("tests", .ref A.ts), ("lines", .ref A.ls), ("parts", .ref A.ps)]
def rowsV (tabs : Tabs) (l : List (Str × Nat)) : List (Str × V) := l.map fun p => (p.1, .str (nameI tabs p.2))
theorem rowsV_lk (tabs : Tabs) (x : Str) : ∀ l : List (Str × Nat), (rowsV tabs l).lookup x = (l.lookup x).map fun i => V.str (nameI tabs i)
  | [] => rfl
  | (y, i) :: r => by
    show ((y, V.str (nameI tabs i)) :: rowsV tabs r).lookup x = _
    by_cases h : x = y
    · subst h; simp [List.lookup]
    · have : (x == y) = false := beq_eq_false_iff_ne.mpr h
      simp only [List.lookup, this]
      exact rowsV_lk tabs x r
theorem rowsV_some (tabs : Tabs) (x : Str) (l : List (Str × Nat)) : ((rowsV tabs l).lookup x).isSome = (l.lookup x).isSome := by rw [rowsV_lk, Option.isSome_map]
theorem rowsV_app (tabs : Tabs) (l : List (Str × Nat)) (x : Str) (i : Nat) : rowsV tabs (l ++ [(x, i)]) = rowsV tabs l ++ [(x, .str (nameI tabs i))] := by unfold rowsV; rw [List.map_append]; rfl
structure Ha (K : PySem.W.Frag) (tabs : Tabs) (G : Hp) (A : Ad) (text name : Str) (st : St) (H : Hp) : Prop where
  wf : WF tabs
  kn : Kn tabs st
  g : Ex G H
  fr : ∀ b ∈ A.mu, G b = none
  nd : A.mu.Nodup
  sch : Sch K tabs tabs.length G A.sc
  k : H A.k = some (.ins (NC K) A.kx (namF A))
  h : H A.h = some (.ins (HC K) A.hx (hanF A text name))
  rt : H A.rt = some (.dK (sd (rowsV tabs st.rows)))
  vn : H A.vn = some (.lst (st.vals.map V.str))
  ot : H A.ot = some (.dK (sd (rowsV tabs st.news)))
  ts : ∃ xs, H A.ts = some (.lst xs) ∧ xs.length = st.nt
  ls : ∃ xs, H A.ls = some (.lst xs) ∧ xs.length = st.np
  ps : ∃ xs, H A.ps = some (.lst xs) ∧ xs.length = st.np
  sm : st.nt ≤ 100 ∧ st.np ≤ 100 ∧ st.vals.length ≤ 100 ∧ st.news.length ≤ 100
/-- all but what is written to is kept -/
def Nm (A : Ad) (H H' : Hp) : Prop := ∀ b o, b ∉ A.mu → H b = some o → H' b = some o
section
variable {K : PySem.W.Frag} {tabs : Tabs} {G : Hp} {A : Ad} {text name : Str} {st : St} {H H' : Hp}
theorem Nm.ex (e : Ex H H') : Nm A H H' := fun b o _ h => e b o h
theorem Nm.trans {H1 : Hp} (a : Nm A H H1) (b : Nm A H1 H') : Nm A H H' := fun x o n h => b x o n (a x o n h)
theorem Nm.upd {x : Addr} {o : HO} (h : x ∈ A.mu) (e : Ex H H') : Nm A H (upd H' x o) := fun b u n hb => by
  rw [upd_ne fun z => n (by rw [z]; exact h)]
  exact e _ _ hb
theorem Ha.mono (h : Ha K tabs G A text name st H) (e : Ex H H') : Ha K tabs G A text name st H' := by
  obtain ⟨t, t1, t2⟩ := h.ts
  obtain ⟨l, l1, l2⟩ := h.ls
  obtain ⟨p, p1, p2⟩ := h.ps
  exact ⟨h.wf, h.kn, h.g.trans e, h.fr, h.nd, h.sch, e _ _ h.k, e _ _ h.h, e _ _ h.rt, e _ _ h.vn, e _ _ h.ot, ⟨t, e _ _ t1, t2⟩, ⟨l, e _ _ l1, l2⟩, ⟨p, e _ _ p1, p2⟩, h.sm⟩
theorem Ha.sc (h : Ha K tabs G A text name st H) : Sch K tabs tabs.length H A.sc := h.sch.mono h.g
/-- what is not written to stands apart -/
theorem Ha.off {b : Addr} {o : HO} (h : Ha K tabs G A text name st H) (hb : H b = some o) (n1 : ∀ l, o ≠ .dK l) (n2 : ∀ l, o ≠ .lst l) : b ∉ A.mu := by
  obtain ⟨t, t1, t2⟩ := h.ts
  obtain ⟨l, l1, l2⟩ := h.ls
  obtain ⟨p, p1, p2⟩ := h.ps
  intro m
  simp only [Ad.mu, List.mem_cons, List.not_mem_nil, or_false] at m
  rcases m with rfl | rfl | rfl | rfl | rfl | rfl
  · rw [h.rt] at hb; exact n1 _ (Option.some.inj hb).symm
  · rw [h.vn] at hb; exact n2 _ (Option.some.inj hb).symm
  · rw [h.ot] at hb; exact n1 _ (Option.some.inj hb).symm
  · rw [t1] at hb; exact n2 _ (Option.some.inj hb).symm
  · rw [l1] at hb; exact n2 _ (Option.some.inj hb).symm
  · rw [p1] at hb; exact n2 _ (Option.some.inj hb).symm
/-- a new thing is not written to -/
theorem Ha.new {b : Addr} (h : Ha K tabs G A text name st H) (hb : H b = none) : b ∉ A.mu := by
  obtain ⟨t, t1, t2⟩ := h.ts
  obtain ⟨l, l1, l2⟩ := h.ls
  obtain ⟨p, p1, p2⟩ := h.ps
  intro m
  simp only [Ad.mu, List.mem_cons, List.not_mem_nil, or_false] at m
  rcases m with rfl | rfl | rfl | rfl | rfl | rfl
  · rw [h.rt] at hb; cases hb
  · rw [h.vn] at hb; cases hb
  · rw [h.ot] at hb; cases hb
  · rw [t1] at hb; cases hb
  · rw [l1] at hb; cases hb
  · rw [p1] at hb; cases hb
theorem Ha.kOff (h : Ha K tabs G A text name st H) : A.k ∉ A.mu := h.off h.k (fun _ z => by cases z) (fun _ z => by cases z)
theorem Ha.hOff (h : Ha K tabs G A text name st H) : A.h ∉ A.mu := h.off h.h (fun _ z => by cases z) (fun _ z => by cases z)
theorem Ex.mutG {p : Addr} {o : HO} (e : Ex G H) (h : G p = none) : Ex G (upd H p o) := Ex.mut e h
theorem ne_mu {a b : Addr} (h : a ∉ A.mu) (m : b ∈ A.mu) : a ≠ b := fun z => h (by rw [z]; exact m)
theorem Ad.m_rt : A.rt ∈ A.mu := by simp [Ad.mu]
theorem Ad.m_vn : A.vn ∈ A.mu := by simp [Ad.mu]
theorem Ad.m_ot : A.ot ∈ A.mu := by simp [Ad.mu]
theorem Ad.m_ts : A.ts ∈ A.mu := by simp [Ad.mu]
theorem Ad.m_ls : A.ls ∈ A.mu := by simp [Ad.mu]
theorem Ad.m_ps : A.ps ∈ A.mu := by simp [Ad.mu]
theorem Ad.nes (h : A.mu.Nodup) : (A.rt ≠ A.vn ∧ A.rt ≠ A.ot ∧ A.rt ≠ A.ts ∧ A.rt ≠ A.ls ∧ A.rt ≠ A.ps) ∧ (A.vn ≠ A.ot ∧ A.vn ≠ A.ts ∧ A.vn ≠ A.ls ∧ A.vn ≠ A.ps) ∧ (A.ot ≠ A.ts ∧ A.ot ≠ A.ls ∧ A.ot ≠ A.ps) ∧ (A.ts ≠ A.ls ∧ A.ts ≠ A.ps) ∧ A.ls ≠ A.ps := by
  simpa [Ad.mu] using h
theorem Ha.setRt {x : Str} {i : Nat} (h : Ha K tabs G A text name st H) (e : Ex H H') (kn : Kn tabs { st with rows := st.rows ++ [(x, i)] }) : Ha K tabs G A text name { st with rows := st.rows ++ [(x, i)] } (upd H' A.rt (.dK (sd (rowsV tabs st.rows ++ [(x, .str (nameI tabs i))])))) := by
  have h' := h.mono e
  obtain ⟨⟨n1, n2, n3, n4, n5⟩, _⟩ := Ad.nes h.nd
  obtain ⟨t, t1, t2⟩ := h'.ts
  obtain ⟨l, l1, l2⟩ := h'.ls
  obtain ⟨p, p1, p2⟩ := h'.ps
  refine ⟨h.wf, kn, Ex.mut h'.g (h.fr _ Ad.m_rt), h.fr, h.nd, h.sch, ?_, ?_, ?_, ?_, ?_, ⟨t, ?_, t2⟩, ⟨l, ?_, l2⟩, ⟨p, ?_, p2⟩, h.sm⟩
  · rw [upd_ne (ne_mu h.kOff Ad.m_rt)]; exact h'.k
  · rw [upd_ne (ne_mu h.hOff Ad.m_rt)]; exact h'.h
  · rw [upd_same, rowsV_app]
  · rw [upd_ne n1.symm]; exact h'.vn
  · rw [upd_ne n2.symm]; exact h'.ot
  · rw [upd_ne n3.symm]; exact t1
  · rw [upd_ne n4.symm]; exact l1
  · rw [upd_ne n5.symm]; exact p1
theorem Ha.setVn {u : Str} (h : Ha K tabs G A text name st H) (e : Ex H H') (kn : Kn tabs { st with vals := st.vals ++ [u] }) (sm : st.vals.length ≤ 50) : Ha K tabs G A text name { st with vals := st.vals ++ [u] } (upd H' A.vn (.lst (st.vals.map V.str ++ [V.str u]))) := by
  have h' := h.mono e
  obtain ⟨⟨n1, _⟩, ⟨n2, n3, n4, n5⟩, _⟩ := Ad.nes h.nd
  obtain ⟨t, t1, t2⟩ := h'.ts
  obtain ⟨l, l1, l2⟩ := h'.ls
  obtain ⟨p, p1, p2⟩ := h'.ps
  refine ⟨h.wf, kn, Ex.mut h'.g (h.fr _ Ad.m_vn), h.fr, h.nd, h.sch, ?_, ?_, ?_, ?_, ?_, ⟨t, ?_, t2⟩, ⟨l, ?_, l2⟩, ⟨p, ?_, p2⟩, ⟨h.sm.1, h.sm.2.1, by show (st.vals ++ [u]).length ≤ 100; rw [List.length_append]; simp; omega, h.sm.2.2.2⟩⟩
  · rw [upd_ne (ne_mu h.kOff Ad.m_vn)]; exact h'.k
  · rw [upd_ne (ne_mu h.hOff Ad.m_vn)]; exact h'.h
  · rw [upd_ne n1]; exact h'.rt
  · rw [upd_same, List.map_append]; rfl
  · rw [upd_ne n2.symm]; exact h'.ot
  · rw [upd_ne n3.symm]; exact t1
  · rw [upd_ne n4.symm]; exact l1
  · rw [upd_ne n5.symm]; exact p1
theorem Ha.setOt {x : Str} {i : Nat} (h : Ha K tabs G A text name st H) (e : Ex H H') (kn : Kn tabs { st with news := st.news ++ [(x, i)] }) (sm : st.news.length ≤ 50) : Ha K tabs G A text name { st with news := st.news ++ [(x, i)] } (upd H' A.ot (.dK (sd (rowsV tabs st.news ++ [(x, .str (nameI tabs i))])))) := by
  have h' := h.mono e
  obtain ⟨⟨_, n1, _⟩, ⟨n2, _⟩, ⟨n3, n4, n5⟩, _⟩ := Ad.nes h.nd
  obtain ⟨t, t1, t2⟩ := h'.ts
  obtain ⟨l, l1, l2⟩ := h'.ls
  obtain ⟨p, p1, p2⟩ := h'.ps
  refine ⟨h.wf, kn, Ex.mut h'.g (h.fr _ Ad.m_ot), h.fr, h.nd, h.sch, ?_, ?_, ?_, ?_, ?_, ⟨t, ?_, t2⟩, ⟨l, ?_, l2⟩, ⟨p, ?_, p2⟩, ⟨h.sm.1, h.sm.2.1, h.sm.2.2.1, by show (st.news ++ [(x, i)]).length ≤ 100; rw [List.length_append]; simp; omega⟩⟩
  · rw [upd_ne (ne_mu h.kOff Ad.m_ot)]; exact h'.k
  · rw [upd_ne (ne_mu h.hOff Ad.m_ot)]; exact h'.h
  · rw [upd_ne n1]; exact h'.rt
  · rw [upd_ne n2]; exact h'.vn
  · rw [upd_same, rowsV_app]
  · rw [upd_ne n3.symm]; exact t1
  · rw [upd_ne n4.symm]; exact l1
  · rw [upd_ne n5.symm]; exact p1
theorem Ha.setTs {v : V} {xs : List V} (h : Ha K tabs G A text name st H) (e : Ex H H') (hx : H' A.ts = some (.lst xs)) (sm : st.nt ≤ 50) : Ha K tabs G A text name { st with nt := st.nt + 1 } (upd H' A.ts (.lst (xs ++ [v]))) := by
  have h' := h.mono e
  obtain ⟨⟨_, _, n1, _⟩, ⟨_, n2, _⟩, ⟨n3, _⟩, ⟨n4, n5⟩, _⟩ := Ad.nes h.nd
  obtain ⟨t, t1, t2⟩ := h'.ts
  obtain ⟨l, l1, l2⟩ := h'.ls
  obtain ⟨p, p1, p2⟩ := h'.ps
  rw [hx] at t1
  cases t1
  refine ⟨h.wf, ⟨h.kn.rix, h.kn.nix, h.kn.dis, h.kn.rn, h.kn.nn, h.kn.vn, h.kn.rl⟩, Ex.mut h'.g (h.fr _ Ad.m_ts), h.fr, h.nd, h.sch, ?_, ?_, ?_, ?_, ?_, ⟨_, upd_same, by show (xs ++ [v]).length = st.nt + 1; rw [List.length_append, t2]; rfl⟩, ⟨l, ?_, l2⟩, ⟨p, ?_, p2⟩, ⟨by show st.nt + 1 ≤ 100; omega, h.sm.2.1, h.sm.2.2.1, h.sm.2.2.2⟩⟩
  · rw [upd_ne (ne_mu h.kOff Ad.m_ts)]; exact h'.k
  · rw [upd_ne (ne_mu h.hOff Ad.m_ts)]; exact h'.h
  · rw [upd_ne n1]; exact h'.rt
  · rw [upd_ne n2]; exact h'.vn
  · rw [upd_ne n3]; exact h'.ot
  · rw [upd_ne n4.symm]; exact l1
  · rw [upd_ne n5.symm]; exact p1
/-- handler.parts.append(..), handler.lines.append(..) -/
theorem Ha.setPs {v v2 : V} {xs ys : List V} {H2 : Hp} (h : Ha K tabs G A text name st H) (e : Ex H H') (hx : H' A.ps = some (.lst xs)) (e2 : Ex (upd H' A.ps (.lst (xs ++ [v]))) H2) (hy : H2 A.ls = some (.lst ys)) (sm : st.np ≤ 50) :
    Ha K tabs G A text name { st with np := st.np + 1 } (upd H2 A.ls (.lst (ys ++ [v2]))) := by
  have h' := h.mono e
  obtain ⟨⟨_, _, _, n1, m1⟩, ⟨_, _, n2, m2⟩, ⟨_, n3, m3⟩, ⟨n4, m4⟩, n5⟩ := Ad.nes h.nd
  obtain ⟨t, t1, t2⟩ := h'.ts
  obtain ⟨l, l1, l2⟩ := h'.ls
  obtain ⟨p, p1, p2⟩ := h'.ps
  rw [hx] at p1
  cases p1
  have back : ∀ {a : Addr} {o : HO}, a ≠ A.ls → a ≠ A.ps → H' a = some o → upd H2 A.ls (.lst (ys ++ [v2])) a = some o := fun q1 q2 q => by
    rw [upd_ne q1]
    refine e2 _ _ ?_
    rw [upd_ne q2]
    exact q
  have hly : ys.length = st.np := by
    have : H2 A.ls = some (.lst l) := e2 _ _ (by rw [upd_ne n5]; exact l1)
    rw [hy] at this
    cases this
    exact l2
  have eG : Ex G (upd H2 A.ls (.lst (ys ++ [v2]))) := Ex.mut ((Ex.mut h'.g (h.fr _ Ad.m_ps)).trans e2) (h.fr _ Ad.m_ls)
  refine ⟨h.wf, ⟨h.kn.rix, h.kn.nix, h.kn.dis, h.kn.rn, h.kn.nn, h.kn.vn, h.kn.rl⟩, eG, h.fr, h.nd, h.sch, ?_, ?_, ?_, ?_, ?_, ⟨t, ?_, t2⟩, ⟨_, upd_same, by show (ys ++ [v2]).length = st.np + 1; rw [List.length_append, hly]; rfl⟩, ⟨xs ++ [v], ?_, by show (xs ++ [v]).length = st.np + 1; rw [List.length_append, p2]; rfl⟩, ⟨h.sm.1, by show st.np + 1 ≤ 100; omega, h.sm.2.2.1, h.sm.2.2.2⟩⟩
  · exact back (ne_mu h.kOff Ad.m_ls) (ne_mu h.kOff Ad.m_ps) h'.k
  · exact back (ne_mu h.hOff Ad.m_ls) (ne_mu h.hOff Ad.m_ps) h'.h
  · exact back n1 m1 h'.rt
  · exact back n2 m2 h'.vn
  · exact back n3 m3 h'.ot
  · exact back n4 m4 t1
  · rw [upd_ne n5.symm]; exact e2 _ _ upd_same
end
/-! ### promises -/
def RetM (K : PySem.W.Frag) (l : Int) (er : Option Er) (v : V) (H : Hp) (A : Ad) (P : Hp → Prop) (Q : VK) (E : XK) : Prop := match er with
  | none => ∀ H2, Nm A H H2 → P H2 → Q v H2
  | some e => Rz K l e H E
def spNew (K : PySem.W.Frag) : Sp := fun vs H Q E => ∃ (A : Ad) (l : Int) (n text name : Str) (tabs : Tabs) (G : Hp) (st : St), vs = [.ref A.k, .int l, .str n] ∧ Ha K tabs G A text name st H ∧ RetE K l (newErr st n) .non H Q E
def spRow (K : PySem.W.Frag) : Sp := fun vs H Q E => ∃ (A : Ad) (l : Int) (n text name : Str) (tabs : Tabs) (G : Hp) (st : St), vs = [.ref A.k, .int l, .str n] ∧ Ha K tabs G A text name st H ∧ RetE K l (rowErr st n) .non H Q E
def spAny (K : PySem.W.Frag) : Sp := fun vs H Q E => ∃ (A : Ad) (l : Int) (n text name : Str) (tabs : Tabs) (G : Hp) (st : St), vs = [.ref A.k, .int l, .str n] ∧ Ha K tabs G A text name st H ∧ RetE K l (anyErr st n) .non H Q E
def spTof (K : PySem.W.Frag) : Sp := fun vs H Q E => ∃ (A : Ad) (n text name : Str) (tabs : Tabs) (G : Hp) (st : St) (i : Nat), vs = [.ref A.k, .str n] ∧ Ha K tabs G A text name st H ∧ anyIx st n = some i ∧ RetV (.str (nameI tabs i)) H Q
def spTrm (K : PySem.W.Frag) : Sp := fun vs H Q E => ∃ (A : Ad) (l : Int) (a : Tm) (text name : Str) (tabs : Tabs) (G : Hp) (st : St), vs = [.ref A.k, .int l, .str a.str] ∧ a.ok ∧ Ha K tabs G A text name st H ∧ RetE K l (termErr tabs st a) .non H Q E
def spAddRow (K : PySem.W.Frag) : Sp := fun vs H Q E => ∃ (A : Ad) (l : Int) (x t text name : Str) (tabs : Tabs) (G : Hp) (st : St), vs = [.ref A.k, .int l, .str x, .str t] ∧ Nam x ∧ Ha K tabs G A text name st H ∧
  RetM K l (firstE (Line.checks tabs st (.row x t))) .non H A (Ha K tabs G A text name (Line.step tabs st (.row x t))) Q E
def spAddVal (K : PySem.W.Frag) : Sp := fun vs H Q E => ∃ (A : Ad) (l : Int) (u text name : Str) (tabs : Tabs) (G : Hp) (st : St), vs = [.ref A.k, .int l, .str u] ∧ Nam u ∧ st.vals.length < 4 ∧ Ha K tabs G A text name st H ∧
  RetM K l (firstE (Line.checks tabs st (.value u))) .non H A (Ha K tabs G A text name (Line.step tabs st (.value u))) Q E
theorem lk_nat_app {l : List (Str × Nat)} {k t : Str} {v : Nat} : (l ++ [(k, v)]).lookup t = match l.lookup t with
    | some x => some x
    | none => if t = k then some v else none := by
  induction l with
  | nil =>
    by_cases h : t = k
    · subst h; simp [List.lookup]
    · have : (t == k) = false := beq_eq_false_iff_ne.mpr h
      simp [List.lookup, this, h]
  | cons p r ih =>
    obtain ⟨q, x⟩ := p
    by_cases h : t = q
    · subst h; simp [List.lookup]
    · have : (t == q) = false := beq_eq_false_iff_ne.mpr h
      simp only [List.cons_append, List.lookup, this]
      exact ih
theorem newErr_none {st : St} {n : Str} (h : newErr st n = none) : n ≠ "me" ∧ st.rows.lookup n = none ∧ n ∉ st.vals ∧ st.news.lookup n = none := by
  unfold newErr at h
  split at h
  · cases h
  · rename_i g
    simp only [not_or, Bool.not_eq_true, Option.isSome_eq_false_iff, Option.isNone_iff_eq_none] at g
    exact g
theorem Kn.addRow {tabs : Tabs} {st : St} {x : Str} {i : Nat} (k : Kn tabs st) (hx : Nam x) (hi : i < tabs.length) (h : newErr st x = none) (hl : st.rows.length ≠ 3) : Kn tabs { st with rows := st.rows ++ [(x, i)] } := by
  obtain ⟨h1, h2, h3, h4⟩ := newErr_none h
  refine ⟨fun p hp => ?_, k.nix, fun y hy => ?_, fun p hp => ?_, k.nn, k.vn, ?_⟩
  · rcases List.mem_append.mp hp with hp | hp
    · exact k.rix p hp
    · rw [List.mem_singleton.mp hp]; exact hi
  · show (st.rows ++ [(x, i)]).lookup y = none
    rw [lk_nat_app, k.dis y hy]
    refine if_neg fun z => ?_
    subst z
    have hy' : (st.news.lookup y).isSome = true := hy
    rw [h4] at hy'
    cases hy'
  · rcases List.mem_append.mp hp with hp | hp
    · exact k.rn p hp
    · rw [List.mem_singleton.mp hp]; exact hx
  · show (st.rows ++ [(x, i)]).length ≤ 3
    have := k.rl
    rw [List.length_append]
    simp
    omega
theorem Kn.addNew {tabs : Tabs} {st : St} {x : Str} {i : Nat} (k : Kn tabs st) (hx : Nam x) (hi : i < tabs.length) (h : newErr st x = none) : Kn tabs { st with news := st.news ++ [(x, i)] } := by
  obtain ⟨h1, h2, h3, h4⟩ := newErr_none h
  refine ⟨k.rix, fun p hp => ?_, fun y hy => ?_, k.rn, fun p hp => ?_, k.vn, k.rl⟩
  · rcases List.mem_append.mp hp with hp | hp
    · exact k.nix p hp
    · rw [List.mem_singleton.mp hp]; exact hi
  · have hy' : ((st.news ++ [(x, i)]).lookup y).isSome = true := hy
    rw [lk_nat_app] at hy'
    show st.rows.lookup y = none
    cases hn : st.news.lookup y with
    | some j => exact k.dis y (by rw [hn]; rfl)
    | none =>
      rw [hn] at hy'
      by_cases z : y = x
      · subst z; exact h2
      · rw [if_neg z] at hy'; cases hy'
  · rcases List.mem_append.mp hp with hp | hp
    · exact k.nn p hp
    · rw [List.mem_singleton.mp hp]; exact hx
theorem Kn.addVal {tabs : Tabs} {st : St} {u : Str} (k : Kn tabs st) (hu : Nam u) : Kn tabs { st with vals := st.vals ++ [u] } :=
  ⟨k.rix, k.nix, k.dis, k.rn, k.nn, fun v hv => by
    rcases List.mem_append.mp hv with hv | hv
    · exact k.vn v hv
    · rw [List.mem_singleton.mp hv]; exact hu, k.rl⟩
theorem lk_mem {l : List (Str × Nat)} {x : Str} {i : Nat} (h : l.lookup x = some i) : (x, i) ∈ l := by
  induction l with
  | nil => cases h
  | cons p r ih =>
    obtain ⟨y, j⟩ := p
    by_cases e : x = y
    · subst e
      simp [List.lookup] at h
      subst h
      exact .head _
    · have : (x == y) = false := beq_eq_false_iff_ne.mpr e
      simp only [List.lookup, this] at h
      exact .tail _ (ih h)
theorem Kn.rowLt {tabs : Tabs} {st : St} (k : Kn tabs st) {x : Str} {i : Nat} (h : rowIx st x = some i) : i < tabs.length := k.rix _ (lk_mem h)
theorem Kn.anyLt {tabs : Tabs} {st : St} (k : Kn tabs st) {x : Str} {i : Nat} (h : anyIx st x = some i) : i < tabs.length := by
  unfold anyIx at h
  cases e : st.news.lookup x with
  | some j => rw [e] at h; cases h; exact k.nix _ (lk_mem e)
  | none => rw [e] at h; exact k.rix _ (lk_mem h)
theorem tab_at {tabs : Tabs} {i : Nat} (h : i < tabs.length) : ∃ b, tabs[i]? = some b ∧ nameI tabs i = b.name := ⟨_, List.getElem?_eq_getElem h, nameI_at (List.getElem?_eq_getElem h)⟩
section
variable {P : Program} {w : World} {K : PySem.W.Frag} {mg : Str → Option Value} {base : Heap}
theorem ok_check_new (T : Txt K mg) : MetX P w K mg base (L2.CX P w) 3 (NC K) "check_new" ["self", "line", "name"] (spNew K) [] := by
  obtain ⟨fd, F⟩ := T.f_Names_check_new
  refine ⟨T.c_Names, _, fd, [], F.ok sc_Names_check_new (fun vs H Q E h => ?_) (fun cdv A outer s H vs Q E hr h => ?_), T.m_Names_check_new, F.bindsN fun _ _ _ _ _ _ us hl => match us, hl with | [_, _, _], _ => rfl, .nil⟩
  · obtain ⟨A, l, n, text, name, tabs, G, st, rfl, _⟩ := h; rfl
  · obtain ⟨B, l, n, text, name, tabs, G, st, rfl, h, q⟩ := h
    refine ⟨_, (pss_cons (ps_if (PW.pt (pw_or (pt_cmpR op_eq (pv 2) pe_str (nomark _)) (pw_or1 (pt_cmp (pc_din (hu_of hr) (pv 2) (pe_fld (pv 0) rfl)))))) (pss_one (rz_DuplicateName T hr (by decide) rfl (takes_of rfl rfl rfl rfl) (pa_cons (pv 1) (pa_cons (pv 2) pa_nil)))) pss_nil)
        (pss_one (ps_if (PW.pt (pw_or (pt_cmpR op_in_seq (pv 2) (pe_fld (pv 0) rfl) rfl) (pw_or1 (pt_cmp (pc_din (hu_of hr) (pv 2) (pe_fld (pv 0) rfl)))))) (pss_one (rz_DuplicateName T hr (by decide) rfl (takes_of rfl rfl rfl rfl) (pa_cons (pv 1) (pa_cons (pv 2) pa_nil)))) pss_nil))), ?_⟩
    refine q_when (et_or (et_test (ev_op (ev_var rfl) ev_c (rv_eq rfl))) fun _ => et_in (ev_var rfl) (ev_fld (ev_var rfl) h.k T.c_Names T.n_Names_row_tables rfl) h.rt) (fun hb H1 e1 => ?_) (fun hb H1 e1 => ?_)
    · have z : newErr st n = some (.dup n) := by
        rw [rowsV_some, Bool.or_eq_true, decide_eq_true_eq] at hb
        refine if_pos ?_
        rcases hb with hb | hb
        · exact .inl (V.str.inj hb)
        · exact .inr (.inl hb)
      rw [z] at q
      exact s_rz2 (ea_cons (ev_var rfl) (ea_cons (ev_var rfl) ea_nil)) fun H2 d e2 hd => Rz.go (er := .dup n) q (e1.trans e2) hd
    · rw [rowsV_some, Bool.or_eq_false_iff, decide_eq_false_iff_not] at hb
      refine s_when (et_or (et_test (ev_op (ev_var rfl) (ev_fld (ev_var rfl) (e1 _ _ h.k) T.c_Names T.n_Names_value_names rfl) (rv_isL (sq_of (e1 _ _ h.vn)) rfl (flat_strs _)))) fun _ => et_in (ev_var rfl) (ev_fld (ev_var rfl) (e1 _ _ h.k) T.c_Names T.n_Names_others rfl) (e1 _ _ h.ot)) (fun hb2 H2 e2 => ?_) (fun hb2 H2 e2 => ?_)
      · have z : newErr st n = some (.dup n) := by
          rw [rowsV_some, inV_str, Bool.or_eq_true, decide_eq_true_eq] at hb2
          exact if_pos (.inr (.inr hb2))
        rw [z] at q
        exact s_rz2 (ea_cons (ev_var rfl) (ea_cons (ev_var rfl) ea_nil)) fun H3 d e3 hd => Rz.go (er := .dup n) q (e1.trans (e2.trans e3)) hd
      · rw [rowsV_some, inV_str, Bool.or_eq_false_iff, decide_eq_false_iff_not] at hb2
        have z : newErr st n = none := by
          refine if_neg fun g => ?_
          rcases g with g | g | g | g
          · exact hb.1 (by rw [g])
          · rw [hb.2] at g; cases g
          · exact hb2.1 g
          · rw [hb2.2] at g; cases g
        rw [z] at q
        exact q H2 (e1.trans e2)
theorem ok_check_row (T : Txt K mg) : MetX P w K mg base (L2.CX P w) 3 (NC K) "check_row" ["self", "line", "name"] (spRow K) [] := by
  obtain ⟨fd, F⟩ := T.f_Names_check_row
  refine ⟨T.c_Names, _, fd, [], F.ok sc_Names_check_row (fun vs H Q E h => ?_) (fun cdv A outer s H vs Q E hr h => ?_), T.m_Names_check_row, F.bindsN fun _ _ _ _ _ _ us hl => match us, hl with | [_, _, _], _ => rfl, .nil⟩
  · obtain ⟨A, l, n, text, name, tabs, G, st, rfl, _⟩ := h; rfl
  · obtain ⟨B, l, n, text, name, tabs, G, st, rfl, h, q⟩ := h
    refine ⟨_, (pss_one (ps_if (pt_cmp (pc_dnotin (hu_of hr) (pv 2) (pe_fld (pv 0) rfl))) (pss_one (rz_UnknownName T hr (by decide) rfl (takes_of rfl rfl rfl rfl) (pa_cons (pv 1) (pa_cons (pv 2) pa_nil)))) pss_nil)), ?_⟩
    refine s_when (et_notIn (ev_var rfl) (ev_fld (ev_var rfl) h.k T.c_Names T.n_Names_row_tables rfl) h.rt) (fun hb H1 e1 => ?_) (fun hb H1 e1 => ?_)
    · rw [rowsV_some, Bool.not_eq_true'] at hb
      have z : rowErr st n = some (.unk n) := if_neg (by unfold rowIx; rw [hb]; decide)
      rw [z] at q
      exact s_rz2 (ea_cons (ev_var rfl) (ea_cons (ev_var rfl) ea_nil)) fun H2 d e2 hd => Rz.go (er := .unk n) q (e1.trans e2) hd
    · rw [rowsV_some, Bool.not_eq_false'] at hb
      have z : rowErr st n = none := if_pos hb
      rw [z] at q
      exact q H1 e1
theorem nam_m (m : Str) (h : (namF ⟨0, 0, 0, 0, 0, 0, 0, 0, 0, 0, 0⟩).lookup m = none) {A : Ad} : (namF A).lookup m = none := by
  unfold namF at h ⊢
  simp only [List.lookup] at h ⊢
  revert h
  repeat' split
  all_goals simp
theorem ok_check_any_row (T : Txt K mg) : MetX P w K mg base (L2.CX P w) 4 (NC K) "check_any_row" ["self", "line", "name"] (spAny K) [] := by
  have m_check_row := ok_check_row (P := P) (w := w) (base := base) T
  obtain ⟨fd, F⟩ := T.f_Names_check_any_row
  refine ⟨T.c_Names, _, fd, [], F.ok sc_Names_check_any_row (fun vs H Q E h => ?_) (fun cdv A outer s H vs Q E hr h => ?_), T.m_Names_check_any_row, F.bindsN fun _ _ _ _ _ _ us hl => match us, hl with | [_, _, _], _ => rfl, .nil⟩
  · obtain ⟨A, l, n, text, name, tabs, G, st, rfl, _⟩ := h; rfl
  · obtain ⟨B, l, n, text, name, tabs, G, st, rfl, h, q⟩ := h
    refine ⟨_, (pss_one (ps_if (pt_cmp (pc_dnotin (hu_of hr) (pv 2) (pe_fld (pv 0) rfl))) (pss_one (ps_expr (pe_mx m_check_row hr (by decide) (passes_call (takes_of rfl rfl rfl rfl) fun _ _ _ _ h => h) (pv 0) (pa_cons (pv 1) (pa_cons (pv 2) pa_nil))))) pss_nil)), ?_⟩
    refine s_when (et_notIn (ev_var rfl) (ev_fld (ev_var rfl) h.k T.c_Names T.n_Names_others rfl) h.ot) (fun hb H1 e1 => ?_) (fun hb H1 e1 => ?_)
    · rw [rowsV_some, Bool.not_eq_true', Option.isSome_eq_false_iff, Option.isNone_iff_eq_none] at hb
      have z : anyErr st n = rowErr st n := by unfold anyErr rowErr anyIx rowIx; rw [hb]
      rw [z] at q
      exact s_meth (ev_var rfl) (e1 _ _ h.k) (nam_m _ rfl) (ea_cons (ev_var rfl) (ea_cons (ev_var rfl) ea_nil)) fun H2 e2 => ⟨B, l, n, text, name, tabs, G, st, rfl, h.mono (e1.trans e2), q.mono (e1.trans e2)⟩
    · rw [rowsV_some, Bool.not_eq_false'] at hb
      obtain ⟨i, hi⟩ := Option.isSome_iff_exists.mp hb
      have z : anyErr st n = none := if_pos (by unfold anyIx; rw [hi]; rfl)
      rw [z] at q
      exact q H1 e1
theorem ok_table_of (T : Txt K mg) : MetX P w K mg base CX0 1 (NC K) "table_of" ["self", "name"] (spTof K) [] := by
  obtain ⟨fd, F⟩ := T.f_Names_table_of
  refine ⟨T.c_Names, _, fd, [], F.ok sc_Names_table_of (fun vs H Q E h => ?_) (fun cdv A outer s H vs Q E hr h => ?_), T.m_Names_table_of, F.bindsN fun _ _ _ _ _ _ us hl => match us, hl with | [_, _], _ => rfl, .nil⟩
  · obtain ⟨A, n, text, name, tabs, G, st, i, rfl, _⟩ := h; rfl
  · obtain ⟨B, n, text, name, tabs, G, st, i, rfl, h, hi, q⟩ := h
    refine ⟨_, (PSs.nox (pss_cons (ps_if (pt_cmp (pc_din (hu_of hr) (pv 1) (pe_fld (pv 0) rfl))) (pss_one (ps_ret (pe_dget (hu_of hr) (pe_fld (pv 0) rfl) (pv 1) (fun _ _ => rfl)))) pss_nil)
        (pss_one (ps_ret (pe_dget (hu_of hr) (pe_fld (pv 0) rfl) (pv 1) (fun _ _ => rfl)))))), ?_⟩
    refine q_when (et_in (ev_var rfl) (ev_fld (ev_var rfl) h.k T.c_Names T.n_Names_others rfl) h.ot) (fun hb H1 e1 => ?_) (fun hb H1 e1 => ?_)
    · rw [rowsV_some] at hb
      obtain ⟨j, hj⟩ := Option.isSome_iff_exists.mp hb
      have z : i = j := by unfold anyIx at hi; rw [hj] at hi; exact (Option.some.inj hi).symm
      subst z
      exact s_ret (ev_dget (ev_fld (ev_var rfl) (e1 _ _ h.k) T.c_Names T.n_Names_others rfl) (ev_var rfl) (e1 _ _ h.ot) (by rw [rowsV_lk, hj]; rfl)) fun H2 e2 => q H2 (e1.trans e2)
    · rw [rowsV_some, Option.isSome_eq_false_iff, Option.isNone_iff_eq_none] at hb
      have hj : st.rows.lookup n = some i := by unfold anyIx at hi; rw [hb] at hi; exact hi
      exact s_ret (ev_dget (ev_fld (ev_var rfl) (e1 _ _ h.k) T.c_Names T.n_Names_row_tables rfl) (ev_var rfl) (e1 _ _ h.rt) (by rw [rowsV_lk, hj]; rfl)) fun H2 e2 => q H2 (e1.trans e2)
theorem sch_obj {tabs : Tabs} {n : Nat} {H : Hp} {sc : Addr} (S : Sch K tabs n H sc) : ∃ dx text cl pr ow fo, H sc = some (.ins (SC K) dx (schF text cl pr ow fo)) := by
  obtain ⟨dx, text, cl, pr, ow, fo, cs, ps, X⟩ := S
  exact ⟨_, _, _, _, _, _, X.o⟩
theorem ok_check_term (T : Txt K mg) : MetX P w K mg base (L2.CX P w) 4 (NC K) "check_term" ["self", "line", "term"] (spTrm K) [] := by
  have m_check_row := ok_check_row (P := P) (w := w) (base := base) T
  have m_check_position := ok_check_position (P := P) (w := w) (base := base) T
  have c_split_term := ok_split_term (P := P) (w := w) (base := base) T
  obtain ⟨fd, F⟩ := T.f_Names_check_term
  refine ⟨T.c_Names, _, fd, [], F.ok sc_Names_check_term (fun vs H Q E h => ?_) (fun cdv A outer s H vs Q E hr h => ?_), T.m_Names_check_term, F.bindsN fun _ _ _ _ _ _ us hl => match us, hl with | [_, _, _], _ => rfl, .nil⟩
  · obtain ⟨A, l, a, text, name, tabs, G, st, rfl, _⟩ := h; rfl
  · obtain ⟨B, l, a, text, name, tabs, G, st, rfl, ok, h, q⟩ := h
    refine ⟨_, (pss_cons (ps_set (i := 3) sc_Names_check_term.nd rfl (by first | exact Or.inl rfl | exact Or.inr rfl) (pe_cx c_split_term hr (by decide) pass0 (pa_cons (pv 2) pa_nil)))
        (pss_cons (ps_if (PW.pt (pw_and (pt_cmpR op_eq (pe_ix ix_tup (pv 3) pe_int (fun _ _ => rfl)) pe_str (nomark _)) (pw_and1 (pt_cmpR op_notIn_seq (pe_ix ix_tup (pv 3) pe_int (fun _ _ => rfl)) (pe_fld (pv 0) rfl) rfl)))) (pss_one (rz_UnknownName T hr (by decide) rfl (takes_of rfl rfl rfl rfl) (pa_cons (pv 1) (pa_cons (pe_ix ix_tup (pv 3) pe_int (fun _ _ => rfl)) pa_nil)))) pss_nil)
        (pss_one (ps_if (pt_cmpR op_eq (pe_ix ix_tup (pv 3) pe_int (fun _ _ => rfl)) pe_str (nomark _)) (pss_cons (ps_expr (pe_mx m_check_row hr (by decide) (passes_call (takes_of rfl rfl rfl rfl) fun _ _ _ _ h => h) (pv 0) (pa_cons (pv 1) (pa_cons (pe_ix ix_tup (pv 3) pe_int (fun _ _ => rfl)) pa_nil))))
        (pss_one (ps_expr (pe_mx m_check_position hr (by decide) (passes_call (takes_of rfl rfl rfl rfl) fun _ _ _ _ h => h) (pe_fld (pv 0) rfl) (pa_cons (pv 1) (pa_cons (pe_dget (hu_of hr) (pe_fld (pv 0) rfl) (pe_ix ix_tup (pv 3) pe_int (fun _ _ => rfl)) (fun _ _ => rfl)) (pa_cons (pe_split (pe_ix ix_tup (pv 3) pe_int (fun _ _ => rfl)) pe_str) pa_nil))))))) pss_nil)))), ?_⟩
    have hlen := Tm.len ok
    have hsp := sp_splitT (x := a.str) (H := H) (by omega)
    rw [Tm.split ok] at hsp
    refine q_asgU (eu_call (ea_cons (ev_var rfl) ea_nil) hsp) fun p H1 hp e1 h1 => ?_
    have dec : ∀ x y : Str, decide (V.str x = V.str y) = decide (x = y) := fun x y => by
      by_cases z : x = y
      · subst z; rw [decide_eq_true rfl, decide_eq_true rfl]
      · rw [decide_eq_false z, decide_eq_false fun g => z (V.str.inj g)]
    cases a with
    | me =>
      have d1 : decide (("me" : Str) = "value") = false := by decide +kernel
      have d2 : decide (("me" : Str) = "row") = false := by decide +kernel
      refine q_when (b := false) (et_is (et_and (b := false) (et_test (ev_op (ev_op (ev_var rfl) ev_c (rv_ixT (st_of h1) (v := .str "me") (atI_nat (j := 0) rfl))) ev_c (rv_eq rfl))) (fun z => by rw [dec, d1] at z; cases z)) (by rw [dec, d1]; rfl)) (fun z => by cases z) fun _ H2 e2 => ?_
      refine s_when (b := false) (et_is (et_test (ev_op (ev_op (ev_var rfl) ev_c (rv_ixT (st_of (e2 _ _ h1)) (v := .str "me") (atI_nat (j := 0) rfl))) ev_c (rv_eq rfl))) (by rw [dec, d2])) (fun z => by cases z) fun _ H3 e3 => q H3 (e1.trans (e2.trans e3))
    | con n =>
      have d1 : decide (("constant" : Str) = "value") = false := by decide +kernel
      have d2 : decide (("constant" : Str) = "row") = false := by decide +kernel
      refine q_when (b := false) (et_is (et_and (b := false) (et_test (ev_op (ev_op (ev_var rfl) ev_c (rv_ixT (st_of h1) (v := .str "constant") (atI_nat (j := 0) rfl))) ev_c (rv_eq rfl))) (fun z => by rw [dec, d1] at z; cases z)) (by rw [dec, d1]; rfl)) (fun z => by cases z) fun _ H2 e2 => ?_
      refine s_when (b := false) (et_is (et_test (ev_op (ev_op (ev_var rfl) ev_c (rv_ixT (st_of (e2 _ _ h1)) (v := .str "constant") (atI_nat (j := 0) rfl))) ev_c (rv_eq rfl))) (by rw [dec, d2])) (fun z => by cases z) fun _ H3 e3 => q H3 (e1.trans (e2.trans e3))
    | val n =>
      have d2 : decide (("value" : Str) = "row") = false := by decide +kernel
      refine q_when (b := !decide (n ∈ st.vals)) (et_is (et_and (et_test (ev_op (ev_op (ev_var rfl) ev_c (rv_ixT (st_of h1) (v := .str "value") (atI_nat (j := 0) rfl))) ev_c (rv_eq rfl))) (fun _ => et_test (ev_op (ev_op (ev_var rfl) ev_c (rv_ixT (st_of h1) (v := .str n) (atI_nat (j := 1) rfl))) (ev_fld (ev_var rfl) (e1 _ _ h.k) T.c_Names T.n_Names_value_names rfl) (rv_niL (sq_of (e1 _ _ h.vn)) rfl (flat_strs _))))) (by rw [decide_eq_true rfl, Bool.true_and, inV_str])) (fun hb H2 e2 => ?_) (fun hb H2 e2 => ?_)
      · have z : termErr tabs st (.val n) = some (.unk n) := if_neg (by simpa using hb)
        rw [z] at q
        exact s_rz2 (ea_cons (ev_var rfl) (ea_cons (ev_op (ev_var rfl) ev_c (rv_ixT (st_of (e2 _ _ h1)) (v := .str n) (atI_nat (j := 1) rfl))) ea_nil)) fun H3 d e3 hd => Rz.go (er := .unk n) q (e1.trans (e2.trans e3)) hd
      · have z : termErr tabs st (.val n) = none := if_pos (by simpa using hb)
        rw [z] at q
        refine s_when (b := false) (et_is (et_test (ev_op (ev_op (ev_var rfl) ev_c (rv_ixT (st_of (e2 _ _ h1)) (v := .str "value") (atI_nat (j := 0) rfl))) ev_c (rv_eq rfl))) (by rw [dec, d2])) (fun z => by cases z) fun _ H3 e3 => q H3 (e1.trans (e2.trans e3))
    | pos x ups c =>
      have d1 : decide (("row" : Str) = "value") = false := by decide +kernel
      refine q_when (b := false) (et_is (et_and (b := false) (et_test (ev_op (ev_op (ev_var rfl) ev_c (rv_ixT (st_of h1) (v := .str "row") (atI_nat (j := 0) rfl))) ev_c (rv_eq rfl))) (fun z => by rw [dec, d1] at z; cases z)) (by rw [dec, d1]; rfl)) (fun z => by cases z) fun _ H2 e2 => ?_
      have e12 := e1.trans e2
      refine s_when (b := true) (et_is (et_test (ev_op (ev_op (ev_var rfl) ev_c (rv_ixT (st_of (e2 _ _ h1)) (v := .str "row") (atI_nat (j := 0) rfl))) ev_c (rv_eq rfl))) (decide_eq_true rfl)) (fun _ H3 e3 => ?_) (fun z => by cases z)
      have e13 := e12.trans e3
      have h3 : ∀ {H' : Hp}, Ex H3 H' → SqT K H' p (Tm.pos x ups c).parts := fun e => st_of ((e2.trans (e3.trans e)) _ _ h1)
      refine q_meth (ev_var rfl) (e13 _ _ h.k) (nam_m _ rfl) (ea_cons (ev_var rfl) (ea_cons (ev_op (ev_var rfl) ev_c (rv_ixT (h3 (Ex.refl _)) (v := .str x) (atI_nat (j := 1) rfl))) ea_nil)) fun H4 e4 => ?_
      have e14 := e13.trans e4
      refine ⟨B, l, x, text, name, tabs, G, st, rfl, h.mono e14, ?_⟩
      cases hr : rowIx st x with
      | none =>
        have z : rowErr st x = some (.unk x) := if_neg (by rw [hr]; decide)
        have z2 : termErr tabs st (.pos x ups c) = some (.unk x) := by show (match rowIx st x with | some i => posErr tabs i ups c | none => some (.unk x)) = _; rw [hr]
        rw [z]
        rw [z2] at q
        exact Rz.mono q e14
      | some i =>
        have z : rowErr st x = none := if_pos (by rw [hr]; rfl)
        have z2 : termErr tabs st (.pos x ups c) = posErr tabs i ups c := by show (match rowIx st x with | some i => posErr tabs i ups c | none => some (.unk x)) = _; rw [hr]
        rw [z]
        rw [z2] at q
        intro H5 e5
        have e15 := e14.trans e5
        obtain ⟨b, hb, hn⟩ := tab_at (h.kn.rowLt hr)
        obtain ⟨dx, tx, cl, pr, ow, fo, hso⟩ := sch_obj ((h.mono e15).sc)
        have h5 : SqT K H5 p (Tm.pos x ups c).parts := h3 (e4.trans e5)
        have hjl : (Txt.join "." (ups ++ [c])).length ≤ 90000 := by
          have g := join_len (sep := ".") (ws := ups ++ [c]) (B := 12) fun w hw => (name_len (Tm.names ok w (.tail _ hw))).2
          have g2 := ok.2.2.1
          have g3 : ("." : Str).length = 1 := rfl
          rw [g3, List.length_append] at g
          simp at g
          omega
        refine s_methNL (xs := (ups ++ [c]).map V.str) (ev_fld (ev_var rfl) (e15 _ _ h.k) T.c_Names T.n_Names_schema rfl) hso (sch_m _ rfl)
          (eal_cons (ev_var rfl) (eal_cons (ev_dget (ev_fld (ev_var rfl) (e15 _ _ h.k) T.c_Names T.n_Names_row_tables rfl) (ev_op (ev_var rfl) ev_c (rv_ixT h5 (v := .str x) (atI_nat (j := 1) rfl))) (e15 _ _ h.rt) (v := .str (nameI tabs i)) (by rw [rowsV_lk, show st.rows.lookup x = some i from hr]; rfl))
            (eal_one (el_is (el_split (ev_op (ev_var rfl) ev_c (rv_ixT h5 (v := .str (Txt.join "." (ups ++ [c]))) (atI_nat (j := 2) rfl))) ev_c rfl hjl) (by rw [Tm.ups_split ok]))))) fun p2 H6 hp2 e6 h6 => ?_
        rw [hn]
        exact ⟨B.sc, p2, l, b, tabs, i, ups, c, rfl, (h.mono (e15.trans e6)).sc, h.wf, hb, sq_of h6, q.mono (e15.trans e6)⟩
theorem ok_add_row (T : Txt K mg) : MetX P w K mg base (L2.CX P w) 4 (NC K) "add_row" ["self", "line", "name", "table"] (spAddRow K) [] := by
  have m_check_new := ok_check_new (P := P) (w := w) (base := base) T
  have m_check_table := ok_check_table (P := P) (w := w) (base := base) T
  obtain ⟨fd, F⟩ := T.f_Names_add_row
  refine ⟨T.c_Names, _, fd, [], F.ok sc_Names_add_row (fun vs H Q E h => ?_) (fun cdv A outer s H vs Q E hr h => ?_), T.m_Names_add_row, F.bindsN fun _ _ _ _ _ _ us hl => match us, hl with | [_, _, _, _], _ => rfl, .nil⟩
  · obtain ⟨A, l, x, t, text, name, tabs, G, st, rfl, _⟩ := h; rfl
  · obtain ⟨B, l, x, t, text, name, tabs, G, st, rfl, hx, h, q⟩ := h
    refine ⟨_, (pss_cons (ps_expr (pe_mx m_check_new hr (by decide) (passes_call (takes_of rfl rfl rfl rfl) fun _ _ _ _ h => h) (pv 0) (pa_cons (pv 1) (pa_cons (pv 2) pa_nil))))
        (pss_cons (ps_expr (pe_mx m_check_table hr (by decide) (passes_call (takes_of rfl rfl rfl rfl) fun _ _ _ _ h => h) (pe_fld (pv 0) rfl) (pa_cons (pv 3) (pa_cons (pv 1) pa_nil))))
        (pss_cons (ps_if (pt_cmpR op_eq (pe_callB call_lenD (by rfl) T.b_len PySem.boot_len (pa_cons (pe_fld (pv 0) rfl) pa_nil)) (pe_gi T.i_MOST_ROWS) (nomark _)) (pss_one (rz_TooMany T hr (by decide) rfl (takes_of rfl rfl rfl rfl) (pa_cons (pv 1) pa_nil))) pss_nil)
        (pss_one (ps_dput (hu_of hr) (pe_fld (pv 0) rfl) (pv 2) (pv 3) rfl))))), ?_⟩
    refine q_meth (ev_var rfl) h.k (nam_m _ rfl) (ea_cons (ev_var rfl) (ea_cons (ev_var rfl) ea_nil)) fun H1 e1 => ⟨B, l, x, text, name, tabs, G, st, rfl, h.mono e1, ?_⟩
    have q0 : RetM K l (firstE [newErr st x, tabErr tabs t, if st.rows.length = 3 then some .many else none]) .non H B (Ha K tabs G B text name (Line.step tabs st (.row x t))) Q E := q
    cases hn : newErr st x with
    | some er =>
      rw [hn] at q0
      exact Rz.mono q0 e1
    | none =>
      rw [hn] at q0
      intro H2 e2
      have e12 := e1.trans e2
      obtain ⟨dx, tx, cl, pr, ow, fo, hso⟩ := sch_obj ((h.mono e12).sc)
      refine q_meth (ev_fld (ev_var rfl) (e12 _ _ h.k) T.c_Names T.n_Names_schema rfl) hso (sch_m _ rfl) (ea_cons (ev_var rfl) (ea_cons (ev_var rfl) ea_nil)) fun H3 e3 => ⟨B.sc, t, l, tabs, tabs.length, rfl, ((h.mono (e12.trans e3)).sc), ?_⟩
      rw [hasT_full]
      have e13 := e12.trans e3
      by_cases ht : (findT tabs t).isSome = true
      · rw [if_pos ht]
        rw [show tabErr tabs t = none from if_pos ht] at q0
        intro H4 e4
        have e14 := e13.trans e4
        have hlenD : Ev (tCB (fun xs H Q => ∃ a kvs, xs = [V.ref a] ∧ H a = some (.dK kvs) ∧ Q (.int kvs.length) H) (tCons (tFld K (tVar 0) "row_tables") tNil)) [some (.ref B.k), some (.int l), some (.str x), some (.str t)] H4 (.int (st.rows.length : Int)) := by
          refine ev_is (ev_cb (ea_cons (ev_fld (ev_var rfl) (e14 _ _ h.k) T.c_Names T.n_Names_row_tables rfl) ea_nil) (fun H5 e5 Q2 q2 => ⟨B.rt, _, rfl, e5 _ _ (e14 _ _ h.rt), q2 H5 (Ex.refl H5)⟩)) ?_
          rw [sd_len]
          unfold rowsV
          rw [List.length_map]
        refine q_when (et_test (ev_op hlenD ev_c (rv_eq rfl))) (fun hb H5 e5 => ?_) (fun hb H5 e5 => ?_)
        · have z : st.rows.length = 3 := by
            have := V.int.inj (of_decide_eq_true hb)
            omega
          rw [if_pos z] at q0
          exact s_rz1 (ea_cons (ev_var rfl) ea_nil) fun H6 d e6 hd => Rz.go (er := .many) q0 (e14.trans (e5.trans e6)) hd
        · have z : st.rows.length ≠ 3 := fun z => of_decide_eq_false hb (by rw [z]; rfl)
          rw [if_neg z] at q0
          have e15 := e14.trans e5
          obtain ⟨h1, h2, h3, h4⟩ := newErr_none hn
          refine s_put (l := rowsV tabs st.rows) (ev_is (ev_var rfl) (show V.str t = V.str (nameI tabs (ixT tabs t)) by rw [name_ix ht])) (ev_fld (ev_var rfl) (e15 _ _ h.k) T.c_Names T.n_Names_row_tables rfl) (ev_var rfl) (e15 _ _ h.rt) (by unfold rowsV; rw [List.length_map]; have := h.kn.rl; omega) (putK_sd (by rw [rowsV_lk, h2]; rfl)) fun H6 e6 => ?_
          exact q0 _ (Nm.upd Ad.m_rt (e15.trans e6)) (h.setRt (e15.trans e6) (h.kn.addRow hx (find_lt ht) hn z))
      · rw [if_neg ht]
        rw [show tabErr tabs t = some (.unk t) from if_neg ht] at q0
        exact Rz.mono q0 e13
theorem ok_add_value (T : Txt K mg) : MetX P w K mg base (L2.CX P w) 4 (NC K) "add_value" ["self", "line", "name"] (spAddVal K) [] := by
  have m_check_new := ok_check_new (P := P) (w := w) (base := base) T
  obtain ⟨fd, F⟩ := T.f_Names_add_value
  refine ⟨T.c_Names, _, fd, [], F.ok sc_Names_add_value (fun vs H Q E h => ?_) (fun cdv A outer s H vs Q E hr h => ?_), T.m_Names_add_value, F.bindsN fun _ _ _ _ _ _ us hl => match us, hl with | [_, _, _], _ => rfl, .nil⟩
  · obtain ⟨A, l, u, text, name, tabs, G, st, rfl, _⟩ := h; rfl
  · obtain ⟨B, l, u, text, name, tabs, G, st, rfl, hu, h4, h, q⟩ := h
    refine ⟨_, (pss_cons (ps_expr (pe_mx m_check_new hr (by decide) (passes_call (takes_of rfl rfl rfl rfl) fun _ _ _ _ h => h) (pv 0) (pa_cons (pv 1) (pa_cons (pv 2) pa_nil))))
        (pss_cons (ps_if (pt_cmpR op_eq (pe_callB call_lenL (by rfl) T.b_len PySem.boot_len (pa_cons (pe_fld (pv 0) rfl) pa_nil)) (pe_gi T.i_MOST_VALUES) (nomark _)) (pss_one (rz_TooMany T hr (by decide) rfl (takes_of rfl rfl rfl rfl) (pa_cons (pv 1) pa_nil))) pss_nil)
        (pss_one (ps_expr (pe_bm PySem.F.plainAttrs_list PySem.F.slot_list_append PySem.F.type_list_append mt_append (pe_fld (pv 0) rfl) (pa_cons (pv 2) pa_nil)))))), ?_⟩
    refine q_meth (ev_var rfl) h.k (nam_m _ rfl) (ea_cons (ev_var rfl) (ea_cons (ev_var rfl) ea_nil)) fun H1 e1 => ⟨B, l, u, text, name, tabs, G, st, rfl, h.mono e1, ?_⟩
    have q0 : RetM K l (firstE [newErr st u]) .non H B (Ha K tabs G B text name (Line.step tabs st (.value u))) Q E := q
    cases hn : newErr st u with
    | some er =>
      rw [hn] at q0
      exact Rz.mono q0 e1
    | none =>
      rw [hn] at q0
      intro H2 e2
      have e12 := e1.trans e2
      refine q_when (b := false) (et_is (et_test (ev_op (ev_len (ev_fld (ev_var rfl) (e12 _ _ h.k) T.c_Names T.n_Names_value_names rfl) (sq_of (e12 _ _ h.vn))) ev_c (rv_eq rfl))) ?_) (fun z => by cases z) (fun hb H3 e3 => ?_)
      · rw [List.length_map]
        exact decide_eq_false fun z => by have := V.int.inj z; omega
      · have e13 := e12.trans e3
        refine s_app (e13 _ _ h.vn) (ev_fld (ev_var rfl) (e13 _ _ h.k) T.c_Names T.n_Names_value_names rfl) (ev_var rfl) (by rw [List.length_map]; omega) fun H4 e4 => ?_
        exact q0 _ (Nm.upd Ad.m_vn (e13.trans e4)) (h.setVn (e13.trans e4) (h.kn.addVal hu) (by omega))
end
end K23

set_option Elab.async false
set_option linter.all false
set_option maxRecDepth 100000
set_option maxHeartbeats 4000000
/-! the handler's lines: parameters, needs, move, set, each -/
namespace K23
open PySem PySem.Spec PyProof.Rows L2 Evl
section
variable {K : PySem.W.Frag} {σ : L2.St} {H H' : Hp} {ta tb te tx td ty tv : TE} {t u : TT} {x y z v : V} {D : Ends} {tu tz : TS} {a C dx : Addr} {fs : List (Str × V)} {f m : Str} {sp : Sp} {E : XK}
theorem ev_ix {xs : List V} {i : Nat} (j : Nat) (hs : σ[i]? = some (some (.ref a))) (ho : H a = some (.lst xs)) (hv : xs[j]? = some v) : Ev (tOp (rIxL K) (tVar i) (tC (.int ((j : Nat) : Int)))) σ H v := ev_op (ev_var hs) ev_c (rv_ixL (sq_of ho) (atI_nat hv))
theorem el_sl2 {x0 x1 x2 x3 : V} (h : Ev te σ H (.ref a)) (ho : H a = some (.lst [x0, x1, x2, x3])) : EvL (tSl2 K te) σ H [x1, x3] := fun H1 e Q q => h H1 e _ fun H2 e2 =>
  ⟨a, x0, x1, x2, x3, rfl, sq_of (e2 _ _ (e _ _ ho)), fun p hp => q p _ (fresh_back e2 hp) (e2.trans (Ex.new hp)) upd_same⟩
theorem sp_namesT {p : Addr} {ws : List Str} (h : H p = some (.lst (ws.map V.str))) (hn : ∀ x ∈ ws, isName x = true) (hl : ws.length ≤ 40000) : SpV (spNames K) [.ref p] H (.bl true) := by
  have g := sp_names (K := K) (sq_of h) hl (fun x hx => by have := name_len (hn x hx); omega)
  rw [List.all_eq_true.mpr hn] at g
  exact g
theorem dec_str (x y : Str) : decide (V.str x = V.str y) = decide (x = y) := by
  by_cases z : x = y
  · subst z; rw [decide_eq_true rfl, decide_eq_true rfl]
  · rw [decide_eq_false z, decide_eq_false fun g => z (V.str.inj g)]
theorem sp_termT {a : Tm} (h : a.ok) : SpV spTerm [.str a.str] H (.bl true) := by
  have g := sp_term (H := H) (x := a.str) (by have := Tm.len h; omega) (Tm.dots h)
  rw [Tm.isTerm h] at g
  exact g
theorem s_whenOrM {dvs vs : List V} {ta' : TA} {b c : Bool} (h1 : EvT t σ H b) (h2 : EvT u σ H c) (hbad : (b || c) = true → ∀ H1, Ex H H1 → tu D σ H1) (ha : b = false → c = false → EvA ta' σ H vs)
    (hs : b = false → c = false → ∀ H1, Ex H H1 → sp (vs ++ dvs) H1 (fun v H2 => ∃ k, v = .bl k ∧ if (!k) = true then tu D σ H2 else D.nx σ H2) E) : tIfS (tOr t (tOr u (tNot (tB (tCall sp dvs E ta'))))) tu tNext D σ H := h1 H (Ex.refl H) _ fun H1 e1 => by
  cases b with
  | true => exact hbad rfl H1 e1
  | false =>
    show u σ H1 _
    refine h2 H1 e1 _ fun H2 e2 => ?_
    cases c with
    | true => exact hbad rfl H2 (e1.trans e2)
    | false => exact ha rfl rfl H2 (e1.trans e2) _ fun H3 e3 => hs rfl rfl H3 (e1.trans (e2.trans e3))
end
section
variable {K : PySem.W.Frag} {l : Int} {er : Option Er} {v v' : V} {H H1 : Hp} {A : Ad} {P : Hp → Prop} {Q Q' : VK} {E : XK}
theorem RetM.map (q : RetM K l er v H A P Q E) (e : Ex H H1) (k : (∀ H3, Nm A H1 H3 → P H3 → Q v H3) → ∀ H2, Nm A H1 H2 → P H2 → Q' v' H2) : RetM K l er v' H1 A P Q' E := by
  cases er with
  | none => exact k fun H3 n p => q H3 ((Nm.ex e).trans n) p
  | some er => exact Rz.mono q e
/-- a deed's outcome: a new tuple -/
def RetD (K : PySem.W.Frag) (l : Int) (er : Option Er) (H : Hp) (A : Ad) (P : Hp → Prop) (Q : VK) (E : XK) : Prop := match er with
  | none => ∀ p H2, Nm A H H2 → P H2 → Q (.ref p) H2
  | some e => Rz K l e H E
theorem RetD.mono (q : RetD K l er H A P Q E) (e : Ex H H1) : RetD K l er H1 A P Q E := by
  cases er with
  | none => exact fun p H3 n h => q p H3 ((Nm.ex e).trans n) h
  | some er => exact Rz.mono q e
end
/-! ### promises -/
def Line.isPar : Line → Prop
  | .row _ _ => True
  | .value _ => True
  | _ => False
/-- after the deed's own reading: the new row's name is known, the part is not yet kept -/
def Line.deed (tabs : Tabs) (st : St) : Line → St
  | .new n t _ _ => { st with news := st.news ++ [(n, ixT tabs t)] }
  | _ => st
def spParam (K : PySem.W.Frag) : Sp := fun vs H Q E => ∃ (A : Ad) (wp : Addr) (l : Int) (ln : Line) (text name : Str) (tabs : Tabs) (G : Hp) (st : St), vs = [.ref A.k, .int l, .ref wp] ∧ ln.isPar ∧ ln.ok ∧ H wp = some (.lst (ln.words.map V.str)) ∧ st.vals.length < 4 ∧
  Ha K tabs G A text name st H ∧ RetM K l (firstE (ln.checks tabs st)) (.bl true) H A (Ha K tabs G A text name (ln.step tabs st)) Q E
def spIsTest : Sp := fun vs H Q _ => ∃ (wp : Addr) (a b : Tm), vs = [.ref wp, .str "need"] ∧ a.ok ∧ b.ok ∧ H wp = some (.lst ((Line.need a b).words.map V.str)) ∧ RetV (.bl true) H Q
def spNeed (K : PySem.W.Frag) : Sp := fun vs H Q E => ∃ (A : Ad) (wp : Addr) (l : Int) (a b : Tm) (text name : Str) (tabs : Tabs) (G : Hp) (st : St), vs = [.ref A.k, .ref A.ts, .int l, .ref wp] ∧ a.ok ∧ b.ok ∧ H wp = some (.lst ((Line.need a b).words.map V.str)) ∧ st.nt < 8 ∧
  Ha K tabs G A text name st H ∧ RetM K l (firstE ((Line.need a b).checks tabs st)) .non H A (Ha K tabs G A text name ((Line.need a b).step tabs st)) Q E
def spMove (K : PySem.W.Frag) : Sp := fun vs H Q E => ∃ (A : Ad) (l : Int) (x y text name : Str) (tabs : Tabs) (G : Hp) (st : St), vs = [.ref A.h, .int l, .str x, .str y] ∧ Ha K tabs G A text name st H ∧ RetD K l (firstE ((Line.move x y).checks tabs st)) H A (Ha K tabs G A text name st) Q E
def spSet (K : PySem.W.Frag) : Sp := fun vs H Q E => ∃ (A : Ad) (wp : Addr) (l : Int) (x c : Str) (a : Tm) (text name : Str) (tabs : Tabs) (G : Hp) (st : St), vs = [.ref A.h, .int l, .ref wp] ∧ (Line.set x c a).ok ∧ H wp = some (.lst ((Line.set x c a).words.map V.str)) ∧
  Ha K tabs G A text name st H ∧ RetD K l (firstE ((Line.set x c a).checks tabs st)) H A (Ha K tabs G A text name st) Q E
def spEach (K : PySem.W.Frag) : Sp := fun vs H Q E => ∃ (A : Ad) (wp : Addr) (l : Int) (t x c : Str) (a : Tm) (text name : Str) (tabs : Tabs) (G : Hp) (st : St), vs = [.ref A.h, .int l, .ref wp] ∧ (Line.each t x c a).ok ∧ H wp = some (.lst ((Line.each t x c a).words.map V.str)) ∧
  Ha K tabs G A text name st H ∧ RetD K l (firstE ((Line.each t x c a).checks tabs st)) H A (Ha K tabs G A text name st) Q E
theorem Kn.anyRow {tabs : Tabs} {st : St} (k : Kn tabs st) {x : Str} {i : Nat} (h : rowIx st x = some i) : anyIx st x = some i := by
  unfold anyIx
  cases e : st.news.lookup x with
  | some j =>
    have := k.dis x (by rw [e]; rfl)
    unfold rowIx at h
    rw [h] at this
    cases this
  | none => exact h
section
variable {P : Program} {w : World} {K : PySem.W.Frag} {mg : Str → Option Value} {base : Heap}
theorem ok_read_parameter (T : Txt K mg) : CalX P w K mg base (L2.CX P w) 5 "read_parameter" ["names", "line", "words"] (spParam K) := by
  have m_add_row := ok_add_row (P := P) (w := w) (base := base) T
  have m_add_value := ok_add_value (P := P) (w := w) (base := base) T
  have c_all_names := ok_all_names (P := P) (w := w) (base := base) T
  obtain ⟨fd, F⟩ := T.f_read_parameter
  refine ⟨_, fd, F.ok sc_read_parameter (fun vs H Q E h => ?_) (fun cdv A outer s H vs Q E hr h => ?_), T.g_read_parameter, F.kp, F.bindsN fun _ _ _ _ _ _ us hl => match us, hl with | [_, _, _], _ => rfl⟩
  · obtain ⟨A, wp, l, ln, text, name, tabs, G, st, rfl, _⟩ := h; rfl
  · obtain ⟨B, wp, l, ln, text, name, tabs, G, st, rfl, par, ok, hw, hv, h, q⟩ := h
    refine ⟨_, (pss_cons (ps_if (PW.pt (pw_and (pt_cmpR op_eq (pe_callB call_lenL (by rfl) T.b_len PySem.boot_len (pa_cons (pv 2) pa_nil)) pe_int (nomark _)) (pw_and (pt_cmpR op_eq (pe_ix ix_list (pv 2) pe_int (fun _ _ => rfl)) pe_str (nomark _)) (pw_and (pt_cmpR op_eq (pe_ix ix_list (pv 2) pe_int (fun _ _ => rfl)) pe_str (nomark _)) (pw_and1 (pt_val (pe_cx c_all_names hr (by decide) pass0 (pa_cons (pe_sl2 (pv 2)) pa_nil)))))))) (pss_cons (ps_expr (pe_mx m_add_row hr (by decide) (passes_call (takes_of rfl rfl rfl rfl) fun _ _ _ _ h => h) (pv 0) (pa_cons (pv 1) (pa_cons (pe_ix ix_list (pv 2) pe_int (fun _ _ => rfl)) (pa_cons (pe_ix ix_list (pv 2) pe_int (fun _ _ => rfl)) pa_nil)))))
        (pss_one (ps_ret pe_bl))) pss_nil)
        (pss_cons (ps_if (PW.pt (pw_and (pt_cmpR op_eq (pe_callB call_lenL (by rfl) T.b_len PySem.boot_len (pa_cons (pv 2) pa_nil)) pe_int (nomark _)) (pw_and (pt_cmpR op_eq (pe_ix ix_list (pv 2) pe_int (fun _ _ => rfl)) pe_str (nomark _)) (pw_and1 (pt_val (pe_cx c_all_names hr (by decide) pass0 (pa_cons (pe_slice sl_list (pv 2) (po_some pe_int) po_none) pa_nil))))))) (pss_cons (ps_expr (pe_mx m_add_value hr (by decide) (passes_call (takes_of rfl rfl rfl rfl) fun _ _ _ _ h => h) (pv 0) (pa_cons (pv 1) (pa_cons (pe_ix ix_list (pv 2) pe_int (fun _ _ => rfl)) pa_nil))))
        (pss_one (ps_ret pe_bl))) pss_nil)
        (pss_one (ps_ret pe_bl)))), ?_⟩
    cases ln with
    | row x t =>
      have hw' : H wp = some (.lst [.str "row", .str x, .str "in", .str t]) := hw
      refine q_when (b := true) (et_is (et_and (et_test (ev_op (ev_len (ev_var rfl) (sq_of hw')) ev_c (rv_eq rfl))) fun _ => et_and (et_test (ev_op (ev_ix 0 rfl hw' rfl) ev_c (rv_eq rfl))) fun _ => et_and (et_test (ev_op (ev_ix 2 rfl hw' rfl) ev_c (rv_eq rfl))) fun _ =>
        et_B (ev_call1 (el_sl2 (ev_var rfl) hw') fun p H2 h2 _ => sp_namesT (ws := [x, t]) h2 (by simp [ok.1.1, ok.2.1]) (by simp))) (by simp)) (fun _ H1 e1 => ?_) (fun z => by cases z)
      refine q_meth (ev_var rfl) (e1 _ _ h.k) (nam_m _ rfl) (ea_cons (ev_var rfl) (ea_cons (ev_ix 1 rfl (e1 _ _ hw') rfl) (ea_cons (ev_ix 3 rfl (e1 _ _ hw') rfl) ea_nil))) fun H2 e2 => ?_
      have e12 := e1.trans e2
      refine ⟨B, l, x, t, text, name, tabs, G, st, rfl, ok.1, h.mono e12, RetM.map q e12 fun k H3 n3 h3 => ?_⟩
      exact s_ret ev_c fun H4 e4 => k H4 (n3.trans (Nm.ex e4)) (h3.mono e4)
    | value u =>
      have hw' : H wp = some (.lst [.str "value", .str u]) := hw
      refine q_when (b := false) (et_is (et_and (b := false) (et_test (ev_op (ev_len (ev_var rfl) (sq_of hw')) ev_c (rv_eq rfl))) fun z => by simp at z) (by rw [Bool.and_false])) (fun z => by cases z) (fun _ H1 e1 => ?_)
      have hw1 := e1 _ _ hw'
      refine q_when (b := true) (et_is (et_and (et_test (ev_op (ev_len (ev_var rfl) (sq_of hw1)) ev_c (rv_eq rfl))) fun _ => et_and (et_test (ev_op (ev_ix 0 rfl hw1 rfl) ev_c (rv_eq rfl))) fun _ =>
        et_B (ev_call1 (el_is (el_sl (ev_var rfl) (eo_some ev_c) eo_none (sq_of hw1)) (cutV_from [V.str "value", V.str u] 1 (by simp))) fun p H2 h2 _ => sp_namesT (ws := [u]) h2 (by simpa using (show isName u = true from ok.1)) (by simp))) (by simp)) (fun _ H2 e2 => ?_) (fun z => by cases z)
      have e12 := e1.trans e2
      refine q_meth (ev_var rfl) (e12 _ _ h.k) (nam_m _ rfl) (ea_cons (ev_var rfl) (ea_cons (ev_ix 1 rfl (e12 _ _ hw') rfl) ea_nil)) fun H3 e3 => ?_
      have e13 := e12.trans e3
      refine ⟨B, l, u, text, name, tabs, G, st, rfl, ok, hv, h.mono e13, RetM.map q e13 fun k H3 n3 h3 => ?_⟩
      exact s_ret ev_c fun H4 e4 => k H4 (n3.trans (Nm.ex e4)) (h3.mono e4)
    | _ => exact par.elim
theorem ok_is_test (T : Txt K mg) : CalX P w K mg base CX0 5 "is_test" ["words", "word"] spIsTest := by
  have c_is_term := ok_is_term (P := P) (w := w) (base := base) T
  obtain ⟨fd, F⟩ := T.f_is_test
  refine ⟨_, fd, F.ok sc_is_test (fun vs H Q E h => ?_) (fun cdv A outer s H vs Q E hr h => ?_), T.g_is_test, F.kp, F.bindsN fun _ _ _ _ _ _ us hl => match us, hl with | [_, _], _ => rfl⟩
  · obtain ⟨wp, a, b, rfl, _⟩ := h; rfl
  · obtain ⟨wp, a, b, rfl, oa, ob, hw, q⟩ := h
    refine ⟨_, (PSs.nox (pss_cons (ps_if (PW.pt (pw_or (pt_cmpR op_ne (pe_callB call_lenL (by rfl) T.b_len PySem.boot_len (pa_cons (pv 0) pa_nil)) pe_int (nomark _)) (pw_or (pt_cmpR op_ne (pe_ix ix_list (pv 0) pe_int (fun _ _ => rfl)) (pv 1) (nomark _)) (pw_or1 (pt_cmpR op_ne (pe_ix ix_list (pv 0) pe_int (fun _ _ => rfl)) pe_str (nomark _)))))) (pss_one (ps_ret pe_bl)) pss_nil)
        (pss_one (ps_ret (pe_and (pe_cx c_is_term hr (by decide) pass0 (pa_cons (pe_ix ix_list (pv 0) pe_int (fun _ _ => rfl)) pa_nil)) (pe_one (pe_cx c_is_term hr (by decide) pass0 (pa_cons (pe_ix ix_list (pv 0) pe_int (fun _ _ => rfl)) pa_nil)))))))), ?_⟩
    have hw' : H wp = some (.lst [.str "need", .str a.str, .str "=", .str b.str]) := hw
    refine q_when (b := false) (et_is (et_or (et_test (ev_op (ev_len (ev_var rfl) (sq_of hw')) ev_c (rv_ne rfl))) fun _ => et_or (et_test (ev_op (ev_ix 0 rfl hw' rfl) (ev_var rfl) (rv_ne rfl))) fun _ => et_test (ev_op (ev_ix 2 rfl hw' rfl) ev_c (rv_ne rfl))) (by simp)) (fun z => by cases z) (fun _ H1 e1 => ?_)
    exact s_ret (ev_andV (ev_call (ea_cons (ev_ix 1 rfl (e1 _ _ hw') rfl) ea_nil) (sp_termT oa)) fun _ => ev_call (ea_cons (ev_ix 3 rfl (e1 _ _ hw') rfl) ea_nil) (sp_termT ob)) fun H2 e2 => q H2 (e1.trans e2)
theorem ok_read_test (T : Txt K mg) : CalX P w K mg base (L2.CX P w) 5 "read_test" ["names", "tests", "line", "words"] (spNeed K) := by
  have m_check_term := ok_check_term (P := P) (w := w) (base := base) T
  obtain ⟨fd, F⟩ := T.f_read_test
  refine ⟨_, fd, F.ok sc_read_test (fun vs H Q E h => ?_) (fun cdv A outer s H vs Q E hr h => ?_), T.g_read_test, F.kp, F.bindsN fun _ _ _ _ _ _ us hl => match us, hl with | [_, _, _, _], _ => rfl⟩
  · obtain ⟨A, wp, l, a, b, text, name, tabs, G, st, rfl, _⟩ := h; rfl
  · obtain ⟨B, wp, l, a, b, text, name, tabs, G, st, rfl, oa, ob, hw, hn, h, q⟩ := h
    refine ⟨_, (pss_cons (ps_expr (pe_mx m_check_term hr (by decide) (passes_call (takes_of rfl rfl rfl rfl) fun _ _ _ _ h => h) (pv 0) (pa_cons (pv 2) (pa_cons (pe_ix ix_list (pv 3) pe_int (fun _ _ => rfl)) pa_nil))))
        (pss_cons (ps_expr (pe_mx m_check_term hr (by decide) (passes_call (takes_of rfl rfl rfl rfl) fun _ _ _ _ h => h) (pv 0) (pa_cons (pv 2) (pa_cons (pe_ix ix_list (pv 3) pe_int (fun _ _ => rfl)) pa_nil))))
        (pss_cons (ps_if (pt_cmpR op_eq (pe_callB call_lenL (by rfl) T.b_len PySem.boot_len (pa_cons (pv 1) pa_nil)) (pe_gi T.i_MOST_TESTS) (nomark _)) (pss_one (rz_TooMany T hr (by decide) rfl (takes_of rfl rfl rfl rfl) (pa_cons (pv 2) pa_nil))) pss_nil)
        (pss_one (ps_expr (pe_bm PySem.F.plainAttrs_list PySem.F.slot_list_append PySem.F.type_list_append mt_append (pv 1) (pa_cons (pe_tup (pa_cons (pe_ix ix_list (pv 3) pe_int (fun _ _ => rfl)) (pa_cons (pe_ix ix_list (pv 3) pe_int (fun _ _ => rfl)) pa_nil))) pa_nil))))))), ?_⟩
    have hw' : H wp = some (.lst [.str "need", .str a.str, .str "=", .str b.str]) := hw
    have q0 : RetM K l (firstE [termErr tabs st a, termErr tabs st b]) .non H B (Ha K tabs G B text name ((Line.need a b).step tabs st)) Q E := q
    refine q_meth (ev_var rfl) h.k (nam_m _ rfl) (ea_cons (ev_var rfl) (ea_cons (ev_ix 1 rfl hw' rfl) ea_nil)) fun H1 e1 => ⟨B, l, a, text, name, tabs, G, st, rfl, oa, h.mono e1, ?_⟩
    cases ha : termErr tabs st a with
    | some er => rw [ha] at q0; exact Rz.mono q0 e1
    | none =>
      rw [ha] at q0
      intro H2 e2
      have e12 := e1.trans e2
      refine q_meth (ev_var rfl) (e12 _ _ h.k) (nam_m _ rfl) (ea_cons (ev_var rfl) (ea_cons (ev_ix 3 rfl (e12 _ _ hw') rfl) ea_nil)) fun H3 e3 => ⟨B, l, b, text, name, tabs, G, st, rfl, ob, h.mono (e12.trans e3), ?_⟩
      have e13 := e12.trans e3
      cases hb : termErr tabs st b with
      | some er => rw [hb] at q0; exact Rz.mono q0 e13
      | none =>
        rw [hb] at q0
        intro H4 e4
        have e14 := e13.trans e4
        obtain ⟨xs, hx, hxl⟩ := (h.mono e14).ts
        refine q_when (b := false) (et_is (et_test (ev_op (ev_len (ev_var rfl) (sq_of hx)) ev_c (rv_eq rfl))) ?_) (fun z => by cases z) fun _ H5 e5 => ?_
        · exact decide_eq_false fun z => by have := V.int.inj z; omega
        · have e15 := e14.trans e5
          refine s_appU (e5 _ _ hx) (ev_var rfl) (eu_tup (ea_cons (ev_ix 1 rfl (e15 _ _ hw') rfl) (ea_cons (ev_ix 3 rfl (e15 _ _ hw') rfl) ea_nil)) (Nat.le_of_ble_eq_true rfl)) (by have := h.sm.1; omega) fun p H6 hp e6 h6 => ?_
          exact q0 _ (Nm.upd Ad.m_ts (e15.trans e6)) (h.setTs (e15.trans e6) (e6 _ _ (e5 _ _ hx)) (by omega))
theorem ok_read_move (T : Txt K mg) : CalX P w K mg base (L2.CX P w) 5 "read_move" ["handler", "line", "name", "target"] (spMove K) := by
  have m_check_row := ok_check_row (P := P) (w := w) (base := base) T
  have m_check_any_row := ok_check_any_row (P := P) (w := w) (base := base) T
  have m_table_of := ok_table_of (P := P) (w := w) (base := base) T
  have m_parent_of := ok_parent_of (P := P) (w := w) (base := base) T
  obtain ⟨fd, F⟩ := T.f_read_move
  refine ⟨_, fd, F.ok sc_read_move (fun vs H Q E h => ?_) (fun cdv A outer s H vs Q E hr h => ?_), T.g_read_move, F.kp, F.bindsN fun _ _ _ _ _ _ us hl => match us, hl with | [_, _, _, _], _ => rfl⟩
  · obtain ⟨A, l, x, y, text, name, tabs, G, st, rfl, _⟩ := h; rfl
  · obtain ⟨B, l, x, y, text, name, tabs, G, st, rfl, h, q⟩ := h
    refine ⟨_, (pss_cons (ps_set (i := 4) sc_read_move.nd rfl (by first | exact Or.inl rfl | exact Or.inr rfl) (pe_fld (pv 0) rfl))
        (pss_cons (ps_expr (pe_mx m_check_row hr (by decide) (passes_call (takes_of rfl rfl rfl rfl) fun _ _ _ _ h => h) (pv 4) (pa_cons (pv 1) (pa_cons (pv 2) pa_nil))))
        (pss_cons (ps_expr (pe_mx m_check_any_row hr (by decide) (passes_call (takes_of rfl rfl rfl rfl) fun _ _ _ _ h => h) (pv 4) (pa_cons (pv 1) (pa_cons (pv 3) pa_nil))))
        (pss_cons (ps_set (i := 5) sc_read_move.nd rfl (by first | exact Or.inl rfl | exact Or.inr rfl) (pe_mx m_parent_of hr (by decide) pass0 (pe_fld (pv 0) rfl) (pa_cons (pe_mx m_table_of hr (by decide) pass0 (pv 4) (pa_cons (pv 2) pa_nil)) pa_nil)))
        (pss_cons (ps_if (PW.pt (pw_or (pt_cmp (pc_isN (pv 5))) (pw_or1 (pt_cmpR op_ne (pe_mx m_table_of hr (by decide) pass0 (pv 4) (pa_cons (pv 3) pa_nil)) (pv 5) (nomark _))))) (pss_one (rz_WrongTable T hr (by decide) rfl (takes_of rfl rfl rfl rfl) (pa_cons (pv 1) (pa_cons (pv 3) pa_nil)))) pss_nil)
        (pss_one (ps_ret (pe_tup (pa_cons pe_str (pa_cons (pv 2) (pa_cons (pv 3) pa_nil))))))))))), ?_⟩
    have q0 : RetD K l (firstE [rowErr st x, anyErr st y, if ((anyIx st x).bind (parI tabs)) = anyIx st y then none else some (.wtab y)]) H B (Ha K tabs G B text name st) Q E := q
    refine q_asg (ev_fld (ev_var rfl) h.h T.c_Handler T.n_Handler_known rfl) fun H1 e1 => ?_
    refine q_meth (ev_var rfl) (e1 _ _ h.k) (nam_m _ rfl) (ea_cons (ev_var rfl) (ea_cons (ev_var rfl) ea_nil)) fun H2 e2 => ⟨B, l, x, text, name, tabs, G, st, rfl, h.mono (e1.trans e2), ?_⟩
    have e12 := e1.trans e2
    cases hx : rowErr st x with
    | some er => rw [hx] at q0; exact Rz.mono q0 e12
    | none =>
      rw [hx] at q0
      intro H3 e3
      have e13 := e12.trans e3
      refine q_meth (ev_var rfl) (e13 _ _ h.k) (nam_m _ rfl) (ea_cons (ev_var rfl) (ea_cons (ev_var rfl) ea_nil)) fun H4 e4 => ⟨B, l, y, text, name, tabs, G, st, rfl, h.mono (e13.trans e4), ?_⟩
      have e14 := e13.trans e4
      cases hy : anyErr st y with
      | some er => rw [hy] at q0; exact Rz.mono q0 e14
      | none =>
        rw [hy] at q0
        intro H5 e5
        have e15 := e14.trans e5
        obtain ⟨i, hi⟩ : ∃ i, rowIx st x = some i := by
          cases z : rowIx st x with
          | some i => exact ⟨i, rfl⟩
          | none => unfold rowErr at hx; rw [z] at hx; cases hx
        obtain ⟨k, hk⟩ : ∃ k, anyIx st y = some k := by
          cases z : anyIx st y with
          | some i => exact ⟨i, rfl⟩
          | none => unfold anyErr at hy; rw [z] at hy; cases hy
        have hai := h.kn.anyRow hi
        obtain ⟨b, hb, hnb⟩ := tab_at (h.kn.rowLt hi)
        have hkl := h.kn.anyLt hk
        obtain ⟨dx, tx, cl, pr, ow, fo, hso⟩ := sch_obj ((h.mono e15).sc)
        have tof : ∀ {H' : Hp} {n : Str} {j : Nat}, Ex H H' → anyIx st n = some j → SpV (spTof K) [.ref B.k, .str n] H' (.str (nameI tabs j)) := fun e hj H1 e1 Q2 q2 E2 => ⟨B, _, text, name, tabs, G, st, _, rfl, h.mono (e.trans e1), hj, q2⟩
        refine q_asg (v := parV tabs b.par) (ev_meth (ev_fld (ev_var rfl) (e15 _ _ h.h) T.c_Handler T.n_Handler_schema rfl) hso (sch_m _ rfl) (ea_cons (ev_meth (ev_var rfl) (e15 _ _ h.k) (nam_m _ rfl) (ea_cons (ev_var rfl) ea_nil) (tof e15 hai)) ea_nil)
          (fun H6 e6 Q2 q2 E2 => ⟨B.sc, b, tabs, tabs.length, i, by rw [hnb]; rfl, (h.mono (e15.trans e6)).sc, h.kn.rowLt hi, hb, q2⟩)) fun H6 e6 => ?_
        have e16 := e15.trans e6
        rw [hai, hk, show (some i).bind (parI tabs) = b.par from parI_at hb] at q0
        have ret : ∀ H7, Ex H H7 → b.par = some k → tRet (tTup (tCons (tC (.str "move")) (tCons (tVar 2) (tCons (tVar 3) tNil)))) { nx := fun _ H' => Q .non H', rt := Q, bk := fun _ _ => False, ct := fun _ _ => False } [some (.ref B.h), some (.int l), some (.str x), some (.str y), some (.ref B.k), some (parV tabs b.par)] H7 := fun H7 e7 z => by
          rw [if_pos z] at q0
          exact s_retU (eu_tup (ea_cons ev_c (ea_cons (ev_var rfl) (ea_cons (ev_var rfl) ea_nil))) (Nat.le_of_ble_eq_true rfl)) fun p H8 hp e8 h8 => q0 p H8 (Nm.ex (e7.trans e8)) (h.mono (e7.trans e8))
        have bad : ∀ (D : Ends) H7, Ex H H7 → b.par ≠ some k → tRz2 (He.ga K "WrongTable") (fun cls d _ H => E cls d H) (tCons (tVar 1) (tCons (tVar 3) tNil)) D [some (.ref B.h), some (.int l), some (.str x), some (.str y), some (.ref B.k), some (parV tabs b.par)] H7 := fun D H7 e7 z => by
          rw [if_neg z] at q0
          exact s_rz2 (ea_cons (ev_var rfl) (ea_cons (ev_var rfl) ea_nil)) fun H8 d e8 hd => Rz.go (er := .wtab y) q0 (e7.trans e8) hd
        cases hp : b.par with
        | none =>
          rw [hp] at ret bad
          exact q_when (b := true) (et_or (a := true) (b := true) (et_isN (x := .non) (ev_var rfl)) (fun z => by cases z)) (fun _ H7 e7 => bad _ H7 (e16.trans e7) (fun z => by cases z)) (fun z => by cases z)
        | some j =>
          rw [hp] at ret bad
          have hj := par_at h.wf hb hp
          refine q_when (et_or (et_isN (x := .str (nameI tabs j)) (ev_var rfl)) fun _ => et_test (ev_op (ev_meth (ev_var rfl) (e16 _ _ h.k) (nam_m _ rfl) (ea_cons (ev_var rfl) ea_nil) (tof e16 hk)) (ev_var rfl) (rv_ne rfl))) (fun hz H7 e7 => ?_) (fun hz H7 e7 => ?_)
          · refine bad _ H7 (e16.trans e7) fun z => ?_
            cases z
            rw [show (decide (V.str (nameI tabs k) = V.non)) = false from rfl, Bool.false_or, Bool.not_eq_true', decide_eq_false_iff_not] at hz
            exact hz rfl
          · rw [show (decide (V.str (nameI tabs j) = V.non)) = false from rfl, Bool.false_or, Bool.not_eq_false', decide_eq_true_eq] at hz
            refine ret H7 (e16.trans e7) ?_
            rw [name_inj h.wf.nod hkl (by omega) (V.str.inj hz)]
theorem ok_read_set (T : Txt K mg) : CalX P w K mg base (L2.CX P w) 5 "read_set" ["handler", "line", "words"] (spSet K) := by
  have m_check_row := ok_check_row (P := P) (w := w) (base := base) T
  have m_check_term := ok_check_term (P := P) (w := w) (base := base) T
  have m_table_of := ok_table_of (P := P) (w := w) (base := base) T
  have m_columns := ok_columns (P := P) (w := w) (base := base) T
  have c_is_path := ok_is_path (P := P) (w := w) (base := base) T
  obtain ⟨fd, F⟩ := T.f_read_set
  refine ⟨_, fd, F.ok sc_read_set (fun vs H Q E h => ?_) (fun cdv A outer s H vs Q E hr h => ?_), T.g_read_set, F.kp, F.bindsN fun _ _ _ _ _ _ us hl => match us, hl with | [_, _, _], _ => rfl⟩
  · obtain ⟨A, wp, l, x, c, a, text, name, tabs, G, st, rfl, _⟩ := h; rfl
  · obtain ⟨B, wp, l, x, c, a, text, name, tabs, G, st, rfl, ok, hw, h, q⟩ := h
    refine ⟨_, (pss_cons (ps_set (i := 3) sc_read_set.nd rfl (by first | exact Or.inl rfl | exact Or.inr rfl) (pe_split (pe_ix ix_list (pv 2) pe_int (fun _ _ => rfl)) pe_str))
        (pss_cons (ps_if (PW.pt (pw_or (pt_cmpR op_ne (pe_callB call_lenL (by rfl) T.b_len PySem.boot_len (pa_cons (pv 3) pa_nil)) pe_int (nomark _)) (pw_or1 (pt_not (pt_val (pe_cx c_is_path hr (by decide) pass0 (pa_cons (pe_ix ix_list (pv 2) pe_int (fun _ _ => rfl)) (pa_cons pe_int pa_nil)))))))) (pss_one (rz_BadLine T hr (by decide) rfl (takes_of rfl rfl rfl rfl) (pa_cons (pv 1) pa_nil))) pss_nil)
        (pss_cons (ps_set (i := 4) sc_read_set.nd rfl (by first | exact Or.inl rfl | exact Or.inr rfl) (pe_fld (pv 0) rfl))
        (pss_cons (ps_expr (pe_mx m_check_row hr (by decide) (passes_call (takes_of rfl rfl rfl rfl) fun _ _ _ _ h => h) (pv 4) (pa_cons (pv 1) (pa_cons (pe_ix ix_list (pv 3) pe_int (fun _ _ => rfl)) pa_nil))))
        (pss_cons (ps_if (pt_cmpR op_notIn_seq (pe_ix ix_list (pv 3) pe_int (fun _ _ => rfl)) (pe_mx m_columns hr (by decide) pass0 (pe_fld (pv 0) rfl) (pa_cons (pe_mx m_table_of hr (by decide) pass0 (pv 4) (pa_cons (pe_ix ix_list (pv 3) pe_int (fun _ _ => rfl)) pa_nil)) pa_nil)) rfl) (pss_one (rz_UnknownName T hr (by decide) rfl (takes_of rfl rfl rfl rfl) (pa_cons (pv 1) (pa_cons (pe_ix ix_list (pv 3) pe_int (fun _ _ => rfl)) pa_nil)))) pss_nil)
        (pss_cons (ps_expr (pe_mx m_check_term hr (by decide) (passes_call (takes_of rfl rfl rfl rfl) fun _ _ _ _ h => h) (pv 4) (pa_cons (pv 1) (pa_cons (pe_ix ix_list (pv 2) pe_int (fun _ _ => rfl)) pa_nil))))
        (pss_one (ps_ret (pe_tup (pa_cons pe_str (pa_cons (pe_ix ix_list (pv 3) pe_int (fun _ _ => rfl)) (pa_cons (pe_ix ix_list (pv 3) pe_int (fun _ _ => rfl)) (pa_cons (pe_ix ix_list (pv 2) pe_int (fun _ _ => rfl)) pa_nil))))))))))))), ?_⟩
    have hw' : H wp = some (.lst [.str "set", .str (Txt.join "." [x, c]), .str "=", .str a.str]) := hw
    have q0 : RetD K l (firstE [rowErr st x, colErr tabs ((anyIx st x).getD 0) c, termErr tabs st a]) H B (Ha K tabs G B text name st) Q E := q
    have nms : ∀ z ∈ [x, c], isName z = true := by simp [ok.1.1, ok.2.1.1]
    have spl := pos_split (x := x) (r := [c]) nms
    have wd := wd_join nms (by simp) (by simp)
    refine q_asgL (xs := [.str x, .str c]) (el_is (el_split (ev_ix 1 rfl hw' rfl) ev_c rfl (by have := wd.2.2.2; omega)) (by rw [spl]; rfl)) fun ns H1 hns e1 hn1 => ?_
    refine q_when (b := false) (et_is (et_or (et_test (ev_op (ev_len (ev_var rfl) (sq_of hn1)) ev_c (rv_ne rfl))) fun _ => et_not (et_B (ev_call (ea_cons (ev_ix 1 rfl (e1 _ _ hw') rfl) (ea_cons ev_c ea_nil)) (sp_path (by have := wd.2.2.2; omega) (pos_dots nms (by simp)))))) (by rw [pos_isPath nms (by simp)]; simp)) (fun z => by cases z) fun _ H2 e2 => ?_
    have e02 := e1.trans e2
    refine q_asg (ev_fld (ev_var rfl) (e02 _ _ h.h) T.c_Handler T.n_Handler_known rfl) fun H3 e3 => ?_
    have e03 := e02.trans e3
    have hn3 := (e2.trans e3) _ _ hn1
    refine q_meth (ev_var rfl) (e03 _ _ h.k) (nam_m _ rfl) (ea_cons (ev_var rfl) (ea_cons (ev_ix 0 rfl hn3 rfl) ea_nil)) fun H4 e4 => ⟨B, l, x, text, name, tabs, G, st, rfl, h.mono (e03.trans e4), ?_⟩
    have e04 := e03.trans e4
    cases hx : rowErr st x with
    | some er => rw [hx] at q0; exact Rz.mono q0 e04
    | none =>
      rw [hx] at q0
      intro H5 e5
      have e05 := e04.trans e5
      have hn5 := (e4.trans e5) _ _ hn3
      obtain ⟨i, hi⟩ : ∃ i, rowIx st x = some i := by
        cases z : rowIx st x with
        | some i => exact ⟨i, rfl⟩
        | none => unfold rowErr at hx; rw [z] at hx; cases hx
      have hai := h.kn.anyRow hi
      rw [hai] at q0
      obtain ⟨b, hb, hnb⟩ := tab_at (h.kn.rowLt hi)
      obtain ⟨dx, tx, cl, pr, ow, fo, hso⟩ := sch_obj ((h.mono e05).sc)
      have tof : SpV (spTof K) [.ref B.k, .str x] H5 (.str (nameI tabs i)) := fun H1 e1 Q2 q2 E2 => ⟨B, _, text, name, tabs, G, st, _, rfl, h.mono (e05.trans e1), hai, q2⟩
      have hcol : colErr tabs ((some i).getD 0) c = if c ∈ b.cols then none else some (.unk c) := by unfold colErr; rw [Option.getD_some, colsI_at hb]
      rw [hcol] at q0
      refine q_when (et_test (ev_opL (ev_ix 1 rfl hn5 rfl) (el_meth (ev_fld (ev_var rfl) (e05 _ _ h.h) T.c_Handler T.n_Handler_schema rfl) hso (sch_m _ rfl) (ea_cons (ev_meth (ev_var rfl) (e05 _ _ h.k) (nam_m _ rfl) (ea_cons (ev_ix 0 rfl hn5 rfl) ea_nil) tof) ea_nil)
        (fun H6 e6 Q2 q2 E2 => ⟨B.sc, b, tabs, tabs.length, i, by rw [hnb]; rfl, (h.mono (e05.trans e6)).sc, h.kn.rowLt hi, hb, fun p H7 hp7 e7 h7 => q2 p H7 hp7 e7 h7⟩)) fun p H6 h6 _ => rv_niL (sq_of h6) rfl (flat_strs _))) (fun hz H6 e6 => ?_) (fun hz H6 e6 => ?_)
      · rw [inV_str, Bool.not_eq_true', decide_eq_false_iff_not] at hz
        rw [if_neg hz] at q0
        exact s_rz2 (ea_cons (ev_var rfl) (ea_cons (ev_ix 1 rfl (e6 _ _ hn5) rfl) ea_nil)) fun H8 d e8 hd => Rz.go (er := .unk c) q0 (e05.trans (e6.trans e8)) hd
      · rw [inV_str, Bool.not_eq_false', decide_eq_true_eq] at hz
        rw [if_pos hz] at q0
        have e06 := e05.trans e6
        refine q_meth (ev_var rfl) (e06 _ _ h.k) (nam_m _ rfl) (ea_cons (ev_var rfl) (ea_cons (ev_ix 3 rfl (e06 _ _ hw') rfl) ea_nil)) fun H7 e7 => ⟨B, l, a, text, name, tabs, G, st, rfl, ok.2.2, h.mono (e06.trans e7), ?_⟩
        have e07 := e06.trans e7
        cases ha : termErr tabs st a with
        | some er => rw [ha] at q0; exact Rz.mono q0 e07
        | none =>
          rw [ha] at q0
          intro H8 e8
          have e08 := e07.trans e8
          have hn8 := (e6.trans (e7.trans e8)) _ _ hn5
          exact s_retU (eu_tup (ea_cons ev_c (ea_cons (ev_ix 0 rfl hn8 rfl) (ea_cons (ev_ix 1 rfl hn8 rfl) (ea_cons (ev_ix 3 rfl (e08 _ _ hw') rfl) ea_nil)))) (Nat.le_of_ble_eq_true rfl)) fun p H9 hp e9 h9 => q0 p H9 (Nm.ex (e08.trans e9)) (h.mono (e08.trans e9))
theorem ok_read_each (T : Txt K mg) : CalX P w K mg base (L2.CX P w) 5 "read_each" ["handler", "line", "words"] (spEach K) := by
  have m_check_table := ok_check_table (P := P) (w := w) (base := base) T
  have m_check_any_row := ok_check_any_row (P := P) (w := w) (base := base) T
  have m_check_term := ok_check_term (P := P) (w := w) (base := base) T
  have m_table_of := ok_table_of (P := P) (w := w) (base := base) T
  have m_columns := ok_columns (P := P) (w := w) (base := base) T
  have m_chain_of := ok_chain_of (P := P) (w := w) (base := base) T
  have c_all_names := ok_all_names (P := P) (w := w) (base := base) T
  obtain ⟨fd, F⟩ := T.f_read_each
  refine ⟨_, fd, F.ok sc_read_each (fun vs H Q E h => ?_) (fun cdv A outer s H vs Q E hr h => ?_), T.g_read_each, F.kp, F.bindsN fun _ _ _ _ _ _ us hl => match us, hl with | [_, _, _], _ => rfl⟩
  · obtain ⟨A, wp, l, t, x, c, a, text, name, tabs, G, st, rfl, _⟩ := h; rfl
  · obtain ⟨B, wp, l, t, x, c, a, text, name, tabs, G, st, rfl, ok, hw, h, q⟩ := h
    refine ⟨_, (pss_cons (ps_if (PW.pt (pw_or (pt_cmpR op_ne (pe_ix ix_list (pv 2) pe_int (fun _ _ => rfl)) pe_str (nomark _)) (pw_or (pt_cmpR op_ne (pe_ix ix_list (pv 2) pe_int (fun _ _ => rfl)) pe_str (nomark _)) (pw_or1 (pt_cmpR op_ne (pe_ix ix_list (pv 2) pe_int (fun _ _ => rfl)) pe_str (nomark _)))))) (pss_one (rz_BadLine T hr (by decide) rfl (takes_of rfl rfl rfl rfl) (pa_cons (pv 1) pa_nil))) pss_nil)
        (pss_cons (ps_if (pt_not (pt_val (pe_cx c_all_names hr (by decide) pass0 (pa_cons (pe_lst (pa_cons (pe_ix ix_list (pv 2) pe_int (fun _ _ => rfl)) (pa_cons (pe_ix ix_list (pv 2) pe_int (fun _ _ => rfl)) (pa_cons (pe_ix ix_list (pv 2) pe_int (fun _ _ => rfl)) pa_nil)))) pa_nil)))) (pss_one (rz_BadLine T hr (by decide) rfl (takes_of rfl rfl rfl rfl) (pa_cons (pv 1) pa_nil))) pss_nil)
        (pss_cons (ps_set (i := 3) sc_read_each.nd rfl (by first | exact Or.inl rfl | exact Or.inr rfl) (pe_fld (pv 0) rfl))
        (pss_cons (ps_expr (pe_mx m_check_table hr (by decide) (passes_call (takes_of rfl rfl rfl rfl) fun _ _ _ _ h => h) (pe_fld (pv 0) rfl) (pa_cons (pe_ix ix_list (pv 2) pe_int (fun _ _ => rfl)) (pa_cons (pv 1) pa_nil))))
        (pss_cons (ps_expr (pe_mx m_check_any_row hr (by decide) (passes_call (takes_of rfl rfl rfl rfl) fun _ _ _ _ h => h) (pv 3) (pa_cons (pv 1) (pa_cons (pe_ix ix_list (pv 2) pe_int (fun _ _ => rfl)) pa_nil))))
        (pss_cons (ps_if (pt_cmpR op_notIn_seq (pe_ix ix_list (pv 2) pe_int (fun _ _ => rfl)) (pe_mx m_columns hr (by decide) pass0 (pe_fld (pv 0) rfl) (pa_cons (pe_ix ix_list (pv 2) pe_int (fun _ _ => rfl)) pa_nil)) rfl) (pss_one (rz_UnknownName T hr (by decide) rfl (takes_of rfl rfl rfl rfl) (pa_cons (pv 1) (pa_cons (pe_ix ix_list (pv 2) pe_int (fun _ _ => rfl)) pa_nil)))) pss_nil)
        (pss_cons (ps_expr (pe_mx m_check_term hr (by decide) (passes_call (takes_of rfl rfl rfl rfl) fun _ _ _ _ h => h) (pv 3) (pa_cons (pv 1) (pa_cons (pe_ix ix_list (pv 2) pe_int (fun _ _ => rfl)) pa_nil))))
        (pss_cons (ps_if (pt_cmpR op_notIn_seq (pe_mx m_table_of hr (by decide) pass0 (pv 3) (pa_cons (pe_ix ix_list (pv 2) pe_int (fun _ _ => rfl)) pa_nil)) (pe_slice sl_list (pe_mx m_chain_of hr (by decide) pass0 (pe_fld (pv 0) rfl) (pa_cons (pe_ix ix_list (pv 2) pe_int (fun _ _ => rfl)) pa_nil)) (po_some pe_int) po_none) rfl) (pss_one (rz_WrongTable T hr (by decide) rfl (takes_of rfl rfl rfl rfl) (pa_cons (pv 1) (pa_cons (pe_ix ix_list (pv 2) pe_int (fun _ _ => rfl)) pa_nil)))) pss_nil)
        (pss_one (ps_ret (pe_tup (pa_cons pe_str (pa_cons (pe_ix ix_list (pv 2) pe_int (fun _ _ => rfl)) (pa_cons (pe_ix ix_list (pv 2) pe_int (fun _ _ => rfl)) (pa_cons (pe_ix ix_list (pv 2) pe_int (fun _ _ => rfl)) (pa_cons (pe_ix ix_list (pv 2) pe_int (fun _ _ => rfl)) pa_nil)))))))))))))))), ?_⟩
    have hw' : H wp = some (.lst [.str "each", .str t, .str "below", .str x, .str "sets", .str c, .str "=", .str a.str]) := hw
    have q0 : RetD K l (firstE [tabErr tabs t, anyErr st x, colErr tabs (ixT tabs t) c, termErr tabs st a, if (anyIx st x).getD 0 ∈ (chainI tabs (ixT tabs t)).drop 1 then none else some (.wtab t)]) H B (Ha K tabs G B text name st) Q E := q
    refine q_when (b := false) (et_is (et_or (et_test (ev_op (ev_ix 2 rfl hw' rfl) ev_c (rv_ne rfl))) fun _ => et_or (et_test (ev_op (ev_ix 4 rfl hw' rfl) ev_c (rv_ne rfl))) fun _ => et_test (ev_op (ev_ix 6 rfl hw' rfl) ev_c (rv_ne rfl))) (by simp)) (fun z => by cases z) fun _ H1 e1 => ?_
    have hw1 := e1 _ _ hw'
    refine q_when (b := false) (et_is (et_not (et_B (ev_call1 (el_lst (ea_cons (ev_ix 1 rfl hw1 rfl) (ea_cons (ev_ix 3 rfl hw1 rfl) (ea_cons (ev_ix 5 rfl hw1 rfl) ea_nil))) (Nat.le_of_ble_eq_true rfl)) fun p H2 h2 _ => sp_namesT (ws := [t, x, c]) h2 (by simp [ok.1.1, ok.2.1.1, ok.2.2.1.1]) (by simp)))) rfl) (fun z => by cases z) fun _ H2 e2 => ?_
    have e02 := e1.trans e2
    refine q_asg (ev_fld (ev_var rfl) (e02 _ _ h.h) T.c_Handler T.n_Handler_known rfl) fun H3 e3 => ?_
    have e03 := e02.trans e3
    obtain ⟨dx, tx, cl, pr, ow, fo, hso⟩ := sch_obj h.sc
    refine q_meth (ev_fld (ev_var rfl) (e03 _ _ h.h) T.c_Handler T.n_Handler_schema rfl) (e03 _ _ hso) (sch_m _ rfl) (ea_cons (ev_ix 1 rfl (e03 _ _ hw') rfl) (ea_cons (ev_var rfl) ea_nil)) fun H4 e4 => ⟨B.sc, t, l, tabs, tabs.length, rfl, (h.mono (e03.trans e4)).sc, ?_⟩
    rw [hasT_full]
    have e04 := e03.trans e4
    by_cases ht : (findT tabs t).isSome = true
    case neg =>
      rw [if_neg ht]
      rw [show tabErr tabs t = some (.unk t) from if_neg ht] at q0
      exact Rz.mono q0 e04
    rw [if_pos ht]
    rw [show tabErr tabs t = none from if_pos ht] at q0
    intro H5 e5
    have e05 := e04.trans e5
    refine q_meth (ev_var rfl) (e05 _ _ h.k) (nam_m _ rfl) (ea_cons (ev_var rfl) (ea_cons (ev_ix 3 rfl (e05 _ _ hw') rfl) ea_nil)) fun H6 e6 => ⟨B, l, x, text, name, tabs, G, st, rfl, h.mono (e05.trans e6), ?_⟩
    have e06 := e05.trans e6
    cases hx : anyErr st x with
    | some er => rw [hx] at q0; exact Rz.mono q0 e06
    | none =>
      rw [hx] at q0
      intro H7 e7
      have e07 := e06.trans e7
      have htl := find_lt ht
      obtain ⟨b, hb, hnb⟩ := tab_at htl
      have hbt : b.name = t := by rw [← hnb]; exact name_ix ht
      obtain ⟨k, hk⟩ : ∃ k, anyIx st x = some k := by
        cases z : anyIx st x with
        | some i => exact ⟨i, rfl⟩
        | none => unfold anyErr at hx; rw [z] at hx; cases hx
      have hkl := h.kn.anyLt hk
      have hcol : colErr tabs (ixT tabs t) c = if c ∈ b.cols then none else some (.unk c) := by unfold colErr; rw [colsI_at hb]
      rw [hcol, hk] at q0
      refine q_when (et_test (ev_opL (ev_ix 5 rfl (e07 _ _ hw') rfl) (el_meth (ev_fld (ev_var rfl) (e07 _ _ h.h) T.c_Handler T.n_Handler_schema rfl) (e07 _ _ hso) (sch_m _ rfl) (ea_cons (ev_ix 1 rfl (e07 _ _ hw') rfl) ea_nil)
        (fun H8 e8 Q2 q2 E2 => ⟨B.sc, b, tabs, tabs.length, ixT tabs t, by rw [hbt]; rfl, (h.mono (e07.trans e8)).sc, htl, hb, fun p H7 hp7 e7 h7 => q2 p H7 hp7 e7 h7⟩)) fun p H6 h6 _ => rv_niL (sq_of h6) rfl (flat_strs _))) (fun hz H8 e8 => ?_) (fun hz H8 e8 => ?_)
      · rw [inV_str, Bool.not_eq_true', decide_eq_false_iff_not] at hz
        rw [if_neg hz] at q0
        exact s_rz2 (ea_cons (ev_var rfl) (ea_cons (ev_ix 5 rfl ((e07.trans e8) _ _ hw') rfl) ea_nil)) fun H9 d e9 hd => Rz.go (er := .unk c) q0 (e07.trans (e8.trans e9)) hd
      · rw [inV_str, Bool.not_eq_false', decide_eq_true_eq] at hz
        rw [if_pos hz] at q0
        have e08 := e07.trans e8
        refine q_meth (ev_var rfl) (e08 _ _ h.k) (nam_m _ rfl) (ea_cons (ev_var rfl) (ea_cons (ev_ix 7 rfl (e08 _ _ hw') rfl) ea_nil)) fun H9 e9 => ⟨B, l, a, text, name, tabs, G, st, rfl, ok.2.2.2, h.mono (e08.trans e9), ?_⟩
        have e09 := e08.trans e9
        cases ha : termErr tabs st a with
        | some er => rw [ha] at q0; exact Rz.mono q0 e09
        | none =>
          rw [ha] at q0
          intro H10 e10
          have e010 := e09.trans e10
          have tof : SpV (spTof K) [.ref B.k, .str x] H10 (.str (nameI tabs k)) := fun H1 e1 Q2 q2 E2 => ⟨B, _, text, name, tabs, G, st, _, rfl, h.mono (e010.trans e1), hk, q2⟩
          have hch : ∀ {σ : L2.St} {tx : TE} (hE : EvL tx σ H10 ((chainI tabs (ixT tabs t)).map fun j => V.str (nameI tabs j))), EvL (tSl (rSlL K) tx (tPart (tC (.int 1))) tNoPart) σ H10 (((chainI tabs (ixT tabs t)).drop 1).map fun j => V.str (nameI tabs j)) := fun hE H1 e1 Q2 q2 => hE H1 e1 _ fun p H2 hp e2 h2 =>
            ⟨1, rfl, p, _, rfl, sq_of h2, fun p2 hp2 => by
              rw [show (cutV ((chainI tabs (ixT tabs t)).map fun j => V.str (nameI tabs j)) (some 1) none) = ((chainI tabs (ixT tabs t)).drop 1).map fun j => V.str (nameI tabs j) by
                rw [List.map_drop]; exact cutV_from _ 1 (by rw [List.length_map, chainI_eq h.wf]; simp)]
              exact q2 p2 _ (fresh_back e2 hp2) (e2.trans (Ex.new hp2)) upd_same⟩
          have hin : inV (.str (nameI tabs k)) (((chainI tabs (ixT tabs t)).drop 1).map fun j => V.str (nameI tabs j)) = decide (k ∈ (chainI tabs (ixT tabs t)).drop 1) := by
            rw [show (((chainI tabs (ixT tabs t)).drop 1).map fun j => V.str (nameI tabs j)) = (((chainI tabs (ixT tabs t)).drop 1).map (nameI tabs)).map V.str by rw [List.map_map]; rfl, inV_str]
            by_cases hm : k ∈ (chainI tabs (ixT tabs t)).drop 1
            · rw [decide_eq_true hm, decide_eq_true (List.mem_map.mpr ⟨k, hm, rfl⟩)]
            · rw [decide_eq_false hm, decide_eq_false fun z => ?_]
              obtain ⟨j, hj, he⟩ := List.mem_map.mp z
              have := chainI_lt h.wf _ htl j (List.mem_of_mem_drop hj)
              rw [name_inj h.wf.nod hkl (by omega) he.symm] at hm
              exact hm hj
          refine q_when (b := !decide (k ∈ (chainI tabs (ixT tabs t)).drop 1)) (et_is (et_test (ev_opL (ev_meth (ev_var rfl) (e010 _ _ h.k) (nam_m _ rfl) (ea_cons (ev_ix 3 rfl (e010 _ _ hw') rfl) ea_nil) tof) (hch (el_meth (ev_fld (ev_var rfl) (e010 _ _ h.h) T.c_Handler T.n_Handler_schema rfl) (e010 _ _ hso) (sch_m _ rfl) (ea_cons (ev_ix 1 rfl (e010 _ _ hw') rfl) ea_nil)
            (fun H8 e8 Q2 q2 E2 => ⟨B.sc, b, tabs, tabs.length, ixT tabs t, by rw [hbt]; rfl, (h.mono (e010.trans e8)).sc, h.wf, htl, hb, fun p H7 hp7 e7 h7 => q2 p H7 hp7 e7 h7⟩))) fun p H6 h6 _ => rv_niL (sq_of h6) rfl (by rw [List.all_map]; exact List.all_eq_true.mpr fun _ _ => rfl))) (by rw [hin])) (fun hz H11 e11 => ?_) (fun hz H11 e11 => ?_)
          · rw [Bool.not_eq_true', decide_eq_false_iff_not] at hz
            rw [Option.getD_some, if_neg hz] at q0
            exact s_rz2 (ea_cons (ev_var rfl) (ea_cons (ev_ix 1 rfl ((e010.trans e11) _ _ hw') rfl) ea_nil)) fun H12 d e12 hd => Rz.go (er := .wtab t) q0 (e010.trans (e11.trans e12)) hd
          · rw [Bool.not_eq_false', decide_eq_true_eq] at hz
            rw [Option.getD_some, if_pos hz] at q0
            have e011 := e010.trans e11
            have hw11 := e011 _ _ hw'
            exact s_retU (eu_tup (ea_cons ev_c (ea_cons (ev_ix 1 rfl hw11 rfl) (ea_cons (ev_ix 3 rfl hw11 rfl) (ea_cons (ev_ix 5 rfl hw11 rfl) (ea_cons (ev_ix 7 rfl hw11 rfl) ea_nil))))) (Nat.le_of_ble_eq_true rfl)) fun p H12 hp e12 h12 => q0 p H12 (Nm.ex (e011.trans e12)) (h.mono (e011.trans e12))
end
end K23

set_option Elab.async false
set_option linter.all false
set_option maxRecDepth 100000
set_option maxHeartbeats 4000000
/-! the handler's lines: new; which line is which -/
namespace K23
open PySem PySem.Spec PyProof.Rows L2 Evl
section
variable {K : PySem.W.Frag} {σ : L2.St} {H H' : Hp} {ta tb te tx td ty tv : TE} {t u : TT} {x y z v : V} {D : Ends} {tu tz : TS} {a C dx : Addr} {fs : List (Str × V)} {f m : Str} {sp : Sp} {E : XK}
/-- arguments: so many, whatever they are -/
def EvX (t : TA) (σ : L2.St) (H : Hp) (n : Nat) : Prop := ∀ H1, Ex H H1 → ∀ Q : List V → Hp → Prop, (∀ vs H2, vs.length = n → Ex H1 H2 → Q vs H2) → t σ H1 Q
theorem ex_nil : EvX tNil σ H 0 := fun H1 _ Q q => q [] H1 rfl (Ex.refl H1)
theorem ex_cons {tr : TA} {n : Nat} (h : Ev te σ H x) (hr : EvX tr σ H n) : EvX (tCons te tr) σ H (n + 1) := fun H1 e Q q =>
  h H1 e _ fun H2 e2 => hr H2 (e.trans e2) _ fun vs H3 hl e3 => q (x :: vs) H3 (by rw [List.length_cons, hl]) (e2.trans e3)
theorem ex_tup {tr : TA} {n : Nat} {xs : List V} (h : Ev te σ H (.ref a)) (ho : H a = some (.lst xs)) (hr : EvX tr σ H n) :
    EvX (tCons (tCB (fun xs H Q => ∃ p ys, xs = [.ref p] ∧ ((SqL K H p ys ∧ ∀ l, H l = none → Q (.ref l) (upd H l (.tup ys))) ∨ (SqT K H p ys ∧ Q (.ref p) H))) (tCons te tNil)) tr) σ H (n + 1) := fun H1 e Q q =>
  h H1 e _ fun H2 e2 => ⟨a, xs, rfl, .inl ⟨sq_of (e2 _ _ (e _ _ ho)), fun l hl => hr _ ((e.trans e2).trans (Ex.new hl)) _ fun vs H3 hv e3 => q (.ref l :: vs) H3 (by rw [List.length_cons, hv]) ((e2.trans (Ex.new hl)).trans e3)⟩⟩
theorem s_retX {n : Nat} {ta' : TA} (h : EvX ta' σ H n) (hn : n ≤ 100000) (k : ∀ p H1, Ex H H1 → D.rt (.ref p) H1) : tRet (tTup ta') D σ H := h H (Ex.refl H) _ fun vs H1 hv e1 => ⟨sz_of (by omega), fun p hp => k p _ (e1.trans (Ex.new hp))⟩
theorem et_skip {i : Nat} {f g : Str} (hs : σ[i]? = some (some (.str f))) (hne : decide (f = g) = false) : EvT (tAnd (tTest (tOp rEq (tVar i) (tC (.str g)))) u) σ H false :=
  et_is (et_and (b := false) (et_test (ev_op (ev_var hs) ev_c (rv_eq rfl))) fun z => by rw [dec_str, hne] at z; cases z) (by rw [Bool.and_false])
end
def uV : Option Str → V
  | none => .non
  | some x => .str x
def stN : Option Str → Nat
  | none => 5
  | some _ => 7
def spNewL (K : PySem.W.Frag) : Sp := fun vs H Q E => ∃ (A : Ad) (wp : Addr) (l : Int) (n t : Str) (u : Option Str) (ts : List Tm) (text name : Str) (tabs : Tabs) (G : Hp) (st : St), vs = [.ref A.h, .int l, .ref wp] ∧ (Line.new n t u ts).ok ∧ H wp = some (.lst ((Line.new n t u ts).words.map V.str)) ∧
  st.np < 8 ∧ st.news.length ≤ 50 ∧ Ha K tabs G A text name st H ∧ RetD K l (firstE ((Line.new n t u ts).checks tabs st)) H A (Ha K tabs G A text name ((Line.new n t u ts).deed tabs st)) Q E
theorem ea_mono {t : TA} {σ : L2.St} {H H' : Hp} {vs : List V} (h : EvA t σ H vs) (e : Ex H H') : EvA t σ H' vs := EvA.mono e h
theorem firstE_drop {tabs : Tabs} {st : St} {ts : List Tm} {k : Nat} {a : Tm} (h : ts[k]? = some a) : firstE ((ts.drop k).map (termErr tabs st)) = match termErr tabs st a with
    | some e => some e
    | none => firstE ((ts.drop (k + 1)).map (termErr tabs st)) := by
  obtain ⟨h1, h2⟩ := List.getElem?_eq_some_iff.mp h
  rw [List.drop_eq_getElem_cons h1, h2, List.map_cons]
  exact firstE_cons _ _
section
variable {P : Program} {w : World} {K : PySem.W.Frag} {mg : Str → Option Value} {base : Heap}
theorem ok_read_new (T : Txt K mg) : CalX P w K mg base (L2.CX P w) 5 "read_new" ["handler", "line", "words"] (spNewL K) := by
  have m_check_new := ok_check_new (P := P) (w := w) (base := base) T
  have m_check_table := ok_check_table (P := P) (w := w) (base := base) T
  have m_check_any_row := ok_check_any_row (P := P) (w := w) (base := base) T
  have m_check_term := ok_check_term (P := P) (w := w) (base := base) T
  have m_table_of := ok_table_of (P := P) (w := w) (base := base) T
  have m_parent_of := ok_parent_of (P := P) (w := w) (base := base) T
  have m_columns := ok_columns (P := P) (w := w) (base := base) T
  have c_all_names := ok_all_names (P := P) (w := w) (base := base) T
  have c_is_term := ok_is_term (P := P) (w := w) (base := base) T
  obtain ⟨fd, F⟩ := T.f_read_new
  refine ⟨_, fd, F.ok sc_read_new (fun vs H Q E h => ?_) (fun cdv A outer s H vs Q E hr h => ?_), T.g_read_new, F.kp, F.bindsN fun _ _ _ _ _ _ us hl => match us, hl with | [_, _, _], _ => rfl⟩
  · obtain ⟨A, wp, l, n, t, u, ts, text, name, tabs, G, st, rfl, _⟩ := h; rfl
  · obtain ⟨B, wp, l, n, t, u, ts, text, name, tabs, G, st, rfl, ok, hw, hnp, hnw, h, q⟩ := h
    refine ⟨_, (pss_cons (ps_set (i := 3) sc_read_new.nd rfl (by first | exact Or.inl rfl | exact Or.inr rfl) pe_non)
        (pss_cons (ps_set (i := 4) sc_read_new.nd rfl (by first | exact Or.inl rfl | exact Or.inr rfl) pe_int)
        (pss_cut (ps_if (PW.pt (pw_and (pt_cmpR op_eq (pe_ix ix_list (pv 2) pe_int (fun _ _ => rfl)) pe_str (nomark _)) (pw_and1 (pt_cmpR op_gt (pe_callB call_lenL (by rfl) T.b_len PySem.boot_len (pa_cons (pv 2) pa_nil)) pe_int (nomark _))))) (pss_cons (ps_set (i := 3) sc_read_new.nd rfl (by first | exact Or.inl rfl | exact Or.inr rfl) (pe_ix ix_list (pv 2) pe_int (fun _ _ => rfl)))
        (pss_one (ps_set (i := 4) sc_read_new.nd rfl (by first | exact Or.inl rfl | exact Or.inr rfl) pe_int))) pss_nil)
        (pss_cons (ps_set (i := 5) sc_read_new.nd rfl (by first | exact Or.inl rfl | exact Or.inr rfl) (pe_op op_cat (pe_lst (pa_cons (pe_ix ix_list (pv 2) pe_int (fun _ _ => rfl)) (pa_cons (pe_ix ix_list (pv 2) pe_int (fun _ _ => rfl)) pa_nil))) (pe_ifExp (pt_cmp (pc_notN (pv 3))) (pe_lst (pa_cons (pv 3) pa_nil)) (pe_lst pa_nil))))
        (pss_cons (ps_if (PW.pt (pw_or (pt_cmpR op_ne (pe_ix ix_list (pv 2) (pe_op op_sub (pv 4) pe_int) (fun _ _ => rfl)) pe_str (nomark _)) (pw_or1 (pt_not (pt_val (pe_cx c_all_names hr (by decide) pass0 (pa_cons (pv 5) pa_nil))))))) (pss_one (rz_BadLine T hr (by decide) rfl (takes_of rfl rfl rfl rfl) (pa_cons (pv 1) pa_nil))) pss_nil)
        (pss_cons (ps_set (i := 6) sc_read_new.nd rfl (by first | exact Or.inl rfl | exact Or.inr rfl) (pe_slice sl_list (pv 2) (po_some (pv 4)) po_none))
        (pss_cons (ps_if (pt_not (pt_val (pe_callB (cr_all rfl) (by rfl) T.b_all (by decide +kernel) (pa_cons (pe_lc (own := [("term", 8)]) (g := gName 8) (tt := tYes) (by rfl) sc_read_new.nd (pi_list (pv 6)) (blkOk_by (own := [("term", 8)]) (N := ["handler", "line", "words", "under", "start", "names", "terms", "known", "term", "parent"]) (sc := defScope s_read_new) (by decide +kernel)) (fun _ _ _ _ _ => pg_name (i := 8) sc_read_new.nd rfl (Or.inl rfl)) (fun _ _ _ _ _ => pts_nil) (fun _ _ _ _ _ => (pe_cx c_is_term hr (by decide) pass0 (pa_cons (pv 8) pa_nil)))) pa_nil)))) (pss_one (rz_BadLine T hr (by decide) rfl (takes_of rfl rfl rfl rfl) (pa_cons (pv 1) pa_nil))) pss_nil)
        (pss_cons (ps_set (i := 7) sc_read_new.nd rfl (by first | exact Or.inl rfl | exact Or.inr rfl) (pe_fld (pv 0) rfl))
        (pss_cons (ps_expr (pe_mx m_check_new hr (by decide) (passes_call (takes_of rfl rfl rfl rfl) fun _ _ _ _ h => h) (pv 7) (pa_cons (pv 1) (pa_cons (pe_ix ix_list (pv 2) pe_int (fun _ _ => rfl)) pa_nil))))
        (pss_cons (ps_expr (pe_mx m_check_table hr (by decide) (passes_call (takes_of rfl rfl rfl rfl) fun _ _ _ _ h => h) (pe_fld (pv 0) rfl) (pa_cons (pe_ix ix_list (pv 2) pe_int (fun _ _ => rfl)) (pa_cons (pv 1) pa_nil))))
        (pss_cut (ps_if (pt_cmp (pc_notN (pv 3))) (pss_one (ps_expr (pe_mx m_check_any_row hr (by decide) (passes_call (takes_of rfl rfl rfl rfl) fun _ _ _ _ h => h) (pv 7) (pa_cons (pv 1) (pa_cons (pv 3) pa_nil))))) pss_nil)
        (pss_cons (ps_for (passes_of rfl) rfl (pi_list (pv 6)) (pg_name (i := 8) sc_read_new.nd rfl (by first | exact Or.inl rfl | exact Or.inr rfl)) (pss_one (ps_expr (pe_mx m_check_term hr (by decide) (passes_call (takes_of rfl rfl rfl rfl) fun _ _ _ _ h => h) (pv 7) (pa_cons (pv 1) (pa_cons (pv 8) pa_nil))))))
        (pss_cons (ps_set (i := 9) sc_read_new.nd rfl (by first | exact Or.inl rfl | exact Or.inr rfl) (pe_mx m_parent_of hr (by decide) pass0 (pe_fld (pv 0) rfl) (pa_cons (pe_ix ix_list (pv 2) pe_int (fun _ _ => rfl)) pa_nil)))
        (pss_cons (ps_if (PW.pt (pw_and (pt_cmp (pc_isN (pv 3))) (pw_and1 (pt_cmp (pc_notN (pv 9)))))) (pss_one (rz_WrongTable T hr (by decide) rfl (takes_of rfl rfl rfl rfl) (pa_cons (pv 1) (pa_cons (pe_ix ix_list (pv 2) pe_int (fun _ _ => rfl)) pa_nil)))) pss_nil)
        (pss_cons (ps_if (PW.pt (pw_and (pt_cmp (pc_notN (pv 3))) (pw_and1 (PW.pt (pw_or (pt_cmp (pc_isN (pv 9))) (pw_or1 (pt_cmpR op_ne (pe_mx m_table_of hr (by decide) pass0 (pv 7) (pa_cons (pv 3) pa_nil)) (pv 9) (nomark _)))))))) (pss_one (rz_WrongTable T hr (by decide) rfl (takes_of rfl rfl rfl rfl) (pa_cons (pv 1) (pa_cons (pv 3) pa_nil)))) pss_nil)
        (pss_cons (ps_if (pt_cmpR op_ne (pe_callB call_lenL (by rfl) T.b_len PySem.boot_len (pa_cons (pv 6) pa_nil)) (pe_callB call_lenL (by rfl) T.b_len PySem.boot_len (pa_cons (pe_mx m_columns hr (by decide) pass0 (pe_fld (pv 0) rfl) (pa_cons (pe_ix ix_list (pv 2) pe_int (fun _ _ => rfl)) pa_nil)) pa_nil)) (nomark _)) (pss_one (rz_WrongCount T hr (by decide) rfl (takes_of rfl rfl rfl rfl) (pa_cons (pv 1) pa_nil))) pss_nil)
        (pss_cons (ps_if (pt_cmpR op_eq (pe_callB call_lenL (by rfl) T.b_len PySem.boot_len (pa_cons (pe_fld (pv 0) rfl) pa_nil)) (T.k_Handler_MOST_DEEDS) (nomark _)) (pss_one (rz_TooMany T hr (by decide) rfl (takes_of rfl rfl rfl rfl) (pa_cons (pv 1) pa_nil))) pss_nil)
        (pss_cons (ps_dput (hu_of hr) (pe_fld (pv 7) rfl) (pe_ix ix_list (pv 2) pe_int (fun _ _ => rfl)) (pe_ix ix_list (pv 2) pe_int (fun _ _ => rfl)) rfl)
        (pss_one (ps_ret (pe_tup (pa_cons pe_str (pa_cons (pe_ix ix_list (pv 2) pe_int (fun _ _ => rfl)) (pa_cons (pe_ix ix_list (pv 2) pe_int (fun _ _ => rfl)) (pa_cons (pv 3) (pa_cons (pe_callTy call_tuple_of (by rfl) T.b_tuple (by decide +kernel) (pa_cons (pv 6) pa_nil)) pa_nil)))))))))))))))))))))))))), ?_⟩
    obtain ⟨on, ot, ou, ots, l1, l2⟩ := ok
    generalize hW : (Line.new n t u ts).words.map V.str = W at hw
    have W1 : W[1]? = some (.str n) := by rw [← hW]; cases u <;> rfl
    have W3 : W[3]? = some (.str t) := by rw [← hW]; cases u <;> rfl
    have Wl : W.length = stN u + ts.length := by rw [← hW]; cases u <;> simp [Line.words, stN] <;> omega
    have Wd : W.drop (stN u) = ts.map fun a => V.str a.str := by rw [← hW]; cases u <;> simp [Line.words, stN]
    have Ww : atI W ((stN u : Int) - 1) = some (.str "with") := by
      rw [← hW]
      cases u with
      | none => exact atI_nat (j := 4) rfl
      | some x => exact atI_nat (j := 6) rfl
    refine q_asg ev_c fun H1 e1 => ?_
    refine q_asg ev_c fun H2 e2 => ?_
    have e02 := e1.trans e2
    refine q_cut (M := fun σ' H' => σ' = [some (.ref B.h), some (.int l), some (.ref wp), some (uV u), some (.int (stN u : Nat)), none, none, none, none, none] ∧ Ex H H') ?_ ?_
    · cases u with
      | none =>
        refine s_when (b := false) (et_is (et_and (b := false) (et_test (ev_op (ev_ix 4 rfl (e02 _ _ hw) (v := .str "with") (by rw [← hW]; rfl)) ev_c (rv_eq rfl))) fun z => absurd z (by decide +kernel)) (by rw [Bool.and_false])) (fun z => by cases z) fun _ H3 e3 => ⟨rfl, e02.trans e3⟩
      | some x =>
        refine s_when (b := true) (et_is (et_and (et_test (ev_op (ev_ix 4 rfl (e02 _ _ hw) (v := .str "under") (by rw [← hW]; rfl)) ev_c (rv_eq rfl))) fun _ => et_test (ev_op (ev_len (ev_var rfl) (sq_of (e02 _ _ hw))) ev_c rv_I0)) ?_) (fun _ H3 e3 => ?_) (fun z => by cases z)
        · rw [Wl, decide_eq_true rfl, Bool.true_and]
          exact decide_eq_true (by show (7 : Int) < ((7 + ts.length : Nat) : Int); omega)
        · refine q_asg (ev_ix 5 rfl ((e02.trans e3) _ _ hw) (v := .str x) (by rw [← hW]; rfl)) fun H4 e4 => ?_
          exact s_asg ev_c fun H5 e5 => ⟨rfl, (e02.trans e3).trans (e4.trans e5)⟩
    rintro σ3 H3 ⟨rfl, e03⟩
    refine q_asgL (xs := (n :: t :: u.toList).map V.str) (el_catNN (xs := [.str n, .str t]) (ys := u.toList.map V.str) (el_lst (ea_cons (ev_ix 1 rfl (e03 _ _ hw) W1) (ea_cons (ev_ix 3 rfl (e03 _ _ hw) W3) ea_nil)) (Nat.le_of_ble_eq_true rfl)) ?_ (by cases u <;> simp)) fun np H4 hnp4 e4 hn4 => ?_
    · cases u with
      | none => exact el_if (b := false) (et_notN (x := .non) (ev_var rfl)) (fun z => by cases z) (fun _ => el_lst ea_nil (Nat.le_of_ble_eq_true rfl))
      | some x => exact el_if (b := true) (et_notN (x := .str x) (ev_var rfl)) (fun _ => el_lst (ea_cons (ev_var rfl) ea_nil) (Nat.le_of_ble_eq_true rfl)) (fun z => by cases z)
    have e04 := e03.trans e4
    have nmT : SpV (spNames K) [.ref np] H4 (.bl true) := sp_namesT hn4 (by
      intro z hz
      rcases List.mem_cons.mp hz with rfl | hz
      · exact on.1
      · rcases List.mem_cons.mp hz with rfl | hz
        · exact ot.1
        · exact (ou z (by cases u with | none => cases hz | some x => rw [List.mem_singleton.mp hz])).1) (by cases u <;> simp)
    refine q_when (b := false) (et_is (et_or (et_test (ev_op (ev_op (ev_var rfl) (ev_op (ev_var rfl) ev_c rv_I0) (rv_ixL (sq_of (e04 _ _ hw)) Ww)) ev_c (rv_ne rfl))) fun _ => et_not (et_B (ev_call (ea_cons (ev_var rfl) ea_nil) nmT))) (by simp)) (fun z => by cases z) fun _ H5 e5 => ?_
    have e05 := e04.trans e5
    refine q_asgL (xs := ts.map fun a => V.str a.str) (el_is (el_sl (ev_var rfl) (eo_some (ev_var rfl)) eo_none (sq_of (e05 _ _ hw))) (by rw [cutV_from W (stN u) (by omega), Wd])) fun tp H6 htp e6 ht6 => ?_
    have e06 := e05.trans e6
    refine q_when (b := false) (et_is (et_not (et_B (ev_all (bs := ts.map fun _ => true) ?_))) (by rw [List.all_map]; simp)) (fun z => by cases z) fun _ H7 e7 => ?_
    · rw [show (ts.map fun _ => true).map V.bl = (ts.map fun a => V.str a.str).map (fun _ => V.bl true) by rw [List.map_map, List.map_map]; rfl]
      refine el_map _ (ev_var rfl) (sq_of ht6) (by rw [List.length_map]; omega) fun x H8 e8 hx => ?_
      obtain ⟨a, ha, rfl⟩ := List.mem_map.mp hx
      exact ev_call (ea_cons (ev_var rfl) ea_nil) (sp_termT (ots a ha))
    have e07 := e06.trans e7
    refine q_asg (ev_fld (ev_var rfl) (e07 _ _ h.h) T.c_Handler T.n_Handler_known rfl) fun H8 e8 => ?_
    have e08 := e07.trans e8
    have ht8 := (e7.trans e8) _ _ ht6
    obtain ⟨dx, tx, cl, pr, ow, fo, hso⟩ := sch_obj h.sc
    refine q_meth (ev_var rfl) (e08 _ _ h.k) (nam_m _ rfl) (ea_cons (ev_var rfl) (ea_cons (ev_ix 1 rfl (e08 _ _ hw) W1) ea_nil)) fun H9 e9 => ⟨B, l, n, text, name, tabs, G, st, rfl, h.mono (e08.trans e9), ?_⟩
    have e09 := e08.trans e9
    have q0 : RetD K l (firstE ([newErr st n, tabErr tabs t] ++ ((u.map (anyErr st)).toList ++ (ts.map (termErr tabs st) ++
      [match u with
        | none => if (parI tabs (ixT tabs t)).isSome = true then some (.wtab t) else none
        | some x => if parI tabs (ixT tabs t) = anyIx st x then none else some (.wtab x),
      if ts.length = (colsI tabs (ixT tabs t)).length then none else some .wcnt])))) H B (Ha K tabs G B text name ((Line.new n t u ts).deed tabs st)) Q E := q
    rw [List.cons_append, List.cons_append, List.nil_append] at q0
    cases hn : newErr st n with
    | some er => rw [hn] at q0; exact Rz.mono q0 e09
    | none =>
    rw [hn, firstE_none] at q0
    intro H10 e10
    have e010 := e09.trans e10
    refine q_meth (ev_fld (ev_var rfl) (e010 _ _ h.h) T.c_Handler T.n_Handler_schema rfl) (e010 _ _ hso) (sch_m _ rfl) (ea_cons (ev_ix 3 rfl (e010 _ _ hw) W3) (ea_cons (ev_var rfl) ea_nil)) fun H11 e11 => ⟨B.sc, t, l, tabs, tabs.length, rfl, (h.mono (e010.trans e11)).sc, ?_⟩
    rw [hasT_full]
    have e011 := e010.trans e11
    by_cases htb : (findT tabs t).isSome = true
    case neg =>
      rw [if_neg htb]
      rw [show tabErr tabs t = some (.unk t) from if_neg htb] at q0
      exact Rz.mono q0 e011
    rw [if_pos htb]
    rw [show tabErr tabs t = none from if_pos htb, firstE_none] at q0
    intro H12 e12
    have e012 := e011.trans e12
    have ht12 := (e9.trans (e10.trans (e11.trans e12))) _ _ ht8
    refine q_cut (M := fun σ' H' => σ' = [some (.ref B.h), some (.int l), some (.ref wp), some (uV u), some (.int (stN u : Nat)), some (.ref np), some (.ref tp), some (.ref B.k), none, none] ∧ Ex H12 H' ∧ ∀ x, u = some x → anyErr st x = none) ?_ ?_
    · cases u with
      | none => exact s_when (b := false) (et_notN (x := .non) (ev_var rfl)) (fun z => by cases z) fun _ H13 e13 => ⟨rfl, e13, fun x z => by cases z⟩
      | some x =>
        refine s_when (b := true) (et_notN (x := .str x) (ev_var rfl)) (fun _ H13 e13 => ?_) (fun z => by cases z)
        have e013 := e012.trans e13
        refine s_meth (ev_var rfl) (e013 _ _ h.k) (nam_m _ rfl) (ea_cons (ev_var rfl) (ea_cons (ev_var rfl) ea_nil)) fun H14 e14 => ⟨B, l, x, text, name, tabs, G, st, rfl, h.mono (e013.trans e14), ?_⟩
        cases hx : anyErr st x with
        | some er =>
          rw [show ((some x).map (anyErr st)).toList = [anyErr st x] from rfl, hx] at q0
          exact Rz.mono q0 (e013.trans e14)
        | none => exact fun H15 e15 => ⟨rfl, e13.trans (e14.trans e15), fun y z => by cases z; exact hx⟩
    rintro σ13 H13 ⟨rfl, e13, hany⟩
    have e013 := e012.trans e13
    have ht13 := e13 _ _ ht12
    have q1 : RetD K l (firstE (ts.map (termErr tabs st) ++
      [match u with
        | none => if (parI tabs (ixT tabs t)).isSome = true then some (.wtab t) else none
        | some x => if parI tabs (ixT tabs t) = anyIx st x then none else some (.wtab x),
      if ts.length = (colsI tabs (ixT tabs t)).length then none else some .wcnt])) H B (Ha K tabs G B text name ((Line.new n t u ts).deed tabs st)) Q E := by
      cases u with
      | none => exact q0
      | some x =>
        rw [show ((some x).map (anyErr st)).toList = [anyErr st x] from rfl, hany x rfl] at q0
        exact q0
    clear q0
    rw [firstE_append] at q1
    refine q_forLn (ev_var rfl) (sq_of ht13) (fun k σ' H' => ∃ o : Option V, σ' = [some (.ref B.h), some (.int l), some (.ref wp), some (uV u), some (.int (stN u : Nat)), some (.ref np), some (.ref tp), some (.ref B.k), o, none] ∧ Ex H13 H' ∧ firstE (ts.map (termErr tabs st)) = firstE ((ts.drop k).map (termErr tabs st)))
      (fun H14 e14 => ⟨none, rfl, e14, rfl⟩) (fun k σ' H' _ ⟨_, _, e, _⟩ => sq_of (e _ _ ht13)) ?_ ?_
    · rintro k x σ' H' hx ⟨o, rfl, e14, hf⟩
      obtain ⟨a, ha, rfl⟩ : ∃ a, ts[k]? = some a ∧ V.str a.str = x := by
        rw [List.getElem?_map] at hx
        cases ha : ts[k]? with
        | none => rw [ha] at hx; cases hx
        | some a => rw [ha] at hx; exact ⟨a, rfl, Option.some.inj hx⟩
      have e014 := e013.trans e14
      refine s_meth (ev_var rfl) (e014 _ _ h.k) (nam_m _ rfl) (ea_cons (ev_var rfl) (ea_cons (ev_var rfl) ea_nil)) fun H15 e15 => ⟨B, l, a, text, name, tabs, G, st, rfl, ots a (List.mem_of_getElem? ha), h.mono (e014.trans e15), ?_⟩
      rw [firstE_drop ha] at hf
      cases hta : termErr tabs st a with
      | some er =>
        rw [hta] at hf
        rw [hf] at q1
        exact Rz.mono q1 (e014.trans e15)
      | none =>
        rw [hta] at hf
        exact fun H16 e16 => ⟨_, rfl, e14.trans (e15.trans e16), hf⟩
    rintro σ14 H14 ⟨o, rfl, e14, hf⟩
    rw [List.length_map, List.drop_length] at hf
    rw [hf] at q1
    have e014 := e013.trans e14
    have ht14 := e14 _ _ ht13
    have htl := find_lt htb
    obtain ⟨b, hb, hnb⟩ := tab_at htl
    have hbt : b.name = t := by rw [← hnb]; exact name_ix htb
    rw [parI_at hb, colsI_at hb] at q1
    refine q_asg (v := parV tabs b.par) (ev_meth (ev_fld (ev_var rfl) (e014 _ _ h.h) T.c_Handler T.n_Handler_schema rfl) (e014 _ _ hso) (sch_m _ rfl) (ea_cons (ev_ix 3 rfl (e014 _ _ hw) W3) ea_nil)
      (fun H6 e6 Q2 q2 E2 => ⟨B.sc, b, tabs, tabs.length, ixT tabs t, by rw [hbt]; rfl, (h.mono (e014.trans e6)).sc, htl, hb, q2⟩)) fun H15 e15 => ?_
    have e015 := e014.trans e15
    have q2 : RetD K l (firstE [match u with
        | none => if b.par.isSome = true then some (.wtab t) else none
        | some x => if b.par = anyIx st x then none else some (.wtab x),
      if ts.length = b.cols.length then none else some .wcnt]) H B (Ha K tabs G B text name ((Line.new n t u ts).deed tabs st)) Q E := q1
    clear q1
    have hplt : ∀ j, b.par = some j → j < tabs.length := fun j hp => by have := par_at h.wf hb hp; omega
    refine q_when (b := u.isNone && b.par.isSome) ?_ (fun hz H16 e16 => ?_) (fun hz H16 e16 => ?_)
    · cases u with
      | none =>
        cases hp : b.par with
        | none => exact et_and (a := true) (b := false) (et_isN (x := .non) (ev_var rfl)) fun _ => et_notN (x := .non) (ev_var rfl)
        | some j => exact et_and (a := true) (b := true) (et_isN (x := .non) (ev_var rfl)) fun _ => et_notN (x := .str (nameI tabs j)) (ev_var rfl)
      | some x => exact et_and (a := false) (b := b.par.isSome) (et_isN (x := .str x) (ev_var rfl)) fun z => by cases z
    · cases u with
      | some x => cases hz
      | none =>
        have hz' : b.par.isSome = true := hz
        rw [show (match (none : Option Str) with | none => if b.par.isSome = true then some (Er.wtab t) else none | some x => if b.par = anyIx st x then none else some (.wtab x)) = some (.wtab t) from if_pos hz'] at q2
        exact s_rz2 (ea_cons (ev_var rfl) (ea_cons (ev_ix 3 rfl ((e015.trans e16) _ _ hw) W3) ea_nil)) fun H17 d e17 hd => Rz.go (er := .wtab t) q2 (e015.trans (e16.trans e17)) hd
    have e016 := e015.trans e16
    refine q_when (b := match u with | none => false | some x => !decide (b.par = anyIx st x)) ?_ (fun hz2 H17 e17 => ?_) (fun hz2 H17 e17 => ?_)
    · cases u with
      | none => exact et_and (a := false) (b := false) (et_notN (x := .non) (ev_var rfl)) fun z => by cases z
      | some x =>
        obtain ⟨k, hk⟩ : ∃ k, anyIx st x = some k := by
          have hy := hany x rfl
          cases z : anyIx st x with
          | some i => exact ⟨i, rfl⟩
          | none => unfold anyErr at hy; rw [z] at hy; cases hy
        have hkl := h.kn.anyLt hk
        have tof : SpV (spTof K) [.ref B.k, .str x] H16 (.str (nameI tabs k)) := fun H1 e1 Q2 q2 E2 => ⟨B, _, text, name, tabs, G, st, _, rfl, h.mono (e016.trans e1), hk, q2⟩
        show EvT _ _ _ (!decide (b.par = anyIx st x))
        rw [hk]
        refine et_is (et_and (a := true) (et_notN (x := .str x) (ev_var rfl)) fun _ => ?_) (Bool.true_and _)
        cases hp : b.par with
        | none => exact et_or (a := true) (b := true) (et_isN (x := .non) (ev_var rfl)) fun z => by cases z
        | some j =>
          refine et_is (et_or (a := false) (et_isN (x := .str (nameI tabs j)) (ev_var rfl)) fun _ => et_test (ev_op (ev_meth (ev_var rfl) (e016 _ _ h.k) (nam_m _ rfl) (ea_cons (ev_var rfl) ea_nil) tof) (ev_var rfl) (rv_ne rfl))) ?_
          rw [Bool.false_or]
          by_cases hjk : j = k
          · subst hjk
            rw [decide_eq_true (show V.str (nameI tabs j) = parV tabs (some j) from rfl), decide_eq_true rfl]
          · rw [decide_eq_false (show ¬ V.str (nameI tabs k) = parV tabs (some j) from fun z => hjk (name_inj h.wf.nod (hplt j hp) hkl (V.str.inj z).symm)), decide_eq_false fun z => hjk (Option.some.inj z)]
    · cases u with
      | none => cases hz2
      | some x =>
        have hz3 : ¬ b.par = anyIx st x := of_decide_eq_false (Bool.not_eq_true' _ |>.mp hz2)
        rw [show (match some x with | none => if b.par.isSome = true then some (Er.wtab t) else none | some x => if b.par = anyIx st x then none else some (.wtab x)) = some (.wtab x) from if_neg hz3] at q2
        exact s_rz2 (ea_cons (ev_var rfl) (ea_cons (ev_var rfl) ea_nil)) fun H18 d e18 hd => Rz.go (er := .wtab x) q2 (e016.trans (e17.trans e18)) hd
    have e017 := e016.trans e17
    have q3 : RetD K l (if ts.length = b.cols.length then none else some .wcnt) H B (Ha K tabs G B text name ((Line.new n t u ts).deed tabs st)) Q E := by
      have hm : (match u with | none => if b.par.isSome = true then some (Er.wtab t) else none | some x => if b.par = anyIx st x then none else some (.wtab x)) = none := by
        cases u with
        | none => exact if_neg (by rw [show b.par.isSome = false from hz]; decide)
        | some x => exact if_pos (of_decide_eq_true (Bool.not_eq_false' _ |>.mp hz2))
      rw [hm, firstE_none] at q2
      by_cases hc : ts.length = b.cols.length
      · rw [if_pos hc] at q2 ⊢; exact q2
      · rw [if_neg hc] at q2 ⊢; exact q2
    clear q2
    have ht17 := (e15.trans (e16.trans e17)) _ _ ht14
    have colsL : ∀ {σ : L2.St} {H' : Hp}, Ex H H' → σ[0]? = some (some (.ref B.h)) → σ[2]? = some (some (.ref wp)) → EvL (tMeth (SC K) "columns" (spCols K) [] (fun _ _ _ => False) (tFld K (tVar 0) "schema") (tCons (tOp (rIxL K) (tVar 2) (tC (.int ((3 : Nat) : Int)))) tNil)) σ H' (b.cols.map V.str) := fun e s0 s2 =>
      el_meth (ev_fld (ev_var s0) (e _ _ h.h) T.c_Handler T.n_Handler_schema rfl) (e _ _ hso) (sch_m _ rfl) (ea_cons (ev_ix 3 s2 (e _ _ hw) W3) ea_nil) (fun H8 e8 Q2 q2 E2 => ⟨B.sc, b, tabs, tabs.length, ixT tabs t, by rw [hbt]; rfl, (h.mono (e.trans e8)).sc, htl, hb, fun p H7 hp7 e7 h7 => q2 p H7 hp7 e7 h7⟩)
    refine q_when (b := !decide (ts.length = b.cols.length)) (et_is (et_test (ev_op (ev_len (ev_var rfl) (sq_of ht17)) (ev_lenN (colsL e017 rfl rfl)) (rv_ne rfl))) ?_) (fun hz3 H18 e18 => ?_) (fun hz3 H18 e18 => ?_)
    · rw [List.length_map, List.length_map]
      by_cases hc : ts.length = b.cols.length
      · rw [decide_eq_true hc, hc, decide_eq_true rfl]
      · rw [decide_eq_false hc, decide_eq_false fun z => hc (by have := V.int.inj z; omega)]
    · rw [Bool.not_eq_true', decide_eq_false_iff_not] at hz3
      rw [if_neg hz3] at q3
      exact s_rz1 (ea_cons (ev_var rfl) ea_nil) fun H19 d e19 hd => Rz.go (er := .wcnt) q3 (e017.trans (e18.trans e19)) hd
    rw [Bool.not_eq_false', decide_eq_true_eq] at hz3
    rw [if_pos hz3] at q3
    have e018 := e017.trans e18
    obtain ⟨xs, hxs, hxl⟩ := (h.mono e018).ps
    refine q_when (b := false) (et_is (et_test (ev_op (ev_len (ev_fld (ev_var rfl) (e018 _ _ h.h) T.c_Handler T.n_Handler_parts rfl) (sq_of hxs)) ev_c (rv_eq rfl))) (decide_eq_false fun z => by have := V.int.inj z; omega)) (fun z => by cases z) fun _ H19 e19 => ?_
    have e019 := e018.trans e19
    obtain ⟨hn1, hn2, hn3, hn4⟩ := newErr_none hn
    refine q_put (l := rowsV tabs st.news) (v := .str (nameI tabs (ixT tabs t))) (ev_is (ev_ix 3 rfl (e019 _ _ hw) W3) (by rw [name_ix htb])) (ev_fld (ev_var rfl) (e019 _ _ h.k) T.c_Names T.n_Names_others rfl) (ev_ix 1 rfl (e019 _ _ hw) W1) (e019 _ _ h.ot) (by unfold rowsV; rw [List.length_map]; omega) (putK_sd (by rw [rowsV_lk, hn4]; rfl)) fun H20 e20 => ?_
    have e020 := e019.trans e20
    have hset := h.setOt (x := n) (i := ixT tabs t) e020 (h.kn.addNew on htl hn) hnw
    have hot20 := e020 _ _ h.ot
    have hw20 : upd H20 B.ot (.dK (sd (rowsV tabs st.news ++ [(n, .str (nameI tabs (ixT tabs t)))]))) wp = some (.lst W) := by rw [upd_ne (ne_kind (e020 _ _ hw) hot20 (by simp))]; exact e020 _ _ hw
    have ht20 : upd H20 B.ot (.dK (sd (rowsV tabs st.news ++ [(n, .str (nameI tabs (ixT tabs t)))]))) tp = some (.lst (ts.map fun a => V.str a.str)) := by
      have := (e18.trans (e19.trans e20)) _ _ ht17
      rw [upd_ne (ne_kind this hot20 (by simp))]; exact this
    refine s_retX (ex_cons ev_c (ex_cons (ev_ix 1 rfl hw20 W1) (ex_cons (ev_ix 3 rfl hw20 W3) (ex_cons (ev_var rfl) (ex_tup (ev_var rfl) ht20 ex_nil))))) (by decide) fun p H21 e21 => ?_
    exact q3 p H21 ((Nm.upd Ad.m_ot e020).trans (Nm.ex e21)) (hset.mono e21)
end
end K23

set_option Elab.async false
set_option linter.all false
set_option maxRecDepth 100000
set_option maxHeartbeats 4000000
/-! the handler's lines: which line is which; the whole text -/
namespace K23
open PySem PySem.Spec PyProof.Rows L2 Evl
def Line.form : Line → Str
  | .row _ _ => "row"
  | .value _ => "value"
  | .need _ _ => "need"
  | .new _ _ _ _ => "new"
  | .move _ _ => "move"
  | .set _ _ _ => "set"
  | .each _ _ _ _ => "each"
  | .take _ => "take"
def formB (bad : Bool) (ln : Line) : Str := if bad = true then "bad" else ln.form
def Line.isDeed : Line → Prop
  | .row _ _ => False
  | .value _ => False
  | .need _ _ => False
  | _ => True
def spDeed (K : PySem.W.Frag) : Sp := fun vs H Q E => ∃ (A : Ad) (wp : Addr) (l : Int) (bad : Bool) (ln : Line) (text name : Str) (tabs : Tabs) (G : Hp) (st : St), vs = [.ref A.h, .int l, .str (formB bad ln), .ref wp] ∧ (bad = false → ln.isDeed) ∧ ln.ok ∧ H wp = some (.lst ((wordsB bad ln).map V.str)) ∧
  st.np < 8 ∧ st.news.length ≤ 50 ∧ Ha K tabs G A text name st H ∧ RetD K l (if bad = true then some .bad else firstE (ln.checks tabs st)) H A (Ha K tabs G A text name (ln.deed tabs st)) Q E
def spLine (K : PySem.W.Frag) : Sp := fun vs H Q E => ∃ (A : Ad) (l : Int) (bad : Bool) (ln : Line) (text name : Str) (tabs : Tabs) (G : Hp) (st : St), vs = [.ref A.h, .int l, .str (lineText bad ln)] ∧ ln.ok ∧ st.nt < 8 ∧ st.np < 8 ∧ st.vals.length < 4 ∧ st.news.length ≤ 50 ∧
  Ha K tabs G A text name st H ∧ RetM K l (lineErr tabs st bad ln) .non H A (Ha K tabs G A text name (ln.step tabs st)) Q E
theorem wordsB_head (bad : Bool) (ln : Line) : ∃ r, wordsB bad ln = formB bad ln :: r := by
  cases bad with
  | true => exact ⟨_, rfl⟩
  | false =>
    cases ln with
    | new n t u ts => cases u <;> exact ⟨_, rfl⟩
    | _ => exact ⟨_, rfl⟩
theorem and_t {a b : Bool} (ha : a = true) (hb : b = true) : (a && b) = true := by rw [ha, hb]; rfl
theorem form_deed {ln : Line} (h : ln.isDeed) : ln.form ∉ (["row", "value"] : List Str) ∧ decide (ln.form = "need") = false := by
  cases ln with
  | row _ _ => exact h.elim
  | value _ => exact h.elim
  | need _ _ => exact h.elim
  | new _ _ _ _ => exact ⟨show ("new" : Str) ∉ (["row", "value"] : List Str) by decide +kernel, show decide (("new" : Str) = "need") = false by decide +kernel⟩
  | move _ _ => exact ⟨show ("move" : Str) ∉ (["row", "value"] : List Str) by decide +kernel, show decide (("move" : Str) = "need") = false by decide +kernel⟩
  | set _ _ _ => exact ⟨show ("set" : Str) ∉ (["row", "value"] : List Str) by decide +kernel, show decide (("set" : Str) = "need") = false by decide +kernel⟩
  | each _ _ _ _ => exact ⟨show ("each" : Str) ∉ (["row", "value"] : List Str) by decide +kernel, show decide (("each" : Str) = "need") = false by decide +kernel⟩
  | take _ => exact ⟨show ("take" : Str) ∉ (["row", "value"] : List Str) by decide +kernel, show decide (("take" : Str) = "need") = false by decide +kernel⟩
theorem ln_tri (ln : Line) : ln.isPar ∨ (∃ a b, ln = .need a b) ∨ ln.isDeed := by
  cases ln with
  | row _ _ => exact .inl trivial
  | value _ => exact .inl trivial
  | need a b => exact .inr (.inl ⟨a, b, rfl⟩)
  | _ => exact .inr (.inr trivial)
section
variable {P : Program} {w : World} {K : PySem.W.Frag} {mg : Str → Option Value} {base : Heap}
theorem ok_read_deed (T : Txt K mg) : CalX P w K mg base (L2.CX P w) 6 "read_deed" ["handler", "line", "form", "words"] (spDeed K) := by
  have c_read_new := ok_read_new (P := P) (w := w) (base := base) T
  have c_read_move := ok_read_move (P := P) (w := w) (base := base) T
  have c_read_set := ok_read_set (P := P) (w := w) (base := base) T
  have c_read_each := ok_read_each (P := P) (w := w) (base := base) T
  have m_check_row := ok_check_row (P := P) (w := w) (base := base) T
  have c_all_names := ok_all_names (P := P) (w := w) (base := base) T
  have c_is_term := ok_is_term (P := P) (w := w) (base := base) T
  have c_is_name := ok_is_name (P := P) (w := w) (base := base) T
  obtain ⟨fd, F⟩ := T.f_read_deed
  refine ⟨_, fd, F.ok sc_read_deed (fun vs H Q E h => ?_) (fun cdv A outer s H vs Q E hr h => ?_), T.g_read_deed, F.kp, F.bindsN fun _ _ _ _ _ _ us hl => match us, hl with | [_, _, _, _], _ => rfl⟩
  · obtain ⟨A, wp, l, bad, ln, text, name, tabs, G, st, rfl, _⟩ := h; rfl
  · obtain ⟨B, wp, l, bad, ln, text, name, tabs, G, st, rfl, dd, ok, hw, hnp, hnw, h, q⟩ := h
    refine ⟨_, (pss_cons (ps_if (PW.pt (pw_and (pt_cmpR op_eq (pv 2) pe_str (nomark _)) (pw_and (pt_cmpR op_gt (pe_callB call_lenL (by rfl) T.b_len PySem.boot_len (pa_cons (pv 3) pa_nil)) pe_int (nomark _)) (pw_and1 (pt_cmpR op_eq (pe_ix ix_list (pv 3) pe_int (fun _ _ => rfl)) pe_str (nomark _)))))) (pss_one (ps_ret (pe_cx c_read_new hr (by decide) (passes_call (takes_of rfl rfl rfl rfl) fun _ _ _ _ h => h) (pa_cons (pv 0) (pa_cons (pv 1) (pa_cons (pv 3) pa_nil)))))) pss_nil)
        (pss_cons (ps_if (PW.pt (pw_and (pt_cmpR op_eq (pv 2) pe_str (nomark _)) (pw_and (pt_cmpR op_eq (pe_callB call_lenL (by rfl) T.b_len PySem.boot_len (pa_cons (pv 3) pa_nil)) pe_int (nomark _)) (pw_and (pt_cmpR op_eq (pe_ix ix_list (pv 3) pe_int (fun _ _ => rfl)) pe_str (nomark _)) (pw_and1 (pt_val (pe_cx c_all_names hr (by decide) pass0 (pa_cons (pe_sl2 (pv 3)) pa_nil)))))))) (pss_one (ps_ret (pe_cx c_read_move hr (by decide) (passes_call (takes_of rfl rfl rfl rfl) fun _ _ _ _ h => h) (pa_cons (pv 0) (pa_cons (pv 1) (pa_cons (pe_ix ix_list (pv 3) pe_int (fun _ _ => rfl)) (pa_cons (pe_ix ix_list (pv 3) pe_int (fun _ _ => rfl)) pa_nil))))))) pss_nil)
        (pss_cons (ps_if (PW.pt (pw_and (pt_cmpR op_eq (pv 2) pe_str (nomark _)) (pw_and (pt_cmpR op_eq (pe_callB call_lenL (by rfl) T.b_len PySem.boot_len (pa_cons (pv 3) pa_nil)) pe_int (nomark _)) (pw_and (pt_cmpR op_eq (pe_ix ix_list (pv 3) pe_int (fun _ _ => rfl)) pe_str (nomark _)) (pw_and1 (pt_val (pe_cx c_is_term hr (by decide) pass0 (pa_cons (pe_ix ix_list (pv 3) pe_int (fun _ _ => rfl)) pa_nil)))))))) (pss_one (ps_ret (pe_cx c_read_set hr (by decide) (passes_call (takes_of rfl rfl rfl rfl) fun _ _ _ _ h => h) (pa_cons (pv 0) (pa_cons (pv 1) (pa_cons (pv 3) pa_nil)))))) pss_nil)
        (pss_cons (ps_if (PW.pt (pw_and (pt_cmpR op_eq (pv 2) pe_str (nomark _)) (pw_and (pt_cmpR op_eq (pe_callB call_lenL (by rfl) T.b_len PySem.boot_len (pa_cons (pv 3) pa_nil)) pe_int (nomark _)) (pw_and1 (pt_val (pe_cx c_is_term hr (by decide) pass0 (pa_cons (pe_ix ix_list (pv 3) pe_int (fun _ _ => rfl)) pa_nil))))))) (pss_one (ps_ret (pe_cx c_read_each hr (by decide) (passes_call (takes_of rfl rfl rfl rfl) fun _ _ _ _ h => h) (pa_cons (pv 0) (pa_cons (pv 1) (pa_cons (pv 3) pa_nil)))))) pss_nil)
        (pss_cons (ps_if (PW.pt (pw_and (pt_cmpR op_eq (pv 2) pe_str (nomark _)) (pw_and (pt_cmpR op_eq (pe_callB call_lenL (by rfl) T.b_len PySem.boot_len (pa_cons (pv 3) pa_nil)) pe_int (nomark _)) (pw_and1 (pt_val (pe_cx c_is_name hr (by decide) pass0 (pa_cons (pe_ix ix_list (pv 3) pe_int (fun _ _ => rfl)) pa_nil))))))) (pss_cons (ps_expr (pe_mx m_check_row hr (by decide) (passes_call (takes_of rfl rfl rfl rfl) fun _ _ _ _ h => h) (pe_fld (pv 0) rfl) (pa_cons (pv 1) (pa_cons (pe_ix ix_list (pv 3) pe_int (fun _ _ => rfl)) pa_nil))))
        (pss_one (ps_ret (pe_tup (pa_cons pe_str (pa_cons (pe_ix ix_list (pv 3) pe_int (fun _ _ => rfl)) pa_nil)))))) pss_nil)
        (pss_one (rz_BadLine T hr (by decide) rfl (takes_of rfl rfl rfl rfl) (pa_cons (pv 1) pa_nil)))))))), ?_⟩
    cases bad with
    | true =>
      refine q_when (et_skip (f := "bad") rfl (by decide +kernel)) (fun z => by cases z) fun _ H1 e1 => ?_
      refine q_when (et_skip (f := "bad") rfl (by decide +kernel)) (fun z => by cases z) fun _ H2 e2 => ?_
      refine q_when (et_skip (f := "bad") rfl (by decide +kernel)) (fun z => by cases z) fun _ H3 e3 => ?_
      refine q_when (et_skip (f := "bad") rfl (by decide +kernel)) (fun z => by cases z) fun _ H4 e4 => ?_
      refine q_when (et_skip (f := "bad") rfl (by decide +kernel)) (fun z => by cases z) fun _ H5 e5 => ?_
      have e := e1.trans (e2.trans (e3.trans (e4.trans e5)))
      have q' : Rz K l .bad H E := q
      exact s_rz1 (ea_cons (ev_var rfl) ea_nil) fun H6 d e6 hd => Rz.go (er := .bad) q' (e.trans e6) hd
    | false =>
      have dd' := dd rfl
      have q' : RetD K l (firstE (ln.checks tabs st)) H B (Ha K tabs G B text name (ln.deed tabs st)) Q E := q
      clear q
      cases ln with
      | row _ _ => exact dd'.elim
      | value _ => exact dd'.elim
      | need _ _ => exact dd'.elim
      | new n t u ts =>
        have hw' : H wp = some (.lst ((Line.new n t u ts).words.map V.str)) := hw
        have W2 : ((Line.new n t u ts).words.map V.str)[2]? = some (.str "in") := by cases u <;> rfl
        have Wl : 5 < ((Line.new n t u ts).words.map V.str).length := by have := ok.2.2.2.2.1; cases u <;> simp [Line.words] <;> omega
        refine q_when (b := true) (et_is (et_and (et_test (ev_op (ev_var rfl) ev_c (rv_eq rfl))) fun _ => et_and (et_test (ev_op (ev_len (ev_var rfl) (sq_of hw')) ev_c rv_I0)) fun _ => et_test (ev_op (ev_ix 2 rfl hw' W2) ev_c (rv_eq rfl))) ?_) (fun _ H1 e1 => ?_) (fun z => by cases z)
        · exact and_t (decide_eq_true rfl) (and_t (decide_eq_true (show (5 : Int) < (((Line.new n t u ts).words.map V.str).length : Int) by omega)) (decide_eq_true rfl))
        · exact s_retCall (ea_cons (ev_var rfl) (ea_cons (ev_var rfl) (ea_cons (ev_var rfl) ea_nil))) fun H2 e2 => ⟨B, wp, l, n, t, u, ts, text, name, tabs, G, st, rfl, ok, (e1.trans e2) _ _ hw', hnp, hnw, h.mono (e1.trans e2), q'.mono (e1.trans e2)⟩
      | move x y =>
        have hw' : H wp = some (.lst [.str "move", .str x, .str "under", .str y]) := hw
        refine q_when (et_skip (f := "move") rfl (by decide +kernel)) (fun z => by cases z) fun _ H1 e1 => ?_
        have hw1 := e1 _ _ hw'
        refine q_when (b := true) (et_is (et_and (et_test (ev_op (ev_var rfl) ev_c (rv_eq rfl))) fun _ => et_and (et_test (ev_op (ev_len (ev_var rfl) (sq_of hw1)) ev_c (rv_eq rfl))) fun _ => et_and (et_test (ev_op (ev_ix 2 rfl hw1 rfl) ev_c (rv_eq rfl))) fun _ =>
          et_B (ev_call1 (el_sl2 (ev_var rfl) hw1) fun p H2 h2 _ => sp_namesT (ws := [x, y]) h2 (by simp [ok.1.1, ok.2.1]) (by simp))) ?_) (fun _ H2 e2 => ?_) (fun z => by cases z)
        · exact and_t (decide_eq_true rfl) (and_t (decide_eq_true rfl) (and_t (decide_eq_true rfl) rfl))
        · have e := e1.trans e2
          exact s_retCall (ea_cons (ev_var rfl) (ea_cons (ev_var rfl) (ea_cons (ev_ix 1 rfl (e _ _ hw') rfl) (ea_cons (ev_ix 3 rfl (e _ _ hw') rfl) ea_nil)))) fun H3 e3 => ⟨B, l, x, y, text, name, tabs, G, st, rfl, h.mono (e.trans e3), q'.mono (e.trans e3)⟩
      | set x c a =>
        have hw' : H wp = some (.lst [.str "set", .str (Txt.join "." [x, c]), .str "=", .str a.str]) := hw
        refine q_when (et_skip (f := "set") rfl (by decide +kernel)) (fun z => by cases z) fun _ H1 e1 => ?_
        refine q_when (et_skip (f := "set") rfl (by decide +kernel)) (fun z => by cases z) fun _ H2 e2 => ?_
        have hw2 := (e1.trans e2) _ _ hw'
        refine q_when (b := true) (et_is (et_and (et_test (ev_op (ev_var rfl) ev_c (rv_eq rfl))) fun _ => et_and (et_test (ev_op (ev_len (ev_var rfl) (sq_of hw2)) ev_c (rv_eq rfl))) fun _ => et_and (et_test (ev_op (ev_ix 2 rfl hw2 rfl) ev_c (rv_eq rfl))) fun _ =>
          et_B (ev_call (ea_cons (ev_ix 3 rfl hw2 rfl) ea_nil) (sp_termT ok.2.2))) ?_) (fun _ H3 e3 => ?_) (fun z => by cases z)
        · exact and_t (decide_eq_true rfl) (and_t (decide_eq_true rfl) (and_t (decide_eq_true rfl) rfl))
        · have e := e1.trans (e2.trans e3)
          exact s_retCall (ea_cons (ev_var rfl) (ea_cons (ev_var rfl) (ea_cons (ev_var rfl) ea_nil))) fun H4 e4 => ⟨B, wp, l, x, c, a, text, name, tabs, G, st, rfl, ok, (e.trans e4) _ _ hw', h.mono (e.trans e4), q'.mono (e.trans e4)⟩
      | each t x c a =>
        have hw' : H wp = some (.lst [.str "each", .str t, .str "below", .str x, .str "sets", .str c, .str "=", .str a.str]) := hw
        refine q_when (et_skip (f := "each") rfl (by decide +kernel)) (fun z => by cases z) fun _ H1 e1 => ?_
        refine q_when (et_skip (f := "each") rfl (by decide +kernel)) (fun z => by cases z) fun _ H2 e2 => ?_
        refine q_when (et_skip (f := "each") rfl (by decide +kernel)) (fun z => by cases z) fun _ H3 e3 => ?_
        have hw3 := (e1.trans (e2.trans e3)) _ _ hw'
        refine q_when (b := true) (et_is (et_and (et_test (ev_op (ev_var rfl) ev_c (rv_eq rfl))) fun _ => et_and (et_test (ev_op (ev_len (ev_var rfl) (sq_of hw3)) ev_c (rv_eq rfl))) fun _ =>
          et_B (ev_call (ea_cons (ev_ix 7 rfl hw3 rfl) ea_nil) (sp_termT ok.2.2.2))) ?_) (fun _ H4 e4 => ?_) (fun z => by cases z)
        · exact and_t (decide_eq_true rfl) (and_t (decide_eq_true rfl) rfl)
        · have e := e1.trans (e2.trans (e3.trans e4))
          exact s_retCall (ea_cons (ev_var rfl) (ea_cons (ev_var rfl) (ea_cons (ev_var rfl) ea_nil))) fun H5 e5 => ⟨B, wp, l, t, x, c, a, text, name, tabs, G, st, rfl, ok, (e.trans e5) _ _ hw', h.mono (e.trans e5), q'.mono (e.trans e5)⟩
      | take x =>
        have hw' : H wp = some (.lst [.str "take", .str x]) := hw
        refine q_when (et_skip (f := "take") rfl (by decide +kernel)) (fun z => by cases z) fun _ H1 e1 => ?_
        refine q_when (et_skip (f := "take") rfl (by decide +kernel)) (fun z => by cases z) fun _ H2 e2 => ?_
        refine q_when (et_skip (f := "take") rfl (by decide +kernel)) (fun z => by cases z) fun _ H3 e3 => ?_
        refine q_when (et_skip (f := "take") rfl (by decide +kernel)) (fun z => by cases z) fun _ H4 e4 => ?_
        have hw4 := (e1.trans (e2.trans (e3.trans e4))) _ _ hw'
        have nm : SpV spName [.str x] H4 (.bl true) := by
          have g := sp_name (x := x) (H := H4) (by have := name_len (show isName x = true from ok.1); omega)
          rw [show isName x = true from ok.1] at g
          exact g
        refine q_when (b := true) (et_is (et_and (et_test (ev_op (ev_var rfl) ev_c (rv_eq rfl))) fun _ => et_and (et_test (ev_op (ev_len (ev_var rfl) (sq_of hw4)) ev_c (rv_eq rfl))) fun _ =>
          et_B (ev_call (ea_cons (ev_ix 1 rfl hw4 rfl) ea_nil) nm)) ?_) (fun _ H5 e5 => ?_) (fun z => by cases z)
        · exact and_t (decide_eq_true rfl) (and_t (decide_eq_true rfl) rfl)
        · have e := e1.trans (e2.trans (e3.trans (e4.trans e5)))
          have q0 : RetD K l (firstE [rowErr st x]) H B (Ha K tabs G B text name st) Q E := q'
          refine q_meth (ev_fld (ev_var rfl) (e _ _ h.h) T.c_Handler T.n_Handler_known rfl) (e _ _ h.k) (nam_m _ rfl) (ea_cons (ev_var rfl) (ea_cons (ev_ix 1 rfl (e _ _ hw') rfl) ea_nil)) fun H6 e6 => ⟨B, l, x, text, name, tabs, G, st, rfl, h.mono (e.trans e6), ?_⟩
          have e' := e.trans e6
          cases hx : rowErr st x with
          | some er => rw [hx] at q0; exact Rz.mono q0 e'
          | none =>
            rw [hx] at q0
            intro H7 e7
            have e'' := e'.trans e7
            exact s_retU (eu_tup (ea_cons ev_c (ea_cons (ev_ix 1 rfl (e'' _ _ hw') rfl) ea_nil)) (Nat.le_of_ble_eq_true rfl)) fun p H8 hp e8 h8 => q0 p H8 (Nm.ex (e''.trans e8)) (h.mono (e''.trans e8))
theorem q_callD {D : Ends} {tz : TS} {i : Nat} {σ : L2.St} {H : Hp} {t : TA} {sp : Sp} {E : XK} {dvs vs : List V} (h : EvA t σ H vs) (hs : ∀ H1, Ex H H1 → sp (vs ++ dvs) H1 (fun v H2 => tz D (σ.set i (some v)) H2) E) : tSeq (tAsg (tCall sp dvs E t) (gName i)) tz D σ H := h H (Ex.refl H) _ fun H1 e1 => hs H1 e1
theorem ok_read_line_handlers (T : Txt K mg) : CalX P w K mg base (L2.CX P w) 7 "read_line_handlers" ["handler", "line", "text"] (spLine K) := by
  have c_read_parameter := ok_read_parameter (P := P) (w := w) (base := base) T
  have c_is_test := ok_is_test (P := P) (w := w) (base := base) T
  have c_read_test := ok_read_test (P := P) (w := w) (base := base) T
  have c_read_deed := ok_read_deed (P := P) (w := w) (base := base) T
  have c_split_words := ok_split_words (P := P) (w := w) (base := base) T
  obtain ⟨fd, F⟩ := T.f_read_line_handlers
  refine ⟨_, fd, F.ok sc_read_line_handlers (fun vs H Q E h => ?_) (fun cdv A outer s H vs Q E hr h => ?_), T.g_read_line_handlers, F.kp, F.bindsN fun _ _ _ _ _ _ us hl => match us, hl with | [_, _, _], _ => rfl⟩
  · obtain ⟨A, l, bad, ln, text, name, tabs, G, st, rfl, _⟩ := h; rfl
  · obtain ⟨B, l, bad, ln, text, name, tabs, G, st, rfl, ok, hnt, hnp, hnv, hnw, h, q⟩ := h
    refine ⟨_, (pss_cons (ps_set (i := 3) sc_read_line_handlers.nd rfl (by first | exact Or.inl rfl | exact Or.inr rfl) (pe_cx c_split_words hr (by decide) pass0 (pa_cons (pv 2) pa_nil)))
        (pss_cons (ps_set (i := 4) sc_read_line_handlers.nd rfl (by first | exact Or.inl rfl | exact Or.inr rfl) (pe_ifExp (pt_truth (pv 3) (by intro _; rfl)) (pe_ix ix_list (pv 3) pe_int (fun _ _ => rfl)) pe_str))
        (pss_one (ps_if (pt_cmpR op_in_seq (pv 4) (pe_tup (pa_cons pe_str (pa_cons pe_str pa_nil))) rfl) (pss_one (ps_if (PW.pt (pw_or (pt_truth (pe_fld (pv 0) rfl) (by intro _; rfl)) (pw_or (pt_truth (pe_fld (pv 0) rfl) (by intro _; rfl)) (pw_or1 (pt_not (pt_val (pe_cx c_read_parameter hr (by decide) (passes_call (takes_of rfl rfl rfl rfl) fun _ _ _ _ h => h) (pa_cons (pe_fld (pv 0) rfl) (pa_cons (pv 1) (pa_cons (pv 3) pa_nil)))))))))) (pss_one (rz_BadLine T hr (by decide) rfl (takes_of rfl rfl rfl rfl) (pa_cons (pv 1) pa_nil))) pss_nil)) (pss_one (ps_if (pt_cmpR op_eq (pv 4) pe_str (nomark _)) (pss_cons (ps_if (PW.pt (pw_or (pt_truth (pe_fld (pv 0) rfl) (by intro _; rfl)) (pw_or1 (pt_not (pt_val (pe_cx c_is_test hr (by decide) pass0 (pa_cons (pv 3) (pa_cons pe_str pa_nil)))))))) (pss_one (rz_BadLine T hr (by decide) rfl (takes_of rfl rfl rfl rfl) (pa_cons (pv 1) pa_nil))) pss_nil)
        (pss_one (ps_expr (pe_cx c_read_test hr (by decide) (passes_call (takes_of rfl rfl rfl rfl) fun _ _ _ _ h => h) (pa_cons (pe_fld (pv 0) rfl) (pa_cons (pe_fld (pv 0) rfl) (pa_cons (pv 1) (pa_cons (pv 3) pa_nil)))))))) (pss_cons (ps_set (i := 5) sc_read_line_handlers.nd rfl (by first | exact Or.inl rfl | exact Or.inr rfl) (pe_cx c_read_deed hr (by decide) (passes_call (takes_of rfl rfl rfl rfl) fun _ _ _ _ h => h) (pa_cons (pv 0) (pa_cons (pv 1) (pa_cons (pv 4) (pa_cons (pv 3) pa_nil))))))
        (pss_cons (ps_if (pt_cmpR op_eq (pe_callB call_lenL (by rfl) T.b_len PySem.boot_len (pa_cons (pe_fld (pv 0) rfl) pa_nil)) (T.k_Handler_MOST_DEEDS) (nomark _)) (pss_one (rz_TooMany T hr (by decide) rfl (takes_of rfl rfl rfl rfl) (pa_cons (pv 1) pa_nil))) pss_nil)
        (pss_cons (ps_expr (pe_bm PySem.F.plainAttrs_list PySem.F.slot_list_append PySem.F.type_list_append mt_append (pe_fld (pv 0) rfl) (pa_cons (pv 5) pa_nil)))
        (pss_one (ps_expr (pe_bm PySem.F.plainAttrs_list PySem.F.slot_list_append PySem.F.type_list_append mt_append (pe_fld (pv 0) rfl) (pa_cons (pv 2) pa_nil))))))))))))), ?_⟩
    have wd := wordsB_wd (bad := bad) ok
    have hlen := words_len wd (wordsB_len ok)
    obtain ⟨r, hr1⟩ := wordsB_head bad ln
    refine q_asgL (el_call (ea_cons (ev_var rfl) ea_nil) (sp_splitL (show (lineText bad ln).length ≤ 40000 by unfold lineText; omega) (words_splitW wd wordsB_ne))) fun wp H1 hwp e1 hw1 => ?_
    have W0 : ((wordsB bad ln).map V.str)[0]? = some (.str (formB bad ln)) := by rw [hr1]; rfl
    refine q_asg (v := .str (formB bad ln)) (ev_if (b := true) (et_is (et_truL (ev_var rfl) (sq_of hw1)) (by rw [hr1]; rfl)) (fun _ => ev_ix 0 rfl hw1 W0) (fun z => by cases z)) fun H2 e2 => ?_
    have e02 := e1.trans e2
    have hw2 := e2 _ _ hw1
    have inU : ∀ {σ : L2.St}, σ[4]? = some (some (.str (formB bad ln))) → EvT (tTest (tOp (rIn K false) (tVar 4) (tTup (tCons (tC (.str "row")) (tCons (tC (.str "value")) tNil))))) σ H2 (decide (formB bad ln ∈ (["row", "value"] : List Str))) := fun hs =>
      et_is (et_test (ev_inU (xs := (["row", "value"] : List Str).map V.str) (ev_var hs) (eu_tup (ea_cons ev_c (ea_cons ev_c ea_nil)) (Nat.le_of_ble_eq_true rfl)) rfl (flat_strs _))) (inV_str _ _)
    obtain ⟨xt, hxt, hxtl⟩ := (h.mono e02).ts
    obtain ⟨xp, hxp, hxpl⟩ := (h.mono e02).ps
    by_cases hp : bad = false ∧ ln.isPar
    · obtain ⟨rfl, par⟩ := hp
      refine s_if (b := true) (et_is (inU rfl) (decide_eq_true (by cases ln <;> first | exact par.elim | (show _ ∈ [_, _]; simp [formB, Line.form]))) ) (fun _ H3 e3 => ?_) (fun z => by cases z)
      have e03 := e02.trans e3
      have hlate : ln.late st = decide (0 < st.nt ∨ 0 < st.np) := by cases ln <;> first | rfl | exact par.elim
      have t1 : (!xt.isEmpty) = decide (0 < st.nt) := by cases xt with
        | nil => rw [← hxtl]; rfl
        | cons a r => rw [decide_eq_true (by rw [← hxtl]; simp)]; rfl
      have t2 : (!xp.isEmpty) = decide (0 < st.np) := by cases xp with
        | nil => rw [← hxpl]; rfl
        | cons a r => rw [decide_eq_true (by rw [← hxpl]; simp)]; rfl
      refine s_whenOrM (et_truL (ev_fld (ev_var rfl) (e03 _ _ h.h) T.c_Handler T.n_Handler_tests rfl) (sq_of (e3 _ _ hxt))) (et_truL (ev_fld (ev_var rfl) (e03 _ _ h.h) T.c_Handler T.n_Handler_parts rfl) (sq_of (e3 _ _ hxp))) (fun hz H4 e4 => ?_)
        (fun _ _ => ea_cons (ev_fld (ev_var rfl) (e03 _ _ h.h) T.c_Handler T.n_Handler_known rfl) (ea_cons (ev_var rfl) (ea_cons (ev_var rfl) ea_nil))) (fun z1 z2 H4 e4 => ?_)
      · rw [t1, t2, Bool.or_eq_true, decide_eq_true_eq, decide_eq_true_eq] at hz
        have hle : lineErr tabs st false ln = some .bad := if_pos (.inr (by rw [hlate]; exact decide_eq_true hz))
        rw [hle] at q
        have q' : Rz K l .bad H E := q
        exact s_rz1 (ea_cons (ev_var rfl) ea_nil) fun H6 d e6 hd => Rz.go (er := .bad) q' (e03.trans (e4.trans e6)) hd
      · rw [t1, decide_eq_false_iff_not] at z1
        rw [t2, decide_eq_false_iff_not] at z2
        have hle : lineErr tabs st false ln = firstE (ln.checks tabs st) := if_neg (by rw [hlate]; intro z; rcases z with z | z; cases z; rcases of_decide_eq_true z with z | z; exact z1 z; exact z2 z)
        rw [hle] at q
        have e04 := e03.trans e4
        exact ⟨B, wp, l, ln, text, name, tabs, G, st, rfl, par, ok, (e3.trans e4) _ _ hw2, hnv, h.mono e04, RetM.map q e04 fun k H5 n5 h5 => ⟨true, rfl, k H5 n5 h5⟩⟩
    · have f1 : formB bad ln ∉ (["row", "value"] : List Str) := by
        cases bad with
        | true => show ("bad" : Str) ∉ (["row", "value"] : List Str); decide +kernel
        | false =>
          rcases ln_tri ln with z | ⟨a, b, rfl⟩ | z
          · exact absurd ⟨rfl, z⟩ hp
          · show ("need" : Str) ∉ (["row", "value"] : List Str)
            decide +kernel
          · exact (form_deed z).1
      refine s_if (b := false) (et_is (inU rfl) (decide_eq_false f1)) (fun z => by cases z) fun _ H3 e3 => ?_
      have e03 := e02.trans e3
      by_cases hnd : bad = false ∧ ∃ a b, ln = .need a b
      · obtain ⟨rfl, a, b, rfl⟩ := hnd
        refine s_if (b := true) (et_is (et_test (ev_op (ev_var rfl) ev_c (rv_eq rfl))) (decide_eq_true rfl)) (fun _ H4 e4 => ?_) (fun z => by cases z)
        have e04 := e03.trans e4
        have hw4 : H4 wp = some (.lst ((Line.need a b).words.map V.str)) := (e3.trans e4) _ _ hw2
        have t2 : (!xp.isEmpty) = decide (0 < st.np) := by cases xp with
          | nil => rw [← hxpl]; rfl
          | cons a r => rw [decide_eq_true (by rw [← hxpl]; simp)]; rfl
        refine q_when (b := decide (0 < st.np)) (et_is (et_or (et_is (et_truL (ev_fld (ev_var rfl) (e04 _ _ h.h) T.c_Handler T.n_Handler_parts rfl) (sq_of ((e3.trans e4) _ _ hxp))) t2) fun _ => et_not (et_B (ev_call (ea_cons (ev_var rfl) (ea_cons ev_c ea_nil)) (fun H5 e5 Q2 q2 E2 => ⟨wp, a, b, rfl, ok.1, ok.2, e5 _ _ hw4, q2⟩)))) (by simp)) (fun hz H5 e5 => ?_) (fun hz H5 e5 => ?_)
        · have hle : lineErr tabs st false (.need a b) = some .bad := if_pos (.inr hz)
          rw [hle] at q
          have q' : Rz K l .bad H E := q
          exact s_rz1 (ea_cons (ev_var rfl) ea_nil) fun H6 d e6 hd => Rz.go (er := .bad) q' (e04.trans (e5.trans e6)) hd
        · have hle : lineErr tabs st false (.need a b) = firstE ((Line.need a b).checks tabs st) := if_neg (by intro z; rcases z with z | z; cases z; rw [show (Line.need a b).late st = decide (0 < st.np) from rfl, hz] at z; cases z)
          rw [hle] at q
          have e05 := e04.trans e5
          refine s_call (ea_cons (ev_fld (ev_var rfl) (e05 _ _ h.h) T.c_Handler T.n_Handler_known rfl) (ea_cons (ev_fld (ev_var rfl) (e05 _ _ h.h) T.c_Handler T.n_Handler_tests rfl) (ea_cons (ev_var rfl) (ea_cons (ev_var rfl) ea_nil)))) fun H6 e6 => ?_
          exact ⟨B, wp, l, a, b, text, name, tabs, G, st, rfl, ok.1, ok.2, (e5.trans e6) _ _ hw4, hnt, h.mono (e05.trans e6), RetM.map q (e05.trans e6) fun k H7 n7 h7 => k H7 n7 h7⟩
      · have dd : bad = false → ln.isDeed := fun z => by
          rcases ln_tri ln with y | ⟨a, b, y⟩ | y
          · exact absurd ⟨z, y⟩ hp
          · exact absurd ⟨z, a, b, y⟩ hnd
          · exact y
        have f2 : decide (formB bad ln = "need") = false := by
          cases bad with
          | true => show decide (("bad" : Str) = "need") = false; decide +kernel
          | false =>
            exact (form_deed (dd rfl)).2
        refine s_if (b := false) (et_is (et_test (ev_op (ev_var rfl) ev_c (rv_eq rfl))) (by rw [dec_str, f2])) (fun z => by cases z) fun _ H4 e4 => ?_
        have e04 := e03.trans e4
        have hle : lineErr tabs st bad ln = if bad = true then some .bad else firstE (ln.checks tabs st) := by
          cases bad with
          | true => exact if_pos (.inl rfl)
          | false =>
            have hl : ln.late st = false := by have := dd rfl; cases ln <;> first | rfl | exact this.elim
            exact if_neg (by rw [hl]; intro z; rcases z with z | z <;> cases z)
        rw [hle] at q
        refine q_callD (ea_cons (ev_var rfl) (ea_cons (ev_var rfl) (ea_cons (ev_var rfl) (ea_cons (ev_var rfl) ea_nil)))) fun H5 e5 => ?_
        have e05 := e04.trans e5
        refine ⟨B, wp, l, bad, ln, text, name, tabs, G, st, rfl, dd, ok, (e3.trans (e4.trans e5)) _ _ hw2, hnp, hnw, h.mono e05, ?_⟩
        have hdeed : bad = false → { ln.deed tabs st with np := (ln.deed tabs st).np + 1 } = ln.step tabs st := fun z => by have := dd z; cases ln <;> first | rfl | exact this.elim
        have hdnp : (ln.deed tabs st).np = st.np := by cases ln <;> rfl
        cases hb : (if bad = true then some Er.bad else firstE (ln.checks tabs st)) with
        | some er => rw [hb] at q; exact Rz.mono q e05
        | none =>
          rw [hb] at q
          have hbad : bad = false := by
            cases bad with
            | false => rfl
            | true => cases hb
          intro p H6 n6 h6
          obtain ⟨yp, hyp, hypl⟩ := h6.ps
          obtain ⟨yl, hyl, hyll⟩ := h6.ls
          refine q_when (b := false) (et_is (et_test (ev_op (ev_len (ev_fld (ev_var rfl) h6.h T.c_Handler T.n_Handler_parts rfl) (sq_of hyp)) ev_c (rv_eq rfl))) (decide_eq_false fun z => by have := V.int.inj z; omega)) (fun z => by cases z) fun _ H7 e7 => ?_
          refine q_app (e7 _ _ hyp) (ev_fld (ev_var rfl) (e7 _ _ h6.h) T.c_Handler T.n_Handler_parts rfl) (ev_var rfl) (by omega) fun H8 e8 => ?_
          have e78 := e7.trans e8
          obtain ⟨_, _, _, _, n5⟩ := Ad.nes h.nd
          have hh : upd H8 B.ps (.lst (yp ++ [.ref p])) B.h = some (.ins (HC K) B.hx (hanF B text name)) := by rw [upd_ne (ne_mu h6.hOff Ad.m_ps)]; exact e78 _ _ h6.h
          have hl : upd H8 B.ps (.lst (yp ++ [.ref p])) B.ls = some (.lst yl) := by rw [upd_ne n5]; exact e78 _ _ hyl
          refine s_app hl (ev_fld (ev_var rfl) hh T.c_Handler T.n_Handler_lines rfl) (ev_var rfl) (by omega) fun H9 e9 => ?_
          have hs := h6.setPs (v := .ref p) (v2 := .str (lineText bad ln)) e78 (e78 _ _ hyp) e9 (e9 _ _ hl) (by omega)
          rw [hdeed hbad] at hs
          refine q _ ?_ hs
          refine (Nm.ex e05).trans (n6.trans (((Nm.upd Ad.m_ps e78)).trans (Nm.upd Ad.m_ls e9)))
end
end K23

set_option Elab.async false
set_option linter.all false
set_option maxRecDepth 100000
set_option maxHeartbeats 4000000
/-! the handler: made, read whole -/
namespace K23
open PySem PySem.Spec PyProof.Rows L2 Evl
/-! ### what the whole text comes to -/
def runE (tabs : Tabs) : St → Nat → List (Bool × Line) → Option (Er × Nat)
  | _, _, [] => none
  | st, k, p :: r => match lineErr tabs st p.1 p.2 with
    | some e => some (e, k)
    | none => runE tabs (p.2.step tabs st) (k + 1) r
def hFirst (nm : Str) : Str := Txt.join " " [("handler" : Str), nm]
def hText (nm : Str) (ls : List (Bool × Line)) : Str := Txt.join "\n" (hFirst nm :: ls.map fun p => lineText p.1 p.2)
theorem nodup_le : ∀ {l U : List Str}, l.Nodup → (∀ v ∈ l, v ∈ U) → l.length ≤ U.length
  | [], _, _, _ => Nat.zero_le _
  | a :: r, U, hn, hs => by
    have h1 := List.nodup_cons.mp hn
    have h2 := nodup_le (l := r) (U := U.erase a) h1.2 fun v hv => (List.mem_erase_of_ne (fun z => h1.1 (by rw [← z]; exact hv))).mpr (hs v (.tail _ hv))
    have h3 := hs a (.head _)
    rw [List.length_erase_of_mem h3] at h2
    have h4 := List.length_pos_of_mem h3
    rw [List.length_cons]
    omega
/-- how few there are -/
structure Bd (U : List Str) (m : Nat) (st : St) : Prop where
  sum : st.nt + st.np + m ≤ 8
  nw : st.news.length ≤ st.np
  nd : st.vals.Nodup
  sub : ∀ v ∈ st.vals, v ∈ U
theorem Bd.vals {U : List Str} {m : Nat} {st : St} (b : Bd U m st) (h : U.length ≤ 3) : st.vals.length < 4 := by
  have := nodup_le b.nd b.sub
  omega
theorem Bd.step {U : List Str} {m : Nat} {st : St} {tabs : Tabs} {bad : Bool} {ln : Line} (b : Bd U (m + 1) st) (he : lineErr tabs st bad ln = none) (hu : ∀ u, ln = .value u → u ∈ U) : Bd U m (ln.step tabs st) := by
  have h1 := b.sum
  have h2 := b.nw
  have hc : firstE (ln.checks tabs st) = none := by
    unfold lineErr at he
    split at he
    · cases he
    · exact he
  cases ln with
  | row x t => exact ⟨by show st.nt + st.np + m ≤ 8; omega, h2, b.nd, b.sub⟩
  | value u =>
    have hn : newErr st u = none := by
      have : firstE [newErr st u] = none := hc
      cases z : newErr st u with
      | none => rfl
      | some e => rw [z] at this; cases this
    obtain ⟨_, _, g, _⟩ := newErr_none hn
    refine ⟨by show st.nt + st.np + m ≤ 8; omega, h2, ?_, fun v hv => ?_⟩
    · show (st.vals ++ [u]).Nodup
      rw [List.nodup_append]
      refine ⟨b.nd, by simp, fun a ha c hc => ?_⟩
      rw [List.mem_singleton.mp hc]
      rintro rfl
      exact g ha
    · rcases List.mem_append.mp hv with hv | hv
      · exact b.sub v hv
      · rw [List.mem_singleton.mp hv]; exact hu u rfl
  | need a c => exact ⟨by show st.nt + 1 + st.np + m ≤ 8; omega, h2, b.nd, b.sub⟩
  | new n t u ts => exact ⟨by show st.nt + (st.np + 1) + m ≤ 8; omega, by show (st.news ++ [(n, ixT tabs t)]).length ≤ st.np + 1; rw [List.length_append]; simp; omega, b.nd, b.sub⟩
  | move x y => exact ⟨by show st.nt + (st.np + 1) + m ≤ 8; omega, by show st.news.length ≤ st.np + 1; omega, b.nd, b.sub⟩
  | set x c a => exact ⟨by show st.nt + (st.np + 1) + m ≤ 8; omega, by show st.news.length ≤ st.np + 1; omega, b.nd, b.sub⟩
  | each t x c a => exact ⟨by show st.nt + (st.np + 1) + m ≤ 8; omega, by show st.news.length ≤ st.np + 1; omega, b.nd, b.sub⟩
  | take x => exact ⟨by show st.nt + (st.np + 1) + m ≤ 8; omega, by show st.news.length ≤ st.np + 1; omega, b.nd, b.sub⟩
/-! ### promises -/
def spNamInit (K : PySem.W.Frag) : Sp := fun vs H Q _ => ∃ (a dx sc : Addr), vs = [.ref a, .ref sc] ∧ H a = some (.ins (NC K) dx []) ∧ ∀ (H2 : Hp) (A : Ad), A.k = a → A.kx = dx → A.sc = sc → Nb a H H2 → H2 a = some (.ins (NC K) dx (namF A)) →
  H A.rt = none → H A.vn = none → H A.ot = none → A.rt ≠ A.vn → A.rt ≠ A.ot → A.vn ≠ A.ot → H2 A.rt = some (.dK []) → H2 A.vn = some (.lst []) → H2 A.ot = some (.dK []) → Q .non H2
structure Han0 (K : PySem.W.Frag) (A : Ad) (text : Str) (H H2 : Hp) : Prop where
  nb : Nb A.h H H2
  fr : ∀ b ∈ A.mu, H b = none
  nd : A.mu.Nodup
  k : H2 A.k = some (.ins (NC K) A.kx (namF A))
  h : H2 A.h = some (.ins (HC K) A.hx (hanF A text ""))
  rt : H2 A.rt = some (.dK [])
  vn : H2 A.vn = some (.lst [])
  ot : H2 A.ot = some (.dK [])
  ts : H2 A.ts = some (.lst [])
  ls : H2 A.ls = some (.lst [])
  ps : H2 A.ps = some (.lst [])
def spHanInit (K : PySem.W.Frag) : Sp := fun vs H Q _ => ∃ (a dx sc : Addr) (text : Str), vs = [.ref a, .ref sc, .str text] ∧ H a = some (.ins (HC K) dx []) ∧ ∀ (H2 : Hp) (A : Ad), A.h = a → A.hx = dx → A.sc = sc → Han0 K A text H H2 → Q .non H2
def spFirst (K : PySem.W.Frag) : Sp := fun vs H Q E => ∃ (A : Ad) (wp : Addr) (nm text name : Str) (tabs : Tabs) (G : Hp) (st : St), vs = [.ref A.h, .ref wp] ∧ isName nm = true ∧ G A.h = none ∧ H wp = some (.lst [.str "handler", .str nm]) ∧ Ha K tabs G A text name st H ∧
  ∀ H2, Nb A.h H H2 → Ha K tabs G A text nm st H2 → Q .non H2
def spHRead (K : PySem.W.Frag) : Sp := fun vs H Q E => ∃ (sc : Addr) (nm : Str) (ls : List (Bool × Line)) (tabs : Tabs) (U : List Str), vs = [.ref sc, .str (hText nm ls)] ∧ isName nm = true ∧ WF tabs ∧ Sch K tabs tabs.length H sc ∧ (∀ p ∈ ls, p.2.ok) ∧ ls.length ≤ 8 ∧ U.length ≤ 3 ∧ (∀ p ∈ ls, ∀ u, p.2 = .value u → u ∈ U) ∧
  match runE tabs St.ini 2 ls with
  | none => ∀ a H2, Ex H H2 → Q (.ref a) H2
  | some p => Rz K (p.2 : Nat) p.1 H E
theorem hf1 {A : Ad} : putF "row_tables" (.ref A.rt) (putF "schema" (.ref A.sc) []) = ([("schema", .ref A.sc), ("row_tables", .ref A.rt)] : List (Str × V)) := by
  have h1 : ("schema" : Str) ≠ "row_tables" := by decide +kernel
  simp only [putF, if_neg h1]
theorem hf2 {A : Ad} : putF "value_names" (.ref A.vn) ([("schema", .ref A.sc), ("row_tables", .ref A.rt)] : List (Str × V)) = ([("schema", .ref A.sc), ("row_tables", .ref A.rt), ("value_names", .ref A.vn)] : List (Str × V)) := by
  have h1 : ("schema" : Str) ≠ "value_names" := by decide +kernel
  have h2 : ("row_tables" : Str) ≠ "value_names" := by decide +kernel
  simp only [putF, if_neg h1, if_neg h2]
theorem hf3 {A : Ad} : putF "others" (.ref A.ot) ([("schema", .ref A.sc), ("row_tables", .ref A.rt), ("value_names", .ref A.vn)] : List (Str × V)) = namF A := by
  have h1 : ("schema" : Str) ≠ "others" := by decide +kernel
  have h2 : ("row_tables" : Str) ≠ "others" := by decide +kernel
  have h3 : ("value_names" : Str) ≠ "others" := by decide +kernel
  simp only [putF, namF, if_neg h1, if_neg h2, if_neg h3]
theorem Nb.fresh {a b : Addr} {H H' : Hp} (n : Nb a H H') (ne : b ≠ a) (e : H' b = none) : H b = none := by
  cases z : H b with
  | none => rfl
  | some o => rw [n b o ne z] at e; cases e
theorem putF_snoc {f : Str} {v : V} {fs : List (Str × V)} (h : ∀ p ∈ fs, p.1 ≠ f) : putF f v fs = fs ++ [(f, v)] := by
  induction fs with
  | nil => rfl
  | cons p r ih =>
    obtain ⟨g, x⟩ := p
    unfold putF
    rw [if_neg (h _ (.head _)), ih fun q hq => h q (.tail _ hq)]
    rfl
theorem q_fldM {K : PySem.W.Frag} {σ : L2.St} {H : Hp} {ta : TE} {f : Str} {C : Addr} {ta' : TA} {sp : Sp} {E : XK} {dvs vs : List V} {D : Ends} {tz : TS} (h : EvA ta' σ H vs)
    (k : ∀ H1, Ex H H1 → ∀ x dx', H1 x = none → H1 dx' = none → dx' ≠ x → sp (.ref x :: (vs ++ dvs)) (upd (upd H1 dx' (.own x)) x (.ins C dx' [])) (fun v H2 => v = .non ∧ ta σ H2 fun y H3 => ∃ a C dx fs, y = .ref a ∧ H3 a = some (.ins C dx fs) ∧ Cls K C ∧ NoAttr K C f ∧ fs.length < 1000 ∧ tz D σ (upd H3 a (.ins C dx (putF f (.ref x) fs)))) E) :
    tSeq (sFld K ta (tMake C sp dvs E ta') f) tz D σ H := h H (Ex.refl H) _ fun H1 e1 x dx hx hdx ne => k H1 e1 x dx hx hdx ne
section
variable {P : Program} {w : World} {K : PySem.W.Frag} {mg : Str → Option Value} {base : Heap}
theorem ok_Names (T : Txt K mg) : MakX P w K mg base CX0 1 "Names" (NC K) ["self", "schema"] (spNamInit K) := by
  obtain ⟨fd, F⟩ := T.f_Names_init
  refine ⟨_, fd, F.ok sc_Names_init (fun vs H Q E h => ?_) (fun cdv A outer s H vs Q E hr h => ?_), T.mk_Names, T.g_Names, F.bindsN fun _ _ _ _ _ _ us hl => match us, hl with | [_, _], _ => rfl⟩
  · obtain ⟨a, dx, sc, rfl, _⟩ := h; rfl
  · obtain ⟨a, dx, sc, rfl, ho, q⟩ := h
    refine ⟨_, (PSs.nox (pss_cons (ps_fld (pv 0) (pv 1) rfl)
        (pss_cons (ps_fld (pv 0) pe_dnewK rfl)
        (pss_cons (ps_fld (pv 0) (pe_lst pa_nil) rfl)
        (pss_one (ps_fld (pv 0) pe_dnewK rfl)))))), ?_⟩
    refine q_fld (ev_var rfl) (ev_var rfl) ho T.c_Names T.n_Names_schema (by decide) fun H1 e1 => ?_
    refine q_fldD (fun _ _ => ev_var rfl) upd_same T.c_Names T.n_Names_row_tables (by show 1 < 1000; decide) fun rt H2 hrt e2 h2 => ?_
    rw [hf1 (A := ⟨0, 0, a, dx, sc, rt, 0, 0, 0, 0, 0⟩)]
    refine q_fldL (el_lst ea_nil (Nat.le_of_ble_eq_true rfl)) (fun _ _ => ev_var rfl) upd_same T.c_Names T.n_Names_value_names (by show 2 < 1000; decide) fun vn H3 hvn e3 h3 => ?_
    rw [hf2 (A := ⟨0, 0, a, dx, sc, rt, vn, 0, 0, 0, 0⟩)]
    refine s_fldD (fun _ _ => ev_var rfl) upd_same T.c_Names T.n_Names_others (by show 3 < 1000; decide) fun ot H4 hot e4 h4 => ?_
    rw [hf3 (A := ⟨0, 0, a, dx, sc, rt, vn, ot, 0, 0, 0⟩)]
    have n1 : Nb a H (upd H1 a (.ins (NC K) dx (putF "schema" (.ref sc) []))) := (Nb.ex e1).set
    have n2 := (n1.trans (Nb.ex e2)).set (o := .ins (NC K) dx ([("schema", .ref sc), ("row_tables", .ref rt)] : List (Str × V)))
    have n3 := (n2.trans (Nb.ex e3)).set (o := .ins (NC K) dx ([("schema", .ref sc), ("row_tables", .ref rt), ("value_names", .ref vn)] : List (Str × V)))
    have n4 := (n3.trans (Nb.ex e4)).set (o := .ins (NC K) dx (namF ⟨0, 0, a, dx, sc, rt, vn, ot, 0, 0, 0⟩))
    have nrt : rt ≠ a := fun z => by rw [z, upd_same] at hrt; cases hrt
    have nvn : vn ≠ a := fun z => by rw [z, upd_same] at hvn; cases hvn
    have not_ : ot ≠ a := fun z => by rw [z, upd_same] at hot; cases hot
    have r3 : H3 rt = some (.dK []) := e3 _ _ (by rw [upd_ne nrt]; exact h2)
    have r4 : H4 rt = some (.dK []) := e4 _ _ (by rw [upd_ne nrt]; exact r3)
    have v4 : H4 vn = some (.lst []) := e4 _ _ (by rw [upd_ne nvn]; exact h3)
    have d1 : rt ≠ vn := ne_kind r3 h3 (by simp)
    have d2 : rt ≠ ot := fun z => by rw [← z, upd_ne nrt, r3] at hot; cases hot
    have d3 : vn ≠ ot := ne_kind v4 h4 (by simp)
    refine q _ ⟨0, 0, a, dx, sc, rt, vn, ot, 0, 0, 0⟩ rfl rfl rfl n4 upd_same (n1.fresh nrt hrt) (n2.fresh nvn hvn) (n3.fresh not_ hot) d1 d2 d3 ?_ ?_ ?_
    · rw [upd_ne nrt]; exact r4
    · rw [upd_ne nvn]; exact v4
    · rw [upd_ne not_]; exact h4
theorem putF_keys {f : Str} {v : V} {fs : List (Str × V)} (ks : List Str) (hk : fs.map (·.1) = ks) (h : ks.all (fun g => decide (g ≠ f)) = true) : putF f v fs = fs ++ [(f, v)] :=
  putF_snoc fun p hp => of_decide_eq_true (List.all_eq_true.mp h p.1 (by rw [← hk]; exact List.mem_map.mpr ⟨p, hp, rfl⟩))
theorem ok_Handler (T : Txt K mg) : MakX P w K mg base CX0 3 "Handler" (HC K) ["self", "schema", "text"] (spHanInit K) := by
  have k_Names := ok_Names (P := P) (w := w) (base := base) T
  obtain ⟨fd, F⟩ := T.f_Handler_init
  refine ⟨_, fd, F.ok sc_Handler_init (fun vs H Q E h => ?_) (fun cdv A outer s H vs Q E hr h => ?_), T.mk_Handler, T.g_Handler, F.bindsN fun _ _ _ _ _ _ us hl => match us, hl with | [_, _, _], _ => rfl⟩
  · obtain ⟨a, dx, sc, text, rfl, _⟩ := h; rfl
  · obtain ⟨a, dx, sc, text, rfl, ho, q⟩ := h
    refine ⟨_, (PSs.nox (pss_cons (ps_fld (pv 0) (pv 1) rfl)
        (pss_cons (ps_fld (pv 0) (pv 2) rfl)
        (pss_cons (ps_fld (pv 0) pe_str rfl)
        (pss_cons (ps_fld (pv 0) (pe_kx k_Names hr (by decide) pass0 (pa_cons (pv 1) pa_nil)) rfl)
        (pss_cons (ps_fld (pv 0) (pe_lst pa_nil) rfl)
        (pss_cons (ps_fld (pv 0) (pe_lst pa_nil) rfl)
        (pss_one (ps_fld (pv 0) (pe_lst pa_nil) rfl))))))))), ?_⟩
    refine q_fld (ev_var rfl) (ev_var rfl) ho T.c_Handler T.n_Handler_schema (by decide) fun H1 e1 => ?_
    rw [putF_keys [] rfl (by decide +kernel), List.nil_append]
    refine q_fld (ev_var rfl) (ev_var rfl) upd_same T.c_Handler T.n_Handler_text (by show 1 < 1000; decide) fun H2 e2 => ?_
    rw [putF_keys ["schema"] rfl (by decide +kernel), List.singleton_append]
    refine q_fld ev_c (ev_var rfl) upd_same T.c_Handler T.n_Handler_name (by show 2 < 1000; decide) fun H3 e3 => ?_
    rw [putF_keys ["schema", "text"] rfl (by decide +kernel), List.cons_append, List.singleton_append]
    have n1 : Nb a H (upd H1 a (.ins (HC K) dx ([("schema", .ref sc)] : List (Str × V)))) := (Nb.ex e1).set
    have n2 := (n1.trans (Nb.ex e2)).set (o := .ins (HC K) dx ([("schema", .ref sc), ("text", .str text)] : List (Str × V)))
    have n3 := (n2.trans (Nb.ex e3)).set (o := .ins (HC K) dx ([("schema", .ref sc), ("text", .str text), ("name", .str "")] : List (Str × V)))
    -- Names(schema)
    generalize hH4 : upd H3 a (.ins (HC K) dx ([("schema", .ref sc), ("text", .str text), ("name", .str "")] : List (Str × V))) = H4 at n3 ⊢
    have ha4 : H4 a = some (.ins (HC K) dx ([("schema", .ref sc), ("text", .str text), ("name", .str "")] : List (Str × V))) := by rw [← hH4]; exact upd_same
    refine q_fldM (ea_cons (ev_var rfl) ea_nil) fun H5 e5 k kx hk hkx nek => ?_
    refine ⟨k, kx, sc, rfl, upd_same, fun H6 A0 hAk hAkx hAsc nb6 hk6 f1 f2 f3 d1 d2 d3 g1 g2 g3 => ⟨rfl, ?_⟩⟩
    have e56 : Ex H5 (upd (upd H5 kx (.own k)) k (.ins (NC K) kx [])) := Ex.mut (Ex.new hkx) hk
    have e6 : Ex H5 H6 := fun b o h => nb6 b o (ne_of_none h hk) (e56 _ _ h)
    have f1' := fresh_back e56 f1
    have f2' := fresh_back e56 f2
    have f3' := fresh_back e56 f3
    have ha6 : H6 a = some (.ins (HC K) dx ([("schema", .ref sc), ("text", .str text), ("name", .str "")] : List (Str × V))) := e6 _ _ (e5 _ _ ha4)
    have ha5 := e5 _ _ ha4
    refine ev_var (v := .ref a) rfl H6 (Ex.refl H6) _ fun H7 e7 => ⟨a, _, dx, _, rfl, e7 _ _ ha6, T.c_Handler, T.n_Handler_known, by show 3 < 1000; decide, ?_⟩
    rw [putF_keys ["schema", "text", "name"] rfl (by decide +kernel), List.cons_append, List.cons_append, List.singleton_append]
    have n7 := (n3.trans (Nb.ex (e5.trans (e6.trans e7)))).set (o := .ins (HC K) dx ([("schema", .ref sc), ("text", .str text), ("name", .str ""), ("known", .ref k)] : List (Str × V)))
    refine q_fldL (el_lst ea_nil (Nat.le_of_ble_eq_true rfl)) (fun _ _ => ev_var rfl) upd_same T.c_Handler T.n_Handler_tests (by show 4 < 1000; decide) fun ts H8 hts e8 h8 => ?_
    rw [putF_keys ["schema", "text", "name", "known"] rfl (by decide +kernel), List.cons_append, List.cons_append, List.cons_append, List.singleton_append]
    have n8 := (n7.trans (Nb.ex e8)).set (o := .ins (HC K) dx ([("schema", .ref sc), ("text", .str text), ("name", .str ""), ("known", .ref k), ("tests", .ref ts)] : List (Str × V)))
    refine q_fldL (el_lst ea_nil (Nat.le_of_ble_eq_true rfl)) (fun _ _ => ev_var rfl) upd_same T.c_Handler T.n_Handler_lines (by show 5 < 1000; decide) fun ls H9 hls e9 h9 => ?_
    rw [putF_keys ["schema", "text", "name", "known", "tests"] rfl (by decide +kernel), List.cons_append, List.cons_append, List.cons_append, List.cons_append, List.singleton_append]
    have n9 := (n8.trans (Nb.ex e9)).set (o := .ins (HC K) dx ([("schema", .ref sc), ("text", .str text), ("name", .str ""), ("known", .ref k), ("tests", .ref ts), ("lines", .ref ls)] : List (Str × V)))
    refine s_fldL (el_lst ea_nil (Nat.le_of_ble_eq_true rfl)) (fun _ _ => ev_var rfl) upd_same T.c_Handler T.n_Handler_parts (by show 6 < 1000; decide) fun ps H10 hps e10 h10 => ?_
    rw [putF_keys ["schema", "text", "name", "known", "tests", "lines"] rfl (by decide +kernel), List.cons_append, List.cons_append, List.cons_append, List.cons_append, List.cons_append, List.singleton_append]
    have n10 := (n9.trans (Nb.ex e10)).set (o := .ins (HC K) dx (hanF ⟨a, dx, k, kx, sc, A0.rt, A0.vn, A0.ot, ts, ls, ps⟩ text ""))
    have nka : k ≠ a := fun z => by rw [z, ha5] at hk; cases hk
    have nrt : A0.rt ≠ a := fun z => by rw [z, ha5] at f1'; cases f1'
    have nvn : A0.vn ≠ a := fun z => by rw [z, ha5] at f2'; cases f2'
    have not_ : A0.ot ≠ a := fun z => by rw [z, ha5] at f3'; cases f3'
    have nts : ts ≠ a := fun z => by rw [z, upd_same] at hts; cases hts
    have nls : ls ≠ a := fun z => by rw [z, upd_same] at hls; cases hls
    have nps : ps ≠ a := fun z => by rw [z, upd_same] at hps; cases hps
    have up7 : ∀ {b : Addr} {o : HO}, b ≠ a → H6 b = some o → upd H7 a (.ins (HC K) dx ([("schema", .ref sc), ("text", .str text), ("name", .str ""), ("known", .ref k)] : List (Str × V))) b = some o := fun ne h => by rw [upd_ne ne]; exact e7 _ _ h
    have up8 : ∀ {b : Addr} {o : HO}, b ≠ a → H8 b = some o → upd H8 a (.ins (HC K) dx ([("schema", .ref sc), ("text", .str text), ("name", .str ""), ("known", .ref k), ("tests", .ref ts)] : List (Str × V))) b = some o := fun ne h => by rw [upd_ne ne]; exact h
    have up9 : ∀ {b : Addr} {o : HO}, b ≠ a → H9 b = some o → upd H9 a (.ins (HC K) dx ([("schema", .ref sc), ("text", .str text), ("name", .str ""), ("known", .ref k), ("tests", .ref ts), ("lines", .ref ls)] : List (Str × V))) b = some o := fun ne h => by rw [upd_ne ne]; exact h
    have to10 : ∀ {b : Addr} {o : HO}, b ≠ a → H6 b = some o → upd H10 a (.ins (HC K) dx (hanF ⟨a, dx, k, kx, sc, A0.rt, A0.vn, A0.ot, ts, ls, ps⟩ text "")) b = some o := fun ne h => by
      rw [upd_ne ne]
      exact e10 _ _ (up9 ne (e9 _ _ (up8 ne (e8 _ _ (up7 ne h)))))
    have ts10 : upd H10 a (.ins (HC K) dx (hanF ⟨a, dx, k, kx, sc, A0.rt, A0.vn, A0.ot, ts, ls, ps⟩ text "")) ts = some (.lst []) := by rw [upd_ne nts]; exact e10 _ _ (up9 nts (e9 _ _ (up8 nts h8)))
    have ls10 : upd H10 a (.ins (HC K) dx (hanF ⟨a, dx, k, kx, sc, A0.rt, A0.vn, A0.ot, ts, ls, ps⟩ text "")) ls = some (.lst []) := by rw [upd_ne nls]; exact e10 _ _ (up9 nls h9)
    have g1' := up7 nrt g1
    have g2' := up7 nvn g2
    have g3' := up7 not_ g3
    have off8 : ∀ {b : Addr} {o : HO}, upd H7 a (.ins (HC K) dx ([("schema", .ref sc), ("text", .str text), ("name", .str ""), ("known", .ref k)] : List (Str × V))) b = some o → b ≠ ts := fun h z => by rw [z, hts] at h; cases h
    have off9 : ∀ {b : Addr} {o : HO}, upd H8 a (.ins (HC K) dx ([("schema", .ref sc), ("text", .str text), ("name", .str ""), ("known", .ref k), ("tests", .ref ts)] : List (Str × V))) b = some o → b ≠ ls := fun h z => by rw [z, hls] at h; cases h
    have off10 : ∀ {b : Addr} {o : HO}, upd H9 a (.ins (HC K) dx ([("schema", .ref sc), ("text", .str text), ("name", .str ""), ("known", .ref k), ("tests", .ref ts), ("lines", .ref ls)] : List (Str × V))) b = some o → b ≠ ps := fun h z => by rw [z, hps] at h; cases h
    have k8 := up8 nrt (e8 _ _ g1')
    have v8 := up8 nvn (e8 _ _ g2')
    have o8 := up8 not_ (e8 _ _ g3')
    have t8 := up8 nts h8
    have k9 := up9 nrt (e9 _ _ k8)
    have v9 := up9 nvn (e9 _ _ v8)
    have o9 := up9 not_ (e9 _ _ o8)
    have t9 := up9 nts (e9 _ _ t8)
    have l9 := up9 nls h9
    have hkA : namF A0 = namF ⟨a, dx, k, kx, sc, A0.rt, A0.vn, A0.ot, ts, ls, ps⟩ := by unfold namF; rw [hAsc]
    have back : ∀ {b : Addr}, H5 b = none → b ≠ a → H b = none := fun h ne => (n3.trans (Nb.ex e5)).fresh ne h
    refine q _ ⟨a, dx, k, kx, sc, A0.rt, A0.vn, A0.ot, ts, ls, ps⟩ rfl rfl rfl ⟨n10, ?_, ?_, ?_, upd_same, to10 nrt g1, to10 nvn g2, to10 not_ g3, ts10, ls10, ?_⟩
    · intro b hb
      simp only [Ad.mu, List.mem_cons, List.not_mem_nil, or_false] at hb
      rcases hb with rfl | rfl | rfl | rfl | rfl | rfl
      · exact back f1' nrt
      · exact back f2' nvn
      · exact back f3' not_
      · exact n7.fresh nts hts
      · exact n8.fresh nls hls
      · exact n9.fresh nps hps
    · simp only [Ad.mu, List.nodup_cons, List.mem_cons, List.not_mem_nil, or_false, not_or, not_false_eq_true, List.nodup_nil, and_true]
      exact ⟨⟨d1, d2, off8 g1', off9 k8, off10 k9⟩, ⟨d3, off8 g2', off9 v8, off10 v9⟩, ⟨off8 g3', off9 o8, off10 o9⟩, ⟨off9 t8, off10 t9⟩, off10 l9⟩
    · rw [← hkA]; exact to10 nka hk6
    · rw [upd_ne nps]; exact h10
theorem hanF_name {A : Ad} {text name nm : Str} : putF "name" (.str nm) (hanF A text name) = hanF A text nm := by
  have h1 : ("schema" : Str) ≠ "name" := by decide +kernel
  have h2 : ("text" : Str) ≠ "name" := by decide +kernel
  unfold hanF
  rw [putF, if_neg h1, putF, if_neg h2, putF, if_pos rfl]
theorem Ha.setName {tabs : Tabs} {G : Hp} {A : Ad} {text name nm : Str} {st : St} {H H' : Hp} (h : Ha K tabs G A text name st H) (e : Ex H H') (hg : G A.h = none) : Ha K tabs G A text nm st (upd H' A.h (.ins (HC K) A.hx (hanF A text nm))) := by
  have h' := h.mono e
  obtain ⟨t, t1, t2⟩ := h'.ts
  obtain ⟨l, l1, l2⟩ := h'.ls
  obtain ⟨p, p1, p2⟩ := h'.ps
  have up : ∀ {b : Addr} {o : HO}, H' b = some o → HO.ins (HC K) A.hx (hanF A text name) ≠ o → upd H' A.h (.ins (HC K) A.hx (hanF A text nm)) b = some o := fun hb ne => by
    rw [upd_ne (ne_kind h'.h hb ne).symm]; exact hb
  refine ⟨h.wf, h.kn, Ex.mut h'.g hg, h.fr, h.nd, h.sch, up h'.k ?_, upd_same, up h'.rt (by simp), up h'.vn (by simp), up h'.ot (by simp), ⟨t, up t1 (by simp), t2⟩, ⟨l, up l1 (by simp), l2⟩, ⟨p, up p1 (by simp), p2⟩, h.sm⟩
  intro z
  injection z with _ _ z3
  have := congrArg List.length z3
  revert this
  show 7 ≠ 4
  decide
theorem ok_read_first (T : Txt K mg) : CalX P w K mg base (L2.CX P w) 3 "read_first" ["handler", "words"] (spFirst K) := by
  have c_is_name := ok_is_name (P := P) (w := w) (base := base) T
  obtain ⟨fd, F⟩ := T.f_read_first
  refine ⟨_, fd, F.ok sc_read_first (fun vs H Q E h => ?_) (fun cdv A outer s H vs Q E hr h => ?_), T.g_read_first, F.kp, F.bindsN fun _ _ _ _ _ _ us hl => match us, hl with | [_, _], _ => rfl⟩
  · obtain ⟨A, wp, nm, text, name, tabs, G, st, rfl, _⟩ := h; rfl
  · obtain ⟨B, wp, nm, text, name, tabs, G, st, rfl, hn, hg, hw, h, q⟩ := h
    refine ⟨_, (pss_cons (ps_if (PW.pt (pw_or (pt_cmpR op_ne (pe_callB call_lenL (by rfl) T.b_len PySem.boot_len (pa_cons (pv 1) pa_nil)) pe_int (nomark _)) (pw_or (pt_cmpR op_ne (pe_ix ix_list (pv 1) pe_int (fun _ _ => rfl)) pe_str (nomark _)) (pw_or1 (pt_not (pt_val (pe_cx c_is_name hr (by decide) pass0 (pa_cons (pe_ix ix_list (pv 1) pe_int (fun _ _ => rfl)) pa_nil)))))))) (pss_one (rz_BadLine T hr (by decide) rfl (takes_of rfl rfl rfl rfl) (pa_cons pe_int pa_nil))) pss_nil)
        (pss_one (ps_fld (pv 0) (pe_ix ix_list (pv 1) pe_int (fun _ _ => rfl)) rfl))), ?_⟩
    have nmT : SpV spName [.str nm] H (.bl true) := by
      have g := sp_name (x := nm) (H := H) (by have := name_len hn; omega)
      rw [hn] at g
      exact g
    refine q_when (b := false) (et_is (et_or (et_test (ev_op (ev_len (ev_var rfl) (sq_of hw)) ev_c (rv_ne rfl))) fun _ => et_or (et_test (ev_op (ev_ix 0 rfl hw rfl) ev_c (rv_ne rfl))) fun _ => et_not (et_B (ev_call (ea_cons (ev_ix 1 rfl hw rfl) ea_nil) nmT))) (by simp)) (fun z => by cases z) fun _ H1 e1 => ?_
    refine s_fld (ev_ix 1 rfl (e1 _ _ hw) rfl) (ev_var rfl) (e1 _ _ h.h) T.c_Handler T.n_Handler_name (by show 7 < 1000; decide) fun H2 e2 => ?_
    rw [hanF_name]
    exact q _ ((Nb.ex (e1.trans e2)).set) (h.setName (e1.trans e2) hg)
theorem Kn.ini (tabs : Tabs) : Kn tabs St.ini := by
  refine ⟨fun p h => ?_, fun p h => ?_, fun x h => rfl, fun p h => ?_, fun p h => ?_, fun p h => ?_, Nat.zero_le _⟩
  all_goals exact absurd h (by simp [St.ini])
theorem st_Handler (T : Txt K mg) : StaX P w K mg base (L2.CX P w) 9 (HC K) "read" ["schema", "text"] (spHRead K) := by
  have c_split_words := ok_split_words (P := P) (w := w) (base := base) T
  have c_read_first := ok_read_first (P := P) (w := w) (base := base) T
  have c_read_line_handlers := ok_read_line_handlers (P := P) (w := w) (base := base) T
  have k_Handler := ok_Handler (P := P) (w := w) (base := base) T
  obtain ⟨fd, F⟩ := T.f_Handler_read
  refine StaX.of T.rdH T.stH (F.ok (k := 8) sc_Handler_read (fun vs H Q E h => ?_) (fun cdv A outer s H vs Q E hr h => ?_)) F.kp (F.bindsN fun _ _ _ _ _ _ us hl => match us, hl with | [_, _], _ => rfl)
  · obtain ⟨sc, nm, ls, tabs, U, rfl, _⟩ := h; rfl
  · obtain ⟨sc, nm, ls, tabs, U, rfl, hnm, W, S, oks, hl8, hU, hUs, q⟩ := h
    refine ⟨_, (pss_cons (ps_set (i := 2) sc_Handler_read.nd rfl (by first | exact Or.inl rfl | exact Or.inr rfl) (pe_kx k_Handler hr (by decide) pass0 (pa_cons (pv 0) (pa_cons (pv 1) pa_nil))))
        (pss_cons (ps_for (passes_of rfl) rfl (pi_enum (by rfl) T.b_enumerate (pa_cons (pe_split (pv 1) pe_str) pa_nil)) (pg_tup (by rfl) (pgs_cons (pg_name (i := 3) sc_Handler_read.nd rfl (by first | exact Or.inl rfl | exact Or.inr rfl)) (pgs_cons (pg_name (i := 4) sc_Handler_read.nd rfl (by first | exact Or.inl rfl | exact Or.inr rfl)) pgs_nil))) (pss_one (ps_if (pt_cmpR op_eq (pv 3) pe_int (nomark _)) (pss_one (ps_expr (pe_cx c_read_first hr (by decide) (passes_call (takes_of rfl rfl rfl rfl) fun _ _ _ _ h => h) (pa_cons (pv 2) (pa_cons (pe_cx c_split_words hr (by decide) pass0 (pa_cons (pv 4) pa_nil)) pa_nil))))) (pss_one (ps_expr (pe_cx c_read_line_handlers hr (by decide) (passes_call (takes_of rfl rfl rfl rfl) fun _ _ _ _ h => h) (pa_cons (pv 2) (pa_cons (pe_op op_add (pv 3) pe_int) (pa_cons (pv 4) pa_nil)))))))))
        (pss_one (ps_ret (pv 2))))), ?_⟩
    refine q_make (ea_cons (ev_var rfl) (ea_cons (ev_var rfl) ea_nil)) fun ha hx H1 H2 e1 hha hhx nex eH2 => ?_
    have hh2 : H2 ha = some (.ins (HC K) hx []) := by rw [eH2]; exact upd_same
    have e2 : Ex H H2 := by rw [eH2]; exact e1.trans (Ex.mut (Ex.new hhx) hha)
    refine ⟨ha, hx, sc, hText nm ls, rfl, hh2, fun H3 A hAh hAx hAs h0 => ⟨rfl, ?_⟩⟩
    have haH : H ha = none := fresh_back e1 hha
    have hAH : H A.h = none := by rw [hAh]; exact haH
    have e3 : Ex H H3 := fun b o h => h0.nb b o (ne_of_none h hAH) (e2 _ _ h)
    have frH : ∀ b ∈ A.mu, H b = none := fun b hb => fresh_back e2 (h0.fr b hb)
    have Ha0 : Ha K tabs H A (hText nm ls) "" St.ini H3 := ⟨W, Kn.ini tabs, e3, frH, h0.nd, by rw [hAs]; exact S, h0.k, h0.h, h0.rt, h0.vn, h0.ot, ⟨[], h0.ts, rfl⟩, ⟨[], h0.ls, rfl⟩, ⟨[], h0.ps, rfl⟩, by decide⟩
    rw [← hAh]
    have fwd : ∀ x ∈ [("handler" : Str), nm], Wd x := by
      intro x hx
      rcases List.mem_cons.mp hx with rfl | hx
      · exact wd_lit (by decide +kernel)
      · rw [List.mem_singleton.mp hx]; exact isName_wd hnm
    have flen := words_len fwd (by simp)
    have lw : ∀ p ∈ ls, 10 ∉ tlS (lineText p.1 p.2) ∧ (lineText p.1 p.2).length ≤ 610 := fun p hp => ⟨words_nl (wordsB_wd (oks p hp)), words_len (wordsB_wd (oks p hp)) (wordsB_len (oks p hp))⟩
    have spl : Txt.split (hText nm ls) "\n" = hFirst nm :: ls.map fun p => lineText p.1 p.2 := text_split (by simp) fun x hx => by
      rcases List.mem_cons.mp hx with rfl | hx
      · exact words_nl fwd
      · obtain ⟨p, hp, rfl⟩ := List.mem_map.mp hx
        exact (lw p hp).1
    have tlen : (hText nm ls).length ≤ 6110 := text_len (fun x hx => by
      rcases List.mem_cons.mp hx with rfl | hx
      · exact flen
      · obtain ⟨p, hp, rfl⟩ := List.mem_map.mp hx
        exact (lw p hp).2) (by rw [List.length_cons, List.length_map]; omega)
    generalize hL : (hFirst nm :: ls.map fun p => lineText p.1 p.2).map V.str = L at *
    refine q_forE (xs := L) (el_is (el_split (ev_var rfl) ev_c rfl (by omega)) (by rw [spl, hL])) (fun p k σ' H' => ∃ (o1 o2 : Option V), σ' = [some (.ref sc), some (.str (hText nm ls)), some (.ref A.h), o1, o2] ∧ H' p = some (.lst L) ∧ p ∉ A.mu ∧
        ((k = 0 ∧ Ha K tabs H A (hText nm ls) "" St.ini H') ∨ ∃ (j : Nat) (st : St), k = j + 1 ∧ Ha K tabs H A (hText nm ls) nm st H' ∧ Bd U (ls.length - j) st ∧ runE tabs St.ini 2 ls = runE tabs st (j + 2) (ls.drop j)))
      (fun p H4 hp e4 h4 => ⟨none, none, rfl, h4, Ha0.new hp, .inl ⟨rfl, Ha0.mono e4⟩⟩) (fun p k σ' H' _ ⟨_, _, _, h, _⟩ => sq_of h) ?_ ?_
    · rintro p k x σ' H' Ta hxk ⟨o1, o2, rfl, hp, hpm, hk⟩ hTa
      have eT : Ex H' (upd H' Ta (.tup [.int (k : Nat), x])) := Ex.new hTa
      rcases hk with ⟨rfl, h⟩ | ⟨j, st, rfl, h, bd, hrun⟩
      · have hx0 : x = .str (hFirst nm) := by rw [← hL] at hxk; exact (Option.some.inj hxk).symm
        subst hx0
        refine s_if (b := true) (et_is (et_test (ev_op (ev_var rfl) ev_c (rv_eq rfl))) (decide_eq_true rfl)) (fun _ H5 e5 => ?_) (fun z => by cases z)
        have e05 := eT.trans e5
        refine s_callNL (xs := ([("handler" : Str), nm]).map V.str) (eal_cons (ev_var rfl) (eal_call (ea_cons (ev_var rfl) ea_nil) (sp_splitL (show (hFirst nm).length ≤ 40000 by unfold hFirst; omega) (words_splitW fwd (by simp))))) fun wp H6 hwp e6 h6 => ?_
        have e06 := e05.trans e6
        refine ⟨A, wp, nm, hText nm ls, "", tabs, H, St.ini, rfl, hnm, hAH, h6, h.mono e06, fun H7 nb7 h7 => ⟨_, _, rfl, nb7 _ _ (ne_kind (e06 _ _ hp) (h.mono e06).h (by simp)) (e06 _ _ hp), hpm, .inr ⟨0, St.ini, rfl, h7, ⟨by show 0 + 0 + (ls.length - 0) ≤ 8; omega, Nat.le_refl _, List.nodup_nil, fun _ z => nomatch z⟩, rfl⟩⟩⟩
      · have hxj : (ls.map fun p => V.str (lineText p.1 p.2))[j]? = some x := by rw [← hL] at hxk; rw [List.map_cons, List.getElem?_cons_succ, List.map_map] at hxk; exact hxk
        obtain ⟨ln, hln, rfl⟩ : ∃ ln, ls[j]? = some ln ∧ V.str (lineText ln.1 ln.2) = x := by
          rw [List.getElem?_map] at hxj
          cases hc : ls[j]? with
          | none => rw [hc] at hxj; cases hxj
          | some c => rw [hc] at hxj; exact ⟨c, rfl, Option.some.inj hxj⟩
        have hjl := (List.getElem?_eq_some_iff.mp hln).1
        have hmem := List.mem_of_getElem? hln
        have hdrop : ls.drop j = ln :: ls.drop (j + 1) := by rw [List.drop_eq_getElem_cons hjl, (List.getElem?_eq_some_iff.mp hln).2]
        have hm : ls.length - j = (ls.length - (j + 1)) + 1 := by omega
        rw [hm] at bd
        rw [hdrop, runE] at hrun
        refine s_if (b := false) (et_is (et_test (ev_op (ev_var rfl) ev_c (rv_eq rfl))) (decide_eq_false fun z => by have := V.int.inj z; omega)) (fun z => by cases z) fun _ H5 e5 => ?_
        have e05 := eT.trans e5
        refine s_call (ea_cons (ev_var rfl) (ea_cons (ev_op (ev_var rfl) ev_c rv_I0) (ea_cons (ev_var rfl) ea_nil))) fun H6 e6 => ?_
        have e06 := e05.trans e6
        have hb1 := bd.sum
        have hb2 := bd.nw
        refine ⟨A, _, ln.1, ln.2, hText nm ls, nm, tabs, H, st, rfl, oks ln hmem, by omega, by omega, bd.vals hU, by omega, h.mono e06, ?_⟩
        cases he : lineErr tabs st ln.1 ln.2 with
        | some er =>
          rw [he] at hrun
          rw [hrun] at q
          have q' : Rz K ((j + 2 : Nat) : Int) er H E := q
          have e7 : (((j + 1 : Nat) : Int) + 1) = ((j + 2 : Nat) : Int) := by omega
          rw [e7]
          exact Rz.mono q' (h.mono e06).g
        | none =>
          rw [he] at hrun
          exact fun H7 n7 h7 => ⟨_, _, rfl, n7 _ _ hpm (e06 _ _ hp), hpm, .inr ⟨j + 1, ln.2.step tabs st, rfl, h7, bd.step he (hUs ln hmem), hrun⟩⟩
    · rintro p σ' H' ⟨o1, o2, rfl, hp, hpm, hk⟩
      have hLl : L.length = ls.length + 1 := by rw [← hL]; simp
      rcases hk with ⟨hk, _⟩ | ⟨j, st, hk, h, bd, hrun⟩
      · omega
      · have : j = ls.length := by omega
        subst this
        rw [List.drop_length] at hrun
        rw [show runE tabs st (ls.length + 2) [] = none from rfl] at hrun
        rw [hrun] at q
        exact s_ret (ev_var rfl) fun H5 e5 => q _ _ (h.g.trans e5)
end
end K23

set_option Elab.async false
set_option linter.all false
set_option maxRecDepth 100000
set_option maxHeartbeats 4000000
/-! the law's draws: what an expression may come to, whatever is drawn -/
namespace K23
open PySem PySem.Spec PyProof.Rows L2 Evl
/-! ### the state of the draws -/
def DrS (s c : Addr) (H : Hp) : Prop := ∃ (zs : List Int) (a b n : Int), H s = some (.lst [.ref c, .int a, .int b, .int n]) ∧ H c = some (.lst (zs.map V.int))
structure Wr (s c : Addr) (G H : Hp) : Prop where
  g : Ex G H
  d : DrS s c H
  gs : G s = none
  gc : G c = none
  ne : s ≠ c
section
variable {s c : Addr} {G G' H H' : Hp}
theorem DrS.mono (h : DrS s c H) (e : Ex H H') : DrS s c H' := by
  obtain ⟨zs, a, b, n, h1, h2⟩ := h
  exact ⟨zs, a, b, n, e _ _ h1, e _ _ h2⟩
theorem Wr.ex (h : Wr s c G H) (e : Ex H H') : Wr s c G H' := ⟨h.g.trans e, h.d.mono e, h.gs, h.gc, h.ne⟩
theorem DrS.some1 (h : DrS s c H) : H s ≠ none ∧ H c ≠ none := by
  obtain ⟨zs, a, b, n, h1, h2⟩ := h
  rw [h1, h2]
  exact ⟨by simp, by simp⟩
/-- a new thing becomes known -/
theorem Wr.add {p : Addr} {o : HO} (h : Wr s c G H) (hp : H p = none) (e : Ex H H') (ho : H' p = some o) : Ex G (upd G p o) ∧ Wr s c (upd G p o) H' := by
  have hg : G p = none := fresh_back h.g hp
  have ns : s ≠ p := fun z => h.d.some1.1 (by rw [z]; exact hp)
  have nc : c ≠ p := fun z => h.d.some1.2 (by rw [z]; exact hp)
  refine ⟨Ex.new hg, ⟨fun b u hb => ?_, h.d.mono e, by rw [upd_ne ns]; exact h.gs, by rw [upd_ne nc]; exact h.gc, h.ne⟩⟩
  by_cases z : b = p
  · subst z
    rw [upd_same] at hb
    rw [ho]
    exact hb
  · rw [upd_ne z] at hb
    exact e _ _ (h.g _ _ hb)
/-- the draws' own lists change -/
theorem Wr.set {x : Addr} {o : HO} (h : Wr s c G H) (hx : x = s ∨ x = c) (d : DrS s c (upd H x o)) : Wr s c G (upd H x o) := by
  refine ⟨?_, d, h.gs, h.gc, h.ne⟩
  rcases hx with rfl | rfl
  · exact Ex.mut h.g h.gs
  · exact Ex.mut h.g h.gc
end
/-! ### what an expression may come to -/
def EvR (s c : Addr) (te : TE) (σ : L2.St) (G : Hp) (P : Hp → V → Prop) : Prop := ∀ H, Wr s c G H → ∀ Q : VK, (∀ v G2 H2, Ex G G2 → Wr s c G2 H2 → P G2 v → Q v H2) → te σ H Q
def ER2 (s c : Addr) (r : R2) (x y : V) (G : Hp) (P : Hp → V → Prop) : Prop := ∀ H, Wr s c G H → ∀ Q : VK, (∀ v G2 H2, Ex G G2 → Wr s c G2 H2 → P G2 v → Q v H2) → r x y H Q
def EvRA (s c : Addr) (ta : TA) (σ : L2.St) (G : Hp) (P : Hp → List V → Prop) : Prop := ∀ H, Wr s c G H → ∀ Q : List V → Hp → Prop, (∀ vs G2 H2, Ex G G2 → Wr s c G2 H2 → P G2 vs → Q vs H2) → ta σ H Q
abbrev isV (z : V) : Hp → V → Prop := fun _ u => u = z
abbrev isL (xs : List V) : Hp → V → Prop := fun G u => ∃ p, u = .ref p ∧ G p = some (.lst xs)
abbrev isU (xs : List V) : Hp → V → Prop := fun G u => ∃ p, u = .ref p ∧ G p = some (.tup xs)
section
variable {s c : Addr} {K : PySem.W.Frag} {σ : L2.St} {G G' H H' : Hp} {ta tb te tx td ty tv : TE} {t u : TT} {x y z v : V} {D : Ends} {tu tz : TS} {r : R2} {P Pa Pc : Hp → V → Prop}
theorem er_of (h : Ev te σ G v) : EvR s c te σ G (isV v) := fun H W Q q => h H W.g Q fun H2 e2 => q v G H2 (Ex.refl G) (W.ex e2) rfl
theorem er_ofL {xs : List V} (h : EvL te σ G xs) : EvR s c te σ G (isL xs) := fun H W Q q => h H W.g Q fun p H2 hp e2 h2 => by
  obtain ⟨e, W2⟩ := W.add hp e2 h2
  exact q _ _ H2 e W2 ⟨p, rfl, upd_same⟩
theorem er_ofU {xs : List V} (h : EvU te σ G xs) : EvR s c te σ G (isU xs) := fun H W Q q => h H W.g Q fun p H2 hp e2 h2 => by
  obtain ⟨e, W2⟩ := W.add hp e2 h2
  exact q _ _ H2 e W2 ⟨p, rfl, upd_same⟩
theorem er2_of (h : RV r x y G z) : ER2 s c r x y G (isV z) := fun H W Q q => h H W.g Q fun H2 e2 => q z G H2 (Ex.refl G) (W.ex e2) rfl
theorem er_op {Pb : V → Hp → V → Prop} (ha : EvR s c ta σ G Pa) (hb : ∀ G2 x, Ex G G2 → Pa G2 x → EvR s c tb σ G2 (Pb x)) (hr : ∀ G2 G3 x y, Ex G G2 → Ex G2 G3 → Pa G2 x → Pb x G3 y → ER2 s c r x y G3 Pc) : EvR s c (tOp r ta tb) σ G Pc := fun H W Q q =>
  ha H W _ fun x G2 H2 e2 W2 p2 => hb G2 x e2 p2 H2 W2 _ fun y G3 H3 e3 W3 p3 => hr G2 G3 x y e2 e3 p2 p3 H3 W3 Q fun v G4 H4 e4 W4 p4 => q v G4 H4 (e2.trans (e3.trans e4)) W4 p4
theorem er_w (h : EvR s c te σ G P) (k : ∀ G2 v, Ex G G2 → P G2 v → Pc G2 v) : EvR s c te σ G Pc := fun H W Q q => h H W Q fun v G2 H2 e2 W2 p => q v G2 H2 e2 W2 (k G2 v e2 p)
theorem era_nil : EvRA s c tNil σ G (fun _ vs => vs = []) := fun H W Q q => q [] G H (Ex.refl G) W rfl
theorem era_of {ta' : TA} {vs : List V} (h : EvA ta' σ G vs) : EvRA s c ta' σ G (fun _ us => us = vs) := fun H W Q q => h H W.g Q fun H2 e2 => q vs G H2 (Ex.refl G) (W.ex e2) rfl
theorem era_cons {ta' : TA} {Pr : V → Hp → List V → Prop} (h : EvR s c te σ G P) (hr : ∀ G2 x, Ex G G2 → P G2 x → EvRA s c ta' σ G2 (Pr x)) : EvRA s c (tCons te ta') σ G (fun G3 us => ∃ x G2 r, Ex G2 G3 ∧ P G2 x ∧ Pr x G3 r ∧ us = x :: r) := fun H W Q q =>
  h H W _ fun x G2 H2 e2 W2 p2 => hr G2 x e2 p2 H2 W2 _ fun r G3 H3 e3 W3 p3 => q _ G3 H3 (e2.trans e3) W3 ⟨x, G2, r, e3, p2, p3, rfl⟩
theorem er_cb {ta' : TA} {rr : List V → Hp → VK → Prop} {PA : Hp → List V → Prop} (h : EvRA s c ta' σ G PA) (hr : ∀ G2 vs, Ex G G2 → PA G2 vs → ∃ z, RC rr vs G2 z ∧ (∀ G3, Ex G2 G3 → P G3 z)) : EvR s c (tCB rr ta') σ G P := fun H W Q q =>
  h H W _ fun vs G2 H2 e2 W2 p2 => by
    obtain ⟨z, h1, h2⟩ := hr G2 vs e2 p2
    exact h1 H2 W2.g Q fun H3 e3 => q z G2 H3 e2 (W2.ex e3) (h2 G2 (Ex.refl G2))
theorem er_lst {ta' : TA} {PA : Hp → List V → Prop} (h : EvRA s c ta' σ G PA) (hl : ∀ G2 vs, PA G2 vs → vs.length ≤ 100000) : EvR s c (tLst ta') σ G (fun G2 u => ∃ p vs G1, u = .ref p ∧ Ex G1 G2 ∧ Ex G G1 ∧ G1 p = none ∧ PA G1 vs ∧ G2 p = some (.lst vs)) := fun H W Q q =>
  h H W _ fun vs G2 H2 e2 W2 p2 => ⟨sz_of (hl G2 vs p2), fun p hp => by
    obtain ⟨e, W3⟩ := W2.add hp (Ex.new hp (o := .lst vs)) upd_same
    exact q _ _ _ (e2.trans e) W3 ⟨p, vs, G2, rfl, e, e2, fresh_back W2.g hp, p2, upd_same⟩⟩
theorem er_tup {ta' : TA} {PA : Hp → List V → Prop} (h : EvRA s c ta' σ G PA) (hl : ∀ G2 vs, PA G2 vs → vs.length ≤ 100000) : EvR s c (tTup ta') σ G (fun G2 u => ∃ p vs G1, u = .ref p ∧ Ex G1 G2 ∧ PA G1 vs ∧ G2 p = some (.tup vs)) := fun H W Q q =>
  h H W _ fun vs G2 H2 e2 W2 p2 => ⟨sz_of (hl G2 vs p2), fun p hp => by
    obtain ⟨e, W3⟩ := W2.add hp (Ex.new hp (o := .tup vs)) upd_same
    exact q _ _ _ (e2.trans e) W3 ⟨p, vs, G2, rfl, e, p2, upd_same⟩⟩
theorem er_call {ta' : TA} {sp : Sp} {E : XK} {PA : Hp → List V → Prop} (h : EvRA s c ta' σ G PA) (hs : ∀ G2 vs H2, Ex G G2 → PA G2 vs → Wr s c G2 H2 → ∀ Q : VK, (∀ v G3 H3, Ex G2 G3 → Wr s c G3 H3 → P G3 v → Q v H3) → sp vs H2 Q E) : EvR s c (tCall sp [] E ta') σ G P := fun H W Q q =>
  h H W _ fun vs G2 H2 e2 W2 p2 => by
    rw [List.append_nil]
    exact hs G2 vs H2 e2 p2 W2 Q fun v G3 H3 e3 W3 p3 => q v G3 H3 (e2.trans e3) W3 p3
theorem er_if {b : Bool} (h : EvT t σ G b) (h1 : b = true → EvR s c ta σ G P) (h2 : b = false → EvR s c tb σ G P) : EvR s c (tIf t ta tb) σ G P := fun H W Q q => h H W.g _ fun H2 e2 => by
  cases b with
  | true => exact h1 rfl H2 (W.ex e2) Q q
  | false => exact h2 rfl H2 (W.ex e2) Q q
/-- statements -/
theorem r_asg {i : Nat} (W : Wr s c G H) (h : EvR s c te σ G P) (k : ∀ v G2 H2, Ex G G2 → Wr s c G2 H2 → P G2 v → tz D (σ.set i (some v)) H2) : tSeq (tAsg te (gName i)) tz D σ H := h H W _ k
theorem r_ret (W : Wr s c G H) (h : EvR s c te σ G P) (k : ∀ v G2 H2, Ex G G2 → Wr s c G2 H2 → P G2 v → D.rt v H2) : tRet te D σ H := h H W _ k
theorem r_when {b : Bool} (W : Wr s c G H) (h : EvT t σ G b) (h1 : b = true → ∀ H1, Wr s c G H1 → tu { D with nx := tz D } σ H1) (h2 : b = false → ∀ H1, Wr s c G H1 → tz D σ H1) : tSeq (tIfS t tu tNext) tz D σ H :=
  q_when (h.mono W.g) (fun hb H1 e1 => h1 hb H1 (W.ex e1)) (fun hb H1 e1 => h2 hb H1 (W.ex e1))
theorem rv_cat {a b : Str} (hl : a.length + b.length ≤ 100000) : RV (fun x y H Q => ∃ i j, x = .str i ∧ y = .str j ∧ i.length + j.length ≤ sizeLine ∧ Q (.str (i ++ j)) H) (.str a) (.str b) H (.str (a ++ b)) := fun H1 _ Q q => ⟨a, b, rfl, rfl, sz_of hl, q H1 (Ex.refl H1)⟩
theorem rv_rep {c : Nat} {n : Int} (h1 : -100 ≤ n) (h2 : n ≤ 100) : RV (fun x y H Q => ∃ (c : Nat) (n : Int), x = .str ⟨#[c]⟩ ∧ y = .int n ∧ -100 ≤ n ∧ n ≤ 100 ∧ Q (.str (repS c n)) H) (.str ⟨#[c]⟩) (.int n) H (.str (repS c n)) := fun H1 _ Q q => ⟨c, n, rfl, rfl, h1, h2, q H1 (Ex.refl H1)⟩
def rInt1 : List V → Hp → VK → Prop := fun xs H Q => (∃ i, xs = [.int i] ∧ Q (.int i) H) ∨ ∃ k, xs = [.bl k] ∧ Q (.int (if k then 1 else 0)) H
theorem ev_int1 {i : Int} (h : Ev te σ H (.int i)) : Ev (tCB rInt1 (tCons te tNil)) σ H (.int i) := fun H1 e Q q => h H1 e _ fun H2 e2 => .inl ⟨i, rfl, q H2 e2⟩
theorem ev_intB {b : Bool} (h : Ev te σ H (.bl b)) : Ev (tCB rInt1 (tCons te tNil)) σ H (.int (if b then 1 else 0)) := fun H1 e Q q => h H1 e _ fun H2 e2 => .inr ⟨b, rfl, q H2 e2⟩
theorem rc_int1 {i : Int} : RC rInt1 [.int i] H (.int i) := fun H1 _ Q q => .inl ⟨i, rfl, q H1 (Ex.refl H1)⟩
theorem rc_intB {b : Bool} : RC rInt1 [.bl b] H (.int (if b then 1 else 0)) := fun H1 _ Q q => .inr ⟨b, rfl, q H1 (Ex.refl H1)⟩
end
section
variable {K : PySem.W.Frag} {σ : L2.St} {H : Hp} {te to tb : TE} {ta' : TA} {D : Ends} {tz : TS} {r : R2} {c : Addr}
theorem s_retLL {xs vs : List V} (h : EvL te σ H xs) (hr : EvA ta' σ H vs) (hl : vs.length ≤ 90000) (k : ∀ p p2 H1, H p = none → H p2 = none → p2 ≠ p → Ex H H1 → H1 p = some (.lst xs) → H1 p2 = some (.lst (.ref p :: vs)) → D.rt (.ref p2) H1) : tRet (tLst (tCons te ta')) D σ H :=
  h H (Ex.refl H) _ fun p H1 hp e1 h1 => hr H1 e1 _ fun H2 e2 => ⟨sz_of (by rw [List.length_cons]; omega), fun p2 hp2 => by
    have h2 := e2 _ _ h1
    have np : p2 ≠ p := fun z => by rw [z, h2] at hp2; cases hp2
    exact k p p2 _ hp (fresh_back (e1.trans e2) hp2) np ((e1.trans e2).trans (Ex.new hp2)) (by rw [upd_ne np.symm]; exact h2) upd_same⟩
/-- x = int(l.pop(0)) op e -/
theorem q_asgPop {i : Nat} {z m : Int} {v : V} {zr : List V} (hc : H c = some (.lst (.int z :: zr))) (ho : Ev to σ H (.ref c)) (hb : ∀ H1, Ev tb σ H1 (.int m)) (hr : ∀ H1, RV r (.int z) (.int m) H1 v)
    (k : ∀ H1 H2, Ex H H1 → Ex (upd H1 c (.lst zr)) H2 → tz D (σ.set i (some v)) H2) : tSeq (tAsg (tOp r (tCB rInt1 (tCons (tBM K "list" rPopAt to (tCons (tC (.int 0)) tNil)) tNil)) tb) (gName i)) tz D σ H :=
  ho H (Ex.refl H) _ fun H1 e1 => ⟨Or.inl ⟨rfl, _, sq_of (e1 _ _ hc)⟩, ⟨c, _, 0, 0, .int z, rfl, rfl, e1 _ _ hc, by decide, by decide, by unfold seqIndex?; simp, rfl, .inl ⟨z, rfl,
    hb _ _ (Ex.refl _) _ fun H2 e2 => hr H2 H2 (Ex.refl H2) _ fun H3 e3 => k H1 H3 e1 (e2.trans e3)⟩⟩⟩
end
/-! ### promises -/
def spState (K : PySem.W.Frag) : Sp := fun vs H Q _ => ∃ (l : Addr) (ns : List Int), vs = [.ref l] ∧ SqL K H l (ns.map V.int) ∧ ∀ s c H2, H s = none → H c = none → s ≠ c → Ex H H2 → DrS s c H2 → Q (.ref s) H2
def spDraw : Sp := fun vs H Q _ => ∃ (s c : Addr) (lim : Int) (G : Hp), vs = [.ref s, .int lim] ∧ 0 < lim ∧ lim < 1000000 ∧ Wr s c G H ∧ ∀ (d : Int) H2, 0 ≤ d → d < lim → Wr s c G H2 → Q (.int d) H2
/-- a draw -/
theorem er_draw {s c : Addr} {σ : L2.St} {G : Hp} {ta' : TA} {E : XK} {PA : Hp → List V → Prop} {lim : Int} (h : EvRA s c ta' σ G PA) (hl : ∀ G2 vs, Ex G G2 → PA G2 vs → vs = [.ref s, .int lim]) (h1 : 0 < lim) (h2 : lim < 1000000) :
    EvR s c (tCall spDraw [] E ta') σ G (fun _ v => ∃ d : Int, v = .int d ∧ 0 ≤ d ∧ d < lim) := er_call h fun G2 vs H2 e2 p2 W2 Q q => by
  rw [hl G2 vs e2 p2]
  exact ⟨s, c, lim, G2, rfl, h1, h2, W2, fun d H3 d1 d2 W3 => q _ G2 H3 (Ex.refl G2) W3 ⟨d, rfl, d1, d2⟩⟩
theorem er_drawE {s c : Addr} {σ : L2.St} {G : Hp} {ta' : TA} {E : XK} {lim : Int} (h : EvA ta' σ G [.ref s, .int lim]) (h1 : 0 < lim) (h2 : lim < 1000000) :
    EvR s c (tCall spDraw [] E ta') σ G (fun _ v => ∃ d : Int, v = .int d ∧ 0 ≤ d ∧ d < lim) := er_draw (era_of h) (fun _ _ _ z => z) h1 h2
theorem dp_ints {K : PySem.W.Frag} {H : Hp} : ∀ zs : List Int, DpAll K H (zs.map V.int) (zs.map PyData.int)
  | [] => .nil
  | z :: r => .cons (.int z) (dp_ints r)
theorem lay_ints : ∀ zs : List Int, PyData.canLayAll0 (zs.map PyData.int) = true ∧ PyData.depthAll (zs.map PyData.int) = 0
  | [] => ⟨by simp [PyData.canLayAll0], by simp [PyData.depthAll]⟩
  | z :: r => by
    obtain ⟨h1, h2⟩ := lay_ints r
    exact ⟨by simp [PyData.canLayAll0, PyData.canLay0, h1], by simp [PyData.depthAll, PyData.depth, h2]⟩
theorem shaped_ints (zs : List Int) : SeqAt.shaped (.list (zs.map PyData.int)) = true := by
  obtain ⟨h1, h2⟩ := lay_ints zs
  unfold SeqAt.shaped
  simp [PyData.canLay0, PyData.depth, h1, h2]
theorem rv_neNil {K : PySem.W.Frag} {H : Hp} {a p : Addr} {zs : List Int} (h : H a = some (.lst (zs.map V.int))) (hp : H p = some (.lst [])) : RV (rNeD K) (.ref a) (.ref p) H (.bl (!zs.isEmpty)) := fun H1 e Q q =>
  ⟨_, _, .lst (sq_of (e _ _ h)) (dp_ints zs), .lst (sq_of (e _ _ hp)) .nil, shaped_ints zs, shaped_ints [], by
    have e2 : PyData.eqv (.list (zs.map PyData.int)) (.list []) = zs.isEmpty := by
      cases zs with
      | nil => simp [PyData.eqv, PyData.eqvAll]
      | cons z r => simp [PyData.eqv, PyData.eqvAll]
    rw [e2]
    exact q H1 (Ex.refl H1)⟩
section
variable {P : Program} {w : World} {K : PySem.W.Frag} {mg : Str → Option Value} {base : Heap}
theorem ok_law_get_state (T : Txt K mg) : CalX P w K mg base CX0 1 "_law_get_state" ["_law_script"] (spState K) := by
  obtain ⟨fd, F⟩ := T.f_law_get_state
  refine ⟨_, fd, F.ok sc_law_get_state (fun vs H Q E h => ?_) (fun cdv A outer s H vs Q E hr h => ?_), T.g_law_get_state, F.kp, F.bindsN fun _ _ _ _ _ _ us hl => match us, hl with | [_], _ => rfl⟩
  · obtain ⟨l, ns, rfl, _⟩ := h; rfl
  · obtain ⟨l, ns, rfl, hl, q⟩ := h
    refine ⟨_, (PSs.nox (pss_one (ps_ret (pe_lst (pa_cons (pe_lc (own := [("_law_cell", 1)]) (g := gName 1) (tt := tYes) (by rfl) sc_law_get_state.nd (pi_list (pe_slice sl_list (pv 0) po_none (po_some pe_int))) (blkOk_by (own := [("_law_cell", 1)]) (N := ["_law_script", "_law_cell"]) (sc := defScope s_law_get_state) (by decide +kernel)) (fun _ _ _ _ _ => pg_name (i := 1) sc_law_get_state.nd rfl (Or.inl rfl)) (fun _ _ _ _ _ => pts_nil) (fun _ _ _ _ _ => (pe_op op_add (pe_op op_mul pe_int (pe_callB call_abs (by rfl) T.b_abs (by decide +kernel) (pa_cons (pv 1) pa_nil))) (pe_callTy call_int1 (by rfl) T.b_int (by decide +kernel) (pa_cons (pe_cmpR op_lt (pv 1) pe_int (nomark _)) pa_nil))))) (pa_cons pe_int (pa_cons pe_int (pa_cons pe_int pa_nil)))))))), ?_⟩
    have cut : cutV (ns.map V.int) none (some 63) = (ns.take 63).map V.int := by
      unfold cutV
      rw [show HT.sIx (ns.map V.int).length 0 none = 0 from rfl, List.drop_zero, Nat.sub_zero, List.map_take]
      by_cases h : 63 ≤ ns.length
      · rw [show (some (63 : Int)) = some ((63 : Nat) : Int) from rfl, sIx_nat (by rw [List.length_map]; exact h)]
      · have e : HT.sIx (ns.map V.int).length (ns.map V.int).length (some 63) = ns.length := by
          rw [List.length_map]
          unfold HT.sIx
          simp
          omega
        rw [e, List.take_of_length_le (by rw [List.length_map]; omega), List.take_of_length_le (by rw [List.length_map]; omega)]
    refine s_retLL (xs := ((ns.take 63).map V.int).map fun v => match v with | .int i => .int (2 * (if i < 0 then -i else i) + (if decide (i < 0) then 1 else 0)) | _ => .non) (vs := [.int 0, .int 1, .int 0]) ?_ (ea_cons ev_c (ea_cons ev_c (ea_cons ev_c ea_nil))) (by decide) fun p p2 H1 hp hp2 np e1 h1 h2 => ?_
    · refine el_mapN (K := K) (j := 1) _ (el_is (el_sl (ev_var rfl) eo_none (eo_some ev_c) hl) cut) (by rw [List.length_map, List.length_take]; omega) fun x H1 e1 hx => ?_
      obtain ⟨i, _, rfl⟩ := List.mem_map.mp hx
      exact ev_op (ev_op (x := .int 2) ev_c (ev_cb (ea_cons (ev_var (v := .int i) rfl) ea_nil) (fun H2 _ Q2 q2 => ⟨i, rfl, q2 H2 (Ex.refl H2)⟩)) (rv_I (i := 2) (j := if i < 0 then -i else i) (.inl ⟨by decide, by decide⟩))) (ev_intB (ev_op (ev_var rfl) ev_c rv_I0)) rv_I0
    · refine q p2 p _ hp2 hp np e1 ⟨(ns.take 63).map fun i => 2 * (if i < 0 then -i else i) + (if decide (i < 0) then 1 else 0), 0, 1, 0, h2, ?_⟩
      rw [h1, List.map_map, List.map_map]
      rfl
theorem ok_law_draw (T : Txt K mg) : CalX P w K mg base CX0 1 "_law_draw" ["_law_st", "_law_limit"] spDraw := by
  obtain ⟨fd, F⟩ := T.f_law_draw
  refine ⟨_, fd, F.ok sc_law_draw (fun vs H Q E h => ?_) (fun cdv A outer s H vs Q E hr h => ?_), T.g_law_draw, F.kp, F.bindsN fun _ _ _ _ _ _ us hl => match us, hl with | [_, _], _ => rfl⟩
  · obtain ⟨s, c, lim, G, rfl, _⟩ := h; rfl
  · obtain ⟨s, c, lim, G, rfl, l1, l2, W, q⟩ := h
    refine ⟨_, (PSs.nox (pss_cut (ps_if (PW.pt (pw_and (pt_cmpR op_eq (pe_ix ix_list (pv 0) pe_int (fun _ _ => rfl)) pe_int (nomark _)) (pw_and1 (pt_cmpR (op_neD hr.units) (pe_ix ix_list (pv 0) pe_int (fun _ _ => rfl)) (pe_lst pa_nil) (nomark _))))) (pss_cons (ps_set (i := 2) sc_law_draw.nd rfl (by first | exact Or.inl rfl | exact Or.inr rfl) (pe_op op_mod (pe_callTy call_int1 (by rfl) T.b_int (by decide +kernel) (pa_cons (pe_bm PySem.F.plainAttrs_list PySem.F.slot_list_pop PySem.F.type_list_pop mt_popAt (pe_ix ix_list (pv 0) pe_int (fun _ _ => rfl)) (pa_cons pe_int pa_nil)) pa_nil)) (pe_op op_powW (pe_op op_powW pe_int pe_int) pe_int)))
        (pss_one (ps_if (pt_cmpR op_ge (pv 2) (pe_op op_powW pe_int pe_int) (nomark _)) (pss_one (ps_asg (pv 2) (pg_sub (pv 0) pe_int set_list))) (pss_one (ps_asg (pe_op op_mod (pe_callTy call_int1 (by rfl) T.b_int (by decide +kernel) (pa_cons (pe_op op_add (pe_op op_add (pe_op op_mul (pe_ix ix_list (pv 0) pe_int (fun _ _ => rfl)) pe_int) (pe_op op_mul (pv 2) pe_int)) pe_int) pa_nil)) pe_int) (pg_sub (pv 0) pe_int set_list)))))) pss_nil)
        (pss_cons (ps_if (pt_cmpR op_gt (pe_ix ix_list (pv 0) pe_int (fun _ _ => rfl)) pe_int (nomark _)) (pss_cons (ps_set (i := 3) sc_law_draw.nd rfl (by first | exact Or.inl rfl | exact Or.inr rfl) (pe_op op_mod (pe_callTy call_int1 (by rfl) T.b_int (by decide +kernel) (pa_cons (pe_ix ix_list (pv 0) pe_int (fun _ _ => rfl)) pa_nil)) (pv 1)))
        (pss_cons (ps_asg (pe_op op_fdiv (pe_ix ix_list (pv 0) pe_int (fun _ _ => rfl)) (pv 1)) (pg_sub (pv 0) pe_int set_list))
        (pss_one (ps_ret (pv 3))))) pss_nil)
        (pss_cons (ps_asg (pe_op op_add (pe_ix ix_list (pv 0) pe_int (fun _ _ => rfl)) pe_int) (pg_sub (pv 0) pe_int set_list))
        (pss_cons (ps_asg (pe_op op_mod (pe_callTy call_int1 (by rfl) T.b_int (by decide +kernel) (pa_cons (pe_op op_add (pe_op op_mul (pe_ix ix_list (pv 0) pe_int (fun _ _ => rfl)) pe_int) (pe_op op_mul (pe_ix ix_list (pv 0) pe_int (fun _ _ => rfl)) pe_int)) pa_nil)) pe_int) (pg_sub (pv 0) pe_int set_list))
        (pss_one (ps_ret (pe_op op_mod (pe_op op_mod (pe_callTy call_int1 (by rfl) T.b_int (by decide +kernel) (pa_cons (pe_op op_add (pe_op op_mul (pe_ix ix_list (pv 0) pe_int (fun _ _ => rfl)) pe_int) (pe_ix ix_list (pv 0) pe_int (fun _ _ => rfl))) pa_nil)) pe_int) (pv 1))))))))), ?_⟩
    refine q_cut (M := fun σ' H' => ∃ o : Option V, σ' = [some (.ref s), some (.int lim), o, none] ∧ Wr s c G H') ?_ ?_
    · obtain ⟨zs, a, b, n, hs, hc⟩ := id W.d
      refine s_when (et_and (et_test (ev_op (ev_ix 1 rfl hs rfl) ev_c (rv_eq rfl))) fun _ => et_test (ev_opL (ev_ix 0 rfl hs rfl) (el_lst ea_nil (Nat.le_of_ble_eq_true rfl)) fun p H1 hp e1 => rv_neNil (e1 _ _ hc) hp)) (fun hz H1 e1 => ?_) (fun _ H1 e1 => ⟨none, rfl, W.ex e1⟩)
      rw [Bool.and_eq_true] at hz
      have W1 := W.ex e1
      obtain ⟨z0, zr, rfl⟩ : ∃ z0 zr, zs = z0 :: zr := by
        cases zs with
        | nil => exact absurd hz.2 (by decide)
        | cons z0 zr => exact ⟨z0, zr, rfl⟩
      have hs1 := e1 _ _ hs
      have hc1 := e1 _ _ hc
      have hsN : upd H1 c (.lst (zr.map V.int)) s = some (.lst [.ref c, .int a, .int b, .int n]) := by rw [upd_ne W.ne]; exact hs1
      have W2 : Wr s c G (upd H1 c (.lst (zr.map V.int))) := W1.set (.inr rfl) ⟨zr, a, b, n, hsN, upd_same⟩
      refine q_asgPop (i := 2) (m := ((10 : Int) ^ (50 : Int).toNat) ^ (8 : Int).toNat) hc1 (ev_ix 0 rfl hs1 rfl) (fun H2 => ev_op (ev_op ev_c ev_c (rv_I (C := CPowW) ⟨by decide, by decide +kernel⟩)) ev_c (rv_I (C := CPowW) ⟨by decide, by decide +kernel⟩)) (fun H2 => rv_I (by decide +kernel)) fun H2 H3 e2 e3 => ?_
      generalize z0 % ((10 : Int) ^ (50 : Int).toNat) ^ (8 : Int).toNat = cell
      have hs2 : upd H2 c (.lst (zr.map V.int)) s = some (.lst [.ref c, .int a, .int b, .int n]) := by rw [upd_ne W.ne]; exact e2 _ _ hs1
      have W3 : Wr s c G H3 := ((W1.ex e2).set (.inr rfl) ⟨zr, a, b, n, hs2, upd_same⟩).ex e3
      have hs3 := e3 _ _ hs2
      have hc3 : H3 c = some (.lst (zr.map V.int)) := e3 _ _ upd_same
      refine s_if (et_test (ev_op (ev_var rfl) (ev_op ev_c ev_c (rv_I (C := CPowW) ⟨by decide, by decide +kernel⟩)) rv_I0)) (fun _ H4 e4 => ?_) (fun _ H4 e4 => ?_)
      · refine s_setL (j := 1) (e4 _ _ hs3) (ev_var rfl) (ev_var rfl) ev_c (Nat.le_of_ble_eq_true rfl) fun H5 e5 => ⟨_, rfl, ?_⟩
        refine ((W3.ex e4).ex e5).set (.inl rfl) ⟨zr, cell, b, n, upd_same, ?_⟩
        rw [upd_ne W.ne.symm]
        exact e5 _ _ (e4 _ _ hc3)
      · have hs4 := e4 _ _ hs3
        refine s_setL (j := 2) (v := .int ((b * 48271 + cell * 40692 + 7) % 2147483647)) hs4 (ev_op (ev_int1 (ev_op (ev_op (ev_op (ev_ix 2 rfl hs4 rfl) ev_c (rv_I (C := CMul) (.inr ⟨by decide, by decide⟩))) (ev_op (ev_var rfl) ev_c (rv_I (C := CMul) (.inr ⟨by decide, by decide⟩))) rv_I0) ev_c rv_I0)) ev_c (rv_I (by decide))) (ev_var rfl) ev_c (Nat.le_of_ble_eq_true rfl) fun H5 e5 => ⟨_, rfl, ?_⟩
        refine ((W3.ex e4).ex e5).set (.inl rfl) ⟨zr, a, (b * 48271 + cell * 40692 + 7) % 2147483647, n, upd_same, ?_⟩
        rw [upd_ne W.ne.symm]
        exact e5 _ _ (e4 _ _ hc3)
    · rintro σ' H' ⟨o, rfl, W1⟩
      obtain ⟨zs, a, b, n, hs, hc⟩ := id W1.d
      refine q_when (et_test (ev_op (ev_ix 1 rfl hs rfl) ev_c rv_I0)) (fun _ H1 e1 => ?_) (fun _ H1 e1 => ?_)
      · have hs1 := e1 _ _ hs
        refine q_asg (v := .int (a % lim)) (ev_op (ev_int1 (ev_ix 1 rfl hs1 rfl)) (ev_var rfl) (rv_I l1)) fun H2 e2 => ?_
        have hs2 := e2 _ _ hs1
        refine q_setL (j := 1) (v := .int (a / lim)) hs2 (ev_op (ev_ix 1 rfl hs2 rfl) (ev_var rfl) (rv_I (C := CDiv) ⟨l1, by omega⟩)) (ev_var rfl) ev_c (Nat.le_of_ble_eq_true rfl) fun H3 e3 => ?_
        have W3 : Wr s c G (upd H3 s (.lst [.ref c, .int (a / lim), .int b, .int n])) := (((W1.ex e1).ex e2).ex e3).set (.inl rfl) ⟨zs, a / lim, b, n, upd_same, by rw [upd_ne W.ne.symm]; exact e3 _ _ (e2 _ _ (e1 _ _ hc))⟩
        exact s_ret (ev_var rfl) fun H4 e4 => q _ H4 (Int.emod_nonneg _ (by omega)) (Int.emod_lt_of_pos _ l1) (W3.ex e4)
      · have hs1 := e1 _ _ hs
        refine q_setL (j := 3) (v := .int (n + 1)) hs1 (ev_op (ev_ix 3 rfl hs1 rfl) ev_c rv_I0) (ev_var rfl) ev_c (Nat.le_of_ble_eq_true rfl) fun H2 e2 => ?_
        have hs2 : upd H2 s (.lst [.ref c, .int a, .int b, .int (n + 1)]) s = some (.lst [.ref c, .int a, .int b, .int (n + 1)]) := upd_same
        have hc2 : upd H2 s (.lst [.ref c, .int a, .int b, .int (n + 1)]) c = some (.lst (zs.map V.int)) := by rw [upd_ne W.ne.symm]; exact e2 _ _ (e1 _ _ hc)
        have W2 : Wr s c G (upd H2 s (.lst [.ref c, .int a, .int b, .int (n + 1)])) := ((W1.ex e1).ex e2).set (.inl rfl) ⟨zs, a, b, n + 1, hs2, hc2⟩
        refine q_setL (H := upd H2 s (.lst [.ref c, .int a, .int b, .int (n + 1)])) (j := 2) (v := .int ((b * 48271 + (n + 1) * 69621) % 2147483647)) hs2 (ev_op (ev_int1 (ev_op (ev_op (ev_ix 2 rfl hs2 rfl) ev_c (rv_I (C := CMul) (.inr ⟨by decide, by decide⟩))) (ev_op (ev_ix 3 rfl hs2 rfl) ev_c (rv_I (C := CMul) (.inr ⟨by decide, by decide⟩))) rv_I0)) ev_c (rv_I (by decide))) (ev_var rfl) ev_c (Nat.le_of_ble_eq_true rfl) fun H3 e3 => ?_
        generalize (b * 48271 + (n + 1) * 69621) % 2147483647 = b2
        have hs3 : upd H3 s (.lst [.ref c, .int a, .int b2, .int (n + 1)]) s = some (.lst [.ref c, .int a, .int b2, .int (n + 1)]) := upd_same
        have W3 : Wr s c G (upd H3 s (.lst [.ref c, .int a, .int b2, .int (n + 1)])) := (W2.ex e3).set (.inl rfl) ⟨zs, a, b2, n + 1, hs3, by rw [upd_ne W.ne.symm]; exact e3 _ _ hc2⟩
        refine s_ret (H := upd H3 s (.lst [.ref c, .int a, .int b2, .int (n + 1)])) (v := .int ((b2 * 16807 + (n + 1)) % 2147483629 % lim)) (ev_op (ev_op (ev_int1 (ev_op (ev_op (ev_ix 2 rfl hs3 rfl) ev_c (rv_I (C := CMul) (.inr ⟨by decide, by decide⟩))) (ev_ix 3 rfl hs3 rfl) rv_I0)) ev_c (rv_I (by decide))) (ev_var rfl) (rv_I l1)) fun H4 e4 => ?_
        exact q _ H4 (Int.emod_nonneg _ (by omega)) (Int.emod_lt_of_pos _ l1) (W3.ex e4)
end
end K23

set_option Elab.async false
set_option linter.all false
set_option maxRecDepth 100000
set_option maxHeartbeats 4000000
/-! the law's names, chains and tables -/
namespace K23
open PySem PySem.Spec PyProof.Rows L2 Evl
section
variable {s c : Addr} {K : PySem.W.Frag} {σ : L2.St} {G G' H H' : Hp} {ta tb te : TE} {t u : TT} {x y z v : V} {D : Ends} {tu tz : TS} {r : R2} {P Pa Pb Pc : Hp → V → Prop}
theorem er_opE (ha : Ev ta σ G z) (hb : EvR s c tb σ G Pb) (hr : ∀ G3 y, Ex G G3 → Pb G3 y → ∃ v, RV r z y G3 v ∧ Pc G3 v) : EvR s c (tOp r ta tb) σ G Pc := fun H W Q q =>
  ha H W.g _ fun H1 e1 => hb H1 (W.ex e1) _ fun y G2 H2 e2 W2 p2 => by
    obtain ⟨v, h1, h2⟩ := hr G2 y e2 p2
    exact h1 H2 W2.g Q fun H3 e3 => q v G2 H3 e2 (W2.ex e3) h2
theorem er_opE2 (ha : EvR s c ta σ G Pa) (hb : ∀ G2, Ex G G2 → Ev tb σ G2 z) (hr : ∀ G3 y, Ex G G3 → Pa G3 y → ∃ v, RV r y z G3 v ∧ Pc G3 v) : EvR s c (tOp r ta tb) σ G Pc := fun H W Q q =>
  ha H W _ fun y G2 H2 e2 W2 p2 => hb G2 e2 H2 W2.g _ fun H3 e3 => by
    obtain ⟨v, h1, h2⟩ := hr G2 y e2 p2
    exact h1 H3 (W2.g.trans e3) Q fun H4 e4 => q v G2 H4 e2 (W2.ex (e3.trans e4)) h2
theorem er_drawN {ta' : TA} {E : XK} {lim : Int} (h : EvA ta' σ G [.ref s, .int lim]) (h1 : 0 < lim) (h2 : lim < 1000000) :
    EvR s c (tCall spDraw [] E ta') σ G (fun _ v => ∃ d : Nat, v = .int (d : Int) ∧ (d : Int) < lim) := er_w (er_drawE h h1 h2) fun _ v _ ⟨d, e, d1, d2⟩ => ⟨d.toNat, by rw [e, Int.toNat_of_nonneg d1], by rw [Int.toNat_of_nonneg d1]; exact d2⟩
/-- a comprehension over a range whose end is drawn -/
theorem er_lcN {ta' : TA} {g : TG} {tt : TT} {js : List Nat} {PA : Hp → List V → Prop} (h : EvRA s c ta' σ G PA) (hn : ∀ G2 vs, Ex G G2 → PA G2 vs → ∃ n : Int, vs = [.int n] ∧ EvR s c (tLc (iRng1 (fun _ H Q => Q [.int n] H)) g tt te js) σ G2 P) :
    EvR s c (tLc (iRng1 ta') g tt te js) σ G P := fun H W Q q => h H W _ fun vs G2 H2 e2 W2 p2 => by
  obtain ⟨n, rfl, h2⟩ := hn G2 vs e2 p2
  exact h2 H2 W2 Q fun v G3 H3 e3 W3 p3 => q v G3 H3 (e2.trans e3) W3 p3
theorem ea_const {vs : List V} : EvA (fun _ H Q => Q vs H) σ H vs := fun H1 _ Q q => q H1 (Ex.refl H1)
/-- a comprehension over a range whose items are drawn -/
theorem er_lcRR {j n : Nat} {js : List Nat} {Pe : V → Prop} (hn : n ≤ 1000) (hw : ∀ x, wipe ((wipe σ js).set j (some x)) js = wipe σ js) (he : ∀ (i : Nat) G2, Ex G G2 → i < n → EvR s c te ((wipe σ js).set j (some (.int (i : Int)))) G2 (fun _ v => Pe v)) :
    EvR s c (tLc (iRng1 (fun _ H Q => Q [.int (n : Int)] H)) (gName j) tYes te js) σ G (fun G2 u => ∃ p xs, u = .ref p ∧ G2 p = some (.lst xs) ∧ xs.length = n ∧ ∀ x ∈ xs, Pe x) := fun H W Q q =>
  ⟨(n : Int), rfl, by omega, by omega, fun Dl hD => by
    have hg : G Dl = none := fresh_back W.g hD
    have ns : s ≠ Dl := fun z => W.d.some1.1 (by rw [z]; exact hD)
    have nc : c ≠ Dl := fun z => W.d.some1.2 (by rw [z]; exact hD)
    have W0 := W.add hD (Ex.new hD (o := .lst [])) upd_same
    refine lc_range (lo := 0) (n := n) (fun i H' => ∃ G2 xs, Ex G G2 ∧ G2 Dl = some (.lst xs) ∧ Wr s c G2 H' ∧ xs.length = i ∧ ∀ x ∈ xs, Pe x) ⟨_, [], W0.1, upd_same, W0.2, rfl, fun _ h => nomatch h⟩ (fun i H' hi hp => ?_) (fun H' hp => ?_)
    · obtain ⟨G2, xs, e2, hx, W2, hl, hx2⟩ := hp
      rw [Int.zero_add]
      refine ⟨hw _, ?_⟩
      refine he i G2 e2 hi H' W2 _ fun y G3 H3 e3 W3 hy => ⟨xs, W3.g _ _ (e3 _ _ hx), sz_lt (by omega), ?_⟩
      have hx3 := e3 _ _ hx
      obtain ⟨zs, a, b, m, h1, h2⟩ := W3.d
      refine ⟨upd G3 Dl (.lst (xs ++ [y])), xs ++ [y], Ex.mut (e2.trans e3) hg, upd_same, ⟨fun b u hb => ?_, ⟨zs, a, b, m, by rw [upd_ne ns]; exact h1, by rw [upd_ne nc]; exact h2⟩, by rw [upd_ne ns]; exact W3.gs, by rw [upd_ne nc]; exact W3.gc, W.ne⟩, by rw [List.length_append, hl]; rfl, fun x hx => ?_⟩
      · by_cases z : b = Dl
        · subst z; rw [upd_same] at hb ⊢; exact hb
        · rw [upd_ne z] at hb ⊢; exact W3.g _ _ hb
      · rcases List.mem_append.mp hx with hx | hx
        · exact hx2 x hx
        · rw [List.mem_singleton.mp hx]; exact hy
    · obtain ⟨G2, xs, e2, hx, W2, hl, hx2⟩ := hp
      exact q _ G2 H' e2 W2 ⟨Dl, xs, rfl, hx, hl, hx2⟩⟩
end
/-! ### names -/
structure NamesOk (ns : List Str) : Prop where
  len : ns.length = 12
  nod : ns.Nodup
  nam : ∀ x ∈ ns, Nam x
def sg (i : Nat) : Nat := (tlS SIG).getD i 0
def wordOf (f place tail i : Nat) : Str := repS f (place : Nat) ++ ⟨#[sg i]⟩ ++ repS f (tail : Nat)
theorem rep_tl (f n : Nat) : tlS (repS f (n : Nat)) = List.replicate n f := by
  show (List.replicate ((n : Int).toNat) f).toArray.toList = _
  rw [Int.toNat_natCast]
theorem word_tl (f place tail i : Nat) : tlS (wordOf f place tail i) = List.replicate place f ++ [sg i] ++ List.replicate tail f := by
  unfold wordOf
  rw [tl_cat, tl_cat, rep_tl, rep_tl]
theorem sg_at {i : Nat} (h : i < 36) : atI (tlS SIG) ((i : Nat) : Int) = some (sg i) := by
  have h2 : ∀ j < 36, (tlS SIG)[j]? = some (sg j) := by decide +kernel
  exact atI_nat (h2 i h)
theorem sg_sig {i : Nat} (h : i < 36) : inSig (sg i) = true := by
  have h2 : ∀ j < 36, inSig (sg j) = true := by decide +kernel
  exact h2 i h
theorem sg_let {i : Nat} (h : i < 26) : sg i ∈ tlS LET := by
  have h2 : ∀ j < 26, sg j ∈ tlS LET := by decide +kernel
  exact h2 i h
theorem sg_inj {i j : Nat} (hi : i < 36) (hj : j < 36) (h : sg i = sg j) : i = j := by
  have h2 : ∀ a < 36, ∀ b < 36, sg a = sg b → a = b := by decide +kernel
  exact h2 i hi j hj h
theorem mod_inj {some first k k' : Nat} (h : 12 ≤ some) (hf : first < some) (hk : k < 12) (hk' : k' < 12) (e : (first + k) % some = (first + k') % some) : k = k' := by
  rcases Nat.lt_or_ge (first + k) some with a | a <;> rcases Nat.lt_or_ge (first + k') some with b | b
  · rw [Nat.mod_eq_of_lt a, Nat.mod_eq_of_lt b] at e; omega
  · rw [Nat.mod_eq_of_lt a, Nat.mod_eq_sub_mod b, Nat.mod_eq_of_lt (by omega)] at e; omega
  · rw [Nat.mod_eq_of_lt b, Nat.mod_eq_sub_mod a, Nat.mod_eq_of_lt (by omega)] at e; omega
  · rw [Nat.mod_eq_sub_mod a, Nat.mod_eq_sub_mod b, Nat.mod_eq_of_lt (by omega), Nat.mod_eq_of_lt (by omega)] at e; omega
def namesOf (f place tail some first : Nat) : List Str := (List.range 12).map fun k => wordOf f place tail ((first + k) % some)
theorem names_ok {f place tail some first : Nat} (hf : f ∈ tlS LET) (hsz : place + 1 + tail ≤ 12) (hs : some = if place = 0 then 26 else 36) (hfi : first < some) (hme : place + 1 + tail = 2 → f ≠ 109 ∧ f ≠ 101) : NamesOk (namesOf f place tail some first) := by
  have hs12 : 12 ≤ some := by rw [hs]; split <;> omega
  have hs36 : some ≤ 36 := by rw [hs]; split <;> omega
  have hi36 : ∀ k, (first + k) % some < 36 := fun k => Nat.lt_of_lt_of_le (Nat.mod_lt _ (by omega)) hs36
  refine ⟨by unfold namesOf; simp, ?_, ?_⟩
  · unfold namesOf
    rw [List.nodup_iff_pairwise_ne, List.pairwise_map]
    refine List.Pairwise.imp_of_mem ?_ (List.nodup_iff_pairwise_ne.mp List.nodup_range)
    intro a b ha hb ne e
    have h := congrArg tlS e
    rw [word_tl, word_tl] at h
    have h2 := List.append_cancel_right h
    have h3 := List.append_cancel_left h2
    have h4 : sg ((first + a) % some) = sg ((first + b) % some) := by simpa using h3
    exact ne (mod_inj hs12 hfi (List.mem_range.mp ha) (List.mem_range.mp hb) (sg_inj (hi36 a) (hi36 b) h4))
  · intro x hx
    unfold namesOf at hx
    obtain ⟨k, hk, rfl⟩ := List.mem_map.mp hx
    have htl := word_tl f place tail ((first + k) % some)
    have hlen : (wordOf f place tail ((first + k) % some)).length = place + 1 + tail := by rw [← tlS_len, htl]; simp; omega
    have hsig := let_sig hf
    refine ⟨?_, ?_⟩
    · unfold isName
      rw [hlen, htl]
      rw [Bool.and_eq_true, Bool.and_eq_true, Bool.and_eq_true, decide_eq_true_eq, decide_eq_true_eq]
      refine ⟨⟨by omega, by omega⟩, ?_, ?_⟩
      · cases place with
        | zero =>
          have : some = 26 := by rw [hs]; rfl
          subst this
          exact decide_eq_true (sg_let (Nat.mod_lt (first + k) (by decide : 26 > 0)))
        | succ p => exact decide_eq_true hf
      · rw [List.all_append, List.all_append, Bool.and_eq_true, Bool.and_eq_true]
        refine ⟨⟨?_, ?_⟩, ?_⟩
        · exact List.all_eq_true.mpr fun c hc => by rw [(List.mem_replicate.mp hc).2]; exact hsig
        · simp [sg_sig (hi36 k)]
        · exact List.all_eq_true.mpr fun c hc => by rw [(List.mem_replicate.mp hc).2]; exact hsig
    · intro e
      have h := congrArg tlS e
      rw [htl, show tlS ("me" : Str) = [109, 101] by decide +kernel] at h
      have hl := congrArg List.length h
      simp at hl
      obtain ⟨h1, h2⟩ := hme (by omega)
      cases place with
      | zero =>
        obtain rfl : tail = 1 := by omega
        simp at h
        exact h2 h.2
      | succ p =>
        obtain rfl : p = 0 := by omega
        obtain rfl : tail = 0 := by omega
        simp at h
        exact h1 h.1
/-! ### tables of the law -/
def parZ : Option Nat → Int
  | none => -1
  | some j => j
structure TbAt (tabs : Tabs) (G : Hp) (a : Addr) : Prop where
  ex : ∃ ps : List Addr, G a = some (.lst (ps.map V.ref)) ∧ ps.length = tabs.length ∧ ∀ (i : Nat) (b : Tb), tabs[i]? = some b → ∃ p cl, ps[i]? = some p ∧ G p = some (.tup [.str b.name, .int (parZ b.par), .ref cl]) ∧ G cl = some (.lst (b.cols.map V.str))
theorem TbAt.mono {tabs : Tabs} {G G' : Hp} {a : Addr} (h : TbAt tabs G a) (e : Ex G G') : TbAt tabs G' a := by
  obtain ⟨ps, h1, h2, h3⟩ := h.ex
  refine ⟨ps, e _ _ h1, h2, fun i b hb => ?_⟩
  obtain ⟨p, cl, q1, q2, q3⟩ := h3 i b hb
  exact ⟨p, cl, q1, e _ _ q2, e _ _ q3⟩
/-- tables[i], tables[i][j] -/
theorem TbAt.row {tabs : Tabs} {H : Hp} {a : Addr} {i : Nat} {b : Tb} (h : TbAt tabs H a) (hb : tabs[i]? = some b) : ∃ xs p cl, H a = some (.lst xs) ∧ xs[i]? = some (V.ref p) ∧ H p = some (.tup [.str b.name, .int (parZ b.par), .ref cl]) ∧ H cl = some (.lst (b.cols.map V.str)) ∧ xs.length = tabs.length := by
  obtain ⟨ps, h1, h2, h3⟩ := h.ex
  obtain ⟨p, cl, q1, q2, q3⟩ := h3 i b hb
  exact ⟨_, p, cl, h1, by rw [List.getElem?_map, q1]; rfl, q2, q3, by rw [List.length_map, h2]⟩
section
variable {K : PySem.W.Frag} {σ : L2.St} {H : Hp} {to ti : TE} {tabs : Tabs} {a : Addr} {i : Nat} {b : Tb}
theorem ev_tb0 (h : TbAt tabs H a) (hb : tabs[i]? = some b) (ho : Ev to σ H (.ref a)) (hi : Ev ti σ H (.int (i : Nat))) : Ev (tOp (rIxT K) (tOp (rIxL K) to ti) (tC (.int 0))) σ H (.str b.name) := by
  obtain ⟨xs, p, cl, h1, h2, h3, h4, _⟩ := h.row hb
  exact ev_op (ev_op ho hi (rv_ixL (sq_of h1) (atI_nat h2))) ev_c (rv_ixT (st_of h3) (atI_nat (j := 0) rfl))
theorem ev_tb1 (h : TbAt tabs H a) (hb : tabs[i]? = some b) (ho : Ev to σ H (.ref a)) (hi : Ev ti σ H (.int (i : Nat))) : Ev (tOp (rIxT K) (tOp (rIxL K) to ti) (tC (.int 1))) σ H (.int (parZ b.par)) := by
  obtain ⟨xs, p, cl, h1, h2, h3, h4, _⟩ := h.row hb
  exact ev_op (ev_op ho hi (rv_ixL (sq_of h1) (atI_nat h2))) ev_c (rv_ixT (st_of h3) (atI_nat (j := 1) rfl))
theorem ev_tb2 (h : TbAt tabs H a) (hb : tabs[i]? = some b) (ho : Ev to σ H (.ref a)) (hi : Ev ti σ H (.int (i : Nat))) : ∃ cl, Ev (tOp (rIxT K) (tOp (rIxL K) to ti) (tC (.int 2))) σ H (.ref cl) ∧ H cl = some (.lst (b.cols.map V.str)) := by
  obtain ⟨xs, p, cl, h1, h2, h3, h4, _⟩ := h.row hb
  exact ⟨cl, ev_op (ev_op ho hi (rv_ixL (sq_of h1) (atI_nat h2))) ev_c (rv_ixT (st_of h3) (atI_nat (j := 2) rfl)), h4⟩
end
/-! ### promises -/
def spWordsL : Sp := fun vs H Q _ => ∃ (s c : Addr) (G : Hp), vs = [.ref s, .int 12, .int 12] ∧ Wr s c G H ∧ ∀ ns p G2 H2, NamesOk ns → Ex G G2 → Wr s c G2 H2 → G2 p = some (.lst (ns.map V.str)) → Q (.ref p) H2
def spGch (n : Nat) : Sp := fun vs H Q _ => ∃ (a : Addr) (tabs : Tabs) (i : Nat), vs = [.ref a, .int (i : Nat)] ∧ i < n ∧ i < tabs.length ∧ WF tabs ∧ TbAt tabs H a ∧ RetL ((chainI tabs i).map fun j => V.int (j : Nat)) H Q
def spForest : Sp := fun vs H Q _ => ∃ (s c np : Addr) (G : Hp) (ns : List Str), vs = [.ref s, .ref np, .int 6] ∧ NamesOk ns ∧ G np = some (.lst (ns.map V.str)) ∧ Wr s c G H ∧ ∀ tabs a G2 H2, WF tabs → tabs ≠ [] → (∀ b ∈ tabs, ∀ x ∈ b.cols, Nam x) → TbAt tabs G2 a → Ex G G2 → Wr s c G2 H2 → Q (.ref a) H2
section
variable {P : Program} {w : World} {K : PySem.W.Frag} {mg : Str → Option Value} {base : Heap}
theorem ok_law_get_words (T : Txt K mg) : CalX P w K mg base CX0 2 "_law_get_words" ["_law_st", "_law_most", "_law_count"] spWordsL := by
  have c_law_draw := ok_law_draw (P := P) (w := w) (base := base) T
  obtain ⟨fd, F⟩ := T.f_law_get_words
  refine ⟨_, fd, F.ok sc_law_get_words (fun vs H Q E h => ?_) (fun cdv A outer s H vs Q E hr h => ?_), T.g_law_get_words, F.kp, F.bindsN fun _ _ _ _ _ _ us hl => match us, hl with | [_, _, _], _ => rfl⟩
  · obtain ⟨s, c, G, rfl, _⟩ := h; rfl
  · obtain ⟨s, c, G, rfl, W, q⟩ := h
    refine ⟨_, (PSs.nox (pss_cons (ps_set (i := 3) sc_law_get_words.nd rfl (by first | exact Or.inl rfl | exact Or.inr rfl) pe_str)
        (pss_cons (ps_set (i := 4) sc_law_get_words.nd rfl (by first | exact Or.inl rfl | exact Or.inr rfl) (pe_op op_add pe_int (pe_cx c_law_draw hr (by decide) pass0 (pa_cons (pv 0) (pa_cons (pv 1) pa_nil)))))
        (pss_cons (ps_set (i := 5) sc_law_get_words.nd rfl (by first | exact Or.inl rfl | exact Or.inr rfl) (pe_cx c_law_draw hr (by decide) pass0 (pa_cons (pv 0) (pa_cons (pv 4) pa_nil))))
        (pss_cons (ps_set (i := 6) sc_law_get_words.nd rfl (by first | exact Or.inl rfl | exact Or.inr rfl) (pe_ix ix_str (pv 3) (pe_cx c_law_draw hr (by decide) pass0 (pa_cons (pv 0) (pa_cons pe_int pa_nil))) (fun _ _ => rfl)))
        (pss_cut (ps_if (PW.pt (pw_and (pt_cmpR op_eq (pv 4) pe_int (nomark _)) (pw_and1 (pt_cmpR op_inS (pv 6) pe_str rfl)))) (pss_one (ps_set (i := 6) sc_law_get_words.nd rfl (by first | exact Or.inl rfl | exact Or.inr rfl) pe_str)) pss_nil)
        (pss_cons (ps_set (i := 7) sc_law_get_words.nd rfl (by first | exact Or.inl rfl | exact Or.inr rfl) (pe_ifExp (pt_cmpR op_eq (pv 5) pe_int (nomark _)) pe_int pe_int))
        (pss_cons (ps_set (i := 8) sc_law_get_words.nd rfl (by first | exact Or.inl rfl | exact Or.inr rfl) (pe_cx c_law_draw hr (by decide) pass0 (pa_cons (pv 0) (pa_cons (pv 7) pa_nil))))
        (pss_cons (ps_set (i := 9) sc_law_get_words.nd rfl (by first | exact Or.inl rfl | exact Or.inr rfl) (pe_op op_repC (pv 6) (pe_op op_sub (pe_op op_sub (pv 4) (pv 5)) pe_int)))
        (pss_one (ps_ret (pe_lc (own := [("_law_k", 10)]) (g := gName 10) (tt := tYes) (by rfl) sc_law_get_words.nd (pi_range1 (by rfl) T.b_range (pa_cons (pv 2) pa_nil)) (blkOk_by (own := [("_law_k", 10)]) (N := ["_law_st", "_law_most", "_law_count", "_law_signs", "_law_size", "_law_place", "_law_fill", "_law_some", "_law_first", "_law_tail", "_law_k"]) (sc := defScope s_law_get_words) (by decide +kernel)) (fun _ _ _ _ _ => pg_name (i := 10) sc_law_get_words.nd rfl (Or.inl rfl)) (fun _ _ _ _ _ => pts_nil) (fun _ _ _ _ _ => (pe_op op_add_str (pe_op op_add_str (pe_op op_repC (pv 6) (pv 5)) (pe_ix ix_str (pv 3) (pe_op op_mod (pe_callTy call_int1 (by rfl) T.b_int (by decide +kernel) (pa_cons (pe_op op_add (pv 8) (pv 10)) pa_nil)) (pv 7)) (fun _ _ => rfl))) (pv 9))))))))))))))), ?_⟩
    refine q_asg (v := .str SIG) ev_c fun H0 e0 => ?_
    have W := W.ex e0
    refine r_asg W (er_opE (Pc := fun _ v => ∃ d : Nat, v = .int (d : Int) ∧ 1 ≤ d ∧ d ≤ 12) ev_c (er_drawN (ea_cons (ev_var rfl) (ea_cons (ev_var rfl) ea_nil)) (by decide) (by decide)) (fun G3 y _ ⟨d, e, hd⟩ => ⟨.int ((1 + d : Nat) : Int), by rw [e, Int.natCast_add]; exact rv_I0, 1 + d, rfl, by omega, by omega⟩)) ?_
    rintro v1 G1 H1 e1 W1 ⟨size, rfl, hsz1, hsz2⟩
    refine r_asg W1 (er_drawN (ea_cons (ev_var rfl) (ea_cons (ev_var rfl) ea_nil)) (by omega) (by omega)) ?_
    rintro v2 G2 H2 e2 W2 ⟨place, rfl, hpl⟩
    refine r_asg W2 (er_opE (Pc := fun _ v => ∃ f : Nat, v = .str ⟨#[f]⟩ ∧ f ∈ tlS LET) (ev_var rfl) (er_drawN (ea_cons (ev_var rfl) (ea_cons ev_c ea_nil)) (by decide) (by decide)) (fun G3 y _ ⟨d, e, hd⟩ => ⟨.str ⟨#[sg d]⟩, by rw [e]; exact rv_ixS (by decide +kernel) (sg_at (by omega)), sg d, rfl, sg_let (by omega)⟩)) ?_
    rintro v3 G3 H3 e3 W3 ⟨f0, rfl, hf0⟩
    refine q_cut (M := fun σ' H' => ∃ f : Nat, σ' = [some (.ref s), some (.int 12), some (.int 12), some (.str SIG), some (.int (size : Nat)), some (.int (place : Nat)), some (.str ⟨#[f]⟩), none, none, none, none] ∧ Wr s c G3 H' ∧ f ∈ tlS LET ∧ (size = 2 → f ≠ 109 ∧ f ≠ 101)) ?_ ?_
    · refine s_when (et_and (et_test (ev_op (ev_var rfl) ev_c (rv_eq rfl))) fun _ => et_inS (ev_var rfl) ev_c) (fun _ H4 e4 => ?_) (fun hb H4 e4 => ?_)
      · refine s_asg ev_c fun H5 e5 => ⟨122, rfl, W3.ex (e4.trans e5), by decide +kernel, fun _ => by decide⟩
      · refine ⟨f0, rfl, W3.ex e4, hf0, fun h2 => ?_⟩
        subst h2
        rw [decide_eq_true (show V.int ((2 : Nat) : Int) = V.int 2 from rfl), Bool.true_and, decide_eq_false_iff_not] at hb
        have hm : tlS ("me" : Str) = [109, 101] := by decide +kernel
        rw [hm] at hb
        simpa using hb
    rintro σ4 H4 ⟨f, rfl, W4, hf, hme⟩
    refine q_asg (v := .int ((if place = 0 then 26 else 36 : Nat) : Int)) (ev_if (et_test (ev_op (ev_var rfl) ev_c (rv_eq rfl))) (fun hb => ?_) (fun hb => ?_)) fun H5 e5 => ?_
    · have : place = 0 := by have := V.int.inj (of_decide_eq_true hb); omega
      rw [if_pos this]
      exact ev_c
    · have : ¬ place = 0 := fun z => of_decide_eq_false hb (by rw [z]; rfl)
      rw [if_neg this]
      exact ev_c
    have W5 := W4.ex e5
    generalize hsm : (if place = 0 then 26 else 36 : Nat) = sm
    have hsm1 : 26 ≤ sm ∧ sm ≤ 36 := by rw [← hsm]; split <;> omega
    refine r_asg W5 (er_drawN (ea_cons (ev_var rfl) (ea_cons (ev_var rfl) ea_nil)) (by omega) (by omega)) ?_
    rintro v6 G6 H6 e6 W6 ⟨first, rfl, hfi⟩
    have htail : ((size : Int) - (place : Int) - 1) = ((size - place - 1 : Nat) : Int) := by omega
    refine q_asg (v := .str (repS f ((size - place - 1 : Nat) : Int))) (ev_op (ev_var rfl) (ev_is (ev_op (ev_op (ev_var rfl) (ev_var rfl) rv_I0) ev_c rv_I0) (by rw [htail])) (rv_rep (by omega) (by omega))) fun H7 e7 => ?_
    have W7 := W6.ex e7
    have okN := names_ok (f := f) (place := place) (tail := size - place - 1) (some := sm) (first := first) hf (by omega) hsm.symm (by omega) (by intro z; exact hme (by omega))
    have rlen : ∀ n : Nat, (repS f (n : Int)).length = n := fun n => by rw [← tlS_len, rep_tl, List.length_replicate]
    refine s_retL (xs := given (12 : Int).toNat (fun _ => true) fun k => .str (wordOf f place (size - place - 1) ((first + k) % sm))) (el_lcR1 (j := 10) (vs := [10]) (n := 12) (fun _ => true) (fun k => .str (wordOf f place (size - place - 1) ((first + k) % sm))) (ea_cons (ev_var rfl) ea_nil) (by decide) (fun _ => rfl) (fun _ _ _ _ => et_yes) (fun k H8 e8 hk _ => ?_)) fun p H8 hp e8 h8 => ?_
    · refine ev_op (ev_op (ev_op (ev_var rfl) (ev_var rfl) (rv_rep (n := ((place : Nat) : Int)) (by omega) (by omega))) (ev_op (ev_var rfl) (ev_is (ev_op (ev_int1 (ev_op (ev_var rfl) (ev_var rfl) rv_I0)) (ev_var rfl) (rv_I (C := fun _ j => 0 < j) (g := fun i j => .int (i % j)) (i := ((first : Nat) : Int) + ((k : Nat) : Int)) (j := ((sm : Nat) : Int)) (by omega))) (show V.int ((((first : Nat) : Int) + ((k : Nat) : Int)) % ((sm : Nat) : Int)) = V.int (((first + k) % sm : Nat) : Int) by rw [Int.natCast_emod, Int.natCast_add])) (rv_ixS (by decide +kernel) (sg_at (Nat.lt_of_lt_of_le (Nat.mod_lt _ (by omega)) hsm1.2)))) (rv_cat ?_)) (ev_var rfl) (rv_cat ?_)
      · rw [rlen]; show place + 1 ≤ 100000; omega
      · rw [rlen, ← tlS_len, tl_cat, rep_tl, List.length_append, List.length_replicate]
        show place + 1 + (size - place - 1) ≤ 100000
        omega
    obtain ⟨eG, W8⟩ := W7.add hp e8 h8
    refine q _ p _ H8 okN (e1.trans (e2.trans (e3.trans (e6.trans eG)))) W8 ?_
    rw [upd_same, show ((12 : Int).toNat) = 12 from rfl, given_all]
    unfold namesOf
    rw [List.map_map]
    rfl
theorem ok_law_get_chain (T : Txt K mg) : ∀ n : Nat, CalX P w K mg base CX0 (n + 1) "_law_get_chain" ["_law_tb", "_law_t"] (spGch n) := by
  intro n
  induction n with
  | zero =>
    obtain ⟨fd, F⟩ := T.f_law_get_chain
    refine ⟨_, fd, F.ok sc_law_get_chain (fun vs H Q E h => ?_) (fun cdv A outer s H vs Q E hr h => ?_), T.g_law_get_chain, F.kp, F.bindsN fun _ _ _ _ _ _ us hl => match us, hl with | [_, _], _ => rfl⟩
    · obtain ⟨a, tabs, i, rfl, hi, _⟩ := h; rfl
    · obtain ⟨a, tabs, i, rfl, hi, _⟩ := h
      exact absurd hi (Nat.not_lt_zero _)
  | succ n ih =>
    have c_law_get_chain := ih
    obtain ⟨fd, F⟩ := T.f_law_get_chain
    refine ⟨_, fd, F.ok sc_law_get_chain (fun vs H Q E h => ?_) (fun cdv A outer s H vs Q E hr h => ?_), T.g_law_get_chain, F.kp, F.bindsN fun _ _ _ _ _ _ us hl => match us, hl with | [_, _], _ => rfl⟩
    · obtain ⟨a, tabs, i, rfl, hi, _⟩ := h; rfl
    · obtain ⟨a, tabs, i, rfl, hi, hil, W, tb, q⟩ := h
      refine ⟨_, (PSs.nox (pss_one (ps_ret (pe_op op_cat (pe_lst (pa_cons (pv 1) pa_nil)) (pe_ifExp (pt_cmpR op_ge (pe_ix ix_tup (pe_ix ix_list (pv 0) (pv 1) (fun _ _ => rfl)) pe_int (fun _ _ => rfl)) pe_int (nomark _)) (pe_cx c_law_get_chain hr (Nat.le_refl _) pass0 (pa_cons (pv 0) (pa_cons (pe_ix ix_tup (pe_ix ix_list (pv 0) (pv 1) (fun _ _ => rfl)) pe_int (fun _ _ => rfl)) pa_nil))) (pe_lst pa_nil)))))), ?_⟩
      obtain ⟨b, hb⟩ : ∃ b, tabs[i]? = some b := ⟨_, List.getElem?_eq_getElem hil⟩
      have hch := chainI_eq W i
      rw [parI_at hb] at hch
      rw [hch] at q
      have hlen : (restOf tabs b.par).length ≤ 4 := by
        have := W.chn i hil
        rw [hch] at this
        exact Nat.le_of_succ_le this
      refine s_retL (xs := [V.int (i : Nat)] ++ (restOf tabs b.par).map fun j => V.int (j : Nat)) (el_catNN (el_lst (ea_cons (ev_var rfl) ea_nil) (Nat.le_of_ble_eq_true rfl)) ?_ (by simp; omega)) q
      cases hp : b.par with
      | none => exact el_if (b := false) (et_is (et_test (ev_op (ev_tb1 tb hb (ev_var rfl) (ev_var rfl)) ev_c rv_I0)) (by rw [hp]; rfl)) (fun z => by cases z) (fun _ => el_lst ea_nil (Nat.le_of_ble_eq_true rfl))
      | some j =>
        have hj := par_at W hb hp
        refine el_if (b := true) (et_is (et_test (ev_op (ev_tb1 tb hb (ev_var rfl) (ev_var rfl)) ev_c rv_I0)) (by rw [hp]; exact decide_eq_true (by show (0 : Int) ≤ (j : Nat); omega))) (fun _ => ?_) (fun z => by cases z)
        refine el_call (vs := [.ref a, .int (j : Nat)]) (ea_cons (ev_var rfl) (ea_cons (ev_is (ev_tb1 tb hb (ev_var rfl) (ev_var rfl)) (by rw [hp]; rfl)) ea_nil)) fun H1 e1 Q2 q2 E2 => ?_
        exact ⟨a, tabs, j, rfl, by omega, by omega, W, tb.mono e1, fun p H2 hp2 e2 h2 => q2 p H2 hp2 e2 h2⟩
end
end K23

set_option Elab.async false
set_option linter.all false
set_option maxRecDepth 100000
set_option maxHeartbeats 4000000
/-! the law's forest, the schema's text -/
namespace K23
open PySem PySem.Spec PyProof.Rows L2 Evl
section
variable {s c : Addr} {K : PySem.W.Frag} {σ : L2.St} {G G' H H' : Hp} {ta tb te to : TE} {t u : TT} {x y z v : V} {D : Ends} {tu tz : TS} {r : R2} {P Pa Pb Pc : Hp → V → Prop}
theorem r_forN {j : Nat} {ta' : TA} {PA : Hp → List V → Prop} {Pn : Nat → Prop} (W : Wr s c G H) (h : EvRA s c ta' σ G PA) (hn : ∀ G2 vs, Ex G G2 → PA G2 vs → ∃ n : Nat, vs = [.int (n : Int)] ∧ Pn n)
    (k : ∀ n G2 H2, Ex G G2 → Wr s c G2 H2 → Pn n → tSeq (tFor (iRng1 (fun _ H Q => Q [.int ((n : Nat) : Int)] H)) (gName j) tu) tz D σ H2) : tSeq (tFor (iRng1 ta') (gName j) tu) tz D σ H := h H W _ fun vs G2 H2 e2 W2 p2 => by
  obtain ⟨n, rfl, pn⟩ := hn G2 vs e2 p2
  exact k n G2 H2 e2 W2 pn
theorem r_app {l : Addr} {xs : List V} (W : Wr s c G H) (ho : Ev to σ G (.ref l)) (hl : G l = some (.lst xs)) (hz : xs.length < 100000) (h : EvR s c te σ G P) (k : ∀ v G2 H2, Ex G G2 → Wr s c G2 H2 → P G2 v → D.nx σ (upd H2 l (.lst (xs ++ [v])))) :
    tDrop (tBM K "list" rAppend to (tCons te tNil)) D σ H := ho H W.g _ fun H1 e1 => ⟨Or.inl ⟨rfl, xs, sq_of (e1 _ _ (W.g _ _ hl))⟩, h H1 (W.ex e1) _ fun v G2 H2 e2 W2 p2 => ⟨l, xs, v, rfl, rfl, W2.g _ _ (e2 _ _ hl), sz_lt hz, k v G2 H2 e2 W2 p2⟩⟩
/-- a known list changes -/
theorem Wr.chg {l : Addr} {o o' : HO} (W : Wr s c G H) (hl : G l = some o) : Wr s c (upd G l o') (upd H l o') := by
  have ns : s ≠ l := fun z => by have := W.gs; rw [z, hl] at this; cases this
  have nc : c ≠ l := fun z => by have := W.gc; rw [z, hl] at this; cases this
  obtain ⟨zs, a, b, m, h1, h2⟩ := W.d
  refine ⟨fun b u hb => ?_, ⟨zs, a, b, m, by rw [upd_ne ns]; exact h1, by rw [upd_ne nc]; exact h2⟩, by rw [upd_ne ns]; exact W.gs, by rw [upd_ne nc]; exact W.gc, W.ne⟩
  by_cases z : b = l
  · subst z; rw [upd_same] at hb ⊢; exact hb
  · rw [upd_ne z] at hb ⊢; exact W.g _ _ hb
theorem ev_join {sep : Str} {ys : List Str} (h : Ev to σ H (.str sep)) (hl : EvL te σ H (ys.map V.str)) (hz : (ys.map (·.length)).sum + ys.length * sep.length ≤ 16777216) :
    Ev (tM1 (fun x xs H Q => ∃ a p, ∃ ys : List Str, x = .str a ∧ xs = [.ref p] ∧ (SqL K H p (ys.map V.str) ∨ SqT K H p (ys.map V.str)) ∧ (ys.map (·.length)).sum + ys.length * a.length ≤ 16777216 ∧ Q (.str (Txt.join a ys)) H) to te) σ H (.str (Txt.join sep ys)) := fun H1 e Q q =>
  h H1 e _ fun H2 e2 => ⟨⟨sep, rfl⟩, hl H2 (e.trans e2) _ fun p H3 hp e3 h3 => ⟨sep, p, ys, rfl, rfl, .inl (sq_of h3), hz, q H3 (e2.trans e3)⟩⟩
theorem el_catNO {xs ys : List V} {b : Addr} (ha : EvL ta σ H xs) (hb : Ev tb σ H (.ref b)) (ho : H b = some (.lst ys)) (hl : xs.length + ys.length ≤ 100000) : EvL (tOp rCat ta tb) σ H (xs ++ ys) := fun H1 e Q q =>
  ha H1 e _ fun p H2 hp e2 h2 => hb H2 (e.trans e2) _ fun H3 e3 => ⟨p, b, xs, ys, rfl, rfl, e3 _ _ h2, (e.trans (e2.trans e3)) _ _ ho, sz_of hl, fun p3 hp3 => q p3 _ (fresh_back (e2.trans e3) hp3) ((e2.trans e3).trans (Ex.new hp3)) upd_same⟩
theorem s_retSta {C : Addr} {sp : Sp} {E : XK} {ta' : TA} {vs : List V} (h : EvA ta' σ H vs) (hs : ∀ H1, Ex H H1 → sp vs H1 D.rt E) : tRet (tSta C sp E (tC (.ref C)) ta') D σ H := ⟨rfl, h H (Ex.refl H) _ hs⟩
theorem sum_le {ys : List Str} {B : Nat} (h : ∀ y ∈ ys, y.length ≤ B) : (ys.map (·.length)).sum ≤ ys.length * B := by
  induction ys with
  | nil => simp
  | cons a r ih =>
    have h1 := h a (.head _)
    have h2 := ih fun y hy => h y (.tail _ hy)
    rw [List.map_cons, List.sum_cons, List.length_cons, Nat.succ_mul]
    omega
theorem join_sz {ys : List Str} {sep : Str} (h : ∀ y ∈ ys, y.length ≤ 1000) (hl : ys.length ≤ 1000) (hs : sep.length ≤ 10) : (ys.map (·.length)).sum + ys.length * sep.length ≤ 16777216 := by
  have h1 := sum_le h
  have h2 : ys.length * 1000 ≤ 1000 * 1000 := Nat.mul_le_mul_right _ hl
  have h3 : ys.length * sep.length ≤ 1000 * 10 := Nat.mul_le_mul hl hs
  omega
end
theorem ix_lk {X : Cx} {K : PySem.W.Frag} (h : X.K = K) : IxR X (rIxL K) := by
  subst h
  exact ix_list
theorem ix_tk {X : Cx} {K : PySem.W.Frag} (h : X.K = K) : IxR X (rIxT K) := by
  subst h
  exact ix_tup
theorem len_lk {X : Cx} {K : PySem.W.Frag} (h : X.K = K) : CallR X (.builtin "len") (rLenS K) := by
  subst h
  exact call_lenL
/-- the parents that may be drawn -/
def parsOf (tabs : Tabs) (k : Nat) : List (Option Nat) := none :: ((List.range k).filter fun t => decide ((chainI tabs t).length < 4)).map some
theorem parsOf_mem {tabs : Tabs} {k : Nat} {o : Option Nat} (h : o ∈ parsOf tabs k) : ∀ j, o = some j → j < k ∧ (chainI tabs j).length < 4 := fun j e => by
  subst e
  unfold parsOf at h
  rcases List.mem_cons.mp h with h | h
  · cases h
  · obtain ⟨a, ha, e⟩ := List.mem_map.mp h
    cases e
    obtain ⟨h1, h2⟩ := List.mem_filter.mp ha
    exact ⟨List.mem_range.mp h1, of_decide_eq_true h2⟩
theorem parsOf_given (tabs : Tabs) (k : Nat) : [V.int (-1)] ++ given k (fun t => decide ((chainI tabs t).length < 4)) (fun t => .int (t : Nat)) = (parsOf tabs k).map fun o => V.int (parZ o) := by
  unfold parsOf given
  rw [List.map_cons, List.map_map]
  rfl
/-! ### one table more -/
theorem parI_add {tabs : Tabs} {b : Tb} {i : Nat} (h : i < tabs.length) : parI (tabs ++ [b]) i = parI tabs i := by unfold parI; rw [List.getElem?_append_left h]
theorem parI_new {tabs : Tabs} {b : Tb} : parI (tabs ++ [b]) tabs.length = b.par := by unfold parI; rw [List.getElem?_concat_length]; rfl
theorem chainF_add {tabs : Tabs} {b : Tb} (W : WF tabs) : ∀ (n i : Nat), i < tabs.length → chainF (tabs ++ [b]) n i = chainF tabs n i
  | 0, _, _ => rfl
  | n + 1, i, h => by
    unfold chainF
    rw [parI_add h]
    cases hp : parI tabs i with
    | none => rfl
    | some j =>
      have := W.par i j hp
      show i :: chainF (tabs ++ [b]) n j = i :: chainF tabs n j
      rw [chainF_add W n j (by omega)]
theorem WF.add {tabs : Tabs} {b : Tb} (W : WF tabs) (hl : tabs.length ≤ 5) (hn : b.name ∉ tabs.map (·.name)) (hnam : isName b.name = true ∧ b.name ≠ "me") (hp : ∀ j, b.par = some j → j < tabs.length ∧ (chainI tabs j).length < 4)
    (hc : b.cols.length ≤ 4 ∧ b.cols ≠ [] ∧ b.cols.Nodup ∧ ∀ c ∈ b.cols, isName c = true) : WF (tabs ++ [b]) := by
  have hlen : (tabs ++ [b]).length = tabs.length + 1 := by simp
  refine ⟨by omega, ?_, fun x hx => ?_, fun i j h => ?_, fun x hx => ?_, fun i hi => ?_⟩
  · rw [List.map_append, List.nodup_append]
    refine ⟨W.nod, by simp, fun a ha c hc2 => ?_⟩
    have : c = b.name := by simpa using hc2
    rw [this]
    rintro rfl
    exact hn ha
  · rcases List.mem_append.mp hx with hx | hx
    · exact W.nam x hx
    · rw [List.mem_singleton.mp hx]; exact hnam
  · rcases Nat.lt_or_ge i tabs.length with a | a
    · rw [parI_add a] at h; exact W.par i j h
    · rcases Nat.eq_or_lt_of_le a with a | a
      · subst a
        rw [parI_new] at h
        exact (hp j h).1
      · unfold parI at h
        rw [List.getElem?_eq_none (by omega)] at h
        cases h
  · rcases List.mem_append.mp hx with hx | hx
    · exact W.col x hx
    · rw [List.mem_singleton.mp hx]; exact hc
  · rcases Nat.lt_or_ge i tabs.length with a | a
    · unfold chainI
      rw [chainF_add W _ _ a]
      exact W.chn i a
    · obtain rfl : i = tabs.length := by omega
      unfold chainI
      rw [show chainF (tabs ++ [b]) (tabs.length + 1) tabs.length = tabs.length :: (match parI (tabs ++ [b]) tabs.length with | some j => chainF (tabs ++ [b]) tabs.length j | none => []) from rfl, parI_new]
      cases hb : b.par with
      | none => show 1 ≤ 4; decide
      | some j =>
        obtain ⟨h1, h2⟩ := hp j hb
        show (chainF (tabs ++ [b]) tabs.length j).length + 1 ≤ 4
        rw [chainF_add W _ _ h1, chainF_fuel W j tabs.length (j + 1) h1 (by omega)]
        exact h2
theorem WF.nil : WF [] := by
  refine ⟨by decide, List.nodup_nil, fun _ h => ?_, fun i j h => ?_, fun _ h => ?_, fun i h => absurd h (Nat.not_lt_zero _)⟩
  · cases h
  · cases h
  · cases h
theorem refs_inj : ∀ {a b : List Addr}, a.map V.ref = b.map V.ref → a = b
  | [], [], _ => rfl
  | [], _ :: _, h => by cases h
  | _ :: _, [], h => by cases h
  | x :: a, y :: b, h => by
    rw [List.map_cons, List.map_cons] at h
    injection h with h1 h2
    injection h1 with h1
    rw [h1, refs_inj h2]
theorem strs_refs {l : List Str} {ps : List Addr} (h : l ≠ []) : l.map V.str ≠ ps.map V.ref := fun e => by
  cases l with
  | nil => exact h rfl
  | cons a r =>
    cases ps with
    | nil => cases e
    | cons p q => cases e
theorem TbAt.add {tabs : Tabs} {G : Hp} {a p cl : Addr} {b : Tb} {ps : List Addr} (h : TbAt tabs G a) (hx : G a = some (.lst (ps.map V.ref))) (hp : G p = some (.tup [.str b.name, .int (parZ b.par), .ref cl])) (hc : G cl = some (.lst (b.cols.map V.str))) (hne : ∀ b' ∈ tabs, b'.cols ≠ []) (hb : b.cols ≠ []) :
    TbAt (tabs ++ [b]) (upd G a (.lst (ps.map V.ref ++ [.ref p]))) a := by
  obtain ⟨ps', h1, h2, h3⟩ := h.ex
  have hps : ps' = ps := by
    rw [h1] at hx
    have e : ps'.map V.ref = ps.map V.ref := by injection hx with hx; injection hx
    exact refs_inj e
  subst hps
  have np : ∀ {q : Addr} {l : List V}, G q = some (.tup l) → q ≠ a := fun hq => ne_kind hq h1 (by simp)
  have nl : ∀ {q : Addr} {l : List Str}, l ≠ [] → G q = some (.lst (l.map V.str)) → q ≠ a := fun hl hq => ne_kind hq h1 fun e => strs_refs hl (by injection e)
  refine ⟨ps' ++ [p], by rw [upd_same, List.map_append]; rfl, by simp [h2], fun i b' hb' => ?_⟩
  rcases Nat.lt_or_ge i tabs.length with z | z
  · rw [List.getElem?_append_left z] at hb'
    obtain ⟨q, cl', q1, q2, q3⟩ := h3 i b' hb'
    exact ⟨q, cl', by rw [List.getElem?_append_left (by omega)]; exact q1, by rw [upd_ne (np q2)]; exact q2, by rw [upd_ne (nl (hne _ (List.mem_of_getElem? hb')) q3)]; exact q3⟩
  · have hi : i = tabs.length := by
      have := (List.getElem?_eq_some_iff.mp hb').1
      simp at this
      omega
    subst hi
    rw [List.getElem?_concat_length] at hb'
    cases hb'
    exact ⟨p, cl, by rw [← h2, List.getElem?_concat_length], by rw [upd_ne (np hp)]; exact hp, by rw [upd_ne (nl hb hc)]; exact hc⟩
def nmI (ns : List Str) (i : Nat) : Str := ns.getD i ""
theorem nm_at {ns : List Str} (h : NamesOk ns) {i : Nat} (hi : i < 12) : (ns.map V.str)[i]? = some (.str (nmI ns i)) ∧ nmI ns i ∈ ns := by
  have hl := h.len
  unfold nmI
  rw [List.getD_eq_getElem?_getD, List.getElem?_map, List.getElem?_eq_getElem (by omega)]
  exact ⟨rfl, List.getElem_mem _⟩
theorem nm_inj {ns : List Str} (h : NamesOk ns) {i j : Nat} (hi : i < 12) (hj : j < 12) (e : nmI ns i = nmI ns j) : i = j := by
  have hl := h.len
  unfold nmI at e
  rw [List.getD_eq_getElem?_getD, List.getD_eq_getElem?_getD, List.getElem?_eq_getElem (by omega), List.getElem?_eq_getElem (by omega)] at e
  exact (List.getElem_inj h.nod).mp e
def colsOf (ns : List Str) (first n : Nat) : List Str := (List.range n).map fun c => nmI ns ((first + c) % 12)
theorem cols_ok {ns : List Str} (h : NamesOk ns) {first n : Nat} (h1 : 1 ≤ n) (h2 : n ≤ 4) (hf : first < 12) : (colsOf ns first n).length ≤ 4 ∧ colsOf ns first n ≠ [] ∧ (colsOf ns first n).Nodup ∧ ∀ c ∈ colsOf ns first n, isName c = true := by
  refine ⟨by unfold colsOf; simp; omega, fun e => ?_, ?_, fun c hc => ?_⟩
  · have := congrArg List.length e
    unfold colsOf at this
    simp at this
    omega
  · unfold colsOf
    rw [List.nodup_iff_pairwise_ne, List.pairwise_map]
    refine List.Pairwise.imp_of_mem ?_ (List.nodup_iff_pairwise_ne.mp List.nodup_range)
    intro a b ha hb ne e
    have ha := List.mem_range.mp ha
    have hb := List.mem_range.mp hb
    exact ne (mod_inj (some := 12) (by decide) hf (by omega) (by omega) (nm_inj h (Nat.mod_lt _ (by decide)) (Nat.mod_lt _ (by decide)) e))
  · unfold colsOf at hc
    obtain ⟨a, _, rfl⟩ := List.mem_map.mp hc
    exact (h.nam _ (nm_at h (Nat.mod_lt _ (by decide))).2).1
def spTline : Sp := fun vs H Q _ => ∃ (a : Addr) (tabs : Tabs) (i : Nat) (b : Tb), vs = [.ref a, .int (i : Nat)] ∧ WF tabs ∧ TbAt tabs H a ∧ tabs[i]? = some b ∧ RetV (.str (tbText tabs b)) H Q
def spSchOf (K : PySem.W.Frag) : Sp := fun vs H Q _ => ∃ (a : Addr) (tabs : Tabs), vs = [.ref a] ∧ WF tabs ∧ tabs ≠ [] ∧ TbAt tabs H a ∧ ∀ sc H2, Ex H H2 → Sch K tabs tabs.length H2 sc → Q (.ref sc) H2
section
variable {P : Program} {w : World} {K : PySem.W.Frag} {mg : Str → Option Value} {base : Heap}
theorem ok_law_table_line (T : Txt K mg) : CalX P w K mg base CX0 1 "_law_table_line" ["_law_tb", "_law_t"] spTline := by
  obtain ⟨fd, F⟩ := T.f_law_table_line
  refine ⟨_, fd, F.ok sc_law_table_line (fun vs H Q E h => ?_) (fun cdv A outer s H vs Q E hr h => ?_), T.g_law_table_line, F.kp, F.bindsN fun _ _ _ _ _ _ us hl => match us, hl with | [_, _], _ => rfl⟩
  · obtain ⟨a, tabs, i, b, rfl, _⟩ := h; rfl
  · obtain ⟨a, tabs, i, b, rfl, W, tb, hb, q⟩ := h
    refine ⟨_, (PSs.nox (pss_cons (ps_asg (pe_ix ix_list (pv 0) (pv 1) (fun _ _ => rfl)) (pg_tup (by rfl) (pgs_cons (pg_name (i := 2) sc_law_table_line.nd rfl (by first | exact Or.inl rfl | exact Or.inr rfl)) (pgs_cons (pg_name (i := 3) sc_law_table_line.nd rfl (by first | exact Or.inl rfl | exact Or.inr rfl)) (pgs_cons (pg_name (i := 4) sc_law_table_line.nd rfl (by first | exact Or.inl rfl | exact Or.inr rfl)) pgs_nil)))))
        (pss_one (ps_ret (pe_join pe_str (pe_op op_cat (pe_ifExp (pt_cmpR op_lt (pv 3) pe_int (nomark _)) (pe_lst (pa_cons pe_str (pa_cons (pv 2) pa_nil))) (pe_lst (pa_cons pe_str (pa_cons (pv 2) (pa_cons (pe_ix ix_tup (pe_ix ix_list (pv 0) (pv 3) (fun _ _ => rfl)) pe_int (fun _ _ => rfl)) pa_nil))))) (pv 4))))))), ?_⟩
    obtain ⟨xs, p, cl, h1, h2, h3, h4, _⟩ := tb.row hb
    refine (ev_op (r := rIxL K) (ev_var (i := 0) rfl) (ev_var (i := 1) rfl) (rv_ixL (sq_of h1) (atI_nat h2))) H (Ex.refl H) _ fun H1 e1 => ⟨p, _, rfl, st_of (e1 _ _ h3), rfl, _, _, rfl, _, _, rfl, _, _, rfl, rfl, ?_⟩
    have wc := W.col b (List.mem_of_getElem? hb)
    have wd := tbWords_wd W hb
    have wl := tbWords_len W hb
    refine s_ret (ev_join (ys := tbWords tabs b) ev_c ?_ (join_sz (fun y hy => by have := (wd y hy).2.2.2; omega) (by omega) (by decide +kernel))) fun H2 e2 => q H2 (e1.trans e2)
    cases hp : b.par with
    | none =>
      rw [show (tbWords tabs b).map V.str = [V.str "root", V.str b.name] ++ b.cols.map V.str by unfold tbWords; rw [hp]; rfl]
      exact el_catNO (el_if (b := true) (et_is (et_test (ev_op (ev_var rfl) ev_c rv_I0)) rfl) (fun _ => el_lst (ea_cons ev_c (ea_cons (ev_var rfl) ea_nil)) (Nat.le_of_ble_eq_true rfl)) (fun z => by cases z)) (ev_var rfl) (e1 _ _ h4) (by simp; omega)
    | some j =>
      have hj := par_at W hb hp
      obtain ⟨bj, hbj, hnj⟩ := tab_at (show j < tabs.length by omega)
      rw [show (tbWords tabs b).map V.str = [V.str "table", V.str b.name, V.str (nameI tabs j)] ++ b.cols.map V.str by unfold tbWords; rw [hp]; rfl]
      exact el_catNO (el_if (b := false) (et_is (et_test (ev_op (ev_var rfl) ev_c rv_I0)) (decide_eq_false (by show ¬ ((j : Nat) : Int) < 0; omega))) (fun z => by cases z) (fun _ => el_lst (ea_cons ev_c (ea_cons (ev_var rfl) (ea_cons (ev_is (ev_tb0 (tb.mono e1) hbj (ev_var rfl) (ev_var rfl)) (by rw [hnj])) ea_nil))) (Nat.le_of_ble_eq_true rfl))) (ev_var rfl) (e1 _ _ h4) (by simp; omega)
theorem ok_law_schema_of (T : Txt K mg) : CalX P w K mg base CX0 10 "_law_schema_of" ["_law_tables"] (spSchOf K) := by
  have c_law_table_line := ok_law_table_line (P := P) (w := w) (base := base) T
  have st_Schema := st_Schema (P := P) (w := w) (base := base) T
  obtain ⟨fd, F⟩ := T.f_law_schema_of
  refine ⟨_, fd, F.ok sc_law_schema_of (fun vs H Q E h => ?_) (fun cdv A outer s H vs Q E hr h => ?_), T.g_law_schema_of, F.kp, F.bindsN fun _ _ _ _ _ _ us hl => match us, hl with | [_], _ => rfl⟩
  · obtain ⟨a, tabs, rfl, _⟩ := h; rfl
  · obtain ⟨a, tabs, rfl, W, hne, tb, q⟩ := h
    refine ⟨_, (PSs.nox (pss_one (ps_ret (pe_sta st_Schema hr (by decide) pass0 (pe_glob (v := .ref (He.ga K "Schema")) (by rfl) T.g_Schema rfl) (pa_cons (pe_join pe_str (pe_lc (own := [("_law_t", 1)]) (g := gName 1) (tt := tYes) (by rfl) sc_law_schema_of.nd (pi_range1 (by rfl) T.b_range (pa_cons (pe_callB call_lenL (by rfl) T.b_len PySem.boot_len (pa_cons (pv 0) pa_nil)) pa_nil)) (blkOk_by (own := [("_law_t", 1)]) (N := ["_law_tables", "_law_t"]) (sc := defScope s_law_schema_of) (by decide +kernel)) (fun _ _ _ _ _ => pg_name (i := 1) sc_law_schema_of.nd rfl (Or.inl rfl)) (fun _ _ _ _ _ => pts_nil) (fun _ _ _ _ _ => (pe_cx c_law_table_line hr (by decide) pass0 (pa_cons (pv 0) (pa_cons (pv 1) pa_nil)))))) pa_nil))))), ?_⟩
    obtain ⟨ps, h1, h2, h3⟩ := tb.ex
    have few := W.few
    refine s_retSta (ea_cons (ev_join (sep := "\n") (ys := tabs.map (tbText tabs)) ev_c (el_is (el_lcR1 (j := 1) (vs := [1]) (n := tabs.length) (fun _ => true) (fun i => (tabs[i]?.map fun b => V.str (tbText tabs b)).getD .non) (ea_cons (ev_is (ev_len (ev_var rfl) (sq_of h1)) (by rw [List.length_map, h2])) ea_nil) (by omega) (fun _ => rfl) (fun _ _ _ _ => et_yes) (fun k H8 e8 hk _ => ?_)) ?_) (join_sz (fun y hy => ?_) (by rw [List.length_map]; omega) (by decide +kernel))) ea_nil) fun H1 e1 => ⟨tabs, rfl, W, hne, fun sc H2 e2 S => q sc H2 (e1.trans e2) S⟩
    · have hk' : k < tabs.length := by omega
      rw [List.getElem?_eq_getElem hk']
      exact ev_call (ea_cons (ev_var rfl) (ea_cons (ev_var rfl) ea_nil)) fun H9 e9 Q9 q9 E9 => ⟨a, tabs, k, tabs[k], rfl, W, (tb.mono e8).mono e9, List.getElem?_eq_getElem hk', q9⟩
    · rw [given_all, show ((tabs.length : Nat) : Int).toNat = tabs.length from rfl, map_range_get, List.map_map]
      rfl
    · obtain ⟨b, hb, rfl⟩ := List.mem_map.mp hy
      obtain ⟨i, hi, e⟩ := List.getElem_of_mem hb
      have hb2 : tabs[i]? = some b := by rw [List.getElem?_eq_getElem hi, e]
      have := words_len (tbWords_wd W hb2) (tbWords_len W hb2)
      unfold tbText
      omega
theorem ok_law_forest (T : Txt K mg) : CalX P w K mg base CX0 8 "_law_forest" ["_law_state", "_law_names", "_law_most"] spForest := by
  have c_law_draw := ok_law_draw (P := P) (w := w) (base := base) T
  have c_law_get_chain := ok_law_get_chain (P := P) (w := w) (base := base) T 6
  obtain ⟨fd, F⟩ := T.f_law_forest
  refine ⟨_, fd, F.ok sc_law_forest (fun vs H Q E h => ?_) (fun cdv A outer s H vs Q E hr h => ?_), T.g_law_forest, F.kp, F.bindsN fun _ _ _ _ _ _ us hl => match us, hl with | [_, _, _], _ => rfl⟩
  · obtain ⟨s, c, np, G, ns, rfl, _⟩ := h; rfl
  · obtain ⟨s, c, np, G, ns, rfl, ok, hns, W, q⟩ := h
    refine ⟨_, (PSs.nox (pss_cons (ps_set (i := 3) sc_law_forest.nd rfl (by first | exact Or.inl rfl | exact Or.inr rfl) (pe_lst pa_nil))
        (pss_cons (ps_for PassesOwn.never rfl (pi_range1 (by rfl) T.b_range (pa_cons (pe_op op_add pe_int (pe_cx c_law_draw hr (by decide) pass0 (pa_cons (pv 0) (pa_cons (pv 2) pa_nil)))) pa_nil)) (pg_name (i := 4) sc_law_forest.nd rfl (by first | exact Or.inl rfl | exact Or.inr rfl)) (pss_cons (ps_set (i := 5) sc_law_forest.nd rfl (by first | exact Or.inl rfl | exact Or.inr rfl) (pe_op op_cat (pe_lst (pa_cons (pe_un un_neg pe_int) pa_nil)) (pe_lc (own := [("_law_t", 9)]) (g := gName 9) (by rfl) sc_law_forest.nd (pi_range1 (by rfl) T.b_range (pa_cons (pv 4) pa_nil)) (blkOk_by (own := [("_law_t", 9)]) (N := ["_law_state", "_law_names", "_law_most", "_law_tables", "_law_k", "_law_parents", "_law_first", "_law_columns", "_law_c", "_law_t"]) (sc := defScope s_law_forest) (by decide +kernel)) (fun _ _ _ _ _ => pg_name (i := 9) sc_law_forest.nd rfl (Or.inl rfl)) (fun _ _ _ _ _ => (pts_one (pt_cmpR op_lt (pe_callB (len_lk (K := K) rfl) (by rfl) T.b_len PySem.boot_len (pa_cons (pe_cx c_law_get_chain hr (by decide) pass0 (pa_cons (pv 3) (pa_cons (pv 9) pa_nil))) pa_nil)) pe_int (nomark _)))) (fun _ _ _ _ _ => (pv 9)))))
        (pss_cons (ps_set (i := 6) sc_law_forest.nd rfl (by first | exact Or.inl rfl | exact Or.inr rfl) (pe_cx c_law_draw hr (by decide) pass0 (pa_cons (pv 0) (pa_cons pe_int pa_nil))))
        (pss_cons (ps_setLc (i := 7) (own := [("_law_c", 8)]) (g := gName 8) (tt := tYes) (by rfl) sc_law_forest.nd rfl rfl (sw_true rfl rfl rfl (by decide +kernel)) (pi_range1 (by rfl) T.b_range (pa_cons (pe_op op_add pe_int (pe_cx c_law_draw hr (by decide) pass0 (pa_cons (pv 0) (pa_cons pe_int pa_nil)))) pa_nil)) (blkOk_by (own := [("_law_c", 8)]) (N := ["_law_state", "_law_names", "_law_most", "_law_tables", "_law_k", "_law_parents", "_law_first", "_law_columns", "_law_c", "_law_t"]) (sc := defScope s_law_forest) (by decide +kernel)) (fun _ _ _ _ _ => pg_name (i := 8) sc_law_forest.nd rfl (Or.inl rfl)) (fun _ _ _ _ _ => pts_nil) (fun _ _ _ _ _ => (pe_ix (ix_lk (K := K) rfl) (pv 1) (pe_op op_mod (pe_callTy call_int1 (by rfl) T.b_int (by decide +kernel) (pa_cons (pe_op op_add (pv 6) (pv 8)) pa_nil)) pe_int) (fun _ _ => rfl))))
        (pss_one (ps_expr (pe_bm PySem.F.plainAttrs_list PySem.F.slot_list_append PySem.F.type_list_append mt_append (pv 3) (pa_cons (pe_tup (pa_cons (pe_ix ix_list (pv 1) (pv 4) (fun _ _ => rfl)) (pa_cons (pe_ix ix_list (pv 5) (pe_cx c_law_draw hr (by decide) pass0 (pa_cons (pv 0) (pa_cons (pe_callB call_lenL (by rfl) T.b_len PySem.boot_len (pa_cons (pv 5) pa_nil)) pa_nil))) (fun _ _ => rfl)) (pa_cons (pv 7) pa_nil)))) pa_nil))))))))
        (pss_one (ps_ret (pv 3)))))), ?_⟩
    refine q_asgL (el_lst ea_nil (Nat.le_of_ble_eq_true rfl)) fun tp H1 htp e1 h1 => ?_
    obtain ⟨eG1, W1⟩ := W.add htp e1 h1
    have hgt : G tp = none := fresh_back W.g htp
    have hns1 := eG1 _ _ hns
    refine r_forN (Pn := fun n => 1 ≤ n ∧ n ≤ 6) W1 (era_cons (er_opE (Pc := fun _ v => ∃ n : Nat, v = .int (n : Int) ∧ 1 ≤ n ∧ n ≤ 6) ev_c (er_drawN (ea_cons (ev_var rfl) (ea_cons (ev_var rfl) ea_nil)) (by decide) (by decide)) (fun G3 y _ ⟨d, e, hd⟩ => ⟨.int ((1 + d : Nat) : Int), by rw [e, Int.natCast_add]; exact rv_I0, 1 + d, rfl, by omega, by omega⟩)) (fun _ _ _ _ => era_nil)) ?_ ?_
    · rintro G2 vs e2 ⟨x, G3, r, _, ⟨n, rfl, p1, p2⟩, rfl, rfl⟩
      exact ⟨n, rfl, p1, p2⟩
    rintro n G2 H2 e2 W2 ⟨n1, n6⟩
    refine q_forR1 ea_const (by omega) (fun k σ' H' => ∃ (o4 o5 o6 o7 o8 o9 : Option V) (tabs : Tabs) (Gk : Hp), σ' = [some (.ref s), some (.ref np), some (.int 6), some (.ref tp), o4, o5, o6, o7, o8, o9] ∧ Ex G Gk ∧ Wr s c Gk H' ∧ TbAt tabs Gk tp ∧ tabs.length = k ∧ WF tabs ∧ (∀ i, i < k → nameI tabs i = nmI ns i) ∧ (∀ b ∈ tabs, ∀ x ∈ b.cols, Nam x)) ?_ ?_ ?_
    · intro H3 e3
      refine ⟨none, none, none, none, none, none, [], G2, rfl, eG1.trans e2, W2.ex e3, ⟨[], e2 _ _ upd_same, rfl, fun i b h => by cases h⟩, rfl, WF.nil, fun i hi => absurd hi (Nat.not_lt_zero _), fun b hb => by cases hb⟩
    · rintro k σ' H' hk ⟨o4, o5, o6, o7, o8, o9, tabs, Gk, rfl, eGk, Wk, tb, hlen, WT, hnm, hcn⟩
      have hk6 : k ≤ 5 := by omega
      have hnsk := eGk _ _ hns
      obtain ⟨nmk1, nmk2⟩ := nm_at ok (show k < 12 by omega)
      -- parents
      refine r_asg Wk (er_ofL (xs := (parsOf tabs k).map fun o => V.int (parZ o)) (el_is (el_catNN (xs := [V.int (-1)]) (ys := given ((k : Nat) : Int).toNat (fun t => decide ((chainI tabs t).length < 4)) fun t => .int (t : Nat)) (el_lst (ea_cons (ev_un ev_c ru_neg) ea_nil) (Nat.le_of_ble_eq_true rfl)) (el_lcR1 (j := 9) (vs := [9]) (n := (k : Nat)) _ _ (ea_cons (ev_var rfl) ea_nil) (by omega) (fun _ => rfl) (fun i H3 e3 hi => ?_) (fun i H3 e3 hi _ => ev_var rfl)) ?_) (parsOf_given tabs k))) ?_
      · have hi' : i < tabs.length := by omega
        refine et_is (et_test (ev_op (ev_lenN (el_call (vs := [.ref tp, .int (i : Nat)]) (xs := (chainI tabs i).map fun j => V.int (j : Nat)) (ea_cons (ev_var rfl) (ea_cons (ev_var rfl) ea_nil)) fun H4 e4 Q4 q4 E4 => ⟨tp, tabs, i, rfl, by omega, hi', WT, (tb.mono e3).mono e4, fun p H5 hp5 e5 h5 => q4 p H5 hp5 e5 h5⟩)) ev_c rv_I0)) ?_
        rw [List.length_map]
        by_cases z : (chainI tabs i).length < 4
        · rw [decide_eq_true z]; exact decide_eq_true (by omega)
        · rw [decide_eq_false z]; exact decide_eq_false (by omega)
      · have := given_len ((k : Nat) : Int).toNat (fun t => decide ((chainI tabs t).length < 4)) (fun t => V.int (t : Nat))
        rw [Int.toNat_natCast] at this ⊢
        simp only [List.length_cons, List.length_nil]
        omega
      rintro v5 G3 H3 e3 W3 ⟨pp, rfl, hpp⟩
      refine r_asg W3 (er_drawN (ea_cons (ev_var rfl) (ea_cons ev_c ea_nil)) (by decide) (by decide)) ?_
      rintro v6 G4 H4 e4 W4 ⟨first, rfl, hfi⟩
      -- columns
      refine r_asg W4 (er_lcN (P := fun G5 u => ∃ n p, 1 ≤ n ∧ n ≤ 4 ∧ u = .ref p ∧ G5 p = some (.lst ((colsOf ns first n).map V.str)) ∧ G4 p = none) (era_cons (er_opE (Pc := fun _ v => ∃ n : Nat, v = .int (n : Int) ∧ 1 ≤ n ∧ n ≤ 4) ev_c (er_drawN (ea_cons (ev_var rfl) (ea_cons ev_c ea_nil)) (by decide) (by decide)) (fun G3 y _ ⟨d, e, hd⟩ => ⟨.int ((1 + d : Nat) : Int), by rw [e, Int.natCast_add]; exact rv_I0, 1 + d, rfl, by omega, by omega⟩)) (fun _ _ _ _ => era_nil)) ?_) ?_
      · rintro G5 vs e5 ⟨x, G6, r, _, ⟨n, rfl, p1, p2⟩, rfl, rfl⟩
        refine ⟨(n : Nat), rfl, fun H6 W6 Q6 q6 => ?_⟩
        refine (el_lcR1 (j := 8) (vs := [8]) (n := ((n : Nat) : Int)) (H := G5) (fun _ => true) (fun cc => V.str (nmI ns ((first + cc) % 12))) ea_const (by omega) (fun _ => rfl) (fun _ _ _ _ => et_yes) (fun cc H8 e8 hcc _ => ?_)) H6 W6.g _ fun p H7 hp7 e7 h7 => ?_
        · exact ev_op (ev_var rfl) (ev_is (ev_op (ev_int1 (ev_op (ev_var rfl) (ev_var rfl) rv_I0)) ev_c (rv_I (C := fun _ j => 0 < j) (g := fun i j => .int (i % j)) (i := ((first : Nat) : Int) + ((cc : Nat) : Int)) (j := 12) (by decide))) (show V.int ((((first : Nat) : Int) + ((cc : Nat) : Int)) % 12) = V.int (((first + cc) % 12 : Nat) : Int) by rw [Int.natCast_emod, Int.natCast_add]; rfl)) (rv_ixL (sq_of ((e3.trans (e4.trans (e5.trans e8))) _ _ hnsk)) (atI_nat (nm_at ok (Nat.mod_lt _ (by decide))).1))
        · obtain ⟨eg, W7⟩ := W6.add hp7 e7 h7
          refine q6 _ _ H7 eg W7 ⟨n, p, p1, p2, rfl, ?_, fresh_back e5 (fresh_back W6.g hp7)⟩
          rw [upd_same, given_all, Int.toNat_natCast]
          unfold colsOf
          rw [List.map_map]
          rfl
      rintro v7 G5 H5 e5 W5 ⟨m, cl, hm1, hm2, rfl, hcl5, hcl4⟩
      have e35 : Ex Gk G5 := e3.trans (e4.trans e5)
      have tb5 := tb.mono e35
      have hpp5 := (e4.trans e5) _ _ hpp
      have hplen : 1 ≤ (parsOf tabs k).length ∧ (parsOf tabs k).length ≤ 100 := by
        have h1 := List.length_filter_le (fun t => decide ((chainI tabs t).length < 4)) (List.range k)
        rw [List.length_range] at h1
        unfold parsOf
        rw [List.length_cons, List.length_map]
        omega
      obtain ⟨ps, hps1, hps2, _⟩ := tb5.ex
      refine r_app (P := fun G6 u => ∃ (p : Addr) (o : Option Nat), u = .ref p ∧ o ∈ parsOf tabs k ∧ G6 p = some (.tup [.str (nmI ns k), .int (parZ o), .ref cl])) W5 (ev_var rfl) hps1 (by rw [List.length_map]; omega) (er_w (er_tup (era_cons (er_of (ev_op (ev_var rfl) (ev_var rfl) (rv_ixL (sq_of (e35 _ _ hnsk)) (atI_nat nmk1)))) (fun G6 x e6 hx => era_cons (er_opE (Pc := fun _ v => ∃ o, o ∈ parsOf tabs k ∧ v = V.int (parZ o)) (ev_var rfl) (er_drawN (lim := (((parsOf tabs k).length : Nat) : Int)) (ea_cons (ev_var rfl) (ea_cons (ev_is (ev_len (ev_var rfl) (sq_of (e6 _ _ hpp5))) (by rw [List.length_map])) ea_nil)) (by omega) (by omega)) (fun G7 y e7 ⟨d, ey, hd⟩ => ?_)) (fun G8 x2 e8 hx2 => era_of (vs := [V.ref cl]) (ea_cons (ev_var rfl) ea_nil)))) ?_) ?_) ?_
      · have hd' : d < (parsOf tabs k).length := by omega
        refine ⟨.int (parZ ((parsOf tabs k)[d])), ?_, _, List.getElem_mem hd', rfl⟩
        rw [ey]
        exact rv_ixL (sq_of ((e6.trans e7) _ _ hpp5)) (atI_nat (by rw [List.getElem?_map, List.getElem?_eq_getElem hd']; rfl))
      · rintro G6 vs ⟨x, G7, r, _, hx, ⟨x2, G8, r2, _, ⟨o, ho, rfl⟩, rfl, rfl⟩, rfl⟩
        exact Nat.le_of_ble_eq_true rfl
      · rintro G6 v e6 ⟨p, vs, G7, rfl, e7, ⟨x, G8, r, _, rfl, ⟨x2, G9, r2, _, ⟨o, ho, rfl⟩, rfl, rfl⟩, rfl⟩, hp⟩
        exact ⟨p, o, rfl, ho, hp⟩
      rintro v8 G6 H6 e6 W6 ⟨p, o, rfl, ho, hp⟩
      have e36 : Ex Gk G6 := e35.trans e6
      have hpo := parsOf_mem ho
      have hps6 := e6 _ _ hps1
      refine ⟨_, _, _, _, _, _, tabs ++ [⟨nmI ns k, o, colsOf ns first m⟩], upd G6 tp (.lst (ps.map V.ref ++ [.ref p])), rfl, Ex.mut (eGk.trans e36) hgt, W6.chg hps6, ?_, by rw [List.length_append, hlen]; rfl, ?_, ?_, fun b' hb' x hx => ?_⟩
      rotate_left 3
      · rcases List.mem_append.mp hb' with hb' | hb'
        · exact hcn b' hb' x hx
        · rw [List.mem_singleton.mp hb'] at hx
          unfold colsOf at hx
          obtain ⟨a, _, rfl⟩ := List.mem_map.mp hx
          exact ok.nam _ (nm_at ok (Nat.mod_lt _ (by decide))).2
      · exact (tb.mono e36).add (b := ⟨nmI ns k, o, colsOf ns first m⟩) hps6 hp (e6 _ _ hcl5) (fun b' hb' => (WT.col b' hb').2.1) (cols_ok ok hm1 hm2 (by omega)).2.1
      · refine WT.add (by omega) (fun hm => ?_) (ok.nam _ nmk2) (fun j hj => ⟨by have := (hpo j hj).1; omega, (hpo j hj).2⟩) (cols_ok ok hm1 hm2 (by omega))
        obtain ⟨b', hb', e⟩ := List.mem_map.mp hm
        obtain ⟨i, hi, e2⟩ := List.getElem_of_mem hb'
        have h1 := hnm i (by omega)
        rw [nameI_at (by rw [List.getElem?_eq_getElem hi, e2]), e] at h1
        have := nm_inj ok (by omega) (by omega) h1
        omega
      · intro i hi
        rcases Nat.lt_or_ge i k with z | z
        · rw [← hnm i z]
          unfold nameI
          rw [List.getElem?_append_left (by omega)]
        · obtain rfl : i = tabs.length := by omega
          unfold nameI
          rw [List.getElem?_concat_length, hlen]
          rfl
    · rintro σ' H' ⟨o4, o5, o6, o7, o8, o9, tabs, Gk, rfl, eGk, Wk, tb, hlen, WT, hnm, hcn⟩
      have hne : tabs ≠ [] := fun z => by rw [z] at hlen; simp at hlen; omega
      exact s_ret (ev_var rfl) fun H4 e4 => q tabs tp Gk H4 WT hne hcn tb eGk (Wk.ex e4)
end
end K23

set_option Elab.async false
set_option linter.all false
set_option maxRecDepth 100000
set_option maxHeartbeats 4000000
/-! the law's terms and lines -/
namespace K23
open PySem PySem.Spec PyProof.Rows L2 Evl
theorem Wr.back {s c : Addr} {G G2 H : Hp} (h : Wr s c G2 H) (e : Ex G G2) : Wr s c G H := ⟨e.trans h.g, h.d, fresh_back e h.gs, fresh_back e h.gc, h.ne⟩
theorem len_cat (a b : Str) : (a ++ b).length = a.length + b.length := by rw [← tlS_len, tl_cat, List.length_append, tlS_len, tlS_len]
/-! ### texts made of drawn parts -/
def EvRS (s c : Addr) (te : TE) (σ : L2.St) (G : Hp) (n : Nat) (P : Str → Prop) : Prop := ∀ G2, Ex G G2 → EvR s c te σ G2 (fun _ v => ∃ x : Str, v = .str x ∧ x.length ≤ n ∧ P x)
abbrev rCatT : R2 := fun x y H Q => ∃ i j, x = .str i ∧ y = .str j ∧ i.length + j.length ≤ sizeLine ∧ Q (.str (i ++ j)) H
section
variable {s c : Addr} {K : PySem.W.Frag} {σ : L2.St} {G G' H H' : Hp} {ta tb te to : TE} {t u : TT} {D : Ends} {tu tz : TS} {n m : Nat} {Pa Pb : Str → Prop}
theorem ers_of {x : Str} (h : Ev te σ G (.str x)) (hl : x.length ≤ n) : EvRS s c te σ G n (fun z => z = x) := fun G2 e2 => er_w (er_of (h.mono e2)) fun _ v _ hv => ⟨x, hv, hl, rfl⟩
theorem ers_lit {x : Str} (hl : x.length ≤ n) : EvRS s c (tC (.str x)) σ G n (fun z => z = x) := ers_of ev_c hl
theorem ers_var {x : Str} {i : Nat} (h : σ[i]? = some (some (.str x))) (hl : x.length ≤ n) : EvRS s c (tVar i) σ G n (fun z => z = x) := ers_of (ev_var h) hl
theorem ers_cat (ha : EvRS s c ta σ G n Pa) (hb : EvRS s c tb σ G m Pb) (hz : n + m ≤ 100000) : EvRS s c (tOp rCatT ta tb) σ G (n + m) (fun z => ∃ x y, z = x ++ y ∧ Pa x ∧ Pb y) := fun G2 e2 =>
  er_op (ha G2 e2) (fun G3 _ e3 _ => hb G3 (e2.trans e3)) fun G3 G4 x y _ _ hx hy => by
    obtain ⟨a, rfl, l1, pa⟩ := hx
    obtain ⟨b, rfl, l2, pb⟩ := hy
    exact fun H W Q q => (er2_of (s := s) (c := c) (rv_cat (by omega))) H W Q fun v G5 H5 e5 W5 hv => q v G5 H5 e5 W5 ⟨a ++ b, hv, by rw [len_cat]; omega, a, b, rfl, pa, pb⟩
theorem ers_w {P P' : Str → Prop} (h : EvRS s c te σ G n P) (k : ∀ x, P x → P' x) : EvRS s c te σ G n P' := fun G2 e2 => er_w (h G2 e2) fun _ _ _ ⟨x, e, l, p⟩ => ⟨x, e, l, k x p⟩
/-- names[lo + draw(m)] -/
theorem ers_nmA {ns : List Str} {np : Addr} {i lo : Nat} {k : Int} {ta' : TA} {E : XK} (ok : NamesOk ns) (hs : σ[i]? = some (some (.ref np))) (hn : G np = some (.lst (ns.map V.str))) (h : EvA ta' σ G [.ref s, .int k]) (h1 : 0 < k) (h2 : (lo : Int) + k ≤ 12) :
    EvRS s c (tOp (rIxL K) (tVar i) (tOp (rI0 fun i j => .int (i + j)) (tC (.int ((lo : Nat) : Int))) (tCall spDraw [] E ta'))) σ G 12 (fun z => ∃ j : Nat, lo ≤ j ∧ (j : Int) < lo + k ∧ z = nmI ns j) := fun G2 e2 =>
  er_opE (ev_var hs) (er_opE (Pc := fun _ v => ∃ j : Nat, v = .int (j : Int) ∧ lo ≤ j ∧ (j : Int) < lo + k) ev_c (er_drawN (h.mono e2) h1 (by omega)) (fun G3 y _ ⟨d, e, hd⟩ => ⟨.int ((lo + d : Nat) : Int), by rw [e, Int.natCast_add]; exact rv_I0, lo + d, rfl, by omega, by omega⟩)) fun G3 y e3 ⟨j, e, j1, j2⟩ => by
    have hj := nm_at ok (show j < 12 by omega)
    exact ⟨.str (nmI ns j), by rw [e]; exact rv_ixL (sq_of ((e2.trans e3) _ _ hn)) (atI_nat hj.1), nmI ns j, rfl, (name_len (ok.nam _ hj.2).1).2, j, j1, j2, rfl⟩
/-- names[draw(m)] -/
theorem ers_nmD {ns : List Str} {np : Addr} {i : Nat} {k : Int} {ta' : TA} {E : XK} (ok : NamesOk ns) (hs : σ[i]? = some (some (.ref np))) (hn : G np = some (.lst (ns.map V.str))) (h : EvA ta' σ G [.ref s, .int k]) (h1 : 0 < k) (h2 : k ≤ 12) :
    EvRS s c (tOp (rIxL K) (tVar i) (tCall spDraw [] E ta')) σ G 12 (fun z => ∃ j : Nat, (j : Int) < k ∧ z = nmI ns j) := fun G2 e2 =>
  er_opE (ev_var hs) (er_drawN (h.mono e2) h1 (by omega)) fun G3 y e3 ⟨j, e, j2⟩ => by
    have hj := nm_at ok (show j < 12 by omega)
    exact ⟨.str (nmI ns j), by rw [e]; exact rv_ixL (sq_of ((e2.trans e3) _ _ hn)) (atI_nat hj.1), nmI ns j, rfl, (name_len (ok.nam _ hj.2).1).2, j, j2, rfl⟩
/-- xs[draw(len(xs))] -/
theorem ers_colD {cols : List Str} {cp : Addr} {i : Nat} {E : XK} (hc : ∀ x ∈ cols, Nam x) (h0 : cols ≠ []) (hl : cols.length ≤ 1000) (h0s : σ[0]? = some (some (.ref s))) (hs : σ[i]? = some (some (.ref cp))) (hn : G cp = some (.lst (cols.map V.str))) :
    EvRS s c (tOp (rIxL K) (tVar i) (tCall spDraw [] E (tCons (tVar 0) (tCons (tCB (rLenS K) (tCons (tVar i) tNil)) tNil)))) σ G 12 (fun z => z ∈ cols) := fun G2 e2 => by
  have hp := List.length_pos_iff.mpr h0
  refine er_opE (ev_var hs) (er_drawN (lim := ((cols.length : Nat) : Int)) (ea_cons (ev_var h0s) (ea_cons (ev_is (ev_len (ev_var hs) (sq_of (e2 _ _ hn))) (by rw [List.length_map])) ea_nil)) (by omega) (by omega)) fun G3 y e3 ⟨j, e, j2⟩ => ?_
  have hj : j < cols.length := by omega
  exact ⟨.str cols[j], by rw [e]; exact rv_ixL (sq_of ((e2.trans e3) _ _ hn)) (atI_nat (by rw [List.getElem?_map, List.getElem?_eq_getElem hj]; rfl)), _, rfl, (name_len (hc _ (List.getElem_mem hj)).1).2, List.getElem_mem hj⟩
theorem er2_cat {a b : Addr} {xs ys : List V} (ha : G a = some (.lst xs)) (hb : G b = some (.lst ys)) (hl : xs.length + ys.length ≤ 100000) : ER2 s c rCat (.ref a) (.ref b) G (isL (xs ++ ys)) := fun H W Q q =>
  ⟨a, b, xs, ys, rfl, rfl, W.g _ _ ha, W.g _ _ hb, sz_of hl, fun p hp => by
    obtain ⟨e, W2⟩ := W.add hp (Ex.new hp (o := .lst (xs ++ ys))) upd_same
    exact q _ _ _ e W2 ⟨p, rfl, upd_same⟩⟩
theorem er_joinR {sep : Str} {P : Hp → V → Prop} {Pc : Str → Prop} (h : EvR s c te σ G P) (hP : ∀ G2 v, Ex G G2 → P G2 v → ∃ (p : Addr) (ys : List Str), v = .ref p ∧ G2 p = some (.lst (ys.map V.str)) ∧ (ys.map (·.length)).sum + ys.length * sep.length ≤ 16777216 ∧ Pc (Txt.join sep ys)) :
    EvR s c (tM1 (fun x xs H Q => ∃ a p, ∃ ys : List Str, x = .str a ∧ xs = [.ref p] ∧ (SqL K H p (ys.map V.str) ∨ SqT K H p (ys.map V.str)) ∧ (ys.map (·.length)).sum + ys.length * a.length ≤ 16777216 ∧ Q (.str (Txt.join a ys)) H) (tC (.str sep)) te) σ G (fun _ v => ∃ z, v = .str z ∧ Pc z) := fun H W Q q =>
  ⟨⟨sep, rfl⟩, h H W _ fun v G2 H2 e2 W2 p2 => by
    obtain ⟨p, ys, rfl, hp, hz, pc⟩ := hP G2 v e2 p2
    exact ⟨sep, p, ys, rfl, rfl, .inl (sq_of (W2.g _ _ hp)), hz, q _ G2 H2 e2 W2 ⟨_, rfl, pc⟩⟩⟩
theorem r_retS {P : Str → Prop} (W : Wr s c G H) (h : EvRS s c te σ G n P) (k : ∀ x H2, Wr s c G H2 → P x → D.rt (.str x) H2) : tRet te D σ H := r_ret W (h G (Ex.refl G)) fun v G2 H2 e2 W2 ⟨x, ex, _, px⟩ => by
  rw [ex]
  exact k x H2 (W2.back e2) px
theorem r_asgS {P : Str → Prop} {i : Nat} (W : Wr s c G H) (h : EvRS s c te σ G n P) (k : ∀ x H2, Wr s c G H2 → P x → x.length ≤ n → tz D (σ.set i (some (.str x))) H2) : tSeq (tAsg te (gName i)) tz D σ H := r_asg W (h G (Ex.refl G)) fun v G2 H2 e2 W2 ⟨x, ex, hl, px⟩ => by
  rw [ex]
  exact k x H2 (W2.back e2) px hl
end
/-! ### promises -/
def spTermS : Sp := fun vs H Q _ => ∃ (s c np cp : Addr) (G : Hp) (ns cols : List Str), vs = [.ref s, .ref np, .ref cp] ∧ NamesOk ns ∧ G np = some (.lst (ns.map V.str)) ∧ (∀ x ∈ cols, Nam x) ∧ cols ≠ [] ∧ cols.length ≤ 1000 ∧ G cp = some (.lst (cols.map V.str)) ∧ Wr s c G H ∧
  ∀ (a : Tm) H2, a.ok → Wr s c G H2 → Q (.str a.str) H2
def spLineL : Sp := fun vs H Q _ => ∃ (s c np tp cp : Addr) (G : Hp) (ns cols : List Str) (xs : List V), vs = [.ref s, .ref np, .ref tp, .ref cp] ∧ NamesOk ns ∧ G np = some (.lst (ns.map V.str)) ∧ (∀ x ∈ cols, Nam x) ∧ cols ≠ [] ∧ cols.length ≤ 1000 ∧ G cp = some (.lst (cols.map V.str)) ∧ G tp = some (.lst xs) ∧ 1 ≤ xs.length ∧ xs.length ≤ 6 ∧ Wr s c G H ∧
  ∀ (ln : Line) H2, ln.ok → (∀ u, ln = .value u → u ∈ [nmI ns 3, nmI ns 4, nmI ns 5]) → Wr s c G H2 → Q (.str (Txt.join " " ln.words)) H2
theorem ers_term {s c np cp : Addr} {σ : L2.St} {G : Hp} {ns cols : List Str} {ta' : TA} {E : XK} (ok : NamesOk ns) (hn : G np = some (.lst (ns.map V.str))) (hc : ∀ x ∈ cols, Nam x) (h0 : cols ≠ []) (hl : cols.length ≤ 1000) (hcp : G cp = some (.lst (cols.map V.str))) (h : EvA ta' σ G [.ref s, .ref np, .ref cp]) :
    EvRS s c (tCall spTermS [] E ta') σ G 60 (fun z => ∃ a : Tm, a.ok ∧ z = a.str) := fun G2 e2 => er_call (era_of (h.mono e2)) fun G3 vs H3 e3 hv W3 Q q => by
  subst hv
  exact ⟨s, c, np, cp, G3, ns, cols, rfl, ok, (e2.trans e3) _ _ hn, hc, h0, hl, (e2.trans e3) _ _ hcp, W3, fun a H4 oa W4 => q _ G3 H4 (Ex.refl G3) W4 ⟨a.str, rfl, Tm.len oa, a, oa, rfl⟩⟩
theorem nm_Nam {ns : List Str} (ok : NamesOk ns) {j : Nat} (h : j < 12) : Nam (nmI ns j) := ok.nam _ (nm_at ok h).2
section
variable {P : Program} {w : World} {K : PySem.W.Frag} {mg : Str → Option Value} {base : Heap}
theorem ok_law_soup_term (T : Txt K mg) : CalX P w K mg base CX0 2 "_law_soup_term" ["_law_state", "_law_names", "_law_columns"] spTermS := by
  have c_law_draw := ok_law_draw (P := P) (w := w) (base := base) T
  obtain ⟨fd, F⟩ := T.f_law_soup_term
  refine ⟨_, fd, F.ok sc_law_soup_term (fun vs H Q E h => ?_) (fun cdv A outer s H vs Q E hr h => ?_), T.g_law_soup_term, F.kp, F.bindsN fun _ _ _ _ _ _ us hl => match us, hl with | [_, _, _], _ => rfl⟩
  · obtain ⟨s, c, np, cp, G, ns, cols, rfl, _⟩ := h; rfl
  · obtain ⟨s, c, np, cp, G, ns, cols, rfl, ok, hns, hc, h0, hlc, hcp, W, q⟩ := h
    refine ⟨_, (PSs.nox (pss_cons (ps_set (i := 3) sc_law_soup_term.nd rfl (by first | exact Or.inl rfl | exact Or.inr rfl) (pe_cx c_law_draw hr (by decide) pass0 (pa_cons (pv 0) (pa_cons pe_int pa_nil))))
        (pss_cons (ps_if (pt_cmpR op_eq (pv 3) pe_int (nomark _)) (pss_one (ps_ret pe_str)) pss_nil)
        (pss_cons (ps_if (pt_cmpR op_eq (pv 3) pe_int (nomark _)) (pss_one (ps_ret (pe_op op_add_str (pe_op op_add_str pe_str (pe_ix ix_list (pv 1) pe_int (fun _ _ => rfl))) pe_str))) pss_nil)
        (pss_cons (ps_if (pt_cmpR op_in_seq (pv 3) (pe_tup (pa_cons pe_int (pa_cons pe_int pa_nil))) rfl) (pss_one (ps_ret (pe_ix ix_list (pv 1) (pe_op op_add pe_int (pe_cx c_law_draw hr (by decide) pass0 (pa_cons (pv 0) (pa_cons pe_int pa_nil)))) (fun _ _ => rfl)))) pss_nil)
        (pss_cons (ps_set (i := 4) sc_law_soup_term.nd rfl (by first | exact Or.inl rfl | exact Or.inr rfl) (pe_lst (pa_cons (pe_ix ix_list (pv 1) (pe_cx c_law_draw hr (by decide) pass0 (pa_cons (pv 0) (pa_cons pe_int pa_nil))) (fun _ _ => rfl)) pa_nil)))
        (pss_cut (ps_if (pt_cmpR op_gt (pv 3) pe_int (nomark _)) (pss_one (ps_expr (pe_bm PySem.F.plainAttrs_list PySem.F.slot_list_append PySem.F.type_list_append mt_append (pv 4) (pa_cons (pe_ix ix_list (pv 1) (pe_cx c_law_draw hr (by decide) pass0 (pa_cons (pv 0) (pa_cons pe_int pa_nil))) (fun _ _ => rfl)) pa_nil)))) pss_nil)
        (pss_one (ps_ret (pe_join pe_str (pe_op op_cat (pv 4) (pe_lst (pa_cons (pe_ix ix_list (pv 2) (pe_cx c_law_draw hr (by decide) pass0 (pa_cons (pv 0) (pa_cons (pe_callB call_lenL (by rfl) T.b_len PySem.boot_len (pa_cons (pv 2) pa_nil)) pa_nil))) (fun _ _ => rfl)) pa_nil))))))))))))), ?_⟩
    refine r_asg W (er_drawN (ea_cons (ev_var rfl) (ea_cons ev_c ea_nil)) (by decide) (by decide)) ?_
    rintro v1 G1 H1 e1 W1 ⟨kd, rfl, hk⟩
    have W1 := W1.back e1
    refine r_when W1 (et_test (ev_op (ev_var rfl) ev_c (rv_eq rfl))) (fun _ H2 W2 => s_ret ev_c fun H3 e3 => q .me H3 trivial (W2.ex e3)) fun _ H2 W2 => ?_
    refine r_when W2 (et_test (ev_op (ev_var rfl) ev_c (rv_eq rfl))) (fun _ H3 W3 => ?_) fun _ H3 W3 => ?_
    · have h0n := nm_at ok (show 0 < 12 by decide)
      have hl0 := (name_len (ok.nam _ h0n.2).1).2
      refine s_ret (v := .str ("'" ++ nmI ns 0 ++ "'")) (ev_op (ev_op ev_c (ev_ix 0 rfl (W3.g _ _ hns) h0n.1) (rv_cat (by rw [show ("'" : Str).length = 1 from rfl]; omega))) ev_c (rv_cat (by rw [len_cat, show ("'" : Str).length = 1 from rfl]; omega))) fun H4 e4 => q (.con (nmI ns 0)) H4 (nm_Nam ok (by decide)) (W3.ex e4)
    refine r_when W3 (et_test (ev_inU (xs := [.int 2, .int 3]) (ev_var rfl) (eu_tup (ea_cons ev_c (ea_cons ev_c ea_nil)) (Nat.le_of_ble_eq_true rfl)) rfl rfl)) (fun _ H4 W4 => ?_) fun _ H4 W4 => ?_
    · exact r_retS W4 (ers_nmA (lo := 3) ok rfl hns (ea_cons (ev_var rfl) (ea_cons ev_c ea_nil)) (by decide) (by decide)) fun x H5 W5 ⟨j, j1, j2, e⟩ => by
        rw [e]
        exact q (.val (nmI ns j)) H5 (nm_Nam ok (by omega)) W5
    have nm3 : ∀ {σ : L2.St} {G2 : Hp}, Ex G G2 → σ[0]? = some (some (.ref s)) → σ[1]? = some (some (.ref np)) → EvR s c (tOp (rIxL K) (tVar 1) (tCall spDraw [] (fun _ _ _ => False) (tCons (tVar 0) (tCons (tC (.int 3)) tNil)))) σ G2 (fun _ v => ∃ x : Str, v = .str x ∧ x.length ≤ 12 ∧ ∃ j : Nat, (j : Int) < 3 ∧ x = nmI ns j) := fun e s0 s1 =>
      ers_nmD ok s1 (e _ _ hns) (ea_cons (ev_var s0) (ea_cons ev_c ea_nil)) (by decide) (by decide) _ (Ex.refl _)
    refine r_asg W4 (er_lst (era_cons (nm3 (Ex.refl G) rfl rfl) fun _ _ _ _ => era_nil) ?_) ?_
    · rintro G2 vs ⟨x, G3, r, _, _, rfl, rfl⟩; exact Nat.le_of_ble_eq_true rfl
    rintro v5 G5 H5 e5 W5 ⟨p, vs, G6, rfl, e6, e06, hp6, ⟨x, G7, r, _, ⟨x1, rfl, _, j1, hj1, rfl⟩, rfl, rfl⟩, hp5⟩
    have n1 := nm_Nam ok (show j1 < 12 by omega)
    refine q_cut (M := fun σ' H' => ∃ (G8 : Hp) (ups : List Str), σ' = [some (.ref s), some (.ref np), some (.ref cp), some (.int (kd : Nat)), some (.ref p)] ∧ Ex G G8 ∧ Wr s c G8 H' ∧ G8 p = some (.lst ((nmI ns j1 :: ups).map V.str)) ∧ ups.length ≤ 1 ∧ ∀ u ∈ ups, Nam u) ?_ ?_
    · refine s_when ((et_test (ev_op (ev_var rfl) ev_c rv_I0)).mono W5.g) (fun _ H6 e6 => ?_) (fun _ H6 e6 => ⟨G5, [], rfl, e5, W5.ex e6, hp5, by decide, fun _ h => nomatch h⟩)
      refine r_app (W5.ex e6) (ev_var rfl) hp5 (by simp) (nm3 e5 rfl rfl) ?_
      rintro v8 G8 H8 e8 W8 ⟨x, rfl, _, j, hj, rfl⟩
      refine ⟨upd G8 p (.lst ([V.str (nmI ns j1)] ++ [.str (nmI ns j)])), [nmI ns j], rfl, Ex.mut (e5.trans e8) (fresh_back e06 hp6), W8.chg (e8 _ _ hp5), upd_same, by simp, fun u hu => ?_⟩
      rw [List.mem_singleton.mp hu]
      exact nm_Nam ok (by omega)
    rintro σ8 H8 ⟨G8, ups, rfl, e8, W8, hp8, hul, hun⟩
    refine r_ret W8 (er_joinR (Pc := fun z => ∃ a : Tm, a.ok ∧ z = a.str) (er_op (er_of (ev_var rfl)) (Pb := fun _ G10 y => ∃ (p2 : Addr) (cc : Str), y = .ref p2 ∧ cc ∈ cols ∧ G10 p2 = some (.lst [.str cc])) (fun G9 x e9 hx => er_w (er_lst (era_cons (ers_colD (K := K) hc h0 hlc rfl rfl ((e8.trans e9) _ _ hcp) G9 (Ex.refl G9)) fun _ _ _ _ => era_nil) ?_) ?_) (Pc := fun G10 v => ∃ (p : Addr) (cc : Str), v = .ref p ∧ cc ∈ cols ∧ G10 p = some (.lst ((nmI ns j1 :: (ups ++ [cc])).map V.str))) (fun G9 G10 x y e9 e10 hx hy => ?_)) ?_) ?_
    · rintro G2 vs ⟨x, G3, r, _, _, rfl, rfl⟩; exact Nat.le_of_ble_eq_true rfl
    · rintro G10 y e10 ⟨p2, vs2, G11, rfl, e11, _, _, ⟨x2, G12, r2, _, ⟨cc, rfl, _, hcc⟩, rfl, rfl⟩, hp2⟩
      exact ⟨p2, cc, rfl, hcc, hp2⟩
    · obtain rfl : x = .ref p := hx
      obtain ⟨p2, cc, rfl, hcc, hp2⟩ := hy
      refine fun H W Q q => er2_cat ((e9.trans e10) _ _ hp8) hp2 (by simp; omega) H W Q fun v G5 H5 e5 W5 ⟨p3, e, h3⟩ => q v G5 H5 e5 W5 ⟨p3, cc, e, hcc, ?_⟩
      rw [h3, List.map_cons, List.map_cons, List.map_append]
      rfl
    · rintro G2 v e2 ⟨p3, cc, rfl, hcc, h3⟩
      have oka : (Tm.pos (nmI ns j1) ups cc).ok := ⟨n1, hun, by omega, hc cc hcc⟩
      refine ⟨p3, _, rfl, h3, join_sz (fun y hy => ?_) (by simp; omega) (by decide +kernel), .pos (nmI ns j1) ups cc, oka, rfl⟩
      have := name_len (Tm.names oka y hy)
      omega
    · rintro v G9 H9 e9 W9 ⟨z, rfl, a, oa, rfl⟩
      exact q a H9 oa (W9.back (e8.trans e9))
end
/-! ### the texts of the lines -/
theorem sp_ap (a b : Str) (r : List Str) : Txt.join " " (a :: b :: r) = a ++ " " ++ Txt.join " " (b :: r) := tl_ext (by rw [tl_cat, tl_cat, tl_join, tl_join, List.append_assoc]; rfl)
theorem sp_one (a : Str) : Txt.join " " [a] = a := tl_ext (by rw [tl_join]; rfl)
theorem cat_assoc (a b c : Str) : a ++ b ++ c = a ++ (b ++ c) := tl_ext (by rw [tl_cat, tl_cat, tl_cat, tl_cat, List.append_assoc])
theorem l_row : ("row " : Str) = "row" ++ " " := by decide +kernel
theorem l_in : (" in " : Str) = " " ++ ("in" ++ " ") := by decide +kernel
theorem l_value : ("value " : Str) = "value" ++ " " := by decide +kernel
theorem l_need : ("need " : Str) = "need" ++ " " := by decide +kernel
theorem l_eq : (" = " : Str) = " " ++ ("=" ++ " ") := by decide +kernel
theorem l_new : ("new " : Str) = "new" ++ " " := by decide +kernel
theorem l_with : (" with " : Str) = " " ++ ("with" ++ " ") := by decide +kernel
theorem l_under : (" under " : Str) = " " ++ ("under" ++ " ") := by decide +kernel
theorem l_move : ("move " : Str) = "move" ++ " " := by decide +kernel
theorem l_set : ("set " : Str) = "set" ++ " " := by decide +kernel
theorem l_each : ("each " : Str) = "each" ++ " " := by decide +kernel
theorem l_below : (" below " : Str) = " " ++ ("below" ++ " ") := by decide +kernel
theorem l_sets : (" sets " : Str) = " " ++ ("sets" ++ " ") := by decide +kernel
theorem l_take : ("take " : Str) = "take" ++ " " := by decide +kernel
theorem t_row (x t : Str) : ("row " : Str) ++ x ++ " in " ++ t = Txt.join " " (Line.row x t).words := by simp only [Line.words, sp_ap, sp_one, l_row, l_in, cat_assoc]
theorem t_value (u : Str) : ("value " : Str) ++ u = Txt.join " " (Line.value u).words := by simp only [Line.words, sp_ap, sp_one, l_value, cat_assoc]
theorem t_need (a b : Tm) : ("need " : Str) ++ a.str ++ " = " ++ b.str = Txt.join " " (Line.need a b).words := by simp only [Line.words, sp_ap, sp_one, l_need, l_eq, cat_assoc]
theorem t_move (x y : Str) : ("move " : Str) ++ x ++ " under " ++ y = Txt.join " " (Line.move x y).words := by simp only [Line.words, sp_ap, sp_one, l_move, l_under, cat_assoc]
theorem dot_two (x c : Str) : Txt.join "." [x, c] = x ++ ("." ++ c) := tl_ext (by rw [tl_cat, tl_cat, tl_join]; rfl)
theorem t_set (x c : Str) (a : Tm) : ("set " : Str) ++ x ++ "." ++ c ++ " = " ++ a.str = Txt.join " " (Line.set x c a).words := by simp only [Line.words, sp_ap, sp_one, l_set, l_eq, cat_assoc, dot_two]
theorem t_each (t x c : Str) (a : Tm) : ("each " : Str) ++ t ++ " below " ++ x ++ " sets " ++ c ++ " = " ++ a.str = Txt.join " " (Line.each t x c a).words := by simp only [Line.words, sp_ap, sp_one, l_each, l_below, l_sets, l_eq, cat_assoc]
theorem t_take (x : Str) : ("take " : Str) ++ x = Txt.join " " (Line.take x).words := by simp only [Line.words, sp_ap, sp_one, l_take, cat_assoc]
def undS : Option Str → Str
  | none => ""
  | some x => " under " ++ x
theorem t_new (n t : Str) (u : Option Str) (ts : List Tm) (h : ts ≠ []) : ("new " : Str) ++ n ++ " in " ++ t ++ undS u ++ " with " ++ Txt.join " " (ts.map Tm.str) = Txt.join " " (Line.new n t u ts).words := by
  obtain ⟨a, r, rfl⟩ := List.exists_cons_of_ne_nil h
  cases u with
  | none =>
    have e : undS none ++ (" with " : Str) = " with " := by decide +kernel
    simp only [Line.words, List.cons_append, List.nil_append, List.map_cons, sp_ap, cat_assoc]
    rw [← cat_assoc (undS none), e]
    simp only [l_new, l_in, l_with, cat_assoc]
  | some x =>
    simp only [Line.words, List.cons_append, List.nil_append, List.map_cons, sp_ap, undS, l_new, l_in, l_with, l_under, cat_assoc]
end K23

set_option Elab.async false
set_option linter.all false
set_option maxRecDepth 100000
set_option maxHeartbeats 4000000
/-! the law's lines -/
namespace K23
open PySem PySem.Spec PyProof.Rows L2 Evl
theorem tms_of {xs : List V} (h : ∀ x ∈ xs, ∃ a : Tm, a.ok ∧ x = V.str a.str) : ∃ ts : List Tm, xs = (ts.map Tm.str).map V.str ∧ ∀ a ∈ ts, a.ok := by
  induction xs with
  | nil => exact ⟨[], rfl, fun _ h => nomatch h⟩
  | cons x r ih =>
    obtain ⟨ts, e, hts⟩ := ih fun y hy => h y (.tail _ hy)
    obtain ⟨a, oa, ea⟩ := h x (.head _)
    refine ⟨a :: ts, by rw [ea, e]; rfl, fun b hb => ?_⟩
    rcases List.mem_cons.mp hb with rfl | hb
    · exact oa
    · exact hts b hb
section
variable {P : Program} {w : World} {K : PySem.W.Frag} {mg : Str → Option Value} {base : Heap}
theorem ok_law_soup_line (T : Txt K mg) : CalX P w K mg base CX0 3 "_law_soup_line" ["_law_state", "_law_names", "_law_tables", "_law_columns"] spLineL := by
  have c_law_draw := ok_law_draw (P := P) (w := w) (base := base) T
  have c_law_soup_term := ok_law_soup_term (P := P) (w := w) (base := base) T
  obtain ⟨fd, F⟩ := T.f_law_soup_line
  refine ⟨_, fd, F.ok sc_law_soup_line (fun vs H Q E h => ?_) (fun cdv A outer s H vs Q E hr h => ?_), T.g_law_soup_line, F.kp, F.bindsN fun _ _ _ _ _ _ us hl => match us, hl with | [_, _, _, _], _ => rfl⟩
  · obtain ⟨s, c, np, tp, cp, G, ns, cols, xs, rfl, _⟩ := h; rfl
  · obtain ⟨s, c, np, tp, cp, G, ns, cols, xs, rfl, ok, hns, hc, h0, hlc, hcp, htp, hx1, hx6, W, q⟩ := h
    refine ⟨_, (PSs.nox (pss_cons (ps_set (i := 4) sc_law_soup_line.nd rfl (by first | exact Or.inl rfl | exact Or.inr rfl) (pe_cx c_law_draw hr (by decide) pass0 (pa_cons (pv 0) (pa_cons pe_int pa_nil))))
        (pss_cons (ps_set (i := 5) sc_law_soup_line.nd rfl (by first | exact Or.inl rfl | exact Or.inr rfl) (pe_ix ix_list (pv 1) (pe_cx c_law_draw hr (by decide) pass0 (pa_cons (pv 0) (pa_cons (pe_op op_add (pe_callB call_lenL (by rfl) T.b_len PySem.boot_len (pa_cons (pv 2) pa_nil)) (pe_callTy call_int1 (by rfl) T.b_int (by decide +kernel) (pa_cons (pe_cmpR op_eq (pe_cx c_law_draw hr (by decide) pass0 (pa_cons (pv 0) (pa_cons pe_int pa_nil))) pe_int (nomark _)) pa_nil))) pa_nil))) (fun _ _ => rfl)))
        (pss_cons (ps_set (i := 6) sc_law_soup_line.nd rfl (by first | exact Or.inl rfl | exact Or.inr rfl) (pe_ix ix_list (pv 1) (pe_cx c_law_draw hr (by decide) pass0 (pa_cons (pv 0) (pa_cons pe_int pa_nil))) (fun _ _ => rfl)))
        (pss_cons (ps_set (i := 7) sc_law_soup_line.nd rfl (by first | exact Or.inl rfl | exact Or.inr rfl) (pe_cx c_law_soup_term hr (by decide) pass0 (pa_cons (pv 0) (pa_cons (pv 1) (pa_cons (pv 3) pa_nil)))))
        (pss_cons (ps_set (i := 8) sc_law_soup_line.nd rfl (by first | exact Or.inl rfl | exact Or.inr rfl) (pe_ix ix_list (pv 3) (pe_cx c_law_draw hr (by decide) pass0 (pa_cons (pv 0) (pa_cons (pe_callB call_lenL (by rfl) T.b_len PySem.boot_len (pa_cons (pv 3) pa_nil)) pa_nil))) (fun _ _ => rfl)))
        (pss_cons (ps_if (pt_cmpR op_in_seq (pv 4) (pe_tup (pa_cons pe_int (pa_cons pe_int pa_nil))) rfl) (pss_one (ps_ret (pe_op op_add_str (pe_op op_add_str (pe_op op_add_str pe_str (pv 6)) pe_str) (pv 5)))) pss_nil)
        (pss_cons (ps_if (pt_cmpR op_eq (pv 4) pe_int (nomark _)) (pss_one (ps_ret (pe_op op_add_str pe_str (pe_ix ix_list (pv 1) (pe_op op_add pe_int (pe_cx c_law_draw hr (by decide) pass0 (pa_cons (pv 0) (pa_cons pe_int pa_nil)))) (fun _ _ => rfl))))) pss_nil)
        (pss_cons (ps_if (pt_cmpR op_eq (pv 4) pe_int (nomark _)) (pss_one (ps_ret (pe_op op_add_str (pe_op op_add_str (pe_op op_add_str pe_str (pv 7)) pe_str) (pe_cx c_law_soup_term hr (by decide) pass0 (pa_cons (pv 0) (pa_cons (pv 1) (pa_cons (pv 3) pa_nil))))))) pss_nil)
        (pss_cons (ps_if (pt_cmpR op_eq (pv 4) pe_int (nomark _)) (pss_cons (ps_set (i := 9) sc_law_soup_line.nd rfl (by first | exact Or.inl rfl | exact Or.inr rfl) (pe_join pe_str (pe_lc (own := [("_law_k", 11)]) (g := gName 11) (tt := tYes) (by rfl) sc_law_soup_line.nd (pi_range1 (by rfl) T.b_range (pa_cons (pe_op op_add pe_int (pe_cx c_law_draw hr (by decide) pass0 (pa_cons (pv 0) (pa_cons pe_int pa_nil)))) pa_nil)) (blkOk_by (own := [("_law_k", 11)]) (N := ["_law_state", "_law_names", "_law_tables", "_law_columns", "_law_kind", "_law_table", "_law_row", "_law_term", "_law_column", "_law_terms", "_law_under", "_law_k"]) (sc := defScope s_law_soup_line) (by decide +kernel)) (fun _ _ _ _ _ => pg_name (i := 11) sc_law_soup_line.nd rfl (Or.inl rfl)) (fun _ _ _ _ _ => pts_nil) (fun _ _ _ _ _ => (pe_cx c_law_soup_term hr (by decide) pass0 (pa_cons (pv 0) (pa_cons (pv 1) (pa_cons (pv 3) pa_nil))))))))
        (pss_cons (ps_set (i := 10) sc_law_soup_line.nd rfl (by first | exact Or.inl rfl | exact Or.inr rfl) (pe_ix ix_list (pe_lst (pa_cons pe_str (pa_cons (pe_op op_add_str pe_str (pv 6)) (pa_cons (pe_op op_add_str pe_str (pe_ix ix_list (pv 1) pe_int (fun _ _ => rfl))) pa_nil)))) (pe_cx c_law_draw hr (by decide) pass0 (pa_cons (pv 0) (pa_cons pe_int pa_nil))) (fun _ _ => rfl)))
        (pss_one (ps_ret (pe_op op_add_str (pe_op op_add_str (pe_op op_add_str (pe_op op_add_str (pe_op op_add_str (pe_op op_add_str pe_str (pe_ix ix_list (pv 1) (pe_op op_add pe_int (pe_cx c_law_draw hr (by decide) pass0 (pa_cons (pv 0) (pa_cons pe_int pa_nil)))) (fun _ _ => rfl))) pe_str) (pv 5)) (pv 10)) pe_str) (pv 9)))))) pss_nil)
        (pss_cons (ps_if (pt_cmpR op_eq (pv 4) pe_int (nomark _)) (pss_one (ps_ret (pe_op op_add_str (pe_op op_add_str (pe_op op_add_str pe_str (pv 6)) pe_str) (pe_ix ix_list (pv 1) (pe_cx c_law_draw hr (by decide) pass0 (pa_cons (pv 0) (pa_cons pe_int pa_nil))) (fun _ _ => rfl))))) pss_nil)
        (pss_cons (ps_if (pt_cmpR op_eq (pv 4) pe_int (nomark _)) (pss_one (ps_ret (pe_op op_add_str (pe_op op_add_str (pe_op op_add_str (pe_op op_add_str (pe_op op_add_str pe_str (pv 6)) pe_str) (pv 8)) pe_str) (pv 7)))) pss_nil)
        (pss_cons (ps_if (pt_cmpR op_eq (pv 4) pe_int (nomark _)) (pss_one (ps_ret (pe_op op_add_str (pe_op op_add_str (pe_op op_add_str (pe_op op_add_str (pe_op op_add_str (pe_op op_add_str (pe_op op_add_str pe_str (pv 5)) pe_str) (pe_ix ix_list (pv 1) (pe_cx c_law_draw hr (by decide) pass0 (pa_cons (pv 0) (pa_cons pe_int pa_nil))) (fun _ _ => rfl))) pe_str) (pv 8)) pe_str) (pv 7)))) pss_nil)
        (pss_one (ps_ret (pe_op op_add_str pe_str (pv 6))))))))))))))))), ?_⟩
    have nam : ∀ {j : Nat} {m : Int}, (j : Int) < m → m ≤ 12 → Nam (nmI ns j) := fun h1 h2 => nm_Nam ok (by omega)
    have ll : ∀ {x : Str} {n : Nat}, decide (x.length ≤ n) = true → x.length ≤ n := fun h => of_decide_eq_true h
    -- kind
    refine r_asg W (er_drawN (ea_cons (ev_var rfl) (ea_cons ev_c ea_nil)) (by decide) (by decide)) ?_
    rintro v1 G1 H1 e1 W1 ⟨kd, rfl, hk⟩
    have W1 := W1.back e1
    -- table
    refine r_asg W1 (er_opE (Pc := fun _ v => ∃ j : Nat, (j : Int) < 7 ∧ v = .str (nmI ns j)) (Pb := fun _ v => ∃ j : Nat, v = .int (j : Int) ∧ (j : Int) < 7) (ev_var rfl) (er_call (era_cons (er_of (ev_var rfl)) fun G2 x e2 hx => era_cons (er_opE (z := .int ((xs.length : Nat) : Int)) (Pc := fun _ v => ∃ n : Nat, v = .int (n : Int) ∧ 1 ≤ n ∧ n ≤ 7) (Pb := fun _ v => ∃ b : Bool, v = .int (if b then 1 else 0)) (ev_len (ev_var rfl) (sq_of (e2 _ _ htp)))
      (er_cb (era_cons (er_opE2 (z := .int 0) (Pc := fun _ v => ∃ b : Bool, v = .bl b) (er_drawN (ea_cons (ev_var rfl) (ea_cons ev_c ea_nil)) (by decide) (by decide)) (fun _ _ => ev_c) (fun G3 y _ ⟨d, e, _⟩ => ⟨.bl (decide (V.int ((d : Nat) : Int) = V.int 0)), by rw [e]; exact rv_eq rfl, _, rfl⟩)) fun _ _ _ _ => era_nil) (fun G3 vs e3 ⟨x, G4, r, _, ⟨b, eb⟩, er, ev⟩ => ⟨.int (if b then 1 else 0), by rw [ev, er, eb]; exact rc_intB, fun _ _ => ⟨b, rfl⟩⟩))
      (fun G3 y _ ⟨b, e⟩ => ⟨.int ((xs.length + (if b then 1 else 0) : Nat) : Int), by rw [e, Int.natCast_add]; cases b <;> exact rv_I0, _, rfl, by omega, by cases b <;> simp <;> omega⟩)) fun _ _ _ _ => era_nil)
      (fun G2 vs H2 e2 ⟨x, G3, r, e3, hx, ⟨x2, G4, r2, e4, ⟨n, en, n1, n2⟩, er2, er⟩, ev⟩ W2 Q2 q2 => by
        rw [ev, er, er2, en, show x = V.ref s from hx]
        exact ⟨s, c, (n : Int), G2, rfl, by omega, by omega, W2, fun d H3 d1 d2 W3 => q2 _ G2 H3 (Ex.refl G2) W3 ⟨d.toNat, by rw [Int.toNat_of_nonneg d1], by rw [Int.toNat_of_nonneg d1]; omega⟩⟩))
      (fun G3 y e3 ⟨j, e, hj⟩ => ⟨.str (nmI ns j), by rw [e]; exact rv_ixL (sq_of (e3 _ _ hns)) (atI_nat (nm_at ok (by omega)).1), j, hj, rfl⟩)) ?_
    rintro v2 G2 H2 e2 W2 ⟨jt, hjt, rfl⟩
    have W2 := W2.back e2
    have nT := nam hjt (by decide)
    have lT := (name_len nT.1).2
    refine r_asgS W2 (ers_nmD ok rfl hns (ea_cons (ev_var rfl) (ea_cons ev_c ea_nil)) (by decide) (by decide)) ?_
    rintro x3 H3 W3 ⟨jr, hjr, rfl⟩ lR
    have nR := nam hjr (by decide)
    refine r_asgS W3 (ers_term ok hns hc h0 hlc hcp (ea_cons (ev_var rfl) (ea_cons (ev_var rfl) (ea_cons (ev_var rfl) ea_nil)))) ?_
    rintro x4 H4 W4 ⟨at_, oa, rfl⟩ lA
    refine r_asgS W4 (ers_colD hc h0 hlc rfl rfl hcp) ?_
    rintro cc H5 W5 hcc lC
    have nC := hc cc hcc
    generalize nmI ns jt = tn at nT lT ⊢
    generalize hrn : nmI ns jr = rn at nR lR ⊢
    -- row
    refine r_when W5 (et_test (ev_inU (xs := [.int 0, .int 1]) (ev_var rfl) (eu_tup (ea_cons ev_c (ea_cons ev_c ea_nil)) (Nat.le_of_ble_eq_true rfl)) rfl rfl)) (fun _ H6 W6 => ?_) fun _ H6 W6 => ?_
    · refine r_retS W6 (ers_cat (ers_cat (ers_cat (ers_lit (n := 10) (ll (by decide +kernel))) (ers_var rfl lR) (by decide)) (ers_lit (n := 10) (ll (by decide +kernel))) (by decide)) (ers_var rfl lT) (by decide)) fun x H7 W7 ⟨_, _, e, ⟨_, _, e2, ⟨_, _, e3, e4, e5⟩, e6⟩, e7⟩ => ?_
      rw [e, e2, e3, e4, e5, e6, e7, t_row]
      exact q (.row rn tn) H7 ⟨nR, nT⟩ (fun u z => by cases z) W7
    refine r_when W6 (et_test (ev_op (ev_var rfl) ev_c (rv_eq rfl))) (fun _ H7 W7 => ?_) fun _ H7 W7 => ?_
    · refine r_retS W7 (ers_cat (ers_lit (n := 10) (ll (by decide +kernel))) (ers_nmA (lo := 3) ok rfl hns (ea_cons (ev_var rfl) (ea_cons ev_c ea_nil)) (by decide) (by decide)) (by decide)) fun x H8 W8 ⟨_, _, e, e2, ⟨j, j1, j2, e3⟩⟩ => ?_
      rw [e, e2, e3, t_value]
      refine q (.value (nmI ns j)) H8 (nm_Nam ok (by omega)) (fun u z => ?_) W8
      injection z with z
      rw [← z]
      have : j = 3 ∨ j = 4 ∨ j = 5 := by omega
      rcases this with rfl | rfl | rfl <;> simp
    refine r_when W7 (et_test (ev_op (ev_var rfl) ev_c (rv_eq rfl))) (fun _ H8 W8 => ?_) fun _ H8 W8 => ?_
    · refine r_retS W8 (ers_cat (ers_cat (ers_cat (ers_lit (n := 10) (ll (by decide +kernel))) (ers_var rfl lA) (by decide)) (ers_lit (n := 10) (ll (by decide +kernel))) (by decide)) (ers_term ok hns hc h0 hlc hcp (ea_cons (ev_var rfl) (ea_cons (ev_var rfl) (ea_cons (ev_var rfl) ea_nil)))) (by decide)) fun x H9 W9 ⟨_, _, e, ⟨_, _, e2, ⟨_, _, e3, e4, e5⟩, e6⟩, ⟨b, ob, e7⟩⟩ => ?_
      rw [e, e2, e3, e4, e5, e6, e7, t_need]
      exact q (.need at_ b) H9 ⟨oa, ob⟩ (fun u z => by cases z) W9
    refine r_when W8 (et_test (ev_op (ev_var rfl) ev_c (rv_eq rfl))) (fun _ H9 W9 => ?_) fun _ H9 W9 => ?_
    · -- new
      refine r_asg W9 (er_joinR (Pc := fun z => ∃ ts : List Tm, (∀ a ∈ ts, a.ok) ∧ 1 ≤ ts.length ∧ ts.length ≤ 2 ∧ z = Txt.join " " (ts.map Tm.str)) (P := fun G2 u => ∃ (n : Nat) (p : Addr) (ys : List V), u = .ref p ∧ G2 p = some (.lst ys) ∧ ys.length = n ∧ (1 ≤ n ∧ n ≤ 2) ∧ ∀ x ∈ ys, ∃ a : Tm, a.ok ∧ x = V.str a.str)
        (er_lcN (era_cons (er_opE (Pc := fun _ v => ∃ n : Nat, v = .int (n : Int) ∧ 1 ≤ n ∧ n ≤ 2) ev_c (er_drawN (ea_cons (ev_var rfl) (ea_cons ev_c ea_nil)) (by decide) (by decide)) (fun G3 y _ ⟨d, e, hd⟩ => ⟨.int ((1 + d : Nat) : Int), by rw [e, Int.natCast_add]; exact rv_I0, 1 + d, rfl, by omega, by omega⟩)) (fun _ _ _ _ => era_nil)) ?_) ?_) ?_
      · rintro G5 vs e5 ⟨x, G6, r, _, ⟨n, rfl, p1, p2⟩, rfl, rfl⟩
        refine ⟨(n : Nat), rfl, er_w (er_lcRR (n := n) (js := [11]) (Pe := fun v => ∃ a : Tm, a.ok ∧ v = V.str a.str) (by omega) (fun _ => rfl) (fun i G7 e7 hi => er_w (ers_term ok hns hc h0 hlc hcp (ea_cons (ev_var rfl) (ea_cons (ev_var rfl) (ea_cons (ev_var rfl) ea_nil))) G7 (e5.trans e7)) fun _ v _ ⟨x, ex, _, a, oa, ea⟩ => ⟨a, oa, by rw [ex, ea]⟩)) fun G7 v e7 ⟨p, ys, h1, h2, h3, h4⟩ => ⟨n, p, ys, h1, h2, h3, ⟨p1, p2⟩, h4⟩⟩
      · rintro G5 v e5 ⟨n, p, ys, rfl, h2, h3, ⟨p1, p2⟩, h4⟩
        obtain ⟨ts, rfl, hts⟩ := tms_of h4
        rw [List.length_map, List.length_map] at h3
        refine ⟨p, _, rfl, h2, join_sz (fun y hy => ?_) (by rw [List.length_map]; omega) (by decide +kernel), ts, hts, by omega, by omega, rfl⟩
        obtain ⟨a, ha, rfl⟩ := List.mem_map.mp hy
        have := Tm.len (hts a ha)
        omega
      rintro v10 G10 H10 e10 W10 ⟨_, rfl, ts, hts, ht1, ht2, rfl⟩
      have W10 := W10.back e10
      have n6 := nm_Nam ok (show 6 < 12 by decide)
      have l6 := (name_len n6.1).2
      have lt : (Txt.join " " (ts.map Tm.str)).length ≤ 200 := by
        have g := join_len (sep := " ") (ws := ts.map Tm.str) (B := 60) fun y hy => by
          obtain ⟨a, ha, rfl⟩ := List.mem_map.mp hy
          exact Tm.len (hts a ha)
        rw [List.length_map, show (" " : Str).length = 1 from rfl] at g
        have : ts.length * 61 ≤ 2 * 61 := Nat.mul_le_mul_right 61 ht2
        omega
      have lu : (" under " : Str).length = 7 := rfl
      refine r_asg W10 (er_op (Pa := isL [.str "", .str (undS (some rn)), .str (undS (some (nmI ns 6)))]) (Pb := fun _ _ v => ∃ d : Nat, v = .int (d : Int) ∧ (d : Int) < 3) (Pc := fun _ v => ∃ u : Option Str, v = .str (undS u) ∧ ∀ x, u = some x → Nam x) (er_ofL (el_lst (ea_cons ev_c (ea_cons (ev_op ev_c (ev_var rfl) (rv_cat (by omega))) (ea_cons (ev_op ev_c (ev_ix 6 rfl hns (nm_at ok (by decide)).1) (rv_cat (by omega))) ea_nil))) (Nat.le_of_ble_eq_true rfl))) (fun G2 x e2 hx => er_drawN (ea_cons (ev_var rfl) (ea_cons ev_c ea_nil)) (by decide) (by decide)) ?_) ?_
      · rintro G2 G3 x y e2 e3 ⟨p, rfl, hp⟩ ⟨d, rfl, hd⟩
        have hd3 : d = 0 ∨ d = 1 ∨ d = 2 := by omega
        rcases hd3 with rfl | rfl | rfl
        · exact fun H W Q q => er2_of (rv_ixL (v := .str (undS none)) (sq_of (e3 _ _ hp)) (atI_nat rfl)) H W Q fun v G4 H4 e4 W4 hv => q v G4 H4 e4 W4 ⟨none, hv, fun x z => by cases z⟩
        · exact fun H W Q q => er2_of (rv_ixL (v := .str (undS (some rn))) (sq_of (e3 _ _ hp)) (atI_nat rfl)) H W Q fun v G4 H4 e4 W4 hv => q v G4 H4 e4 W4 ⟨some rn, hv, fun x z => by cases z; exact nR⟩
        · exact fun H W Q q => er2_of (rv_ixL (v := .str (undS (some (nmI ns 6)))) (sq_of (e3 _ _ hp)) (atI_nat rfl)) H W Q fun v G4 H4 e4 W4 hv => q v G4 H4 e4 W4 ⟨some (nmI ns 6), hv, fun x z => by cases z; exact n6⟩
      rintro v11 G11 H11 e11 W11 ⟨u, rfl, hu⟩
      have W11 := W11.back e11
      have lun : (undS u).length ≤ 30 := by
        cases u with
        | none => decide +kernel
        | some x => have := (name_len (hu x rfl).1).2; show ((" under " : Str) ++ x).length ≤ 30; rw [len_cat]; omega
      refine r_retS W11 (ers_cat (ers_cat (ers_cat (ers_cat (ers_cat (ers_cat (ers_lit (n := 10) (ll (by decide +kernel))) (ers_nmA (lo := 6) ok rfl hns (ea_cons (ev_var rfl) (ea_cons ev_c ea_nil)) (by decide) (by decide)) (by decide)) (ers_lit (n := 10) (ll (by decide +kernel))) (by decide)) (ers_var rfl lT) (by decide)) (ers_var rfl lun) (by decide)) (ers_lit (n := 10) (ll (by decide +kernel))) (by decide)) (ers_var rfl lt) (by decide))
        fun x H12 W12 ⟨_, _, e, ⟨_, _, e2, ⟨_, _, e3, ⟨_, _, e4, ⟨_, _, e5, ⟨_, _, e6, e7, ⟨j, j1, j2, e8⟩⟩, e9⟩, e10⟩, e11⟩, e12⟩, e13⟩ => ?_
      rw [e, e2, e3, e4, e5, e6, e7, e8, e9, e10, e11, e12, e13, t_new _ _ _ _ (by intro z; rw [z] at ht1; simp at ht1)]
      exact q (.new (nmI ns j) tn u ts) H12 ⟨nm_Nam ok (by omega), nT, hu, hts, ht1, ht2⟩ (fun u z => by cases z) W12
    refine r_when W9 (et_test (ev_op (ev_var rfl) ev_c (rv_eq rfl))) (fun _ H10 W10 => ?_) fun _ H10 W10 => ?_
    · refine r_retS W10 (ers_cat (ers_cat (ers_cat (ers_lit (n := 10) (ll (by decide +kernel))) (ers_var rfl lR) (by decide)) (ers_lit (n := 10) (ll (by decide +kernel))) (by decide)) (ers_nmD ok rfl hns (ea_cons (ev_var rfl) (ea_cons ev_c ea_nil)) (by decide) (by decide)) (by decide)) fun x H9 W9 ⟨_, _, e, ⟨_, _, e2, ⟨_, _, e3, e4, e5⟩, e6⟩, ⟨j, hj, e7⟩⟩ => ?_
      rw [e, e2, e3, e4, e5, e6, e7, t_move]
      exact q (.move rn (nmI ns j)) H9 ⟨nR, nam hj (by decide)⟩ (fun u z => by cases z) W9
    refine r_when W10 (et_test (ev_op (ev_var rfl) ev_c (rv_eq rfl))) (fun _ H11 W11 => ?_) fun _ H11 W11 => ?_
    · refine r_retS W11 (ers_cat (ers_cat (ers_cat (ers_cat (ers_cat (ers_lit (n := 10) (ll (by decide +kernel))) (ers_var rfl lR) (by decide)) (ers_lit (n := 10) (ll (by decide +kernel))) (by decide)) (ers_var rfl lC) (by decide)) (ers_lit (n := 10) (ll (by decide +kernel))) (by decide)) (ers_var rfl lA) (by decide)) fun x H9 W9 ⟨_, _, e, ⟨_, _, e2, ⟨_, _, e3, ⟨_, _, e4, ⟨_, _, e5, e6, e7⟩, e8⟩, e9⟩, e10⟩, e11⟩ => ?_
      rw [e, e2, e3, e4, e5, e6, e7, e8, e9, e10, e11, t_set]
      exact q (.set rn cc at_) H9 ⟨nR, nC, oa⟩ (fun u z => by cases z) W9
    refine r_when W11 (et_test (ev_op (ev_var rfl) ev_c (rv_eq rfl))) (fun _ H12 W12 => ?_) fun _ H12 W12 => ?_
    · refine r_retS W12 (ers_cat (ers_cat (ers_cat (ers_cat (ers_cat (ers_cat (ers_cat (ers_lit (n := 10) (ll (by decide +kernel))) (ers_var rfl lT) (by decide)) (ers_lit (n := 10) (ll (by decide +kernel))) (by decide)) (ers_nmD ok rfl hns (ea_cons (ev_var rfl) (ea_cons ev_c ea_nil)) (by decide) (by decide)) (by decide)) (ers_lit (n := 10) (ll (by decide +kernel))) (by decide)) (ers_var rfl lC) (by decide)) (ers_lit (n := 10) (ll (by decide +kernel))) (by decide)) (ers_var rfl lA) (by decide))
        fun x H9 W9 ⟨_, _, e, ⟨_, _, e2, ⟨_, _, e3, ⟨_, _, e4, ⟨_, _, e5, ⟨_, _, e6, ⟨_, _, e7, e8, e9⟩, e10⟩, ⟨j, hj, e11⟩⟩, e12⟩, e13⟩, e14⟩, e15⟩ => ?_
      rw [e, e2, e3, e4, e5, e6, e7, e8, e9, e10, e11, e12, e13, e14, e15, t_each]
      exact q (.each tn (nmI ns j) cc at_) H9 ⟨nT, nam hj (by decide), nC, oa⟩ (fun u z => by cases z) W9
    · refine r_retS W12 (ers_cat (ers_lit (n := 10) (ll (by decide +kernel))) (ers_var rfl lR) (by decide)) fun x H9 W9 ⟨_, _, e, e2, e3⟩ => ?_
      rw [e, e2, e3, t_take]
      exact q (.take rn) H9 nR (fun u z => by cases z) W9
end
end K23

set_option Elab.async false
set_option linter.all false
set_option maxRecDepth 100000
set_option maxHeartbeats 4000000
/-! the law's checks: of a term, of a name -/
namespace K23
open PySem PySem.Spec PyProof.Rows L2 Evl
/-! ### what an error is to the law -/
def errT (e : Er) : List V := .str e.cls :: (e.name.map V.str).toList
def RetO (er : Option Er) (H : Hp) (Q : VK) : Prop := match er with
  | none => ∀ H2, Ex H H2 → Q .non H2
  | some e => ∀ p H2, Ex H H2 → H2 p = some (.tup (errT e)) → Q (.ref p) H2
theorem RetO.mono {er : Option Er} {H H' : Hp} {Q : VK} (h : RetO er H Q) (e : Ex H H') : RetO er H' Q := by
  cases er with
  | none => exact fun H2 e2 => h H2 (e.trans e2)
  | some er => exact fun p H2 e2 => h p H2 (e.trans e2)
def EvE (te : TE) (σ : L2.St) (H : Hp) (er : Option Er) : Prop := ∀ H1, Ex H H1 → ∀ Q : VK, RetO er H1 Q → te σ H1 Q
section
variable {σ : L2.St} {H : Hp} {ta tb te : TE} {t : TT} {D : Ends} {tz : TS} {er : Option Er}
theorem eve_non : EvE (tC .non) σ H none := fun H1 _ Q q => q H1 (Ex.refl H1)
theorem eve_tup {ta' : TA} {e : Er} {vs : List V} (h : EvA ta' σ H vs) (hv : vs = errT e) : EvE (tTup ta') σ H (some e) := fun H1 e1 Q q => h H1 e1 _ fun H2 e2 =>
  ⟨sz_of (by rw [hv]; cases e <;> exact Nat.le_of_ble_eq_true rfl), fun p hp => q p _ (e2.trans (Ex.new hp)) (by rw [upd_same, hv])⟩
theorem eve_if {b : Bool} (h : EvT t σ H b) (h1 : b = true → EvE ta σ H er) (h2 : b = false → EvE tb σ H er) : EvE (tIf t ta tb) σ H er := fun H1 e Q q => h H1 e _ fun H2 e2 => by
  cases b with
  | true => exact h1 rfl H2 (e.trans e2) Q (q.mono e2)
  | false => exact h2 rfl H2 (e.trans e2) Q (q.mono e2)
theorem eve_call {ta' : TA} {sp : Sp} {E : XK} {vs : List V} (h : EvA ta' σ H vs) (hs : ∀ H1, Ex H H1 → ∀ Q : VK, RetO er H1 Q → sp vs H1 Q E) : EvE (tCall sp [] E ta') σ H er := fun H1 e Q q => h H1 e _ fun H2 e2 => by
  rw [List.append_nil]
  exact hs H2 (e.trans e2) Q (q.mono e2)
theorem s_retE (h : EvE te σ H er) (k : RetO er H D.rt) : tRet te D σ H := h H (Ex.refl H) _ k
end
/-! ### what the law knows -/
def lrows (l : List (Str × Nat)) : List (Str × V) := l.map fun p => (p.1, .int (p.2 : Nat))
def lvals (l : List Str) : List (Str × V) := l.map fun u => (u, .int (-1))
theorem lrows_lk (x : Str) : ∀ l : List (Str × Nat), (lrows l).lookup x = (l.lookup x).map fun i => V.int (i : Nat)
  | [] => rfl
  | (y, i) :: r => by
    show ((y, V.int (i : Nat)) :: lrows r).lookup x = _
    by_cases h : x = y
    · subst h; simp [List.lookup]
    · have : (x == y) = false := beq_eq_false_iff_ne.mpr h
      simp only [List.lookup, this]
      exact lrows_lk x r
theorem lrows_some (x : Str) (l : List (Str × Nat)) : ((lrows l).lookup x).isSome = (l.lookup x).isSome := by rw [lrows_lk, Option.isSome_map]
theorem lvals_some (x : Str) : ∀ l : List Str, ((lvals l).lookup x).isSome = decide (x ∈ l)
  | [] => rfl
  | y :: r => by
    show (((y, V.int (-1)) :: lvals r).lookup x).isSome = _
    by_cases h : x = y
    · subst h; simp [List.lookup]
    · have : (x == y) = false := beq_eq_false_iff_ne.mpr h
      simp only [List.lookup, this]
      rw [lvals_some x r]
      simp [h]
structure KnL (tabs : Tabs) (st : St) (sg : Int) (kd r v w : Addr) (H : Hp) : Prop where
  kn : Kn tabs st
  kd : H kd = some (.dK (sd [("rows", .ref r), ("values", .ref v), ("new", .ref w), ("stage", .int sg)]))
  r : H r = some (.dK (sd (lrows st.rows)))
  v : H v = some (.dK (sd (lvals st.vals)))
  w : H w = some (.dK (sd (lrows st.news)))
theorem KnL.mono {tabs : Tabs} {st : St} {sg : Int} {kd r v w : Addr} {H H' : Hp} (h : KnL tabs st sg kd r v w H) (e : Ex H H') : KnL tabs st sg kd r v w H' := ⟨h.kn, e _ _ h.kd, e _ _ h.r, e _ _ h.v, e _ _ h.w⟩
section
variable {K : PySem.W.Frag} {σ : L2.St} {H : Hp} {to : TE} {tabs : Tabs} {st : St} {sg : Int} {kd r v w : Addr}
theorem ev_kr (h : KnL tabs st sg kd r v w H) (ho : Ev to σ H (.ref kd)) : Ev (tDGet to (tC (.str "rows"))) σ H (.ref r) := ev_dget ho ev_c h.kd rfl
theorem ev_kv (h : KnL tabs st sg kd r v w H) (ho : Ev to σ H (.ref kd)) : Ev (tDGet to (tC (.str "values"))) σ H (.ref v) := ev_dget ho ev_c h.kd rfl
theorem ev_kw (h : KnL tabs st sg kd r v w H) (ho : Ev to σ H (.ref kd)) : Ev (tDGet to (tC (.str "new"))) σ H (.ref w) := ev_dget ho ev_c h.kd rfl
theorem ev_ks (h : KnL tabs st sg kd r v w H) (ho : Ev to σ H (.ref kd)) : Ev (tDGet to (tC (.str "stage"))) σ H (.int sg) := ev_dget ho ev_c h.kd rfl
end
theorem cutV_mid (x : V) (l : List V) (y : V) : cutV (x :: (l ++ [y])) (some 1) (some (-1)) = l := by
  unfold cutV
  have e1 : HT.sIx (x :: (l ++ [y])).length 0 (some 1) = 1 := sIx_nat (m := 1) (by simp)
  have e2 : HT.sIx (x :: (l ++ [y])).length (x :: (l ++ [y])).length (some (-1)) = l.length + 1 := by unfold HT.sIx; simp; omega
  rw [e1, e2, List.drop_succ_cons, List.drop_zero, show l.length + 1 - 1 = l.length by omega, List.take_left']
  rfl
def spTE : Sp := fun vs H Q _ => ∃ (tb kd r v w : Addr) (tabs : Tabs) (st : St) (sg : Int) (a : Tm), vs = [.ref tb, .ref kd, .str a.str] ∧ a.ok ∧ WF tabs ∧ TbAt tabs H tb ∧ KnL tabs st sg kd r v w H ∧ RetO (termErr tabs st a) H Q
/-- a text's first sign -/
theorem atI_head {x : Str} {c : Nat} {r : List Nat} (h : tlS x = c :: r) : atI x.cps.toList 0 = some c := by rw [show x.cps.toList = c :: r from h]; exact atI_nat (j := 0) rfl
section
variable {P : Program} {w : World} {K : PySem.W.Frag} {mg : Str → Option Value} {base : Heap}
theorem ok_law_term_error (T : Txt K mg) : CalX P w K mg base CX0 1 "_law_term_error" ["_law_tables", "_law_known", "_law_term"] spTE := by
  obtain ⟨fd, F⟩ := T.f_law_term_error
  refine ⟨_, fd, F.ok sc_law_term_error (fun vs H Q E h => ?_) (fun cdv A outer s H vs Q E hr h => ?_), T.g_law_term_error, F.kp, F.bindsN fun _ _ _ _ _ _ us hl => match us, hl with | [_, _, _], _ => rfl⟩
  · obtain ⟨tb, kd, r, v, w, tabs, st, sg, a, rfl, _⟩ := h; rfl
  · obtain ⟨tb, kd, r, v, w, tabs, st, sg, a, rfl, ok, W, TB, k, q⟩ := h
    refine ⟨_, (PSs.nox (pss_cons (ps_if (PW.pt (pw_or (pt_cmpR op_eq (pe_ix ix_str (pv 2) pe_int (fun _ _ => rfl)) pe_str (nomark _)) (pw_or1 (pt_cmpR op_eq (pv 2) pe_str (nomark _))))) (pss_one (ps_ret pe_non)) pss_nil)
        (pss_cons (ps_set (i := 3) sc_law_term_error.nd rfl (by first | exact Or.inl rfl | exact Or.inr rfl) (pe_split (pv 2) pe_str))
        (pss_cons (ps_if (pt_cmpR op_eq (pe_callB call_lenL (by rfl) T.b_len PySem.boot_len (pa_cons (pv 3) pa_nil)) pe_int (nomark _)) (pss_one (ps_ret (pe_ifExp (pt_cmp (pc_din (hu_of hr) (pv 2) (pe_dget (hu_of hr) (pv 1) pe_str (fun _ _ => rfl)))) pe_non (pe_tup (pa_cons pe_str (pa_cons (pv 2) pa_nil)))))) pss_nil)
        (pss_cons (ps_if (pt_cmp (pc_dnotin (hu_of hr) (pe_ix ix_list (pv 3) pe_int (fun _ _ => rfl)) (pe_dget (hu_of hr) (pv 1) pe_str (fun _ _ => rfl)))) (pss_one (ps_ret (pe_tup (pa_cons pe_str (pa_cons (pe_ix ix_list (pv 3) pe_int (fun _ _ => rfl)) pa_nil))))) pss_nil)
        (pss_cons (ps_set (i := 4) sc_law_term_error.nd rfl (by first | exact Or.inl rfl | exact Or.inr rfl) (pe_dget (hu_of hr) (pe_dget (hu_of hr) (pv 1) pe_str (fun _ _ => rfl)) (pe_ix ix_list (pv 3) pe_int (fun _ _ => rfl)) (fun _ _ => rfl)))
        (pss_cons (ps_for PassesOwn.never rfl (pi_list (pe_slice sl_list (pv 3) (po_some pe_int) (po_some (pe_un un_neg pe_int)))) (pg_name (i := 5) sc_law_term_error.nd rfl (by first | exact Or.inl rfl | exact Or.inr rfl)) (pss_cons (ps_set (i := 4) sc_law_term_error.nd rfl (by first | exact Or.inl rfl | exact Or.inr rfl) (pe_ix ix_tup (pe_ix ix_list (pv 0) (pv 4) (fun _ _ => rfl)) pe_int (fun _ _ => rfl)))
        (pss_one (ps_if (PW.pt (pw_or (pt_cmpR op_lt (pv 4) pe_int (nomark _)) (pw_or1 (pt_cmpR op_ne (pe_ix ix_tup (pe_ix ix_list (pv 0) (pv 4) (fun _ _ => rfl)) pe_int (fun _ _ => rfl)) (pv 5) (nomark _))))) (pss_one (ps_ret (pe_tup (pa_cons pe_str (pa_cons (pv 5) pa_nil))))) pss_nil))))
        (pss_one (ps_ret (pe_ifExp (pt_cmpR op_in_seq (pe_ix ix_list (pv 3) (pe_un un_neg pe_int) (fun _ _ => rfl)) (pe_ix ix_tup (pe_ix ix_list (pv 0) (pv 4) (fun _ _ => rfl)) pe_int (fun _ _ => rfl)) rfl) pe_non (pe_tup (pa_cons pe_str (pa_cons (pe_ix ix_list (pv 3) (pe_un un_neg pe_int) (fun _ _ => rfl)) pa_nil))))))))))))), ?_⟩
    have hlen := Tm.len ok
    have q39 : ∀ d : Nat, decide (V.str ⟨#[d]⟩ = V.str "'") = decide (some d = some 39) := fun d => str1_eq d 39
    cases a with
    | me =>
      refine q_when (b := true) (et_is (et_or (et_test (ev_op (ev_op (ev_var rfl) ev_c (rv_ixS (by omega) (c := 109) (by decide +kernel))) ev_c (rv_eq rfl))) fun _ => et_test (ev_op (ev_var rfl) ev_c (rv_eq rfl))) ?_) (fun _ H1 e1 => ?_) (fun z => by cases z)
      · rw [decide_eq_true (show V.str Tm.me.str = V.str "me" from rfl), Bool.or_true]
      · exact s_ret ev_c fun H2 e2 => q H2 (e1.trans e2)
    | con n =>
      have h := con_tl n
      refine q_when (b := true) (et_is (et_or (b := false) (et_test (ev_op (ev_op (ev_var rfl) ev_c (rv_ixS (by omega) (atI_head h))) ev_c (rv_eq rfl))) fun z => by rw [q39] at z; exact absurd z (by decide)) (by rw [q39]; rfl)) (fun _ H1 e1 => s_ret ev_c fun H2 e2 => q H2 (e1.trans e2)) (fun z => by cases z)
    | val n =>
      obtain ⟨d, rr, h, hd⟩ := name_head ok.1
      have spl : Txt.split n "." = [n] := split_one tl_dot (by decide) (name_free ok.1).2.1
      refine q_when (b := false) (et_is (et_or (et_test (ev_op (ev_op (ev_var rfl) ev_c (rv_ixS (by omega) (atI_head h))) ev_c (rv_eq rfl))) fun _ => et_test (ev_op (ev_var rfl) ev_c (rv_eq rfl))) ?_) (fun z => by cases z) fun _ H1 e1 => ?_
      · rw [q39, decide_eq_false (fun z => let_ne39 hd (Option.some.inj z)), Bool.false_or]
        exact decide_eq_false fun z => ok.2 (V.str.inj z)
      · refine q_asgL (xs := [.str n]) (el_is (el_split (ev_var rfl) ev_c rfl (by show n.length ≤ 90000; have : n.length ≤ 60 := hlen; omega)) (by rw [show (Tm.val n).str = n from rfl, spl]; rfl)) fun p H2 hp e2 h2 => ?_
        have e12 := e1.trans e2
        refine q_when (b := true) (et_is (et_test (ev_op (ev_len (ev_var rfl) (sq_of h2)) ev_c (rv_eq rfl))) rfl) (fun _ H3 e3 => ?_) (fun z => by cases z)
        have k3 := k.mono (e12.trans e3)
        refine s_retE (er := termErr tabs st (.val n)) (eve_if (et_in (ev_var rfl) (ev_kv k3 (ev_var rfl)) k3.v) (fun hb => ?_) (fun hb => ?_)) (q.mono (e12.trans e3))
        · rw [lvals_some, decide_eq_true_eq] at hb
          rw [show termErr tabs st (.val n) = none from if_pos hb]
          exact eve_non
        · rw [lvals_some, decide_eq_false_iff_not] at hb
          rw [show termErr tabs st (.val n) = some (.unk n) from if_neg hb]
          exact eve_tup (ea_cons ev_c (ea_cons (ev_var rfl) ea_nil)) rfl
    | pos x ups cc =>
      have nms := Tm.names ok
      obtain ⟨d, rr, h, hd⟩ := pos_head (x := x) (r := ups ++ [cc]) ok.1.1
      have spl := pos_split (x := x) (r := ups ++ [cc]) nms
      have hmap : (x :: (ups ++ [cc])).map V.str = V.str x :: (ups.map V.str ++ [V.str cc]) := by rw [List.map_cons, List.map_append]; rfl
      refine q_when (b := false) (et_is (et_or (et_test (ev_op (ev_op (ev_var rfl) ev_c (rv_ixS (by omega) (atI_head h))) ev_c (rv_eq rfl))) fun _ => et_test (ev_op (ev_var rfl) ev_c (rv_eq rfl))) ?_) (fun z => by cases z) fun _ H1 e1 => ?_
      · rw [q39, decide_eq_false (fun z => let_ne39 hd (Option.some.inj z)), Bool.false_or]
        exact decide_eq_false fun z => Tm.pos_ne (V.str.inj z)
      refine q_asgL (xs := V.str x :: (ups.map V.str ++ [V.str cc])) (el_is (el_split (ev_var rfl) ev_c rfl (by have := hlen; omega)) (by rw [show (Tm.pos x ups cc).str = Txt.join "." (x :: (ups ++ [cc])) from rfl, spl, hmap])) fun p H2 hp e2 h2 => ?_
      have e12 := e1.trans e2
      refine q_when (b := false) (et_is (et_test (ev_op (ev_len (ev_var rfl) (sq_of h2)) ev_c (rv_eq rfl))) (decide_eq_false fun z => by have := V.int.inj z; simp at this; omega)) (fun z => by cases z) fun _ H3 e3 => ?_
      have e13 := e12.trans e3
      have k3 := k.mono e13
      have h3 := e3 _ _ h2
      have w0 : ∀ {H' : Hp}, Ex H3 H' → Ev (tOp (rIxL K) (tVar 3) (tC (.int 0))) [some (.ref tb), some (.ref kd), some (.str (Tm.pos x ups cc).str), some (.ref p), none, none] H' (.str x) := fun e => ev_ix 0 rfl (e _ _ h3) rfl
      cases hr : rowIx st x with
      | none =>
        have z : termErr tabs st (.pos x ups cc) = some (.unk x) := by show (match rowIx st x with | some i => posErr tabs i ups cc | none => some (.unk x)) = _; rw [hr]
        rw [z] at q
        refine q_when (b := true) (et_is (et_notIn (w0 (Ex.refl _)) (ev_kr k3 (ev_var rfl)) k3.r) (by rw [lrows_some, show st.rows.lookup x = none from hr]; rfl)) (fun _ H4 e4 => ?_) (fun z => by cases z)
        exact s_retE (er := some (.unk x)) (eve_tup (ea_cons ev_c (ea_cons (w0 e4) ea_nil)) rfl) (q.mono (e13.trans e4))
      | some i =>
        have z : termErr tabs st (.pos x ups cc) = posErr tabs i ups cc := by show (match rowIx st x with | some i => posErr tabs i ups cc | none => some (.unk x)) = _; rw [hr]
        rw [z] at q
        refine q_when (b := false) (et_is (et_notIn (w0 (Ex.refl _)) (ev_kr k3 (ev_var rfl)) k3.r) (by rw [lrows_some, show st.rows.lookup x = some i from hr]; rfl)) (fun z => by cases z) fun _ H4 e4 => ?_
        have e14 := e13.trans e4
        have k4 := k.mono e14
        refine q_asg (v := .int (i : Nat)) (ev_dget (ev_kr k4 (ev_var rfl)) (w0 e4) k4.r (by rw [lrows_lk, show st.rows.lookup x = some i from hr]; rfl)) fun H5 e5 => ?_
        have e15 := e14.trans e5
        have h5 := (e4.trans e5) _ _ h3
        refine q_forNLn (xs := ups.map V.str) (el_is (el_sl (ev_var rfl) (eo_some ev_c) (eo_some (ev_un ev_c ru_neg)) (sq_of h5)) (cutV_mid _ _ _)) (fun pn kk σ' H' => ∃ (j : Nat) (o : Option V), σ' = [some (.ref tb), some (.ref kd), some (.str (Tm.pos x ups cc).str), some (.ref p), some (.int (j : Nat)), o] ∧ Ex H5 H' ∧ H' pn = some (.lst (ups.map V.str)) ∧ j < tabs.length ∧ posErr tabs i ups cc = posErr tabs j (ups.drop kk) cc)
          (fun pn H6 hpn e6 h6 => ⟨i, none, rfl, e6, h6, k.kn.rowLt hr, rfl⟩) (fun pn kk σ' H' _ ⟨_, _, _, _, h, _⟩ => sq_of h) ?_ ?_
        · rintro pn kk xv σ' H' hx ⟨j, o, rfl, e6, hpn, hj, hpos⟩
          obtain ⟨u, hu, rfl⟩ : ∃ u, ups[kk]? = some u ∧ V.str u = xv := by
            rw [List.getElem?_map] at hx
            cases hu : ups[kk]? with
            | none => rw [hu] at hx; cases hx
            | some u => rw [hu] at hx; exact ⟨u, rfl, Option.some.inj hx⟩
          have hdrop : ups.drop kk = u :: ups.drop (kk + 1) := by
            obtain ⟨h1, h2⟩ := List.getElem?_eq_some_iff.mp hu
            rw [List.drop_eq_getElem_cons h1, h2]
          rw [hdrop] at hpos
          have e16 := e15.trans e6
          obtain ⟨b, hb, hnb⟩ := tab_at hj
          have TB6 := TB.mono e16
          refine q_asg (ev_tb1 TB6 hb (ev_var rfl) (ev_var rfl)) fun H7 e7 => ?_
          have e17 := e16.trans e7
          have bad : ∀ (o : Option V) (D2 : Ends) H8, D2.rt = Q → Ex H H8 → posErr tabs i ups cc = some (.unk u) → tRet (tTup (tCons (tC (.str "UnknownName")) (tCons (tVar 5) tNil))) D2 [some (.ref tb), some (.ref kd), some (.str (Tm.pos x ups cc).str), some (.ref p), o, some (.str u)] H8 := fun o D2 H8 eD e8 z => by
            rw [z] at q
            refine s_retE (er := some (.unk u)) (eve_tup (ea_cons ev_c (ea_cons (ev_var rfl) ea_nil)) rfl) ?_
            rw [eD]
            exact q.mono e8
          cases hp2 : b.par with
          | none =>
            refine s_when (b := true) (et_is (et_or (a := true) (b := true) (et_is (et_test (ev_op (ev_var rfl) ev_c rv_I0)) rfl) fun z => by cases z) rfl) (fun _ H8 e8 => ?_) (fun z => by cases z)
            exact bad _ _ H8 rfl (e17.trans e8) (by rw [hpos]; unfold posErr; rw [parI_at hb, hp2])
          | some j2 =>
            have hlt := par_at W hb hp2
            obtain ⟨b2, hb2, hn2⟩ := tab_at (show j2 < tabs.length by omega)
            refine s_when (b := !decide (nameI tabs j2 = u)) (et_is (et_or (et_is (et_test (ev_op (ev_var rfl) ev_c rv_I0)) (show decide ((j2 : Int) < 0) = false from decide_eq_false (by omega))) fun _ => et_test (ev_op (ev_tb0 (TB6.mono e7) hb2 (ev_var rfl) (ev_var rfl)) (ev_var rfl) (rv_ne rfl))) (by rw [Bool.false_or, dec_str, hn2])) (fun hz H8 e8 => ?_) (fun hz H8 e8 => ?_)
            · rw [Bool.not_eq_true', decide_eq_false_iff_not] at hz
              exact bad _ _ H8 rfl (e17.trans e8) (by rw [hpos]; unfold posErr; rw [parI_at hb, hp2]; exact if_neg hz)
            · rw [Bool.not_eq_false', decide_eq_true_eq] at hz
              exact ⟨j2, _, rfl, e6.trans (e7.trans e8), (e7.trans e8) _ _ hpn, by omega, by rw [hpos, posErr, parI_at hb, hp2]; exact if_pos hz⟩
        · rintro pn σ' H' ⟨j, o, rfl, e6, hpn, hj, hpos⟩
          rw [List.length_map, List.drop_length] at hpos
          have e16 := e15.trans e6
          obtain ⟨b, hb, hnb⟩ := tab_at hj
          obtain ⟨cl, hcl1, hcl2⟩ := ev_tb2 (K := K) (σ := [some (.ref tb), some (.ref kd), some (.str (Tm.pos x ups cc).str), some (.ref p), some (.int (j : Nat)), o]) (to := tVar 0) (ti := tVar 4) (TB.mono e16) hb (ev_var rfl) (ev_var rfl)
          have lastW : Ev (tOp (rIxL K) (tVar 3) (tUn (rU fun i => .int (-i)) (tC (.int 1)))) [some (.ref tb), some (.ref kd), some (.str (Tm.pos x ups cc).str), some (.ref p), some (.int (j : Nat)), o] H' (.str cc) :=
            ev_op (ev_var rfl) (ev_un ev_c ru_neg) (rv_ixL (sq_of (e6 _ _ h5)) (atI_last (V.str x :: ups.map V.str) (V.str cc)))
          have hcol : posErr tabs i ups cc = if cc ∈ b.cols then none else some (.unk cc) := by rw [hpos]; unfold posErr colErr; rw [colsI_at hb]
          refine s_retE (er := posErr tabs i ups cc) (eve_if (et_test (ev_op lastW hcl1 (rv_isL (sq_of hcl2) rfl (flat_strs _)))) (fun hz => ?_) (fun hz => ?_)) (q.mono e16)
          · rw [inV_str, decide_eq_true_eq] at hz
            rw [hcol, if_pos hz]
            exact eve_non
          · rw [inV_str, decide_eq_false_iff_not] at hz
            rw [hcol, if_neg hz]
            exact eve_tup (ea_cons ev_c (ea_cons lastW ea_nil)) rfl
end
end K23

set_option Elab.async false
set_option linter.all false
set_option maxRecDepth 100000
set_option maxHeartbeats 4000000
/-! the law's checks: of a line's names -/
namespace K23
open PySem PySem.Spec PyProof.Rows L2 Evl
inductive Chk where
  | term (a : Tm)
  | fresh (n : Str)
  | table (t : Str)
  | row (x : Str)
  | any (x : Str)
  | col (t c : Str)
def Chk.rowV : Chk → List V
  | .term a => [.str "term", .str a.str]
  | .fresh n => [.str "fresh", .str n]
  | .table t => [.str "table", .str t]
  | .row x => [.str "row", .str x]
  | .any x => [.str "any", .str x]
  | .col t c => [.str "column", .str t, .str c]
def Chk.key : Chk → Str
  | .term a => a.str
  | .fresh n => n
  | .table t => t
  | .row x => x
  | .any x => x
  | .col t _ => t
def errC (tabs : Tabs) (st : St) : Chk → Option Er
  | .term a => termErr tabs st a
  | .fresh n => newErr st n
  | .table t => tabErr tabs t
  | .row x => rowErr st x
  | .any x => anyErr st x
  | .col t c => colErr tabs (ixT tabs t) c
theorem only_one {l : List Nat} {i : Nat} (h : l.Nodup) (hm : ∀ a, a ∈ l ↔ a = i) : l = [i] := by
  cases l with
  | nil => exact absurd ((hm i).mpr rfl) (by simp)
  | cons a r =>
    have ha : a = i := (hm a).mp (.head _)
    subst ha
    cases r with
    | nil => rfl
    | cons b r =>
      have hb : b = a := (hm b).mp (.tail _ (.head _))
      subst hb
      simp at h
def plcs (tabs : Tabs) (x : Str) : List Int := if (findT tabs x).isSome = true then [((ixT tabs x : Nat) : Int)] else []
theorem plcs_given {tabs : Tabs} (W : WF tabs) (x : Str) : given tabs.length (fun i => decide (nameI tabs i = x)) (fun i => .int (i : Nat)) = (plcs tabs x).map V.int := by
  unfold given plcs
  by_cases h : (findT tabs x).isSome = true
  · rw [if_pos h, only_one (i := ixT tabs x) (List.nodup_iff_pairwise_ne.mpr (List.Pairwise.filter _ (List.nodup_iff_pairwise_ne.mp List.nodup_range))) fun a => ?_]
    · rfl
    · rw [List.mem_filter, List.mem_range, decide_eq_true_eq]
      constructor
      · rintro ⟨h1, h2⟩
        exact name_inj W.nod h1 (find_lt h) (h2.trans (name_ix h).symm)
      · rintro rfl
        exact ⟨find_lt h, name_ix h⟩
  · rw [if_neg h, List.filter_eq_nil_iff.mpr fun a ha hz => ?_]
    · rfl
    · have hn := find_none (by simpa using h) (tabs[a]'(List.mem_range.mp ha)) (List.getElem_mem _)
      rw [decide_eq_true_eq, nameI_at (List.getElem?_eq_getElem (List.mem_range.mp ha))] at hz
      exact hn hz
def spNE : Sp := fun vs H Q _ => ∃ (tb kd r v w rp : Addr) (tabs : Tabs) (st : St) (sg : Int) (ck : Chk), vs = [.ref tb, .ref kd, .ref rp] ∧ H rp = some (.tup ck.rowV) ∧ (∀ a, ck = .term a → a.ok) ∧ (∀ t c, ck = .col t c → (findT tabs t).isSome = true) ∧ WF tabs ∧ TbAt tabs H tb ∧ KnL tabs st sg kd r v w H ∧ RetO (errC tabs st ck) H Q
theorem ev_din {ty td : TE} {σ : L2.St} {H : Hp} {a : Addr} {k : Str} {l : List (Str × V)} (hy : Ev ty σ H (.str k)) (hd : Ev td σ H (.ref a)) (ho : H a = some (.dK (sd l))) : Ev (tDIn ty td) σ H (.bl (l.lookup k).isSome) := fun H1 e Q q =>
  hy H1 e _ fun H2 e2 => hd H2 (e.trans e2) _ fun H3 e3 => ⟨a, _, rfl, DGet.k (k := .inr k) ((e.trans (e2.trans e3)) _ _ ho), by rw [valV_sd]; exact q H3 (e2.trans e3)⟩
section
variable {P : Program} {w : World} {K : PySem.W.Frag} {mg : Str → Option Value} {base : Heap}
theorem ok_law_name_error (T : Txt K mg) : CalX P w K mg base CX0 2 "_law_name_error" ["_law_tables", "_law_known", "_law_row"] spNE := by
  have c_law_term_error := ok_law_term_error (P := P) (w := w) (base := base) T
  obtain ⟨fd, F⟩ := T.f_law_name_error
  refine ⟨_, fd, F.ok sc_law_name_error (fun vs H Q E h => ?_) (fun cdv A outer s H vs Q E hr h => ?_), T.g_law_name_error, F.kp, F.bindsN fun _ _ _ _ _ _ us hl => match us, hl with | [_, _, _], _ => rfl⟩
  · obtain ⟨tb, kd, r, v, w, rp, tabs, st, sg, ck, rfl, _⟩ := h; rfl
  · obtain ⟨tb, kd, r, v, w, rp, tabs, st, sg, ck, rfl, hrp, oka, okc, W, TB, k, q⟩ := h
    refine ⟨_, (PSs.nox (pss_cons (ps_setLc (i := 3) (own := [("_law_t", 5)]) (g := gName 5) (by rfl) sc_law_name_error.nd rfl rfl (sw_true rfl rfl rfl (by decide +kernel)) (pi_range1 (by rfl) T.b_range (pa_cons (pe_callB call_lenL (by rfl) T.b_len PySem.boot_len (pa_cons (pv 0) pa_nil)) pa_nil)) (blkOk_by (own := [("_law_t", 5)]) (N := ["_law_tables", "_law_known", "_law_row", "_law_places", "_law_used", "_law_t"]) (sc := defScope s_law_name_error) (by decide +kernel)) (fun _ _ _ _ _ => pg_name (i := 5) sc_law_name_error.nd rfl (Or.inl rfl)) (fun _ _ _ _ _ => (pts_one (pt_cmpR op_eq (pe_ix (ix_tk (K := K) rfl) (pe_ix (ix_lk (K := K) rfl) (pv 0) (pv 5) (fun _ _ => rfl)) pe_int (fun _ _ => rfl)) (pe_ix (ix_tk (K := K) rfl) (pv 2) pe_int (fun _ _ => rfl)) (nomark _)))) (fun _ _ _ _ _ => (pv 5)))
        (pss_cons (ps_if (pt_cmpR op_eq (pe_ix ix_tup (pv 2) pe_int (fun _ _ => rfl)) pe_str (nomark _)) (pss_one (ps_ret (pe_cx c_law_term_error hr (by decide) pass0 (pa_cons (pv 0) (pa_cons (pv 1) (pa_cons (pe_ix ix_tup (pv 2) pe_int (fun _ _ => rfl)) pa_nil)))))) pss_nil)
        (pss_cons (ps_if (pt_cmpR op_eq (pe_ix ix_tup (pv 2) pe_int (fun _ _ => rfl)) pe_str (nomark _)) (pss_cons (ps_set (i := 4) sc_law_name_error.nd rfl (by first | exact Or.inl rfl | exact Or.inr rfl) (pe_or (pe_cmpR op_eq (pe_ix ix_tup (pv 2) pe_int (fun _ _ => rfl)) pe_str (nomark _)) (pe_or (pe_cmp (pc_din (hu_of hr) (pe_ix ix_tup (pv 2) pe_int (fun _ _ => rfl)) (pe_dget (hu_of hr) (pv 1) pe_str (fun _ _ => rfl))) rfl) (pe_or (pe_cmp (pc_din (hu_of hr) (pe_ix ix_tup (pv 2) pe_int (fun _ _ => rfl)) (pe_dget (hu_of hr) (pv 1) pe_str (fun _ _ => rfl))) rfl) (pe_one (pe_cmp (pc_din (hu_of hr) (pe_ix ix_tup (pv 2) pe_int (fun _ _ => rfl)) (pe_dget (hu_of hr) (pv 1) pe_str (fun _ _ => rfl))) rfl))))))
        (pss_one (ps_ret (pe_ifExp (pt_val (pv 4)) (pe_tup (pa_cons pe_str (pa_cons (pe_ix ix_tup (pv 2) pe_int (fun _ _ => rfl)) pa_nil))) pe_non)))) pss_nil)
        (pss_cons (ps_if (pt_cmpR op_eq (pe_ix ix_tup (pv 2) pe_int (fun _ _ => rfl)) pe_str (nomark _)) (pss_one (ps_ret (pe_ifExp (pt_cmpR (op_neD hr.units) (pv 3) (pe_lst pa_nil) (nomark _)) pe_non (pe_tup (pa_cons pe_str (pa_cons (pe_ix ix_tup (pv 2) pe_int (fun _ _ => rfl)) pa_nil)))))) pss_nil)
        (pss_cons (ps_if (pt_cmpR op_eq (pe_ix ix_tup (pv 2) pe_int (fun _ _ => rfl)) pe_str (nomark _)) (pss_one (ps_ret (pe_ifExp (pt_cmpR op_in_seq (pe_ix ix_tup (pv 2) pe_int (fun _ _ => rfl)) (pe_ix ix_tup (pe_ix ix_list (pv 0) (pe_ix ix_list (pv 3) pe_int (fun _ _ => rfl)) (fun _ _ => rfl)) pe_int (fun _ _ => rfl)) rfl) pe_non (pe_tup (pa_cons pe_str (pa_cons (pe_ix ix_tup (pv 2) pe_int (fun _ _ => rfl)) pa_nil)))))) pss_nil)
        (pss_cons (ps_if (PW.pt (pw_or (pt_cmp (pc_din (hu_of hr) (pe_ix ix_tup (pv 2) pe_int (fun _ _ => rfl)) (pe_dget (hu_of hr) (pv 1) pe_str (fun _ _ => rfl)))) (pw_or1 (PW.pt (pw_and (pt_cmpR op_eq (pe_ix ix_tup (pv 2) pe_int (fun _ _ => rfl)) pe_str (nomark _)) (pw_and1 (pt_cmp (pc_din (hu_of hr) (pe_ix ix_tup (pv 2) pe_int (fun _ _ => rfl)) (pe_dget (hu_of hr) (pv 1) pe_str (fun _ _ => rfl)))))))))) (pss_one (ps_ret pe_non)) pss_nil)
        (pss_one (ps_ret (pe_tup (pa_cons pe_str (pa_cons (pe_ix ix_tup (pv 2) pe_int (fun _ _ => rfl)) pa_nil)))))))))))), ?_⟩
    obtain ⟨ps, hps, hpl, _⟩ := TB.ex
    have few := W.few
    have key : ck.rowV[1]? = some (.str ck.key) := by cases ck <;> rfl
    refine q_asgL (xs := (plcs tabs ck.key).map V.int) (el_is (el_lcR1 (j := 5) (vs := [5]) (n := (tabs.length : Nat)) (fun i => decide (nameI tabs i = ck.key)) (fun i => .int (i : Nat)) (ea_cons (ev_is (ev_len (ev_var rfl) (sq_of hps)) (by rw [List.length_map, hpl])) ea_nil) (by omega) (fun _ => rfl) (fun i H1 e1 hi => ?_) (fun i H1 e1 hi _ => ev_var rfl)) (by rw [Int.toNat_natCast]; exact plcs_given W _)) fun pl H1 hpl1 e1 h1 => ?_
    · obtain ⟨b, hb, hnb⟩ := tab_at (show i < tabs.length by omega)
      exact et_is (et_test (ev_op (ev_tb0 (TB.mono e1) hb (ev_var rfl) (ev_var rfl)) (ev_op (ev_var rfl) ev_c (rv_ixT (st_of (e1 _ _ hrp)) (atI_nat (j := 1) key))) (rv_eq rfl))) (by rw [dec_str, hnb])
    have row0 : ∀ {H' : Hp} {z : Str} {n : Nat} {x : V}, Ex H1 H' → ck.rowV[n]? = some x → Ev (tOp (rIxT K) (tVar 2) (tC (.int ((n : Nat) : Int)))) [some (.ref tb), some (.ref kd), some (.ref rp), some (.ref pl), none, none] H' x := fun e hx => ev_op (ev_var rfl) ev_c (rv_ixT (st_of (e _ _ (e1 _ _ hrp))) (atI_nat hx))
    have isK : ∀ {H' : Hp} {z y : Str}, Ex H1 H' → ck.rowV[0]? = some (.str z) → EvT (tTest (tOp rEq (tOp (rIxT K) (tVar 2) (tC (.int 0))) (tC (.str y)))) [some (.ref tb), some (.ref kd), some (.ref rp), some (.ref pl), none, none] H' (decide (z = y)) := fun e hx => et_is (et_test (ev_op (row0 (z := "") (n := 0) e hx) ev_c (rv_eq rfl))) (dec_str _ _)
    have key1 : ∀ {H' : Hp}, Ex H1 H' → Ev (tOp (rIxT K) (tVar 2) (tC (.int 1))) [some (.ref tb), some (.ref kd), some (.ref rp), some (.ref pl), none, none] H' (.str ck.key) := fun e => row0 (z := "") (n := 1) e key
    cases ck with
    | term a =>
      refine q_when (b := true) (et_is (isK (Ex.refl _) rfl) (by decide +kernel)) (fun _ H2 e2 => ?_) (fun z => by cases z)
      exact s_retE (er := termErr tabs st a) (eve_call (vs := [.ref tb, .ref kd, .str a.str]) (ea_cons (ev_var rfl) (ea_cons (ev_var rfl) (ea_cons (key1 e2) ea_nil))) fun H3 e3 Q3 q3 => ⟨tb, kd, r, v, w, tabs, st, sg, a, rfl, oka a rfl, W, TB.mono (e1.trans (e2.trans e3)), k.mono (e1.trans (e2.trans e3)), q3⟩) (q.mono (e1.trans e2))
    | fresh n =>
      refine q_when (b := false) (et_is (isK (Ex.refl _) rfl) (by decide +kernel)) (fun z => by cases z) fun _ H2 e2 => ?_
      refine q_when (b := true) (et_is (isK e2 rfl) (by decide +kernel)) (fun _ H3 e3 => ?_) (fun z => by cases z)
      have e23 := e2.trans e3
      have k3 := k.mono (e1.trans e23)
      refine q_asg (v := .bl (decide (n = "me") || ((st.rows.lookup n).isSome || (decide (n ∈ st.vals) || (st.news.lookup n).isSome)))) (ev_is (ev_orV (ev_op (key1 e23) ev_c (rv_eq rfl)) fun _ => ev_orV (ev_din (key1 e23) (ev_kr k3 (ev_var rfl)) k3.r) fun _ => ev_orV (ev_din (key1 e23) (ev_kv k3 (ev_var rfl)) k3.v) fun _ => ev_din (key1 e23) (ev_kw k3 (ev_var rfl)) k3.w) (by rw [dec_str, lrows_some, lrows_some, lvals_some]; rfl)) fun H4 e4 => ?_
      have e24 := e23.trans e4
      have hE : errC tabs st (.fresh n) = newErr st n := rfl
      refine s_retE (er := errC tabs st (.fresh n)) (eve_if (et_B (ev_var rfl)) (fun hb => ?_) (fun hb => ?_)) (q.mono (e1.trans e24))
      · rw [hE, show newErr st n = some (.dup n) from if_pos (by simpa [Bool.or_eq_true] using hb)]
        exact eve_tup (ea_cons ev_c (ea_cons (ev_op (ev_var rfl) ev_c (rv_ixT (st_of ((e1.trans e24) _ _ hrp)) (v := .str n) (atI_nat (j := 1) rfl))) ea_nil)) rfl
      · rw [hE, show newErr st n = none from if_neg (by intro z; rw [← Bool.not_eq_true] at hb; exact hb (by simpa [Bool.or_eq_true] using z))]
        exact eve_non
    | table t =>
      refine q_when (b := false) (et_is (isK (Ex.refl _) rfl) (by decide +kernel)) (fun z => by cases z) fun _ H2 e2 => ?_
      refine q_when (b := false) (et_is (isK e2 rfl) (by decide +kernel)) (fun z => by cases z) fun _ H3 e3 => ?_
      have e23 := e2.trans e3
      refine q_when (b := true) (et_is (isK e23 rfl) (by decide +kernel)) (fun _ H4 e4 => ?_) (fun z => by cases z)
      have e24 := e23.trans e4
      refine s_retE (er := tabErr tabs t) (eve_if (b := (findT tabs t).isSome) (et_is (et_test (ev_opL (ev_var rfl) (el_lst ea_nil (Nat.le_of_ble_eq_true rfl)) fun p H5 h5 e5 => rv_neNil ((e24.trans e5) _ _ h1) h5)) ?_) (fun hb => ?_) (fun hb => ?_)) (q.mono (e1.trans e24))
      · show (!(plcs tabs t).isEmpty) = _
        unfold plcs
        cases (findT tabs t).isSome <;> rfl
      · rw [show tabErr tabs t = none from if_pos hb]; exact eve_non
      · rw [show tabErr tabs t = some (.unk t) from if_neg (by rw [hb]; decide)]; exact eve_tup (ea_cons ev_c (ea_cons (key1 e24) ea_nil)) rfl
    | col t c =>
      have hf := okc t c rfl
      refine q_when (b := false) (et_is (isK (Ex.refl _) rfl) (by decide +kernel)) (fun z => by cases z) fun _ H2 e2 => ?_
      refine q_when (b := false) (et_is (isK e2 rfl) (by decide +kernel)) (fun z => by cases z) fun _ H3 e3 => ?_
      have e23 := e2.trans e3
      refine q_when (b := false) (et_is (isK e23 rfl) (by decide +kernel)) (fun z => by cases z) fun _ H4 e4 => ?_
      have e24 := e23.trans e4
      refine q_when (b := true) (et_is (isK e24 rfl) (by decide +kernel)) (fun _ H5 e5 => ?_) (fun z => by cases z)
      have e25 := e24.trans e5
      obtain ⟨b, hb, hnb⟩ := tab_at (find_lt hf)
      have hpl2 : H1 pl = some (.lst [.int ((ixT tabs t : Nat) : Int)]) := by rw [h1]; show some (HO.lst ((plcs tabs t).map V.int)) = _; unfold plcs; rw [if_pos hf]; rfl
      obtain ⟨cl, hcl1, hcl2⟩ := ev_tb2 (K := K) (σ := [some (.ref tb), some (.ref kd), some (.ref rp), some (.ref pl), none, none]) (to := tVar 0) (ti := tOp (rIxL K) (tVar 3) (tC (.int ((0 : Nat) : Int)))) (TB.mono (e1.trans e25)) hb (ev_var rfl) (ev_ix 0 rfl (e25 _ _ hpl2) rfl)
      have w2 : ∀ {H' : Hp}, Ex H1 H' → Ev (tOp (rIxT K) (tVar 2) (tC (.int 2))) [some (.ref tb), some (.ref kd), some (.ref rp), some (.ref pl), none, none] H' (.str c) := fun e => row0 (z := "") (n := 2) e rfl
      have hcol : errC tabs st (.col t c) = if c ∈ b.cols then none else some (.unk c) := by show colErr tabs (ixT tabs t) c = _; unfold colErr; rw [colsI_at hb]
      refine s_retE (er := errC tabs st (.col t c)) (eve_if (et_test (ev_op (w2 e25) hcl1 (rv_isL (sq_of hcl2) rfl (flat_strs _)))) (fun hz => ?_) (fun hz => ?_)) (q.mono (e1.trans e25))
      · rw [inV_str, decide_eq_true_eq] at hz
        rw [hcol, if_pos hz]; exact eve_non
      · rw [inV_str, decide_eq_false_iff_not] at hz
        rw [hcol, if_neg hz]; exact eve_tup (ea_cons ev_c (ea_cons (w2 e25) ea_nil)) rfl
    | row x =>
      refine q_when (b := false) (et_is (isK (Ex.refl _) rfl) (by decide +kernel)) (fun z => by cases z) fun _ H2 e2 => ?_
      refine q_when (b := false) (et_is (isK e2 rfl) (by decide +kernel)) (fun z => by cases z) fun _ H3 e3 => ?_
      have e23 := e2.trans e3
      refine q_when (b := false) (et_is (isK e23 rfl) (by decide +kernel)) (fun z => by cases z) fun _ H4 e4 => ?_
      have e24 := e23.trans e4
      refine q_when (b := false) (et_is (isK e24 rfl) (by decide +kernel)) (fun z => by cases z) fun _ H5 e5 => ?_
      have e25 := e24.trans e5
      have k5 := k.mono (e1.trans e25)
      refine q_when (b := (st.rows.lookup x).isSome) (et_is (et_or (et_in (key1 e25) (ev_kr k5 (ev_var rfl)) k5.r) fun _ => et_is (et_and (b := false) (isK e25 rfl) fun z => absurd z (by decide +kernel)) (Bool.and_false _)) (by rw [Bool.or_false, lrows_some]; rfl)) (fun hb H6 e6 => ?_) (fun hb H6 e6 => ?_)
      · have z : errC tabs st (.row x) = none := if_pos hb
        rw [z] at q
        exact s_ret ev_c fun H7 e7 => q H7 (e1.trans (e25.trans (e6.trans e7)))
      · have z : errC tabs st (.row x) = some (.unk x) := if_neg (by show ¬ (st.rows.lookup x).isSome = true; rw [hb]; decide)
        rw [z] at q
        exact s_retE (er := some (.unk x)) (eve_tup (ea_cons ev_c (ea_cons (key1 (e25.trans e6)) ea_nil)) rfl) (q.mono (e1.trans (e25.trans e6)))
    | any x =>
      refine q_when (b := false) (et_is (isK (Ex.refl _) rfl) (by decide +kernel)) (fun z => by cases z) fun _ H2 e2 => ?_
      refine q_when (b := false) (et_is (isK e2 rfl) (by decide +kernel)) (fun z => by cases z) fun _ H3 e3 => ?_
      have e23 := e2.trans e3
      refine q_when (b := false) (et_is (isK e23 rfl) (by decide +kernel)) (fun z => by cases z) fun _ H4 e4 => ?_
      have e24 := e23.trans e4
      refine q_when (b := false) (et_is (isK e24 rfl) (by decide +kernel)) (fun z => by cases z) fun _ H5 e5 => ?_
      have e25 := e24.trans e5
      have k5 := k.mono (e1.trans e25)
      have hany : (anyIx st x).isSome = ((st.rows.lookup x).isSome || (st.news.lookup x).isSome) := by
        unfold anyIx
        cases st.news.lookup x with
        | some i => simp
        | none => simp
      refine q_when (b := (anyIx st x).isSome) (et_is (et_or (et_in (key1 e25) (ev_kr k5 (ev_var rfl)) k5.r) fun _ => et_is (et_and (isK e25 rfl) fun _ => et_in (key1 e25) (ev_kw k5 (ev_var rfl)) k5.w) (by rw [decide_eq_true rfl, Bool.true_and])) (by rw [hany, lrows_some, lrows_some]; rfl)) (fun hb H6 e6 => ?_) (fun hb H6 e6 => ?_)
      · have z : errC tabs st (.any x) = none := if_pos hb
        rw [z] at q
        exact s_ret ev_c fun H7 e7 => q H7 (e1.trans (e25.trans (e6.trans e7)))
      · have z : errC tabs st (.any x) = some (.unk x) := if_neg (by rw [hb]; decide)
        rw [z] at q
        exact s_retE (er := some (.unk x)) (eve_tup (ea_cons ev_c (ea_cons (key1 (e25.trans e6)) ea_nil)) rfl) (q.mono (e1.trans (e25.trans e6)))
end
end K23

set_option Elab.async false
set_option linter.all false
set_option maxRecDepth 100000
set_option maxHeartbeats 4000000
/-! the law's checks: the names of a line in turn -/
namespace K23
open PySem PySem.Spec PyProof.Rows L2 Evl
/-! ### lists of new tuples -/
def Tups (H : Hp) : List Addr → List (List V) → Prop
  | [], [] => True
  | p :: ps, r :: rs => H p = some (.tup r) ∧ Tups H ps rs
  | _, _ => False
theorem Tups.mono {H H' : Hp} (e : Ex H H') : ∀ {ps : List Addr} {rs : List (List V)}, Tups H ps rs → Tups H' ps rs
  | [], [], _ => trivial
  | _ :: _, _ :: _, h => ⟨e _ _ h.1, Tups.mono e h.2⟩
  | [], _ :: _, h => h.elim
  | _ :: _, [], h => h.elim
theorem Tups.app {H : Hp} : ∀ {ps qs : List Addr} {rs ss : List (List V)}, Tups H ps rs → Tups H qs ss → Tups H (ps ++ qs) (rs ++ ss)
  | [], _, [], _, _, h => h
  | _ :: _, _, _ :: _, _, h, g => ⟨h.1, Tups.app h.2 g⟩
  | [], _, _ :: _, _, h, _ => h.elim
  | _ :: _, _, [], _, h, _ => h.elim
theorem Tups.len {H : Hp} : ∀ {ps : List Addr} {rs : List (List V)}, Tups H ps rs → ps.length = rs.length
  | [], [], _ => rfl
  | _ :: _, _ :: _, h => by rw [List.length_cons, List.length_cons, Tups.len h.2]
  | [], _ :: _, h => h.elim
  | _ :: _, [], h => h.elim
theorem Tups.at {H : Hp} : ∀ {ps : List Addr} {rs : List (List V)} {i : Nat} {p : Addr}, Tups H ps rs → ps[i]? = some p → ∃ r, rs[i]? = some r ∧ H p = some (.tup r)
  | _ :: _, r :: _, 0, p, h, e => ⟨r, rfl, by cases e; exact h.1⟩
  | _ :: _, _ :: _, i + 1, p, h, e => Tups.at (i := i) h.2 e
  | [], _, _, _, _, e => by cases e
  | _ :: _, [], _, _, h, _ => h.elim
/-- a list that is not among them may change -/
theorem Tups.chg {H : Hp} {l : Addr} {o : HO} {xs : List V} (hl : H l = some (.lst xs)) : ∀ {ps : List Addr} {rs : List (List V)}, Tups H ps rs → Tups (upd H l o) ps rs
  | [], [], _ => trivial
  | _ :: _, _ :: _, h => ⟨by rw [upd_ne (ne_kind h.1 hl (by simp))]; exact h.1, Tups.chg hl h.2⟩
  | [], _ :: _, h => h.elim
  | _ :: _, [], h => h.elim
def EvTs (ta : TA) (σ : L2.St) (H : Hp) (rs : List (List V)) : Prop := ∀ H1, Ex H H1 → ∀ Q : List V → Hp → Prop, (∀ ps H2, Ex H1 H2 → Tups H2 ps rs → Q (ps.map V.ref) H2) → ta σ H1 Q
def EvF (te : TE) (σ : L2.St) (H : Hp) (rs : List (List V)) : Prop := ∀ H1, Ex H H1 → ∀ Q : VK, (∀ p ps H2, H1 p = none → Ex H1 H2 → H2 p = some (.lst (ps.map V.ref)) → Tups H2 ps rs → Q (.ref p) H2) → te σ H1 Q
section
variable {K : PySem.W.Frag} {σ : L2.St} {H : Hp} {ta tb te tl : TE} {tr : TA} {rs ss : List (List V)} {row : List V} {D : Ends} {tz : TS}
theorem evt_nil : EvTs tNil σ H [] := fun H1 _ Q q => q [] H1 (Ex.refl H1) trivial
theorem evt_cons (h : EvU te σ H row) (hr : EvTs tr σ H rs) : EvTs (tCons te tr) σ H (row :: rs) := fun H1 e Q q => h H1 e _ fun p H2 _ e2 h2 => hr H2 (e.trans e2) _ fun ps H3 e3 h3 => q (p :: ps) H3 (e2.trans e3) ⟨e3 _ _ h2, h3⟩
theorem evf_lst (h : EvTs tr σ H rs) (hl : rs.length ≤ 1000) : EvF (tLst tr) σ H rs := fun H1 e Q q => h H1 e _ fun ps H2 e2 h2 => ⟨sz_of (by rw [List.length_map, h2.len]; omega), fun p hp => q p ps _ (fresh_back e2 hp) (e2.trans (Ex.new hp)) upd_same (h2.mono (Ex.new hp))⟩
theorem evf_cat (ha : EvF ta σ H rs) (hb : EvF tb σ H ss) (hl : rs.length + ss.length ≤ 1000) : EvF (tOp rCat ta tb) σ H (rs ++ ss) := fun H1 e Q q =>
  ha H1 e _ fun p ps H2 hp e2 h2 t2 => hb H2 (e.trans e2) _ fun p2 ps2 H3 hp2 e3 h3 t3 => ⟨p, p2, _, _, rfl, rfl, e3 _ _ h2, h3, sz_of (by rw [List.length_map, List.length_map, t2.len, t3.len]; omega), fun p3 hp3 => by
    rw [← List.map_append]
    exact q p3 (ps ++ ps2) _ (fresh_back (e2.trans e3) hp3) ((e2.trans e3).trans (Ex.new hp3)) upd_same (((t2.mono e3).app t3).mono (Ex.new hp3))⟩
theorem evf_catV {a : Addr} {ps : List Addr} (ha : Ev ta σ H (.ref a)) (ho : H a = some (.lst (ps.map V.ref))) (ht : Tups H ps rs) (hb : EvF tb σ H ss) (hl : rs.length + ss.length ≤ 1000) : EvF (tOp rCat ta tb) σ H (rs ++ ss) := fun H1 e Q q =>
  ha H1 e _ fun H2 e2 => hb H2 (e.trans e2) _ fun p2 ps2 H3 hp2 e3 h3 t3 => ⟨a, p2, _, _, rfl, rfl, (e.trans (e2.trans e3)) _ _ ho, h3, sz_of (by rw [List.length_map, List.length_map, ht.len, t3.len]; omega), fun p3 hp3 => by
    rw [← List.map_append]
    exact q p3 (ps ++ ps2) _ (fresh_back (e2.trans e3) hp3) ((e2.trans e3).trans (Ex.new hp3)) upd_same (((ht.mono (e.trans (e2.trans e3))).app t3).mono (Ex.new hp3))⟩
theorem evf_lc {xs : List V} {j : Nat} (g : V → List V) (h : EvL tl σ H xs) (hz : xs.length ≤ 1000) (he : ∀ (x : V) H1, Ex H H1 → x ∈ xs → EvU te ((wipe σ [j]).set j (some x)) H1 (g x)) :
    EvF (tLc (iList K tl) (gName j) tYes te [j]) σ H (xs.map g) := fun H0 e Q q => h H0 e _ fun a H1 ha e1 hx => ⟨a, rfl, ⟨xs, sq_of hx⟩, fun Dl hD =>
  lc_list (xs := xs) (fun i H' => Ex H1 H' ∧ ∃ ps, H' Dl = some (.lst (ps.map V.ref)) ∧ Tups H' ps ((xs.take i).map g)) ⟨Ex.new hD, [], upd_same, trivial⟩ (fun i H' _ p => sq_of (p.1 a _ hx)) (fun i x H' hi p => by
    obtain ⟨p1, ps, p2, p3⟩ := p
    have hil := (List.getElem?_eq_some_iff.mp hi).1
    refine ⟨wipe1, ?_⟩
    show te _ H' _
    refine he x H' ((e.trans e1).trans p1) (List.mem_of_getElem? hi) H' (Ex.refl H') _ fun q2 H4 hq2 e4 h4 => ⟨_, e4 _ _ p2, sz_lt (by rw [List.length_map, p3.len, List.length_map, List.length_take]; omega), Ex.mut (p1.trans e4) hD, ps ++ [q2], ?_, ?_⟩
    · rw [upd_same, List.map_append]; rfl
    · rw [List.take_add_one, hi, List.map_append]
      refine Tups.chg (e4 _ _ p2) ((p3.mono e4).app (?_ : Tups H4 [q2] [g x]))
      exact ⟨h4, trivial⟩) (fun H' p => by
    obtain ⟨p1, ps, p2, p3⟩ := p
    rw [List.take_length] at p3
    exact q Dl ps H' (fresh_back e1 hD) (e1.trans p1) p2 p3)⟩
theorem s_asgF {i : Nat} (h : EvF te σ H rs) (k : ∀ p ps H1, Ex H H1 → H1 p = some (.lst (ps.map V.ref)) → Tups H1 ps rs → D.nx (σ.set i (some (.ref p))) H1) : tAsg te (gName i) D σ H := h H (Ex.refl H) _ fun p ps H1 _ e1 h1 t1 => k p ps H1 e1 h1 t1
theorem q_asgF {i : Nat} (h : EvF te σ H rs) (k : ∀ p ps H1, Ex H H1 → H1 p = some (.lst (ps.map V.ref)) → Tups H1 ps rs → tz D (σ.set i (some (.ref p))) H1) : tSeq (tAsg te (gName i)) tz D σ H := s_asgF (D := { D with nx := tz D }) h k
end
/-! ### what of a line is checked -/
def Line.chks : Line → List Chk
  | .row x t => [.fresh x, .table t]
  | .value u => [.fresh u]
  | .need a b => [.term a, .term b]
  | .new n t u ts => [.fresh n, .table t] ++ (u.toList.map .any ++ ts.map .term)
  | .move x y => [.row x, .any y]
  | .set x c a => [.term (.pos x [] c), .term a]
  | .each t x c a => [.table t, .any x, .col t c, .term a]
  | .take x => [.row x]
def spLN : Sp := fun vs H Q _ => ∃ (tb kd r v w wp : Addr) (tabs : Tabs) (st : St) (sg : Int) (ln : Line), vs = [.ref tb, .ref kd, .ref wp] ∧ H wp = some (.lst (ln.words.map V.str)) ∧ ln.ok ∧ WF tabs ∧ TbAt tabs H tb ∧ KnL tabs st sg kd r v w H ∧ RetO (firstE (ln.chks.map (errC tabs st))) H Q
theorem chks_ok {ln : Line} (h : ln.ok) : ∀ a, Chk.term a ∈ ln.chks → a.ok := by
  intro a ha
  cases ln with
  | row x t => simp [Line.chks] at ha
  | value u => simp [Line.chks] at ha
  | need a1 b1 => simp [Line.chks] at ha; rcases ha with rfl | rfl; exact h.1; exact h.2
  | new n t u ts =>
    simp [Line.chks] at ha
    exact h.2.2.2.1 a ha
  | move x y => simp [Line.chks] at ha
  | set x c a1 =>
    simp [Line.chks] at ha
    rcases ha with rfl | rfl
    · exact ⟨h.1, (fun u hu => by cases hu), Nat.zero_le _, h.2.1⟩
    · exact h.2.2
  | each t x c a1 => simp [Line.chks] at ha; rw [ha]; exact h.2.2.2
  | take x => simp [Line.chks] at ha
theorem chks_len {ln : Line} (h : ln.ok) : ln.chks.length ≤ 10 := by
  cases ln with
  | new n t u ts => have := h.2.2.2.2.2; cases u <;> simp [Line.chks] <;> omega
  | _ => simp [Line.chks]
/-- a column is asked for behind its table -/
theorem chks_col {ln : Line} {i : Nat} {t c : Str} (h : ln.chks[i]? = some (.col t c)) : ∃ j, j < i ∧ ln.chks[j]? = some (.table t) := by
  cases ln with
  | each t1 x c1 a1 =>
    have hi : i < 4 := (List.getElem?_eq_some_iff.mp h).1
    have : i = 0 ∨ i = 1 ∨ i = 2 ∨ i = 3 := by omega
    rcases this with rfl | rfl | rfl | rfl <;> first | (cases h; exact ⟨0, by decide, rfl⟩) | cases h
  | new n t1 u ts =>
    have := List.mem_of_getElem? h
    simp [Line.chks] at this
  | _ =>
    have := List.mem_of_getElem? h
    simp [Line.chks] at this
section
variable {P : Program} {w : World} {K : PySem.W.Frag} {mg : Str → Option Value} {base : Heap}
theorem ok_law_line_names (T : Txt K mg) : CalX P w K mg base CX0 3 "_law_line_names" ["_law_tables", "_law_known", "_law_words"] spLN := by
  have c_law_name_error := ok_law_name_error (P := P) (w := w) (base := base) T
  obtain ⟨fd, F⟩ := T.f_law_line_names
  refine ⟨_, fd, F.ok sc_law_line_names (fun vs H Q E h => ?_) (fun cdv A outer s H vs Q E hr h => ?_), T.g_law_line_names, F.kp, F.bindsN fun _ _ _ _ _ _ us hl => match us, hl with | [_, _, _], _ => rfl⟩
  · obtain ⟨tb, kd, r, v, w, wp, tabs, st, sg, ln, rfl, _⟩ := h; rfl
  · obtain ⟨tb, kd, r, v, w, wp, tabs, st, sg, ln, rfl, hw, ok, W, TB, k, q⟩ := h
    refine ⟨_, (PSs.nox (pss_cons (ps_set (i := 3) sc_law_line_names.nd rfl (by first | exact Or.inl rfl | exact Or.inr rfl) (pe_ix ix_list (pv 2) pe_int (fun _ _ => rfl)))
        (pss_cut (ps_if (pt_cmpR op_in_seq (pv 3) (pe_tup (pa_cons pe_str (pa_cons pe_str pa_nil))) rfl) (pss_one (ps_set (i := 4) sc_law_line_names.nd rfl (by first | exact Or.inl rfl | exact Or.inr rfl) (pe_op op_cat (pe_lst (pa_cons (pe_tup (pa_cons pe_str (pa_cons (pe_ix ix_list (pv 2) pe_int (fun _ _ => rfl)) pa_nil))) pa_nil)) (pe_lc (own := [("_law_word", 8)]) (g := gName 8) (tt := tYes) (by rfl) sc_law_line_names.nd (pi_list (pe_slice sl_list (pv 2) (po_some pe_int) po_none)) (blkOk_by (own := [("_law_word", 8)]) (N := ["_law_tables", "_law_known", "_law_words", "_law_form", "_law_found", "_law_start", "_law_row", "_law_error", "_law_word"]) (sc := defScope s_law_line_names) (by decide +kernel)) (fun _ _ _ _ _ => pg_name (i := 8) sc_law_line_names.nd rfl (Or.inl rfl)) (fun _ _ _ _ _ => pts_nil) (fun _ _ _ _ _ => (pe_tup (pa_cons pe_str (pa_cons (pv 8) pa_nil)))))))) (pss_one (ps_if (pt_cmpR op_eq (pv 3) pe_str (nomark _)) (pss_one (ps_set (i := 4) sc_law_line_names.nd rfl (by first | exact Or.inl rfl | exact Or.inr rfl) (pe_lst (pa_cons (pe_tup (pa_cons pe_str (pa_cons (pe_ix ix_list (pv 2) pe_int (fun _ _ => rfl)) pa_nil))) (pa_cons (pe_tup (pa_cons pe_str (pa_cons (pe_ix ix_list (pv 2) pe_int (fun _ _ => rfl)) pa_nil))) pa_nil))))) (pss_one (ps_if (pt_cmpR op_eq (pv 3) pe_str (nomark _)) (pss_cons (ps_set (i := 5) sc_law_line_names.nd rfl (by first | exact Or.inl rfl | exact Or.inr rfl) (pe_ifExp (pt_cmpR op_eq (pe_ix ix_list (pv 2) pe_int (fun _ _ => rfl)) pe_str (nomark _)) pe_int pe_int))
        (pss_cons (ps_set (i := 4) sc_law_line_names.nd rfl (by first | exact Or.inl rfl | exact Or.inr rfl) (pe_op op_cat (pe_lst (pa_cons (pe_tup (pa_cons pe_str (pa_cons (pe_ix ix_list (pv 2) pe_int (fun _ _ => rfl)) pa_nil))) (pa_cons (pe_tup (pa_cons pe_str (pa_cons (pe_ix ix_list (pv 2) pe_int (fun _ _ => rfl)) pa_nil))) pa_nil))) (pe_lc (own := [("_law_word", 8)]) (g := gName 8) (tt := tYes) (by rfl) sc_law_line_names.nd (pi_list (pe_slice sl_list (pv 2) (po_some pe_int) (po_some (pe_op op_sub (pv 5) pe_int)))) (blkOk_by (own := [("_law_word", 8)]) (N := ["_law_tables", "_law_known", "_law_words", "_law_form", "_law_found", "_law_start", "_law_row", "_law_error", "_law_word"]) (sc := defScope s_law_line_names) (by decide +kernel)) (fun _ _ _ _ _ => pg_name (i := 8) sc_law_line_names.nd rfl (Or.inl rfl)) (fun _ _ _ _ _ => pts_nil) (fun _ _ _ _ _ => (pe_tup (pa_cons pe_str (pa_cons (pv 8) pa_nil)))))))
        (pss_one (ps_set (i := 4) sc_law_line_names.nd rfl (by first | exact Or.inl rfl | exact Or.inr rfl) (pe_op op_cat (pv 4) (pe_lc (own := [("_law_word", 8)]) (g := gName 8) (tt := tYes) (by rfl) sc_law_line_names.nd (pi_list (pe_slice sl_list (pv 2) (po_some (pv 5)) po_none)) (blkOk_by (own := [("_law_word", 8)]) (N := ["_law_tables", "_law_known", "_law_words", "_law_form", "_law_found", "_law_start", "_law_row", "_law_error", "_law_word"]) (sc := defScope s_law_line_names) (by decide +kernel)) (fun _ _ _ _ _ => pg_name (i := 8) sc_law_line_names.nd rfl (Or.inl rfl)) (fun _ _ _ _ _ => pts_nil) (fun _ _ _ _ _ => (pe_tup (pa_cons pe_str (pa_cons (pv 8) pa_nil)))))))))) (pss_one (ps_if (pt_cmpR op_eq (pv 3) pe_str (nomark _)) (pss_one (ps_set (i := 4) sc_law_line_names.nd rfl (by first | exact Or.inl rfl | exact Or.inr rfl) (pe_lst (pa_cons (pe_tup (pa_cons pe_str (pa_cons (pe_ix ix_list (pv 2) pe_int (fun _ _ => rfl)) pa_nil))) (pa_cons (pe_tup (pa_cons pe_str (pa_cons (pe_ix ix_list (pv 2) pe_int (fun _ _ => rfl)) pa_nil))) pa_nil))))) (pss_one (ps_if (pt_cmpR op_eq (pv 3) pe_str (nomark _)) (pss_one (ps_set (i := 4) sc_law_line_names.nd rfl (by first | exact Or.inl rfl | exact Or.inr rfl) (pe_lst (pa_cons (pe_tup (pa_cons pe_str (pa_cons (pe_ix ix_list (pv 2) pe_int (fun _ _ => rfl)) pa_nil))) pa_nil)))) (pss_one (ps_if (pt_cmpR op_eq (pv 3) pe_str (nomark _)) (pss_one (ps_set (i := 4) sc_law_line_names.nd rfl (by first | exact Or.inl rfl | exact Or.inr rfl) (pe_lst (pa_cons (pe_tup (pa_cons pe_str (pa_cons (pe_ix ix_list (pv 2) pe_int (fun _ _ => rfl)) pa_nil))) (pa_cons (pe_tup (pa_cons pe_str (pa_cons (pe_ix ix_list (pv 2) pe_int (fun _ _ => rfl)) pa_nil))) pa_nil))))) (pss_one (ps_set (i := 4) sc_law_line_names.nd rfl (by first | exact Or.inl rfl | exact Or.inr rfl) (pe_lst (pa_cons (pe_tup (pa_cons pe_str (pa_cons (pe_ix ix_list (pv 2) pe_int (fun _ _ => rfl)) pa_nil))) (pa_cons (pe_tup (pa_cons pe_str (pa_cons (pe_ix ix_list (pv 2) pe_int (fun _ _ => rfl)) pa_nil))) (pa_cons (pe_tup (pa_cons pe_str (pa_cons (pe_ix ix_list (pv 2) pe_int (fun _ _ => rfl)) (pa_cons (pe_ix ix_list (pv 2) pe_int (fun _ _ => rfl)) pa_nil)))) (pa_cons (pe_tup (pa_cons pe_str (pa_cons (pe_ix ix_list (pv 2) pe_int (fun _ _ => rfl)) pa_nil))) pa_nil))))))))))))))))))
        (pss_cons (ps_for PassesOwn.never rfl (pi_list (pv 4)) (pg_name (i := 6) sc_law_line_names.nd rfl (by first | exact Or.inl rfl | exact Or.inr rfl)) (pss_cons (ps_set (i := 7) sc_law_line_names.nd rfl (by first | exact Or.inl rfl | exact Or.inr rfl) (pe_cx c_law_name_error hr (by decide) pass0 (pa_cons (pv 0) (pa_cons (pv 1) (pa_cons (pv 6) pa_nil)))))
        (pss_one (ps_if (pt_cmp (pc_notN (pv 7))) (pss_one (ps_ret (pv 7))) pss_nil))))
        (pss_one (ps_ret pe_non)))))), ?_⟩
    have W0 : (ln.words.map V.str)[0]? = some (.str ln.form) := by
      obtain ⟨r, e⟩ := wordsB_head false ln
      rw [show ln.words = ln.form :: r from e]
      rfl
    refine q_asg (v := .str ln.form) (ev_ix 0 rfl hw W0) fun H1 e1 => ?_
    have hw1 := e1 _ _ hw
    refine q_cut (M := fun σ' H' => ∃ (fl : Addr) (ps : List Addr) (o5 : Option V), σ' = [some (.ref tb), some (.ref kd), some (.ref wp), some (.str ln.form), some (.ref fl), o5, none, none, none] ∧ Ex H H' ∧ H' fl = some (.lst (ps.map V.ref)) ∧ Tups H' ps (ln.chks.map Chk.rowV)) ?_ ?_
    · have nin : ∀ {f : Str} {σ : L2.St} {H' : Hp}, σ[3]? = some (some (.str f)) → f ∉ (["row", "value"] : List Str) → EvT (tTest (tOp (rIn K false) (tVar 3) (tTup (tCons (tC (.str "row")) (tCons (tC (.str "value")) tNil))))) σ H' false := fun hs hf =>
        et_is (et_test (ev_inU (xs := (["row", "value"] : List Str).map V.str) (ev_var hs) (eu_tup (ea_cons ev_c (ea_cons ev_c ea_nil)) (Nat.le_of_ble_eq_true rfl)) rfl (flat_strs _))) (by rw [inV_str]; exact decide_eq_false hf)
      have yin : ∀ {f : Str} {σ : L2.St} {H' : Hp}, σ[3]? = some (some (.str f)) → f ∈ (["row", "value"] : List Str) → EvT (tTest (tOp (rIn K false) (tVar 3) (tTup (tCons (tC (.str "row")) (tCons (tC (.str "value")) tNil))))) σ H' true := fun hs hf =>
        et_is (et_test (ev_inU (xs := (["row", "value"] : List Str).map V.str) (ev_var hs) (eu_tup (ea_cons ev_c (ea_cons ev_c ea_nil)) (Nat.le_of_ble_eq_true rfl)) rfl (flat_strs _))) (by rw [inV_str]; exact decide_eq_true hf)
      have isf : ∀ {f g : Str} {σ : L2.St} {H' : Hp}, σ[3]? = some (some (.str f)) → EvT (tTest (tOp rEq (tVar 3) (tC (.str g)))) σ H' (decide (f = g)) := fun hs => et_is (et_test (ev_op (ev_var hs) ev_c (rv_eq rfl))) (dec_str _ _)
      have tup2 : ∀ {σ : L2.St} {H' : Hp} {x : Str} {y : V} {te : TE}, Ev te σ H' y → EvU (tTup (tCons (tC (.str x)) (tCons te tNil))) σ H' [.str x, y] := fun h => eu_tup (ea_cons ev_c (ea_cons h ea_nil)) (Nat.le_of_ble_eq_true rfl)
      cases ln with
      | row x t =>
        have hw2 : H1 wp = some (.lst [.str "row", .str x, .str "in", .str t]) := hw1
        refine s_if (b := true) (yin (f := "row") rfl (by decide +kernel)) (fun _ H2 e2 => ?_) (fun z => by cases z)
        refine s_asgF (rs := [[.str "fresh", .str x], [.str "table", .str t]]) (evf_cat (rs := [[.str "fresh", .str x]]) (ss := [.str t].map fun y => [.str "table", y]) (evf_lst (evt_cons (tup2 (ev_ix 1 rfl (e2 _ _ hw2) rfl)) evt_nil) (by simp)) (evf_lc _ (el_is (el_sl (ev_var rfl) (eo_some ev_c) eo_none (sq_of (e2 _ _ hw2))) (cutV_from [.str "row", .str x, .str "in", .str t] 3 (by simp))) (by simp) fun y H3 e3 hy => tup2 (ev_var rfl)) (by simp)) fun p ps H3 e3 h3 t3 => ⟨p, ps, none, rfl, e1.trans (e2.trans e3), h3, t3⟩
      | value u =>
        have hw2 : H1 wp = some (.lst [.str "value", .str u]) := hw1
        refine s_if (b := true) (yin (f := "value") rfl (by decide +kernel)) (fun _ H2 e2 => ?_) (fun z => by cases z)
        refine s_asgF (rs := [[.str "fresh", .str u]]) (evf_cat (rs := [[.str "fresh", .str u]]) (ss := ([] : List V).map fun y => [.str "table", y]) (evf_lst (evt_cons (tup2 (ev_ix 1 rfl (e2 _ _ hw2) rfl)) evt_nil) (by simp)) (evf_lc _ (el_is (el_sl (ev_var rfl) (eo_some ev_c) eo_none (sq_of (e2 _ _ hw2))) (show cutV [.str "value", .str u] (some 3) none = [] from rfl)) (by simp) fun y H3 e3 hy => tup2 (ev_var rfl)) (by simp)) fun p ps H3 e3 h3 t3 => ⟨p, ps, none, rfl, e1.trans (e2.trans e3), h3, t3⟩
      | need a b =>
        have hw2 : H1 wp = some (.lst [.str "need", .str a.str, .str "=", .str b.str]) := hw1
        refine s_if (b := false) (nin (f := "need") rfl (by decide +kernel)) (fun z => by cases z) fun _ H2 e2 => ?_
        refine s_if (b := true) (et_is (isf (f := "need") rfl) (by decide +kernel)) (fun _ H3 e3 => ?_) (fun z => by cases z)
        have h4 := (e2.trans e3) _ _ hw2
        exact s_asgF (rs := [[.str "term", .str a.str], [.str "term", .str b.str]]) (evf_lst (evt_cons (tup2 (ev_ix 1 rfl h4 rfl)) (evt_cons (tup2 (ev_ix 3 rfl h4 rfl)) evt_nil)) (by simp)) fun p ps H4 e4 h4 t4 => ⟨p, ps, none, rfl, e1.trans (e2.trans (e3.trans e4)), h4, t4⟩
      | new n t u ts =>
        refine s_if (b := false) (nin (f := "new") rfl (by decide +kernel)) (fun z => by cases z) fun _ H2 e2 => ?_
        refine s_if (b := false) (et_is (isf (f := "new") rfl) (by decide +kernel)) (fun z => by cases z) fun _ H3 e3 => ?_
        refine s_if (b := true) (et_is (isf (f := "new") rfl) (by decide +kernel)) (fun _ H4 e4 => ?_) (fun z => by cases z)
        generalize hWW : (Line.new n t u ts).words.map V.str = WW at hw hw1
        have e24 := e2.trans (e3.trans e4)
        have h4 := e24 _ _ hw1
        have Wl : WW.length = stN u + ts.length := by rw [← hWW]; cases u <;> simp [Line.words, stN] <;> omega
        have hts := ok.2.2.2.2.1
        refine q_asg (v := .int ((stN u : Nat) : Int)) ?_ fun H5 e5 => ?_
        · cases u with
          | none => exact ev_if (b := false) (et_is (et_test (ev_op (ev_ix 4 rfl h4 (v := .str "with") (by rw [← hWW]; rfl)) ev_c (rv_eq rfl))) (by decide +kernel)) (fun z => by cases z) (fun _ => ev_c)
          | some x => exact ev_if (b := true) (et_is (et_test (ev_op (ev_ix 4 rfl h4 (v := .str "under") (by rw [← hWW]; rfl)) ev_c (rv_eq rfl))) (decide_eq_true rfl)) (fun _ => ev_c) (fun z => by cases z)
        have h5 := e5 _ _ h4
        refine q_asgF (rs := [[.str "fresh", .str n], [.str "table", .str t]] ++ (u.toList.map V.str).map fun y => [.str "any", y]) (evf_cat (evf_lst (evt_cons (tup2 (ev_ix 1 rfl h5 (v := .str n) (by rw [← hWW]; cases u <;> rfl))) (evt_cons (tup2 (ev_ix 3 rfl h5 (v := .str t) (by rw [← hWW]; cases u <;> rfl))) evt_nil)) (by simp)) (evf_lc _ (el_is (el_sl (ev_var rfl) (eo_some ev_c) (eo_some (ev_op (ev_var rfl) ev_c rv_I0)) (sq_of h5)) (ys := u.toList.map V.str) ?_) (by cases u <;> simp) fun y H6 e6 hy => tup2 (ev_var rfl)) (by cases u <;> simp)) fun p ps H6 e6 h6 t6 => ?_
        · rw [← hWW]
          cases u with
          | none =>
            have e0 : ((stN none : Nat) : Int) - 1 = ((4 : Nat) : Int) := rfl
            unfold cutV
            rw [e0, sIx_nat (by simp [Line.words]), show (some (5 : Int)) = some ((5 : Nat) : Int) from rfl, sIx_nat (by simp [Line.words]), show 4 - 5 = 0 from rfl, List.take_zero]
            rfl
          | some x =>
            have e0 : ((stN (some x) : Nat) : Int) - 1 = ((6 : Nat) : Int) := rfl
            unfold cutV
            rw [e0, sIx_nat (by simp [Line.words]), show (some (5 : Int)) = some ((5 : Nat) : Int) from rfl, sIx_nat (by simp [Line.words])]
            rfl
        · have h6w := e6 _ _ h5
          refine s_asgF (rs := ([[.str "fresh", .str n], [.str "table", .str t]] ++ (u.toList.map V.str).map fun y => [.str "any", y]) ++ (ts.map fun a => V.str a.str).map fun y => [.str "term", y]) (evf_catV (ev_var rfl) h6 t6 (evf_lc _ (el_is (el_sl (ev_var rfl) (eo_some (ev_var rfl)) eo_none (sq_of h6w)) (ys := ts.map fun a => V.str a.str) ?_) (by have := ok.2.2.2.2.2; rw [List.length_map]; omega) fun y H7 e7 hy => tup2 (ev_var rfl)) (by have := ok.2.2.2.2.2; cases u <;> simp <;> omega)) fun p2 ps2 H7 e7 h7 t7 => ⟨p2, ps2, _, rfl, e1.trans (e24.trans (e5.trans (e6.trans e7))), h7, ?_⟩
          · rw [cutV_from WW (stN u) (by omega), ← hWW]
            cases u <;> simp [Line.words, stN]
          · have : (Line.new n t u ts).chks.map Chk.rowV = ([[.str "fresh", .str n], [.str "table", .str t]] ++ (u.toList.map V.str).map fun y => [.str "any", y]) ++ (ts.map fun a => V.str a.str).map fun y => [.str "term", y] := by
              simp only [Line.chks, List.map_append, List.map_map, List.append_assoc]
              rfl
            rw [this]
            exact t7
      | move x y =>
        have hw2 : H1 wp = some (.lst [.str "move", .str x, .str "under", .str y]) := hw1
        refine s_if (b := false) (nin (f := "move") rfl (by decide +kernel)) (fun z => by cases z) fun _ H2 e2 => ?_
        refine s_if (b := false) (et_is (isf (f := "move") rfl) (by decide +kernel)) (fun z => by cases z) fun _ H3 e3 => ?_
        refine s_if (b := false) (et_is (isf (f := "move") rfl) (by decide +kernel)) (fun z => by cases z) fun _ H4 e4 => ?_
        refine s_if (b := true) (et_is (isf (f := "move") rfl) (by decide +kernel)) (fun _ H5 e5 => ?_) (fun z => by cases z)
        have e25 := e2.trans (e3.trans (e4.trans e5))
        have h5 := e25 _ _ hw2
        exact s_asgF (rs := [[.str "row", .str x], [.str "any", .str y]]) (evf_lst (evt_cons (tup2 (ev_ix 1 rfl h5 rfl)) (evt_cons (tup2 (ev_ix 3 rfl h5 rfl)) evt_nil)) (by simp)) fun p ps H6 e6 h6 t6 => ⟨p, ps, none, rfl, e1.trans (e25.trans e6), h6, t6⟩
      | take x =>
        have hw2 : H1 wp = some (.lst [.str "take", .str x]) := hw1
        refine s_if (b := false) (nin (f := "take") rfl (by decide +kernel)) (fun z => by cases z) fun _ H2 e2 => ?_
        refine s_if (b := false) (et_is (isf (f := "take") rfl) (by decide +kernel)) (fun z => by cases z) fun _ H3 e3 => ?_
        refine s_if (b := false) (et_is (isf (f := "take") rfl) (by decide +kernel)) (fun z => by cases z) fun _ H4 e4 => ?_
        refine s_if (b := false) (et_is (isf (f := "take") rfl) (by decide +kernel)) (fun z => by cases z) fun _ H5 e5 => ?_
        refine s_if (b := true) (et_is (isf (f := "take") rfl) (by decide +kernel)) (fun _ H6 e6 => ?_) (fun z => by cases z)
        have e26 := e2.trans (e3.trans (e4.trans (e5.trans e6)))
        have h5 := e26 _ _ hw2
        exact s_asgF (rs := [[.str "row", .str x]]) (evf_lst (evt_cons (tup2 (ev_ix 1 rfl h5 rfl)) evt_nil) (by simp)) fun p ps H7 e7 h7 t7 => ⟨p, ps, none, rfl, e1.trans (e26.trans e7), h7, t7⟩
      | set x c a =>
        have hw2 : H1 wp = some (.lst [.str "set", .str (Txt.join "." [x, c]), .str "=", .str a.str]) := hw1
        refine s_if (b := false) (nin (f := "set") rfl (by decide +kernel)) (fun z => by cases z) fun _ H2 e2 => ?_
        refine s_if (b := false) (et_is (isf (f := "set") rfl) (by decide +kernel)) (fun z => by cases z) fun _ H3 e3 => ?_
        refine s_if (b := false) (et_is (isf (f := "set") rfl) (by decide +kernel)) (fun z => by cases z) fun _ H4 e4 => ?_
        refine s_if (b := false) (et_is (isf (f := "set") rfl) (by decide +kernel)) (fun z => by cases z) fun _ H5 e5 => ?_
        refine s_if (b := false) (et_is (isf (f := "set") rfl) (by decide +kernel)) (fun z => by cases z) fun _ H6 e6 => ?_
        refine s_if (b := true) (et_is (isf (f := "set") rfl) (by decide +kernel)) (fun _ H7 e7 => ?_) (fun z => by cases z)
        have e27 := e2.trans (e3.trans (e4.trans (e5.trans (e6.trans e7))))
        have h5 := e27 _ _ hw2
        exact s_asgF (rs := [[.str "term", .str (Txt.join "." [x, c])], [.str "term", .str a.str]]) (evf_lst (evt_cons (tup2 (ev_ix 1 rfl h5 rfl)) (evt_cons (tup2 (ev_ix 3 rfl h5 rfl)) evt_nil)) (by simp)) fun p ps H8 e8 h8 t8 => ⟨p, ps, none, rfl, e1.trans (e27.trans e8), h8, t8⟩
      | each t x c a =>
        have hw2 : H1 wp = some (.lst [.str "each", .str t, .str "below", .str x, .str "sets", .str c, .str "=", .str a.str]) := hw1
        refine s_if (b := false) (nin (f := "each") rfl (by decide +kernel)) (fun z => by cases z) fun _ H2 e2 => ?_
        refine s_if (b := false) (et_is (isf (f := "each") rfl) (by decide +kernel)) (fun z => by cases z) fun _ H3 e3 => ?_
        refine s_if (b := false) (et_is (isf (f := "each") rfl) (by decide +kernel)) (fun z => by cases z) fun _ H4 e4 => ?_
        refine s_if (b := false) (et_is (isf (f := "each") rfl) (by decide +kernel)) (fun z => by cases z) fun _ H5 e5 => ?_
        refine s_if (b := false) (et_is (isf (f := "each") rfl) (by decide +kernel)) (fun z => by cases z) fun _ H6 e6 => ?_
        refine s_if (b := false) (et_is (isf (f := "each") rfl) (by decide +kernel)) (fun z => by cases z) fun _ H7 e7 => ?_
        have e27 := e2.trans (e3.trans (e4.trans (e5.trans (e6.trans e7))))
        have h5 := e27 _ _ hw2
        exact s_asgF (rs := [[.str "table", .str t], [.str "any", .str x], [.str "column", .str t, .str c], [.str "term", .str a.str]]) (evf_lst (evt_cons (tup2 (ev_ix 1 rfl h5 rfl)) (evt_cons (tup2 (ev_ix 3 rfl h5 rfl)) (evt_cons (eu_tup (ea_cons ev_c (ea_cons (ev_ix 1 rfl h5 rfl) (ea_cons (ev_ix 5 rfl h5 rfl) ea_nil))) (Nat.le_of_ble_eq_true rfl)) (evt_cons (tup2 (ev_ix 7 rfl h5 rfl)) evt_nil)))) (by simp)) fun p ps H8 e8 h8 t8 => ⟨p, ps, none, rfl, e1.trans (e27.trans e8), h8, t8⟩
    rintro σ2 H2 ⟨fl, ps, o5, rfl, e2, hfl, tps⟩
    have hfl' : ∀ {H' : Hp}, Ex H2 H' → SqL K H' fl (ps.map V.ref) := fun e => sq_of (e _ _ hfl)
    refine q_forLn (ev_var rfl) (sq_of hfl) (fun kk σ' H' => ∃ (o6 o7 : Option V), σ' = [some (.ref tb), some (.ref kd), some (.ref wp), some (.str ln.form), some (.ref fl), o5, o6, o7, none] ∧ Ex H2 H' ∧ firstE (ln.chks.map (errC tabs st)) = firstE ((ln.chks.drop kk).map (errC tabs st)) ∧ ∀ j ck, j < kk → ln.chks[j]? = some ck → errC tabs st ck = none)
      (fun H3 e3 => ⟨none, none, rfl, e3, rfl, fun j ck hj => absurd hj (Nat.not_lt_zero _)⟩) (fun kk σ' H' _ ⟨_, _, _, e, _⟩ => hfl' e) ?_ ?_
    · rintro kk x σ' H' hx ⟨o6, o7, rfl, e3, hf, hbef⟩
      rw [List.getElem?_map] at hx
      obtain ⟨p, hp, rfl⟩ : ∃ p, ps[kk]? = some p ∧ V.ref p = x := by
        cases hp : ps[kk]? with
        | none => rw [hp] at hx; cases hx
        | some p => rw [hp] at hx; exact ⟨p, rfl, Option.some.inj hx⟩
      obtain ⟨rowv, hrow, htup⟩ := Tups.at tps hp
      rw [List.getElem?_map] at hrow
      obtain ⟨ck, hck, rfl⟩ : ∃ ck, ln.chks[kk]? = some ck ∧ Chk.rowV ck = rowv := by
        cases hc : ln.chks[kk]? with
        | none => rw [hc] at hrow; cases hrow
        | some ck => rw [hc] at hrow; exact ⟨ck, rfl, Option.some.inj hrow⟩
      obtain ⟨hkl, hkg⟩ := List.getElem?_eq_some_iff.mp hck
      rw [List.drop_eq_getElem_cons hkl, hkg, List.map_cons, firstE_cons] at hf
      have e03 := e2.trans e3
      have okk : spNE [.ref tb, .ref kd, .ref p] H' = spNE [.ref tb, .ref kd, .ref p] H' := rfl
      have hcol : ∀ t c, ck = .col t c → (findT tabs t).isSome = true := fun t c e => by
        rw [e] at hck
        obtain ⟨j, hj, hjt⟩ := chks_col hck
        have := hbef j _ hj hjt
        cases hz : (findT tabs t).isSome with
        | true => rfl
        | false => rw [show errC tabs st (.table t) = some (.unk t) from if_neg (by rw [hz]; decide)] at this; cases this
      refine (fun Q0 q0 => (eve_call (σ := [some (.ref tb), some (.ref kd), some (.ref wp), some (.str ln.form), some (.ref fl), o5, some (.ref p), o7, none]) (H := H') (er := errC tabs st ck) (sp := spNE) (E := fun _ _ _ => False) (vs := [.ref tb, .ref kd, .ref p]) (ea_cons (ev_var (i := 0) rfl) (ea_cons (ev_var (i := 1) rfl) (ea_cons (ev_var (i := 6) rfl) ea_nil))) fun H4 e4 Q4 q4 => ⟨tb, kd, r, v, w, p, tabs, st, sg, ck, rfl, (e3.trans e4) _ _ htup, fun a e => chks_ok ok a (e ▸ List.mem_of_getElem? hck), hcol, W, TB.mono (e03.trans e4), k.mono (e03.trans e4), q4⟩) H' (Ex.refl H') Q0 q0 : ∀ Q0 : VK, RetO (errC tabs st ck) H' Q0 → _) _ ?_
      cases he : errC tabs st ck with
      | none =>
        rw [he] at hf
        intro H4 e4
        refine s_when (b := false) (et_notN (x := .non) (ev_var rfl)) (fun z => by cases z) fun _ H5 e5 => ⟨_, _, rfl, e3.trans (e4.trans e5), hf, fun j ck2 hj hc2 => ?_⟩
        rcases Nat.lt_or_ge j kk with z | z
        · exact hbef j ck2 z hc2
        · obtain rfl : j = kk := by omega
          rw [hck] at hc2
          cases hc2
          exact he
      | some er =>
        rw [he] at hf
        rw [hf] at q
        intro p4 H4 e4 h4
        refine s_when (b := true) (et_notN (x := .ref p4) (ev_var rfl)) (fun _ H5 e5 => ?_) (fun z => by cases z)
        exact s_ret (ev_var rfl) fun H6 e6 => q p4 H6 (e03.trans (e4.trans (e5.trans e6))) ((e5.trans e6) _ _ h4)
    · rintro σ' H' ⟨o6, o7, rfl, e3, hf, _⟩
      have hl : ps.length = ln.chks.length := by rw [tps.len, List.length_map]
      rw [List.length_map, hl, List.drop_length] at hf
      rw [hf] at q
      exact s_ret ev_c fun H4 e4 => q H4 (e2.trans (e3.trans e4))
end
end K23

set_option Elab.async false
set_option linter.all false
set_option maxRecDepth 100000
set_option maxHeartbeats 4000000
/-! the law's checks: whether a deed fits -/
namespace K23
open PySem PySem.Spec PyProof.Rows L2 Evl
theorem valV_merge (j : Key) : ∀ (b a : List (Key × V)), (b.map (·.1)).Nodup → valV (mergeK a b) j = match valV b j with
    | some x => some x
    | none => valV a j
  | [], a, _ => rfl
  | p :: r, a, h => by
    rw [List.map_cons, List.nodup_cons] at h
    show valV (mergeK (putK a p.1 p.2) r) j = _
    rw [valV_merge j r _ h.2, valV_put]
    by_cases e : p.1 = j
    · subst e
      have hn : valV r p.1 = none := by
        have h1 := valV_any p.1 r
        cases hv : valV r p.1 with
        | none => rfl
        | some x =>
          rw [hv] at h1
          obtain ⟨q, hq, e⟩ := List.any_eq_true.mp (show (r.any fun kv => decide (kv.1 = p.1)) = true from h1)
          exact absurd (List.mem_map.mpr ⟨q, hq, of_decide_eq_true e⟩) h.1
      rw [hn, valV_pos rfl, if_pos rfl]
    · rw [valV_neg e, if_neg fun z => e z.symm]
theorem merge_any {st : St} (hn : (st.news.map (·.1)).Nodup) (x : Str) : valV (mergeK (sd (lrows st.rows)) (sd (lrows st.news))) (.inr x) = (anyIx st x).map fun i => V.int (i : Nat) := by
  rw [valV_merge, valV_sd, valV_sd, lrows_lk, lrows_lk]
  · unfold anyIx
    cases st.news.lookup x <;> rfl
  · unfold sd lrows
    rw [List.map_map, List.map_map]
    rw [List.nodup_iff_pairwise_ne, List.pairwise_map]
    have hn2 := List.nodup_iff_pairwise_ne.mp hn
    rw [List.pairwise_map] at hn2
    exact hn2.imp fun h z => h (Sum.inr.inj z)
theorem ev_dgetK {td ty : TE} {σ : L2.St} {H : Hp} {a : Addr} {k : Str} {m : List (Key × V)} {v : V} (hd : Ev td σ H (.ref a)) (hy : Ev ty σ H (.str k)) (ho : H a = some (.dK m)) (hl : valV m (.inr k) = some v) : Ev (tDGet td ty) σ H v := fun H1 e Q q =>
  hd H1 e _ fun H2 e2 => hy H2 (e.trans e2) _ fun H3 e3 => ⟨a, v, rfl, by have g := DGet.k (k := .inr k) ((e.trans (e2.trans e3)) _ _ ho); rw [hl] at g; exact g, q H3 (e2.trans e3)⟩
theorem inV_int (k : Nat) : ∀ l : List Nat, inV (.int (k : Nat)) (l.map fun j => V.int (j : Nat)) = decide (k ∈ l)
  | [] => rfl
  | j :: r => by
    have e : inV (.int (k : Nat)) ((j :: r).map fun j => V.int (j : Nat)) = (eqV (.int (j : Nat)) (.int (k : Nat)) || inV (.int (k : Nat)) (r.map fun j => V.int (j : Nat))) := rfl
    rw [e, inV_int k r]
    have e2 : eqV (.int (j : Nat)) (.int (k : Nat)) = decide (j = k) := by
      show ((j : Int) == (k : Int)) = decide (j = k)
      by_cases h : j = k
      · subst h; simp
      · rw [decide_eq_false h]; exact beq_eq_false_iff_ne.mpr (by omega)
    rw [e2]
    by_cases h : j = k
    · subst h; simp
    · by_cases h2 : k ∈ r
      · simp [h2]
      · rw [decide_eq_false h, decide_eq_false h2, decide_eq_false (by simp [h2, Ne.symm h])]; rfl
def fitL (tabs : Tabs) (st : St) : Line → Option Er
  | .new _ t u ts => firstE [match u with
        | none => if (parI tabs (ixT tabs t)).isSome = true then some (.wtab t) else none
        | some x => if parI tabs (ixT tabs t) = anyIx st x then none else some (.wtab x),
      if ts.length = (colsI tabs (ixT tabs t)).length then none else some .wcnt]
  | .move x y => if ((anyIx st x).bind (parI tabs)) = anyIx st y then none else some (.wtab y)
  | .each t x _ _ => if (anyIx st x).getD 0 ∈ (chainI tabs (ixT tabs t)).drop 1 then none else some (.wtab t)
  | _ => none
def uwS : Option Str → Str
  | none => "with"
  | some _ => "under"
def wFit (st : St) (t : Str) (par : Option Nat) : Option Str → Option Er
  | none => if par.isSome = true then some (.wtab t) else none
  | some x => if par = anyIx st x then none else some (.wtab x)
def wBad (st : St) (par : Option Nat) : Option Str → Bool
  | none => false
  | some x => !decide (par = anyIx st x)
theorem fitL_new {tabs : Tabs} {st : St} {n t : Str} {u : Option Str} {ts : List Tm} : fitL tabs st (.new n t u ts) = firstE [wFit st t (parI tabs (ixT tabs t)) u, if ts.length = (colsI tabs (ixT tabs t)).length then none else some .wcnt] := by cases u <;> rfl
theorem fitL_move {tabs : Tabs} {st : St} {x y : Str} : fitL tabs st (.move x y) = if ((anyIx st x).bind (parI tabs)) = anyIx st y then none else some (.wtab y) := rfl
theorem fitL_each {tabs : Tabs} {st : St} {t x c : Str} {a : Tm} : fitL tabs st (.each t x c a) = if (anyIx st x).getD 0 ∈ (chainI tabs (ixT tabs t)).drop 1 then none else some (.wtab t) := rfl
def spFE : Sp := fun vs H Q _ => ∃ (tb kd r v w wp : Addr) (tabs : Tabs) (st : St) (sg : Int) (ln : Line), vs = [.ref tb, .ref kd, .ref wp] ∧ H wp = some (.lst (ln.words.map V.str)) ∧ ln.ok ∧ WF tabs ∧ TbAt tabs H tb ∧ KnL tabs st sg kd r v w H ∧ (st.news.map (·.1)).Nodup ∧ st.news.length ≤ 1000 ∧
  (∀ ck ∈ ln.chks, errC tabs st ck = none) ∧ RetO (fitL tabs st ln) H Q
theorem tab_some {tabs : Tabs} {st : St} {t : Str} (h : errC tabs st (.table t) = none) : (findT tabs t).isSome = true := by
  cases hz : (findT tabs t).isSome with
  | true => rfl
  | false => rw [show errC tabs st (.table t) = some (.unk t) from if_neg (by rw [hz]; decide)] at h; cases h
theorem any_some {tabs : Tabs} {st : St} {x : Str} (h : errC tabs st (.any x) = none) : ∃ i, anyIx st x = some i := by
  cases hz : anyIx st x with
  | some i => exact ⟨i, rfl⟩
  | none => rw [show errC tabs st (.any x) = some (.unk x) from if_neg (by rw [hz]; decide)] at h; cases h
theorem row_some {tabs : Tabs} {st : St} {x : Str} (h : errC tabs st (.row x) = none) : ∃ i, rowIx st x = some i := by
  cases hz : rowIx st x with
  | some i => exact ⟨i, rfl⟩
  | none => rw [show errC tabs st (.row x) = some (.unk x) from if_neg (by rw [hz]; decide)] at h; cases h
theorem parZ_eq {o : Option Nat} {i : Nat} : decide (V.int (i : Nat) = V.int (parZ o)) = decide (o = some i) := by
  cases o with
  | none => rw [decide_eq_false fun z => by have h : ((i : Nat) : Int) = -1 := V.int.inj z; omega, decide_eq_false (by simp)]
  | some j =>
    by_cases h : j = i
    · subst h; rw [decide_eq_true rfl]; exact decide_eq_true rfl
    · rw [decide_eq_false (show ¬ some j = some i from fun z => h (Option.some.inj z))]
      exact decide_eq_false fun z => by have h2 : ((i : Nat) : Int) = ((j : Nat) : Int) := V.int.inj z; omega
def rDict : List V → Hp → VK → Prop := fun xs H Q => ∃ (a : Addr) (kvs : List (Key × V)), xs = [.ref a] ∧ H a = some (.dK kvs) ∧ ∀ p, H p = none → Q (.ref p) (upd H p (.dK kvs))
theorem q_asgD {te : TE} {σ : L2.St} {H : Hp} {D : Ends} {tz : TS} {i : Nat} {a : Addr} {m : List (Key × V)} (h : Ev te σ H (.ref a)) (ho : H a = some (.dK m)) (k : ∀ p H1, H p = none → Ex H H1 → H1 p = some (.dK m) → tz D (σ.set i (some (.ref p))) H1) :
    tSeq (tAsg (tCB rDict (tCons te tNil)) (gName i)) tz D σ H := h H (Ex.refl H) _ fun H1 e1 => ⟨a, m, rfl, e1 _ _ ho, fun p hp => k p _ (fresh_back e1 hp) (e1.trans (Ex.new hp)) upd_same⟩
theorem q_upd {K : PySem.W.Frag} {to te : TE} {σ : L2.St} {H : Hp} {D : Ends} {tz : TS} {a b : Addr} {m more : List (Key × V)} (ho : Ev to σ H (.ref a)) (ha : H a = some (.dK m)) (hb : Ev te σ H (.ref b)) (hbo : H b = some (.dK more)) (ne : a ≠ b) (hl : m.length + more.length ≤ 100000)
    (k : ∀ H1, Ex H H1 → tz D σ (upd H1 a (.dK (mergeK m more)))) : tSeq (tDrop (tBM K "dict" rUpd to (tCons te tNil))) tz D σ H := ho H (Ex.refl H) _ fun H1 e1 => ⟨Or.inr (Or.inr (Or.inl ⟨rfl, Or.inl ⟨_, e1 _ _ ha⟩⟩)),
  hb H1 e1 _ fun H2 e2 => ⟨a, b, m, more, rfl, rfl, ne, (e1.trans e2) _ _ ha, (e1.trans e2) _ _ hbo, sz_of hl, k H2 (e1.trans e2)⟩⟩
section
variable {P : Program} {w : World} {K : PySem.W.Frag} {mg : Str → Option Value} {base : Heap}
theorem ok_law_fit_error (T : Txt K mg) : CalX P w K mg base CX0 8 "_law_fit_error" ["_law_tables", "_law_known", "_law_words"] spFE := by
  have c_law_get_chain := ok_law_get_chain (P := P) (w := w) (base := base) T 6
  obtain ⟨fd, F⟩ := T.f_law_fit_error
  refine ⟨_, fd, F.ok sc_law_fit_error (fun vs H Q E h => ?_) (fun cdv A outer s H vs Q E hr h => ?_), T.g_law_fit_error, F.kp, F.bindsN fun _ _ _ _ _ _ us hl => match us, hl with | [_, _, _], _ => rfl⟩
  · obtain ⟨tb, kd, r, v, w, wp, tabs, st, sg, ln, rfl, _⟩ := h; rfl
  · obtain ⟨tb, kd, r, v, w, wp, tabs, st, sg, ln, rfl, hw, ok, W, TB, k, hnd, hnl, names, q⟩ := h
    refine ⟨_, (PSs.nox (pss_cons (ps_set (i := 3) sc_law_fit_error.nd rfl (by first | exact Or.inl rfl | exact Or.inr rfl) (pe_callTy call_dictC (by rfl) T.b_dict (by decide +kernel) (pa_cons (pe_dget (hu_of hr) (pv 1) pe_str (fun _ _ => rfl)) pa_nil)))
        (pss_cons (ps_expr (pe_bm PySem.F.plainAttrs_dict PySem.F.slot_dict_update PySem.F.type_dict_update mt_update (pv 3) (pa_cons (pe_dget (hu_of hr) (pv 1) pe_str (fun _ _ => rfl)) pa_nil)))
        (pss_cut (ps_if (pt_cmpR op_eq (pe_ix ix_list (pv 2) pe_int (fun _ _ => rfl)) pe_str (nomark _)) (pss_cons (ps_set (i := 4) sc_law_fit_error.nd rfl (by first | exact Or.inl rfl | exact Or.inr rfl) (pe_ix ix_list (pe_lc (own := [("_law_t", 4)]) (g := gName 4) (by rfl) sc_law_fit_error.nd (pi_range1 (by rfl) T.b_range (pa_cons (pe_callB call_lenL (by rfl) T.b_len PySem.boot_len (pa_cons (pv 0) pa_nil)) pa_nil)) (blkOk_by (own := [("_law_t", 4)]) (N := ["_law_tables", "_law_known", "_law_words", "_law_rows", "_law_t"]) (sc := defScope s_law_fit_error) (by decide +kernel)) (fun _ _ _ _ _ => pg_name (i := 4) sc_law_fit_error.nd rfl (Or.inl rfl)) (fun _ _ _ _ _ => (pts_one (pt_cmpR op_eq (pe_ix (ix_tk (K := K) rfl) (pe_ix (ix_lk (K := K) rfl) (pv 0) (pv 4) (fun _ _ => rfl)) pe_int (fun _ _ => rfl)) (pe_ix (ix_lk (K := K) rfl) (pv 2) pe_int (fun _ _ => rfl)) (nomark _)))) (fun _ _ _ _ _ => (pv 4))) pe_int (fun _ _ => rfl)))
        (pss_cons (ps_if (PW.pt (pw_and (pt_cmpR op_eq (pe_ix ix_list (pv 2) pe_int (fun _ _ => rfl)) pe_str (nomark _)) (pw_and1 (pt_cmpR op_ge (pe_ix ix_tup (pe_ix ix_list (pv 0) (pv 4) (fun _ _ => rfl)) pe_int (fun _ _ => rfl)) pe_int (nomark _))))) (pss_one (ps_ret (pe_tup (pa_cons pe_str (pa_cons (pe_ix ix_list (pv 2) pe_int (fun _ _ => rfl)) pa_nil))))) pss_nil)
        (pss_cons (ps_if (PW.pt (pw_and (pt_cmpR op_eq (pe_ix ix_list (pv 2) pe_int (fun _ _ => rfl)) pe_str (nomark _)) (pw_and1 (pt_cmpR op_ne (pe_dget (hu_of hr) (pv 3) (pe_ix ix_list (pv 2) pe_int (fun _ _ => rfl)) (fun _ _ => rfl)) (pe_ix ix_tup (pe_ix ix_list (pv 0) (pv 4) (fun _ _ => rfl)) pe_int (fun _ _ => rfl)) (nomark _))))) (pss_one (ps_ret (pe_tup (pa_cons pe_str (pa_cons (pe_ix ix_list (pv 2) pe_int (fun _ _ => rfl)) pa_nil))))) pss_nil)
        (pss_one (ps_if (pt_cmpR op_ne (pe_op op_sub (pe_op op_sub (pe_callB call_lenL (by rfl) T.b_len PySem.boot_len (pa_cons (pv 2) pa_nil)) pe_int) (pe_op op_mul pe_int (pe_callTy call_int1 (by rfl) T.b_int (by decide +kernel) (pa_cons (pe_cmpR op_eq (pe_ix ix_list (pv 2) pe_int (fun _ _ => rfl)) pe_str (nomark _)) pa_nil)))) (pe_callB call_lenL (by rfl) T.b_len PySem.boot_len (pa_cons (pe_ix ix_tup (pe_ix ix_list (pv 0) (pv 4) (fun _ _ => rfl)) pe_int (fun _ _ => rfl)) pa_nil)) (nomark _)) (pss_one (ps_ret (pe_tup (pa_cons pe_str pa_nil)))) pss_nil))))) pss_nil)
        (pss_cons (ps_if (PW.pt (pw_and (pt_cmpR op_eq (pe_ix ix_list (pv 2) pe_int (fun _ _ => rfl)) pe_str (nomark _)) (pw_and1 (pt_cmpR op_ne (pe_dget (hu_of hr) (pv 3) (pe_ix ix_list (pv 2) pe_int (fun _ _ => rfl)) (fun _ _ => rfl)) (pe_ix ix_tup (pe_ix ix_list (pv 0) (pe_dget (hu_of hr) (pv 3) (pe_ix ix_list (pv 2) pe_int (fun _ _ => rfl)) (fun _ _ => rfl)) (fun _ _ => rfl)) pe_int (fun _ _ => rfl)) (nomark _))))) (pss_one (ps_ret (pe_tup (pa_cons pe_str (pa_cons (pe_ix ix_list (pv 2) pe_int (fun _ _ => rfl)) pa_nil))))) pss_nil)
        (pss_cons (ps_if (pt_cmpR op_eq (pe_ix ix_list (pv 2) pe_int (fun _ _ => rfl)) pe_str (nomark _)) (pss_cons (ps_set (i := 4) sc_law_fit_error.nd rfl (by first | exact Or.inl rfl | exact Or.inr rfl) (pe_ix ix_list (pe_lc (own := [("_law_t", 4)]) (g := gName 4) (by rfl) sc_law_fit_error.nd (pi_range1 (by rfl) T.b_range (pa_cons (pe_callB call_lenL (by rfl) T.b_len PySem.boot_len (pa_cons (pv 0) pa_nil)) pa_nil)) (blkOk_by (own := [("_law_t", 4)]) (N := ["_law_tables", "_law_known", "_law_words", "_law_rows", "_law_t"]) (sc := defScope s_law_fit_error) (by decide +kernel)) (fun _ _ _ _ _ => pg_name (i := 4) sc_law_fit_error.nd rfl (Or.inl rfl)) (fun _ _ _ _ _ => (pts_one (pt_cmpR op_eq (pe_ix (ix_tk (K := K) rfl) (pe_ix (ix_lk (K := K) rfl) (pv 0) (pv 4) (fun _ _ => rfl)) pe_int (fun _ _ => rfl)) (pe_ix (ix_lk (K := K) rfl) (pv 2) pe_int (fun _ _ => rfl)) (nomark _)))) (fun _ _ _ _ _ => (pv 4))) pe_int (fun _ _ => rfl)))
        (pss_one (ps_if (pt_cmpR op_notIn_seq (pe_dget (hu_of hr) (pv 3) (pe_ix ix_list (pv 2) pe_int (fun _ _ => rfl)) (fun _ _ => rfl)) (pe_slice sl_list (pe_cx c_law_get_chain hr (by decide) pass0 (pa_cons (pv 0) (pa_cons (pv 4) pa_nil))) (po_some pe_int) po_none) rfl) (pss_one (ps_ret (pe_tup (pa_cons pe_str (pa_cons (pe_ix ix_list (pv 2) pe_int (fun _ _ => rfl)) pa_nil))))) pss_nil))) pss_nil)
        (pss_one (ps_ret pe_non)))))))), ?_⟩
    have few := W.few
    obtain ⟨tps, htb, htl, _⟩ := TB.ex
    have hrl := k.kn.rl
    refine q_asgD (ev_kr k (ev_var rfl)) k.r fun p H1 hp e1 h1 => ?_
    have k1 := k.mono e1
    have npw : p ≠ w := fun z => by rw [z, k.w] at hp; cases hp
    refine q_upd (ev_var rfl) h1 (ev_kw k1 (ev_var rfl)) k1.w npw (by rw [sd_len, sd_len]; unfold lrows; rw [List.length_map, List.length_map]; omega) fun H2 e2 => ?_
    have e02 : Ex H (upd H2 p (.dK (mergeK (sd (lrows st.rows)) (sd (lrows st.news))))) := Ex.mut (e1.trans e2) hp
    have hM : upd H2 p (.dK (mergeK (sd (lrows st.rows)) (sd (lrows st.news)))) p = some (.dK (mergeK (sd (lrows st.rows)) (sd (lrows st.news)))) := upd_same
    generalize upd H2 p (.dK (mergeK (sd (lrows st.rows)) (sd (lrows st.news)))) = H3 at e02 hM ⊢
    have W0 : (ln.words.map V.str)[0]? = some (.str ln.form) := by
      obtain ⟨r, e⟩ := wordsB_head false ln
      rw [show ln.words = ln.form :: r from e]
      rfl
    have isf : ∀ {H' : Hp} {g : Str} {σ : L2.St}, Ex H H' → σ[2]? = some (some (.ref wp)) → EvT (tTest (tOp rEq (tOp (rIxL K) (tVar 2) (tC (.int 0))) (tC (.str g)))) σ H' (decide (ln.form = g)) := fun e hs => et_is (et_test (ev_op (ev_ix 0 hs (e _ _ hw) W0) ev_c (rv_eq rfl))) (dec_str _ _)
    have rowsAt : ∀ {H' : Hp} {σ : L2.St} {ti : TE} {x : Str} {i : Nat}, Ex H3 H' → σ[3]? = some (some (.ref p)) → Ev ti σ H' (.str x) → anyIx st x = some i → Ev (tDGet (tVar 3) ti) σ H' (.int (i : Nat)) := fun e hs hi ha => ev_dgetK (ev_var hs) hi (e _ _ hM) (by rw [merge_any hnd, ha]; rfl)
    -- the table's place
    have place : ∀ {H' : Hp} {σ : L2.St} {n : Nat} {t : Str}, Ex H H' → σ[0]? = some (some (.ref tb)) → σ[2]? = some (some (.ref wp)) → (wipe σ [4])[0]? = some (some (.ref tb)) → (∀ x, ((wipe σ [4]).set 4 (some x))[0]? = some (some (.ref tb)) ∧ ((wipe σ [4]).set 4 (some x))[2]? = some (some (.ref wp)) ∧ ((wipe σ [4]).set 4 (some x))[4]? = some (some x)) → (∀ x, wipe ((wipe σ [4]).set 4 (some x)) [4] = wipe σ [4]) →
        (ln.words.map V.str)[n]? = some (.str t) → (findT tabs t).isSome = true →
        Ev (tOp (rIxL K) (tLc (iRng1 (tCons (tCB (rLenS K) (tCons (tVar 0) tNil)) tNil)) (gName 4) (tTest (tOp rEq (tOp (rIxT K) (tOp (rIxL K) (tVar 0) (tVar 4)) (tC (.int 0))) (tOp (rIxL K) (tVar 2) (tC (.int ((n : Nat) : Int)))))) (tVar 4) [4]) (tC (.int 0))) σ H' (.int ((ixT tabs t : Nat) : Int)) := by
      intro H' σ n t e h0 h2 _ hs hwp hn hf
      refine ev_opL1 (xs := (plcs tabs t).map V.int) (el_is (el_lcR1 (j := 4) (vs := [4]) (n := (tabs.length : Nat)) (fun i => decide (nameI tabs i = t)) (fun i => .int (i : Nat)) (ea_cons (ev_is (ev_len (ev_var h0) (sq_of (e _ _ htb))) (by rw [List.length_map, htl])) ea_nil) (by omega) hwp (fun i H1 e1 hi => ?_) (fun i H1 e1 hi _ => ev_var (hs _).2.2)) (by rw [Int.toNat_natCast]; exact plcs_given W _)) (fun _ _ => ev_c) fun p H1 h1 _ => ?_
      · obtain ⟨b, hb, hnb⟩ := tab_at (show i < tabs.length by omega)
        exact et_is (et_test (ev_op (ev_tb0 (TB.mono (e.trans e1)) hb (ev_var (hs _).1) (ev_var (hs _).2.2)) (ev_op (ev_var (hs _).2.1) ev_c (rv_ixL (sq_of ((e.trans e1) _ _ hw)) (atI_nat hn))) (rv_eq rfl))) (by rw [dec_str, hnb])
      · exact rv_ixL (sq_of h1) (atI_nat (j := 0) (by unfold plcs; rw [if_pos hf]; rfl))
    refine q_cut (M := fun σ' H' => ∃ o : Option V, σ' = [some (.ref tb), some (.ref kd), some (.ref wp), some (.ref p), o] ∧ Ex H3 H' ∧ ∀ n t u ts, ln = .new n t u ts → fitL tabs st ln = none) ?_ ?_
    · by_cases hnew : ∃ n t u ts, ln = .new n t u ts
      · obtain ⟨n, t, u, ts, rfl⟩ := hnew
        have hf := tab_some (names (.table t) (by simp [Line.chks]))
        obtain ⟨b, hb, hnb⟩ := tab_at (find_lt hf)
        have hu : ∀ x, u = some x → ∃ i, anyIx st x = some i := fun x e => any_some (names (.any x) (by rw [e]; simp [Line.chks]))
        have W3 : ((Line.new n t u ts).words.map V.str)[3]? = some (.str t) := by cases u <;> rfl
        have W4 : ((Line.new n t u ts).words.map V.str)[4]? = some (.str (uwS u)) := by cases u <;> rfl
        have Wl : ((Line.new n t u ts).words.map V.str).length = stN u + ts.length := by cases u <;> simp [Line.words, stN] <;> omega
        have hF : fitL tabs st (.new n t u ts) = firstE [wFit st t b.par u, if ts.length = b.cols.length then none else some .wcnt] := by rw [fitL_new, parI_at hb, colsI_at hb]
        have q1 : RetO (firstE [wFit st t b.par u, if ts.length = b.cols.length then none else some .wcnt]) H Q := by
          rw [hF] at q
          exact q
        refine s_when (b := true) (et_is (isf e02 rfl) (decide_eq_true rfl)) (fun _ H4 e4 => ?_) (fun z => by cases z)
        have e04 := e02.trans e4
        refine q_asg (v := .int ((ixT tabs t : Nat) : Int)) (place (n := 3) e04 rfl rfl rfl (fun _ => ⟨rfl, rfl, rfl⟩) (fun _ => rfl) W3 hf) fun H5 e5 => ?_
        have e05 := e04.trans e5
        have TB5 := TB.mono e05
        have dw : ∀ {H' : Hp} {g : Str} {σ : L2.St}, Ex H H' → σ[2]? = some (some (.ref wp)) → EvT (tTest (tOp rEq (tOp (rIxL K) (tVar 2) (tC (.int 4))) (tC (.str g)))) σ H' (decide (uwS u = g)) := fun e hs => et_is (et_test (ev_op (ev_ix 4 hs (e _ _ hw) W4) ev_c (rv_eq rfl))) (dec_str _ _)
        refine q_when (b := u.isNone && b.par.isSome) ?_ (fun hz H6 e6 => ?_) fun hz H6 e6 => ?_
        · cases u with
          | some x => exact et_and (a := false) (b := b.par.isSome) (et_is (dw e05 rfl) (show decide (("under" : Str) = "with") = false by decide +kernel)) fun z => by cases z
          | none =>
            refine et_and (a := true) (et_is (dw e05 rfl) (by decide +kernel)) fun _ => et_is (et_test (ev_op (ev_tb1 TB5 hb (ev_var rfl) (ev_var rfl)) ev_c rv_I0)) ?_
            cases b.par with
            | none => rfl
            | some j => exact decide_eq_true (by show (0 : Int) ≤ (j : Nat); omega)
        · cases u with
          | some x => cases hz
          | none =>
            have hz' : b.par.isSome = true := hz
            rw [show wFit st t b.par none = some (.wtab t) from if_pos hz'] at q1
            exact s_retE (er := some (.wtab t)) (eve_tup (ea_cons ev_c (ea_cons (ev_ix 3 rfl ((e05.trans e6) _ _ hw) W3) ea_nil)) rfl) (q1.mono (e05.trans e6))
        have e06 := e05.trans e6
        refine q_when (b := wBad st b.par u) ?_ (fun hz2 H7 e7 => ?_) fun hz2 H7 e7 => ?_
        · cases u with
          | none => exact et_and (a := false) (b := false) (et_is (dw e06 rfl) (by decide +kernel)) fun z => by cases z
          | some x =>
            obtain ⟨i, hi⟩ := hu x rfl
            refine et_is (et_and (a := true) (et_is (dw e06 rfl) (decide_eq_true rfl)) fun _ => et_test (ev_op (rowsAt (e4.trans (e5.trans e6)) rfl (ev_ix 5 rfl (e06 _ _ hw) (v := .str x) rfl) hi) (ev_tb1 (TB.mono e06) hb (ev_var rfl) (ev_var rfl)) (rv_ne rfl))) ?_
            rw [Bool.true_and, parZ_eq, ← hi]
            rfl
        · cases u with
          | none => cases hz2
          | some x =>
            have hz3 : ¬ b.par = anyIx st x := of_decide_eq_false (Bool.not_eq_true' _ |>.mp hz2)
            rw [show wFit st t b.par (some x) = some (.wtab x) from if_neg hz3] at q1
            exact s_retE (er := some (.wtab x)) (eve_tup (ea_cons ev_c (ea_cons (ev_ix 5 rfl ((e06.trans e7) _ _ hw) (v := .str x) rfl) ea_nil)) rfl) (q1.mono (e06.trans e7))
        have e07 := e06.trans e7
        have hm : wFit st t b.par u = none := by
          cases u with
          | none => exact if_neg (by rw [show b.par.isSome = false from hz]; decide)
          | some x => exact if_pos (of_decide_eq_true (Bool.not_eq_false' _ |>.mp hz2))
        rw [hm] at q1 hF
        obtain ⟨cl, hcl1, hcl2⟩ := ev_tb2 (K := K) (σ := [some (.ref tb), some (.ref kd), some (.ref wp), some (.ref p), some (.int ((ixT tabs t : Nat) : Int))]) (to := tVar 0) (ti := tVar 4) (TB.mono e07) hb (ev_var rfl) (ev_var rfl)
        refine s_when (b := !decide (ts.length = b.cols.length)) (et_is (et_test (ev_op (ev_op (ev_op (ev_len (ev_var rfl) (sq_of (e07 _ _ hw))) ev_c rv_I0) (ev_op ev_c (ev_intB (ev_op (ev_ix 4 rfl (e07 _ _ hw) W4) ev_c (rv_eq rfl))) (rv_I (C := CMul) (.inl ⟨by decide, by decide⟩))) rv_I0) (ev_len hcl1 (sq_of hcl2)) (rv_ne rfl))) ?_) (fun hz3 H8 e8 => ?_) fun hz3 H8 e8 => ?_
        · rw [Wl, List.length_map]
          have hs : (((stN u + ts.length : Nat) : Int) - 5 - 2 * (if decide (V.str (uwS u) = V.str "under") = true then 1 else 0)) = ((ts.length : Nat) : Int) := by
            cases u with
            | none =>
              rw [if_neg (by decide +kernel)]
              show ((5 + ts.length : Nat) : Int) - 5 - 2 * 0 = _
              omega
            | some x =>
              rw [if_pos (show decide (V.str (uwS (some x)) = V.str "under") = true from decide_eq_true rfl)]
              show ((7 + ts.length : Nat) : Int) - 5 - 2 * 1 = _
              omega
          rw [hs]
          by_cases hc : ts.length = b.cols.length
          · rw [decide_eq_true hc, hc, decide_eq_true rfl]
          · rw [decide_eq_false hc, decide_eq_false fun z => hc (by have := V.int.inj z; omega)]
        · rw [Bool.not_eq_true', decide_eq_false_iff_not] at hz3
          rw [if_neg hz3] at q1
          exact s_retE (er := some .wcnt) (eve_tup (ea_cons ev_c ea_nil) rfl) (q1.mono (e07.trans e8))
        · rw [Bool.not_eq_false', decide_eq_true_eq] at hz3
          rw [if_pos hz3] at hF
          exact ⟨_, rfl, e4.trans (e5.trans (e6.trans (e7.trans e8))), fun _ _ _ _ _ => hF⟩
      · refine s_when (b := false) (et_is (isf e02 rfl) ?_) (fun z => by cases z) fun _ H4 e4 => ⟨none, rfl, e4, fun n t u ts e => absurd ⟨n, t, u, ts, e⟩ hnew⟩
        cases ln with
        | new n t u ts => exact absurd ⟨n, t, u, ts, rfl⟩ hnew
        | row _ _ => exact (by decide +kernel : decide (("row" : Str) = "new") = false)
        | value _ => exact (by decide +kernel : decide (("value" : Str) = "new") = false)
        | need _ _ => exact (by decide +kernel : decide (("need" : Str) = "new") = false)
        | move _ _ => exact (by decide +kernel : decide (("move" : Str) = "new") = false)
        | set _ _ _ => exact (by decide +kernel : decide (("set" : Str) = "new") = false)
        | each _ _ _ _ => exact (by decide +kernel : decide (("each" : Str) = "new") = false)
        | take _ => exact (by decide +kernel : decide (("take" : Str) = "new") = false)
    rintro σ4 H4 ⟨o, rfl, e4, hnew⟩
    have e04 := e02.trans e4
    have skip : ∀ {H' : Hp} {g : Str} {σ : L2.St} {u : TT}, Ex H H' → σ[2]? = some (some (.ref wp)) → decide (ln.form = g) = false → EvT (tAnd (tTest (tOp rEq (tOp (rIxL K) (tVar 2) (tC (.int 0))) (tC (.str g)))) u) σ H' false := fun e hs h =>
      et_is (et_and (b := false) (isf e hs) fun z => by rw [h] at z; cases z) (by rw [Bool.and_false])
    by_cases hmv : ∃ x y, ln = .move x y
    · obtain ⟨x, y, rfl⟩ := hmv
      obtain ⟨i, hi⟩ := row_some (names (.row x) (by simp [Line.chks]))
      obtain ⟨j, hj⟩ := any_some (names (.any y) (by simp [Line.chks]))
      have hai := k.kn.anyRow hi
      obtain ⟨b, hb, hnb⟩ := tab_at (k.kn.rowLt hi)
      have hw' : H wp = some (.lst [.str "move", .str x, .str "under", .str y]) := hw
      have hF : fitL tabs st (.move x y) = if b.par = some j then none else some (.wtab y) := by rw [fitL_move, hai, hj, show (some i).bind (parI tabs) = b.par from parI_at hb]
      rw [hF] at q
      refine q_when (b := !decide (b.par = some j)) (et_is (et_and (et_is (isf (g := "move") e04 rfl) (decide_eq_true rfl)) fun _ => et_test (ev_op (rowsAt e4 rfl (ev_ix 3 rfl (e04 _ _ hw') rfl) hj) (ev_tb1 (TB.mono e04) hb (ev_var rfl) (rowsAt e4 rfl (ev_ix 1 rfl (e04 _ _ hw') rfl) hai)) (rv_ne rfl))) (by rw [Bool.true_and, parZ_eq])) (fun hz H5 e5 => ?_) fun hz H5 e5 => ?_
      · rw [Bool.not_eq_true', decide_eq_false_iff_not] at hz
        rw [if_neg hz] at q
        exact s_retE (er := some (.wtab y)) (eve_tup (ea_cons ev_c (ea_cons (ev_ix 3 rfl ((e04.trans e5) _ _ hw') rfl) ea_nil)) rfl) (q.mono (e04.trans e5))
      · rw [Bool.not_eq_false', decide_eq_true_eq] at hz
        rw [if_pos hz] at q
        have e05 := e04.trans e5
        refine q_when (b := false) (et_is (isf e05 rfl) (show decide (("move" : Str) = "each") = false by decide +kernel)) (fun z => by cases z) fun _ H6 e6 => ?_
        exact s_ret ev_c fun H7 e7 => q H7 (e05.trans (e6.trans e7))
    · have fm : decide (ln.form = "move") = false := by
        cases ln with
        | move x y => exact absurd ⟨x, y, rfl⟩ hmv
        | row _ _ => exact (by decide +kernel : decide (("row" : Str) = "move") = false)
        | value _ => exact (by decide +kernel : decide (("value" : Str) = "move") = false)
        | need _ _ => exact (by decide +kernel : decide (("need" : Str) = "move") = false)
        | new _ _ _ _ => exact (by decide +kernel : decide (("new" : Str) = "move") = false)
        | set _ _ _ => exact (by decide +kernel : decide (("set" : Str) = "move") = false)
        | each _ _ _ _ => exact (by decide +kernel : decide (("each" : Str) = "move") = false)
        | take _ => exact (by decide +kernel : decide (("take" : Str) = "move") = false)
      refine q_when (skip e04 rfl fm) (fun z => by cases z) fun _ H5 e5 => ?_
      have e05 := e04.trans e5
      by_cases hea : ∃ t x c a, ln = .each t x c a
      · obtain ⟨t, x, c, a, rfl⟩ := hea
        have hf := tab_some (names (.table t) (by simp [Line.chks]))
        obtain ⟨j, hj⟩ := any_some (names (.any x) (by simp [Line.chks]))
        have hw' : H wp = some (.lst [.str "each", .str t, .str "below", .str x, .str "sets", .str c, .str "=", .str a.str]) := hw
        have hF : fitL tabs st (.each t x c a) = if j ∈ (chainI tabs (ixT tabs t)).drop 1 then none else some (.wtab t) := by rw [fitL_each, hj]; rfl
        rw [hF] at q
        refine q_when (b := true) (et_is (isf e05 rfl) (decide_eq_true rfl)) (fun _ H6 e6 => ?_) (fun z => by cases z)
        have e06 := e05.trans e6
        refine q_asg (v := .int ((ixT tabs t : Nat) : Int)) (place (n := 1) e06 rfl rfl rfl (fun _ => ⟨rfl, rfl, rfl⟩) (fun _ => rfl) rfl hf) fun H7 e7 => ?_
        have e07 := e06.trans e7
        have hchl := W.chn _ (find_lt hf)
        have sl : ∀ {σ : L2.St} {tx : TE} {H' : Hp} (hE : EvL tx σ H' ((chainI tabs (ixT tabs t)).map fun j => V.int (j : Nat))), EvL (tSl (rSlL K) tx (tPart (tC (.int 1))) tNoPart) σ H' (((chainI tabs (ixT tabs t)).drop 1).map fun j => V.int (j : Nat)) := fun hE H1 e1 Q2 q2 => hE H1 e1 _ fun p H2 hp e2 h2 =>
          ⟨1, rfl, p, _, rfl, sq_of h2, fun p2 hp2 => by
            rw [show (cutV ((chainI tabs (ixT tabs t)).map fun j => V.int (j : Nat)) (some 1) none) = ((chainI tabs (ixT tabs t)).drop 1).map fun j => V.int (j : Nat) by
              rw [List.map_drop]; exact cutV_from _ 1 (by rw [List.length_map, chainI_eq W]; simp)]
            exact q2 p2 _ (fresh_back e2 hp2) (e2.trans (Ex.new hp2)) upd_same⟩
        refine s_when (b := !decide (j ∈ (chainI tabs (ixT tabs t)).drop 1)) (et_is (et_test (ev_opL (rowsAt (e4.trans (e5.trans (e6.trans e7))) rfl (ev_ix 3 rfl (e07 _ _ hw') rfl) hj) (sl (el_call (vs := [.ref tb, .int ((ixT tabs t : Nat) : Int)]) (ea_cons (ev_var rfl) (ea_cons (ev_var rfl) ea_nil)) fun H8 e8 Q8 q8 E8 => ⟨tb, tabs, ixT tabs t, rfl, by have := find_lt hf; omega, find_lt hf, W, TB.mono (e07.trans e8), fun p H9 hp9 e9 h9 => q8 p H9 hp9 e9 h9⟩)) fun p H8 h8 _ => rv_niL (sq_of h8) rfl (by rw [List.all_map]; exact List.all_eq_true.mpr fun _ _ => rfl))) (by rw [inV_int])) (fun hz H8 e8 => ?_) fun hz H8 e8 => ?_
        · rw [Bool.not_eq_true', decide_eq_false_iff_not] at hz
          rw [if_neg hz] at q
          exact s_retE (er := some (.wtab t)) (eve_tup (ea_cons ev_c (ea_cons (ev_ix 1 rfl ((e07.trans e8) _ _ hw') rfl) ea_nil)) rfl) (q.mono (e07.trans e8))
        · rw [Bool.not_eq_false', decide_eq_true_eq] at hz
          rw [if_pos hz] at q
          exact (q H8 (e07.trans e8) : Q .non H8)
      · have fe : decide (ln.form = "each") = false := by
          cases ln with
          | each t x c a => exact absurd ⟨t, x, c, a, rfl⟩ hea
          | move x y => exact absurd ⟨x, y, rfl⟩ hmv
          | row _ _ => exact (by decide +kernel : decide (("row" : Str) = "each") = false)
          | value _ => exact (by decide +kernel : decide (("value" : Str) = "each") = false)
          | need _ _ => exact (by decide +kernel : decide (("need" : Str) = "each") = false)
          | new _ _ _ _ => exact (by decide +kernel : decide (("new" : Str) = "each") = false)
          | set _ _ _ => exact (by decide +kernel : decide (("set" : Str) = "each") = false)
          | take _ => exact (by decide +kernel : decide (("take" : Str) = "each") = false)
        have hF : fitL tabs st ln = none := by
          cases ln with
          | new n t u ts => exact hnew n t u ts rfl
          | each t x c a => exact absurd ⟨t, x, c, a, rfl⟩ hea
          | move x y => exact absurd ⟨x, y, rfl⟩ hmv
          | _ => rfl
        rw [hF] at q
        refine q_when (b := false) (et_is (isf e05 rfl) fe) (fun z => by cases z) fun _ H6 e6 => ?_
        exact s_ret ev_c fun H7 e7 => q H7 (e05.trans (e6.trans e7))
end
end K23

set_option Elab.async false
set_option linter.all false
set_option maxRecDepth 100000
set_option maxHeartbeats 4000000
/-! the law's checks: a line's error, what is known behind it -/
namespace K23
open PySem PySem.Spec PyProof.Rows L2 Evl
theorem putK_upd {l : List (Str × V)} {k : Str} {a b : V} (h : l.lookup k = none) : putK (sd (l ++ [(k, a)])) (.inr k) b = sd (l ++ [(k, b)]) := by
  have hn : ∀ p ∈ l, p.1 ≠ k := by
    intro p hp e
    induction l with
    | nil => cases hp
    | cons q r ih =>
      obtain ⟨g, x⟩ := q
      by_cases z : k = g
      · subst z; simp [List.lookup] at h
      · have z2 : (k == g) = false := beq_eq_false_iff_ne.mpr z
        simp only [List.lookup, z2] at h
        rcases List.mem_cons.mp hp with rfl | hp
        · exact z e.symm
        · exact ih h hp
  unfold putK
  have h1 : ((sd (l ++ [(k, a)])).any fun kv => decide (kv.1 = .inr k)) = true := List.any_eq_true.mpr ⟨(.inr k, a), by unfold sd; simp, decide_eq_true rfl⟩
  rw [if_pos h1]
  unfold sd
  rw [List.map_map, List.map_append, List.map_append]
  congr 1
  · refine List.map_congr_left fun p hp => ?_
    show (if (Sum.inr p.1 : Key) = .inr k then ((Sum.inr p.1 : Key), b) else ((Sum.inr p.1 : Key), p.2)) = _
    rw [if_neg fun z => hn p hp (Sum.inr.inj z)]
  · show [if (Sum.inr k : Key) = .inr k then ((Sum.inr k : Key), b) else ((Sum.inr k : Key), a)] = _
    rw [if_pos rfl]
    rfl
theorem ev_get3 {σ : L2.St} {H : Hp} {ty tx : TE} {f k1 k2 k3 : Str} {v1 v2 v3 d : V} (hk : ([k1, k2, k3] : List Str).Nodup) (hy : Ev ty σ H (.str f)) (hx : Ev tx σ H d) :
    Ev (tDGet2 (tDisp [(tC (.str k1), tC v1), (tC (.str k2), tC v2), (tC (.str k3), tC v3)]) ty tx) σ H ((([(k1, v1), (k2, v2), (k3, v3)] : List (Str × V)).lookup f).getD d) := fun H1 e Q q p hp => by
  refine ⟨upd_same, [(.inr k1, v1), (.inr k2, v2), (.inr k3, v3)], rfl, Nat.le_of_ble_eq_true rfl, p, rfl, Or.inl ⟨_, Or.inl upd_same⟩, ?_⟩
  have hm : mergeK [] [(.inr k1, v1), (.inr k2, v2), (.inr k3, v3)] = sd [(k1, v1), (k2, v2), (k3, v3)] := by
    simp only [List.nodup_cons, List.mem_cons, List.not_mem_nil, or_false, not_or] at hk
    have n1 : ([] : List (Str × V)).lookup k1 = none := rfl
    show putK (putK (putK (sd []) (.inr k1) v1) (.inr k2) v2) (.inr k3) v3 = _
    rw [putK_sd n1, putK_sd (by simp [List.lookup, beq_eq_false_iff_ne.mpr (Ne.symm hk.1.1)]), putK_sd (by simp [List.lookup, beq_eq_false_iff_ne.mpr (Ne.symm hk.1.2), beq_eq_false_iff_ne.mpr (Ne.symm hk.2.1)])]
    rfl
  have e1 : Ex H1 (upd (upd H1 p (.dK [])) p (.dK (mergeK [] [(.inr k1, v1), (.inr k2, v2), (.inr k3, v3)]))) := Ex.mut (Ex.new hp) hp
  refine hy _ (e.trans e1) _ fun H2 e2 => hx H2 (e.trans (e1.trans e2)) _ fun H3 e3 => ?_
  refine ⟨_, DGet.k (k := .inr f) ((e2.trans e3) _ _ upd_same), ?_⟩
  rw [hm, valV_sd]
  exact q H3 (e1.trans (e2.trans e3))
def stg (st : St) : Nat := if 0 < st.np then 3 else if 0 < st.nt then 2 else 1
def Line.stage : Line → Nat
  | .row _ _ => 1
  | .value _ => 1
  | .need _ _ => 2
  | _ => 3
theorem late_stage (st : St) (ln : Line) : ln.late st = decide (ln.stage < stg st) := by
  unfold stg
  cases ln <;> simp only [Line.late, Line.stage] <;> by_cases h1 : 0 < st.np <;> by_cases h2 : 0 < st.nt <;> simp [h1, h2]
theorem stg_step {tabs : Tabs} {st : St} {ln : Line} (h : ln.late st = false) : stg (ln.step tabs st) = ln.stage := by
  unfold stg
  cases ln with
  | row x t => simp only [Line.late, decide_eq_false_iff_not, not_or] at h; simp [Line.step, Line.stage, h]
  | value u => simp only [Line.late, decide_eq_false_iff_not, not_or] at h; simp [Line.step, Line.stage, h]
  | need a b => simp only [Line.late, decide_eq_false_iff_not] at h; simp [Line.step, Line.stage, h]
  | _ => simp [Line.step, Line.stage]
def manyE (st : St) : Line → Option Er
  | .row _ _ => if st.rows.length = 3 then some .many else none
  | _ => none
def orE (a b : Option Er) : Option Er := match a with
  | some e => some e
  | none => b
theorem firstE_one (a : Option Er) : firstE [a] = a := by cases a <;> rfl
theorem checks_eq {tabs : Tabs} {st : St} (k : Kn tabs st) (ln : Line) : firstE (ln.checks tabs st) = orE (orE (firstE (ln.chks.map (errC tabs st))) (fitL tabs st ln)) (manyE st ln) := by
  cases ln with
  | row x t =>
    show firstE [newErr st x, tabErr tabs t, if st.rows.length = 3 then some .many else none] = orE (orE (firstE [newErr st x, tabErr tabs t]) none) (if st.rows.length = 3 then some .many else none)
    generalize (if st.rows.length = 3 then some Er.many else none) = z
    cases newErr st x <;> cases tabErr tabs t <;> cases z <;> rfl
  | value u =>
    show firstE [newErr st u] = orE (orE (firstE [newErr st u]) none) none
    cases newErr st u <;> rfl
  | need a b =>
    show firstE [termErr tabs st a, termErr tabs st b] = orE (orE (firstE [termErr tabs st a, termErr tabs st b]) none) none
    cases termErr tabs st a <;> cases termErr tabs st b <;> rfl
  | new n t u ts =>
    have e1 : (Line.new n t u ts).chks.map (errC tabs st) = [newErr st n, tabErr tabs t] ++ ((u.map (anyErr st)).toList ++ ts.map (termErr tabs st)) := by
      simp only [Line.chks, List.map_append, List.map_map]
      cases u <;> rfl
    have e2 : (Line.new n t u ts).checks tabs st = ([newErr st n, tabErr tabs t] ++ ((u.map (anyErr st)).toList ++ ts.map (termErr tabs st))) ++ [wFit st t (parI tabs (ixT tabs t)) u, if ts.length = (colsI tabs (ixT tabs t)).length then none else some .wcnt] := by
      simp only [Line.checks, List.append_assoc]
      cases u <;> rfl
    rw [e1, e2, firstE_append, fitL_new]
    show _ = orE (orE _ _) none
    cases firstE ([newErr st n, tabErr tabs t] ++ ((u.map (anyErr st)).toList ++ ts.map (termErr tabs st))) with
    | some e => rfl
    | none =>
      show firstE _ = orE (firstE _) none
      cases firstE [wFit st t (parI tabs (ixT tabs t)) u, if ts.length = (colsI tabs (ixT tabs t)).length then none else some Er.wcnt] <;> rfl
  | move x y =>
    show firstE [rowErr st x, anyErr st y, fitL tabs st (.move x y)] = orE (orE (firstE [rowErr st x, anyErr st y]) (fitL tabs st (.move x y))) none
    generalize fitL tabs st (.move x y) = z
    cases rowErr st x <;> cases anyErr st y <;> cases z <;> rfl
  | set x c a =>
    show firstE [rowErr st x, colErr tabs ((anyIx st x).getD 0) c, termErr tabs st a] = orE (orE (firstE [termErr tabs st (.pos x [] c), termErr tabs st a]) none) none
    have e : termErr tabs st (.pos x [] c) = match rowIx st x with | some i => colErr tabs i c | none => some (.unk x) := rfl
    rw [e]
    cases hr : rowIx st x with
    | none =>
      rw [show rowErr st x = some (.unk x) from if_neg (by rw [hr]; decide)]
      rfl
    | some i =>
      rw [show rowErr st x = none from if_pos (by rw [hr]; rfl), k.anyRow hr]
      show firstE [none, colErr tabs i c, termErr tabs st a] = orE (orE (firstE [colErr tabs i c, termErr tabs st a]) none) none
      cases colErr tabs i c <;> cases termErr tabs st a <;> rfl
  | each t x c a =>
    show firstE [tabErr tabs t, anyErr st x, colErr tabs (ixT tabs t) c, termErr tabs st a, fitL tabs st (.each t x c a)] = orE (orE (firstE [tabErr tabs t, anyErr st x, colErr tabs (ixT tabs t) c, termErr tabs st a]) (fitL tabs st (.each t x c a))) none
    generalize fitL tabs st (.each t x c a) = z
    cases tabErr tabs t <;> cases anyErr st x <;> cases colErr tabs (ixT tabs t) c <;> cases termErr tabs st a <;> cases z <;> rfl
  | take x =>
    show firstE [rowErr st x] = orE (orE (firstE [rowErr st x]) none) none
    cases rowErr st x <;> rfl
theorem firstE_all {l : List Chk} {tabs : Tabs} {st : St} (h : firstE (l.map (errC tabs st)) = none) : ∀ ck ∈ l, errC tabs st ck = none := by
  induction l with
  | nil => exact fun _ h => nomatch h
  | cons a r ih =>
    rw [List.map_cons, firstE_cons] at h
    cases he : errC tabs st a with
    | some e => rw [he] at h; cases h
    | none =>
      rw [he] at h
      intro ck hck
      rcases List.mem_cons.mp hck with rfl | hck
      · exact he
      · exact ih h ck hck
def EvM (er : Option Er) (ev : V) (H : Hp) : Prop := match er with
  | none => ev = .non
  | some e => ∃ p, ev = .ref p ∧ H p = some (.tup (errT e))
theorem EvM.mono {er : Option Er} {ev : V} {H H' : Hp} (h : EvM er ev H) (e : Ex H H') : EvM er ev H' := by
  cases er with
  | none => exact h
  | some er =>
    obtain ⟨p, h1, h2⟩ := h
    exact ⟨p, h1, e _ _ h2⟩
theorem EvM.isN {er : Option Er} {ev : V} {H : Hp} (h : EvM er ev H) : decide (ev = .non) = er.isNone := by
  cases er with
  | none => rw [show ev = .non from h]; rfl
  | some er =>
    obtain ⟨p, rfl, _⟩ := h
    rfl
theorem s_asgE {te : TE} {σ : L2.St} {H : Hp} {D : Ends} {i : Nat} {er : Option Er} (h : EvE te σ H er) (k : ∀ ev H1, Ex H H1 → EvM er ev H1 → D.nx (σ.set i (some ev)) H1) : tAsg te (gName i) D σ H := h H (Ex.refl H) _ (by
  cases er with
  | none => exact fun H2 e2 => k _ H2 e2 rfl
  | some e => exact fun p H2 e2 h2 => k _ H2 e2 ⟨p, rfl, h2⟩)
/-- all but what is known is kept -/
def Nk (B : List Addr) (H H' : Hp) : Prop := ∀ b o, b ∉ B → H b = some o → H' b = some o
def spLE : Sp := fun vs H Q _ => ∃ (tb kd r v w wp : Addr) (tabs : Tabs) (st : St) (bad : Bool) (ln : Line), vs = [.ref tb, .ref kd, .ref wp] ∧ H wp = some (.lst ((wordsB bad ln).map V.str)) ∧ ln.ok ∧ WF tabs ∧ TbAt tabs H tb ∧ KnL tabs st (stg st : Nat) kd r v w H ∧ (st.news.map (·.1)).Nodup ∧ st.news.length ≤ 900 ∧ st.vals.length ≤ 900 ∧
  [kd, r, v, w].Nodup ∧ match lineErr tabs st bad ln with
  | none => ∀ H2, Nk [kd, r, v, w] H H2 → KnL tabs (ln.step tabs st) (stg (ln.step tabs st) : Nat) kd r v w H2 → Q .non H2
  | some e => ∀ p H2, Ex H H2 → H2 p = some (.tup (errT e)) → Q (.ref p) H2
end K23

set_option Elab.async false
set_option linter.all false
set_option maxRecDepth 100000
set_option maxHeartbeats 4000000
/-! the law's checks: line_error -/
namespace K23
open PySem PySem.Spec PyProof.Rows L2 Evl
theorem lrows_app (l : List (Str × Nat)) (x : Str) (i : Nat) : lrows (l ++ [(x, i)]) = lrows l ++ [(x, .int (i : Nat))] := by unfold lrows; rw [List.map_append]; rfl
theorem lvals_app (l : List Str) (u : Str) : lvals (l ++ [u]) = lvals l ++ [(u, .int (-1))] := by unfold lvals; rw [List.map_append]; rfl
theorem lvals_none {l : List Str} {u : Str} (h : u ∉ l) : (lvals l).lookup u = none := by
  have := lvals_some u l
  rw [decide_eq_false h] at this
  simpa using this
theorem Nk.ex {B : List Addr} {H H' : Hp} (e : Ex H H') : Nk B H H' := fun b o _ h => e b o h
theorem Nk.trans {B : List Addr} {H H1 H' : Hp} (a : Nk B H H1) (b : Nk B H1 H') : Nk B H H' := fun x o n h => b x o n (a x o n h)
theorem Nk.upd {B : List Addr} {H H' : Hp} {x : Addr} {o : HO} (h : Nk B H H') (hx : x ∈ B) : Nk B H (upd H' x o) := fun b u n hb => by
  rw [upd_ne fun z => n (by rw [z]; exact hx)]
  exact h b u n hb
theorem nk_keep {B : List Addr} {H H' : Hp} {a : Addr} {o : HO} (hB : ∀ b ∈ B, ∃ m, H b = some (.dK m)) (n : Nk B H H') (h : H a = some o) (no : ∀ m, o ≠ .dK m) : H' a = some o :=
  n a o (fun hm => by
    obtain ⟨m, e⟩ := hB a hm
    rw [e] at h
    exact no m (Option.some.inj h).symm) h
theorem TbAt.nk {tabs : Tabs} {a : Addr} {B : List Addr} {H H' : Hp} (h : TbAt tabs H a) (hB : ∀ b ∈ B, ∃ m, H b = some (.dK m)) (n : Nk B H H') : TbAt tabs H' a := by
  obtain ⟨ps, h1, h2, h3⟩ := h.ex
  refine ⟨ps, nk_keep hB n h1 (fun _ z => by cases z), h2, fun i b hb => ?_⟩
  obtain ⟨p, cl, q1, q2, q3⟩ := h3 i b hb
  exact ⟨p, cl, q1, nk_keep hB n q2 (fun _ z => by cases z), nk_keep hB n q3 (fun _ z => by cases z)⟩
def kindS : Line → Str
  | .row _ _ => "rows"
  | .value _ => "values"
  | .new _ _ _ _ => "new"
  | _ => ""
theorem kindS_eq (ln : Line) : ((([("row", .str "rows"), ("value", .str "values"), ("new", .str "new")] : List (Str × V)).lookup ln.form).getD (.str "")) = V.str (kindS ln) := by
  cases ln with
  | row _ _ => exact (by decide +kernel : ((([("row", V.str "rows"), ("value", .str "values"), ("new", .str "new")] : List (Str × V)).lookup ("row" : Str)).getD (.str "")) = V.str "rows")
  | value _ => exact (by decide +kernel : ((([("row", V.str "rows"), ("value", .str "values"), ("new", .str "new")] : List (Str × V)).lookup ("value" : Str)).getD (.str "")) = V.str "values")
  | need _ _ => exact (by decide +kernel : ((([("row", V.str "rows"), ("value", .str "values"), ("new", .str "new")] : List (Str × V)).lookup ("need" : Str)).getD (.str "")) = V.str "")
  | new _ _ _ _ => exact (by decide +kernel : ((([("row", V.str "rows"), ("value", .str "values"), ("new", .str "new")] : List (Str × V)).lookup ("new" : Str)).getD (.str "")) = V.str "new")
  | move _ _ => exact (by decide +kernel : ((([("row", V.str "rows"), ("value", .str "values"), ("new", .str "new")] : List (Str × V)).lookup ("move" : Str)).getD (.str "")) = V.str "")
  | set _ _ _ => exact (by decide +kernel : ((([("row", V.str "rows"), ("value", .str "values"), ("new", .str "new")] : List (Str × V)).lookup ("set" : Str)).getD (.str "")) = V.str "")
  | each _ _ _ _ => exact (by decide +kernel : ((([("row", V.str "rows"), ("value", .str "values"), ("new", .str "new")] : List (Str × V)).lookup ("each" : Str)).getD (.str "")) = V.str "")
  | take _ => exact (by decide +kernel : ((([("row", V.str "rows"), ("value", .str "values"), ("new", .str "new")] : List (Str × V)).lookup ("take" : Str)).getD (.str "")) = V.str "")
section
variable {P : Program} {w : World} {K : PySem.W.Frag} {mg : Str → Option Value} {base : Heap}
theorem ok_law_line_error (T : Txt K mg) : CalX P w K mg base CX0 9 "_law_line_error" ["_law_tables", "_law_known", "_law_words"] spLE := by
  have c_law_line_names := ok_law_line_names (P := P) (w := w) (base := base) T
  have c_law_fit_error := ok_law_fit_error (P := P) (w := w) (base := base) T
  obtain ⟨fd, F⟩ := T.f_law_line_error
  refine ⟨_, fd, F.ok sc_law_line_error (fun vs H Q E h => ?_) (fun cdv A outer s H vs Q E hr h => ?_), T.g_law_line_error, F.kp, F.bindsN fun _ _ _ _ _ _ us hl => match us, hl with | [_, _, _], _ => rfl⟩
  · obtain ⟨tb, kd, r, v, w, wp, tabs, st, bad, ln, rfl, _⟩ := h; rfl
  · obtain ⟨tb, kd, r, v, w, wp, tabs, st, bad, ln, rfl, hw, ok, W, TB, k, hnd, hnl, hvl, hdis, q⟩ := h
    refine ⟨_, (PSs.nox (pss_cons (ps_set (i := 3) sc_law_line_error.nd rfl (by first | exact Or.inl rfl | exact Or.inr rfl) (pe_dget2 (hu_of hr) (pe_disp (pps_cons pe_str pe_int (pps_cons pe_str pe_int (pps_cons pe_str pe_int pps_nil))) (by rfl) (by rfl) (fun z => by cases z) (by decide)) (pe_ix ix_list (pv 2) pe_int (fun _ _ => rfl)) pe_int ⟨rfl, rfl, rfl, rfl⟩))
        (pss_cons (ps_if (PW.pt (pw_or (pt_cmpR op_eq (pe_ix ix_list (pv 2) pe_int (fun _ _ => rfl)) pe_str (nomark _)) (pw_or (pt_cmpR op_eq (pe_ix ix_list (pv 2) pe_int (fun _ _ => rfl)) pe_str (nomark _)) (pw_or1 (pt_cmpR op_lt (pv 3) (pe_dget (hu_of hr) (pv 1) pe_str (fun _ _ => rfl)) (nomark _)))))) (pss_one (ps_ret (pe_tup (pa_cons pe_str pa_nil)))) pss_nil)
        (pss_cut (ps_set (i := 4) sc_law_line_error.nd rfl (by first | exact Or.inl rfl | exact Or.inr rfl) (pe_cx c_law_line_names hr (by decide) pass0 (pa_cons (pv 0) (pa_cons (pv 1) (pa_cons (pv 2) pa_nil)))))
        (pss_cut (ps_if (pt_cmp (pc_isN (pv 4))) (pss_one (ps_set (i := 4) sc_law_line_error.nd rfl (by first | exact Or.inl rfl | exact Or.inr rfl) (pe_cx c_law_fit_error hr (by decide) pass0 (pa_cons (pv 0) (pa_cons (pv 1) (pa_cons (pv 2) pa_nil)))))) pss_nil)
        (pss_cut (ps_if (PW.pt (pw_and (pt_cmp (pc_isN (pv 4))) (pw_and (pt_cmpR op_eq (pe_ix ix_list (pv 2) pe_int (fun _ _ => rfl)) pe_str (nomark _)) (pw_and1 (pt_cmpR op_eq (pe_callB call_lenD (by rfl) T.b_len PySem.boot_len (pa_cons (pe_dget (hu_of hr) (pv 1) pe_str (fun _ _ => rfl)) pa_nil)) pe_int (nomark _)))))) (pss_one (ps_set (i := 4) sc_law_line_error.nd rfl (by first | exact Or.inl rfl | exact Or.inr rfl) (pe_tup (pa_cons pe_str pa_nil)))) pss_nil)
        (pss_cons (ps_if (pt_cmp (pc_isN (pv 4))) (pss_cons (ps_dput (hu_of hr) (pv 1) pe_str (pv 3) rfl)
        (pss_cons (ps_set (i := 5) sc_law_line_error.nd rfl (by first | exact Or.inl rfl | exact Or.inr rfl) (pe_dget2 (hu_of hr) (pe_disp (pps_cons pe_str pe_str (pps_cons pe_str pe_str (pps_cons pe_str pe_str pps_nil))) (by rfl) (by rfl) (fun z => by cases z) (by decide)) (pe_ix ix_list (pv 2) pe_int (fun _ _ => rfl)) pe_str ⟨rfl, rfl, rfl, rfl⟩))
        (pss_one (ps_if (pt_cmpR op_ne (pv 5) pe_str (nomark _)) (pss_cons (ps_set (i := 6) sc_law_line_error.nd rfl (by first | exact Or.inl rfl | exact Or.inr rfl) (pe_dget (hu_of hr) (pv 1) (pv 5) (fun _ _ => rfl)))
        (pss_cons (ps_dput (hu_of hr) (pv 6) (pe_ix ix_list (pv 2) pe_int (fun _ _ => rfl)) (pe_un un_neg pe_int) rfl)
        (pss_one (ps_for PassesOwn.never rfl (pi_range1 (by rfl) T.b_range (pa_cons (pe_callB call_lenL (by rfl) T.b_len PySem.boot_len (pa_cons (pv 0) pa_nil)) pa_nil)) (pg_name (i := 7) sc_law_line_error.nd rfl (by first | exact Or.inl rfl | exact Or.inr rfl)) (pss_one (ps_if (PW.pt (pw_and (pt_cmpR op_ne (pv 5) pe_str (nomark _)) (pw_and1 (pt_cmpR op_eq (pe_ix ix_tup (pe_ix ix_list (pv 0) (pv 7) (fun _ _ => rfl)) pe_int (fun _ _ => rfl)) (pe_ix ix_list (pv 2) pe_int (fun _ _ => rfl)) (nomark _))))) (pss_one (ps_dput (hu_of hr) (pv 6) (pe_ix ix_list (pv 2) pe_int (fun _ _ => rfl)) (pv 7) rfl)) pss_nil)))))) pss_nil)))) pss_nil)
        (pss_one (ps_ret (pv 4)))))))))), ?_⟩
    have few := W.few
    obtain ⟨tps, htb, htl, _⟩ := TB.ex
    obtain ⟨rest, hhead⟩ := wordsB_head bad ln
    have W0 : ((wordsB bad ln).map V.str)[0]? = some (.str (formB bad ln)) := by rw [hhead]; rfl
    let sN : Nat := if bad = true then 3 else ln.stage
    have hsN : ((([("row", .int 1), ("value", .int 1), ("need", .int 2)] : List (Str × V)).lookup (formB bad ln)).getD (.int 3)) = V.int (sN : Nat) := by
      cases bad with
      | true => show ((([("row", V.int 1), ("value", .int 1), ("need", .int 2)] : List (Str × V)).lookup ("bad" : Str)).getD (.int 3)) = V.int 3; decide +kernel
      | false =>
        show ((([("row", V.int 1), ("value", .int 1), ("need", .int 2)] : List (Str × V)).lookup ln.form).getD (.int 3)) = V.int (ln.stage : Nat)
        cases ln with
        | row _ _ => exact (by decide +kernel : ((([("row", V.int 1), ("value", .int 1), ("need", .int 2)] : List (Str × V)).lookup ("row" : Str)).getD (.int 3)) = V.int 1)
        | value _ => exact (by decide +kernel : ((([("row", V.int 1), ("value", .int 1), ("need", .int 2)] : List (Str × V)).lookup ("value" : Str)).getD (.int 3)) = V.int 1)
        | need _ _ => exact (by decide +kernel : ((([("row", V.int 1), ("value", .int 1), ("need", .int 2)] : List (Str × V)).lookup ("need" : Str)).getD (.int 3)) = V.int 2)
        | new _ _ _ _ => exact (by decide +kernel : ((([("row", V.int 1), ("value", .int 1), ("need", .int 2)] : List (Str × V)).lookup ("new" : Str)).getD (.int 3)) = V.int 3)
        | move _ _ => exact (by decide +kernel : ((([("row", V.int 1), ("value", .int 1), ("need", .int 2)] : List (Str × V)).lookup ("move" : Str)).getD (.int 3)) = V.int 3)
        | set _ _ _ => exact (by decide +kernel : ((([("row", V.int 1), ("value", .int 1), ("need", .int 2)] : List (Str × V)).lookup ("set" : Str)).getD (.int 3)) = V.int 3)
        | each _ _ _ _ => exact (by decide +kernel : ((([("row", V.int 1), ("value", .int 1), ("need", .int 2)] : List (Str × V)).lookup ("each" : Str)).getD (.int 3)) = V.int 3)
        | take _ => exact (by decide +kernel : ((([("row", V.int 1), ("value", .int 1), ("need", .int 2)] : List (Str × V)).lookup ("take" : Str)).getD (.int 3)) = V.int 3)
    refine q_asg (v := .int (sN : Nat)) (ev_is (ev_get3 (f := formB bad ln) (by decide +kernel) (ev_ix 0 rfl hw W0) ev_c) hsN) fun H1 e1 => ?_
    have k1 := k.mono e1
    have isf : ∀ {H' : Hp} {g : Str} {σ : L2.St}, Ex H H' → σ[2]? = some (some (.ref wp)) → EvT (tTest (tOp rEq (tOp (rIxL K) (tVar 2) (tC (.int 0))) (tC (.str g)))) σ H' (decide (formB bad ln = g)) := fun e hs => et_is (et_test (ev_op (ev_ix 0 hs (e _ _ hw) W0) ev_c (rv_eq rfl))) (dec_str _ _)
    have fbad : decide (formB bad ln = "bad") = bad := by
      cases bad with
      | true => rfl
      | false =>
        show decide (ln.form = "bad") = false
        cases ln with
        | row _ _ => exact (by decide +kernel : decide (("row" : Str) = "bad") = false)
        | value _ => exact (by decide +kernel : decide (("value" : Str) = "bad") = false)
        | need _ _ => exact (by decide +kernel : decide (("need" : Str) = "bad") = false)
        | new _ _ _ _ => exact (by decide +kernel : decide (("new" : Str) = "bad") = false)
        | move _ _ => exact (by decide +kernel : decide (("move" : Str) = "bad") = false)
        | set _ _ _ => exact (by decide +kernel : decide (("set" : Str) = "bad") = false)
        | each _ _ _ _ => exact (by decide +kernel : decide (("each" : Str) = "bad") = false)
        | take _ => exact (by decide +kernel : decide (("take" : Str) = "bad") = false)
    have fhan : decide (formB bad ln = "handler") = false := by
      cases bad with
      | true => exact (by decide +kernel : decide (("bad" : Str) = "handler") = false)
      | false =>
        show decide (ln.form = "handler") = false
        cases ln with
        | row _ _ => exact (by decide +kernel : decide (("row" : Str) = "handler") = false)
        | value _ => exact (by decide +kernel : decide (("value" : Str) = "handler") = false)
        | need _ _ => exact (by decide +kernel : decide (("need" : Str) = "handler") = false)
        | new _ _ _ _ => exact (by decide +kernel : decide (("new" : Str) = "handler") = false)
        | move _ _ => exact (by decide +kernel : decide (("move" : Str) = "handler") = false)
        | set _ _ _ => exact (by decide +kernel : decide (("set" : Str) = "handler") = false)
        | each _ _ _ _ => exact (by decide +kernel : decide (("each" : Str) = "handler") = false)
        | take _ => exact (by decide +kernel : decide (("take" : Str) = "handler") = false)
    refine q_when (b := bad || ln.late st) (et_is (et_or (isf e1 rfl) fun hb => et_is (et_or (isf e1 rfl) fun _ => et_test (ev_op (ev_var rfl) (ev_ks k1 (ev_var rfl)) rv_I0)) (by rw [fhan, Bool.false_or])) ?_) (fun hz H2 e2 => ?_) fun hz H2 e2 => ?_
    · rw [fbad]
      cases bad with
      | true => rfl
      | false =>
        show (false || decide (((ln.stage : Nat) : Int) < ((stg st : Nat) : Int))) = (false || ln.late st)
        rw [late_stage]
        congr 1
        by_cases z : ln.stage < stg st
        · rw [decide_eq_true z]; exact decide_eq_true (by omega)
        · rw [decide_eq_false z]; exact decide_eq_false (by omega)
    · have hE : lineErr tabs st bad ln = some .bad := if_pos (by simpa using hz)
      rw [hE] at q
      exact s_retE (er := some .bad) (eve_tup (ea_cons ev_c ea_nil) rfl) (fun p H3 e3 h3 => q p H3 (e1.trans (e2.trans e3)) h3)
    rw [Bool.or_eq_false_iff] at hz
    obtain ⟨rfl, hlate⟩ := hz
    have hE : lineErr tabs st false ln = orE (orE (firstE (ln.chks.map (errC tabs st))) (fitL tabs st ln)) (manyE st ln) := by rw [← checks_eq k.kn]; exact if_neg (by rw [hlate]; intro z; rcases z with z | z <;> cases z)
    rw [hE] at q
    have hw' : H wp = some (.lst (ln.words.map V.str)) := hw
    have e02 := e1.trans e2
    generalize hE1 : firstE (ln.chks.map (errC tabs st)) = er1 at q
    -- names
    refine q_cut (M := fun σ' H' => ∃ ev, σ' = [some (.ref tb), some (.ref kd), some (.ref wp), some (.int (sN : Nat)), some ev, none, none, none] ∧ Ex H H' ∧ EvM er1 ev H') ?_ ?_
    · exact s_asgE (er := er1) (eve_call (vs := [.ref tb, .ref kd, .ref wp]) (ea_cons (ev_var rfl) (ea_cons (ev_var rfl) (ea_cons (ev_var rfl) ea_nil))) fun H3 e3 Q3 q3 => ⟨tb, kd, r, v, w, wp, tabs, st, _, ln, rfl, (e02.trans e3) _ _ hw', ok, W, TB.mono (e02.trans e3), k.mono (e02.trans e3), by rw [hE1]; exact q3⟩) fun ev H3 e3 hv => ⟨ev, rfl, e02.trans e3, hv⟩
    rintro σ3 H3 ⟨ev3, rfl, e03, hv3⟩
    generalize hE2 : orE er1 (fitL tabs st ln) = er2 at q
    refine q_cut (M := fun σ' H' => ∃ ev, σ' = [some (.ref tb), some (.ref kd), some (.ref wp), some (.int (sN : Nat)), some ev, none, none, none] ∧ Ex H H' ∧ EvM er2 ev H') ?_ ?_
    · refine s_when (b := er1.isNone) (et_is (et_isN (ev_var rfl)) hv3.isN) (fun hb H4 e4 => ?_) fun hb H4 e4 => ?_
      · have z1 : er1 = none := by simpa using hb
        subst z1
        exact s_asgE (er := er2) (eve_call (vs := [.ref tb, .ref kd, .ref wp]) (ea_cons (ev_var rfl) (ea_cons (ev_var rfl) (ea_cons (ev_var rfl) ea_nil))) fun H5 e5 Q5 q5 => ⟨tb, kd, r, v, w, wp, tabs, st, _, ln, rfl, (e03.trans (e4.trans e5)) _ _ hw', ok, W, TB.mono (e03.trans (e4.trans e5)), k.mono (e03.trans (e4.trans e5)), hnd, by omega, firstE_all hE1, by rw [show fitL tabs st ln = er2 from hE2]; exact q5⟩) fun ev H5 e5 hv => ⟨ev, rfl, e03.trans (e4.trans e5), hv⟩
      · refine ⟨ev3, rfl, e03.trans e4, ?_⟩
        cases er1 with
        | none => cases hb
        | some e => rw [← hE2]; exact hv3.mono e4
    rintro σ4 H4 ⟨ev4, rfl, e04, hv4⟩
    generalize hE3 : orE er2 (manyE st ln) = er3 at q
    refine q_cut (M := fun σ' H' => ∃ ev, σ' = [some (.ref tb), some (.ref kd), some (.ref wp), some (.int (sN : Nat)), some ev, none, none, none] ∧ Ex H H' ∧ EvM er3 ev H') ?_ ?_
    · have k4 := k.mono e04
      have hlenD : Ev (tCB (fun xs H Q => ∃ a kvs, xs = [V.ref a] ∧ H a = some (.dK kvs) ∧ Q (.int kvs.length) H) (tCons (tDGet (tVar 1) (tC (.str "rows"))) tNil)) [some (.ref tb), some (.ref kd), some (.ref wp), some (.int (sN : Nat)), some ev4, none, none, none] H4 (.int (st.rows.length : Int)) := by
        refine ev_is (ev_cb (ea_cons (ev_kr k4 (ev_var rfl)) ea_nil) (fun H5 e5 Q2 q2 => ⟨r, _, rfl, e5 _ _ k4.r, q2 H5 (Ex.refl H5)⟩)) ?_
        rw [sd_len]
        unfold lrows
        rw [List.length_map]
      refine s_when (b := er2.isNone && (decide (ln.form = "row") && decide (st.rows.length = 3))) (et_is (et_and (et_is (et_isN (ev_var rfl)) hv4.isN) fun _ => et_and (isf e04 rfl) fun _ => et_test (ev_op hlenD ev_c (rv_eq rfl))) ?_) (fun hb H5 e5 => ?_) fun hb H5 e5 => ?_
      · congr 2
        by_cases z : st.rows.length = 3
        · rw [decide_eq_true z]; exact decide_eq_true (by rw [z]; rfl)
        · rw [decide_eq_false z]; exact decide_eq_false fun y => z (by have := V.int.inj y; omega)
      · rw [Bool.and_eq_true, Bool.and_eq_true, decide_eq_true_eq] at hb
        have z1 : er2 = none := by simpa using hb.1
        subst z1
        have z3 : er3 = some .many := by
          rw [← hE3]
          cases ln with
          | row x t => exact if_pos (by simpa using hb.2.2)
          | value _ => exact absurd (show ("value" : Str) = "row" from hb.2.1) (by decide +kernel)
          | need _ _ => exact absurd (show ("need" : Str) = "row" from hb.2.1) (by decide +kernel)
          | new _ _ _ _ => exact absurd (show ("new" : Str) = "row" from hb.2.1) (by decide +kernel)
          | move _ _ => exact absurd (show ("move" : Str) = "row" from hb.2.1) (by decide +kernel)
          | set _ _ _ => exact absurd (show ("set" : Str) = "row" from hb.2.1) (by decide +kernel)
          | each _ _ _ _ => exact absurd (show ("each" : Str) = "row" from hb.2.1) (by decide +kernel)
          | take _ => exact absurd (show ("take" : Str) = "row" from hb.2.1) (by decide +kernel)
        exact s_asgE (er := er3) (z3 ▸ eve_tup (ea_cons ev_c ea_nil) rfl) fun ev H6 e6 hv => ⟨ev, rfl, e04.trans (e5.trans e6), hv⟩
      · refine ⟨ev4, rfl, e04.trans e5, ?_⟩
        have z3 : er3 = er2 := by
          rw [← hE3]
          cases er2 with
          | some e => rfl
          | none =>
            cases ln with
            | row x t => exact if_neg fun z => by rw [show decide (Line.form (.row x t) = "row") = true from decide_eq_true rfl, decide_eq_true z] at hb; cases hb
            | _ => rfl
        rw [z3]
        exact hv4.mono e5
    rintro σ5 H5 ⟨ev5, rfl, e05, hv5⟩
    cases her : er3 with
    | some e =>
      subst her
      obtain ⟨p, rfl, hp⟩ := hv5
      refine q_when (b := false) (et_isN (x := .ref p) (ev_var rfl)) (fun z => by cases z) fun _ H6 e6 => ?_
      exact s_ret (ev_var rfl) fun H7 e7 => q p H7 (e05.trans (e6.trans e7)) ((e6.trans e7) _ _ hp)
    | none =>
    subst her
    obtain rfl : ev5 = .non := hv5
    have hB : ∀ b ∈ [kd, r, v, w], ∃ m, H b = some (.dK m) := by
      intro b hb
      simp only [List.mem_cons, List.not_mem_nil, or_false] at hb
      rcases hb with rfl | rfl | rfl | rfl
      · exact ⟨_, k.kd⟩
      · exact ⟨_, k.r⟩
      · exact ⟨_, k.v⟩
      · exact ⟨_, k.w⟩
    simp only [List.nodup_cons, List.mem_cons, List.not_mem_nil, or_false, not_or, not_false_eq_true, List.nodup_nil, and_true] at hdis
    obtain ⟨⟨dkr, dkv, dkw⟩, ⟨drv, drw⟩, dvw⟩ := hdis
    have hsg : sN = stg (ln.step tabs st) := (stg_step hlate).symm
    refine q_when (b := true) (et_isN (x := .non) (ev_var rfl)) (fun _ H6 e6 => ?_) (fun z => by cases z)
    have e06 := e05.trans e6
    have k6 := k.mono e06
    refine q_put (l := [("rows", .ref r), ("values", .ref v), ("new", .ref w), ("stage", .int (stg st : Nat))]) (m := sd [("rows", .ref r), ("values", .ref v), ("new", .ref w), ("stage", .int (sN : Nat))]) (ev_var rfl) (ev_var rfl) ev_c k6.kd (Nat.le_of_ble_eq_true rfl) (putK_upd (l := [("rows", .ref r), ("values", .ref v), ("new", .ref w)]) rfl) fun H7 e7 => ?_
    have e07 := e06.trans e7
    have k7 := k.mono e07
    have N8 : Nk [kd, r, v, w] H (upd H7 kd (.dK (sd [("rows", .ref r), ("values", .ref v), ("new", .ref w), ("stage", .int (sN : Nat))]))) := (Nk.ex e07).upd (by simp)
    have kd8 : upd H7 kd (.dK (sd [("rows", .ref r), ("values", .ref v), ("new", .ref w), ("stage", .int (sN : Nat))])) kd = some (.dK (sd [("rows", .ref r), ("values", .ref v), ("new", .ref w), ("stage", .int (sN : Nat))])) := upd_same
    have r8 : upd H7 kd (.dK (sd [("rows", .ref r), ("values", .ref v), ("new", .ref w), ("stage", .int (sN : Nat))])) r = some (.dK (sd (lrows st.rows))) := by rw [upd_ne (Ne.symm dkr)]; exact k7.r
    have v8 : upd H7 kd (.dK (sd [("rows", .ref r), ("values", .ref v), ("new", .ref w), ("stage", .int (sN : Nat))])) v = some (.dK (sd (lvals st.vals))) := by rw [upd_ne (Ne.symm dkv)]; exact k7.v
    have w8 : upd H7 kd (.dK (sd [("rows", .ref r), ("values", .ref v), ("new", .ref w), ("stage", .int (sN : Nat))])) w = some (.dK (sd (lrows st.news))) := by rw [upd_ne (Ne.symm dkw)]; exact k7.w
    generalize upd H7 kd (.dK (sd [("rows", .ref r), ("values", .ref v), ("new", .ref w), ("stage", .int (sN : Nat))])) = H8 at N8 kd8 r8 v8 w8 ⊢
    have hwN : ∀ {H' : Hp}, Nk [kd, r, v, w] H H' → H' wp = some (.lst (ln.words.map V.str)) := fun n => nk_keep hB n hw' (fun _ z => by cases z)
    have W0' : (ln.words.map V.str)[0]? = some (.str ln.form) := W0
    refine q_asg (v := .str (kindS ln)) (ev_is (ev_get3 (f := ln.form) (by decide +kernel) (ev_ix 0 rfl (hwN N8) W0') ev_c) (kindS_eq ln)) fun H9 e9 => ?_
    have N9 := N8.trans (Nk.ex e9)
    have z2 : er2 = none := by
      cases er2 with
      | none => rfl
      | some e => cases hE3
    have z1 : er1 = none := by
      rw [z2] at hE2
      cases er1 with
      | none => rfl
      | some e => cases hE2
    have allN := firstE_all (hE1.trans z1)
    have done : ∀ H', Nk [kd, r, v, w] H H' → KnL tabs (ln.step tabs st) (stg (ln.step tabs st) : Nat) kd r v w H' → ∀ {σ' : L2.St}, σ'[4]? = some (some .non) → tRet (tVar 4) { nx := fun _ H' => Q .non H', rt := Q } σ' H' := fun H' n kk σ' hs => s_ret (ev_var hs) fun H2 e2 => q H2 (n.trans (Nk.ex e2)) (kk.mono e2)
    cases ln with
    | row x t =>
      have hwx : ((Line.row x t).words.map V.str)[1]? = some (.str x) := rfl
      have hwt : ((Line.row x t).words.map V.str)[3]? = some (.str t) := rfl
      have hf := tab_some (allN (.table t) (by simp [Line.chks]))
      have hnew := newErr_none (show newErr st x = none from allN (.fresh x) (by simp [Line.chks]))
      refine s_when (b := true) (et_is (et_test (ev_op (ev_var rfl) ev_c (rv_ne rfl))) (by decide +kernel : (!decide (V.str "rows" = V.str "")) = true)) (fun _ H10 e10 => ?_) (fun z => by cases z)
      have N10 := N9.trans (Nk.ex e10)
      have e810 := e9.trans e10
      refine q_asg (v := .ref r) (ev_dget (ev_var rfl) (ev_var rfl) (e810 _ _ kd8) rfl) fun H11 e11 => ?_
      have e811 := e810.trans e11
      refine q_put (l := lrows st.rows) (v := .int (-1)) (ev_un ev_c ru_neg) (ev_var rfl) (ev_ix 1 rfl (hwN (N10.trans (Nk.ex e11))) hwx) (e811 _ _ r8) (by unfold lrows; rw [List.length_map]; have := k.kn.rl; omega) (putK_sd (by rw [lrows_lk, hnew.2.1]; rfl)) fun H12 e12 => ?_
      have e812 := e811.trans e12
      refine s_forR1 (n := (tabs.length : Nat)) (ea_cons (ev_is (ev_len (ev_var rfl) (sq_of (nk_keep hB ((N10.trans (Nk.ex (e11.trans e12))).upd (by simp)) htb (fun _ z => by cases z)))) (by rw [List.length_map, htl])) ea_nil) (by omega) (fun kk σ' H' => ∃ o7 : Option V, σ' = [some (.ref tb), some (.ref kd), some (.ref wp), some (.int (sN : Nat)), some .non, some (.str "rows"), some (.ref r), o7] ∧ Nk [kd, r, v, w] H H' ∧ H' kd = some (.dK (sd [("rows", .ref r), ("values", .ref v), ("new", .ref w), ("stage", .int (sN : Nat))])) ∧
        H' r = some (.dK (sd (lrows st.rows ++ [(x, .int (if ixT tabs t < kk then (ixT tabs t : Nat) else -1))]))) ∧ H' v = some (.dK (sd (lvals st.vals))) ∧ H' w = some (.dK (sd (lrows st.news)))) ?_ ?_ ?_
      · intro H13 e13
        refine ⟨none, rfl, ((N10.trans (Nk.ex (e11.trans e12))).upd (by simp)).trans (Nk.ex e13), e13 _ _ ?_, e13 _ _ ?_, e13 _ _ ?_, e13 _ _ ?_⟩
        · rw [upd_ne dkr]; exact e812 _ _ kd8
        · rw [upd_same, if_neg (Nat.not_lt_zero _)]
        · rw [upd_ne (Ne.symm drv)]; exact e812 _ _ v8
        · rw [upd_ne (Ne.symm drw)]; exact e812 _ _ w8
      · rintro kk σ' H' hkk ⟨o7, rfl, N13, kd13, td13, o13, p13⟩
        have hkl : kk < tabs.length := by omega
        obtain ⟨b, hb, hnb⟩ := tab_at hkl
        refine s_when (b := decide (nameI tabs kk = t)) (et_is (et_and (et_test (ev_op (ev_var rfl) ev_c (rv_ne rfl))) fun _ => et_test (ev_op (ev_tb0 (TB.nk hB N13) hb (ev_var rfl) (ev_var rfl)) (ev_ix 3 rfl (hwN N13) hwt) (rv_eq rfl))) (by rw [(by decide +kernel : (!decide (V.str "rows" = V.str "values")) = true), Bool.true_and, dec_str, hnb])) (fun hz H14 e14 => ?_) fun hz H14 e14 => ?_
        · have hz2 : nameI tabs kk = t := of_decide_eq_true hz
          have hix : ixT tabs t = kk := by rw [← hz2]; exact (ix_name W.nod hkl).1
          refine s_put (l := lrows st.rows ++ [(x, .int (if ixT tabs t < kk then (ixT tabs t : Nat) else -1))]) (v := .int (kk : Nat)) (ev_var rfl) (ev_var rfl) (ev_ix 1 rfl (hwN (N13.trans (Nk.ex e14))) hwx) (e14 _ _ td13) (by unfold lrows; rw [List.length_append, List.length_map]; have := k.kn.rl; simp; omega) (putK_upd (by rw [lrows_lk, hnew.2.1]; rfl)) fun H15 e15 => ?_
          have e1415 := e14.trans e15
          refine ⟨_, rfl, (N13.trans (Nk.ex e1415)).upd (by simp), ?_, ?_, ?_, ?_⟩
          · rw [upd_ne dkr]; exact e1415 _ _ kd13
          · rw [upd_same, hix, if_pos (Nat.lt_succ_self _)]
          · rw [upd_ne (Ne.symm drv)]; exact e1415 _ _ o13
          · rw [upd_ne (Ne.symm drw)]; exact e1415 _ _ p13
        · have hz2 : ¬ nameI tabs kk = t := of_decide_eq_false hz
          have hix : ixT tabs t ≠ kk := fun z => hz2 (by rw [← z]; exact name_ix hf)
          refine ⟨_, rfl, N13.trans (Nk.ex e14), e14 _ _ kd13, ?_, e14 _ _ o13, e14 _ _ p13⟩
          rw [e14 _ _ td13]
          have : (ixT tabs t < kk + 1) = (ixT tabs t < kk) := by rw [eq_iff_iff]; omega
          simp only [this]
      · rintro σ' H' ⟨o7, rfl, N13, kd13, td13, o13, p13⟩
        rw [Int.toNat_natCast, if_pos (find_lt hf)] at td13
        exact done H' N13 ⟨k.kn.addRow ok.1 (find_lt hf) (show newErr st x = none from allN (.fresh x) (by simp [Line.chks])) (fun z => by rw [show manyE st (.row x t) = some .many from if_pos z] at hE3; cases er2 <;> cases hE3), by rw [← hsg]; exact kd13, by show H' r = some (.dK (sd (lrows (st.rows ++ [(x, ixT tabs t)])))); rw [lrows_app]; exact td13, o13, p13⟩ rfl
    | new x t u ts =>
      have hwx : ((Line.new x t u ts).words.map V.str)[1]? = some (.str x) := by cases u <;> rfl
      have hwt : ((Line.new x t u ts).words.map V.str)[3]? = some (.str t) := by cases u <;> rfl
      have hf := tab_some (allN (.table t) (by simp [Line.chks]))
      have hnew := newErr_none (show newErr st x = none from allN (.fresh x) (by simp [Line.chks]))
      refine s_when (b := true) (et_is (et_test (ev_op (ev_var rfl) ev_c (rv_ne rfl))) (by decide +kernel : (!decide (V.str "new" = V.str "")) = true)) (fun _ H10 e10 => ?_) (fun z => by cases z)
      have N10 := N9.trans (Nk.ex e10)
      have e810 := e9.trans e10
      refine q_asg (v := .ref w) (ev_dget (ev_var rfl) (ev_var rfl) (e810 _ _ kd8) rfl) fun H11 e11 => ?_
      have e811 := e810.trans e11
      refine q_put (l := lrows st.news) (v := .int (-1)) (ev_un ev_c ru_neg) (ev_var rfl) (ev_ix 1 rfl (hwN (N10.trans (Nk.ex e11))) hwx) (e811 _ _ w8) (by unfold lrows; rw [List.length_map]; have := k.kn.rl; omega) (putK_sd (by rw [lrows_lk, hnew.2.2.2]; rfl)) fun H12 e12 => ?_
      have e812 := e811.trans e12
      refine s_forR1 (n := (tabs.length : Nat)) (ea_cons (ev_is (ev_len (ev_var rfl) (sq_of (nk_keep hB ((N10.trans (Nk.ex (e11.trans e12))).upd (by simp)) htb (fun _ z => by cases z)))) (by rw [List.length_map, htl])) ea_nil) (by omega) (fun kk σ' H' => ∃ o7 : Option V, σ' = [some (.ref tb), some (.ref kd), some (.ref wp), some (.int (sN : Nat)), some .non, some (.str "new"), some (.ref w), o7] ∧ Nk [kd, r, v, w] H H' ∧ H' kd = some (.dK (sd [("rows", .ref r), ("values", .ref v), ("new", .ref w), ("stage", .int (sN : Nat))])) ∧
        H' w = some (.dK (sd (lrows st.news ++ [(x, .int (if ixT tabs t < kk then (ixT tabs t : Nat) else -1))]))) ∧ H' r = some (.dK (sd (lrows st.rows))) ∧ H' v = some (.dK (sd (lvals st.vals)))) ?_ ?_ ?_
      · intro H13 e13
        refine ⟨none, rfl, ((N10.trans (Nk.ex (e11.trans e12))).upd (by simp)).trans (Nk.ex e13), e13 _ _ ?_, e13 _ _ ?_, e13 _ _ ?_, e13 _ _ ?_⟩
        · rw [upd_ne dkw]; exact e812 _ _ kd8
        · rw [upd_same, if_neg (Nat.not_lt_zero _)]
        · rw [upd_ne drw]; exact e812 _ _ r8
        · rw [upd_ne dvw]; exact e812 _ _ v8
      · rintro kk σ' H' hkk ⟨o7, rfl, N13, kd13, td13, o13, p13⟩
        have hkl : kk < tabs.length := by omega
        obtain ⟨b, hb, hnb⟩ := tab_at hkl
        refine s_when (b := decide (nameI tabs kk = t)) (et_is (et_and (et_test (ev_op (ev_var rfl) ev_c (rv_ne rfl))) fun _ => et_test (ev_op (ev_tb0 (TB.nk hB N13) hb (ev_var rfl) (ev_var rfl)) (ev_ix 3 rfl (hwN N13) hwt) (rv_eq rfl))) (by rw [(by decide +kernel : (!decide (V.str "new" = V.str "values")) = true), Bool.true_and, dec_str, hnb])) (fun hz H14 e14 => ?_) fun hz H14 e14 => ?_
        · have hz2 : nameI tabs kk = t := of_decide_eq_true hz
          have hix : ixT tabs t = kk := by rw [← hz2]; exact (ix_name W.nod hkl).1
          refine s_put (l := lrows st.news ++ [(x, .int (if ixT tabs t < kk then (ixT tabs t : Nat) else -1))]) (v := .int (kk : Nat)) (ev_var rfl) (ev_var rfl) (ev_ix 1 rfl (hwN (N13.trans (Nk.ex e14))) hwx) (e14 _ _ td13) (by unfold lrows; rw [List.length_append, List.length_map]; have := k.kn.rl; simp; omega) (putK_upd (by rw [lrows_lk, hnew.2.2.2]; rfl)) fun H15 e15 => ?_
          have e1415 := e14.trans e15
          refine ⟨_, rfl, (N13.trans (Nk.ex e1415)).upd (by simp), ?_, ?_, ?_, ?_⟩
          · rw [upd_ne dkw]; exact e1415 _ _ kd13
          · rw [upd_same, hix, if_pos (Nat.lt_succ_self _)]
          · rw [upd_ne drw]; exact e1415 _ _ o13
          · rw [upd_ne dvw]; exact e1415 _ _ p13
        · have hz2 : ¬ nameI tabs kk = t := of_decide_eq_false hz
          have hix : ixT tabs t ≠ kk := fun z => hz2 (by rw [← z]; exact name_ix hf)
          refine ⟨_, rfl, N13.trans (Nk.ex e14), e14 _ _ kd13, ?_, e14 _ _ o13, e14 _ _ p13⟩
          rw [e14 _ _ td13]
          have : (ixT tabs t < kk + 1) = (ixT tabs t < kk) := by rw [eq_iff_iff]; omega
          simp only [this]
      · rintro σ' H' ⟨o7, rfl, N13, kd13, td13, o13, p13⟩
        rw [Int.toNat_natCast, if_pos (find_lt hf)] at td13
        exact done H' N13 ⟨(show Kn tabs ((Line.new x t u ts).step tabs st) from by have g := k.kn.addNew (x := x) (i := ixT tabs t) ok.1 (find_lt hf) (show newErr st x = none from allN (.fresh x) (by simp [Line.chks])); exact ⟨g.rix, g.nix, g.dis, g.rn, g.nn, g.vn, g.rl⟩), by rw [← hsg]; exact kd13, o13, p13, by show H' w = some (.dK (sd (lrows (st.news ++ [(x, ixT tabs t)])))); rw [lrows_app]; exact td13⟩ rfl
    | need a b =>
      refine s_when (b := false) (et_is (et_test (ev_op (ev_var rfl) ev_c (rv_ne rfl))) (by decide +kernel : (!decide (V.str "" = V.str "")) = false)) (fun z => by cases z) fun _ H10 e10 => ?_
      have e810 := e9.trans e10
      exact done H10 (N9.trans (Nk.ex e10)) ⟨⟨k.kn.rix, k.kn.nix, k.kn.dis, k.kn.rn, k.kn.nn, k.kn.vn, k.kn.rl⟩, by rw [← hsg]; exact e810 _ _ kd8, e810 _ _ r8, e810 _ _ v8, e810 _ _ w8⟩ rfl
    | move x y =>
      refine s_when (b := false) (et_is (et_test (ev_op (ev_var rfl) ev_c (rv_ne rfl))) (by decide +kernel : (!decide (V.str "" = V.str "")) = false)) (fun z => by cases z) fun _ H10 e10 => ?_
      have e810 := e9.trans e10
      exact done H10 (N9.trans (Nk.ex e10)) ⟨⟨k.kn.rix, k.kn.nix, k.kn.dis, k.kn.rn, k.kn.nn, k.kn.vn, k.kn.rl⟩, by rw [← hsg]; exact e810 _ _ kd8, e810 _ _ r8, e810 _ _ v8, e810 _ _ w8⟩ rfl
    | set x c a =>
      refine s_when (b := false) (et_is (et_test (ev_op (ev_var rfl) ev_c (rv_ne rfl))) (by decide +kernel : (!decide (V.str "" = V.str "")) = false)) (fun z => by cases z) fun _ H10 e10 => ?_
      have e810 := e9.trans e10
      exact done H10 (N9.trans (Nk.ex e10)) ⟨⟨k.kn.rix, k.kn.nix, k.kn.dis, k.kn.rn, k.kn.nn, k.kn.vn, k.kn.rl⟩, by rw [← hsg]; exact e810 _ _ kd8, e810 _ _ r8, e810 _ _ v8, e810 _ _ w8⟩ rfl
    | each t x c a =>
      refine s_when (b := false) (et_is (et_test (ev_op (ev_var rfl) ev_c (rv_ne rfl))) (by decide +kernel : (!decide (V.str "" = V.str "")) = false)) (fun z => by cases z) fun _ H10 e10 => ?_
      have e810 := e9.trans e10
      exact done H10 (N9.trans (Nk.ex e10)) ⟨⟨k.kn.rix, k.kn.nix, k.kn.dis, k.kn.rn, k.kn.nn, k.kn.vn, k.kn.rl⟩, by rw [← hsg]; exact e810 _ _ kd8, e810 _ _ r8, e810 _ _ v8, e810 _ _ w8⟩ rfl
    | take x =>
      refine s_when (b := false) (et_is (et_test (ev_op (ev_var rfl) ev_c (rv_ne rfl))) (by decide +kernel : (!decide (V.str "" = V.str "")) = false)) (fun z => by cases z) fun _ H10 e10 => ?_
      have e810 := e9.trans e10
      exact done H10 (N9.trans (Nk.ex e10)) ⟨⟨k.kn.rix, k.kn.nix, k.kn.dis, k.kn.rn, k.kn.nn, k.kn.vn, k.kn.rl⟩, by rw [← hsg]; exact e810 _ _ kd8, e810 _ _ r8, e810 _ _ v8, e810 _ _ w8⟩ rfl
    | value u =>
      have hwx : ((Line.value u).words.map V.str)[1]? = some (.str u) := rfl
      have hnew := newErr_none (show newErr st u = none from allN (.fresh u) (by simp [Line.chks]))
      refine s_when (b := true) (et_is (et_test (ev_op (ev_var rfl) ev_c (rv_ne rfl))) (by decide +kernel : (!decide (V.str "values" = V.str "")) = true)) (fun _ H10 e10 => ?_) (fun z => by cases z)
      have N10 := N9.trans (Nk.ex e10)
      have e810 := e9.trans e10
      refine q_asg (v := .ref v) (ev_dget (ev_var rfl) (ev_var rfl) (e810 _ _ kd8) rfl) fun H11 e11 => ?_
      have e811 := e810.trans e11
      refine q_put (l := lvals st.vals) (v := .int (-1)) (ev_un ev_c ru_neg) (ev_var rfl) (ev_ix 1 rfl (hwN (N10.trans (Nk.ex e11))) hwx) (e811 _ _ v8) (by unfold lvals; rw [List.length_map]; omega) (putK_sd (lvals_none hnew.2.2.1)) fun H12 e12 => ?_
      have e812 := e811.trans e12
      refine s_forR1 (n := (tabs.length : Nat)) (ea_cons (ev_is (ev_len (ev_var rfl) (sq_of (nk_keep hB ((N10.trans (Nk.ex (e11.trans e12))).upd (by simp)) htb (fun _ z => by cases z)))) (by rw [List.length_map, htl])) ea_nil) (by omega) (fun kk σ' H' => ∃ o7 : Option V, σ' = [some (.ref tb), some (.ref kd), some (.ref wp), some (.int (sN : Nat)), some .non, some (.str "values"), some (.ref v), o7] ∧ Nk [kd, r, v, w] H H' ∧ H' kd = some (.dK (sd [("rows", .ref r), ("values", .ref v), ("new", .ref w), ("stage", .int (sN : Nat))])) ∧
        H' v = some (.dK (sd (lvals st.vals ++ [(u, .int (-1))]))) ∧ H' r = some (.dK (sd (lrows st.rows))) ∧ H' w = some (.dK (sd (lrows st.news)))) ?_ ?_ ?_
      · intro H13 e13
        refine ⟨none, rfl, ((N10.trans (Nk.ex (e11.trans e12))).upd (by simp)).trans (Nk.ex e13), e13 _ _ ?_, e13 _ _ upd_same, e13 _ _ ?_, e13 _ _ ?_⟩
        · rw [upd_ne dkv]; exact e812 _ _ kd8
        · rw [upd_ne drv]; exact e812 _ _ r8
        · rw [upd_ne (Ne.symm dvw)]; exact e812 _ _ w8
      · rintro kk σ' H' hkk ⟨o7, rfl, N13, kd13, td13, o13, p13⟩
        refine s_when (b := false) (et_is (et_and (b := false) (et_test (ev_op (ev_var rfl) ev_c (rv_ne rfl))) fun z => absurd z (by decide +kernel)) (by rw [Bool.and_false])) (fun z => by cases z) fun _ H14 e14 => ⟨_, rfl, N13.trans (Nk.ex e14), e14 _ _ kd13, e14 _ _ td13, e14 _ _ o13, e14 _ _ p13⟩
      · rintro σ' H' ⟨o7, rfl, N13, kd13, td13, o13, p13⟩
        exact done H' N13 ⟨k.kn.addVal ok, by rw [← hsg]; exact kd13, o13, by show H' v = some (.dK (sd (lvals (st.vals ++ [u])))); rw [lvals_app]; exact td13, p13⟩ rfl
end
end K23

set_option Elab.async false
set_option linter.all false
set_option maxRecDepth 100000
set_option maxHeartbeats 4000000
/-! the law: an error told by name -/
namespace K23
open PySem PySem.Spec PyProof.Rows L2 Evl
open L2H (RoomH PinOk cxH)
/-- what the law tells of an error -/
def toldT (e : Er) (l : Int) : List V := .str e.cls :: .int l :: (e.name.map V.str).toList
def erF (e : Er) : List Str := match e.name with
  | some _ => ["line", "name"]
  | none => ["line"]
theorem ex_of {K : PySem.W.Frag} {mg : Str → Option Value} (T : Txt K mg) (e : Er) : ExT K mg e.cls (erF e) := by
  cases e with
  | bad => exact ex_BadLine T
  | dup n => exact ex_DuplicateName T
  | unk n => exact ex_UnknownName T
  | wtab n => exact ex_WrongTable T
  | wcnt => exact ex_WrongCount T
  | many => exact ex_TooMany T
def spGN (K : PySem.W.Frag) : SpP := fun p vs H Q _ => ∃ (e : Er) (l : Int) (d : Addr), vs = [.ref p.1, .str e.cls] ∧ Zc (.ref (He.ga K e.cls)) (some d) p.2 ∧ (∃ us, p.2.data = .fields us) ∧ H d = some (.xd (e.fs l)) ∧ ∀ q H2, Ex H H2 → H2 q = some (.tup (toldT e l)) → Q (.ref q) H2
section
variable {K : PySem.W.Frag} {σ : L2.St} {H : Hp} {te : TE} {a d C : Addr} {fs : List (Str × V)} {f : Str} {v : V}
theorem ev_xf (h : Ev te σ H (.ref a)) (hd : H d = some (.xd fs)) (hl : fs.lookup f = some v) : Ev (tXfW a d f te) σ H v := fun H1 e Q q => h H1 e _ fun H2 e2 => ⟨rfl, fs, v, (e.trans e2) _ _ hd, hl, q H2 e2⟩
end
section
variable {P : Program} {w : World} {K : PySem.W.Frag} {mg : Str → Option Value} {base : Heap}
theorem ok_law_get_named (T : Txt K mg) : ∃ f fd, FnHot P w K mg base 1 f fd ["_law_error", "_law_word"] (spGN K) ∧ mg "_law_get_named" = some (.ref f) ∧ PySem.W.keepIn K (.ref f) = true ∧ Binds K fd ["_law_error", "_law_word"] [] := by
  obtain ⟨fd, F⟩ := T.f_law_get_named
  obtain ⟨hgn0, htk0⟩ := He.ba (show (He.eqO (PySem.W.specialIn K (.builtin "object.__class__") "__get__") (some (some (.builtin "getset_descriptor.__get__"))) && decide (PySem.W.takesIn K (.builtin "object.__class__") = some true)) = true from T.desc)
  have hgn := He.eqO_ok hgn0
  have htk := of_decide_eq_true htk0
  refine ⟨_, fd, fnW_of F sc_law_get_named (fun p vs H Q E h => ?_) (fun cdv A outer s H vs Q E p hr h => ?_), T.g_law_get_named, F.kp, F.bindsN fun _ _ _ _ _ _ us hl => match us, hl with | [_, _], _ => rfl⟩
  · obtain ⟨e, l, d, rfl, _⟩ := h; rfl
  · obtain ⟨e, l, d, rfl, hz, hf, hd, q⟩ := h
    have XT := ex_of T e
    have hline : ("line" : Str) ∈ erF e := by cases e <;> simp [erF, Er.name]
    have kit := XT.kit
    cases hn : e.name with
    | none =>
      refine ⟨_, (pss_cons (ps_if (PW.pt (pw_or (pt_not (pt_val (pe_callB (call_isW XT rfl hgn htk (List.mem_singleton.mpr rfl) hz hf) (by rfl) T.b_isinstance (by decide +kernel) (pa_cons (pv 0) (pa_cons (pe_glob (v := .ref (He.ga K "AgreeError")) (by rfl) T.g_AgreeError rfl) pa_nil))))) (pw_or (pt_not (pt_val (pe_callB call_isi (by rfl) T.b_isinstance (by decide +kernel) (pa_cons (pe_xfW XT.xf (XT.no _ hline) (List.mem_singleton.mpr rfl) hz hf (pv 0)) (pa_cons (pe_bltn (v := .ty "int") (by rfl) T.b_int (by decide +kernel) rfl) pa_nil))))) (pw_or1 (pt_val (pe_callB call_isi (by rfl) T.b_isinstance (by decide +kernel) (pa_cons (pe_xfW XT.xf (XT.no _ hline) (List.mem_singleton.mpr rfl) hz hf (pv 0)) (pa_cons (pe_bltn (v := .ty "bool") (by rfl) T.b_bool (by decide +kernel) rfl) pa_nil)))))))) (pss_one (ps_ret (pe_tup (pa_cons (pv 1) (pa_cons pe_str pa_nil))))) pss_nil)
        (pss_cons (ps_if (pt_cmpR op_in_seq (pv 1) (pe_tup (pa_cons pe_str (pa_cons pe_str (pa_cons pe_str pa_nil)))) rfl) (pss_one (ps_ret (pe_tup (pa_cons (pv 1) (pa_cons (pe_xfW XT.xf (XT.no _ hline) (List.mem_singleton.mpr rfl) hz hf (pv 0)) pa_nil))))) pss_nil)
        (pss_one ps_never))), ?_⟩
      have lineE : ∀ {σ : L2.St} {H' : Hp}, Ex H H' → σ[0]? = some (some (.ref p.1)) → Ev (tXfW p.1 d "line" (tVar 0)) σ H' (.int l) := fun e0 hs => ev_xf (ev_var hs) (e0 _ _ hd) (by cases e <;> rfl)
      have isA : Ev (tCB (rIsW K (He.ga K e.cls) p.1 d) (tCons (tVar 0) (tCons (tC (.ref (He.ga K "AgreeError"))) tNil))) [some (.ref p.1), some (.str e.cls)] H (.bl true) := ev_cb (ea_cons (ev_var rfl) (ea_cons ev_c ea_nil)) fun H1 e1 Q2 q2 => ⟨e.fs l, .ref (He.ga K "AgreeError"), .ref (He.ga K "AgreeError"), true, rfl, e1 _ _ hd, .own _, kit, q2 H1 (Ex.refl H1)⟩
      have isI : Ev (tCB (rIsi K) (tCons (tXfW p.1 d "line" (tVar 0)) (tCons (tC (.ty "int")) tNil))) [some (.ref p.1), some (.str e.cls)] H (.bl true) := ev_cb (ea_cons (lineE (Ex.refl H) rfl) (ea_cons ev_c ea_nil)) fun H1 e1 Q2 q2 => ⟨.int l, .ty "int", .type "int", .type "int", true, rfl, .ty _, .base (.int l), kit_ty (by decide +kernel), q2 H1 (Ex.refl H1)⟩
      have isB : Ev (tCB (rIsi K) (tCons (tXfW p.1 d "line" (tVar 0)) (tCons (tC (.ty "bool")) tNil))) [some (.ref p.1), some (.str e.cls)] H (.bl false) := ev_cb (ea_cons (lineE (Ex.refl H) rfl) (ea_cons ev_c ea_nil)) fun H1 e1 Q2 q2 => ⟨.int l, .ty "bool", .type "int", .type "bool", false, rfl, .ty _, .base (.int l), kit_ty (by decide +kernel), q2 H1 (Ex.refl H1)⟩
      refine q_when (b := false) (et_or (a := false) (b := false) (et_not (et_B isA)) fun _ => et_or (a := false) (b := false) (et_not (et_B isI)) fun _ => et_B isB) (fun z => by cases z) fun _ H1 e1 => ?_
      refine q_when (b := true) (et_is (et_test (ev_inU (xs := (["BadLine", "WrongCount", "TooMany"] : List Str).map V.str) (ev_var rfl) (eu_tup (ea_cons ev_c (ea_cons ev_c (ea_cons ev_c ea_nil))) (Nat.le_of_ble_eq_true rfl)) rfl (flat_strs _))) ?_) (fun _ H2 e2 => ?_) (fun z => by cases z)
      · rw [inV_str]
        cases e with
        | bad => exact (by decide +kernel : decide (("BadLine" : Str) ∈ (["BadLine", "WrongCount", "TooMany"] : List Str)) = true)
        | wcnt => exact (by decide +kernel : decide (("WrongCount" : Str) ∈ (["BadLine", "WrongCount", "TooMany"] : List Str)) = true)
        | many => exact (by decide +kernel : decide (("TooMany" : Str) ∈ (["BadLine", "WrongCount", "TooMany"] : List Str)) = true)
        | dup n => cases hn
        | unk n => cases hn
        | wtab n => cases hn
      · refine s_retU (eu_tup (ea_cons (ev_var rfl) (ea_cons (lineE (e1.trans e2) rfl) ea_nil)) (Nat.le_of_ble_eq_true rfl)) fun p2 H3 _ e3 h3 => q p2 H3 (e1.trans (e2.trans e3)) ?_
        rw [h3, toldT, hn]
        rfl
    | some n =>
      have hname : ("name" : Str) ∈ erF e := by unfold erF; rw [hn]; simp
      refine ⟨_, (pss_cons (ps_if (PW.pt (pw_or (pt_not (pt_val (pe_callB (call_isW XT rfl hgn htk (List.mem_singleton.mpr rfl) hz hf) (by rfl) T.b_isinstance (by decide +kernel) (pa_cons (pv 0) (pa_cons (pe_glob (v := .ref (He.ga K "AgreeError")) (by rfl) T.g_AgreeError rfl) pa_nil))))) (pw_or (pt_not (pt_val (pe_callB call_isi (by rfl) T.b_isinstance (by decide +kernel) (pa_cons (pe_xfW XT.xf (XT.no _ hline) (List.mem_singleton.mpr rfl) hz hf (pv 0)) (pa_cons (pe_bltn (v := .ty "int") (by rfl) T.b_int (by decide +kernel) rfl) pa_nil))))) (pw_or1 (pt_val (pe_callB call_isi (by rfl) T.b_isinstance (by decide +kernel) (pa_cons (pe_xfW XT.xf (XT.no _ hline) (List.mem_singleton.mpr rfl) hz hf (pv 0)) (pa_cons (pe_bltn (v := .ty "bool") (by rfl) T.b_bool (by decide +kernel) rfl) pa_nil)))))))) (pss_one (ps_ret (pe_tup (pa_cons (pv 1) (pa_cons pe_str pa_nil))))) pss_nil)
        (pss_cons (ps_if (pt_cmpR op_in_seq (pv 1) (pe_tup (pa_cons pe_str (pa_cons pe_str (pa_cons pe_str pa_nil)))) rfl) (pss_one (ps_ret (pe_tup (pa_cons (pv 1) (pa_cons (pe_xfW XT.xf (XT.no _ hline) (List.mem_singleton.mpr rfl) hz hf (pv 0)) pa_nil))))) pss_nil)
        (pss_one (ps_ret (pe_tup (pa_cons (pv 1) (pa_cons (pe_xfW XT.xf (XT.no _ hline) (List.mem_singleton.mpr rfl) hz hf (pv 0)) (pa_cons (pe_xfW XT.xf (XT.no _ hname) (List.mem_singleton.mpr rfl) hz hf (pv 0)) pa_nil)))))))), ?_⟩
      have lineE : ∀ {σ : L2.St} {H' : Hp}, Ex H H' → σ[0]? = some (some (.ref p.1)) → Ev (tXfW p.1 d "line" (tVar 0)) σ H' (.int l) := fun e0 hs => ev_xf (ev_var hs) (e0 _ _ hd) (by cases e <;> rfl)
      have isA : Ev (tCB (rIsW K (He.ga K e.cls) p.1 d) (tCons (tVar 0) (tCons (tC (.ref (He.ga K "AgreeError"))) tNil))) [some (.ref p.1), some (.str e.cls)] H (.bl true) := ev_cb (ea_cons (ev_var rfl) (ea_cons ev_c ea_nil)) fun H1 e1 Q2 q2 => ⟨e.fs l, .ref (He.ga K "AgreeError"), .ref (He.ga K "AgreeError"), true, rfl, e1 _ _ hd, .own _, kit, q2 H1 (Ex.refl H1)⟩
      have isI : Ev (tCB (rIsi K) (tCons (tXfW p.1 d "line" (tVar 0)) (tCons (tC (.ty "int")) tNil))) [some (.ref p.1), some (.str e.cls)] H (.bl true) := ev_cb (ea_cons (lineE (Ex.refl H) rfl) (ea_cons ev_c ea_nil)) fun H1 e1 Q2 q2 => ⟨.int l, .ty "int", .type "int", .type "int", true, rfl, .ty _, .base (.int l), kit_ty (by decide +kernel), q2 H1 (Ex.refl H1)⟩
      have isB : Ev (tCB (rIsi K) (tCons (tXfW p.1 d "line" (tVar 0)) (tCons (tC (.ty "bool")) tNil))) [some (.ref p.1), some (.str e.cls)] H (.bl false) := ev_cb (ea_cons (lineE (Ex.refl H) rfl) (ea_cons ev_c ea_nil)) fun H1 e1 Q2 q2 => ⟨.int l, .ty "bool", .type "int", .type "bool", false, rfl, .ty _, .base (.int l), kit_ty (by decide +kernel), q2 H1 (Ex.refl H1)⟩
      refine q_when (b := false) (et_or (a := false) (b := false) (et_not (et_B isA)) fun _ => et_or (a := false) (b := false) (et_not (et_B isI)) fun _ => et_B isB) (fun z => by cases z) fun _ H1 e1 => ?_
      have nameE : ∀ {σ : L2.St} {H' : Hp}, Ex H H' → σ[0]? = some (some (.ref p.1)) → Ev (tXfW p.1 d "name" (tVar 0)) σ H' (.str n) := fun e0 hs => ev_xf (ev_var hs) (e0 _ _ hd) (by cases e <;> cases hn <;> rfl)
      refine q_when (b := false) (et_is (et_test (ev_inU (xs := (["BadLine", "WrongCount", "TooMany"] : List Str).map V.str) (ev_var rfl) (eu_tup (ea_cons ev_c (ea_cons ev_c (ea_cons ev_c ea_nil))) (Nat.le_of_ble_eq_true rfl)) rfl (flat_strs _))) ?_) (fun z => by cases z) (fun _ H2 e2 => ?_)
      · rw [inV_str]
        cases e with
        | bad => cases hn
        | wcnt => cases hn
        | many => cases hn
        | dup n => exact (by decide +kernel : decide (("DuplicateName" : Str) ∈ (["BadLine", "WrongCount", "TooMany"] : List Str)) = false)
        | unk n => exact (by decide +kernel : decide (("UnknownName" : Str) ∈ (["BadLine", "WrongCount", "TooMany"] : List Str)) = false)
        | wtab n => exact (by decide +kernel : decide (("WrongTable" : Str) ∈ (["BadLine", "WrongCount", "TooMany"] : List Str)) = false)
      · refine s_retU (eu_tup (ea_cons (ev_var rfl) (ea_cons (lineE (e1.trans e2) rfl) (ea_cons (nameE (e1.trans e2) rfl) ea_nil))) (Nat.le_of_ble_eq_true rfl)) fun p2 H3 _ e3 h3 => q p2 H3 (e1.trans (e2.trans e3)) ?_
        rw [h3, toldT, hn]
        rfl
end
end K23

set_option Elab.async false
set_option linter.all false
set_option maxRecDepth 100000
set_option maxHeartbeats 4000000
/-! the law: Handler.read, its error told -/
namespace K23
open PySem PySem.Spec PyProof.Rows L2 Evl
open L2H (RoomH PinOk cxH roomH_of)
theorem roomH_mk {k : Nat} {A : Around} (r : Room k A) (h : Option Value) : RoomH k (A.mark h) := ⟨r.dp, r.un⟩
def tsC (K : PySem.W.Frag) (x : Str) : Addr → Value → Option Addr → TS := fun a cls d D σ H => ∀ oe : Obj, Zc cls d oe → (∃ vs, oe.data = .fields vs) → tRet (tCallW (spGN K) (a, oe) (tCons (tVar 2) (tCons (tC (.str x)) tNil))) D σ H
def clsL (K : PySem.W.Frag) : List Cls1 := ["BadLine", "DuplicateName", "UnknownName", "WrongTable", "WrongCount", "TooMany"].map fun x : String => (.ref (He.ga K x), tsC K x)
theorem wn_of {K : PySem.W.Frag} {i : Nat} {Wout : WX} {D : Ends} {C : Addr} {z : Str} {d : Option Addr} {σ : L2.St} {H : Hp} : ∀ {xs : List Str}, (∀ y ∈ xs, PySem.W.exmOne K (.ref C) (.ref (He.ga K y)) = some (decide (z = y))) → z ∈ xs →
    (∀ a, H a = none → tsC K z a (.ref C) d (gone i D) (σ.set i (some (.ref a))) H) → wNamed K i Wout D (xs.map fun x => ((.ref (He.ga K x), tsC K x) : Cls1)) (.ref C) d σ H
  | [], _, hz, _ => nomatch hz
  | y :: r, hx, hz, hk => ⟨decide (z = y), hx y (.head _), fun hb a ha => by
      have e := of_decide_eq_true hb
      subst e
      exact hk a ha, fun hb => wn_of (fun y hy => hx y (.tail _ hy)) (by
      rcases List.mem_cons.mp hz with e | h
      · exact absurd e (of_decide_eq_false hb)
      · exact h) hk⟩
theorem s_retW {sp : SpP} {p : Addr × Obj} {ta' : TA} {σ : L2.St} {H : Hp} {D : Ends} {vs : List V} (h : EvA ta' σ H vs) (hs : ∀ H1, Ex H H1 → sp p vs H1 D.rt E0) : tRet (tCallW sp p ta') D σ H := h H (Ex.refl H) _ hs
def xNames : List Str := excs.map (·.1)
theorem exm_at {K : PySem.W.Frag} {mg : Str → Option Value} (T : Txt K mg) {x y : Str} (hx : x ∈ xNames) (hy : y ∈ xNames) : PySem.W.exmOne K (.ref (He.ga K x)) (.ref (He.ga K y)) = some (decide (x = y)) :=
  of_decide_eq_true (List.all_eq_true.mp (List.all_eq_true.mp (show (xNames.all fun x => xNames.all fun y => decide (PySem.W.exmOne K (.ref (He.ga K x)) (.ref (He.ga K y)) = some (decide (x = y)))) = true from T.exm) x hx) y hy)
theorem cls_in (e : Er) : e.cls ∈ xNames := by cases e <;> simp [xNames, excs, Er.cls]
def spHT (K : PySem.W.Frag) : Sp := fun vs H Q _ => ∃ (sc : Addr) (nm : Str) (ls : List (Bool × Line)) (tabs : Tabs) (U : List Str), vs = [.ref sc, .str (hText nm ls)] ∧ isName nm = true ∧ WF tabs ∧ Sch K tabs tabs.length H sc ∧ (∀ p ∈ ls, p.2.ok) ∧ ls.length ≤ 8 ∧ U.length ≤ 3 ∧ (∀ p ∈ ls, ∀ u, p.2 = .value u → u ∈ U) ∧
  match runE tabs St.ini 2 ls with
  | none => ∀ H2, Ex H H2 → Q .non H2
  | some p => ∀ q H2, Ex H H2 → H2 q = some (.tup (toldT p.1 (p.2 : Nat))) → Q (.ref q) H2
section
variable {P : Program} {w : World} {K : PySem.W.Frag} {mg : Str → Option Value} {base : Heap}
theorem ok_law_handler_told (T : Txt K mg) : CalX P w K mg base CX0 11 "_law_handler_told" ["_law_schema", "_law_text"] (spHT K) := by
  have st_Handler := st_Handler (P := P) (w := w) (base := base) T
  obtain ⟨gf, gfd, GF, gm, gk, gb⟩ := ok_law_get_named (P := P) (w := w) (base := base) T
  obtain ⟨fd, F⟩ := T.f_law_handler_told
  refine ⟨_, fd, F.ok (k := 10) sc_law_handler_told (fun vs H Q E h => ?_) (fun cdv A outer s H vs Q E hr h => ?_), T.g_law_handler_told, F.kp, F.bindsN fun _ _ _ _ _ _ us hl => match us, hl with | [_, _], _ => rfl⟩
  · obtain ⟨sc, nm, ls, tabs, U, rfl, _⟩ := h; rfl
  · obtain ⟨sc, nm, ls, tabs, U, rfl, hnm, W, S, oks, hl8, hU, hUs, q⟩ := h
    refine ⟨_, pss_cons (ps_try_named (n := "e") (i := 2) (l := clsL K) (Wout := fun _ _ _ _ => False) (tb := fun W => tDrop (tSta (HC K) (spHRead K) (fun cls d H => ∀ σ, σ.length = 3 → W cls d σ H) (tC (.ref (HC K))) (tCons (tVar 0) (tCons (tVar 1) tNil)))) rfl rfl sc_law_handler_told.nd rfl rfl ?_ ?_ ?_) (pss_one (ps_ret pe_non)), ?_⟩
    · rintro u s1 ⟨a, B, sI, pins1, σ1, H1, cls, d, rfl, I1, nb, up, sky, na, os, ag, w0⟩
      exact w0.elim
    · intro W pn xe tk po
      have tk' : Takes ((cxOf CX0 P w K mg base ["_law_schema", "_law_text", "e"] "_law_handler_told" (defScope s_law_handler_told) (a_law_handler_told K) cdv A outer s H E).tr pn xe) (fun cls d σ H => σ.length = 3 → W cls d σ H) := by
        rintro u s1 ⟨a, B, sI, pins1, σ1, H1, cls, d, rfl, I1, nb, up, sky, na, os, ag, w0⟩
        exact tk _ _ ⟨a, B, sI, pins1, σ1, H1, cls, d, rfl, I1, nb, up, sky, na, os, ag, w0 I1.len⟩
      exact pss_one (ps_expr (pe_sta st_Handler hr (by decide) (passes_call tk' fun _ _ σ _ h => h σ) (pe_glob (v := .ref (HC K)) (by rfl) T.g_Handler rfl) (pa_cons (pv 0) (pa_cons (pv 1) pa_nil))))
    · have cl : ∀ (X : Cx) (x : Str) (a : Addr) (oe : Obj) (cls : Value) (d : Option Addr) (b : List Stmt), True := fun _ _ _ _ _ _ _ => trivial
      refine .cons ⟨rfl, by decide, .inl T.g_BadLine⟩ (fun a oe cls d pn hz hf => ⟨fun pins s σ H D I h => (pss_one (ps_ret (pe_callW GF ((roomH_mk hr _).mono (by decide)) (.head _) gm gk gb (pa_cons (pv 2) (pa_cons pe_str pa_nil))))).run pins s σ H D I (h oe hz hf)⟩) ?_
      refine .cons ⟨rfl, by decide, .inl T.g_DuplicateName⟩ (fun a oe cls d pn hz hf => ⟨fun pins s σ H D I h => (pss_one (ps_ret (pe_callW GF ((roomH_mk hr _).mono (by decide)) (.head _) gm gk gb (pa_cons (pv 2) (pa_cons pe_str pa_nil))))).run pins s σ H D I (h oe hz hf)⟩) ?_
      refine .cons ⟨rfl, by decide, .inl T.g_UnknownName⟩ (fun a oe cls d pn hz hf => ⟨fun pins s σ H D I h => (pss_one (ps_ret (pe_callW GF ((roomH_mk hr _).mono (by decide)) (.head _) gm gk gb (pa_cons (pv 2) (pa_cons pe_str pa_nil))))).run pins s σ H D I (h oe hz hf)⟩) ?_
      refine .cons ⟨rfl, by decide, .inl T.g_WrongTable⟩ (fun a oe cls d pn hz hf => ⟨fun pins s σ H D I h => (pss_one (ps_ret (pe_callW GF ((roomH_mk hr _).mono (by decide)) (.head _) gm gk gb (pa_cons (pv 2) (pa_cons pe_str pa_nil))))).run pins s σ H D I (h oe hz hf)⟩) ?_
      refine .cons ⟨rfl, by decide, .inl T.g_WrongCount⟩ (fun a oe cls d pn hz hf => ⟨fun pins s σ H D I h => (pss_one (ps_ret (pe_callW GF ((roomH_mk hr _).mono (by decide)) (.head _) gm gk gb (pa_cons (pv 2) (pa_cons pe_str pa_nil))))).run pins s σ H D I (h oe hz hf)⟩) ?_
      refine .cons ⟨rfl, by decide, .inl T.g_TooMany⟩ (fun a oe cls d pn hz hf => ⟨fun pins s σ H D I h => (pss_one (ps_ret (pe_callW GF ((roomH_mk hr _).mono (by decide)) (.head _) gm gk gb (pa_cons (pv 2) (pa_cons pe_str pa_nil))))).run pins s σ H D I (h oe hz hf)⟩) ?_
      exact .nil
    · refine ⟨rfl, (ea_cons (ev_var rfl) (ea_cons (ev_var rfl) ea_nil)) H (Ex.refl H) _ fun H1 e1 => ⟨sc, nm, ls, tabs, U, rfl, hnm, W, S.mono e1, oks, hl8, hU, hUs, ?_⟩⟩
      cases hrun : runE tabs St.ini 2 ls with
      | none =>
        rw [hrun] at q
        exact fun a H2 e2 => (q H2 (e1.trans e2) : Q .non H2)
      | some p =>
        rw [hrun] at q
        rintro cls d H2 e2 ⟨rfl, dd, rfl, hdd⟩ σ' hσ
        refine wn_of (xs := xNames) (z := p.1.cls) (fun y hy => exm_at T (cls_in p.1) hy) (cls_in p.1) fun a ha oe hz hf => ?_
        have h2 : (σ'.set 2 (some (.ref a)))[2]? = some (some (.ref a)) := by rw [List.getElem?_set_self (by omega)]
        exact s_retW (ea_cons (ev_var h2) (ea_cons ev_c ea_nil)) fun H3 e3 => ⟨p.1, (p.2 : Nat), dd, rfl, hz, hf, e3 _ _ hdd, fun q2 H4 e4 h4 => q q2 H4 (e1.trans (e2.trans (e3.trans e4))) h4⟩
end
end K23

set_option Elab.async false
set_option linter.all false
set_option maxRecDepth 100000
set_option maxHeartbeats 4000000
/-! the law: pieces -/
namespace K23
open PySem PySem.Spec PyProof.Rows L2 Evl
/-- all that stands, but the draws' own lists -/
def cutH (s c : Addr) (H : Hp) : Hp := fun a => if a = s ∨ a = c then none else H a
theorem cutH_at {s c a : Addr} {H : Hp} {o : HO} (h : H a = some o) (h1 : a ≠ s) (h2 : a ≠ c) : cutH s c H a = some o := by
  unfold cutH
  rw [if_neg fun z => z.elim h1 h2]
  exact h
theorem Wr.full {s c : Addr} {G H : Hp} (W : Wr s c G H) : Ex G (cutH s c H) ∧ Wr s c (cutH s c H) H := by
  refine ⟨fun a o h => cutH_at (W.g _ _ h) (fun z => ?_) (fun z => ?_), ⟨fun a o h => ?_, W.d, ?_, ?_, W.ne⟩⟩
  · rw [z, W.gs] at h; cases h
  · rw [z, W.gc] at h; cases h
  · unfold cutH at h
    split at h
    · cases h
    · exact h
  · unfold cutH; rw [if_pos (.inl rfl)]
  · unfold cutH; rw [if_pos (.inr rfl)]
/-- texts, not the draws' -/
theorem DrS.strs {s c a : Addr} {H : Hp} {l : List Str} (d : DrS s c H) (h : H a = some (.lst (l.map V.str))) (hl : l ≠ []) : a ≠ s ∧ a ≠ c := by
  obtain ⟨zs, x, b, n, h1, h2⟩ := d
  obtain ⟨y, r, rfl⟩ := List.exists_cons_of_ne_nil hl
  refine ⟨fun z => ?_, fun z => ?_⟩
  · rw [z, h1] at h
    injection h with h
    injection h with h
    cases h
  · rw [z, h2] at h
    injection h with h
    injection h with h
    cases zs with
    | nil => cases h
    | cons q zs => cases h
theorem DrS.kind {s c a : Addr} {H : Hp} {o : HO} (d : DrS s c H) (h : H a = some o) (no : ∀ l, o ≠ .lst l) : a ≠ s ∧ a ≠ c := by
  obtain ⟨zs, x, b, n, h1, h2⟩ := d
  exact ⟨ne_kind h h1 (no _), ne_kind h h2 (no _)⟩
theorem Sch.cut {K : PySem.W.Frag} {tabs : Tabs} {s c sc : Addr} {H : Hp} (S : Sch K tabs tabs.length H sc) (d : DrS s c H) (W : WF tabs) : Sch K tabs tabs.length (cutH s c H) sc := by
  obtain ⟨dx, text, cl, pr, ow, fo, cs, ps, X⟩ := S
  have k := fun {a : Addr} {o : HO} (h : H a = some o) (no : ∀ l, o ≠ .lst l) => cutH_at (s := s) (c := c) h (d.kind h no).1 (d.kind h no).2
  refine ⟨dx, text, cl, pr, ow, fo, cs, ps, k X.o (fun _ z => by cases z), k X.c (fun _ z => by cases z), k X.p (fun _ z => by cases z), X.ne, X.le, X.cn, X.pn, X.has, X.hasP, fun i b hi hb => ?_, X.pars⟩
  obtain ⟨p, h1, h2⟩ := X.cols i b hi hb
  have hne := (W.col b (List.mem_of_getElem? hb)).2.1
  exact ⟨p, h1, cutH_at h2 (d.strs h2 hne).1 (d.strs h2 hne).2⟩
theorem t_first (nm : Str) : ("handler " : Str) ++ nm = hFirst nm := by
  have h : ("handler " : Str) = "handler" ++ " " := by decide +kernel
  unfold hFirst
  rw [sp_ap, sp_one, h]
theorem t_bad (ln : Line) : ("bad " : Str) ++ Txt.join " " ln.words = lineText true ln := by
  have h : ("bad " : Str) = "bad" ++ " " := by decide +kernel
  obtain ⟨a, r, e⟩ := List.exists_cons_of_ne_nil ln.words_ne
  show _ = Txt.join " " (("bad" : Str) :: ln.words)
  rw [e, sp_ap, h]
end K23

set_option Elab.async false
set_option linter.all false
set_option maxRecDepth 100000
set_option maxHeartbeats 4000000
/-! the law: what an error tells, compared; pieces of its walk -/
namespace K23
open PySem PySem.Spec PyProof.Rows L2 Evl
/-! ### an error's name is a name of the line -/
def ErN (o : Option Er) : Prop := ∀ e n, o = some e → e.name = some n → Nam n
theorem erN_none : ErN none := fun _ _ h => nomatch h
theorem erN_ite {p : Prop} [Decidable p] {a b : Option Er} (ha : ErN a) (hb : ErN b) : ErN (if p then a else b) := by
  split
  · exact ha
  · exact hb
theorem erN_some {e : Er} (h : ∀ n, e.name = some n → Nam n) : ErN (some e) := fun _ n z hn => h n (by rw [← Option.some.inj z] at hn; exact hn)
theorem erN_unk {n : Str} (h : Nam n) : ErN (some (.unk n)) := erN_some fun m z => by rw [← Option.some.inj z]; exact h
theorem erN_dup {n : Str} (h : Nam n) : ErN (some (.dup n)) := erN_some fun m z => by rw [← Option.some.inj z]; exact h
theorem erN_wtab {n : Str} (h : Nam n) : ErN (some (.wtab n)) := erN_some fun m z => by rw [← Option.some.inj z]; exact h
theorem erN_wcnt : ErN (some .wcnt) := erN_some fun m z => nomatch z
theorem erN_many : ErN (some .many) := erN_some fun m z => nomatch z
theorem erN_bad : ErN (some .bad) := erN_some fun m z => nomatch z
theorem ern_new {st : St} {n : Str} (h : Nam n) : ErN (newErr st n) := erN_ite (erN_dup h) erN_none
theorem ern_tab {tabs : Tabs} {t : Str} (h : Nam t) : ErN (tabErr tabs t) := erN_ite erN_none (erN_unk h)
theorem ern_row {st : St} {n : Str} (h : Nam n) : ErN (rowErr st n) := erN_ite erN_none (erN_unk h)
theorem ern_any {st : St} {n : Str} (h : Nam n) : ErN (anyErr st n) := erN_ite erN_none (erN_unk h)
theorem ern_col {tabs : Tabs} {i : Nat} {n : Str} (h : Nam n) : ErN (colErr tabs i n) := erN_ite erN_none (erN_unk h)
theorem ern_pos {tabs : Tabs} {c : Str} (hc : Nam c) : ∀ (ups : List Str) (i : Nat), (∀ u ∈ ups, Nam u) → ErN (posErr tabs i ups c)
  | [], _, _ => ern_col hc
  | u :: r, i, h => by
    unfold posErr
    cases parI tabs i with
    | none => exact erN_unk (h u (.head _))
    | some j => exact erN_ite (ern_pos hc r j fun v hv => h v (.tail _ hv)) (erN_unk (h u (.head _)))
theorem ern_term {tabs : Tabs} {st : St} {a : Tm} (h : a.ok) : ErN (termErr tabs st a) := by
  cases a with
  | me => exact erN_none
  | con n => exact erN_none
  | val n => exact erN_ite erN_none (erN_unk h)
  | pos x ups c =>
    obtain ⟨h1, h2, _, h3⟩ := h
    show ErN (match rowIx st x with
      | some i => posErr tabs i ups c
      | none => some (.unk x))
    cases rowIx st x with
    | none => exact erN_unk h1
    | some i => exact ern_pos h3 ups i h2
theorem ern_first : ∀ {l : List (Option Er)}, (∀ o ∈ l, ErN o) → ErN (firstE l)
  | [], _ => erN_none
  | a :: r, h => by
    rw [firstE_cons]
    cases a with
    | none => exact ern_first fun o ho => h o (.tail _ ho)
    | some e => exact h _ (.head _)
theorem ern_line {tabs : Tabs} {st : St} {bad : Bool} {ln : Line} (ok : ln.ok) : ErN (lineErr tabs st bad ln) := by
  refine erN_ite erN_bad (ern_first ?_)
  cases ln with
  | row x t =>
    obtain ⟨h1, h2⟩ := ok
    simp only [Line.checks, List.forall_mem_cons]
    exact ⟨ern_new h1, ern_tab h2, erN_ite erN_many erN_none, fun _ h => nomatch h⟩
  | value u =>
    simp only [Line.checks, List.forall_mem_cons]
    exact ⟨ern_new ok, fun _ h => nomatch h⟩
  | need a b =>
    simp only [Line.checks, List.forall_mem_cons]
    exact ⟨ern_term ok.1, ern_term ok.2, fun _ h => nomatch h⟩
  | new n t u ts =>
    obtain ⟨h1, h2, h3, h4, _⟩ := ok
    intro o ho
    simp only [Line.checks] at ho
    rcases List.mem_append.mp ho with ho | ho
    · rcases List.mem_cons.mp ho with rfl | ho
      · exact ern_new h1
      · rcases List.mem_cons.mp ho with rfl | ho
        · exact ern_tab h2
        · nomatch ho
    rcases List.mem_append.mp ho with ho | ho
    · cases u with
      | none => nomatch ho
      | some x =>
        rcases List.mem_cons.mp ho with rfl | ho
        · exact ern_any (h3 x rfl)
        · nomatch ho
    rcases List.mem_append.mp ho with ho | ho
    · obtain ⟨a, ha, rfl⟩ := List.mem_map.mp ho
      exact ern_term (h4 a ha)
    rcases List.mem_cons.mp ho with rfl | ho
    · cases u with
      | none => exact erN_ite (erN_wtab h2) erN_none
      | some x => exact erN_ite erN_none (erN_wtab (h3 x rfl))
    rcases List.mem_cons.mp ho with rfl | ho
    · exact erN_ite erN_none erN_wcnt
    · nomatch ho
  | move x y =>
    simp only [Line.checks, List.forall_mem_cons]
    exact ⟨ern_row ok.1, ern_any ok.2, erN_ite erN_none (erN_wtab ok.2), fun _ h => nomatch h⟩
  | set x c a =>
    simp only [Line.checks, List.forall_mem_cons]
    exact ⟨ern_row ok.1, ern_col ok.2.1, ern_term ok.2.2, fun _ h => nomatch h⟩
  | each t x c a =>
    simp only [Line.checks, List.forall_mem_cons]
    exact ⟨ern_tab ok.1, ern_any ok.2.1, ern_col ok.2.2.1, ern_term ok.2.2.2, erN_ite erN_none (erN_wtab ok.1), fun _ h => nomatch h⟩
  | take x =>
    simp only [Line.checks, List.forall_mem_cons]
    exact ⟨ern_row ok, fun _ h => nomatch h⟩
theorem ern_run {tabs : Tabs} : ∀ (ls : List (Bool × Line)) (st : St) (k : Nat), (∀ p ∈ ls, p.2.ok) → ErN ((runE tabs st k ls).map (·.1))
  | [], _, _, _ => erN_none
  | p :: r, st, k, h => by
    unfold runE
    have h1 := ern_line (tabs := tabs) (st := st) (bad := p.1) (h p (.head _))
    revert h1
    cases lineErr tabs st p.1 p.2 with
    | some e => exact fun h1 => h1
    | none => exact fun _ => ern_run r _ _ fun q hq => h q (.tail _ hq)
/-! ### what is told, compared -/
theorem nam_ok {n : Str} (h : Nam n) : PyData.strOk n = true := by
  have h1 := h.1
  unfold isName at h1
  rw [Bool.and_eq_true, Bool.and_eq_true, Bool.and_eq_true] at h1
  have h2 := h1.2.2
  unfold PyData.strOk
  rw [← Array.all_toList]
  refine List.all_eq_true.mpr fun c hc => ?_
  have h3 := List.all_eq_true.mp h2 c hc
  have h4 : ∀ d ∈ tlS SIG, d < 0x110000 := by decide +kernel
  unfold inSig at h3
  exact decide_eq_true (h4 c (of_decide_eq_true h3))
theorem cls_ok (e : Er) : PyData.strOk e.cls = true := by
  cases e with
  | bad => exact (by decide +kernel : PyData.strOk "BadLine" = true)
  | dup n => exact (by decide +kernel : PyData.strOk "DuplicateName" = true)
  | unk n => exact (by decide +kernel : PyData.strOk "UnknownName" = true)
  | wtab n => exact (by decide +kernel : PyData.strOk "WrongTable" = true)
  | wcnt => exact (by decide +kernel : PyData.strOk "WrongCount" = true)
  | many => exact (by decide +kernel : PyData.strOk "TooMany" = true)
def toldD (e : Er) (l : Int) : List PyData := .str e.cls :: .int l :: (e.name.map PyData.str).toList
theorem told_dp {K : PySem.W.Frag} {H : Hp} (e : Er) (l : Int) : DpAll K H (toldT e l) (toldD e l) := by
  unfold toldT toldD
  cases e.name with
  | none => exact .cons (.str _) (.cons (.int _) .nil)
  | some n => exact .cons (.str _) (.cons (.int _) (.cons (.str _) .nil))
theorem told_sh {e : Er} {l : Int} (h : ∀ n, e.name = some n → Nam n) : SeqAt.shaped (.tuple (toldD e l)) = true := by
  unfold toldD SeqAt.shaped
  have h1 := cls_ok e
  cases hn : e.name with
  | none => simp [PyData.canLay0, PyData.canLayAll0, PyData.depth, PyData.depthAll, h1]
  | some n =>
    have h2 := nam_ok (h n hn)
    simp [PyData.canLay0, PyData.canLayAll0, PyData.depth, PyData.depthAll, h1, h2]
theorem told_eq (e : Er) (l : Int) : PyData.eqv (.tuple (toldD e l)) (.tuple (toldD e l)) = true := by
  unfold toldD
  cases e.name <;> simp [PyData.eqv, PyData.eqvAll]
def DueM (o : Option (Er × Nat)) (dv : V) (H : Hp) : Prop := match o with
  | none => dv = .non
  | some p => ∃ q, dv = .ref q ∧ H q = some (.tup (toldT p.1 (p.2 : Nat)))
theorem DueM.mono {o : Option (Er × Nat)} {dv : V} {H H' : Hp} (h : DueM o dv H) (e : Ex H H') : DueM o dv H' := by
  cases o with
  | none => exact h
  | some p =>
    obtain ⟨q, h1, h2⟩ := h
    exact ⟨q, h1, e _ _ h2⟩
theorem DueM.isN {o : Option (Er × Nat)} {dv : V} {H : Hp} (h : DueM o dv H) : decide (dv = .non) = o.isNone := by
  cases o with
  | none => rw [show dv = .non from h]; rfl
  | some p =>
    obtain ⟨q, rfl, _⟩ := h
    rfl
def ToldQ (o : Option (Er × Nat)) (H1 : Hp) (Q : VK) : Prop := match o with
  | none => ∀ H2, Ex H1 H2 → Q .non H2
  | some p => ∀ q H2, Ex H1 H2 → H2 q = some (.tup (toldT p.1 (p.2 : Nat))) → Q (.ref q) H2
theorem et_told {K : PySem.W.Frag} {σ : L2.St} {H : Hp} {ta tb : TE} {o : Option (Er × Nat)} {dv : V} (hn : ErN (o.map (·.1)))
    (h : ∀ H1, Ex H H1 → ∀ Q : VK, ToldQ o H1 Q → ta σ H1 Q)
    (hb : Ev tb σ H dv) (hd : DueM o dv H) : EvT (tTest (tOp (rNeD K) ta tb)) σ H false := fun H1 e1 Q q => h H1 e1 _ (by
  cases o with
  | none =>
    intro H2 e2
    refine hb H2 (e1.trans e2) _ fun H3 e3 => ?_
    rw [show dv = .non from hd]
    refine ⟨_, _, .non, .non, by simp [SeqAt.shaped, PyData.canLay0, PyData.depth], by simp [SeqAt.shaped, PyData.canLay0, PyData.depth], false, ?_, q H3 (e2.trans e3)⟩
    simp [PyData.eqv]
  | some p =>
    obtain ⟨q2, rfl, hq2⟩ := hd
    intro q1 H2 e2 h2
    refine hb H2 (e1.trans e2) _ fun H3 e3 => ?_
    have sh := told_sh (e := p.1) (l := (p.2 : Nat)) fun n hn2 => hn p.1 n rfl hn2
    refine ⟨_, _, .tup (st_of (e3 _ _ h2)) (told_dp _ _), .tup (st_of ((e1.trans (e2.trans e3)) _ _ hq2)) (told_dp _ _), sh, sh, false, ?_, q H3 (e2.trans e3)⟩
    rw [told_eq]
    rfl)
/-! ### pieces -/
section
variable {s c : Addr} {K : PySem.W.Frag} {σ : L2.St} {G H : Hp} {ta tb te t1 t2 t3 : TE} {t : TT} {D : Ends} {tz : TS} {P : Hp → V → Prop}
/-- a test that may come to either -/
def EvTR (s c : Addr) (t : TT) (σ : L2.St) (G : Hp) : Prop := ∀ H, Wr s c G H → ∀ Q : Bool → Hp → Prop, (∀ b G2 H2, Ex G G2 → Wr s c G2 H2 → Q b H2) → t σ H Q
theorem etr_test (h : EvR s c te σ G (fun _ v => ∃ b, v = .bl b)) : EvTR s c (tTest te) σ G := fun H W Q q => h H W _ fun v G2 H2 e2 W2 ⟨b, e⟩ => ⟨b, e, q b G2 H2 e2 W2⟩
theorem er_ifR (h : EvTR s c t σ G) (h1 : ∀ G2, Ex G G2 → EvR s c ta σ G2 P) (h2 : ∀ G2, Ex G G2 → EvR s c tb σ G2 P) : EvR s c (tIf t ta tb) σ G P := fun H W Q q => h H W _ fun b G2 H2 e2 W2 => by
  cases b with
  | true => exact h1 G2 e2 H2 W2 Q fun v G3 H3 e3 W3 p => q v G3 H3 (e2.trans e3) W3 p
  | false => exact h2 G2 e2 H2 W2 Q fun v G3 H3 e3 W3 p => q v G3 H3 (e2.trans e3) W3 p
theorem eu_catA {xs ys : List V} (ha : EvU ta σ H xs) (hb : EvU tb σ H ys) (hx : xs ≠ []) (hl : xs.length + ys.length ≤ 100000) : EvU (tOp (rCatA K) ta tb) σ H (xs ++ ys) := fun H1 e Q q =>
  ha H1 e _ fun p H2 hp e2 h2 => hb H2 (e.trans e2) _ fun p2 H3 hp2 e3 h3 => ⟨p, p2, xs, ys, rfl, rfl, st_of (e3 _ _ h2), st_of h3, sz_of hl, fun z => absurd z hx,
    fun _ hy => q p H3 hp (e2.trans e3) (by rw [hy, List.append_nil]; exact e3 _ _ h2), fun _ _ p3 hp3 => q p3 _ (fresh_back (e2.trans e3) hp3) ((e2.trans e3).trans (Ex.new hp3)) upd_same⟩
theorem eu_sl1 {a : Addr} {x : V} {xs : List V} (h : Ev te σ H (.ref a)) (ho : H a = some (.tup (x :: xs))) : EvU (tSl (rSlA K) te (tPart (tC (.int 1))) tNoPart) σ H xs := fun H1 e Q q =>
  h H1 e _ fun H2 e2 => ⟨1, rfl, by
    have s1 : HT.sIx (x :: xs).length 0 (some 1) = 1 := by
      rw [show (some (1 : Int)) = some ((1 : Nat) : Int) from rfl, sIx_nat (by rw [List.length_cons]; omega)]
    refine ⟨a, _, rfl, st_of ((e.trans e2) _ _ ho), fun z => ?_, fun _ p hp => ?_⟩
    · have := z.1
      rw [s1] at this
      cases this
    · have cut : cutV (x :: xs) (some 1) none = xs := by
        unfold cutV
        rw [s1, show HT.sIx (x :: xs).length (x :: xs).length none = (x :: xs).length from rfl]
        show ((x :: xs).drop 1).take _ = _
        rw [List.drop_succ_cons, List.drop_zero, List.length_cons, Nat.add_sub_cancel, List.take_length]
      exact q p _ (fresh_back e2 hp) (e2.trans (Ex.new hp)) (by rw [upd_same, cut])⟩
theorem q_call3L {i : Nat} {v1 v2 : V} {xs : List V} {sp : Sp} {E : XK} (h1 : Ev t1 σ H v1) (h2 : Ev t2 σ H v2) (h3 : EvL t3 σ H xs) (hs : ∀ p H1, Ex H H1 → H1 p = some (.lst xs) → sp [v1, v2, .ref p] H1 (fun v H2 => tz D (σ.set i (some v)) H2) E) :
    tSeq (tAsg (tCall sp [] E (tCons t1 (tCons t2 (tCons t3 tNil)))) (gName i)) tz D σ H := h1 H (Ex.refl H) _ fun H1 e1 => h2 H1 e1 _ fun H2 e2 => h3 H2 (e1.trans e2) _ fun p H3 hp e3 h => hs p H3 (e1.trans (e2.trans e3)) h
theorem ev_joinO {sep : Str} {ys : List Str} {p : Addr} (h : Ev ta σ H (.str sep)) (hl : Ev te σ H (.ref p)) (hp : H p = some (.lst (ys.map V.str))) (hz : (ys.map (·.length)).sum + ys.length * sep.length ≤ 16777216) :
    Ev (tM1 (fun x xs H Q => ∃ a p, ∃ ys : List Str, x = .str a ∧ xs = [.ref p] ∧ (SqL K H p (ys.map V.str) ∨ SqT K H p (ys.map V.str)) ∧ (ys.map (·.length)).sum + ys.length * a.length ≤ 16777216 ∧ Q (.str (Txt.join a ys)) H) ta te) σ H (.str (Txt.join sep ys)) := fun H1 e Q q =>
  h H1 e _ fun H2 e2 => ⟨⟨sep, rfl⟩, hl H2 (e.trans e2) _ fun H3 e3 => ⟨sep, p, ys, rfl, rfl, .inl (sq_of ((e.trans (e2.trans e3)) _ _ hp)), hz, q H3 (e2.trans e3)⟩⟩
/-- what is known, new -/
theorem q_known {i : Nat} (k : ∀ kd r v w H1, H kd = none → H r = none → H v = none → H w = none → [kd, r, v, w].Nodup → Ex H H1 → H1 kd = some (.dK (sd [("rows", .ref r), ("values", .ref v), ("new", .ref w), ("stage", .int 1)])) →
      H1 r = some (.dK []) → H1 v = some (.dK []) → H1 w = some (.dK []) → tz D (σ.set i (some (.ref kd))) H1) :
    tSeq (tAsg (tDisp [(tC (.str "rows"), tDNewK), (tC (.str "values"), tDNewK), (tC (.str "new"), tDNewK), (tC (.str "stage"), tC (.int 1))]) (gName i)) tz D σ H := fun kd hk r hr v hv w hw => by
  have n1 : r ≠ kd := fun z => by rw [z, upd_same] at hr; cases hr
  have n2 : v ≠ r := fun z => by rw [z, upd_same] at hv; cases hv
  rw [upd_ne n2] at hv
  have n3 : v ≠ kd := fun z => by rw [z, upd_same] at hv; cases hv
  have n4 : w ≠ v := fun z => by rw [z, upd_same] at hw; cases hw
  rw [upd_ne n4] at hw
  have n5 : w ≠ r := fun z => by rw [z, upd_same] at hw; cases hw
  rw [upd_ne n5] at hw
  have n6 : w ≠ kd := fun z => by rw [z, upd_same] at hw; cases hw
  rw [upd_ne n1] at hr
  rw [upd_ne n3] at hv
  rw [upd_ne n6] at hw
  refine ⟨by rw [upd_ne n6.symm, upd_ne n3.symm, upd_ne n1.symm, upd_same], [(.inr "rows", .ref r), (.inr "values", .ref v), (.inr "new", .ref w), (.inr "stage", .int 1)], rfl, Nat.le_of_ble_eq_true rfl, ?_⟩
  have hm : mergeK [] [(.inr "rows", .ref r), (.inr "values", .ref v), (.inr "new", .ref w), (.inr "stage", .int 1)] = sd [("rows", .ref r), ("values", .ref v), ("new", .ref w), ("stage", .int 1)] := by
    show putK (putK (putK (putK (sd []) (.inr "rows") (.ref r)) (.inr "values") (.ref v)) (.inr "new") (.ref w)) (.inr "stage") (.int 1) = _
    rw [putK_sd rfl, putK_sd rfl, putK_sd rfl, putK_sd rfl]
    rfl
  rw [hm]
  refine k kd r v w _ hk hr hv hw ?_ ?_ upd_same ?_ ?_ ?_
  · simp only [List.nodup_cons, List.mem_cons, List.not_mem_nil, or_false, not_or, List.nodup_nil, and_true, not_false_eq_true]
    exact ⟨⟨n1.symm, n3.symm, n6.symm⟩, ⟨n2.symm, n5.symm⟩, n4.symm⟩
  · exact Ex.mut (Ex.mut (Ex.mut (Ex.mut (Ex.mut (Ex.refl H) hk) hr) hv) hw) hk
  · rw [upd_ne n1, upd_ne n5.symm, upd_ne n2.symm, upd_same]
  · rw [upd_ne n3, upd_ne n4.symm, upd_same]
  · rw [upd_ne n6, upd_same]
end
/-! ### what is known, after a line -/
theorem news_nod {tabs : Tabs} {st : St} {bad : Bool} {ln : Line} (h : (st.news.map (·.1)).Nodup) (he : lineErr tabs st bad ln = none) : ((ln.step tabs st).news.map (·.1)).Nodup := by
  have hc : firstE (ln.checks tabs st) = none := by
    unfold lineErr at he
    split at he
    · cases he
    · exact he
  cases ln with
  | new n t u ts =>
    have hn : newErr st n = none := by
      cases z : newErr st n with
      | none => rfl
      | some e =>
        have : firstE (newErr st n :: tabErr tabs t :: _) = none := hc
        rw [z] at this
        cases this
    obtain ⟨_, _, _, g⟩ := newErr_none hn
    show ((st.news ++ [(n, ixT tabs t)]).map (·.1)).Nodup
    rw [List.map_append, List.nodup_append]
    refine ⟨h, by simp, fun a ha b hb => ?_⟩
    rw [show b = n from List.mem_singleton.mp hb]
    rintro rfl
    obtain ⟨p, hp, e⟩ := List.mem_map.mp ha
    have := List.lookup_eq_none_iff.mp g p hp
    rw [e] at this
    simp at this
  | _ => exact h
theorem Bd.less {U : List Str} {m n : Nat} {st : St} (b : Bd U m st) (h : n ≤ m) : Bd U n st := ⟨by have := b.sum; omega, b.nw, b.nd, b.sub⟩
theorem Bd.ini (U : List Str) {m : Nat} (h : m ≤ 8) : Bd U m St.ini := ⟨by show 0 + 0 + m ≤ 8; omega, Nat.zero_le _, List.nodup_nil, fun v h => nomatch h⟩
theorem hText_sz {nm : Str} {ls : List (Bool × Line)} (hn : isName nm = true) (ok : ∀ p ∈ ls, p.2.ok) (hl : ls.length ≤ 8) : (((hFirst nm :: ls.map fun p => lineText p.1 p.2)).map (·.length)).sum + (hFirst nm :: ls.map fun p => lineText p.1 p.2).length * ("\n" : Str).length ≤ 16777216 := by
  refine join_sz (fun y hy => ?_) (by rw [List.length_cons, List.length_map]; omega) (by decide +kernel)
  rcases List.mem_cons.mp hy with rfl | hy
  · have h1 := (name_len hn).2
    unfold hFirst
    rw [sp_ap, sp_one, len_cat, len_cat]
    have h2 : ("handler" : Str).length = 7 := by decide +kernel
    have h3 : (" " : Str).length = 1 := by decide +kernel
    omega
  · obtain ⟨p, hp, rfl⟩ := List.mem_map.mp hy
    have := words_len (wordsB_wd (bad := p.1) (ok p hp)) (wordsB_len (ok p hp))
    unfold lineText
    omega
end K23

set_option Elab.async false
set_option linter.all false
set_option maxRecDepth 100000
set_option maxHeartbeats 4000000
/-! the law -/
namespace K23
open PySem PySem.Spec PyProof.Rows L2 Evl
def spLaw (K : PySem.W.Frag) : Sp := fun vs H Q _ => ∃ (l : Addr) (ns : List Int), vs = [.ref l] ∧ SqL K H l (ns.map V.int) ∧ ∀ H2, Q (.bl true) H2
/-- what the loop over the lines keeps -/
structure Lp (tabs : Tabs) (ls : List (Bool × Line)) (U : List Str) (kd r v w : Addr) (H0 : Hp) (i : Nat) (dv : V) (H : Hp) : Prop where
  ex : Ex H0 H
  st : ∃ st o, KnL tabs st (stg st : Nat) kd r v w H ∧ (st.news.map (·.1)).Nodup ∧ Bd U (ls.length - i) st ∧ DueM o dv H ∧ (match o with
    | none => runE tabs St.ini 2 ls = runE tabs st (2 + i) (ls.drop i)
    | some p => runE tabs St.ini 2 ls = some p)
theorem Lp.mono {tabs : Tabs} {ls : List (Bool × Line)} {U : List Str} {kd r v w : Addr} {H0 H H' : Hp} {i : Nat} {dv : V} (h : Lp tabs ls U kd r v w H0 i dv H) (e : Ex H H') : Lp tabs ls U kd r v w H0 i dv H' := by
  obtain ⟨st, o, k, hn, b, d, q⟩ := h.st
  exact ⟨h.ex.trans e, st, o, k.mono e, hn, b, d.mono e, q⟩
theorem KnL.dks {tabs : Tabs} {st : St} {sg : Int} {kd r v w : Addr} {H : Hp} (h : KnL tabs st sg kd r v w H) : ∀ b ∈ [kd, r, v, w], ∃ m, H b = some (.dK m) := by
  simp only [List.forall_mem_cons]
  exact ⟨⟨_, h.kd⟩, ⟨_, h.r⟩, ⟨_, h.v⟩, ⟨_, h.w⟩, fun _ h => nomatch h⟩
theorem DueM.nk {o : Option (Er × Nat)} {dv : V} {B : List Addr} {H H' : Hp} (h : DueM o dv H) (hB : ∀ b ∈ B, ∃ m, H b = some (.dK m)) (n : Nk B H H') : DueM o dv H' := by
  cases o with
  | none => exact h
  | some p =>
    obtain ⟨q, h1, h2⟩ := h
    exact ⟨q, h1, nk_keep hB n h2 (fun _ z => by cases z)⟩
theorem runE_drop {tabs : Tabs} {st : St} {k i : Nat} {ls : List (Bool × Line)} (hi : i < ls.length) : runE tabs st k (ls.drop i) = match lineErr tabs st ls[i].1 ls[i].2 with
    | some e => some (e, k)
    | none => runE tabs (ls[i].2.step tabs st) (k + 1) (ls.drop (i + 1)) := by
  rw [List.drop_eq_getElem_cons hi]
  rfl
section
variable {P : Program} {w : World} {K : PySem.W.Frag} {mg : Str → Option Value} {base : Heap}
theorem ok_law (T : Txt K mg) {fd : FuncData} (F : FunD K "law" "law" (defArgs s_law) (defBody s_law) (defScope s_law) [] [] (a_law K) fd) : FnOk P w K mg base CX0 12 (a_law K) fd ["_law_script"] (spLaw K) := by
  have c_law_get_state := ok_law_get_state (P := P) (w := w) (base := base) T
  have c_law_get_words := ok_law_get_words (P := P) (w := w) (base := base) T
  have c_law_forest := ok_law_forest (P := P) (w := w) (base := base) T
  have c_law_draw := ok_law_draw (P := P) (w := w) (base := base) T
  have c_law_schema_of := ok_law_schema_of (P := P) (w := w) (base := base) T
  have c_law_soup_line := ok_law_soup_line (P := P) (w := w) (base := base) T
  have c_law_line_error := ok_law_line_error (P := P) (w := w) (base := base) T
  have c_law_handler_told := ok_law_handler_told (P := P) (w := w) (base := base) T
  refine F.ok (k := 11) sc_law (fun vs H Q E h => ?_) (fun cdv A outer s H vs Q E hr h => ?_)
  · obtain ⟨l, ns, rfl, _⟩ := h; rfl
  · obtain ⟨l, ns, rfl, hl, q⟩ := h
    refine ⟨_, (PSs.nox (pss_cons (ps_set (i := 1) sc_law.nd rfl (by first | exact Or.inl rfl | exact Or.inr rfl) (pe_cx c_law_get_state hr (by decide) pass0 (pa_cons (pv 0) pa_nil)))
        (pss_cons (ps_set (i := 2) sc_law.nd rfl (by first | exact Or.inl rfl | exact Or.inr rfl) (pe_cx c_law_get_words hr (by decide) pass0 (pa_cons (pv 1) (pa_cons pe_int (pa_cons pe_int pa_nil)))))
        (pss_cons (ps_set (i := 3) sc_law.nd rfl (by first | exact Or.inl rfl | exact Or.inr rfl) (pe_cx c_law_forest hr (by decide) pass0 (pa_cons (pv 1) (pa_cons (pv 2) (pa_cons pe_int pa_nil)))))
        (pss_cons (ps_set (i := 4) sc_law.nd rfl (by first | exact Or.inl rfl | exact Or.inr rfl) (pe_op op_cat (pe_ix ix_tup (pe_ix ix_list (pv 3) (pe_cx c_law_draw hr (by decide) pass0 (pa_cons (pv 1) (pa_cons (pe_callB call_lenL (by rfl) T.b_len PySem.boot_len (pa_cons (pv 3) pa_nil)) pa_nil))) (fun _ _ => rfl)) pe_int (fun _ _ => rfl)) (pe_lst (pa_cons (pe_ix ix_list (pv 2) (pe_cx c_law_draw hr (by decide) pass0 (pa_cons (pv 1) (pa_cons pe_int pa_nil))) (fun _ _ => rfl)) pa_nil))))
        (pss_cons (ps_set (i := 5) sc_law.nd rfl (by first | exact Or.inl rfl | exact Or.inr rfl) (pe_cx c_law_schema_of hr (by decide) pass0 (pa_cons (pv 3) pa_nil)))
        (pss_cons (ps_set (i := 6) sc_law.nd rfl (by first | exact Or.inl rfl | exact Or.inr rfl) (pe_lst (pa_cons (pe_op op_add_str pe_str (pe_ix ix_list (pv 2) (pe_cx c_law_draw hr (by decide) pass0 (pa_cons (pv 1) (pa_cons pe_int pa_nil))) (fun _ _ => rfl))) pa_nil)))
        (pss_cons (ps_for PassesOwn.never rfl (pi_range1 (by rfl) T.b_range (pa_cons (pe_cx c_law_draw hr (by decide) pass0 (pa_cons (pv 1) (pa_cons pe_int pa_nil))) pa_nil)) (pg_name (i := 7) sc_law.nd rfl (by first | exact Or.inl rfl | exact Or.inr rfl)) (pss_cons (ps_set (i := 8) sc_law.nd rfl (by first | exact Or.inl rfl | exact Or.inr rfl) (pe_cx c_law_soup_line hr (by decide) pass0 (pa_cons (pv 1) (pa_cons (pv 2) (pa_cons (pv 3) (pa_cons (pv 4) pa_nil))))))
        (pss_one (ps_expr (pe_bm PySem.F.plainAttrs_list PySem.F.slot_list_append PySem.F.type_list_append mt_append (pv 6) (pa_cons (pe_ifExp (pt_cmpR op_gt (pe_cx c_law_draw hr (by decide) pass0 (pa_cons (pv 1) (pa_cons pe_int pa_nil))) pe_int (nomark _)) (pv 8) (pe_op op_add_str pe_str (pv 8))) pa_nil))))))
        (pss_cons (ps_set (i := 9) sc_law.nd rfl (by first | exact Or.inl rfl | exact Or.inr rfl) (pe_disp (pps_cons pe_str pe_dnewK (pps_cons pe_str pe_dnewK (pps_cons pe_str pe_dnewK (pps_cons pe_str pe_int pps_nil)))) (by rfl) (by rfl) (fun z => by cases z) (by decide)))
        (pss_cons (ps_set (i := 10) sc_law.nd rfl (by first | exact Or.inl rfl | exact Or.inr rfl) pe_non)
        (pss_cons (ps_for PassesOwn.never rfl (pi_range2 (by rfl) T.b_range (pa_cons pe_int (pa_cons (pe_callB call_lenL (by rfl) T.b_len PySem.boot_len (pa_cons (pv 6) pa_nil)) pa_nil))) (pg_name (i := 7) sc_law.nd rfl (by first | exact Or.inl rfl | exact Or.inr rfl)) (pss_cons (ps_set (i := 11) sc_law.nd rfl (by first | exact Or.inl rfl | exact Or.inr rfl) (pe_cx c_law_line_error hr (by decide) pass0 (pa_cons (pv 3) (pa_cons (pv 9) (pa_cons (pe_split (pe_ix ix_list (pv 6) (pv 7) (fun _ _ => rfl)) pe_str) pa_nil)))))
        (pss_one (ps_if (PW.pt (pw_and (pt_cmp (pc_notN (pv 11))) (pw_and1 (pt_cmp (pc_isN (pv 10)))))) (pss_one (ps_set (i := 10) sc_law.nd rfl (by first | exact Or.inl rfl | exact Or.inr rfl) (pe_op op_catA (pe_tup (pa_cons (pe_ix ix_tup (pv 11) pe_int (fun _ _ => rfl)) (pa_cons (pe_op op_add (pv 7) pe_int) pa_nil))) (pe_slice sl_tupA (pv 11) (po_some pe_int) po_none)))) pss_nil))))
        (pss_cons (ps_for PassesOwn.never rfl (pi_range1 (by rfl) T.b_range (pa_cons pe_int pa_nil)) (pg_name (i := 12) sc_law.nd rfl (by first | exact Or.inl rfl | exact Or.inr rfl)) (pss_one (ps_if (pt_cmpR (op_neD hr.units) (pe_cx c_law_handler_told hr (by decide) pass0 (pa_cons (pv 5) (pa_cons (pe_join pe_str (pv 6)) pa_nil))) (pv 10) (nomark _)) (pss_one (ps_ret pe_bl)) pss_nil)))
        (pss_one (ps_ret pe_bl)))))))))))))), ?_⟩
    refine q_callD (ea_cons (ev_var rfl) ea_nil) fun H1 e1 => ⟨l, ns, rfl, ex_l e1 hl, fun s c H2 hs hc ne e2 d2 => ?_⟩
    have W2 : Wr s c H1 H2 := ⟨e2, d2, hs, hc, ne⟩
    refine q_callD (ea_cons (ev_var rfl) (ea_cons ev_c (ea_cons ev_c ea_nil))) fun H3 e3 => ⟨s, c, H1, rfl, W2.ex e3, fun nms np G4 H4 okN e4 W4 hnp => ?_⟩
    refine q_callD (ea_cons (ev_var rfl) (ea_cons (ev_var rfl) (ea_cons ev_c ea_nil))) fun H5 e5 => ⟨s, c, np, G4, nms, rfl, okN, hnp, W4.ex e5, fun tabs tb G6 H6 WT hne hcn tbat e6 W6 => ?_⟩
    have hnp6 := e6 _ _ hnp
    have few := WT.few
    have tpos := List.length_pos_iff.mpr hne
    obtain ⟨tps, htps, htpl, _⟩ := tbat.ex
    -- columns
    refine r_asg W6 (er_op (Pa := fun G v => ∃ (cl : Addr) (b : Tb), v = .ref cl ∧ b ∈ tabs ∧ G cl = some (.lst (b.cols.map V.str))) (Pb := fun _ G y => ∃ (p : Addr) (x : Str), y = .ref p ∧ Nam x ∧ G p = some (.lst [.str x])) (Pc := fun G v => ∃ (p : Addr) (cols : List Str), v = .ref p ∧ (∀ x ∈ cols, Nam x) ∧ cols ≠ [] ∧ cols.length ≤ 1000 ∧ G p = some (.lst (cols.map V.str))) ?_ ?_ ?_) ?_
    · refine er_opE2 (Pa := fun G v => ∃ (p : Addr) (b : Tb) (cl : Addr), v = .ref p ∧ b ∈ tabs ∧ G p = some (.tup [.str b.name, .int (parZ b.par), .ref cl]) ∧ G cl = some (.lst (b.cols.map V.str))) (z := .int 2) (er_opE (ev_var rfl) (er_drawN (lim := ((tabs.length : Nat) : Int)) (ea_cons (ev_var rfl) (ea_cons (ev_is (ev_len (ev_var rfl) (sq_of htps)) (by rw [List.length_map, htpl])) ea_nil)) (by omega) (by omega)) fun G3 y e3 ⟨d, e, hd⟩ => ?_) (fun _ _ => ev_c) fun G3 y e3 hy => ?_
      · have hd' : d < tabs.length := by omega
        obtain ⟨xs, p, cl, h1, h2, h3, h4, _⟩ := (tbat.mono e3).row (List.getElem?_eq_getElem hd')
        exact ⟨.ref p, by rw [e]; exact rv_ixL (sq_of h1) (atI_nat h2), p, tabs[d], cl, rfl, List.getElem_mem hd', h3, h4⟩
      · obtain ⟨p, b, cl, rfl, hb, h3, h4⟩ := hy
        exact ⟨.ref cl, rv_ixT (st_of h3) (atI_nat (j := 2) rfl), cl, b, rfl, hb, h4⟩
    · intro G2 x e2 _
      refine er_w (er_lst (era_cons (ers_nmD (K := K) (k := 12) okN rfl (e2 _ _ hnp6) (ea_cons (ev_var rfl) (ea_cons ev_c ea_nil)) (by decide) (by decide) G2 (Ex.refl G2)) fun _ _ _ _ => era_nil) ?_) ?_
      · rintro G2 vs ⟨x, G3, r, _, _, rfl, rfl⟩; exact Nat.le_of_ble_eq_true rfl
      · rintro G10 y e10 ⟨p2, vs2, G11, rfl, e11, _, _, ⟨x2, G12, r2, _, ⟨cc, rfl, _, j, hj, hcc⟩, rfl, rfl⟩, hp2⟩
        exact ⟨p2, cc, rfl, by rw [hcc]; exact nm_Nam okN (by omega), hp2⟩
    · rintro G2 G3 x y e2 e3 ⟨cl, b, rfl, hb, h1⟩ ⟨p, z, rfl, hz, h2⟩
      have bl := (WT.col b hb).1
      refine fun H W Q q => er2_cat (e3 _ _ h1) h2 (by rw [List.length_map]; simp; omega) H W Q fun v G5 H5 e5 W5 ⟨p3, e, h3⟩ => q v G5 H5 e5 W5 ⟨p3, b.cols ++ [z], e, fun x hx => ?_, by simp, by rw [List.length_append]; simp; omega, ?_⟩
      · rcases List.mem_append.mp hx with hx | hx
        · exact hcn b hb x hx
        · rw [List.mem_singleton.mp hx]; exact hz
      · rw [h3, List.map_append]
        rfl
    rintro v7 G7 H7 e7 W7 ⟨cp, cols, rfl, hcols, hc0, hcl, hcp⟩
    -- schema
    refine q_callD (ea_cons (ev_var rfl) ea_nil) fun H8 e8 => ⟨tb, tabs, rfl, WT, hne, (tbat.mono (e7.trans W7.g)).mono e8, fun sc H9 e9 S9 => ?_⟩
    obtain ⟨eG9, W9⟩ := ((W7.ex e8).ex e9).full
    have S9 := S9.cut W9.d WT
    generalize cutH s c H9 = G9 at eG9 W9 S9
    have hnp9 := eG9 _ _ (e7 _ _ hnp6)
    have hcp9 := eG9 _ _ hcp
    have tb9 := tbat.mono (e7.trans eG9)
    -- the first line
    refine r_asg W9 (er_lst (era_cons (ers_cat (ers_lit (n := 10) (x := "handler ") (by decide +kernel)) (ers_nmD (K := K) (k := 12) okN rfl hnp9 (ea_cons (ev_var rfl) (ea_cons ev_c ea_nil)) (by decide) (by decide)) (by decide) G9 (Ex.refl G9)) fun _ _ _ _ => era_nil) ?_) ?_
    · rintro G2 vs ⟨x, G3, r, _, _, rfl, rfl⟩; exact Nat.le_of_ble_eq_true rfl
    rintro v10 G10 H10 e10 W10 ⟨lp, vs10, G11, rfl, e11, e911, hlp11, ⟨x10, G12, r10, _, ⟨z10, rfl, _, a10, b10, rfl, rfl, ⟨j10, hj10, rfl⟩⟩, rfl, rfl⟩, hlp⟩
    rw [t_first] at hlp
    have hnm : isName (nmI nms j10) = true := (nm_Nam okN (show j10 < 12 by omega)).1
    generalize nmI nms j10 = nm at hlp hnm
    have hlp9 : G9 lp = none := fresh_back e911 hlp11
    -- the lines
    refine r_forN (Pn := fun n => n ≤ 8) W10 (era_cons (er_drawN (ea_cons (ev_var rfl) (ea_cons ev_c ea_nil)) (by decide) (by decide)) (fun _ _ _ _ => era_nil)) ?_ ?_
    · rintro G2 vs e2 ⟨x, G3, r, _, ⟨n, rfl, p1⟩, rfl, rfl⟩
      exact ⟨n, rfl, by omega⟩
    rintro n G13 H13 e13 W13 hn8
    refine q_forR1 ea_const (by omega) (fun k σ' H' => ∃ (o7 o8 : Option V) (ls : List (Bool × Line)) (Gk : Hp), σ' = [some (.ref l), some (.ref s), some (.ref np), some (.ref tb), some (.ref cp), some (.ref sc), some (.ref lp), o7, o8, none, none, none, none] ∧ Ex G9 Gk ∧ Wr s c Gk H' ∧
        Gk lp = some (.lst ((hFirst nm :: ls.map fun p => lineText p.1 p.2).map V.str)) ∧ ls.length = k ∧ (∀ p ∈ ls, p.2.ok) ∧ (∀ p ∈ ls, ∀ u, p.2 = .value u → u ∈ [nmI nms 3, nmI nms 4, nmI nms 5])) ?_ ?_ ?_
    · intro H14 e14
      exact ⟨none, none, [], G13, rfl, e10.trans e13, W13.ex e14, e13 _ _ hlp, rfl, (fun _ h => nomatch h), (fun _ h => nomatch h)⟩
    · rintro k σ' H' hk ⟨o7, o8, ls, Gk, rfl, eGk, Wk, hlk, hlen, hok, hus⟩
      obtain ⟨tps9, htps9, htpl9, _⟩ := (tb9.mono eGk).ex
      refine q_callD (ea_cons (ev_var rfl) (ea_cons (ev_var rfl) (ea_cons (ev_var rfl) (ea_cons (ev_var rfl) ea_nil)))) fun H15 e15 => ⟨s, c, np, tb, cp, Gk, nms, cols, _, rfl, okN, eGk _ _ hnp9, hcols, hc0, hcl, eGk _ _ hcp9, htps9, by rw [List.length_map]; omega, by rw [List.length_map]; omega, Wk.ex e15, fun ln H16 okl hu W16 => ?_⟩
      have ll : (Txt.join " " ln.words).length ≤ 610 := words_len (Line.wds okl) (by have := Line.words_len okl; omega)
      have lb : ("bad " : Str).length = 4 := by decide +kernel
      refine r_app W16 (ev_var rfl) hlk (by rw [List.length_map, List.length_cons, List.length_map]; omega) (er_ifR (P := fun _ v => ∃ bad, v = .str (lineText bad ln)) (etr_test (er_opE2 (Pc := fun _ v => ∃ b, v = .bl b) (z := .int 0) (er_drawN (ea_cons (ev_var rfl) (ea_cons ev_c ea_nil)) (by decide) (by decide)) (fun _ _ => ev_c) fun G3 y _ ⟨d, e, hd⟩ => ⟨.bl (decide ((0 : Int) < (d : Int))), by rw [e]; exact rv_I0, _, rfl⟩))
        (fun G2 e2 => er_w (er_of (ev_var rfl)) fun _ v _ hv => ⟨false, hv⟩)
        (fun G2 e2 => er_w (er_of (ev_op ev_c (ev_var rfl) (rv_cat (a := "bad ") (b := Txt.join " " ln.words) (by omega)))) fun _ v _ hv => ⟨true, by rw [hv, t_bad]⟩)) ?_
      rintro v17 G17 H17 e17 W17 ⟨bad, rfl⟩
      refine ⟨_, _, ls ++ [(bad, ln)], upd G17 lp (.lst ((hFirst nm :: ls.map fun p => lineText p.1 p.2).map V.str ++ [V.str (lineText bad ln)])), rfl, Ex.mut (eGk.trans e17) hlp9, W17.chg (e17 _ _ hlk), ?_, by rw [List.length_append, hlen]; rfl, fun p hp => ?_, fun p hp u hpu => ?_⟩
      · rw [upd_same, List.map_append, List.map_cons, List.map_cons, List.map_append]
        rfl
      · rcases List.mem_append.mp hp with hp | hp
        · exact hok p hp
        · rw [List.mem_singleton.mp hp]; exact okl
      · rcases List.mem_append.mp hp with hp | hp
        · exact hus p hp u hpu
        · rw [List.mem_singleton.mp hp] at hpu; exact hu u hpu
    rintro σ' H' ⟨o7, o8, ls, Gk, rfl, eGk, Wk, hlk, hlen, hok, hus⟩
    rw [Int.toNat_natCast] at hlen
    -- no more is drawn
    have e9H : Ex G9 H' := eGk.trans Wk.g
    have hlH := Wk.g _ _ hlk
    have S0 := S9.mono e9H
    have tb0 := tb9.mono e9H
    generalize hUe : [nmI nms 3, nmI nms 4, nmI nms 5] = U at hus
    have hU3 : U.length ≤ 3 := by rw [← hUe]; exact Nat.le_refl _
    have hl8 : ls.length ≤ 8 := by omega
    -- what is known
    refine q_known fun kd r v w H18 hkd hr1 hv1 hw1 hnod e18 k1 k2 k3 k4 => ?_
    refine q_asg ev_c fun H19 e19 => ?_
    have fr : ∀ b ∈ [kd, r, v, w], H' b = none := by
      simp only [List.forall_mem_cons]
      exact ⟨hkd, hr1, hv1, hw1, fun _ h => nomatch h⟩
    refine q_forR2 (lo := 1) (n := ((ls.length + 1 : Nat) : Int)) (ea_cons ev_c (ea_cons (ev_is (ev_len (ev_var rfl) (sq_of ((e18.trans e19) _ _ hlH))) (by rw [List.length_map, List.length_cons, List.length_map])) ea_nil)) (by omega)
      (fun i σ' H'' => ∃ (o7 o11 : Option V) (dv : V), σ' = [some (.ref l), some (.ref s), some (.ref np), some (.ref tb), some (.ref cp), some (.ref sc), some (.ref lp), o7, o8, some (.ref kd), some dv, o11, none] ∧ Lp tabs ls U kd r v w H' i dv H'') ?_ ?_ ?_
    · intro H20 e20
      have e1920 := e19.trans e20
      exact ⟨_, _, _, rfl, e18.trans e1920, St.ini, none, ⟨Kn.ini tabs, e1920 _ _ k1, e1920 _ _ k2, e1920 _ _ k3, e1920 _ _ k4⟩, List.nodup_nil, Bd.ini U (by omega), rfl, rfl⟩
    · rintro i σ' H20 hi ⟨o7', o11, dv, rfl, L⟩
      have hi' : i < ls.length := by omega
      obtain ⟨st, o, KL, hnn, bd, due, hrun⟩ := L.st
      have hmem := List.getElem_mem hi'
      have okl := hok _ hmem
      have hul := hus _ hmem
      have hdr := runE_drop (tabs := tabs) (st := st) (k := 2 + i) hi'
      have hat : atI ((hFirst nm :: ls.map fun p => lineText p.1 p.2).map V.str) (1 + (i : Int)) = some (.str (lineText ls[i].1 ls[i].2)) := by
        rw [show (1 + (i : Int)) = ((i + 1 : Nat) : Int) by omega]
        refine atI_nat ?_
        rw [List.map_cons, List.getElem?_cons_succ, List.getElem?_map, List.getElem?_map, List.getElem?_eq_getElem hi']
        rfl
      generalize ls[i].1 = bad at hat hdr
      generalize ls[i].2 = ln at hat hdr okl hul
      have wd := wordsB_wd (bad := bad) okl
      have wl := words_len wd (wordsB_len okl)
      refine q_call3L (v1 := .ref tb) (v2 := .ref kd) (xs := (wordsB bad ln).map V.str) (ev_var rfl) (ev_var rfl) (el_is (el_split (s := lineText bad ln) (ev_op (ev_var rfl) (ev_var rfl) (rv_ixL (sq_of (L.ex _ _ hlH)) hat)) ev_c rfl (by unfold lineText; omega)) (by unfold lineText; rw [words_split wd wordsB_ne])) fun p H21 e21 hp21 => ?_
      have KL21 := KL.mono e21
      have hvl := bd.vals hU3
      have hnl := bd.nw
      have hsm := bd.sum
      refine ⟨tb, kd, r, v, w, p, tabs, st, bad, ln, rfl, hp21, okl, WT, (tb0.mono L.ex).mono e21, KL21, hnn, by omega, by omega, hnod, ?_⟩
      cases he : lineErr tabs st bad ln with
      | none =>
        intro H22 nk KL22
        refine s_when (b := false) (et_is (et_and (a := false) (b := true) (et_is (et_notN (ev_var rfl)) (by rw [decide_eq_true rfl]; rfl)) (fun z => by cases z)) rfl) (fun z => by cases z) fun _ H23 e23 => ⟨_, _, dv, rfl, fun a ob ha => e23 _ _ (nk a ob (fun hm => by rw [fr a hm] at ha; cases ha) (e21 _ _ (L.ex _ _ ha))), ln.step tabs st, o, KL22.mono e23, news_nod hnn he, ?_, ((due.mono e21).nk KL21.dks nk).mono e23, ?_⟩
        · rw [show ls.length - i = (ls.length - (i + 1)) + 1 by omega] at bd
          exact bd.step he hul
        · rw [he] at hdr
          cases o with
          | none => exact hrun.trans hdr
          | some p => exact hrun
      | some e =>
        intro p2 H22 e22 h22
        have e2 := e21.trans e22
        have L2 := L.mono e2
        refine s_when (b := o.isNone) (et_is (et_and (a := true) (b := o.isNone) (et_is (et_notN (ev_var rfl)) (by rw [decide_eq_false (by intro z; cases z)]; rfl)) (fun _ => et_is (et_isN (ev_var rfl)) due.isN)) (Bool.true_and _)) (fun hb H23 e23 => ?_) (fun hb H23 e23 => ?_)
        · have ho : o = none := by simpa using hb
          subst ho
          have h23 := e23 _ _ h22
          refine s_asgU (eu_catA (xs := [.str e.cls, .int (1 + (i : Int) + 1)]) (eu_tup (ea_cons (ev_op (ev_var rfl) ev_c (rv_ixT (st_of h23) (atI_nat (j := 0) rfl))) (ea_cons (ev_op (ev_var rfl) ev_c rv_I0) ea_nil)) (Nat.le_of_ble_eq_true rfl)) (eu_sl1 (ev_var rfl) h23) (by simp) (by cases e <;> exact Nat.le_of_ble_eq_true rfl)) fun p3 H24 _ e24 h24 => ?_
          rw [he] at hdr
          refine ⟨_, _, _, rfl, L.ex.trans (e2.trans (e23.trans e24)), st, some (e, 2 + i), KL.mono (e2.trans (e23.trans e24)), hnn, bd.less (by omega), ⟨p3, rfl, ?_⟩, hrun.trans hdr⟩
          rw [h24]
          show some (HO.tup (V.str e.cls :: V.int (1 + (i : Int) + 1) :: (e.name.map V.str).toList)) = some (HO.tup (V.str e.cls :: V.int ((2 + i : Nat) : Int) :: (e.name.map V.str).toList))
          rw [show (1 + (i : Int) + 1) = ((2 + i : Nat) : Int) by omega]
        · refine ⟨_, _, dv, rfl, L.ex.trans (e2.trans e23), st, o, KL.mono (e2.trans e23), hnn, bd.less (by omega), due.mono (e2.trans e23), ?_⟩
          cases o with
          | none => cases hb
          | some p => exact hrun
    rintro σ' H20 ⟨o7', o11, dv, rfl, L⟩
    have hdue : DueM (runE tabs St.ini 2 ls) dv H20 := by
      obtain ⟨st, o, _, _, _, due, hrun⟩ := L.st
      rw [show (((ls.length + 1 : Nat) : Int) - 1).toNat = ls.length by omega, List.drop_length] at hrun
      cases o with
      | none => rw [hrun]; exact due
      | some p => rw [hrun]; exact due
    have hern := ern_run (tabs := tabs) ls St.ini 2 hok
    refine q_forR1 (n := 2) (ea_cons ev_c ea_nil) (by decide) (fun _ σ' H'' => ∃ (o12 : Option V), σ' = [some (.ref l), some (.ref s), some (.ref np), some (.ref tb), some (.ref cp), some (.ref sc), some (.ref lp), o7', o8, some (.ref kd), some dv, o11, o12] ∧ Ex H20 H'') ?_ ?_ ?_
    · exact fun H21 e21 => ⟨_, rfl, e21⟩
    · rintro i σ' H21 hi ⟨o12, rfl, e21⟩
      refine s_when (b := false) (et_told (o := runE tabs St.ini 2 ls) hern (fun H22 e22 Q2 q2 => ?_) (ev_var rfl) (hdue.mono e21)) (fun z => by cases z) fun _ H22 e22 => ⟨_, rfl, e21.trans e22⟩
      have e02 := L.ex.trans (e21.trans e22)
      refine (ea_cons (ev_var rfl) (ea_cons (ev_joinO ev_c (ev_var rfl) (e02 _ _ hlH) (hText_sz hnm hok hl8)) ea_nil)) H22 (Ex.refl H22) _ fun H23 e23 => ⟨sc, nm, ls, tabs, U, rfl, hnm, WT, S0.mono (e02.trans e23), hok, hl8, hU3, hus, ?_⟩
      cases hrun : runE tabs St.ini 2 ls with
      | none =>
        rw [hrun] at q2
        exact fun H24 e24 => q2 H24 (e23.trans e24)
      | some p =>
        rw [hrun] at q2
        exact fun q3 H24 e24 h24 => q2 q3 H24 (e23.trans e24) h24
    · rintro σ' H21 ⟨o12, rfl, e21⟩
      exact s_ret ev_c fun H22 e22 => q H22
end
end K23

set_option Elab.async false
set_option linter.all false
set_option maxRecDepth 100000
set_option maxHeartbeats 0
/-! the end -/
namespace K23
open PySem PySem.Spec PyProof.Rows L2
theorem facts {P : Program} {w : World} {K : PySem.W.Frag} {h : Heap} {mg : Str → Option Value} {f : Addr} (X : K.In h) (G : h.Ns mainGlobals mg) (hfa : mg ("law" : Str) = some (.ref f)) (c : SaysK K) :
    ∃ fd : FuncData, (∀ (s : Shared) (v : Value), BindsTo s fd ⟨[v], []⟩ [("_law_script", v)]) ∧ ∀ base : Heap, K.In base → base.Ns mainGlobals mg → FnOk P w K mg base CX0 12 f fd ["_law_script"] (spLaw K) := by
  have T := txt_of X G c
  obtain ⟨fd, F⟩ := T.f_law
  have e := hfa.symm.trans T.g_law
  cases e
  have b := FunD.bindsA (ps := ["_law_script"]) F fun _ _ _ _ _ _ us hl => match us, hl with | [_], _ => rfl
  exact ⟨fd, fun s v => b s [v] rfl, fun base _ _ => ok_law T F⟩
end K23
open PySem PySem.W PySem.Calls PyProof.Rows
theorem PySem.Challenge.cw_ownersagree_k23_whole_first_error_holds : PySem.Challenge.rw_ownersagree_k23_whole_first_error.Holds := by
  w_on; o_law
  refine HandSHeadRun.head_any (r := OpenLaw.row PySem.Challenge.rw_ownersagree_k23_whole_first_error) (q := view (OpenLaw.row PySem.Challenge.rw_ownersagree_k23_whole_first_error).prog [64]) (H := K23.hk) (ob := K23.ob) (M := 12000) (loose := K23.loose) (d := HandSHeadRun.topDef (OpenLaw.row PySem.Challenge.rw_ownersagree_k23_whole_first_error).prog 64) (kwd := []) K23.ob_eq
    (by kernel_rfl) (fun s => by kernel_rfl) K23.run (by kernel_rfl) (by kernel_rfl) (by kernel_rfl) (by rfl) (by first | assumption | decide +kernel) (by decide +kernel) ⟨rfl, rfl, rfl, rfl, rfl, by decide +kernel⟩ ?hw ?hc
  case hw => w_witness2
  case hc =>
    refine L2.walk_ofE (l := PySem.Challenge.rw_ownersagree_k23_whole_first_error) (n := 63) (k := 12) (x := "_law_script") (CX := L2.CX0) rfl (by decide) (by kernel_rfl) ⟨rfl, by decide, by decide⟩ ?F (fun _ _ _ _ z => z)
    intro w mg fa h Y G hmg0
    obtain ⟨K, KX, c⟩ := Y
    have hmg : mg ("law" : PySem.Str) = some (.ref fa) := by
      have e : (HandSHeadRun.topDef (OpenLaw.row PySem.Challenge.rw_ownersagree_k23_whole_first_error).prog 64).name = ("law" : PySem.Str) := by kernel_rfl
      rw [← e]
      exact hmg0
    obtain ⟨fd, hb, hF⟩ := K23.facts (P := (PySem.Challenge.rw_ownersagree_k23_whole_first_error).prog) (w := w) KX G hmg c
    exact ⟨K, fd, K23.spLaw K, KX, hb, fun H a ns hl _ hS => ⟨a, ns, rfl, hS, fun _ => rfl⟩, hF⟩
