import PyProof.Rows.All
import HandS.ForMost
import HandS.ForExc
import HandS.Defaults
import HandS.Property
import HandS.Strs
import HandS.StrMore
import HandS.IsInst
import HandS.Flow
import HandS.TupAny
import HandS.Conv
import HandS.More
import PySem.Challenge.RW_everyproduct_k77_desk_undo_redo
import KE.KExcSuper
import KE.KSuper
import HandS.ExcInit
import HandS.ExcSuper
import HandS.Head0
import HandS.Head1
import HandS.Head2
import HandS.HeadEnd
import HandS.HeadHook1
import HandS.HeadHook2
import Wide.All
import OpenK.AllK
import Wide.FinOn
import HandS.Base
import HandS.Call
import HandS.Exc
import PyProof.Gen
import HandS.GenList
import HandS.Walk
import PyProof.AutoSeq1
import HandS.Codes
import HandS.Zip
import HandS.ExcIs
set_option Elab.async false
set_option linter.all false
namespace KG
end KG
set_option maxRecDepth 100000
set_option maxHeartbeats 4000000
/-! K7T: the text of law k77: statements, slots, what the top leaves. (Printed by gen.py.) -/
namespace K77
open PySem PySem.Spec PyProof.Rows L2 KG
def top (i : Nat) : Stmt := PySem.Challenge.pw_everyproduct_k77_desk_undo_redo.main.body.getD i (.Pass ⟨0, 0, 0, 0⟩)
def keywordsV : List V := [.str "call", .str "do", .str "else", .str "false", .str "fun", .str "if", .str "let", .str "print", .str "read", .str "return", .str "row", .str "set", .str "size", .str "true", .str "while"]
abbrev s_is_name : Stmt := top 14
abbrev s_formula_words : Stmt := top 19
abbrev s_read_atom : Stmt := top 20
abbrev s_apply_nots : Stmt := top 21
abbrev s_apply_operators : Stmt := top 22
abbrev s_close_group : Stmt := top 23
abbrev s_read_formula : Stmt := top 24
abbrev s_formula_text : Stmt := top 25
abbrev s_formula_names : Stmt := top 26
abbrev s_conjoin : Stmt := top 28
abbrev s_entry_text : Stmt := top 39
abbrev s_read_rule : Stmt := top 41
abbrev s_read_entry : Stmt := top 42
abbrev s_read_book : Stmt := top 43
abbrev s_add_run : Stmt := top 54
abbrev s_read_condition : Stmt := top 55
abbrev s_take_directive : Stmt := top 56
abbrev s_read_parts : Stmt := top 57
abbrev s_each_run : Stmt := top 59
abbrev s_read_text : Stmt := top 64
abbrev s_check_switch : Stmt := top 72
abbrev s_turn_switch : Stmt := top 74
abbrev s_checked : Stmt := top 91
abbrev s_replaced : Stmt := top 92
abbrev s_narrowed : Stmt := top 93
abbrev s_opened : Stmt := top 94
abbrev s_closed : Stmt := top 95
abbrev s_edited : Stmt := top 97
abbrev s_law_draws : Stmt := top 100
abbrev s_law_take : Stmt := top 101
abbrev s_law_names : Stmt := top 102
abbrev s_law_tree : Stmt := top 103
abbrev s_law_text : Stmt := top 104
abbrev s_law_loose : Stmt := top 105
abbrev s_law_some : Stmt := top 106
abbrev s_law_lines : Stmt := top 107
abbrev s_law_book : Stmt := top 108
abbrev s_law_like : Stmt := top 109
abbrev s_law_string : Stmt := top 110
abbrev s_law_piece : Stmt := top 111
abbrev s_law_edit : Stmt := top 112
abbrev s_law_behind : Stmt := top 113
abbrev s_law_stays : Stmt := top 114
abbrev s_law_now : Stmt := top 115
abbrev s_law_undone : Stmt := top 116
abbrev s_law_redone : Stmt := top 117
abbrev s_law_ended : Stmt := top 118
abbrev s_law : Stmt := top 119
abbrev s_Book_init : Stmt := inClass (top 40) 0
abbrev s_Book_text : Stmt := inClass (top 40) 1
abbrev s_Book_narrowed : Stmt := inClass (top 40) 4
abbrev s_OpenPiece_init : Stmt := inClass (top 53) 0
abbrev s_OpenPiece_finished : Stmt := inClass (top 53) 1
abbrev s_Text_init : Stmt := inClass (top 63) 2
abbrev s_Desk_init : Stmt := inClass (top 98) 0
abbrev s_Desk_source : Stmt := inClass (top 98) 1
abbrev s_Desk_rulebook : Stmt := inClass (top 98) 2
abbrev s_Desk_behind : Stmt := inClass (top 98) 3
abbrev s_Desk_turn_to : Stmt := inClass (top 98) 4
abbrev s_Desk_apply : Stmt := inClass (top 98) 5
abbrev s_Desk_replace : Stmt := inClass (top 98) 6
abbrev s_Desk_change_book : Stmt := inClass (top 98) 7
abbrev s_Desk_undo : Stmt := inClass (top 98) 8
abbrev s_Desk_redo : Stmt := inClass (top 98) 9
abbrev s_Desk_steps : Stmt := inClass (top 98) 10
theorem sc_is_name : FnScope ["word", "sign"] ["word"] (defScope s_is_name) := ⟨rfl, rfl, rfl, by decide +kernel, rfl, by decide +kernel, by decide +kernel⟩
theorem sc_formula_words : FnScope ["text", "words", "at", "end"] ["text"] (defScope s_formula_words) := ⟨rfl, rfl, rfl, by decide +kernel, rfl, by decide +kernel, by decide +kernel⟩
theorem sc_read_atom : FnScope ["word"] ["word"] (defScope s_read_atom) := ⟨rfl, rfl, rfl, by decide +kernel, rfl, by decide +kernel, by decide +kernel⟩
theorem sc_apply_nots : FnScope ["values", "marks"] ["values", "marks"] (defScope s_apply_nots) := ⟨rfl, rfl, rfl, by decide +kernel, rfl, by decide +kernel, by decide +kernel⟩
theorem sc_apply_operators : FnScope ["values", "marks", "word", "mark", "right", "left"] ["values", "marks", "word"] (defScope s_apply_operators) := ⟨rfl, rfl, rfl, by decide +kernel, rfl, by decide +kernel, by decide +kernel⟩
theorem sc_close_group : FnScope ["values", "marks"] ["values", "marks"] (defScope s_close_group) := ⟨rfl, rfl, rfl, by decide +kernel, rfl, by decide +kernel, by decide +kernel⟩
theorem sc_read_formula : FnScope ["text", "most", "values", "marks", "wanted", "word"] ["text", "most"] (defScope s_read_formula) := ⟨rfl, rfl, rfl, by decide +kernel, rfl, by decide +kernel, by decide +kernel⟩
theorem sc_formula_text : FnScope ["formula", "word", "left", "right"] ["formula"] (defScope s_formula_text) := ⟨rfl, rfl, rfl, by decide +kernel, rfl, by decide +kernel, by decide +kernel⟩
theorem sc_formula_names : FnScope ["formula", "found", "pending", "part"] ["formula"] (defScope s_formula_names) := ⟨rfl, rfl, rfl, by decide +kernel, rfl, by decide +kernel, by decide +kernel⟩
theorem sc_conjoin : FnScope ["first", "second"] ["first", "second"] (defScope s_conjoin) := ⟨rfl, rfl, rfl, by decide +kernel, rfl, by decide +kernel, by decide +kernel⟩
theorem sc_entry_text : FnScope ["entry", "word", "told"] ["entry"] (defScope s_entry_text) := ⟨rfl, rfl, rfl, by decide +kernel, rfl, by decide +kernel, by decide +kernel⟩
theorem sc_read_rule : FnScope ["line", "at", "switches", "formula", "name"] ["line", "at", "switches"] (defScope s_read_rule) := ⟨rfl, rfl, rfl, by decide +kernel, rfl, by decide +kernel, by decide +kernel⟩
theorem sc_read_entry : FnScope ["line", "at", "switches", "words", "most", "name"] ["line", "at", "switches"] (defScope s_read_entry) := ⟨rfl, rfl, rfl, by decide +kernel, rfl, by decide +kernel, by decide +kernel⟩
theorem sc_read_book : FnScope ["text", "entries", "switches", "lines", "at", "line", "entry"] ["text"] (defScope s_read_book) := ⟨rfl, rfl, rfl, by decide +kernel, rfl, by decide +kernel, by decide +kernel⟩
theorem sc_add_run : FnScope ["parts", "string"] ["parts", "string"] (defScope s_add_run) := ⟨rfl, rfl, rfl, by decide +kernel, rfl, by decide +kernel, by decide +kernel⟩
theorem sc_read_condition : FnScope ["told", "place", "switches", "condition", "name"] ["told", "place", "switches"] (defScope s_read_condition) := ⟨rfl, rfl, rfl, by decide +kernel, rfl, by decide +kernel, by decide +kernel⟩
theorem sc_take_directive : FnScope ["pending", "word", "place", "switches", "condition", "piece"] ["pending", "word", "place", "switches"] (defScope s_take_directive) := ⟨rfl, rfl, rfl, by decide +kernel, rfl, by decide +kernel, by decide +kernel⟩
theorem sc_read_parts : FnScope ["text", "switches", "pending", "at", "place", "end"] ["text", "switches"] (defScope s_read_parts) := ⟨rfl, rfl, rfl, by decide +kernel, rfl, by decide +kernel, by decide +kernel⟩
/- generator each_run: slots ["parts", "around", "part", "inside", "kept", "other", "left"] -/
theorem sc_read_text : FnScope ["text", "book"] ["text", "book"] (defScope s_read_text) := ⟨rfl, rfl, rfl, by decide +kernel, rfl, by decide +kernel, by decide +kernel⟩
theorem sc_check_switch : FnScope ["text", "name"] ["text", "name"] (defScope s_check_switch) := ⟨rfl, rfl, rfl, by decide +kernel, rfl, by decide +kernel, by decide +kernel⟩
theorem sc_turn_switch : FnScope ["text", "name", "entries", "entry"] ["text", "name"] (defScope s_turn_switch) := ⟨rfl, rfl, rfl, by decide +kernel, rfl, by decide +kernel, by decide +kernel⟩
theorem sc_checked : FnScope ["text", "rules"] ["text", "rules"] (defScope s_checked) := ⟨rfl, rfl, rfl, by decide +kernel, rfl, by decide +kernel, by decide +kernel⟩
theorem sc_replaced : FnScope ["now", "start", "end", "new", "text", "rules"] ["now", "start", "end", "new"] (defScope s_replaced) := ⟨rfl, rfl, rfl, by decide +kernel, rfl, by decide +kernel, by decide +kernel⟩
theorem sc_narrowed : FnScope ["now", "told", "text", "rules", "book", "formula", "name"] ["now", "told"] (defScope s_narrowed) := ⟨rfl, rfl, rfl, by decide +kernel, rfl, by decide +kernel, by decide +kernel⟩
theorem sc_opened : FnScope ["now"] ["now"] (defScope s_opened) := ⟨rfl, rfl, rfl, by decide +kernel, rfl, by decide +kernel, by decide +kernel⟩
theorem sc_closed : FnScope ["text"] ["text"] (defScope s_closed) := ⟨rfl, rfl, rfl, by decide +kernel, rfl, by decide +kernel, by decide +kernel⟩
theorem sc_edited : FnScope ["now", "edit", "start", "end", "new", "rules", "told", "old", "name", "on"] ["now", "edit"] (defScope s_edited) := ⟨rfl, rfl, rfl, by decide +kernel, rfl, by decide +kernel, by decide +kernel⟩
theorem sc_law_draws : FnScope ["script", "count", "draws", "state", "cell", "number", "k"] ["script", "count"] (defScope s_law_draws) := ⟨rfl, rfl, rfl, by decide +kernel, rfl, by decide +kernel, by decide +kernel⟩
theorem sc_law_take : FnScope ["draws", "at", "many"] ["draws", "at", "many"] (defScope s_law_take) := ⟨rfl, rfl, rfl, by decide +kernel, rfl, by decide +kernel, by decide +kernel⟩
theorem sc_law_names : FnScope ["draws", "at", "letters", "size", "spot", "head", "sign", "base", "body", "count", "k", "j"] ["draws", "at"] (defScope s_law_names) := ⟨rfl, rfl, rfl, by decide +kernel, rfl, by decide +kernel, by decide +kernel⟩
theorem sc_law_tree : FnScope ["draws", "at", "names", "parts", "k", "choice", "right"] ["draws", "at", "names"] (defScope s_law_tree) := ⟨rfl, rfl, rfl, by decide +kernel, rfl, by decide +kernel, by decide +kernel⟩
theorem sc_law_text : FnScope ["tree", "left", "right"] ["tree"] (defScope s_law_text) := ⟨rfl, rfl, rfl, by decide +kernel, rfl, by decide +kernel, by decide +kernel⟩
theorem sc_law_loose : FnScope ["tree", "draws", "at", "pad", "text", "left", "right"] ["tree", "draws", "at"] (defScope s_law_loose) := ⟨rfl, rfl, rfl, by decide +kernel, rfl, by decide +kernel, by decide +kernel⟩
theorem sc_law_some : FnScope ["draws", "at", "names", "found", "k", "choice", "one", "step", "j"] ["draws", "at", "names"] (defScope s_law_some) := ⟨rfl, rfl, rfl, by decide +kernel, rfl, by decide +kernel, by decide +kernel⟩
theorem sc_law_lines : FnScope ["draws", "at", "names", "early", "lines", "name"] ["draws", "at", "names"] (defScope s_law_lines) := ⟨rfl, rfl, rfl, by decide +kernel, rfl, by decide +kernel, by decide +kernel⟩
theorem sc_law_book : FnScope ["lines", "loose", "draws", "at", "rows", "line"] ["lines", "loose", "draws", "at"] (defScope s_law_book) := ⟨rfl, rfl, rfl, by decide +kernel, rfl, by decide +kernel, by decide +kernel⟩
theorem sc_law_like : FnScope ["told", "due", "k"] ["told", "due"] (defScope s_law_like) := ⟨rfl, rfl, rfl, by decide +kernel, rfl, by decide +kernel, by decide +kernel⟩
theorem sc_law_string : FnScope ["draws", "at", "body", "k"] ["draws", "at"] (defScope s_law_string) := ⟨rfl, rfl, rfl, by decide +kernel, rfl, by decide +kernel, by decide +kernel⟩
theorem sc_law_piece : FnScope ["draws", "at", "names", "tree"] ["draws", "at", "names"] (defScope s_law_piece) := ⟨rfl, rfl, rfl, by decide +kernel, rfl, by decide +kernel, by decide +kernel⟩
theorem sc_law_edit : FnScope ["draws", "at", "now", "source", "lines", "names", "piece", "choice", "spot", "size", "plain", "rules", "tree", "line", "name"] ["draws", "at", "now"] (defScope s_law_edit) := ⟨rfl, rfl, rfl, by decide +kernel, rfl, by decide +kernel, by decide +kernel⟩
theorem sc_law_behind : FnScope ["draws", "at", "now", "edits", "k", "told"] ["draws", "at", "now"] (defScope s_law_behind) := ⟨rfl, rfl, rfl, by decide +kernel, rfl, by decide +kernel, by decide +kernel⟩
theorem sc_law_stays : FnScope ["desk", "edits", "bad", "e"] ["desk", "edits"] (defScope s_law_stays) := ⟨rfl, rfl, rfl, by decide +kernel, rfl, by decide +kernel, by decide +kernel⟩
theorem sc_law_now : FnScope ["desk", "now", "past", "future"] ["desk", "now", "past", "future"] (defScope s_law_now) := ⟨rfl, rfl, rfl, by decide +kernel, rfl, by decide +kernel, by decide +kernel⟩
theorem sc_law_undone : FnScope ["desk", "now", "past", "future", "before"] ["desk", "now", "past", "future"] (defScope s_law_undone) := ⟨rfl, rfl, rfl, by decide +kernel, rfl, by decide +kernel, by decide +kernel⟩
theorem sc_law_redone : FnScope ["desk", "now", "past", "future", "behind"] ["desk", "now", "past", "future"] (defScope s_law_redone) := ⟨rfl, rfl, rfl, by decide +kernel, rfl, by decide +kernel, by decide +kernel⟩
theorem sc_law_ended : FnScope ["desk", "now", "past", "future", "k", "before", "behind"] ["desk", "now", "past", "future"] (defScope s_law_ended) := ⟨rfl, rfl, rfl, by decide +kernel, rfl, by decide +kernel, by decide +kernel⟩
theorem sc_law : FnScope ["script", "draws", "at", "names", "lines", "first", "desk", "other", "now", "past", "future", "many", "k", "choice", "told", "handed", "before", "behind"] ["script"] (defScope s_law) := ⟨rfl, rfl, rfl, by decide +kernel, rfl, by decide +kernel, by decide +kernel⟩
theorem sc_Book_init : FnScope ["self", "entries", "word", "told"] ["self", "entries"] (defScope s_Book_init) := ⟨rfl, rfl, rfl, by decide +kernel, rfl, by decide +kernel, by decide +kernel⟩
theorem sc_Book_text : FnScope ["self", "entry"] ["self"] (defScope s_Book_text) := ⟨rfl, rfl, rfl, by decide +kernel, rfl, by decide +kernel, by decide +kernel⟩
theorem sc_Book_narrowed : FnScope ["self", "formula"] ["self", "formula"] (defScope s_Book_narrowed) := ⟨rfl, rfl, rfl, by decide +kernel, rfl, by decide +kernel, by decide +kernel⟩
theorem sc_OpenPiece_init : FnScope ["self", "condition"] ["self", "condition"] (defScope s_OpenPiece_init) := ⟨rfl, rfl, rfl, by decide +kernel, rfl, by decide +kernel, by decide +kernel⟩
theorem sc_OpenPiece_finished : FnScope ["self", "other"] ["self"] (defScope s_OpenPiece_finished) := ⟨rfl, rfl, rfl, by decide +kernel, rfl, by decide +kernel, by decide +kernel⟩
theorem sc_Text_init : FnScope ["self", "book", "parts"] ["self", "book", "parts"] (defScope s_Text_init) := ⟨rfl, rfl, rfl, by decide +kernel, rfl, by decide +kernel, by decide +kernel⟩
theorem sc_Desk_init : FnScope ["self", "text", "rules"] ["self", "text", "rules"] (defScope s_Desk_init) := ⟨rfl, rfl, rfl, by decide +kernel, rfl, by decide +kernel, by decide +kernel⟩
theorem sc_Desk_source : FnScope ["self"] ["self"] (defScope s_Desk_source) := ⟨rfl, rfl, rfl, by decide +kernel, rfl, by decide +kernel, by decide +kernel⟩
theorem sc_Desk_rulebook : FnScope ["self"] ["self"] (defScope s_Desk_rulebook) := ⟨rfl, rfl, rfl, by decide +kernel, rfl, by decide +kernel, by decide +kernel⟩
theorem sc_Desk_behind : FnScope ["self", "edits", "now", "edit"] ["self", "edits"] (defScope s_Desk_behind) := ⟨rfl, rfl, rfl, by decide +kernel, rfl, by decide +kernel, by decide +kernel⟩
theorem sc_Desk_turn_to : FnScope ["self", "now"] ["self", "now"] (defScope s_Desk_turn_to) := ⟨rfl, rfl, rfl, by decide +kernel, rfl, by decide +kernel, by decide +kernel⟩
theorem sc_Desk_apply : FnScope ["self", "edits", "now"] ["self", "edits"] (defScope s_Desk_apply) := ⟨rfl, rfl, rfl, by decide +kernel, rfl, by decide +kernel, by decide +kernel⟩
theorem sc_Desk_replace : FnScope ["self", "start", "end", "new"] ["self", "start", "end", "new"] (defScope s_Desk_replace) := ⟨rfl, rfl, rfl, by decide +kernel, rfl, by decide +kernel, by decide +kernel⟩
theorem sc_Desk_change_book : FnScope ["self", "rules"] ["self", "rules"] (defScope s_Desk_change_book) := ⟨rfl, rfl, rfl, by decide +kernel, rfl, by decide +kernel, by decide +kernel⟩
theorem sc_Desk_undo : FnScope ["self"] ["self"] (defScope s_Desk_undo) := ⟨rfl, rfl, rfl, by decide +kernel, rfl, by decide +kernel, by decide +kernel⟩
theorem sc_Desk_redo : FnScope ["self"] ["self"] (defScope s_Desk_redo) := ⟨rfl, rfl, rfl, by decide +kernel, rfl, by decide +kernel, by decide +kernel⟩
theorem sc_Desk_steps : FnScope ["self"] ["self"] (defScope s_Desk_steps) := ⟨rfl, rfl, rfl, by decide +kernel, rfl, by decide +kernel, by decide +kernel⟩
structure Tx (K : PySem.W.Frag) (mg : Str → Option Value) where
  b_len : mg "len" = none
  b_enumerate : mg "enumerate" = none
  b_all : mg "all" = none
  b_sorted : mg "sorted" = none
  b_isinstance : mg "isinstance" = none
  b_int : mg "int" = none
  b_str : mg "str" = none
  b_list : mg "list" = none
  b_tuple : mg "tuple" = none
  b_set : mg "set" = none
  b_abs : mg "abs" = none
  b_max : mg "max" = none
  b_range : mg "range" = none
  b_bool : mg "bool" = none
  c_NAME_SIGNS : ∃ t, mg "NAME_SIGNS" = some (.int 12 t)
  c_FORMULA_SIGNS : ∃ t, mg "FORMULA_SIGNS" = some (.int 240 t)
  c_MOST_SWITCHES : ∃ t, mg "MOST_SWITCHES" = some (.int 40 t)
  c_MOST_RULES : ∃ t, mg "MOST_RULES" = some (.int 60 t)
  c_MOST_IN_GROUP : ∃ t, mg "MOST_IN_GROUP" = some (.int 12 t)
  c_MOST_SIGNS : ∃ t, mg "MOST_SIGNS" = some (.int 6000 t)
  c_MOST_OPEN : ∃ t, mg "MOST_OPEN" = some (.int 12 t)
  c_LETTERS : ∃ t, mg "LETTERS" = some (.str "abcdefghijklmnopqrstuvwxyz" t)
  c_WORD_SIGNS : ∃ t, mg "WORD_SIGNS" = some (.str "abcdefghijklmnopqrstuvwxyz0123456789" t)
  c_SEPARATORS : ∃ t, mg "SEPARATORS" = some (.str " \n#" t)
  A_KEYWORDS : Addr
  m_KEYWORDS : mg "KEYWORDS" = some (.ref A_KEYWORDS)
  t_KEYWORDS : ∀ H, SqT K H A_KEYWORDS keywordsV
  A_YES : Addr
  m_YES : mg "YES" = some (.ref A_YES)
  t_YES : ∀ H, SqT K H A_YES [.str "yes"]
  A_NO : Addr
  m_NO : mg "NO" = some (.ref A_NO)
  t_NO : ∀ H, SqT K H A_NO [.str "no"]
  A_Book : Addr
  m_Book : mg "Book" = some (.ref A_Book)
  A_OpenPiece : Addr
  m_OpenPiece : mg "OpenPiece" = some (.ref A_OpenPiece)
  A_Text : Addr
  m_Text : mg "Text" = some (.ref A_Text)
  A_Desk : Addr
  m_Desk : mg "Desk" = some (.ref A_Desk)
  A_BadFormula : Addr
  m_BadFormula : mg "BadFormula" = some (.ref A_BadFormula)
  A_BadBook : Addr
  m_BadBook : mg "BadBook" = some (.ref A_BadBook)
  A_BadText : Addr
  m_BadText : mg "BadText" = some (.ref A_BadText)
  A_BadEdit : Addr
  m_BadEdit : mg "BadEdit" = some (.ref A_BadEdit)
  A_UnknownSwitch : Addr
  m_UnknownSwitch : mg "UnknownSwitch" = some (.ref A_UnknownSwitch)
  A_TooMany : Addr
  m_TooMany : mg "TooMany" = some (.ref A_TooMany)
  A_ProductError : Addr
  m_ProductError : mg "ProductError" = some (.ref A_ProductError)
  C_Book : Cls K A_Book
  C_OpenPiece : Cls K A_OpenPiece
  C_Text : Cls K A_Text
  C_Desk : Cls K A_Desk
  a_is_name : Addr
  f_is_name : FuncData
  F_is_name : Fun K "is_name" "is_name" s_is_name a_is_name f_is_name
  m_is_name : mg "is_name" = some (.ref a_is_name)
  a_formula_words : Addr
  f_formula_words : FuncData
  F_formula_words : Fun K "formula_words" "formula_words" s_formula_words a_formula_words f_formula_words
  m_formula_words : mg "formula_words" = some (.ref a_formula_words)
  a_read_atom : Addr
  f_read_atom : FuncData
  F_read_atom : Fun K "read_atom" "read_atom" s_read_atom a_read_atom f_read_atom
  m_read_atom : mg "read_atom" = some (.ref a_read_atom)
  a_apply_nots : Addr
  f_apply_nots : FuncData
  F_apply_nots : Fun K "apply_nots" "apply_nots" s_apply_nots a_apply_nots f_apply_nots
  m_apply_nots : mg "apply_nots" = some (.ref a_apply_nots)
  a_apply_operators : Addr
  f_apply_operators : FuncData
  F_apply_operators : Fun K "apply_operators" "apply_operators" s_apply_operators a_apply_operators f_apply_operators
  m_apply_operators : mg "apply_operators" = some (.ref a_apply_operators)
  a_close_group : Addr
  f_close_group : FuncData
  F_close_group : Fun K "close_group" "close_group" s_close_group a_close_group f_close_group
  m_close_group : mg "close_group" = some (.ref a_close_group)
  a_read_formula : Addr
  f_read_formula : FuncData
  F_read_formula : FunD K "read_formula" "read_formula" (defArgs s_read_formula) (defBody s_read_formula) (defScope s_read_formula) [.int 240] [] a_read_formula f_read_formula
  m_read_formula : mg "read_formula" = some (.ref a_read_formula)
  a_formula_text : Addr
  f_formula_text : FuncData
  F_formula_text : Fun K "formula_text" "formula_text" s_formula_text a_formula_text f_formula_text
  m_formula_text : mg "formula_text" = some (.ref a_formula_text)
  a_formula_names : Addr
  f_formula_names : FuncData
  F_formula_names : Fun K "formula_names" "formula_names" s_formula_names a_formula_names f_formula_names
  m_formula_names : mg "formula_names" = some (.ref a_formula_names)
  a_conjoin : Addr
  f_conjoin : FuncData
  F_conjoin : Fun K "conjoin" "conjoin" s_conjoin a_conjoin f_conjoin
  m_conjoin : mg "conjoin" = some (.ref a_conjoin)
  a_entry_text : Addr
  f_entry_text : FuncData
  F_entry_text : Fun K "entry_text" "entry_text" s_entry_text a_entry_text f_entry_text
  m_entry_text : mg "entry_text" = some (.ref a_entry_text)
  a_read_rule : Addr
  f_read_rule : FuncData
  F_read_rule : Fun K "read_rule" "read_rule" s_read_rule a_read_rule f_read_rule
  m_read_rule : mg "read_rule" = some (.ref a_read_rule)
  a_read_entry : Addr
  f_read_entry : FuncData
  F_read_entry : Fun K "read_entry" "read_entry" s_read_entry a_read_entry f_read_entry
  m_read_entry : mg "read_entry" = some (.ref a_read_entry)
  a_read_book : Addr
  f_read_book : FuncData
  F_read_book : Fun K "read_book" "read_book" s_read_book a_read_book f_read_book
  m_read_book : mg "read_book" = some (.ref a_read_book)
  a_add_run : Addr
  f_add_run : FuncData
  F_add_run : Fun K "add_run" "add_run" s_add_run a_add_run f_add_run
  m_add_run : mg "add_run" = some (.ref a_add_run)
  a_read_condition : Addr
  f_read_condition : FuncData
  F_read_condition : Fun K "read_condition" "read_condition" s_read_condition a_read_condition f_read_condition
  m_read_condition : mg "read_condition" = some (.ref a_read_condition)
  a_take_directive : Addr
  f_take_directive : FuncData
  F_take_directive : Fun K "take_directive" "take_directive" s_take_directive a_take_directive f_take_directive
  m_take_directive : mg "take_directive" = some (.ref a_take_directive)
  a_read_parts : Addr
  f_read_parts : FuncData
  F_read_parts : Fun K "read_parts" "read_parts" s_read_parts a_read_parts f_read_parts
  m_read_parts : mg "read_parts" = some (.ref a_read_parts)
  a_each_run : Addr
  f_each_run : FuncData
  F_each_run : Fun K "each_run" "each_run" s_each_run a_each_run f_each_run
  m_each_run : mg "each_run" = some (.ref a_each_run)
  a_read_text : Addr
  f_read_text : FuncData
  F_read_text : Fun K "read_text" "read_text" s_read_text a_read_text f_read_text
  m_read_text : mg "read_text" = some (.ref a_read_text)
  a_check_switch : Addr
  f_check_switch : FuncData
  F_check_switch : Fun K "check_switch" "check_switch" s_check_switch a_check_switch f_check_switch
  m_check_switch : mg "check_switch" = some (.ref a_check_switch)
  a_turn_switch : Addr
  f_turn_switch : FuncData
  F_turn_switch : Fun K "turn_switch" "turn_switch" s_turn_switch a_turn_switch f_turn_switch
  m_turn_switch : mg "turn_switch" = some (.ref a_turn_switch)
  a_checked : Addr
  f_checked : FuncData
  F_checked : Fun K "checked" "checked" s_checked a_checked f_checked
  m_checked : mg "checked" = some (.ref a_checked)
  a_replaced : Addr
  f_replaced : FuncData
  F_replaced : Fun K "replaced" "replaced" s_replaced a_replaced f_replaced
  m_replaced : mg "replaced" = some (.ref a_replaced)
  a_narrowed : Addr
  f_narrowed : FuncData
  F_narrowed : Fun K "narrowed" "narrowed" s_narrowed a_narrowed f_narrowed
  m_narrowed : mg "narrowed" = some (.ref a_narrowed)
  a_opened : Addr
  f_opened : FuncData
  F_opened : Fun K "opened" "opened" s_opened a_opened f_opened
  m_opened : mg "opened" = some (.ref a_opened)
  a_closed : Addr
  f_closed : FuncData
  F_closed : Fun K "closed" "closed" s_closed a_closed f_closed
  m_closed : mg "closed" = some (.ref a_closed)
  a_edited : Addr
  f_edited : FuncData
  F_edited : Fun K "edited" "edited" s_edited a_edited f_edited
  m_edited : mg "edited" = some (.ref a_edited)
  a_law_draws : Addr
  f_law_draws : FuncData
  F_law_draws : Fun K "_law_draws" "_law_draws" s_law_draws a_law_draws f_law_draws
  m_law_draws : mg "_law_draws" = some (.ref a_law_draws)
  a_law_take : Addr
  f_law_take : FuncData
  F_law_take : Fun K "_law_take" "_law_take" s_law_take a_law_take f_law_take
  m_law_take : mg "_law_take" = some (.ref a_law_take)
  a_law_names : Addr
  f_law_names : FuncData
  F_law_names : Fun K "_law_names" "_law_names" s_law_names a_law_names f_law_names
  m_law_names : mg "_law_names" = some (.ref a_law_names)
  a_law_tree : Addr
  f_law_tree : FuncData
  F_law_tree : Fun K "_law_tree" "_law_tree" s_law_tree a_law_tree f_law_tree
  m_law_tree : mg "_law_tree" = some (.ref a_law_tree)
  a_law_text : Addr
  f_law_text : FuncData
  F_law_text : Fun K "_law_text" "_law_text" s_law_text a_law_text f_law_text
  m_law_text : mg "_law_text" = some (.ref a_law_text)
  a_law_loose : Addr
  f_law_loose : FuncData
  F_law_loose : Fun K "_law_loose" "_law_loose" s_law_loose a_law_loose f_law_loose
  m_law_loose : mg "_law_loose" = some (.ref a_law_loose)
  a_law_some : Addr
  f_law_some : FuncData
  F_law_some : Fun K "_law_some" "_law_some" s_law_some a_law_some f_law_some
  m_law_some : mg "_law_some" = some (.ref a_law_some)
  a_law_lines : Addr
  f_law_lines : FuncData
  F_law_lines : Fun K "_law_lines" "_law_lines" s_law_lines a_law_lines f_law_lines
  m_law_lines : mg "_law_lines" = some (.ref a_law_lines)
  a_law_book : Addr
  f_law_book : FuncData
  F_law_book : Fun K "_law_book" "_law_book" s_law_book a_law_book f_law_book
  m_law_book : mg "_law_book" = some (.ref a_law_book)
  a_law_like : Addr
  f_law_like : FuncData
  F_law_like : Fun K "_law_like" "_law_like" s_law_like a_law_like f_law_like
  m_law_like : mg "_law_like" = some (.ref a_law_like)
  a_law_string : Addr
  f_law_string : FuncData
  F_law_string : Fun K "_law_string" "_law_string" s_law_string a_law_string f_law_string
  m_law_string : mg "_law_string" = some (.ref a_law_string)
  a_law_piece : Addr
  f_law_piece : FuncData
  F_law_piece : Fun K "_law_piece" "_law_piece" s_law_piece a_law_piece f_law_piece
  m_law_piece : mg "_law_piece" = some (.ref a_law_piece)
  a_law_edit : Addr
  f_law_edit : FuncData
  F_law_edit : Fun K "_law_edit" "_law_edit" s_law_edit a_law_edit f_law_edit
  m_law_edit : mg "_law_edit" = some (.ref a_law_edit)
  a_law_behind : Addr
  f_law_behind : FuncData
  F_law_behind : Fun K "_law_behind" "_law_behind" s_law_behind a_law_behind f_law_behind
  m_law_behind : mg "_law_behind" = some (.ref a_law_behind)
  a_law_stays : Addr
  f_law_stays : FuncData
  F_law_stays : Fun K "_law_stays" "_law_stays" s_law_stays a_law_stays f_law_stays
  m_law_stays : mg "_law_stays" = some (.ref a_law_stays)
  a_law_now : Addr
  f_law_now : FuncData
  F_law_now : Fun K "_law_now" "_law_now" s_law_now a_law_now f_law_now
  m_law_now : mg "_law_now" = some (.ref a_law_now)
  a_law_undone : Addr
  f_law_undone : FuncData
  F_law_undone : Fun K "_law_undone" "_law_undone" s_law_undone a_law_undone f_law_undone
  m_law_undone : mg "_law_undone" = some (.ref a_law_undone)
  a_law_redone : Addr
  f_law_redone : FuncData
  F_law_redone : Fun K "_law_redone" "_law_redone" s_law_redone a_law_redone f_law_redone
  m_law_redone : mg "_law_redone" = some (.ref a_law_redone)
  a_law_ended : Addr
  f_law_ended : FuncData
  F_law_ended : Fun K "_law_ended" "_law_ended" s_law_ended a_law_ended f_law_ended
  m_law_ended : mg "_law_ended" = some (.ref a_law_ended)
  a_law : Addr
  f_law : FuncData
  F_law : Fun K "law" "law" s_law a_law f_law
  m_law : mg "law" = some (.ref a_law)
  a_Book_init : Addr
  f_Book_init : FuncData
  F_Book_init : Fun K "__init__" "Book.__init__" s_Book_init a_Book_init f_Book_init
  K_Book : Mk K A_Book a_Book_init
  a_Book_text : Addr
  f_Book_text : FuncData
  F_Book_text : Fun K "text" "Book.text" s_Book_text a_Book_text f_Book_text
  M_Book_text : Meth K A_Book "text" a_Book_text
  a_Book_narrowed : Addr
  f_Book_narrowed : FuncData
  F_Book_narrowed : Fun K "narrowed" "Book.narrowed" s_Book_narrowed a_Book_narrowed f_Book_narrowed
  M_Book_narrowed : Meth K A_Book "narrowed" a_Book_narrowed
  a_OpenPiece_init : Addr
  f_OpenPiece_init : FuncData
  F_OpenPiece_init : Fun K "__init__" "OpenPiece.__init__" s_OpenPiece_init a_OpenPiece_init f_OpenPiece_init
  K_OpenPiece : Mk K A_OpenPiece a_OpenPiece_init
  a_OpenPiece_finished : Addr
  f_OpenPiece_finished : FuncData
  F_OpenPiece_finished : Fun K "finished" "OpenPiece.finished" s_OpenPiece_finished a_OpenPiece_finished f_OpenPiece_finished
  M_OpenPiece_finished : Meth K A_OpenPiece "finished" a_OpenPiece_finished
  a_Text_init : Addr
  f_Text_init : FuncData
  F_Text_init : Fun K "__init__" "Text.__init__" s_Text_init a_Text_init f_Text_init
  K_Text : Mk K A_Text a_Text_init
  a_Desk_init : Addr
  f_Desk_init : FuncData
  F_Desk_init : Fun K "__init__" "Desk.__init__" s_Desk_init a_Desk_init f_Desk_init
  K_Desk : Mk K A_Desk a_Desk_init
  a_Desk_source : Addr
  f_Desk_source : FuncData
  F_Desk_source : Fun K "source" "Desk.source" s_Desk_source a_Desk_source f_Desk_source
  P_source : ∃ p, PropOf K A_Desk "source" p a_Desk_source
  a_Desk_rulebook : Addr
  f_Desk_rulebook : FuncData
  F_Desk_rulebook : Fun K "rulebook" "Desk.rulebook" s_Desk_rulebook a_Desk_rulebook f_Desk_rulebook
  P_rulebook : ∃ p, PropOf K A_Desk "rulebook" p a_Desk_rulebook
  a_Desk_behind : Addr
  f_Desk_behind : FuncData
  F_Desk_behind : Fun K "_behind" "Desk._behind" s_Desk_behind a_Desk_behind f_Desk_behind
  M_Desk_behind : Meth K A_Desk "_behind" a_Desk_behind
  a_Desk_turn_to : Addr
  f_Desk_turn_to : FuncData
  F_Desk_turn_to : Fun K "_turn_to" "Desk._turn_to" s_Desk_turn_to a_Desk_turn_to f_Desk_turn_to
  M_Desk_turn_to : Meth K A_Desk "_turn_to" a_Desk_turn_to
  a_Desk_apply : Addr
  f_Desk_apply : FuncData
  F_Desk_apply : Fun K "apply" "Desk.apply" s_Desk_apply a_Desk_apply f_Desk_apply
  M_Desk_apply : Meth K A_Desk "apply" a_Desk_apply
  a_Desk_replace : Addr
  f_Desk_replace : FuncData
  F_Desk_replace : Fun K "replace" "Desk.replace" s_Desk_replace a_Desk_replace f_Desk_replace
  M_Desk_replace : Meth K A_Desk "replace" a_Desk_replace
  a_Desk_change_book : Addr
  f_Desk_change_book : FuncData
  F_Desk_change_book : Fun K "change_book" "Desk.change_book" s_Desk_change_book a_Desk_change_book f_Desk_change_book
  M_Desk_change_book : Meth K A_Desk "change_book" a_Desk_change_book
  a_Desk_undo : Addr
  f_Desk_undo : FuncData
  F_Desk_undo : Fun K "undo" "Desk.undo" s_Desk_undo a_Desk_undo f_Desk_undo
  M_Desk_undo : Meth K A_Desk "undo" a_Desk_undo
  a_Desk_redo : Addr
  f_Desk_redo : FuncData
  F_Desk_redo : Fun K "redo" "Desk.redo" s_Desk_redo a_Desk_redo f_Desk_redo
  M_Desk_redo : Meth K A_Desk "redo" a_Desk_redo
  a_Desk_steps : Addr
  f_Desk_steps : FuncData
  F_Desk_steps : Fun K "steps" "Desk.steps" s_Desk_steps a_Desk_steps f_Desk_steps
  M_Desk_steps : Meth K A_Desk "steps" a_Desk_steps
  N_Book_entries : NoAttr K A_Book "entries"
  N_Book_switches : NoAttr K A_Book "switches"
  N_OpenPiece_condition : NoAttr K A_OpenPiece "condition"
  N_OpenPiece_sides : NoAttr K A_OpenPiece "sides"
  N_Text_book : NoAttr K A_Text "book"
  N_Text_parts : NoAttr K A_Text "parts"
  N_Text_runs : NoAttr K A_Text "_runs"
  N_Desk_now : NoAttr K A_Desk "_now"
  N_Desk_past : NoAttr K A_Desk "_past"
  N_Desk_future : NoAttr K A_Desk "_future"
  N_Desk_road : NoAttr K A_Desk "_road"
section
variable {K : PySem.W.Frag} {mg : Str → Option Value}
theorem Tx.B_is_name (T : Tx K mg) : Binds K T.f_is_name ["word"] [] := T.F_is_name.binds fun _ _ _ _ _ _ us hl => match us, hl with | [_], _ => rfl
theorem Tx.B_formula_words (T : Tx K mg) : Binds K T.f_formula_words ["text"] [] := T.F_formula_words.binds fun _ _ _ _ _ _ us hl => match us, hl with | [_], _ => rfl
theorem Tx.B_read_atom (T : Tx K mg) : Binds K T.f_read_atom ["word"] [] := T.F_read_atom.binds fun _ _ _ _ _ _ us hl => match us, hl with | [_], _ => rfl
theorem Tx.B_apply_nots (T : Tx K mg) : Binds K T.f_apply_nots ["values", "marks"] [] := T.F_apply_nots.binds fun _ _ _ _ _ _ us hl => match us, hl with | [_, _], _ => rfl
theorem Tx.B_apply_operators (T : Tx K mg) : Binds K T.f_apply_operators ["values", "marks", "word"] [] := T.F_apply_operators.binds fun _ _ _ _ _ _ us hl => match us, hl with | [_, _, _], _ => rfl
theorem Tx.B_close_group (T : Tx K mg) : Binds K T.f_close_group ["values", "marks"] [] := T.F_close_group.binds fun _ _ _ _ _ _ us hl => match us, hl with | [_, _], _ => rfl
theorem Tx.B_formula_text (T : Tx K mg) : Binds K T.f_formula_text ["formula"] [] := T.F_formula_text.binds fun _ _ _ _ _ _ us hl => match us, hl with | [_], _ => rfl
theorem Tx.B_formula_names (T : Tx K mg) : Binds K T.f_formula_names ["formula"] [] := T.F_formula_names.binds fun _ _ _ _ _ _ us hl => match us, hl with | [_], _ => rfl
theorem Tx.B_conjoin (T : Tx K mg) : Binds K T.f_conjoin ["first", "second"] [] := T.F_conjoin.binds fun _ _ _ _ _ _ us hl => match us, hl with | [_, _], _ => rfl
theorem Tx.B_entry_text (T : Tx K mg) : Binds K T.f_entry_text ["entry"] [] := T.F_entry_text.binds fun _ _ _ _ _ _ us hl => match us, hl with | [_], _ => rfl
theorem Tx.B_read_rule (T : Tx K mg) : Binds K T.f_read_rule ["line", "at", "switches"] [] := T.F_read_rule.binds fun _ _ _ _ _ _ us hl => match us, hl with | [_, _, _], _ => rfl
theorem Tx.B_read_entry (T : Tx K mg) : Binds K T.f_read_entry ["line", "at", "switches"] [] := T.F_read_entry.binds fun _ _ _ _ _ _ us hl => match us, hl with | [_, _, _], _ => rfl
theorem Tx.B_read_book (T : Tx K mg) : Binds K T.f_read_book ["text"] [] := T.F_read_book.binds fun _ _ _ _ _ _ us hl => match us, hl with | [_], _ => rfl
theorem Tx.B_add_run (T : Tx K mg) : Binds K T.f_add_run ["parts", "string"] [] := T.F_add_run.binds fun _ _ _ _ _ _ us hl => match us, hl with | [_, _], _ => rfl
theorem Tx.B_read_condition (T : Tx K mg) : Binds K T.f_read_condition ["told", "place", "switches"] [] := T.F_read_condition.binds fun _ _ _ _ _ _ us hl => match us, hl with | [_, _, _], _ => rfl
theorem Tx.B_take_directive (T : Tx K mg) : Binds K T.f_take_directive ["pending", "word", "place", "switches"] [] := T.F_take_directive.binds fun _ _ _ _ _ _ us hl => match us, hl with | [_, _, _, _], _ => rfl
theorem Tx.B_read_parts (T : Tx K mg) : Binds K T.f_read_parts ["text", "switches"] [] := T.F_read_parts.binds fun _ _ _ _ _ _ us hl => match us, hl with | [_, _], _ => rfl
theorem Tx.B_each_run (T : Tx K mg) : Binds K T.f_each_run ["parts", "around"] [] := T.F_each_run.binds fun _ _ _ _ _ _ us hl => match us, hl with | [_, _], _ => rfl
theorem Tx.B_read_text (T : Tx K mg) : Binds K T.f_read_text ["text", "book"] [] := T.F_read_text.binds fun _ _ _ _ _ _ us hl => match us, hl with | [_, _], _ => rfl
theorem Tx.B_check_switch (T : Tx K mg) : Binds K T.f_check_switch ["text", "name"] [] := T.F_check_switch.binds fun _ _ _ _ _ _ us hl => match us, hl with | [_, _], _ => rfl
theorem Tx.B_turn_switch (T : Tx K mg) : Binds K T.f_turn_switch ["text", "name"] [] := T.F_turn_switch.binds fun _ _ _ _ _ _ us hl => match us, hl with | [_, _], _ => rfl
theorem Tx.B_checked (T : Tx K mg) : Binds K T.f_checked ["text", "rules"] [] := T.F_checked.binds fun _ _ _ _ _ _ us hl => match us, hl with | [_, _], _ => rfl
theorem Tx.B_replaced (T : Tx K mg) : Binds K T.f_replaced ["now", "start", "end", "new"] [] := T.F_replaced.binds fun _ _ _ _ _ _ us hl => match us, hl with | [_, _, _, _], _ => rfl
theorem Tx.B_narrowed (T : Tx K mg) : Binds K T.f_narrowed ["now", "told"] [] := T.F_narrowed.binds fun _ _ _ _ _ _ us hl => match us, hl with | [_, _], _ => rfl
theorem Tx.B_opened (T : Tx K mg) : Binds K T.f_opened ["now"] [] := T.F_opened.binds fun _ _ _ _ _ _ us hl => match us, hl with | [_], _ => rfl
theorem Tx.B_closed (T : Tx K mg) : Binds K T.f_closed ["text"] [] := T.F_closed.binds fun _ _ _ _ _ _ us hl => match us, hl with | [_], _ => rfl
theorem Tx.B_edited (T : Tx K mg) : Binds K T.f_edited ["now", "edit"] [] := T.F_edited.binds fun _ _ _ _ _ _ us hl => match us, hl with | [_, _], _ => rfl
theorem Tx.B_law_draws (T : Tx K mg) : Binds K T.f_law_draws ["script", "count"] [] := T.F_law_draws.binds fun _ _ _ _ _ _ us hl => match us, hl with | [_, _], _ => rfl
theorem Tx.B_law_take (T : Tx K mg) : Binds K T.f_law_take ["draws", "at", "many"] [] := T.F_law_take.binds fun _ _ _ _ _ _ us hl => match us, hl with | [_, _, _], _ => rfl
theorem Tx.B_law_names (T : Tx K mg) : Binds K T.f_law_names ["draws", "at"] [] := T.F_law_names.binds fun _ _ _ _ _ _ us hl => match us, hl with | [_, _], _ => rfl
theorem Tx.B_law_tree (T : Tx K mg) : Binds K T.f_law_tree ["draws", "at", "names"] [] := T.F_law_tree.binds fun _ _ _ _ _ _ us hl => match us, hl with | [_, _, _], _ => rfl
theorem Tx.B_law_text (T : Tx K mg) : Binds K T.f_law_text ["tree"] [] := T.F_law_text.binds fun _ _ _ _ _ _ us hl => match us, hl with | [_], _ => rfl
theorem Tx.B_law_loose (T : Tx K mg) : Binds K T.f_law_loose ["tree", "draws", "at"] [] := T.F_law_loose.binds fun _ _ _ _ _ _ us hl => match us, hl with | [_, _, _], _ => rfl
theorem Tx.B_law_some (T : Tx K mg) : Binds K T.f_law_some ["draws", "at", "names"] [] := T.F_law_some.binds fun _ _ _ _ _ _ us hl => match us, hl with | [_, _, _], _ => rfl
theorem Tx.B_law_lines (T : Tx K mg) : Binds K T.f_law_lines ["draws", "at", "names"] [] := T.F_law_lines.binds fun _ _ _ _ _ _ us hl => match us, hl with | [_, _, _], _ => rfl
theorem Tx.B_law_book (T : Tx K mg) : Binds K T.f_law_book ["lines", "loose", "draws", "at"] [] := T.F_law_book.binds fun _ _ _ _ _ _ us hl => match us, hl with | [_, _, _, _], _ => rfl
theorem Tx.B_law_like (T : Tx K mg) : Binds K T.f_law_like ["told", "due"] [] := T.F_law_like.binds fun _ _ _ _ _ _ us hl => match us, hl with | [_, _], _ => rfl
theorem Tx.B_law_string (T : Tx K mg) : Binds K T.f_law_string ["draws", "at"] [] := T.F_law_string.binds fun _ _ _ _ _ _ us hl => match us, hl with | [_, _], _ => rfl
theorem Tx.B_law_piece (T : Tx K mg) : Binds K T.f_law_piece ["draws", "at", "names"] [] := T.F_law_piece.binds fun _ _ _ _ _ _ us hl => match us, hl with | [_, _, _], _ => rfl
theorem Tx.B_law_edit (T : Tx K mg) : Binds K T.f_law_edit ["draws", "at", "now"] [] := T.F_law_edit.binds fun _ _ _ _ _ _ us hl => match us, hl with | [_, _, _], _ => rfl
theorem Tx.B_law_behind (T : Tx K mg) : Binds K T.f_law_behind ["draws", "at", "now"] [] := T.F_law_behind.binds fun _ _ _ _ _ _ us hl => match us, hl with | [_, _, _], _ => rfl
theorem Tx.B_law_stays (T : Tx K mg) : Binds K T.f_law_stays ["desk", "edits"] [] := T.F_law_stays.binds fun _ _ _ _ _ _ us hl => match us, hl with | [_, _], _ => rfl
theorem Tx.B_law_now (T : Tx K mg) : Binds K T.f_law_now ["desk", "now", "past", "future"] [] := T.F_law_now.binds fun _ _ _ _ _ _ us hl => match us, hl with | [_, _, _, _], _ => rfl
theorem Tx.B_law_undone (T : Tx K mg) : Binds K T.f_law_undone ["desk", "now", "past", "future"] [] := T.F_law_undone.binds fun _ _ _ _ _ _ us hl => match us, hl with | [_, _, _, _], _ => rfl
theorem Tx.B_law_redone (T : Tx K mg) : Binds K T.f_law_redone ["desk", "now", "past", "future"] [] := T.F_law_redone.binds fun _ _ _ _ _ _ us hl => match us, hl with | [_, _, _, _], _ => rfl
theorem Tx.B_law_ended (T : Tx K mg) : Binds K T.f_law_ended ["desk", "now", "past", "future"] [] := T.F_law_ended.binds fun _ _ _ _ _ _ us hl => match us, hl with | [_, _, _, _], _ => rfl
theorem Tx.B_law (T : Tx K mg) : Binds K T.f_law ["script"] [] := T.F_law.binds fun _ _ _ _ _ _ us hl => match us, hl with | [_], _ => rfl
theorem Tx.B_Book_init (T : Tx K mg) : Binds K T.f_Book_init ["self", "entries"] [] := T.F_Book_init.binds fun _ _ _ _ _ _ us hl => match us, hl with | [_, _], _ => rfl
theorem Tx.B_Book_text (T : Tx K mg) : Binds K T.f_Book_text ["self"] [] := T.F_Book_text.binds fun _ _ _ _ _ _ us hl => match us, hl with | [_], _ => rfl
theorem Tx.B_Book_narrowed (T : Tx K mg) : Binds K T.f_Book_narrowed ["self", "formula"] [] := T.F_Book_narrowed.binds fun _ _ _ _ _ _ us hl => match us, hl with | [_, _], _ => rfl
theorem Tx.B_OpenPiece_init (T : Tx K mg) : Binds K T.f_OpenPiece_init ["self", "condition"] [] := T.F_OpenPiece_init.binds fun _ _ _ _ _ _ us hl => match us, hl with | [_, _], _ => rfl
theorem Tx.B_OpenPiece_finished (T : Tx K mg) : Binds K T.f_OpenPiece_finished ["self"] [] := T.F_OpenPiece_finished.binds fun _ _ _ _ _ _ us hl => match us, hl with | [_], _ => rfl
theorem Tx.B_Text_init (T : Tx K mg) : Binds K T.f_Text_init ["self", "book", "parts"] [] := T.F_Text_init.binds fun _ _ _ _ _ _ us hl => match us, hl with | [_, _, _], _ => rfl
theorem Tx.B_Desk_init (T : Tx K mg) : Binds K T.f_Desk_init ["self", "text", "rules"] [] := T.F_Desk_init.binds fun _ _ _ _ _ _ us hl => match us, hl with | [_, _, _], _ => rfl
theorem Tx.B_Desk_source (T : Tx K mg) : Binds K T.f_Desk_source ["self"] [] := T.F_Desk_source.binds fun _ _ _ _ _ _ us hl => match us, hl with | [_], _ => rfl
theorem Tx.B_Desk_rulebook (T : Tx K mg) : Binds K T.f_Desk_rulebook ["self"] [] := T.F_Desk_rulebook.binds fun _ _ _ _ _ _ us hl => match us, hl with | [_], _ => rfl
theorem Tx.B_Desk_behind (T : Tx K mg) : Binds K T.f_Desk_behind ["self", "edits"] [] := T.F_Desk_behind.binds fun _ _ _ _ _ _ us hl => match us, hl with | [_, _], _ => rfl
theorem Tx.B_Desk_turn_to (T : Tx K mg) : Binds K T.f_Desk_turn_to ["self", "now"] [] := T.F_Desk_turn_to.binds fun _ _ _ _ _ _ us hl => match us, hl with | [_, _], _ => rfl
theorem Tx.B_Desk_apply (T : Tx K mg) : Binds K T.f_Desk_apply ["self", "edits"] [] := T.F_Desk_apply.binds fun _ _ _ _ _ _ us hl => match us, hl with | [_, _], _ => rfl
theorem Tx.B_Desk_replace (T : Tx K mg) : Binds K T.f_Desk_replace ["self", "start", "end", "new"] [] := T.F_Desk_replace.binds fun _ _ _ _ _ _ us hl => match us, hl with | [_, _, _, _], _ => rfl
theorem Tx.B_Desk_change_book (T : Tx K mg) : Binds K T.f_Desk_change_book ["self", "rules"] [] := T.F_Desk_change_book.binds fun _ _ _ _ _ _ us hl => match us, hl with | [_, _], _ => rfl
theorem Tx.B_Desk_undo (T : Tx K mg) : Binds K T.f_Desk_undo ["self"] [] := T.F_Desk_undo.binds fun _ _ _ _ _ _ us hl => match us, hl with | [_], _ => rfl
theorem Tx.B_Desk_redo (T : Tx K mg) : Binds K T.f_Desk_redo ["self"] [] := T.F_Desk_redo.binds fun _ _ _ _ _ _ us hl => match us, hl with | [_], _ => rfl
theorem Tx.B_Desk_steps (T : Tx K mg) : Binds K T.f_Desk_steps ["self"] [] := T.F_Desk_steps.binds fun _ _ _ _ _ _ us hl => match us, hl with | [_], _ => rfl
end
end K77

set_option maxRecDepth 100000
set_option maxHeartbeats 8000000
/-! K9B: what the top leaves, as facts that one run shows. (Printed by genH.py.) -/
namespace K77
open PySem PySem.W PySem.Spec PyProof.Rows L2

abbrev R : PySem.W.OpenRow := PySem.W.OpenLaw.row PySem.Challenge.rw_everyproduct_k77_desk_undo_redo
/-- the words that are no names -/
def kwD : List He.Dv := [.str "call", .str "do", .str "else", .str "false", .str "fun", .str "if", .str "let", .str "print", .str "read", .str "return", .str "row", .str "set", .str "size", .str "true", .str "while"]
/-- a function, but its closure and its defaults -/
abbrev FnA : Type := Option (Str × Str × Arguments × FuncBody × Scope × Addr × Addr)
def fnA (K : Frag) (a : Addr) : FnA := match K.lookup a with
  | some ⟨_, _, .func fd, _⟩ => some (fd.name, fd.qualname, fd.params, fd.body, fd.scope, fd.globals, fd.builtins)
  | _ => none
def valA (x q : Str) (st : Stmt) : FnA := some (x, q, defArgs st, .stmts (defBody st), defScope st, mainGlobals, builtinsNs)
def okA (K : Frag) (q : Str) (a : Addr) : Bool := keepIn K (.ref a) && (match K.lookup a with
  | some ⟨_, _, .func fd, _⟩ => (match fd.closure, fd.defaults with
    | [], .none => codeIn K fd.code q
    | _, _ => false)
  | _ => false)
def fdOf (K : Frag) (a : Addr) : FuncData := match K.lookup a with
  | some ⟨_, _, .func fd, _⟩ => fd
  | _ => default
theorem fun_at {K : Frag} {x q : Str} {st : Stmt} {a : Addr} (e : fnA K a = valA x q st) (c : okA K q a = true) : Fun K x q st a (fdOf K a) := by
  obtain ⟨kp, c⟩ := Bool.and_eq_true_iff.mp c
  refine ⟨?_, kp⟩
  unfold fnA at e
  unfold fdOf
  cases z : K.lookup a with
  | none =>
    rw [z] at c
    cases c
  | some o =>
    obtain ⟨oc, od, dt, osl⟩ := o
    rw [z] at c e
    cases dt with
    | func fd =>
      obtain ⟨n1, n2, n3, n4, n5, n6, n7, n8, n9, n10, n11, n12, n13, n14, n15⟩ := fd
      have e2 : (some (n1, n2, n3, n4, n5, n6, n15) : FnA) = some (x, q, defArgs st, .stmts (defBody st), defScope st, mainGlobals, builtinsNs) := e
      simp only [Option.some.injEq, Prod.mk.injEq] at e2
      obtain ⟨h1, h2, h3, h4, h5, h6, h7⟩ := e2
      subst h1 h2 h3 h4 h5 h6 h7
      cases n7 with
      | cons y ys => cases n8 <;> cases c
      | nil =>
        cases n8 with
        | none => exact ⟨_, _, _, _, _, _, _, _, _, rfl, rfl, c⟩
        | _ => cases c
    | _ => cases c
theorem fun_of {K : Frag} {x q : Str} {st : Stmt} {a : Addr} {fd : FuncData} (F : FunD K x q (defArgs st) (defBody st) (defScope st) [] [] a fd) : Fun K x q st a fd := by
  obtain ⟨oc, od, dV, kV, doc, pm, an, cdv, ct, osl, e, lk, hc, hd, _⟩ := F.ex
  rcases hd with ⟨_, rfl⟩ | ⟨ne, _⟩
  · exact ⟨⟨oc, od, kV, doc, pm, an, cdv, ct, osl, e, lk, hc⟩, F.kp⟩
  · exact absurd rfl ne
/-- the property f of a desk, its getter -/
def pa (K : Frag) (f : Str) : Addr := match findIn K (.ref (He.ga K "Desk")) f with
  | some (some (.ref a)) => a
  | _ => 0
def gp (K : Frag) (f : Str) : Addr := match recIn K (pa K f) "property" with
  | some (.ref g :: _) => g
  | _ => 0
def propB (K : Frag) (f : Str) : Bool := He.eqO (findIn K (.ref (He.ga K "Desk")) f) (some (some (.ref (pa K f)))) && (He.eqO (specialIn K (.ref (pa K f)) "__get__") (some (some (.builtin "property.__get__"))) && (decide (takesIn K (.ref (pa K f)) = some true) && (match recIn K (pa K f) "property" with
  | some (.ref _ :: _) => true
  | _ => false)))
theorem prop_ok {K : Frag} {f : Str} (c : propB K f = true) : PropOf K (He.ga K "Desk") f (pa K f) (gp K f) := by
  obtain ⟨c1, c⟩ := Bool.and_eq_true_iff.mp c
  obtain ⟨c2, c⟩ := Bool.and_eq_true_iff.mp c
  obtain ⟨c3, c4⟩ := Bool.and_eq_true_iff.mp c
  refine ⟨He.eqO_ok c1, He.eqO_ok c2, of_decide_eq_true c3, ?_⟩
  unfold gp
  cases z : recIn K (pa K f) "property" with
  | none =>
    rw [z] at c4
    cases c4
  | some l =>
    rw [z] at c4
    cases l with
    | nil => cases c4
    | cons v r =>
      cases v with
      | ref g => exact ⟨r, rfl⟩
      | _ => cases c4
/-- UnknownSwitch and its __init__ -/
abbrev s_USw : Stmt := inClass (top 7) 0
abbrev US (K : Frag) : Addr := He.ga K "UnknownSwitch"
abbrev UI (K : Frag) : Addr := He.ma K (US K) "__init__"
def fileB (file : Str) (vs : Array Value) : Bool := match vs[2]? with
  | some (Value.str f _) => file == f
  | _ => false
theorem fileB_ok {file : Str} {vs : Array Value} (c : fileB file vs = true) : ∃ f tf, vs[2]? = some (.str f tf) ∧ (file == f) = true := by
  unfold fileB at c
  split at c
  · exact ⟨_, _, ‹_›, c⟩
  · cases c
def newB : List (Option Value) → Bool
  | [_, _, _, _, some (.builtin n), _] => decide (n = "ValueError.__new__")
  | _ => false
theorem newB_ok {l : List (Option Value)} (c : newB l = true) : ∃ k0 k1 k2 k3 k5, l = [k0, k1, k2, k3, some (.builtin "ValueError.__new__"), k5] := by
  unfold newB at c
  split at c
  · obtain rfl := of_decide_eq_true c
    exact ⟨_, _, _, _, _, rfl⟩
  · cases c
def usB (K : Frag) (q : Str) (file : Str) : Bool := match K.lookup (UI K) with
  | some ⟨_, _, .func fd, _⟩ => (match fd.closure, fd.defaults, fd.code with
    | [(x, cc)], .none, .ref cda => decide (x = "__class__") && (codeIn K (.ref cda) q && ((match K.lookup cda with
        | some ⟨_, _, .fields vs, _⟩ => fileB file vs
        | _ => false) && (match K.lookup cc with
        | some ⟨_, _, .cell (some (.ref D)), _⟩ => decide (D = US K)
        | _ => false)))
    | _, _, _ => false)
  | _ => false
theorem us_ok {K : Frag} {x q file : Str} (e : fnA K (UI K) = valA x q s_USw) (c : usB K q file = true) :
    ∃ (oc : Value) (od : Option Addr) (kV doc pm : Value) (an : Option Addr) (cda : Addr) (ct : Value) (osl : Array (Option Value)) (cc : Addr),
    fdOf K (UI K) = ksFn x q (defArgs s_USw) (defBody s_USw) (defScope s_USw) .none kV doc pm an (.ref cda) ct cc ∧ K.lookup (UI K) = some ⟨oc, od, .func (fdOf K (UI K)), osl⟩ ∧ codeIn K (.ref cda) q = true ∧
    (∃ (ccl : Value) (cdd : Option Addr) (vs : Array Value) (ccs : Array (Option Value)) (f : Str) (tf : Tok), K.lookup cda = some ⟨ccl, cdd, .fields vs, ccs⟩ ∧ vs[2]? = some (.str f tf) ∧ (file == f) = true) ∧
    ∃ (cl : Value) (cld : Option Addr) (csl : Array (Option Value)), K.lookup cc = some ⟨cl, cld, .cell (some (.ref (US K))), csl⟩ := by
  unfold fnA at e
  unfold usB at c
  unfold fdOf
  cases z : K.lookup (UI K) with
  | none =>
    rw [z] at c
    cases c
  | some o =>
    obtain ⟨oc, od, dt, osl⟩ := o
    rw [z] at c e
    cases dt with
    | func fd =>
      obtain ⟨n1, n2, n3, n4, n5, n6, n7, n8, n9, n10, n11, n12, n13, n14, n15⟩ := fd
      have e2 : (some (n1, n2, n3, n4, n5, n6, n15) : FnA) = some (x, q, defArgs s_USw, .stmts (defBody s_USw), defScope s_USw, mainGlobals, builtinsNs) := e
      simp only [Option.some.injEq, Prod.mk.injEq] at e2
      obtain ⟨h1, h2, h3, h4, h5, h6, h7⟩ := e2
      subst h1 h2 h3 h4 h5 h6 h7
      rcases n7 with _ | ⟨⟨y, cc⟩, _ | ⟨y2, ys⟩⟩
      · cases c
      · cases n8 with
        | none =>
          cases n13 with
          | ref cda =>
            obtain ⟨c1, c⟩ := Bool.and_eq_true_iff.mp c
            obtain ⟨c2, c⟩ := Bool.and_eq_true_iff.mp c
            obtain ⟨c3, c4⟩ := Bool.and_eq_true_iff.mp c
            obtain rfl : y = "__class__" := of_decide_eq_true c1
            refine ⟨oc, od, n9, n10, n11, n12, cda, n14, osl, cc, rfl, rfl, c2, ?_, ?_⟩
            · cases zc : K.lookup cda with
              | none =>
                rw [zc] at c3
                cases c3
              | some oo =>
                obtain ⟨a1, a2, a3, a4⟩ := oo
                rw [zc] at c3
                cases a3 with
                | fields vs =>
                  obtain ⟨f, tf, zv, c5⟩ := fileB_ok c3
                  exact ⟨a1, a2, vs, a4, f, tf, rfl, zv, c5⟩
                | _ => cases c3
            · cases zc : K.lookup cc with
              | none =>
                rw [zc] at c4
                cases c4
              | some oo =>
                obtain ⟨a1, a2, a3, a4⟩ := oo
                rw [zc] at c4
                cases a3 with
                | cell v =>
                  cases v with
                  | none => cases c4
                  | some v =>
                    cases v with
                    | ref D =>
                      obtain rfl : D = US K := of_decide_eq_true c4
                      exact ⟨a1, a2, a4, rfl⟩
                    | _ => cases c4
                | _ => cases c4
          | _ => cases c
        | _ => cases n13 <;> cases c
      · cases c
    | _ => cases c
/-- its class -/
def exB (K : Frag) (C : Addr) : Bool := match K.lookup C with
  | some ⟨.type t, _, .cls cd, sl⟩ => decide (t = "type") && ((match cd.mro with
      | .ref D :: bm => decide (D = C) && HandSPX.refsVE bm
      | _ => false) && (cd.hasDict && (!cd.hasDel && newB sl.toList)))
  | _ => false
theorem ex_ok {K : Frag} {C : Addr} (c : exB K C = true) : ∃ nm q N bs bm sn sub ab col dd k0 k1 k2 k3 k5, K.lookup C = some (excClassObj nm q C N bs bm true sn sub ab col dd k0 k1 k2 k3 k5 "ValueError.__new__") ∧ HandSPX.refsVE bm = true := by
  unfold exB at c
  cases z : K.lookup C with
  | none =>
    rw [z] at c
    cases c
  | some o =>
    obtain ⟨oc, od, dt, sl⟩ := o
    rw [z] at c
    cases oc with
    | type t =>
      cases dt with
      | cls cd =>
        obtain ⟨m1, m2, m3, m4, m5, m6, m7, m8, m9, m10, m11⟩ := cd
        obtain ⟨c1, c⟩ := Bool.and_eq_true_iff.mp c
        obtain ⟨c2, c⟩ := Bool.and_eq_true_iff.mp c
        obtain ⟨c3, c⟩ := Bool.and_eq_true_iff.mp c
        obtain ⟨c4, c5⟩ := Bool.and_eq_true_iff.mp c
        obtain rfl : t = "type" := of_decide_eq_true c1
        obtain rfl : m6 = true := c3
        obtain rfl : m11 = false := by
          cases m11 with
          | false => rfl
          | true => cases c4
        obtain ⟨l⟩ := sl
        rcases m3 with _ | ⟨v, bm⟩
        · cases c2
        · cases v with
          | ref D =>
            obtain ⟨d1, d2⟩ := Bool.and_eq_true_iff.mp c2
            obtain rfl : D = C := of_decide_eq_true d1
            obtain ⟨k0, k1, k2, k3, k5, rfl⟩ := newB_ok (show newB l = true from c5)
            exact ⟨_, _, _, _, bm, _, _, _, _, _, k0, k1, k2, k3, k5, rfl, d2⟩
          | _ => cases c2
      | _ => cases c
    | _ => cases dt <;> cases c
/-- the other looks -/
def exs (K : Frag) : List Bool := [He.tupB K "KEYWORDS" kwD, He.tupB K "YES" [.str "yes"], He.tupB K "NO" [.str "no"], propB K "source", propB K "rulebook", okA K "Desk.source" (gp K "source"), okA K "Desk.rulebook" (gp K "rulebook"),
  usB K "UnknownSwitch.__init__" R.prog.main.file, exB K (US K), He.eqO (findIn K (.ref (US K)) "__init__") (some (some (.ref (UI K)))), decide (typeIn K (.ref (UI K)) = some (.type "function")),
  He.eqO (findIn K (.ref (US K)) "__setattr__") (some (some (.builtin "object.__setattr__"))), decide (subIn K (.ref (US K)) (.type "BaseException") = some true), decide (typeIn K (.ref (US K)) = some (.type "type")), keepIn K (.ref (US K)),
  He.eqO (ks_superIn K (US K) (US K) "__init__") (some (some (.builtin "ValueError.__init__"))), decide (subIn K (.ref (US K)) (.type "ValueError") = some true), decide (mroIn K (US K) (.ref (US K)) = some true), He.eqO (nsIn K cStatics "thirdparty.any") (some none), He.eqO (findIn K (.ref (US K)) "name") (some none)]
def d_is_name : He.DefD := ⟨("is_name", none), "is_name", "is_name", defArgs s_is_name, defBody s_is_name, defScope s_is_name, [], []⟩
def d_formula_words : He.DefD := ⟨("formula_words", none), "formula_words", "formula_words", defArgs s_formula_words, defBody s_formula_words, defScope s_formula_words, [], []⟩
def d_read_atom : He.DefD := ⟨("read_atom", none), "read_atom", "read_atom", defArgs s_read_atom, defBody s_read_atom, defScope s_read_atom, [], []⟩
def d_apply_nots : He.DefD := ⟨("apply_nots", none), "apply_nots", "apply_nots", defArgs s_apply_nots, defBody s_apply_nots, defScope s_apply_nots, [], []⟩
def d_apply_operators : He.DefD := ⟨("apply_operators", none), "apply_operators", "apply_operators", defArgs s_apply_operators, defBody s_apply_operators, defScope s_apply_operators, [], []⟩
def d_close_group : He.DefD := ⟨("close_group", none), "close_group", "close_group", defArgs s_close_group, defBody s_close_group, defScope s_close_group, [], []⟩
def d_read_formula : He.DefD := ⟨("read_formula", none), "read_formula", "read_formula", defArgs s_read_formula, defBody s_read_formula, defScope s_read_formula, [.int 240], []⟩
def d_formula_text : He.DefD := ⟨("formula_text", none), "formula_text", "formula_text", defArgs s_formula_text, defBody s_formula_text, defScope s_formula_text, [], []⟩
def d_formula_names : He.DefD := ⟨("formula_names", none), "formula_names", "formula_names", defArgs s_formula_names, defBody s_formula_names, defScope s_formula_names, [], []⟩
def d_conjoin : He.DefD := ⟨("conjoin", none), "conjoin", "conjoin", defArgs s_conjoin, defBody s_conjoin, defScope s_conjoin, [], []⟩
def d_entry_text : He.DefD := ⟨("entry_text", none), "entry_text", "entry_text", defArgs s_entry_text, defBody s_entry_text, defScope s_entry_text, [], []⟩
def d_read_rule : He.DefD := ⟨("read_rule", none), "read_rule", "read_rule", defArgs s_read_rule, defBody s_read_rule, defScope s_read_rule, [], []⟩
def d_read_entry : He.DefD := ⟨("read_entry", none), "read_entry", "read_entry", defArgs s_read_entry, defBody s_read_entry, defScope s_read_entry, [], []⟩
def d_read_book : He.DefD := ⟨("read_book", none), "read_book", "read_book", defArgs s_read_book, defBody s_read_book, defScope s_read_book, [], []⟩
def d_add_run : He.DefD := ⟨("add_run", none), "add_run", "add_run", defArgs s_add_run, defBody s_add_run, defScope s_add_run, [], []⟩
def d_read_condition : He.DefD := ⟨("read_condition", none), "read_condition", "read_condition", defArgs s_read_condition, defBody s_read_condition, defScope s_read_condition, [], []⟩
def d_take_directive : He.DefD := ⟨("take_directive", none), "take_directive", "take_directive", defArgs s_take_directive, defBody s_take_directive, defScope s_take_directive, [], []⟩
def d_read_parts : He.DefD := ⟨("read_parts", none), "read_parts", "read_parts", defArgs s_read_parts, defBody s_read_parts, defScope s_read_parts, [], []⟩
def d_each_run : He.DefD := ⟨("each_run", none), "each_run", "each_run", defArgs s_each_run, defBody s_each_run, defScope s_each_run, [], []⟩
def d_read_text : He.DefD := ⟨("read_text", none), "read_text", "read_text", defArgs s_read_text, defBody s_read_text, defScope s_read_text, [], []⟩
def d_check_switch : He.DefD := ⟨("check_switch", none), "check_switch", "check_switch", defArgs s_check_switch, defBody s_check_switch, defScope s_check_switch, [], []⟩
def d_turn_switch : He.DefD := ⟨("turn_switch", none), "turn_switch", "turn_switch", defArgs s_turn_switch, defBody s_turn_switch, defScope s_turn_switch, [], []⟩
def d_checked : He.DefD := ⟨("checked", none), "checked", "checked", defArgs s_checked, defBody s_checked, defScope s_checked, [], []⟩
def d_replaced : He.DefD := ⟨("replaced", none), "replaced", "replaced", defArgs s_replaced, defBody s_replaced, defScope s_replaced, [], []⟩
def d_narrowed : He.DefD := ⟨("narrowed", none), "narrowed", "narrowed", defArgs s_narrowed, defBody s_narrowed, defScope s_narrowed, [], []⟩
def d_opened : He.DefD := ⟨("opened", none), "opened", "opened", defArgs s_opened, defBody s_opened, defScope s_opened, [], []⟩
def d_closed : He.DefD := ⟨("closed", none), "closed", "closed", defArgs s_closed, defBody s_closed, defScope s_closed, [], []⟩
def d_edited : He.DefD := ⟨("edited", none), "edited", "edited", defArgs s_edited, defBody s_edited, defScope s_edited, [], []⟩
def d_law_draws : He.DefD := ⟨("_law_draws", none), "_law_draws", "_law_draws", defArgs s_law_draws, defBody s_law_draws, defScope s_law_draws, [], []⟩
def d_law_take : He.DefD := ⟨("_law_take", none), "_law_take", "_law_take", defArgs s_law_take, defBody s_law_take, defScope s_law_take, [], []⟩
def d_law_names : He.DefD := ⟨("_law_names", none), "_law_names", "_law_names", defArgs s_law_names, defBody s_law_names, defScope s_law_names, [], []⟩
def d_law_tree : He.DefD := ⟨("_law_tree", none), "_law_tree", "_law_tree", defArgs s_law_tree, defBody s_law_tree, defScope s_law_tree, [], []⟩
def d_law_text : He.DefD := ⟨("_law_text", none), "_law_text", "_law_text", defArgs s_law_text, defBody s_law_text, defScope s_law_text, [], []⟩
def d_law_loose : He.DefD := ⟨("_law_loose", none), "_law_loose", "_law_loose", defArgs s_law_loose, defBody s_law_loose, defScope s_law_loose, [], []⟩
def d_law_some : He.DefD := ⟨("_law_some", none), "_law_some", "_law_some", defArgs s_law_some, defBody s_law_some, defScope s_law_some, [], []⟩
def d_law_lines : He.DefD := ⟨("_law_lines", none), "_law_lines", "_law_lines", defArgs s_law_lines, defBody s_law_lines, defScope s_law_lines, [], []⟩
def d_law_book : He.DefD := ⟨("_law_book", none), "_law_book", "_law_book", defArgs s_law_book, defBody s_law_book, defScope s_law_book, [], []⟩
def d_law_like : He.DefD := ⟨("_law_like", none), "_law_like", "_law_like", defArgs s_law_like, defBody s_law_like, defScope s_law_like, [], []⟩
def d_law_string : He.DefD := ⟨("_law_string", none), "_law_string", "_law_string", defArgs s_law_string, defBody s_law_string, defScope s_law_string, [], []⟩
def d_law_piece : He.DefD := ⟨("_law_piece", none), "_law_piece", "_law_piece", defArgs s_law_piece, defBody s_law_piece, defScope s_law_piece, [], []⟩
def d_law_edit : He.DefD := ⟨("_law_edit", none), "_law_edit", "_law_edit", defArgs s_law_edit, defBody s_law_edit, defScope s_law_edit, [], []⟩
def d_law_behind : He.DefD := ⟨("_law_behind", none), "_law_behind", "_law_behind", defArgs s_law_behind, defBody s_law_behind, defScope s_law_behind, [], []⟩
def d_law_stays : He.DefD := ⟨("_law_stays", none), "_law_stays", "_law_stays", defArgs s_law_stays, defBody s_law_stays, defScope s_law_stays, [], []⟩
def d_law_now : He.DefD := ⟨("_law_now", none), "_law_now", "_law_now", defArgs s_law_now, defBody s_law_now, defScope s_law_now, [], []⟩
def d_law_undone : He.DefD := ⟨("_law_undone", none), "_law_undone", "_law_undone", defArgs s_law_undone, defBody s_law_undone, defScope s_law_undone, [], []⟩
def d_law_redone : He.DefD := ⟨("_law_redone", none), "_law_redone", "_law_redone", defArgs s_law_redone, defBody s_law_redone, defScope s_law_redone, [], []⟩
def d_law_ended : He.DefD := ⟨("_law_ended", none), "_law_ended", "_law_ended", defArgs s_law_ended, defBody s_law_ended, defScope s_law_ended, [], []⟩
def d_law : He.DefD := ⟨("law", none), "law", "law", defArgs s_law, defBody s_law, defScope s_law, [], []⟩
def d_Book_init : He.DefD := ⟨("Book", some "__init__"), "__init__", "Book.__init__", defArgs s_Book_init, defBody s_Book_init, defScope s_Book_init, [], []⟩
def d_Book_text : He.DefD := ⟨("Book", some "text"), "text", "Book.text", defArgs s_Book_text, defBody s_Book_text, defScope s_Book_text, [], []⟩
def d_Book_narrowed : He.DefD := ⟨("Book", some "narrowed"), "narrowed", "Book.narrowed", defArgs s_Book_narrowed, defBody s_Book_narrowed, defScope s_Book_narrowed, [], []⟩
def d_OpenPiece_init : He.DefD := ⟨("OpenPiece", some "__init__"), "__init__", "OpenPiece.__init__", defArgs s_OpenPiece_init, defBody s_OpenPiece_init, defScope s_OpenPiece_init, [], []⟩
def d_OpenPiece_finished : He.DefD := ⟨("OpenPiece", some "finished"), "finished", "OpenPiece.finished", defArgs s_OpenPiece_finished, defBody s_OpenPiece_finished, defScope s_OpenPiece_finished, [], []⟩
def d_Text_init : He.DefD := ⟨("Text", some "__init__"), "__init__", "Text.__init__", defArgs s_Text_init, defBody s_Text_init, defScope s_Text_init, [], []⟩
def d_Desk_init : He.DefD := ⟨("Desk", some "__init__"), "__init__", "Desk.__init__", defArgs s_Desk_init, defBody s_Desk_init, defScope s_Desk_init, [], []⟩
def d_Desk_behind : He.DefD := ⟨("Desk", some "_behind"), "_behind", "Desk._behind", defArgs s_Desk_behind, defBody s_Desk_behind, defScope s_Desk_behind, [], []⟩
def d_Desk_turn_to : He.DefD := ⟨("Desk", some "_turn_to"), "_turn_to", "Desk._turn_to", defArgs s_Desk_turn_to, defBody s_Desk_turn_to, defScope s_Desk_turn_to, [], []⟩
def d_Desk_apply : He.DefD := ⟨("Desk", some "apply"), "apply", "Desk.apply", defArgs s_Desk_apply, defBody s_Desk_apply, defScope s_Desk_apply, [], []⟩
def d_Desk_replace : He.DefD := ⟨("Desk", some "replace"), "replace", "Desk.replace", defArgs s_Desk_replace, defBody s_Desk_replace, defScope s_Desk_replace, [], []⟩
def d_Desk_change_book : He.DefD := ⟨("Desk", some "change_book"), "change_book", "Desk.change_book", defArgs s_Desk_change_book, defBody s_Desk_change_book, defScope s_Desk_change_book, [], []⟩
def d_Desk_undo : He.DefD := ⟨("Desk", some "undo"), "undo", "Desk.undo", defArgs s_Desk_undo, defBody s_Desk_undo, defScope s_Desk_undo, [], []⟩
def d_Desk_redo : He.DefD := ⟨("Desk", some "redo"), "redo", "Desk.redo", defArgs s_Desk_redo, defBody s_Desk_redo, defScope s_Desk_redo, [], []⟩
def d_Desk_steps : He.DefD := ⟨("Desk", some "steps"), "steps", "Desk.steps", defArgs s_Desk_steps, defBody s_Desk_steps, defScope s_Desk_steps, [], []⟩
def fn0 : List He.DefD := [d_is_name, d_formula_words, d_read_atom, d_apply_nots, d_apply_operators, d_close_group, d_read_formula, d_formula_text, d_formula_names, d_conjoin, d_entry_text, d_read_rule, d_read_entry, d_read_book, d_add_run, d_read_condition, d_take_directive, d_read_parts, d_each_run, d_read_text, d_check_switch, d_turn_switch, d_checked, d_replaced, d_narrowed, d_opened, d_closed, d_edited, d_law_draws, d_law_take]
def fn1 : List He.DefD := [d_law_names, d_law_tree, d_law_text, d_law_loose, d_law_some, d_law_lines, d_law_book, d_law_like, d_law_string, d_law_piece, d_law_edit, d_law_behind, d_law_stays, d_law_now, d_law_undone, d_law_redone, d_law_ended, d_law, d_Book_init, d_Book_text, d_Book_narrowed, d_OpenPiece_init, d_OpenPiece_finished, d_Text_init, d_Desk_init, d_Desk_behind, d_Desk_turn_to, d_Desk_apply, d_Desk_replace, d_Desk_change_book]
def fn2 : List He.DefD := [d_Desk_undo, d_Desk_redo, d_Desk_steps]
def fn : List He.DefD := fn0 ++ (fn1 ++ (fn2))
def fa0 : List He.Fa := [.glo "is_name", .glo "formula_words", .glo "read_atom", .glo "apply_nots", .glo "apply_operators", .glo "close_group", .glo "read_formula", .glo "formula_text", .glo "formula_names", .glo "conjoin", .glo "entry_text", .glo "read_rule", .glo "read_entry", .glo "read_book", .glo "add_run", .glo "read_condition", .glo "take_directive", .glo "read_parts", .glo "each_run", .glo "read_text", .glo "check_switch", .glo "turn_switch", .glo "checked", .glo "replaced", .glo "narrowed", .glo "opened", .glo "closed", .glo "edited", .glo "_law_draws", .glo "_law_take"]
def fa1 : List He.Fa := [.glo "_law_names", .glo "_law_tree", .glo "_law_text", .glo "_law_loose", .glo "_law_some", .glo "_law_lines", .glo "_law_book", .glo "_law_like", .glo "_law_string", .glo "_law_piece", .glo "_law_edit", .glo "_law_behind", .glo "_law_stays", .glo "_law_now", .glo "_law_undone", .glo "_law_redone", .glo "_law_ended", .glo "law", .glo "Book", .glo "OpenPiece", .glo "Text", .glo "Desk", .glo "BadFormula", .glo "BadBook", .glo "BadText", .glo "BadEdit", .glo "UnknownSwitch", .glo "TooMany", .glo "ProductError", .glo "KEYWORDS"]
def fa2 : List He.Fa := [.glo "YES", .glo "NO", .free "len", .free "enumerate", .free "all", .free "sorted", .free "isinstance", .free "int", .free "str", .free "list", .free "tuple", .free "set", .free "abs", .free "max", .free "range", .free "bool", .free "super", .int "NAME_SIGNS" 12, .int "FORMULA_SIGNS" 240, .int "MOST_SWITCHES" 40, .int "MOST_RULES" 60, .int "MOST_IN_GROUP" 12, .int "MOST_SIGNS" 6000, .int "MOST_OPEN" 12, .str "LETTERS" "abcdefghijklmnopqrstuvwxyz", .str "WORD_SIGNS" "abcdefghijklmnopqrstuvwxyz0123456789", .str "SEPARATORS" " \n#", .cls "Book", .mkr "Book", .cls "OpenPiece"]
def fa3 : List He.Fa := [.mkr "OpenPiece", .cls "Text", .mkr "Text", .cls "Desk", .mkr "Desk", .noat "Book" "entries", .noat "Book" "switches", .noat "OpenPiece" "condition", .noat "OpenPiece" "sides", .noat "Text" "book", .noat "Text" "parts", .noat "Text" "_runs", .noat "Desk" "_now", .noat "Desk" "_past", .noat "Desk" "_future", .noat "Desk" "_road", .meth "Book" "text", .meth "Book" "narrowed", .meth "OpenPiece" "finished", .meth "Desk" "_behind", .meth "Desk" "_turn_to", .meth "Desk" "apply", .meth "Desk" "replace", .meth "Desk" "change_book", .meth "Desk" "undo", .meth "Desk" "redo", .meth "Desk" "steps", .exc "BadEdit", .exm "BadEdit" "ProductError" true, .exm "UnknownSwitch" "ProductError" true]
def faR : List He.Fa := fa2 ++ fa3
def fa : List He.Fa := (fa0 ++ fa1) ++ faR
abbrev AlX : Type := Bool × He.AlD × List FnA
def obsX (K : Frag) : AlX := ((exs K).all fun b => b, He.obsD fa fn K, [fnA K (gp K "source"), fnA K (gp K "rulebook"), fnA K (UI K)])
def valX : AlX := (true, He.valD fn, [valA "source" "Desk.source" s_Desk_source, valA "rulebook" "Desk.rulebook" s_Desk_rulebook, valA "__init__" "UnknownSwitch.__init__" s_USw])
structure SaysX (K : Frag) : Prop where
  c : He.SaysD fa fn K
  ex : ((exs K).all fun b => b) = true
  fs : [fnA K (gp K "source"), fnA K (gp K "rulebook"), fnA K (UI K)] = [valA "source" "Desk.source" s_Desk_source, valA "rulebook" "Desk.rulebook" s_Desk_rulebook, valA "__init__" "UnknownSwitch.__init__" s_USw]
theorem says_of {K : Frag} (e : obsX K = valX) : SaysX K := ⟨congrArg (fun z : AlX => z.2.1) e, congrArg (fun z : AlX => z.1) e, congrArg (fun z : AlX => z.2.2) e⟩
theorem SaysX.more {K : Frag} (c : SaysX K) (i : Nat) {b : Bool} (h : (exs K)[i]? = some b) : b = true := List.all_eq_true.mp c.ex b (List.mem_of_getElem? h)
theorem SaysX.funs {K : Frag} (c : SaysX K) (i : Nat) {a b : FnA} (h : ([fnA K (gp K "source"), fnA K (gp K "rulebook"), fnA K (UI K)] : List FnA)[i]? = some a) (h2 : ([valA "source" "Desk.source" s_Desk_source, valA "rulebook" "Desk.rulebook" s_Desk_rulebook, valA "__init__" "UnknownSwitch.__init__" s_USw] : List FnA)[i]? = some b := by rfl) : a = b := by
  rw [c.fs, h2] at h
  exact (Option.some.inj h).symm
end K77

set_option maxRecDepth 100000
set_option maxHeartbeats 0
/-! K9C: what is looked at behind the top. -/
namespace K77
open PySem PySem.W PySem.Calls PySem.Spec PyProof.Rows L2

/-- all that stands behind the top, the newest first, ahead of them the globals -/
def allAt (n : Nat) : List Addr := mainGlobals :: (List.range n).reverse
def hkX : Hook where
  α := AlX
  obs := fun s => obsX (He.frG s.heap.get? (allAt s.heap.objs.size))
  val := fun _ => valX
  says := fun _ h => ∃ K : Frag, K.In h ∧ SaysX K
  of := fun _ _ e => ⟨_, He.frG_in, says_of e⟩
  keeps := fun _ _ _ ⟨K, hK, c⟩ k => ⟨K, Frag.In.keeps hK k, c⟩
def ob (s : SharedT) : AlX := obsX (He.frG (HandSHeadRun.getT s) (allAt s.n))
theorem ob_eq (s : SharedT) : ob s = hkX.obs s.abs := by
  have e : HandSHeadRun.getT s = s.abs.heap.get? := funext (HandSHeadRun.getT_eq s)
  have n : s.n = s.abs.heap.objs.size := (absHeap_size s.tree s.n s.life).symm
  show obsX (He.frG (HandSHeadRun.getT s) (allAt s.n)) = obsX (He.frG s.abs.heap.get? (allAt s.abs.heap.objs.size))
  rw [e, ← n]
def loose0 : List PySem.Str := ["_wall", "__name__", "ProductError", "BadFormula", "BadBook", "BadText", "BadEdit", "UnknownSwitch", "TooMany", "KEYWORDS", "LETTERS", "WORD_SIGNS", "NAME_SIGNS", "is_name", "FORMULA_SIGNS", "YES", "NO", "formula_words", "read_atom", "apply_nots", "apply_operators", "close_group", "read_formula", "formula_text", "formula_names", "opposite", "conjoin", "disjoin", "all_of", "any_of"]
def loose1 : List PySem.Str := ["put_in", "MOST_SWITCHES", "MOST_RULES", "MOST_IN_GROUP", "at_most_one", "entry_formula", "entry_text", "Book", "read_rule", "read_entry", "read_book", "Lots", "SHORT_NAMES_families", "Family", "MOST_SIGNS", "MOST_OPEN", "SEPARATORS", "OpenPiece", "add_run", "read_condition", "take_directive", "read_parts", "parts_text", "each_run", "put_parts", "set_parts", "Text", "read_text", "renamed", "turned"]
def loose2 : List PySem.Str := ["renamed_entry", "turned_entry", "changed_parts", "written_again", "check_switch", "rename_switch", "turn_switch", "set_switch", "ASSUMED", "normal", "clause_form", "Closure", "settle", "SHORT_NAMES_tidy", "short_candidates", "shown", "alike_claims", "Tidying", "tidy", "checked", "replaced", "narrowed", "opened", "closed", "tidied", "edited", "Desk", "_law_draws", "_law_take", "_law_names"]
def loose3 : List PySem.Str := ["_law_tree", "_law_text", "_law_loose", "_law_some", "_law_lines", "_law_book", "_law_like", "_law_string", "_law_piece", "_law_edit", "_law_behind", "_law_stays", "_law_now", "_law_undone", "_law_redone", "_law_ended"]
def loose : List PySem.Str := loose0 ++ loose1 ++ loose2 ++ loose3

noncomputable abbrev theEnd (w : World) (os : OsState) : Option SharedT := HandSHeadRun.endF (HandSHeadRun.stepQ (HandSHeadRun.denQ HandSHeadRun.tabQ) R.prog w) 12000 R.prog w os
end K77

set_option maxRecDepth 100000
set_option maxHeartbeats 0
/-! K9E: the top's run, its looks. -/
namespace K77
open PySem PySem.W PySem.Calls PySem.Spec PyProof.Rows L2

theorem runA (w : World) (os : OsState) : (theEnd w os).map (fun s => (HandSHeadRun.looksF R.prog (boot_heap w.params) s.abs, HandSHeadRun.seenQ (view R.prog [119]) loose (importedModules R.prog.main.body) (fun s => xlAt (view R.prog [119]) [] s && recOk R.toRowW.records s) s.abs)) = some (true, openGood (view R.prog [119]) loose) := by
  kernel_rfl
end K77

set_option maxRecDepth 100000
set_option maxHeartbeats 0
/-! K9F: the top's run, functions and names. -/
namespace K77
open PySem PySem.W PySem.Calls PySem.Spec PyProof.Rows L2

theorem runB1 (w : World) (os : OsState) : (theEnd w os).map (fun s => ((fa0 ++ fa1).all (fun f => f.ok (He.frG (HandSHeadRun.getT s) (allAt s.n))), fn0.map fun d => He.fnW (He.frG (HandSHeadRun.getT s) (allAt s.n)) d.at_)) = some (true, fn0.map He.DefD.val) := by
  kernel_rfl
theorem runB2 (w : World) (os : OsState) : (theEnd w os).map (fun s => faR.all fun f => f.ok (He.frG (HandSHeadRun.getT s) (allAt s.n))) = some true := by
  kernel_rfl
theorem runB3 (w : World) (os : OsState) : (theEnd w os).map (fun s => (fn.all (fun d => d.ok (He.frG (HandSHeadRun.getT s) (allAt s.n))), (fn1 ++ fn2).map fun d => He.fnW (He.frG (HandSHeadRun.getT s) (allAt s.n)) d.at_)) = some (true, (fn1 ++ fn2).map He.DefD.val) := by
  kernel_rfl
theorem runB (w : World) (os : OsState) : (theEnd w os).map (fun s => He.obsD fa fn (He.frG (HandSHeadRun.getT s) (allAt s.n))) = some (He.valD fn) := by
  have a := runB1 w os
  have b := runB2 w os
  have c := runB3 w os
  cases e : theEnd w os with
  | none =>
    rw [e] at a
    cases a
  | some s =>
    rw [e] at a b c
    obtain ⟨a1, a2⟩ := Prod.mk.inj (Option.some.inj a)
    have b1 := Option.some.inj b
    obtain ⟨c1, c2⟩ := Prod.mk.inj (Option.some.inj c)
    have fs : (fa.all fun f => f.ok (He.frG (HandSHeadRun.getT s) (allAt s.n))) = true := by
      rw [show fa = (fa0 ++ fa1) ++ faR from rfl, List.all_append]
      exact Bool.and_eq_true_iff.mpr ⟨a1, b1⟩
    have ds : (fn.map fun d => He.fnW (He.frG (HandSHeadRun.getT s) (allAt s.n)) d.at_) = fn.map He.DefD.val := by
      show ((fn0 ++ (fn1 ++ fn2)).map fun d => He.fnW (He.frG (HandSHeadRun.getT s) (allAt s.n)) d.at_) = (fn0 ++ (fn1 ++ fn2)).map He.DefD.val
      rw [List.map_append, List.map_append (l₁ := fn0)]
      exact congr (congrArg _ a2) c2
    exact congrArg some (Prod.ext (Bool.and_eq_true_iff.mpr ⟨fs, c1⟩) ds)
end K77

set_option maxRecDepth 100000
set_option maxHeartbeats 0
/-! K9G: the top's run, the rest. -/
namespace K77
open PySem PySem.W PySem.Calls PySem.Spec PyProof.Rows L2

theorem runC (w : World) (os : OsState) : (theEnd w os).map (fun s => ((exs (He.frG (HandSHeadRun.getT s) (allAt s.n))).all (fun b => b), [fnA (He.frG (HandSHeadRun.getT s) (allAt s.n)) (gp (He.frG (HandSHeadRun.getT s) (allAt s.n)) "source"), fnA (He.frG (HandSHeadRun.getT s) (allAt s.n)) (gp (He.frG (HandSHeadRun.getT s) (allAt s.n)) "rulebook"), fnA (He.frG (HandSHeadRun.getT s) (allAt s.n)) (UI (He.frG (HandSHeadRun.getT s) (allAt s.n)))])) =
    some (true, [valA "source" "Desk.source" s_Desk_source, valA "rulebook" "Desk.rulebook" s_Desk_rulebook, valA "__init__" "UnknownSwitch.__init__" s_USw]) := by
  kernel_rfl
end K77

set_option maxRecDepth 100000
/-! KGo: the machine's steps, also through the yields that lie within «yield from» over a generator object. -/
namespace KG
open PySem

/-- a yield of «yield from» over a generator object: flagged, but the scheduler goes on at it -/
structure Soft (s : Shared) (t : Thread) : Prop where
  ex : ∃ v g l k a rest kw fs b r o, t.cur = .yield v g l k ∧ t.code = .builtin "proto.yield_from" ⟨.ref a :: rest, kw⟩ ∧ splitAtGen t.stack = some (fs, b, r) ∧
    fs.any Frame.guarded = false ∧ s.heap.get? a = some o ∧ o.genNumber?.isSome = true

def Fine (s : Shared) (t : Thread) : Prop := t.calm = true ∨ Soft s t

theorem Soft.congr {s σ : Shared} {t τ : Thread} (hs : σ.forget = s.forget) (ht : τ.forget = t.forget) (h : Soft s t) : Soft σ τ := by
  obtain ⟨v, g, l, k, a, rest, kw, fs, b, r, o, h1, h2, h3, h4, h5, h6⟩ := h
  obtain ⟨cur, code, pos, stack⟩ := t
  obtain ⟨cur', code', pos', stack'⟩ := τ
  have hh : σ.heap = s.heap := by show σ.forget.heap = s.forget.heap; rw [hs]
  simp only [Thread.forget, Thread.mk.injEq] at ht
  obtain ⟨e1, e2, e3, e4⟩ := ht
  simp only at h1 h2 h3
  have q : splitAtGen (forgetAll stack') = some (forgetAll fs, b, forgetAll r) := by rw [e4, splitAtGen_forgetAll, h3]; rfl
  rw [splitAtGen_forgetAll] at q
  cases hx : splitAtGen stack' with
  | none => rw [hx] at q; cases q
  | some x =>
    obtain ⟨fs', b', r'⟩ := x
    rw [hx] at q
    simp only [Option.map_some, Option.some.injEq, Prod.mk.injEq] at q
    obtain ⟨q1, q2, q3⟩ := q
    refine ⟨v, g, l, k, a, rest, kw, fs', b', r', o, e1.trans h1, e2.trans h2, hx, ?_, by rw [hh]; exact h5, h6⟩
    rw [← any_guarded_forgetAll fs', q1, any_guarded_forgetAll]; exact h4

theorem Fine.congr {s σ : Shared} {t τ : Thread} (hs : σ.forget = s.forget) (ht : τ.forget = t.forget) (h : Fine s t) : Fine σ τ := by
  rcases h with h | h
  · exact .inl (by rw [← Thread.calm_forget τ, ht, Thread.calm_forget t]; exact h)
  · exact .inr (h.congr hs ht)

section
variable (den : Code → Sem Fin) (prog : Program) (w : World)

theorem soft_life (others : List Value) {s : Shared} {t : Thread} (h : Soft s t) (hz : s.asleep) : lifeStep den prog w others s t = step den prog w s t := by
  obtain ⟨v, g, l, k, a, rest, kw, fs, b, r, o, h1, h2, h3, h4, h5, h6⟩ := h
  obtain ⟨hr, hc⟩ := hz
  obtain ⟨cur, code, pos, stack⟩ := t
  simp only at h1 h2 h3
  subst h1 h2
  have hd : delegateShows s (.ref a) = false := by
    unfold delegateShows
    simp only [h5]
    cases hg : o.genNumber? with
    | none => rw [hg] at h6; cases h6
    | some n => simp [hr]
  unfold lifeStep
  cases g with
  | false => simp [Thread.special, Thread.atCollectorCode, Thread.atItsEnd, Thread.yieldsInsideHandler, h3, h4, stepCounting, hc]
  | true =>
    simp [Thread.special, Thread.atCollectorCode, Thread.atItsEnd, Thread.yieldsInsideHandler, collectorTurn?, h3, h4, closingShows, hd, stepCounting, hc]

theorem soft_pick {s : Shared} {t : Thread} (h : Soft s t) (hr : s.heap.life.registered = []) : (Config.single s t).pick w = .ok (.run 0, .single s t) := by
  obtain ⟨v, g, l, k, a, rest, kw, fs, b, r, o, h1, -⟩ := h
  obtain ⟨cur, code, pos, stack⟩ := t
  simp only at h1
  subst h1
  have e1 : (Config.single s ⟨.yield v g l k, code, pos, stack⟩).collect? w.params = none := by
    simp [Config.collect?, Config.single, (nothing_to_collect _ _ _ s _ hr).1]
  have e2 : (Config.single s ⟨.yield v g l k, code, pos, stack⟩).collectable = [] := by
    simp [Config.collectable, Config.single, (nothing_to_collect w.params _ _ s _ hr).2]
  have e3 : (Config.single s ⟨.yield v g l k, code, pos, stack⟩).moves w.params.profile = [.run 0] := by
    simp [Config.moves, Config.single, movesFrom, Thread.moves, Thread.atomic, Thread.rests, Thread.tells]
  simp only [Config.pick, e1, e2, Config.pickThread, e3]
  cases w.params.lifetimes <;> simp

theorem soft_run {s : Shared} {t : Thread} (h : Soft s t) (hz : s.asleep) : (Config.single s t).run den prog w 0 = (step den prog w s t).lift := by
  have hl := fun others => soft_life den prog w others h hz
  obtain ⟨v, g, l, k, a, rest, kw, fs, b, r, o, h1, -⟩ := h
  obtain ⟨cur, code, pos, stack⟩ := t
  simp only at h1
  subst h1
  simp only [Config.run, Config.single]
  first
    | (simp [hl, others_single, frozenBadly, ThreadState.insideWrite]; split <;> simp_all [Step.lift, Config.single]; done)
    | (simp [hl, others_single, frozenBadly, ThreadState.insideWrite, Thread.finalizes]; split <;> simp_all [Step.lift, Config.single]; done)

theorem fine_sstep {s : Shared} {t : Thread} (h : Fine s t) (hz : s.asleep) {s' : Shared} {t' : Thread} (hg : step den prog w s t = .go s' t') :
    sstep den prog w (.single s t) = .go (.single s' t') := by
  rcases h with h | h
  · rcases sstep_single den prog w s t h hz with e | e
    · rw [e, hg]; rfl
    · rw [hg] at e; cases e
  · simp only [sstep, soft_pick w h hz.1, Config.move, soft_run den prog w h hz, hg]; rfl
end

/-! ### the run -/
inductive Go (M : Model) : Shared → Thread → Shared → Thread → Prop
  | refl {s t} : Go M s t s t
  | step {s t s₁ t₁ s' t'} : Fine s t → stepK M.den M.prog M.w s t = .go s₁ t₁ → Go M s₁ t₁ s' t' → Go M s t s' t'

variable {M : Model}
theorem Go.trans {s t s₁ t₁ s' t'} (h : Go M s t s₁ t₁) (h' : Go M s₁ t₁ s' t') : Go M s t s' t' := by
  induction h with
  | refl => exact h'
  | step a b _ ih => exact .step a b (ih h')

theorem step_fine {s t s₁ t₁} (h : M.step s t = .go s₁ t₁) : Fine s t ∧ stepK M.den M.prog M.w s t = .go s₁ t₁ := by
  cases hl : t.loud with
  | true => rw [M.step_loud hl] at h; cases h
  | false =>
    rw [M.step_quiet hl] at h
    refine ⟨.inl ?_, h⟩
    rw [Thread.calm_eq, hl]
    cases hr : t.refused with
    | false => rfl
    | true =>
      obtain ⟨what, e⟩ := stepK_refused M.den M.prog M.w (s := s) hr
      rw [e] at h; cases h
theorem Go.one {s t s₁ t₁ s' t'} (h : M.step s t = .go s₁ t₁) (h' : Go M s₁ t₁ s' t') : Go M s t s' t' := .step (step_fine h).1 (step_fine h).2 h'

theorem Go.of_comes {s t s' t'} (h : Comes M s t s' t') : Go M s t s' t' := by
  obtain ⟨n, hn⟩ := h
  induction n generalizing s t with
  | zero =>
    have e : Run.running s t = .running s' t' := hn
    injection e with e1 e2
    subst e1 e2
    exact .refl
  | succ n ih =>
    rw [runN_succ] at hn
    cases hs : M.step s t with
    | go s₂ t₂ => simp only [hs] at hn; exact .one hs (ih hn)
    | halt o s₂ => simp only [hs] at hn; cases hn

/-- a run to a leaf without frames: the scheduler ends so -/
theorem Go.ends {s t s' c p} {r : Result} (h : Go M s t s' ⟨leafOf r, c, p, []⟩) (hl : leftWithCleanup s'.gens = false) {σ : Shared} {τ : Thread} (hs : σ.forget = s.forget) (ht : τ.forget = t.forget) (hz : σ.asleep) :
    ∃ n s'', schedN M.den M.prog M.w n (.single σ τ) = .halted (outcomeOf r) s'' ∧ PySem.runN M.den M.prog M.w n σ τ = .halted (outcomeOf r) s'' ∧ s''.forget = s'.forget := by
  generalize he : (⟨leafOf r, c, p, []⟩ : Thread) = te at h
  induction h generalizing σ τ with
  | @refl s t =>
    subst he
    obtain ⟨cur, code, pos, stack⟩ := τ
    simp only [Thread.forget, Thread.mk.injEq, forgetAll_nil] at ht
    obtain ⟨rfl, rfl, rfl, e4⟩ := ht
    obtain rfl : stack = [] := by cases stack with | nil => rfl | cons x xs => simp at e4
    have hg : leftWithCleanup σ.gens = false := by
      have e : σ.gens.map GenState.forget = s.gens.map GenState.forget := congrArg Shared.gens hs
      rw [← leftWithCleanup_forget, e, leftWithCleanup_forget]; exact hl
    have hstep : PySem.step M.den M.prog M.w σ ⟨leafOf r, code, pos, []⟩ = .halt (outcomeOf r) σ := by
      cases r <;> simp [leafOf, outcomeOf, PySem.step, finish, hg]
    have hcalm : Thread.calm ⟨leafOf r, code, pos, []⟩ = true := by cases r <;> rfl
    refine ⟨1, σ, ?_, by simp only [PySem.runN, hstep], hs⟩
    rcases sstep_single M.den M.prog M.w σ _ hcalm hz with e | e
    · simp only [schedN, e, hstep, Step.lift]
    · rw [hstep] at e; cases r <;> cases e
  | @step s t s₁ t₁ s' t' hf hk _ ih =>
    have e1 := (stepK_forget M.den M.prog M.w s t).trans (step_same M.den M.prog M.w hs.symm ht.symm)
    rw [hk] at e1
    cases hg : PySem.step M.den M.prog M.w σ τ with
    | halt o σ₁ => rw [hg] at e1; cases e1
    | go σ₁ τ₁ =>
      rw [hg] at e1
      simp only [Step.forget, Step.go.injEq] at e1
      obtain ⟨n, s'', a, b, d⟩ := ih hl e1.1.symm e1.2.symm (Shared.asleep_of_life (step_life M.den M.prog M.w σ σ₁ τ τ₁ hg) hz) he
      have hss := fine_sstep M.den M.prog M.w (hf.congr hs ht) hz hg
      exact ⟨n + 1, s'', by simp only [schedN, hss]; exact a, by simp only [PySem.runN, hg]; exact b, d⟩
end KG

set_option maxRecDepth 100000
/-! KWq: what a tree does, where calls and resumptions may pass soft yields. -/
namespace KG
open PySem
open Sem (wp)

/-- the code of Γ runs to a leaf, over any stack that fits -/
def RetQ (M : Model) (Γ : Ctx) (R : Result → Shared → Prop) (p : Pos) (s : Shared) : Prop :=
  ∀ st, Γ.Fits st → ∃ r s' c' p', Go M s ⟨M.den Γ.code, Γ.code, p, st⟩ s' ⟨leafOf r, c', p', st⟩ ∧ R r s'
/-- a generator is woken and answers -/
def WkQ (M : Model) (Γ : Ctx) (p : Pos) (g : Nat) (r : Resume) (R : GenResult → Shared → Prop) (s : Shared) : Prop :=
  ∀ (st : List Frame) (l : List Value) (k : GenResult → Sem PySem.Fin), Γ.Fits st → ∃ res s', Go M s ⟨.resume g r l k, Γ.code, p, st⟩ s' ⟨k res, Γ.code, p, st⟩ ∧ R res s'

def wq {α : Type} (M : Model) (Γ : Ctx) : Sem α → (α → Pos → Shared → Prop) → (Value → Pos → Shared → Prop) → Pos → Shared → Prop
  | .pure a, Q, _, p, s => Q a p s
  | .raise e, _, E, p, s => E e p s
  | .rule _ k, Q, E, p, s => wq M Γ (k ()) Q E p s
  | .at p₁ k, Q, E, _, s => wq M Γ (k ()) Q E p₁ s
  | .load a _ k, Q, E, p, s => ∃ o, s.heap.get? a = some o ∧ wq M Γ (k o) Q E p s
  | .update a _ f k, Q, E, p, s => (s.heap.get? a).isSome ∧ wq M Γ (k ()) Q E p { s with heap := s.heap.update a f }
  | .loadIfAlive a k, Q, E, p, s => wq M Γ (k (s.heap.get? a)) Q E p s
  | .point _ k, Q, E, p, s => wq M Γ (k ()) Q E p s
  | .alloc o k, Q, E, p, s => wq M Γ (k s.heap.objs.size) Q E p { s with heap := s.heap.push o }
  | .fresh k, Q, E, p, s => wq M Γ (k s.toks) Q E p { s with toks := s.toks + 1 }
  | .ask k, Q, E, p, s => wq M Γ (k ⟨M.prog, M.w.params⟩) Q E p s
  | .choose src n k, Q, E, p, s => n ≠ 0 ∧ wq M Γ (k (M.w.draws src (s.drawn.get src) % n)) Q E p { s with drawn := s.drawn.bump src }
  | .os q _ k, Q, E, p, s => wq M Γ (k (Os.step s.os q).2) Q E p { s with os := (Os.step s.os q).1 }
  | .call c h _ _ k, Q, E, p, s => RetQ M (Γ.enter c h p) (fun r s' => wq M Γ (k r) Q E p s') p s
  | .handled own k, Q, E, p, s => wq M Γ (k (if own then Γ.own else Γ.handled)) Q E p s
  | .genState g k, Q, E, p, s => ∃ x, s.gens[g]? = some x ∧ wq M Γ (k x.seen) Q E p s
  | .newGen c k, Q, E, p, s => wq M Γ (k s.gens.size) Q E p { s with gens := s.gens.push (.fresh c) }
  | .resume g r _ k, Q, E, p, s => WkQ M Γ p g r (fun res s' => wq M Γ (k res) Q E p s') s
  | .stack k, Q, E, p, s => wq M Γ (k ((Γ.code, p) :: Γ.below)) Q E p s
  | .thread k, Q, E, p, s => wq M Γ (k 0) Q E p s
  | _, _, _, _, _ => False

section
variable {M : Model} {Γ : Ctx}
theorem RetQ.mono {R R' : Result → Shared → Prop} {p : Pos} {s : Shared} (h : RetQ M Γ R p s) (hR : ∀ r s', R r s' → R' r s') : RetQ M Γ R' p s := fun st hf => by
  obtain ⟨r, s', c', p', a, b⟩ := h st hf
  exact ⟨r, s', c', p', a, hR _ _ b⟩
theorem WkQ.mono {R R' : GenResult → Shared → Prop} {p : Pos} {g : Nat} {r : Resume} {s : Shared} (h : WkQ M Γ p g r R s) (hR : ∀ r s', R r s' → R' r s') : WkQ M Γ p g r R' s := fun st l k hf => by
  obtain ⟨res, s', a, b⟩ := h st l k hf
  exact ⟨res, s', a, hR _ _ b⟩

theorem wq_mono {α : Type} {Q Q' : α → Pos → Shared → Prop} {E E' : Value → Pos → Shared → Prop} (t : Sem α) (hQ : ∀ a p s, Q a p s → Q' a p s) (hE : ∀ e p s, E e p s → E' e p s) :
    ∀ p s, wq M Γ t Q E p s → wq M Γ t Q' E' p s := by
  induction t with
  | pure a => exact fun p s h => hQ a p s h
  | raise e => exact fun p s h => hE e p s h
  | unsupported | finish | yield | fork | await | register => exact fun _ _ h => h
  | rule _ k ih | «at» _ k ih | alloc _ k ih | loadIfAlive _ k ih | point _ k ih | fresh k ih | ask k ih | os _ _ k ih | handled _ k ih | newGen _ k ih | stack k ih | thread k ih => exact fun _ _ h => ih _ _ _ h
  | load a _ k ih | genState a k ih => exact fun _ _ ⟨o, ho, h⟩ => ⟨o, ho, ih _ _ _ h⟩
  | update a _ f k ih | choose _ _ k ih => exact fun _ _ ⟨ha, h⟩ => ⟨ha, ih _ _ _ h⟩
  | call c h g l k ih => exact fun p s h => RetQ.mono h fun r s' => ih r p s'
  | resume g r l k ih => exact fun p s h => WkQ.mono h fun r s' => ih r p s'

theorem wq_bind {α β : Type} (f : α → Sem β) {Q : β → Pos → Shared → Prop} {E : Value → Pos → Shared → Prop} (m : Sem α) :
    ∀ p s, wq M Γ m (fun a p' s' => wq M Γ (f a) Q E p' s') E p s → wq M Γ (m.bind f) Q E p s := by
  induction m with
  | pure a => exact fun _ _ h => h
  | raise e => exact fun _ _ h => h
  | unsupported | finish | yield | fork | await | register => exact fun _ _ h => h
  | rule _ k ih | «at» _ k ih | alloc _ k ih | loadIfAlive _ k ih | point _ k ih | fresh k ih | ask k ih | os _ _ k ih | handled _ k ih | newGen _ k ih | stack k ih | thread k ih => exact fun _ _ h => ih _ _ _ h
  | load a _ k ih | genState a k ih => exact fun _ _ ⟨o, ho, h⟩ => ⟨o, ho, ih _ _ _ h⟩
  | update a _ f k ih | choose _ _ k ih => exact fun _ _ ⟨ha, h⟩ => ⟨ha, ih _ _ _ h⟩
  | call c h g l k ih => exact fun p s h => RetQ.mono h fun r s' => ih r p s'
  | resume g r l k ih => exact fun p s h => WkQ.mono h fun r s' => ih r p s'

theorem wq_catch {α : Type} (k₀ : Value → Sem α) {Q : α → Pos → Shared → Prop} {E : Value → Pos → Shared → Prop} (m : Sem α) :
    ∀ p s, wq M Γ m Q (fun e p' s' => wq M Γ (k₀ e) Q E p' s') p s → wq M Γ (m.tryCatch k₀) Q E p s := by
  induction m with
  | pure a => exact fun _ _ h => h
  | raise e => exact fun _ _ h => h
  | unsupported | finish | yield | fork | await | register => exact fun _ _ h => h
  | rule _ k ih | «at» _ k ih | alloc _ k ih | loadIfAlive _ k ih | point _ k ih | fresh k ih | ask k ih | os _ _ k ih | handled _ k ih | newGen _ k ih | stack k ih | thread k ih => exact fun _ _ h => ih _ _ _ h
  | load a _ k ih | genState a k ih => exact fun _ _ ⟨o, ho, h⟩ => ⟨o, ho, ih _ _ _ h⟩
  | update a _ f k ih | choose _ _ k ih => exact fun _ _ ⟨ha, h⟩ => ⟨ha, ih _ _ _ h⟩
  | call c h g l k ih => exact fun p s h => RetQ.mono h fun r s' => ih r p s'
  | resume g r l k ih => exact fun p s h => WkQ.mono h fun r s' => ih r p s'

theorem wq_raised {α : Type} (k₀ : Value → Sem Unit) {Q : α → Pos → Shared → Prop} {E : Value → Pos → Shared → Prop} (m : Sem α) :
    ∀ p s, wq M Γ m Q (fun e p' s' => wq M Γ (k₀ e) (fun _ p₂ s₂ => E e p₂ s₂) E p' s') p s → wq M Γ (m.onRaise k₀) Q E p s := by
  induction m with
  | pure a => exact fun _ _ h => h
  | raise e => exact fun _ _ h => wq_bind _ _ _ _ h
  | unsupported | finish | yield | fork | await | register => exact fun _ _ h => h
  | rule _ k ih | «at» _ k ih | alloc _ k ih | loadIfAlive _ k ih | point _ k ih | fresh k ih | ask k ih | os _ _ k ih | handled _ k ih | newGen _ k ih | stack k ih | thread k ih => exact fun _ _ h => ih _ _ _ h
  | load a _ k ih | genState a k ih => exact fun _ _ ⟨o, ho, h⟩ => ⟨o, ho, ih _ _ _ h⟩
  | update a _ f k ih | choose _ _ k ih => exact fun _ _ ⟨ha, h⟩ => ⟨ha, ih _ _ _ h⟩
  | call c h g l k ih => exact fun p s h => RetQ.mono h fun r s' => ih r p s'
  | resume g r l k ih => exact fun p s h => WkQ.mono h fun r s' => ih r p s'

theorem wq_keep {α : Type} (vs : List Value) {Q : α → Pos → Shared → Prop} {E : Value → Pos → Shared → Prop} (m : Sem α) : ∀ p s, wq M Γ m Q E p s → wq M Γ (m.keep vs) Q E p s := by
  induction m with
  | pure a => exact fun _ _ h => h
  | raise e => exact fun _ _ h => h
  | unsupported | finish | yield | fork | await | register => exact fun _ _ h => h
  | rule _ k ih | «at» _ k ih | alloc _ k ih | loadIfAlive _ k ih | point _ k ih | fresh k ih | ask k ih | os _ _ k ih | handled _ k ih | newGen _ k ih | stack k ih | thread k ih => exact fun _ _ h => ih _ _ _ h
  | load a _ k ih | genState a k ih => exact fun _ _ ⟨o, ho, h⟩ => ⟨o, ho, ih _ _ _ h⟩
  | update a _ f k ih | choose _ _ k ih => exact fun _ _ ⟨ha, h⟩ => ⟨ha, ih _ _ _ h⟩
  | call c h g l k ih => exact fun p s h => RetQ.mono h fun r s' => ih r p s'
  | resume g r l k ih => exact fun p s h => WkQ.mono h fun r s' => ih r p s'

/-! ### all of wp -/
theorem RetQ.of_code {R : Result → Shared → Prop} {p : Pos} {s : Shared} (h : wpCode M Γ R p s) : RetQ M Γ R p s := fun st hf => by
  obtain ⟨r, s', hr, hR⟩ := h
  obtain ⟨t', c', p', pre', hc, hx⟩ := (runs_reach hr st hf).comes
  obtain ⟨rfl, rfl⟩ := hx
  exact ⟨r, s', c', p', .of_comes hc, hR⟩
theorem WkQ.of_wakes {p : Pos} {g : Nat} {r : Resume} {res : GenResult} {s s' : Shared} {R : GenResult → Shared → Prop} (h : Wakes M Γ p g r s res s') (hR : R res s') : WkQ M Γ p g r R s :=
  fun st l k hf => ⟨res, s', .of_comes (wakes_comes hf l k h), hR⟩
theorem wq_of_wp {α : Type} {Q : α → Pos → Shared → Prop} {E : Value → Pos → Shared → Prop} (t : Sem α) : ∀ p s, wp M Γ t Q E p s → wq M Γ t Q E p s := by
  induction t with
  | pure a => exact fun _ _ h => h
  | raise e => exact fun _ _ h => h
  | unsupported | finish | yield | fork | await | register => exact fun _ _ h => h.elim
  | rule _ k ih | «at» _ k ih | alloc _ k ih | loadIfAlive _ k ih | point _ k ih | fresh k ih | ask k ih | os _ _ k ih | handled _ k ih | newGen _ k ih | stack k ih | thread k ih => exact fun _ _ h => ih _ _ _ h
  | load a _ k ih | genState a k ih => exact fun _ _ ⟨o, ho, h⟩ => ⟨o, ho, ih _ _ _ h⟩
  | update a _ f k ih | choose _ _ k ih => exact fun _ _ ⟨ha, h⟩ => ⟨ha, ih _ _ _ h⟩
  | call c h g l k ih => exact fun p s h => RetQ.mono (.of_code h) fun r s' => ih r p s'
  | resume g r l k ih => exact fun p s ⟨res, s', hw, h⟩ => WkQ.of_wakes hw (ih res p s' h)

/-! ### the machine follows -/
theorem wq_go {α : Type} {st : List Frame} (hf : Γ.Fits st) (f : α → Sem PySem.Fin) {Q : α → Pos → Shared → Prop} {E : Value → Pos → Shared → Prop} (m : Sem α) : ∀ p s, wq M Γ m Q E p s →
    ∃ s' p' t', Go M s ⟨m.bind f, Γ.code, p, st⟩ s' ⟨t', Γ.code, p', st⟩ ∧ ((∃ a, t' = f a ∧ Q a p' s') ∨ ∃ e, t' = .raise e ∧ E e p' s') := by
  induction m with
  | pure a => exact fun p s h => ⟨s, p, _, .refl, .inl ⟨a, rfl, h⟩⟩
  | raise e => exact fun p s h => ⟨s, p, _, .refl, .inr ⟨e, rfl, h⟩⟩
  | unsupported | finish | yield | fork | await | register => exact fun _ _ h => h.elim
  | rule tag k ih => intro p s h; obtain ⟨s', p', t', hc, hl⟩ := ih _ _ _ h; exact ⟨s', p', t', .one (step_rule ..) hc, hl⟩
  | «at» p₁ k ih => intro p s h; obtain ⟨s', p', t', hc, hl⟩ := ih _ _ _ h; exact ⟨s', p', t', .one (step_at ..) hc, hl⟩
  | load a part k ih => intro p s ⟨o, ho, h⟩; obtain ⟨s', p', t', hc, hl⟩ := ih _ _ _ h; exact ⟨s', p', t', .one (step_load _ _ _ _ _ _ _ ho) hc, hl⟩
  | update a part g k ih => intro p s ⟨ha, h⟩; obtain ⟨s', p', t', hc, hl⟩ := ih _ _ _ h; exact ⟨s', p', t', .one (step_update _ _ _ _ _ _ _ _ ha) hc, hl⟩
  | loadIfAlive a k ih => intro p s h; obtain ⟨s', p', t', hc, hl⟩ := ih _ _ _ h; exact ⟨s', p', t', .one (step_loadIfAlive ..) hc, hl⟩
  | point l k ih => intro p s h; obtain ⟨s', p', t', hc, hl⟩ := ih _ _ _ h; exact ⟨s', p', t', .one (step_point ..) hc, hl⟩
  | alloc o k ih => intro p s h; obtain ⟨s', p', t', hc, hl⟩ := ih _ _ _ h; exact ⟨s', p', t', .one (step_alloc ..) hc, hl⟩
  | fresh k ih => intro p s h; obtain ⟨s', p', t', hc, hl⟩ := ih _ _ _ h; exact ⟨s', p', t', .one (step_fresh ..) hc, hl⟩
  | ask k ih => intro p s h; obtain ⟨s', p', t', hc, hl⟩ := ih _ _ _ h; exact ⟨s', p', t', .one (step_ask ..) hc, hl⟩
  | choose src n k ih => intro p s ⟨hn, h⟩; obtain ⟨s', p', t', hc, hl⟩ := ih _ _ _ h; exact ⟨s', p', t', .one (step_choose _ _ _ _ _ _ _ hn) hc, hl⟩
  | os q l k ih => intro p s h; obtain ⟨s', p', t', hc, hl⟩ := ih _ _ _ h; exact ⟨s', p', t', .one (step_os ..) hc, hl⟩
  | call c h₀ g l k ih =>
    intro p s h
    obtain ⟨r, s₁, c', p₁, hc₁, h⟩ := h _ (hf.enter c (fun x => (k x).bind f) h₀ g l p [])
    obtain ⟨s', p', t', hc, hl⟩ := ih r p s₁ h
    exact ⟨s', p', t', .one (step_call ..) (.trans hc₁ (.one (step_leaf_ret ..) hc)), hl⟩
  | handled own k ih =>
    intro p s h
    obtain ⟨s', p', t', hc, hl⟩ := ih _ _ _ h
    refine ⟨s', p', t', .one ?_ hc, hl⟩
    show M.step s ⟨.handled own fun x => (k x).bind f, Γ.code, p, st⟩ = _
    rw [step_handled]
    cases own
    · rw [hf.handled]; rfl
    · rw [hf.own]; rfl
  | genState g k ih => intro p s ⟨x, hg, h⟩; obtain ⟨s', p', t', hc, hl⟩ := ih _ _ _ h; exact ⟨s', p', t', .one (step_genState _ _ _ _ _ _ hg) hc, hl⟩
  | newGen c k ih => intro p s h; obtain ⟨s', p', t', hc, hl⟩ := ih _ _ _ h; exact ⟨s', p', t', .one (step_newGen ..) hc, hl⟩
  | resume g r l k ih =>
    intro p s h
    obtain ⟨res, s₁, hc₁, h⟩ := h st l (fun x => (k x).bind f) hf
    obtain ⟨s', p', t', hc, hl⟩ := ih res p s₁ h
    exact ⟨s', p', t', .trans hc₁ hc, hl⟩
  | stack k ih =>
    intro p s h
    obtain ⟨s', p', t', hc, hl⟩ := ih _ _ _ h
    exact ⟨s', p', t', .one (by rw [hf.below]; exact step_stack ..) hc, hl⟩
  | thread k ih => intro p s h; obtain ⟨s', p', t', hc, hl⟩ := ih _ _ _ h; exact ⟨s', p', t', .one (step_thread ..) hc, hl⟩
end

/-! ### around any calm place -/
def wqAny {α : Type} (M : Model) (A : Around) (t : Sem α) (Q : α → Shared → Prop) (E : Value → Shared → Prop) (s : Shared) : Prop :=
  ∀ Γ p, Γ.In A → wq M Γ t (fun a _ s' => Q a s') (fun e _ s' => E e s') p s
def codeQ (M : Model) (A : Around) (c : Code) (R : Result → Shared → Prop) (s : Shared) : Prop := ∀ Γ p, Γ.code = c → Γ.Below A → RetQ M Γ R p s

section
variable {α β : Type} {M : Model} {A : Around} {E : Value → Shared → Prop} {s : Shared}
theorem qof {t : Sem α} {Q : α → Shared → Prop} (h : wpAny M A t Q E s) : wqAny M A t Q E s := fun Γ p hΓ => wq_of_wp t p s (h Γ p hΓ)
theorem codeQ.of {c : Code} {R : Result → Shared → Prop} (h : codeAny M A c R s) : codeQ M A c R s := fun Γ p hc hΓ => .of_code (h Γ p hc hΓ)
theorem codeQ.mono {c : Code} {R R' : Result → Shared → Prop} (h : codeQ M A c R s) (hR : ∀ r s', R r s' → R' r s') : codeQ M A c R' s := fun Γ p hc hΓ => (h Γ p hc hΓ).mono hR
theorem qmono {t : Sem α} {Q Q' : α → Shared → Prop} {E' : Value → Shared → Prop} (h : wqAny M A t Q E s) (hQ : ∀ a s, Q a s → Q' a s) (hE : ∀ e s, E e s → E' e s) : wqAny M A t Q' E' s :=
  fun Γ p hΓ => wq_mono t (fun a _ s => hQ a s) (fun e _ s => hE e s) p s (h Γ p hΓ)
theorem qthn {t : Sem α} {Q Q' : α → Shared → Prop} (h : wqAny M A t Q E s) (hQ : ∀ a s, Q a s → Q' a s) : wqAny M A t Q' E s := qmono h hQ fun _ _ x => x
theorem qpure {a : α} {Q : α → Shared → Prop} (h : Q a s) : wqAny M A (pure a) Q E s := fun _ _ _ => h
theorem qthrow {e : Value} {Q : α → Shared → Prop} (h : E e s) : wqAny M A (throw e : Sem α) Q E s := fun _ _ _ => h
theorem qbind {m : Sem α} {f : α → Sem β} {Q : β → Shared → Prop} (h : wqAny M A m (fun a s' => wqAny M A (f a) Q E s') E s) : wqAny M A (m >>= f) Q E s := fun Γ p hΓ =>
  wq_bind f m p s (wq_mono m (fun a p' s' h' => h' Γ p' hΓ) (fun _ _ _ h' => h') p s (h Γ p hΓ))
/-- a quiet beginning -/
theorem qlet {m : Sem α} {f : α → Sem β} {Q : β → Shared → Prop} (h : wpAny M A m (fun a s' => wqAny M A (f a) Q E s') E s) : wqAny M A (m >>= f) Q E s := qbind (qof h)
theorem qcatch {m : Sem α} {k : Value → Sem α} {Q : α → Shared → Prop} (h : wqAny M A m Q (fun e s' => wqAny M A (k e) Q E s') s) : wqAny M A (tryCatch m k) Q E s := fun Γ p hΓ =>
  wq_catch k m p s (wq_mono m (fun _ _ _ h' => h') (fun e p' s' h' => h' Γ p' hΓ) p s (h Γ p hΓ))
theorem qraised {m : Sem α} {k : Value → Sem Unit} {Q : α → Shared → Prop} (h : wqAny M A m Q (fun e s' => wqAny M A (k e) (fun _ s₂ => E e s₂) E s') s) : wqAny M A (m.onRaise k) Q E s := fun Γ p hΓ =>
  wq_raised k m p s (wq_mono m (fun _ _ _ h' => h') (fun e p' s' h' => h' Γ p' hΓ) p s (h Γ p hΓ))
theorem qattempt {m : Sem α} {Q : Except Value α → Shared → Prop} (h : wqAny M A m (fun a => Q (.ok a)) (fun e => Q (.error e)) s) : wqAny M A m.attempt Q E s := by
  unfold Sem.attempt
  exact qcatch (qbind (qthn (qmono h (fun _ _ x => x) fun e s' x => qpure x) fun a s' x => qpure x))
theorem qhold {vs : List Value} {m : Sem α} {Q : α → Shared → Prop} (h : wqAny M A m Q E s) : wqAny M A (holding vs m) Q E s := fun Γ p hΓ => by
  rw [holding_eq_keep]; exact wq_keep _ m p s (h Γ p hΓ)
theorem qat {pos : Pos} {f : Unit → Sem β} {Q : β → Shared → Prop} (h : wqAny M A (f ()) Q E s) : wqAny M A (standAt pos >>= f) Q E s := qbind fun Γ p hΓ => h
theorem qrun {c : Code} {h : Option Value} {Q : Flow → Shared → Prop} (hc : codeQ M (A.mark h) c (fun r s' => match r with | .ok f => Q f s' | .error e => E e s') s) (hnb : h ≠ some byPass := by intro x; cases x) :
    wqAny M A (run c h) Q E s := fun Γ p hΓ => by
  refine RetQ.mono (hc (Γ.enter c h p) p rfl (hΓ.enter c h p hnb)) fun r s' q => ?_
  cases r with
  | ok f => exact q
  | error e => exact q
theorem qcall {f : Value} {pos : List Value} {kw : List (Str × Value)} {Q : Value → Shared → Prop}
    (hc : codeQ M A (.call f ⟨pos, kw⟩) (fun r s' => match r with | .ok (.ret v) => Q v s' | .ok _ => False | .error e => E e s') s) : wqAny M A (call f pos kw) Q E s := fun Γ p hΓ => by
  refine RetQ.mono (hc (Γ.enter _ none p) p rfl (hΓ.enter _ none p (by intro x; cases x))) fun r s' q => ?_
  cases r with
  | error e => exact q
  | ok f =>
    cases f with
    | ret v => exact q
    | next => exact q.elim
    | brk => exact q.elim
    | cont => exact q.elim
theorem codeQ_tree {c : Code} {R : Result → Shared → Prop}
    (h : wqAny M (A.under c) (M.den c) (fun fin s' => match fin with | .done f => R (.ok f) s' | .again c₁ => c₁.quiet = true ∧ codeQ M A c₁ R s') (fun e s' => R (.error e) s') s) : codeQ M A c R s := fun Γ p hc hΓ st hf => by
  obtain ⟨s₁, p₁, t₁, hg, hl⟩ := wq_go hf Sem.pure (M.den c) p s (h Γ p (hc ▸ hΓ.in))
  rw [show (M.den c).bind Sem.pure = M.den c from bind_pure (M.den c)] at hg
  rw [hc]
  rw [hc] at hg
  rcases hl with ⟨a, rfl, hq⟩ | ⟨e, rfl, hq⟩
  · cases a with
    | done f => exact ⟨.ok f, s₁, c, p₁, hg, hq⟩
    | again c₁ =>
      obtain ⟨hq1, hq2⟩ := hq
      obtain ⟨r, s', c', p', hg2, hR⟩ := hq2 (Γ.goto c₁) p₁ rfl (hΓ.goto c₁) st (hf.goto c₁)
      exact ⟨r, s', c', p', .trans hg (.one (step_again _ _ _ _ _ _ hq1) hg2), hR⟩
  · exact ⟨.error e, s₁, c, p₁, hg, hq⟩
end
end KG

set_option maxRecDepth 100000
set_option maxHeartbeats 2000000
/-! KEnd: from codeQ of the law's call to its statement. -/
namespace KG
open PySem PySem.W PySem.Calls PyProof.Rows

theorem ends2 {M : Model} {t : Sem PySem.Fin} {s : Shared} {R : Result → Shared → Prop} (hz : s.asleep)
    (h : wqAny M callerA t (fun fin s' => ∃ f, fin = .done f ∧ R (.ok f) s' ∧ leftWithCleanup s'.gens = false) (fun e s' => R (.error e) s' ∧ leftWithCleanup s'.gens = false) s) :
    ∃ n r s' s₂, PySem.runN M.den M.prog M.w n s ⟨t, .builtin "claim.caller" {}, default, []⟩ = .halted (outcomeOf r) s' ∧
      schedN M.den M.prog M.w n (.single s ⟨t, .builtin "claim.caller" {}, default, []⟩) = .halted (outcomeOf r) s' ∧ s'.forget = s₂.forget ∧ R r s₂ := by
  have hf : Ctx.Fits ⟨.builtin "claim.caller" {}, none, none, [], none⟩ [] := ⟨rfl, rfl, rfl, rfl⟩
  obtain ⟨s₂, p₂, t₂, hg, hl⟩ := wq_go hf Sem.pure t default s (h _ default caller_in)
  rw [show t.bind Sem.pure = t from bind_pure t] at hg
  rcases hl with ⟨a, rfl, f, rfl, hR, hb⟩ | ⟨e, rfl, hR, hb⟩
  · obtain ⟨n, s', a1, a2, a3⟩ := Go.ends (r := .ok f) hg hb rfl rfl hz
    exact ⟨n, .ok f, s', s₂, a2, a1, a3, hR⟩
  · obtain ⟨n, s', a1, a2, a3⟩ := Go.ends (r := .error e) hg hb rfl rfl hz
    exact ⟨n, .error e, s', s₂, a2, a1, a3, hR⟩

theorem callFrom2 {c : ClaimW} {tree : List Value → Sem PySem.Fin} {w : World} {s : Shared} {free : Addr → Prop} {gens : Prop} {kept : Heap → Prop} (hz : s.asleep) (hgens : s.gens = #[])
    (hspec : ∀ args, c.pre args = true → WData.layableAll args = true → ∀ ord : List DictEntry → List DictEntry, (∀ l, (ord l).Perm l) →
      ∃ vs s₁, layAllW c.records (classAt s.heap) w.params ord args s = some (vs, s₁) ∧
        wqAny (model c.prog w) callerA (tree vs) (fun fin s' => ∃ f, fin = .done f ∧ (c.Ends s args vs s₁ (.ok f) s' ∧ s'.os = s.os ∧ AllBare s'.gens ∧ kept s'.heap))
          (fun e s' => c.Ends s args vs s₁ (.error e) s' ∧ s'.os = s.os ∧ AllBare s'.gens ∧ kept s'.heap) s₁) :
    c.CallFrom (fun vs => ⟨tree vs, .builtin "claim.caller" {}, default, []⟩) w free gens kept s := by
  intro args hpre hlay ord hord
  obtain ⟨vs, s₁, hlaid, hcode⟩ := hspec args hpre hlay ord hord
  have hal := layAllW_rest _ _ _ hlaid
  obtain ⟨k, r, s', s₂, hrun, hsched, hfo, hcase, hos, hkp⟩ := ends2 (M := model c.prog w) (t := tree vs) (s := s₁) (R := fun r s' => c.Ends s args vs s₁ r s' ∧ s'.os = s.os ∧ kept s'.heap)
    (Shared.asleep_of_life hal.2.2.2 hz)
    (qmono hcode (fun fin s' ⟨f, e, h1, h2, h3, h4⟩ => ⟨f, e, ⟨h1, h2, h4⟩, leftWithCleanup_false_of_bare h3⟩) fun e s' ⟨h1, h2, h3, h4⟩ => ⟨⟨h1, h2, h4⟩, leftWithCleanup_false_of_bare h3⟩)
  obtain ⟨eh, _, _, eo, _⟩ := Shared.forget_eq hfo
  have hcase := hcase.congr eh
  rw [← eh] at hkp
  rw [← eo] at hos
  have hlife : s'.heap.life = s.heap.life := (runN_life _ _ _ hrun).trans hal.2.2.2
  refine ⟨vs, s₁, hlaid, k, _, s', hsched, ?_, (fun _ i x hx => by rw [hgens] at hx; simp at hx), hkp, by rw [hlife], Shared.rest_eq hos⟩
  rcases hcase with ⟨v, rfl, d1, d2, d3, d4, d5⟩ | ⟨e, ob, cls, rfl, d1, d2, d3, d4, d5⟩
  · exact .inl ⟨v, rfl, d1, d2, d3, fun b o y _ => d4 b o y, d5⟩
  · exact .inr ⟨e, ob, cls, rfl, d1, d2, d3, d4, fun b o y _ => d5 b o y⟩

/-- what is to be shown of the law's call -/
def LawQ (l : OpenLaw) (n : Nat) (q : Program) (loose : List Str) (XP : (Str → Option Value) → Heap → Prop) (YP : World → Heap → Prop) (d : DefRec) : Prop :=
  ∀ (w : World) (s₀ s₁ : Shared) (mg mb : Str → Option Value) (fa : Addr) (o : Obj) (pm cd doc : Value) (a : Addr) (vs : List Value) (ns : List Int), Ground q loose [] XP w s₀ mg mb s₁.heap → YP w s₁.heap → s₁.heap.get? fa = some o →
    o.data = .func (docDef d.name d.params d.body d.scope pm cd doc) → s₁.heap.CodeRec cd d.name → mg d.name = some (.ref fa) → s₁.heap.get? a = some { cls := .type "list", data := .seq vs.toArray } → IntsAre vs ns → ns.length ≤ n → s₁.gens = #[] →
    codeQ (model l.prog w) callerA (.call (.ref fa) ⟨[.ref a], []⟩) (fun r s' => r = .ok (.ret (.bool true)) ∧ OldK s₁.heap s'.heap ∧ s'.os = s₁.os ∧ AllBare s'.gens) s₁

theorem holdsQ {l : OpenLaw} {n : Nat} {q : Program} {loose : List Str} {Xt : Shared → Bool} {XP : (Str → Option Value) → Heap → Prop} {α : Type} {Yf : Shared → α} {Ya : World → α} {YP : World → Heap → Prop} {d : DefRec} {N : Nat}
    (hn : l.most = some n) (hdf : d.params.defaults = []) (left : LeftO l.row.prog q loose Xt Yf Ya N)
    (hY : ∀ w s, Yf s = Ya w → YP w s.heap) (hYk : ∀ w h h', YP w h → (∀ b o, h.get? b = some o → h'.get? b = some o) → YP w h')
    (hX : ∀ s, Xt s = true → XP (s.heap.nsMap mainGlobals) s.heap) (hXk : ∀ mg h h', XP mg h → (∀ b o, h.get? b = some o → h'.get? b = some o) → XP mg h')
    (hdef : defOf q l.row.name = some (d, [])) (hp : l.row.prog.theDef l.row.name = some (d.params, d.body, d.scope)) (hk : kwWritten? d.params.kwonlyargs d.params.kw_defaults = some [])
    (hRf : ∀ s, Xt s = true → RecFacts l.row.records s.heap) (hwr : (!l.row.writes || l.row.records.isEmpty) = true) (k1 : l.row.wellSaid = true)
    (ok : (chainsOk q && opensWell l.row.prog && (frees l.row.toRowW && l.row.within.isEmpty)) = true) (hb : l.row.prog.bare) (hw : l.row.toRowW.promised) (call : LawQ l n q loose XP YP d) : l.row.Holds := by
  have hlk : (chainsOk q && opensWell l.row.prog && (frees l.row.toRowW && l.row.toRowW.within.isEmpty)) = true := ok
  obtain ⟨ok1, k5⟩ := Bool.and_eq_true_iff.mp hlk
  obtain ⟨hch, o1⟩ := Bool.and_eq_true_iff.mp ok1
  obtain ⟨k5, k6⟩ := Bool.and_eq_true_iff.mp k5
  obtain ⟨hsame, hu, ha, hap, hm⟩ := frees_parts k5
  refine ⟨k1, hw, ⟨⟨hb, o1, congrArg (List.map l.row.toRowW.maker) hm⟩, hw.witness, fun w => ⟨(left.behind hX hch w).1, fun s' hs' => ?_⟩⟩⟩
  obtain ⟨s₀, hf, hg0, s, hT, hz, hgens, hg, G00, y⟩ := (left.behind (XP := fun mg h => XP mg h ∧ RecFacts l.row.records h) (fun s hs => ⟨hX s hs, hRf s hs⟩) hch w).2 s' hs'
  have G0 : Ground q loose [] XP w s (s.heap.nsMap mainGlobals) (s.heap.nsMap builtinsNs) s.heap := ⟨G00.T, G00.B, G00.D, G00.TE, G00.TD, G00.W, G00.X.1, G00.cls, G00.has, G00.apart, G00.once, G00.K⟩
  have RF := G00.X.2
  have hT' := hT
  refine ⟨s₀, hf, hg0, s, hT, (fun n hn => ?_), RF.1, RF.2.1, ?_⟩
  · obtain rfl : n = l.row.name := by split at hn <;> simp_all
    exact pinned_of_view hg G0 hdef hp hk
  have hgens : s.gens = #[] := Array.eq_empty_of_size_eq_zero (beq_iff_eq.mp hgens)
  have G : Ground q loose l.row.records XP w s _ _ s.heap := RF.ground G0
  refine callFrom2 (c := l.row.toRowW.claim) hz hgens fun args hpre hlay ord hord => ?_
  obtain ⟨⟨vs, s₁⟩, hlaid⟩ := Option.isSome_iff_exists.mp (layAllW_isSome (P := w.params) (ord := ord) G.has args l.row.args s (pre_splitW hpre).1)
  have keeps := layAllW_keeps _ _ _ hlaid
  have hal := layAllW_rest _ _ _ hlaid
  obtain ⟨as, hrd, hin, hold⟩ := reads_layAllW hord _ _ _ hlaid hlay s₁.heap (fun _ _ e => e)
  have L : Laid l.row.records w s s₁ args vs as := ⟨⟨ord, hord, hlaid⟩, hrd, hin, hold, keeps, hal.1.trans hgens, hal.2.2.1⟩
  have G₁ := G.keeps hXk keeps
  have hi := ident_freeW hu ha hap
  have hwi : l.row.toRowW.claim.within = [] := List.isEmpty_iff.mp k6
  obtain ⟨fa, o, pm, cd, doc, dV, kV, h1, h2, h3, h4, h5⟩ := G₁.fn hdef
  obtain rfl : dV = .none := Dflts.none h5 hdf
  obtain rfl : kV = .none := Dflts.noKw h5
  obtain ⟨a, us, ns, rfl, rfl, hobj, hints, hlen⟩ := Att.script_of hn hpre L.well
  refine ⟨[.ref a], s₁, hlaid, ?_⟩
  have main := call w s s₁ _ _ fa o pm cd doc a us ns G₁ (hYk _ _ _ (hY w s y) keeps) h2 (fd_plain h3) h4 (defOf_name hdef ▸ h1) hobj hints hlen L.gens
  refine qlet (wpAny_nsGet G₁.T.g ?_)
  rw [h1]
  refine qbind (qcall (main.mono fun r s' hq => ?_))
  obtain ⟨rfl, q2, q3, q4⟩ := hq
  have g : GoodWG l.row.toRowW.claim (classAt s.heap) (ExcName.means s.heap) [WData.list (ns.map WData.int)] s₁ (.ok (.ret (.bool true))) s' :=
    ⟨.inl ⟨.bool true, .bool true, [], rfl, fun _ => rfl, .bool true, Att.post_true l [WData.list (ns.map WData.int)], fun _ => ⟨List.Pairwise.nil, fun _ hm => (nomatch hm)⟩⟩, q2, q3, q4⟩
  have z := g.laid (c := l.row.toRowW.claim) hsame hwi hi L
  exact qpure ⟨_, rfl, z.1, z.2.1, z.2.2, fun q => ⟨namesKept_of hT' hg l.row.keeps keeps g.2.1.old, noTable hwr q⟩⟩
end KG

set_option maxRecDepth 100000
set_option maxHeartbeats 1000000
/-! KRules: rules for the statements and calls that may pass soft yields. -/
namespace KG
open PySem PySem.Spec PyProof.Rows L2

/-- a def's promise, its run may pass soft yields -/
structure FnQ (P : Program) (w : World) (K : PySem.W.Frag) (mg : Str → Option Value) (base : Heap) (CX : CXT) (k : Nat) (f : Addr) (fd : FuncData) (ps : List Str) (sp : Sp) : Prop where
  len : ∀ vs H Q E, sp vs H Q E → vs.length = ps.length
  run : ∀ (A : Around) (outer : List Env) (s : Shared) (H : Hp) (args : Args) (us : List Value) (vs : List V) (Q : VK) (E : XK), Room k A → Env0 P w K mg base A outer s H → BindsTo s fd args (ps.zip us) →
    Vals vs us → sp vs H Q E → codeQ (model P w) A (.call (.ref f) args) (CR CX outer P w H s Q E) s
section
variable {P : Program} {w : World} {K : PySem.W.Frag} {mg : Str → Option Value} {base : Heap} {CX : CXT} {j k : Nat} {f : Addr} {fd : FuncData} {ps : List Str} {sp sp' : Sp}
theorem FnQ.of (F : FnOk P w K mg base CX k f fd ps sp) : FnQ P w K mg base CX k f fd ps sp := ⟨F.len, fun A outer s H args us vs Q E a b c d e => .of (F.run A outer s H args us vs Q E a b c d e)⟩
theorem FnQ.mono (F : FnQ P w K mg base CX j f fd ps sp) (h : j ≤ k) : FnQ P w K mg base CX k f fd ps sp := ⟨F.len, fun A outer s H args us vs Q E hr => F.run A outer s H args us vs Q E (hr.mono h)⟩
theorem FnQ.imp (F : FnQ P w K mg base CX k f fd ps sp) (h : ∀ vs H Q E, sp' vs H Q E → sp vs H Q E) : FnQ P w K mg base CX k f fd ps sp' :=
  ⟨fun vs H Q E q => F.len vs H Q E (h _ _ _ _ q), fun A outer s H args us vs Q E a b c d e => F.run A outer s H args us vs Q E a b c d (h _ _ _ _ e)⟩
end

/-! ### the judgements -/
structure QE (X : Cx) (e : Expr) (t : TE) : Prop where
  run : ∀ (pins : List (Addr × Obj)) (s : Shared) (σ : L2.St) (H : Hp) (Q : VK), Inv X pins σ H s → t σ H Q → wqAny (model X.prog X.w) X.A (eval e X.env) (EP X pins σ Q) X.xe s
structure QT (X : Cx) (e : Expr) (t : TT) : Prop where
  run : ∀ (pins : List (Addr × Obj)) (s : Shared) (σ : L2.St) (H : Hp) (Q : Bool → Hp → Prop), Inv X pins σ H s → t σ H Q → wqAny (model X.prog X.w) X.A (isTrue e X.env (eval e X.env)) (TP X pins σ Q) X.xe s
structure QA (X : Cx) (es : List Expr) (t : TA) : Prop where
  run : ∀ (pos : Pos) (pins : List (Addr × Obj)) (s : Shared) (σ : L2.St) (H : Hp) (Q : List V → Hp → Prop), Inv X pins σ H s → t σ H Q → wqAny (model X.prog X.w) X.A (spliced (backTo pos (starEach es X.env))) (AP X pins σ Q) X.xe s
structure QS (X : Cx) (st : Stmt) (t : TS) : Prop where
  run : ∀ (pins : List (Addr × Obj)) (s : Shared) (σ : L2.St) (H : Hp) (D : Ends), Inv X pins σ H s → t D σ H → wqAny (model X.prog X.w) X.A (exec st X.env) (SP X pins D) X.xe s
structure QSs (X : Cx) (st : List Stmt) (t : TS) : Prop where
  run : ∀ (pins : List (Addr × Obj)) (s : Shared) (σ : L2.St) (H : Hp) (D : Ends), Inv X pins σ H s → t D σ H → wqAny (model X.prog X.w) X.A (execs st X.env) (SP X pins D) X.xe s

section
variable {X : Cx} {e o : Expr} {es : List Expr} {st : Stmt} {sts rest : List Stmt} {te ta : TE} {tt : TT} {t : TA} {ts u : TS} {pos p apos : Pos}
theorem QE.of (h : PE X e te) : QE X e te := ⟨fun pins s σ H Q I q => qof (h.run pins s σ H Q I q)⟩
theorem QT.of (h : PT X e tt) : QT X e tt := ⟨fun pins s σ H Q I q => qof (h.run pins s σ H Q I q)⟩
theorem QA.of (h : PA X es t) : QA X es t := ⟨fun pos pins s σ H Q I q => qof (h.run pos pins s σ H Q I q)⟩
theorem QS.of (h : PS X st ts) : QS X st ts := ⟨fun pins s σ H D I q => qof (h.run pins s σ H D I q)⟩
theorem QSs.of (h : PSs X sts ts) : QSs X sts ts := ⟨fun pins s σ H D I q => qof (h.run pins s σ H D I q)⟩

/-! ### blocks -/
theorem qss_cons (h1 : QS X st ts) (h2 : QSs X rest u) : QSs X (st :: rest) (tSeq ts u) := by
  refine ⟨fun pins s σ H D I h => ?_⟩
  rw [execs_cons]
  refine qbind (qthn (h1.run pins s σ H { D with nx := u D } I h) fun f s1 q => ?_)
  cases f with
  | next => exact let ⟨σ', H', I', q'⟩ := q; h2.run pins s1 σ' H' D I' q'
  | ret v => exact qpure q
  | brk => exact qpure q
  | cont => exact qpure q
theorem qss_one (h1 : QS X st ts) : QSs X [st] ts := by
  refine ⟨fun pins s σ H D I h => ?_⟩
  rw [execs_cons]
  refine qbind (qthn (h1.run pins s σ H D I h) fun f s1 q => ?_)
  cases f with
  | next => exact qof (wpAny_execs_nil q)
  | ret v => exact qpure q
  | brk => exact qpure q
  | cont => exact qpure q
theorem qs_expr (he : QE X e te) (hs : swapsWith e none pos.line X.env = pure false := by rfl) : QS X (.Expr e pos) (tDrop te) := by
  refine ⟨fun pins s σ H D I h => ?_⟩
  rw [exec_Expr X.env e pos I.quiet hs]
  exact qat (qbind (qthn (he.run pins s σ H _ I h) fun v s1 ⟨x, H1, I1, r1, q1⟩ => qof (wpAny_dropValue (show SP X pins D .next s1 from ⟨σ, H1, I1, q1⟩))))
theorem qs_ret (he : QE X e te) : QS X (.Return (some e) pos) (tRet te) := by
  refine ⟨fun pins s σ H D I h => ?_⟩
  rw [exec_Return_some]
  exact qat (qbind (qthn (he.run pins s σ H _ I h) fun v s1 ⟨x, H1, I1, r1, q1⟩ => qpure (show SP X pins D (.ret v) s1 from ⟨x, σ, H1, I1, r1, q1⟩)))
theorem qs_if {a b : List Stmt} (hc : QT X e tt) (ha : QSs X a ts) (hb : QSs X b u) : QS X (.If e a b pos) (tIfS tt ts u) := by
  refine ⟨fun pins s σ H D I h => ?_⟩
  rw [exec_If]
  refine qat (qbind (qthn (hc.run pins s σ H _ I h) fun d s1 ⟨H1, I1, q1⟩ => ?_))
  cases d with
  | true => exact ha.run pins s1 σ H1 D I1 q1
  | false => exact hb.run pins s1 σ H1 D I1 q1
theorem qs_set {i : Nat} {x : Str} {p1 : Pos} (hN : X.N.Nodup) (hi : X.N[i]? = some x) (hx : Loc X.env.scope x) (he : QE X e te) (hs : swapsWith e (some (.Name x p1)) pos.line X.env = pure false := by rfl)
    (hf : X.fn x = true ∨ X.env.scope.names.lookup x = some .local := by first | exact .inl rfl | exact .inr rfl | assumption) : QS X (.Assign [.Name x p1] e pos) (tAsg te (gName i)) := by
  refine ⟨fun pins s σ H D I h => ?_⟩
  rw [exec_Assign_Name X.env x p1 e pos hs]
  refine qat (qbind (qthn (he.run pins s σ H _ I h) fun v s1 ⟨y, H1, I1, r1, q1⟩ => qat (qlet (wpAny_bindName (store_ok I1 hN hi hx r1 (fun s2 I2 => ?_) hf)))))
  exact qpure (show SP X pins D .next s2 from ⟨_, H1, I2, q1⟩)
/-- o.f = value, value loud -/
theorem qs_fld {f : Str} {value : Expr} {tv : TE} {p1 : Pos} (ha : PE X o ta) (hv : QE X value tv) (hs : swapsWith value (some (.Attribute o f p1)) pos.line X.env = pure false := by rfl) :
    QS X (.Assign [.Attribute o f p1] value pos) (sFld X.K ta tv f) := by
  refine ⟨fun pins s σ H D I h => ?_⟩
  rw [plainObj_exec_Assign_Attribute o f p1 value pos hs]
  refine qat (qbind (qthn (hv.run pins s σ H _ I h) fun u s1 ⟨y, H1, I1, ry, q⟩ => qof ?_))
  rw [assign_Attribute]
  refine wpAny_bind (wpAny_bind (wpAny_holding (thn (ha.run pins s1 σ H1 _ I1 q) fun ov s2 ⟨x, H2, I2, rx, a, C, dx, fs, ex, ea, c, n, l, q2⟩ => ?_)))
  subst ex
  obtain rfl : ov = Value.ref a := rx
  refine wpAny_bind (wpAny_standAt (wpAny_bind (wpAny_holding (setattr_ok I2 ea c n l ry fun s3 I3 => ?_))))
  exact wpAny_release (wpAny_pure (show SP X pins D .next s3 from ⟨σ, _, I3, q2⟩))
end

/-! ### calls -/
section
variable {X : Cx} {CX : CXT} {k : Nat} {f C : Addr} {fd : FuncData} {ps : List Str} {sp : Sp} {dvs : List V} {ds : List Value} {E : XK} {x m : Str} {p pos apos : Pos} {e o : Expr} {es : List Expr} {ta : TE} {t : TA}

theorem qa_cons {te : TE} (ha : QE X e te) (hr : QA X es t) (hs : starEach (e :: es) X.env = (false, eval e X.env) :: starEach es X.env := by rfl) : QA X (e :: es) (tCons te t) := by
  refine ⟨fun pos pins s σ H Q I h => ?_⟩
  rw [hs]
  show wqAny _ _ (spliced ((false, eval e X.env) :: backTo pos (starEach es X.env))) _ _ s
  rw [spliced]
  refine qbind (qthn (ha.run pins s σ H _ I h) fun u s1 ⟨x, H1, I1, r1, q1⟩ => ?_)
  simp only [Bool.false_eq_true, if_false]
  exact qlet (wpAny_pure (qbind (qhold (qthn (hr.run pos pins s1 σ H1 _ I1 q1) fun us s2 ⟨xs, H2, I2, r2, q2⟩ => qpure ⟨x :: xs, H2, I2, .cons r1 r2, q2⟩))))

/-- what stands between evaluated arguments and the call -/
theorem q_callWith {M : Model} {A : Around} {Ex : Value → Shared → Prop} {s : Shared} {fv : Value} {first : List Value} {Q : Value → Shared → Prop} {Pr : Heap → Prop} {args : List (Bool × Sem Value)} (hpl : args.any (·.1) = false)
    (hk : ∀ h, Pr h → ∃ k, (k = Keeper.frame ∨ k = Keeper.machine ∨ k = Keeper.boundFrame) ∧ PySem.W.Looks M h (keeperOf fv) k)
    (h : wqAny M A (evalArgs fv true args []) (fun a s₁ => Pr s₁.heap ∧ wqAny M A (call fv (first ++ a.pos) a.kw) Q Ex s₁) Ex s) : wqAny M A (callWith pos fv first args []) Q Ex s := by
  unfold callWith
  refine qbind (qhold (qthn h fun a s₁ h₁ => qat ?_))
  obtain ⟨k, hk', L⟩ := hk _ h₁.1
  simp only [hpl, List.any_nil, Bool.or_false]
  refine qlet (L.here ?_)
  have tail : ∀ {tr : Sem Value}, wqAny M A tr Q Ex s₁ → wqAny M A (tr >>= fun r => holding [r] point >>= fun _ => pure r) Q Ex s₁ :=
    fun ht => qbind (qthn ht fun r s₂ hr => qlet (wpAny_holding (wpAny_point (qpure hr))))
  have marked (mk : Value) : wqAny M A (callMarked mk fv (first ++ a.pos) a.kw) Q Ex s₁ := by
    unfold callMarked
    exact fun Γ p hΓ => wq_keep _ _ p s₁ (h₁.2 Γ p hΓ)
  rcases hk' with rfl | rfl | rfl <;> first
    | exact tail h₁.2
    | (split <;> first | exact tail h₁.2 | exact tail (marked _))
    | (dsimp only; split <;> first | exact tail h₁.2 | exact tail (marked _))
theorem q_args {f : Value} {x : Sem Value} {rest : List (Bool × Sem Value)} {M : Model} {A : Around} {Ex : Value → Shared → Prop} {s : Shared} {Q : Args → Shared → Prop}
    (h : wqAny M A (spliced ((false, x) :: rest)) (fun vs s' => Q ⟨vs, []⟩ s') Ex s) : wqAny M A (evalArgs f true ((false, x) :: rest) []) Q Ex s := by
  unfold evalArgs
  show wqAny M A (spliced ((false, x) :: rest) >>= _) Q Ex s
  exact qbind (qthn h fun vs s' h' => qhold (qlet (wpAny_pure (qlet (wpAny_pure (qpure h'))))))
/-- the arguments, then the call -/
theorem q_with {A : Around} {Ex : Value → Shared → Prop} {s : Shared} {fv : Value} {first : List Value} {Q : Value → Shared → Prop} (hk : PySem.W.keepIn X.K fv = true)
    (h : wqAny (model X.prog X.w) A (spliced (backTo pos (starEach (e :: es) X.env))) (fun vs s₁ => X.K.In s₁.heap ∧ wqAny (model X.prog X.w) A (call fv (first ++ vs)) Q Ex s₁) Ex s)
    (he : starEach (e :: es) X.env = (false, eval e X.env) :: starEach es X.env := by rfl) (hpl : (backTo pos (starEach es X.env)).any (·.1) = false := by rfl) :
    wqAny (model X.prog X.w) A (callWith pos fv first (backTo pos (starEach (e :: es) X.env)) []) Q Ex s := by
  rw [he] at h ⊢
  exact q_callWith (Pr := fun h => X.K.In h) (by show (false || (backTo pos (starEach es X.env)).any (·.1)) = false; rw [hpl]; rfl) (PySem.W.keeps_K hk) (q_args h)

/-- an exception of the callee reaches what is wished here -/
theorem q_fn {pins : List (Addr × Obj)} {σ : L2.St} {H : Hp} {s : Shared} {Q : VK} {us : List Value} {vs : List V} (F : FnQ X.prog X.w X.K X.mg X.base CX k f fd ps sp) (hr : Room k X.A) (hb : Binds X.K fd ps ds) (hd : Vals dvs ds) (hx : Passes CX X E)
    (I : Inv X pins σ H s) (r : Vals vs us) (h : sp (vs ++ dvs) H Q E) : wqAny (model X.prog X.w) X.A (call (.ref f) us) (EP X pins σ Q) X.xe s := by
  have r2 : Vals (vs ++ dvs) (us ++ ds) := r.append hd
  have hl : (us ++ ds).length = ps.length := by rw [← r2.length]; exact F.len _ _ _ _ h
  refine qcall ((F.run X.A X.stack s H ⟨us, []⟩ (us ++ ds) (vs ++ dvs) Q E hr I.env0 (hb s us I.kIn hl) r2 h).mono fun r s' hq => ?_)
  match r, hq with
  | .error e, hq => exact hx pins σ H s e s' I hq
  | .ok (.ret u), hq => exact I.after hq
  | .ok .next, hq => exact False.elim hq
  | .ok .brk, hq => exact False.elim hq
  | .ok .cont, hq => exact False.elim hq
/-- f(e, ..) -/
theorem qe_call (F : FnQ X.prog X.w X.K X.mg X.base CX k f fd ps sp) (hr : Room k X.A) (hg : Gl X x) (hm : X.mg x = some (.ref f)) (hk : PySem.W.keepIn X.K (.ref f) = true) (hb : Binds X.K fd ps ds) (hd : Vals dvs ds) (hx : Passes CX X E)
    (ha : QA X (e :: es) t) (hdb : (x == ("__debug__" : Str)) = false := by decide) (he : starEach (e :: es) X.env = (false, eval e X.env) :: starEach es X.env := by rfl) (hpl : (backTo pos (starEach es X.env)).any (·.1) = false := by rfl) :
    QE X (.Call (.Name x p) (e :: es) [] pos) (tCall sp dvs E t) := by
  refine ⟨fun pins s σ H Q I h => ?_⟩
  rw [arm_eval_Call_Name']
  refine qlet (ld_glob I hg hm ?_ hdb)
  exact q_with hk (qthn (ha.run pos pins s σ H _ I h) fun us s1 ⟨vs, H1, I1, r, q⟩ => ⟨I1.kIn, q_fn F hr hb hd hx I1 r q⟩) he hpl
/-- o.m(e, ..) -/
theorem qe_meth {pl : Sem Bool} (he : PE X o ta) (c : Cls X.K C) (hm : Meth X.K C m f) (F : FnQ X.prog X.w X.K X.mg X.base CX k f fd ps sp) (hr : Room k X.A) (hb : Binds X.K fd ps ds) (hd : Vals dvs ds) (hx : Passes CX X E) (ha : QA X (e :: es) t)
    (hst : starEach (e :: es) X.env = (false, eval e X.env) :: starEach es X.env := by rfl) (hpl : (backTo pos (starEach es X.env)).any (·.1) = false := by rfl)
    (ht : eval (.Call (.Attribute o m apos) (e :: es) [] pos) X.env = (do
      let ov ← eval o X.env
      standAt apos.atName
      let (g, first) ← holding [ov] (getMethod ov m pl)
      callWith pos g first (backTo pos (starEach (e :: es) X.env)) (backToKw pos (keywordEach [] X.env))) := by rfl) : QE X (.Call (.Attribute o m apos) (e :: es) [] pos) (tMeth C m sp dvs E ta t) := by
  refine ⟨fun pins s σ H Q I h => ?_⟩
  rw [ht]
  refine qlet (thn (he.run pins s σ H _ I h) fun u s1 ⟨x, H1, I1, rx, a, dx, fs, ex, ea, l, q⟩ => ?_)
  subst ex
  obtain rfl : u = Value.ref a := rx
  refine qat (qlet (wpAny_holding (getmeth_ok I1 ea c hm l ?_)))
  exact q_with (first := [.ref a]) hm.kp (qthn (ha.run pos pins s1 σ H1 _ I1 q) fun us s2 ⟨vs, H2, I2, r, q2⟩ => ⟨I2.kIn, q_fn (us := .ref a :: us) (vs := .ref a :: vs) F hr hb hd hx I2 (.cons rfl r) q2⟩) hst hpl
end
end KG

set_option maxRecDepth 100000
set_option maxHeartbeats 1000000
/-! KMk: a class of the text is made, its __init__ may pass soft yields. -/
namespace KG
open PySem PySem.W

section
variable {prog : Program} {w : World} {A : Around} {K : Frag} {C : Addr} {R : Result → Shared → Prop} {h : Heap} {g : Array GenState} {d : Drawn} {t : Nat} {os : OsState}
theorem codeQ_builtin {s : Shared} {id : String} {args : Args} {b : Builtin} (hq : (Code.builtin id args).quiet = true) (hb : entryFor table id = some b)
    (h : wpAny (model prog w) A.in1 (checkBuiltinCall id args) (fun _ s₁ => wqAny (model prog w) (A.under (.builtin id args)) (b args)
      (fun fin s' => match fin with | .done f => R (.ok f) s' | .again c₁ => c₁.quiet = true ∧ codeQ (model prog w) A c₁ R s') (fun e s' => R (.error e) s') s₁) (fun e s' => R (.error e) s') s) : codeQ (model prog w) A (.call (.builtin id) args) R s := by
  refine codeQ_tree ?_
  show wqAny _ A.in1 (do checkBuiltinCall id args; again (.builtin id args)) _ _ s
  refine qlet (wpAny_mono h (fun _ s₁ h₁ => qpure (And.intro hq (codeQ_tree ?_))) fun _ _ z => z)
  show wqAny _ _ (match entryFor table id with | some b => b args | none => unsupported ((withoutEnding? id "#data").getD id)) _ _ s₁
  rw [hb]; exact h₁

theorem make_coreQ {rest : List Value} {kw : List (Str × Value)} {init : Value} (Y : Makes (model prog w) h C) (hi : Looks (model prog w) h (typeLookup (.ref C) "__init__") (some init))
    (hb : ∀ self, Looks (model prog w) h (bindSpecial init self) (init, [self])) (hne : (some init != some (Value.builtin "object.__init__")) = true ∨ (rest = [] ∧ kw = []))
    (hq : codeQ (model prog w) (A.under (.builtin "type.__call__" ⟨.ref C :: rest, kw⟩)) (.call init ⟨.ref (h.objs.size + 1) :: rest, kw⟩) (InitBack (h.objs.size + 1) R) ⟨(h.push emptyDict).push (instObj C h.objs.size), g, d, t, os⟩) :
    codeQ (model prog w) A (.call (.ref C) ⟨rest, kw⟩) R ⟨h, g, d, t, os⟩ := by
  have Y1 := Y
  obtain ⟨⟨oc, od, cd, sl, hC, e1, e2, e4⟩, made, base, self, top, call, typ⟩ := Y1
  refine codeQ_tree (qof ?_)
  show wpAny _ _ (callAny (.ref C) _) _ _ _
  refine nd_load hC ?_
  show wpAny _ _ (callAny.viaDunder (.ref C) _) _ _ _
  unfold callAny.viaDunder
  refine wpAny_bind (call.at ?_)
  dsimp only
  rw [tc_bind]
  refine wpAny_bind (wpAny_pure (wpAny_bind (wpAny_pure (wpAny_pure (a := PySem.Fin.again (.call (.builtin "type.__call__") ⟨.ref C :: rest, kw⟩)) (And.intro rfl ?_)))))
  refine codeQ_builtin (Code.quiet_builtin _ (by decide +kernel)) entry_typeCall (check_slot tc_kind tc_split typ (tc_args _ _ _) ?_)
  unfold Builtin.«type.__call__»
  have hm : Looks (model prog w) h (mroOf (.ref C)) cd.mro := ((Looks.ld (part := none) hC).andThen .now).andThen .now
  show wqAny _ _ (mroOf (.ref C) >>= _) _ _ _
  refine qlet (hm.at ?_)
  simp only [e4, Bool.false_eq_true, if_false]
  refine qlet (made.at ?_)
  refine qlet (wpAny_pure ?_)
  refine qlet (wpAny_holding (wpAny_call ?_))
  refine new_K Y hi hne ?_
  have k : ∀ b o, h.get? b = some o → ((h.push emptyDict).push (instObj C h.objs.size)).get? b = some o := fun b o e => Heap.get?_push_of_some _ (Heap.get?_push_of_some _ e)
  have hx : ((h.push emptyDict).push (instObj C h.objs.size)).get? (h.objs.size + 1) = some (instObj C h.objs.size) := by heap_get
  have t1 : Looks (model prog w) ((h.push emptyDict).push (instObj C h.objs.size)) (typeOf (.ref (h.objs.size + 1))) (.ref C) := (Looks.ld hx).andThen .now
  have s1 := self.keeps k
  have i1 := hi.keeps k
  have b1 := (hb (.ref (h.objs.size + 1))).keeps k
  show wqAny _ _ _ _ _ _
  unfold isInstance
  refine qlet (wpAny_bind (t1.at (s1.at ?_)))
  simp only [Bool.not_true, Bool.false_eq_true, if_false]
  refine qbind (qhold ?_)
  unfold callSpecial? specialOf
  refine qlet (wpAny_bind (t1.at (i1.at ?_)))
  refine qhold (qlet (b1.at ?_))
  refine qbind (qcall (hq.mono fun r s' z => ?_))
  rcases r with e | (v | _ | _ | _) <;> first | exact z | exact z.elim | skip
  obtain ⟨rfl, z⟩ := z
  exact qpure (qpure z)
end

open PySem.Spec PyProof.Rows L2
theorem make_mapQ {prog : Program} {w : World} {A : Around} {s : Shared} {K : PySem.W.Frag} {C f : Addr} {R : Result → Shared → Prop} {vs : List Value} {kw : List (Str × Value)} (X : K.In s.heap) (hm : PySem.W.makesIn K C = true)
    (hi : PySem.W.findIn K (.ref C) "__init__" = some (some (.ref f))) (hf : PySem.W.typeIn K (.ref f) = some (.type "function"))
    (h : codeQ (model prog w) (A.under (.builtin "type.__call__" ⟨.ref C :: vs, kw⟩)) (.call (.ref f) ⟨.ref (s.heap.objs.size + 1) :: vs, kw⟩) (PySem.W.InitBack (s.heap.objs.size + 1) R)
      { s with heap := (s.heap.push PySem.W.emptyDict).push (PySem.W.instObj C s.heap.objs.size) }) : codeQ (model prog w) A (.call (.ref C) ⟨vs, kw⟩) R s := by
  obtain ⟨hh, g, d, t, os⟩ := s
  exact make_coreQ (PySem.W.makes_of X hm) (PySem.W.looks_findIn X hi) (fun self => PySem.W.bind_fn X self hf) (.inl rfl) h

section
variable {X : Cx} {CX : CXT} {k : Nat} {f C : Addr} {fd : FuncData} {ps : List Str} {sp : Sp} {dvs : List V} {ds : List Value} {E : XK} {x m : Str} {p pos apos : Pos} {e o : Expr} {es : List Expr} {ta : TE} {t : TA}
theorem q_make {pins : List (Addr × Obj)} {σ : L2.St} {H : Hp} {s : Shared} {Q : VK} {us : List Value} {vs : List V} (M : Mk X.K C f) (F : FnQ X.prog X.w X.K X.mg X.base CX k f fd ps sp) (hr : Room (k + 1) X.A) (hb : Binds X.K fd ps ds) (hd : Vals dvs ds)
    (hx : Passes CX X E) (I : Inv X pins σ H s) (r : Vals vs us)
    (h : ∀ x dx, H x = none → H dx = none → dx ≠ x → sp (.ref x :: (vs ++ dvs)) (upd (upd H dx (.own x)) x (.ins C dx [])) (fun v H2 => v = .non ∧ Q (.ref x) H2) E) :
    wqAny (model X.prog X.w) X.A (call (.ref C) us) (EP X pins σ Q) X.xe s := by
  have hq := h (s.heap.objs.size + 1) s.heap.objs.size (I.hok.fresh (Nat.le_succ _)) (I.hok.fresh (Nat.le_refl _)) (Nat.ne_of_lt (Nat.lt_succ_self _))
  have I2 := Inv.made (C := C) I
  have r2 : Vals (V.ref (s.heap.objs.size + 1) :: (vs ++ dvs)) (Value.ref (s.heap.objs.size + 1) :: (us ++ ds)) := .cons rfl (r.append hd)
  have hl : (Value.ref (s.heap.objs.size + 1) :: us ++ ds).length = ps.length := r2.length.symm.trans (F.len _ _ _ _ hq)
  refine qcall (make_mapQ (f := f) I.kIn M.makes M.init (beq_iff_eq.mp M.fn) ((F.run _ X.stack _ _ ⟨Value.ref (s.heap.objs.size + 1) :: us, []⟩ (Value.ref (s.heap.objs.size + 1) :: (us ++ ds)) _ _ E (hr.make C us [])
    (I2.env0.make C us []) (hb _ (Value.ref (s.heap.objs.size + 1) :: us) I2.kIn hl) r2 hq).mono fun r s' hq' => ?_))
  match r, hq' with
  | .error e, hq' => exact hx pins σ _ _ e s' I2 hq'
  | .ok (.ret u), hq' =>
    obtain ⟨v, H', I3, rv, ev, q3⟩ := I2.after hq'
    subst ev
    exact ⟨rv, ⟨V.ref (s.heap.objs.size + 1), H', I3, rfl, q3⟩⟩
  | .ok .next, hq' => exact False.elim hq'
  | .ok .brk, hq' => exact False.elim hq'
  | .ok .cont, hq' => exact False.elim hq'
/-- C(e, ..) -/
theorem qe_make (M : Mk X.K C f) (F : FnQ X.prog X.w X.K X.mg X.base CX k f fd ps sp) (hr : Room (k + 1) X.A) (hg : Gl X x) (hm : X.mg x = some (.ref C)) (hb : Binds X.K fd ps ds) (hd : Vals dvs ds) (hx : Passes CX X E)
    (ha : QA X (e :: es) t) (hdb : (x == ("__debug__" : Str)) = false := by decide) (he : starEach (e :: es) X.env = (false, eval e X.env) :: starEach es X.env := by rfl) (hpl : (backTo pos (starEach es X.env)).any (·.1) = false := by rfl) :
    QE X (.Call (.Name x p) (e :: es) [] pos) (tMake C sp dvs E t) := by
  refine ⟨fun pins s σ H Q I h => ?_⟩
  rw [arm_eval_Call_Name']
  refine qlet (ld_glob I hg hm ?_ hdb)
  exact q_with M.kp (qthn (ha.run pos pins s σ H _ I h) fun us s1 ⟨vs, H1, I1, r, q⟩ => ⟨I1.kIn, q_make M F hr hb hd hx I1 r q⟩) he hpl
end

/-! ### a def's body -/
section
variable {prog : Program} {w : World} {A : Around} {R : Result → Shared → Prop} {s : Shared}
theorem codeQ_func {body : List Stmt} {env : Env}
    (h : wqAny (model prog w) (A.deeper env) (execs body env) (fun f s' => R (.ok (.ret (match f with | .ret v => v | _ => .none))) s')
      (fun e s' => wpAny (model prog w) (A.deeper env) (leaving env e) (fun _ s₂ => R (.error e) s₂) (fun e₂ s₂ => R (.error e₂) s₂) s') s) : codeQ (model prog w) A (.func body env) R s := by
  refine codeQ_tree ?_
  show wqAny _ (A.deeper env) (do point; match ← (execs body env).onRaise (leaving env) with | .ret v => ret v | _ => ret .none) _ _ s
  refine qlet (wpAny_point (qbind (qraised (qmono h (fun f s' h' => ?_) fun e s' h' => qof h'))))
  cases f <;> exact qpure h'
theorem codeQ_function {a : Addr} {args : Args} {o : Obj} {fd : FuncData} {body : List Stmt} (hroom : A.depth < recursionLimit) (ho : s.heap.get? a = some o) (hd' : o.data = .func fd) (hco : fd.scope.isCoroutine = false) (hgen : fd.scope.isGenerator = false)
    (hbody : fd.body = .stmts body) (hcd : s.heap.CodeRec fd.code fd.qualname)
    (h : wpAny (model prog w) A.in1 (bindArgs fd args) (fun binds s₁ => wpAny (model prog w) A.in1 (newFunctionEnv fd.scope fd.globals fd.closure binds (fd.qualname ++ ".<locals>.") (some a) fd.code none fd.builtins)
      (fun env s₂ => s₂.heap.NoLimit ∧ codeQ (model prog w) A (.func body env) R s₂) (fun e s' => R (.error e) s') s₁) (fun e s' => R (.error e) s') s) : codeQ (model prog w) A (.call (.ref a) args) R s := by
  refine codeQ_tree (qof ?_)
  show wpAny _ A.in1 (callAny (.ref a) args) _ _ s
  simp only [callAny]
  refine wpAny_bind (wpAny_load ho ?_)
  obtain ⟨c, oc, vs, tq, hc, hoc, hdc, hq⟩ := hcd
  simp only [hd', callFunction, hco, hgen, hbody, hc]
  rw [hc] at h
  refine wpAny_bind (m := field (.ref c) 1) (wpAny_field hoc hdc hq (wpAny_bind (wpAny_pure (wpAny_bind (wpAny_mono h (fun binds s₁ h₁ => ?_) fun _ _ z => z)))))
  exact wpAny_bind (wpAny_mono h₁ (fun env s₂ h₂ => wpAny_bind (wpAny_enterFrame h₂.1 hroom (wpAny_pure (And.intro rfl h₂.2)))) fun _ _ z => z)
end
/-- the rule: a def by its body, where the body may pass soft yields -/
theorem fn_ofQ {CX : CXT} {P : Program} {w : World} {K : PySem.W.Frag} {mg : Str → Option Value} {base : Heap} {k : Nat} {f : Addr} {name qual : Str} {params : Arguments} {body : List Stmt} {scope : Scope} {dV kV doc pm cdv ct oc : Value} {an od : Option Addr}
    {osl : Array (Option Value)} {N ps : List Str} {sp : Sp} (lk : K.lookup f = some ⟨oc, od, .func (PySem.W.fnOf name qual params body scope dV kV doc pm an cdv ct), osl⟩) (hcd : PySem.W.codeIn K cdv qual = true) (S : FnScope N ps scope)
    (len : ∀ vs H Q E, sp vs H Q E → vs.length = ps.length)
    (hbody : ∀ (A : Around) (outer : List Env) (s : Shared) (H : Hp) (vs : List V) (Q : VK) (E : XK), Room k (A.deeper (envOfC qual scope s.heap.objs.size f cdv)) → sp vs H Q E →
      ∃ t, QSs (cxOf CX P w K mg base N qual scope f cdv A outer s H E) body t ∧ t { nx := fun _ H' => Q .non H', rt := Q } (start N vs) H) :
    FnQ P w K mg base CX (k + 1) f (PySem.W.fnOf name qual params body scope dV kV doc pm an cdv ct) ps sp := by
  refine ⟨len, fun A outer s H args us vs Q E hr e0 hb r hsp => ?_⟩
  have hl := len _ _ _ _ hsp
  have KX : K.In s.heap := e0.mod.kin.keeps fun b o e => (e0.bs b o e).1
  have lim : s.heap.NoLimit := e0.mod.nolimit.keeps fun b o e => (e0.bs b o e).1
  have hkind : ∀ y ∈ ps.zip us, scope.names.lookup y.1 = some .local ∨ (scope.names.lookup y.1 = some .cell ∧ ((cellsFrom (s.heap.objs.size + 1) scope.names []).lookup y.1).isSome = true) := fun ⟨n, v⟩ hy =>
    (S.par n (List.of_mem_zip hy).1).imp id fun q => ⟨q, PySem.W.cellsFrom_some _ _ _ (.inl q)⟩
  refine codeQ_function hr.depth (KX _ _ lk) rfl S.co S.gen rfl (PySem.W.codeRec_of KX hcd) (hb _ _ _ _ ?_)
  refine wpAny_newFunctionEnv_cells S.kind hkind fun env he s1 x => ?_
  subst he
  refine ⟨lim.keeps x.toInCall.keep, codeQ_func ?_⟩
  obtain ⟨t, ht, hq⟩ := hbody A outer s H vs Q E (hr.deeper _) hsp
  have I : Inv (cxOf CX P w K mg base N qual scope f cdv A outer s H E) [] (start N vs) H s1 := inv_start S hr.hd e0 hl r x
  refine qmono (ht.run [] s1 (start N vs) H _ I hq) (fun fl s' hs => ?_) fun e s' hs => hs
  match fl, hs with
  | .ret u, ⟨v, σ', H', J, rv, q⟩ => exact ⟨v, H', J.os, J.bare, J.base, J.hok, rv, q⟩
  | .next, ⟨σ', H', J, q⟩ => exact ⟨V.non, H', J.os, J.bare, J.base, J.hok, rfl, q⟩
  | .brk, ⟨_, _, _, q⟩ => exact False.elim q
  | .cont, ⟨_, _, _, q⟩ => exact False.elim q
end KG

set_option maxRecDepth 100000
set_option maxHeartbeats 1000000
/-! KLoop: for, try, match over loud blocks. -/
namespace KG
open PySem PySem.Spec PyProof.Rows L2

section
variable {M : Model} {A : Around} {s : Shared} {R : Result → Shared → Prop}
theorem codeQ_loop {c : Code} (hq : c.quiet = true) (I : Nat → Shared → Prop)
    (turn : ∀ n s, I n s → wqAny M (A.under c) (M.den c) (fun fin s' => match fin with
        | .done f => R (.ok f) s'
        | .again c₁ => (c₁ = c ∧ ∃ m, m < n ∧ I m s') ∨ (c₁.quiet = true ∧ codeQ M A c₁ R s')) (fun e s' => R (.error e) s') s) (n : Nat) (h : I n s) : codeQ M A c R s := by
  induction n using Nat.strongRecOn generalizing s with
  | ind n ih =>
    refine codeQ_tree (qthn (turn n s h) fun fin s' hf => ?_)
    match fin, hf with
    | .done f, hf => exact hf
    | .again _, .inl ⟨rfl, m, hm, hI⟩ => exact ⟨hq, ih m hm hI⟩
    | .again c₁, .inr hf => exact hf
theorem qnoted {α : Type} {env : Env} {m : Sem α} {Q : α → Shared → Prop} {E : Value → Shared → Prop} (h : wqAny M A m Q (notedBy M A env E) s) : wqAny M A (m.onRaise fun x => do noteFrame x env; theTreesLotGoes x) Q E s :=
  qraised (qmono h (fun _ _ q => q) fun _ _ hx => qof (wpAny_bind (thn hx fun _ _ e => wpAny_theTreesLotGoes e)))
theorem qown {c : Code} {env : Env} {Q : Flow → Shared → Prop} {E : Value → Shared → Prop} (hc : codeQ M (A.mark none) c (fun r s' => match r with | .ok f => Q f s' | .error e => cameBackBy M A env E e s') s) : wqAny M A (runOwn c env) Q E s := by
  unfold runOwn
  refine qraised (qrun (hc.mono fun r s' z => ?_))
  cases r with
  | ok f => exact z
  | error e => exact qof z
end

theorem codeQ_for {prog : Program} {w : World} {A : Around} {s : Shared} {R : Result → Shared → Prop} {target : Expr} {it : Value} {body orelse : List Stmt} {env : Env} (I : Nat → Shared → Prop)
    (turn : ∀ n s, I n s → wpAny (model prog w) A (pyNext it) (fun r s₁ => match r with
      | none => wpAny (model prog w) A (execs orelse env) (fun f s₃ => R (.ok f) s₃) (notedBy (model prog w) A env fun e s' => R (.error e) s') s₁
      | some v => wpAny (model prog w) A (letOwnedTupleGo target it v) (fun _ s₂ => wpAny (model prog w) A (assign target env v) (fun _ s₃ => wqAny (model prog w) A (execs body env) (fun f s₄ => match f with
            | .next | .cont => ∃ m, m < n ∧ I m s₄
            | .brk => R (.ok .next) s₄
            | .ret v => R (.ok (.ret v)) s₄) (notedBy (model prog w) A env fun e s' => R (.error e) s') s₃) (notedBy (model prog w) A env fun e s' => R (.error e) s') s₂) (notedBy (model prog w) A env fun e s' => R (.error e) s') s₁)
      (notedBy (model prog w) A env fun e s' => R (.error e) s') s) (n : Nat) (h : I n s) : codeQ (model prog w) A (.forLoop target it body orelse env) R s := by
  refine codeQ_loop rfl I (fun n s hI => ?_) n h
  show wqAny _ A ((forTurn target it body orelse env).onRaise (fun x => do noteFrame x env; theTreesLotGoes x)) _ _ s
  refine qnoted ?_
  simp only [forTurn]
  refine qat (qlet (wpAny_onRaise (wpAny_mono (turn n s hI) (fun r s₁ h₁ => ?_) fun _ _ z => wpAny_standAt z)))
  match r, h₁ with
  | none, h₁ => exact qpure (.inr ⟨rfl, .of (codeAny_block h₁)⟩)
  | some v, h₁ =>
    refine qlet (thn h₁ fun _ s₂ h₂ => qlet (thn h₂ fun _ s₃ h₃ => qbind (qthn h₃ fun f s₄ h₄ => ?_)))
    match f, h₄ with
    | .next, h₄ => exact qpure (.inl ⟨rfl, h₄⟩)
    | .cont, h₄ => exact qpure (.inl ⟨rfl, h₄⟩)
    | .brk, h₄ => exact qpure h₄
    | .ret v, h₄ => exact qpure h₄

section
variable {X : Cx} {tg : Expr}
/-- for tg in iter: body, the body loud -/
theorem qs_for {iter : Expr} {body : List Stmt} {wi : TI} {g : TG} {tb : TS} {pos : Pos} (hp : PassesOwn (model X.prog X.w) X.A X.env X.xe) (hc : X.calm = true) (hi : PI X tg iter wi) (hg : PG X tg g) (hb : QSs X body tb)
    (hs : ∀ x, foldedSetIterable iter X.env x = pure x := by intro _; rfl) : QS X (.For tg iter body [] pos) (tFor wi g tb) := by
  refine ⟨fun pins s σ H D I h => ?_⟩
  rw [exec_For]
  refine qat (qlet (thn (hi.run pins s σ H _ I h) fun v s1 h1 => qlet (wpAny_of_eq (hs v) (qat (qlet (wpAny_holding (thn h1 fun itv s2 h2 => qown ?_)))))))
  obtain ⟨it, fp, tn, J, H2, e, I2, T, st2, f2, W, ⟨m0, w0⟩, turn⟩ := h2
  subst e
  have stat : ∀ {Hx : Hp}, (∀ b ∈ fp, Hx b = none) → ∀ b ∈ fp, FpOk X pins Hx b := fun hn b hb => ⟨hn b hb, (f2 b hb).2⟩
  refine codeQ_for (fun n sx => ∃ i σx Hx, Inv X pins σx Hx sx ∧ tn i sx.heap ∧ (∀ b ∈ fp, Hx b = none) ∧ W i n σx Hx) ?_ m0 ⟨0, σ, H2, I2, st2, fun b hb => (f2 b hb).1, w0⟩
  rintro n s3 ⟨i, σ3, H3, I3, st3, fr3, w3⟩
  rcases turn i n σ3 H3 w3 with ⟨stop, qn⟩ | ⟨go, N, hN, step⟩
  · refine wpAny_passesOwn hp (thn (T.done X rfl rfl rfl hc i pins s3 σ3 H3 X.xe I3 (stat fr3) st3 stop) ?_)
    rintro _ s4 ⟨rfl, I4⟩
    exact wpAny_execs_nil ⟨σ3, H3, I4, qn⟩
  · refine wpAny_passesOwn hp (thn (T.item X rfl rfl rfl hc i pins s3 σ3 H3 X.xe I3 (stat fr3) st3 go) ?_)
    rintro _ s4 ⟨u, rfl, h4⟩
    refine wpAny_passesOwn hp (thn h4 fun _ s5 ⟨x, H5, I5, r5, y5, st5, fr5⟩ => ?_)
    have I5p := I5.pinned (stat fr5) (T.obj _ _ st5)
    refine wpAny_passesOwn hp (thn (hg.run _ s5 σ3 H5 x u _ I5p r5 (step x H5 y5)) fun _ s6 ⟨σ6, H6, I6, q6⟩ => ?_)
    refine qmono (hb.run _ s6 σ6 H6 _ I6 q6) (fun f s7 q7 => ?_) hp
    have more : ∀ {σ7 : L2.St} {H7 : Hp}, Inv X (pins ++ pinsAt fp s5.heap) σ7 H7 s7 → N σ7 H7 → ∃ m, m < n ∧ ∃ i σx Hx, Inv X pins σx Hx s7 ∧ tn i s7.heap ∧ (∀ b ∈ fp, Hx b = none) ∧ W i m σx Hx := fun {σ7 H7} I7 n7 => by
      obtain ⟨m1, hm, w7⟩ := hN σ7 H7 n7
      refine ⟨m1, hm, i + 1, σ7, H7, I7.unpinned, T.keep _ _ _ st5 fun b hb o e => (I7.pin (b, o) (List.mem_append_right _ (List.mem_append_right _ (mem_pinsAt hb e)))).1, fun b hb => ?_, w7⟩
      obtain ⟨o, e, d⟩ := T.obj _ _ st5 b hb
      exact (I7.pin (b, o) (List.mem_append_right _ (List.mem_append_right _ (mem_pinsAt hb e)))).2.1
    match f, q7 with
    | .next, ⟨σ7, H7, I7, n7⟩ => exact more I7 n7
    | .cont, ⟨σ7, H7, I7, n7⟩ => exact more I7 n7
    | .brk, ⟨σ7, H7, I7, q7⟩ => exact ⟨σ7, H7, I7.unpinned, q7⟩
    | .ret v, ⟨x7, σ7, H7, I7, r7, q7⟩ => exact ⟨x7, σ7, H7, I7.unpinned, r7, q7⟩
end
end KG

set_option maxRecDepth 100000
set_option maxHeartbeats 1000000
/-! KSeg: the turns of a generator, whose yields may be soft. -/
namespace KG
open PySem

theorem wq_wrap {α : Type} {M : Model} {Γ : Ctx} {st : List Frame} (hf : Γ.Fits st) (K : α → Sem PySem.Fin) (J : Value → Sem PySem.Fin) (gd : Bool → Bool) (lv : List Value → List Value) {Q : α → Pos → Shared → Prop} {E : Value → Pos → Shared → Prop} (m : Sem α) :
    ∀ p s, wq M Γ m Q E p s → ∃ s' p' t', Go M s ⟨m.wrap K J gd lv, Γ.code, p, st⟩ s' ⟨t', Γ.code, p', st⟩ ∧ ((∃ a, t' = K a ∧ Q a p' s') ∨ ∃ e, t' = J e ∧ E e p' s') := by
  induction m with
  | pure a => exact fun p s h => ⟨s, p, _, .refl, .inl ⟨a, rfl, h⟩⟩
  | raise e => exact fun p s h => ⟨s, p, _, .refl, .inr ⟨e, rfl, h⟩⟩
  | unsupported | finish | yield | fork | await | register => exact fun _ _ h => h.elim
  | rule tag k ih => intro p s h; obtain ⟨s', p', t', hc, hl⟩ := ih _ _ _ h; exact ⟨s', p', t', .one (step_rule ..) hc, hl⟩
  | «at» p₁ k ih => intro p s h; obtain ⟨s', p', t', hc, hl⟩ := ih _ _ _ h; exact ⟨s', p', t', .one (step_at ..) hc, hl⟩
  | load a part k ih => intro p s ⟨o, ho, h⟩; obtain ⟨s', p', t', hc, hl⟩ := ih _ _ _ h; exact ⟨s', p', t', .one (step_load _ _ _ _ _ _ _ ho) hc, hl⟩
  | update a part g k ih => intro p s ⟨ha, h⟩; obtain ⟨s', p', t', hc, hl⟩ := ih _ _ _ h; exact ⟨s', p', t', .one (step_update _ _ _ _ _ _ _ _ ha) hc, hl⟩
  | loadIfAlive a k ih => intro p s h; obtain ⟨s', p', t', hc, hl⟩ := ih _ _ _ h; exact ⟨s', p', t', .one (step_loadIfAlive ..) hc, hl⟩
  | point l k ih => intro p s h; obtain ⟨s', p', t', hc, hl⟩ := ih _ _ _ h; exact ⟨s', p', t', .one (step_point ..) hc, hl⟩
  | alloc o k ih => intro p s h; obtain ⟨s', p', t', hc, hl⟩ := ih _ _ _ h; exact ⟨s', p', t', .one (step_alloc ..) hc, hl⟩
  | fresh k ih => intro p s h; obtain ⟨s', p', t', hc, hl⟩ := ih _ _ _ h; exact ⟨s', p', t', .one (step_fresh ..) hc, hl⟩
  | ask k ih => intro p s h; obtain ⟨s', p', t', hc, hl⟩ := ih _ _ _ h; exact ⟨s', p', t', .one (step_ask ..) hc, hl⟩
  | choose src n k ih => intro p s ⟨hn, h⟩; obtain ⟨s', p', t', hc, hl⟩ := ih _ _ _ h; exact ⟨s', p', t', .one (step_choose _ _ _ _ _ _ _ hn) hc, hl⟩
  | os q l k ih => intro p s h; obtain ⟨s', p', t', hc, hl⟩ := ih _ _ _ h; exact ⟨s', p', t', .one (step_os ..) hc, hl⟩
  | call c h₀ g l k ih =>
    intro p s h
    obtain ⟨r, s₁, c', p₁, hc₁, h⟩ := h _ (hf.enter c (fun x => (k x).wrap K J gd lv) h₀ (gd g) (lv l) p [])
    obtain ⟨s', p', t', hc, hl⟩ := ih r p s₁ h
    exact ⟨s', p', t', .one (step_call ..) (.trans hc₁ (.one (step_leaf_ret ..) hc)), hl⟩
  | handled own k ih =>
    intro p s h
    obtain ⟨s', p', t', hc, hl⟩ := ih _ _ _ h
    refine ⟨s', p', t', .one ?_ hc, hl⟩
    show M.step s ⟨.handled own fun x => (k x).wrap K J gd lv, Γ.code, p, st⟩ = _
    rw [step_handled]
    cases own
    · rw [hf.handled]; rfl
    · rw [hf.own]; rfl
  | genState g k ih => intro p s ⟨x, hg, h⟩; obtain ⟨s', p', t', hc, hl⟩ := ih _ _ _ h; exact ⟨s', p', t', .one (step_genState _ _ _ _ _ _ hg) hc, hl⟩
  | newGen c k ih => intro p s h; obtain ⟨s', p', t', hc, hl⟩ := ih _ _ _ h; exact ⟨s', p', t', .one (step_newGen ..) hc, hl⟩
  | resume g r l k ih =>
    intro p s h
    obtain ⟨res, s₁, hc₁, h⟩ := h st (lv l) (fun x => (k x).wrap K J gd lv) hf
    obtain ⟨s', p', t', hc, hl⟩ := ih res p s₁ h
    exact ⟨s', p', t', .trans hc₁ hc, hl⟩
  | stack k ih =>
    intro p s h
    obtain ⟨s', p', t', hc, hl⟩ := ih _ _ _ h
    exact ⟨s', p', t', .one (by rw [hf.below]; exact step_stack ..) hc, hl⟩
  | thread k ih => intro p s h; obtain ⟨s', p', t', hc, hl⟩ := ih _ _ _ h; exact ⟨s', p', t', .one (step_thread ..) hc, hl⟩

/-- a yield at this code is soft -/
def SoftAt (c : Code) (s : Shared) : Prop := ∃ a rest kw o, c = .builtin "proto.yield_from" ⟨.ref a :: rest, kw⟩ ∧ s.heap.get? a = some o ∧ o.genNumber?.isSome = true
def SegEndQ (R : GenEnd) (Y : Protocol) (n : Nat) (go : Code → Sem PySem.Fin → List Frame → Shared → Prop) (s₀ : Shared) (e : End) (s' : Shared) : Prop :=
  match e with
  | .ret r => R n s₀ r s'
  | .susp v g _ k c _ fs => (fs.any Frame.guarded = false ∧ (g = false ∨ SoftAt c s')) ∧ Y (n - 1) s₀ v s' fun r s₂ => go c (k r) fs s₂
def SegQ (M : Model) (A : Around) (R : GenEnd) (Y : Protocol) : Nat → Shared → Code → Sem PySem.Fin → List Frame → Shared → Prop
  | 0 => fun s₀ c t fs s => ∀ (Γ : PySem.Ctx) (p : Pos) (base : List Frame), Γ.code = c → Γ.Woken A → Γ.Fits base → ∃ e s' t' c' p' pre', Go M s ⟨t, c, p, fs ++ base⟩ s' ⟨t', c', p', pre' ++ base⟩ ∧ Exits e t' c' p' pre' ∧ SegEndQ R Y 0 (fun _ _ _ _ => False) s₀ e s'
  | n + 1 => fun s₀ c t fs s => ∀ (Γ : PySem.Ctx) (p : Pos) (base : List Frame), Γ.code = c → Γ.Woken A → Γ.Fits base → ∃ e s' t' c' p' pre', Go M s ⟨t, c, p, fs ++ base⟩ s' ⟨t', c', p', pre' ++ base⟩ ∧ Exits e t' c' p' pre' ∧
      SegEndQ R Y (n + 1) (fun c₁ t₁ fs₁ s₁ => SegQ M A R Y n s₁ c₁ t₁ fs₁ s₁) s₀ e s'
def SegQ.next (M : Model) (A : Around) (R : GenEnd) (Y : Protocol) : Nat → Code → Sem PySem.Fin → List Frame → Shared → Prop
  | 0 => fun _ _ _ _ => False
  | n + 1 => fun c t fs s₁ => SegQ M A R Y n s₁ c t fs s₁
section
variable {M : Model} {A : Around} {R : GenEnd} {Y : Protocol} {n : Nat} {s₀ : Shared} {c : Code} {fs : List Frame} {s : Shared}
theorem sq_iff {t : Sem PySem.Fin} : SegQ M A R Y n s₀ c t fs s ↔ ∀ (Γ : PySem.Ctx) (p : Pos) (base : List Frame), Γ.code = c → Γ.Woken A → Γ.Fits base →
    ∃ e s' t' c' p' pre', Go M s ⟨t, c, p, fs ++ base⟩ s' ⟨t', c', p', pre' ++ base⟩ ∧ Exits e t' c' p' pre' ∧ SegEndQ R Y n (SegQ.next M A R Y n) s₀ e s' := by cases n <;> rfl
theorem sq_wrap {α : Type} {m : Sem α} {K : α → Sem PySem.Fin} {J : Value → Sem PySem.Fin} {gd : Bool → Bool} {lv : List Value → List Value}
    (h : wqAny M (A.over c fs) m (fun a s' => SegQ M A R Y n s₀ c (K a) fs s') (fun x s' => SegQ M A R Y n s₀ c (J x) fs s') s) : SegQ M A R Y n s₀ c (m.wrap K J gd lv) fs s := by
  rw [sq_iff]
  rintro Γ p base rfl hΓ hb
  obtain ⟨s₁, p₁, t₁, hg, hl⟩ := wq_wrap (Γ := Γ.over fs) (hb.over fs) K J gd lv m p s (h (Γ.over fs) p (hΓ.over fs))
  rcases hl with ⟨a, rfl, q⟩ | ⟨x, rfl, q⟩
  · obtain ⟨e, s', t', c', p', pre', g2, r⟩ := sq_iff.mp q Γ p₁ base rfl hΓ hb
    exact ⟨e, s', t', c', p', pre', .trans hg g2, r⟩
  · obtain ⟨e, s', t', c', p', pre', g2, r⟩ := sq_iff.mp q Γ p₁ base rfl hΓ hb
    exact ⟨e, s', t', c', p', pre', .trans hg g2, r⟩
theorem sq_bind {α : Type} {m : Sem α} {K : α → Sem PySem.Fin} (h : wqAny M (A.over c fs) m (fun a s' => SegQ M A R Y n s₀ c (K a) fs s') (fun x s' => SegQ M A R Y n s₀ c (.raise x) fs s') s) :
    SegQ M A R Y n s₀ c (m >>= K) fs s := by
  rw [Sem.bind_eq_wrap']; exact sq_wrap h
/-- the head of a bind -/
theorem sq_bindw {α β : Type} {m : Sem α} {f : α → Sem β} {K : β → Sem PySem.Fin} {J : Value → Sem PySem.Fin} {gd : Bool → Bool} {lv : List Value → List Value}
    (h : wqAny M (A.over c fs) m (fun a s' => SegQ M A R Y n s₀ c ((f a).wrap K J gd lv) fs s') (fun x s' => SegQ M A R Y n s₀ c (J x) fs s') s) : SegQ M A R Y n s₀ c ((m >>= f).wrap K J gd lv) fs s := by
  rw [Sem.bind_eq_wrap', Sem.wrap_wrap]; exact sq_wrap h
theorem sq_at {p₁ : Pos} {k : Unit → Sem PySem.Fin} (h : SegQ M A R Y n s₀ c (k ()) fs s) : SegQ M A R Y n s₀ c (.at p₁ k) fs s :=
  sq_wrap (m := standAt p₁) (K := k) (J := .raise) (gd := id) (lv := id) fun Γ p hΓ => h
theorem sq_point {l : List Value} {k : Unit → Sem PySem.Fin} (h : SegQ M A R Y n s₀ c (k ()) fs s) : SegQ M A R Y n s₀ c (.point l k) fs s :=
  sq_wrap (m := point) (K := k) (J := .raise) (gd := id) (lv := fun _ => l) fun Γ p hΓ => h
theorem sq_call {c₁ : Code} {h : Option Value} {g : Bool} {l : List Value} {k : Result → Sem PySem.Fin} (hc : ∀ p, SegQ M A R Y n s₀ c₁ (M.den c₁) (.ret k h g l c p [] :: fs) s) : SegQ M A R Y n s₀ c (.call c₁ h g l k) fs s := by
  rw [sq_iff]
  rintro Γ p base rfl hΓ hb
  obtain ⟨e, s', t', c', p', pre', g2, r⟩ := sq_iff.mp (hc p) (Γ.goto c₁) p base rfl (hΓ.goto c₁) (hb.goto c₁)
  exact ⟨e, s', t', c', p', pre', .one (step_call ..) g2, r⟩
theorem sq_leaf {k : Result → Sem PySem.Fin} {h : Option Value} {g : Bool} {l : List Value} {c₁ : Code} {p₁ : Pos} {kp : List Value} (r : Result) (hk : SegQ M A R Y n s₀ c₁ (k r) fs s) : SegQ M A R Y n s₀ c (leafOf r) (.ret k h g l c₁ p₁ kp :: fs) s := by
  rw [sq_iff]
  rintro Γ p base rfl hΓ hb
  obtain ⟨e, s', t', c', p', pre', g2, r⟩ := sq_iff.mp hk (Γ.goto c₁) p₁ base rfl (hΓ.goto c₁) (hb.goto c₁)
  exact ⟨e, s', t', c', p', pre', .one (step_leaf_ret ..) g2, r⟩
theorem sq_again {c₁ : Code} (hq : c₁.quiet = true) (hc : SegQ M A R Y n s₀ c₁ (M.den c₁) fs s) : SegQ M A R Y n s₀ c (.pure (.again c₁)) fs s := by
  rw [sq_iff]
  rintro Γ p base rfl hΓ hb
  obtain ⟨e, s', t', c', p', pre', g2, r⟩ := sq_iff.mp hc (Γ.goto c₁) p base rfl (hΓ.goto c₁) (hb.goto c₁)
  exact ⟨e, s', t', c', p', pre', .one (step_again _ _ _ _ _ _ hq) g2, r⟩
theorem sq_end (r : Result) (h : R n s₀ r s) : SegQ M A R Y n s₀ c (leafOf r) [] s := by
  rw [sq_iff]
  rintro Γ p base rfl hΓ hb
  exact ⟨.ret r, s, leafOf r, Γ.code, p, [], .refl, ⟨rfl, rfl⟩, h⟩
theorem sq_yield {v : Value} {g : Bool} {l : List Value} {k : Resume → Sem PySem.Fin} (hfs : splitAtGen fs = none) (hg : g = false ∨ SoftAt c s) (hfg : fs.any Frame.guarded = false)
    (h : Y n s₀ v s fun r s₂ => SegQ M A R Y n s₂ c (k r) fs s₂) : SegQ M A R Y (n + 1) s₀ c (.yield v g l k) fs s := by
  rintro Γ p base rfl hΓ hb
  exact ⟨.susp v g l k Γ.code p fs, s, _, _, _, fs, .refl, ⟨rfl, rfl, rfl, rfl, hfs⟩, ⟨hfg, hg⟩, h⟩
end

/-! ### waking -/
def GoesQ (M : Model) (A : Around) (R : GenEnd) (Y : Protocol) (n : Nat) (gs : GenState) (r : Resume) (s : Shared) : Prop :=
  match gs with
  | .fresh c => r = .send .none ∧ SegQ M A R Y n s c (M.den c) [] s
  | .suspended k _ c _ fs _ => SegQ M A R Y n s c (k r) fs s
  | _ => False

theorem exit_go {M : Model} {e : End} {t : Sem PySem.Fin} {c : Code} {p : Pos} {pre : List Frame} {s : Shared} {g : Nat} {k : GenResult → Sem PySem.Fin} {l : List Value} {c₁ : Code} {p₁ : Pos} {st : List Frame} {R : GenEnd} {Y : Protocol} {n : Nat}
    {go : Code → Sem PySem.Fin → List Frame → Shared → Prop} {s₀ : Shared} (hx : Exits e t c p pre) (he : SegEndQ R Y n go s₀ e s) : Go M s ⟨t, c, p, pre ++ .gen g k l c₁ p₁ :: st⟩ (s.setGen g e.genState) ⟨k e.result, c₁, p₁, st⟩ := by
  cases e with
  | ret r => obtain ⟨rfl, rfl⟩ := hx; exact .one (step_leaf_gen ..) .refl
  | susp v g₀ l₀ k₀ c₀ p₀ fs =>
    obtain ⟨rfl, rfl, rfl, rfl, hfs⟩ := hx
    obtain ⟨⟨h1, h2⟩, -⟩ := he
    have hsp : splitAtGen (pre ++ .gen g k l c₁ p₁ :: st) = some (pre, (g, k, c₁, p₁), st) := by rw [splitAtGen_append_none _ hfs, splitAtGen_gen]; simp
    refine .step ?_ ?_ .refl
    · rcases h2 with rfl | h2
      · refine .inl ?_
        rw [Thread.calm_eq]
        have : Thread.loud ⟨.yield v false l₀ k₀, c, p, pre ++ .gen g k l c₁ p₁ :: st⟩ = false := by rw [Thread.loud_yield _ _ _ _ _ _ hsp, h1]; rfl
        rw [this]; rfl
      · obtain ⟨a, rest, kw, o, e1, e2, e3⟩ := h2
        exact .inr ⟨v, g₀, l₀, k₀, a, rest, kw, pre, _, st, o, rfl, e1, hsp, h1, e2, e3⟩
    · show stepK M.den M.prog M.w s ⟨.yield v g₀ l₀ k₀, c, p, pre ++ .gen g k l c₁ p₁ :: st⟩ = _
      simp only [stepK, PySem.step, hsp]; rfl

theorem q_resume {M : Model} {A : Around} {R : GenEnd} {Y : Protocol} {n : Nat} {E : Value → Shared → Prop} {s : Shared} {g : Nat} {gs : GenState} {r : Resume} {l : List Value} {α : Type} {k : GenResult → Sem α} {Q : α → Shared → Prop}
    (hg : s.gens[g]? = some gs) (hgo : GoesQ M A R Y n gs r (s.setGen g .running)) (hR : ∀ x s₁, R n (s.setGen g .running) x s₁ → wqAny M A (k (End.ret x).result) Q E (s₁.setGen g .finished))
    (hY : ∀ v s₁ gs', (∃ k₀ l₀ c₀ p₀ fs₀ cl, gs' = .suspended k₀ l₀ c₀ p₀ fs₀ cl) → Y (n - 1) (s.setGen g .running) v s₁ (fun r' s₂ => match n with | 0 => False | m + 1 => GoesQ M A R Y m gs' r' s₂) → wqAny M A (k (.yielded v)) Q E (s₁.setGen g gs')) :
    wqAny M A (.resume g r l k) Q E s := by
  intro Γ p hΓ st l₁ k₁ hf
  have fin : ∀ e₁ s₁, SegEndQ R Y n (SegQ.next M A R Y n) (s.setGen g .running) e₁ s₁ → wq M Γ (k e₁.result) (fun a _ s' => Q a s') (fun e _ s' => E e s') p (s₁.setGen g e₁.genState) := by
    intro e₁ s₁ he
    cases e₁ with
    | ret x => exact hR x s₁ he Γ p hΓ
    | susp v g₀ l₀ k₀ c₀ p₀ fs₀ =>
      refine hY v s₁ _ ⟨k₀, l₀, c₀, p₀, fs₀, _, rfl⟩ ?_ Γ p hΓ
      cases n with
      | zero => exact he.2
      | succ m => exact he.2
  cases gs with
  | fresh c =>
    obtain ⟨rfl, hs⟩ := hgo
    obtain ⟨e₁, s₁, t', c', p', pre', g2, hx, he⟩ := sq_iff.mp hs (Γ.wake c p) p (.gen g k₁ l₁ Γ.code p :: st) rfl (hΓ.wake c p) (hf.wake c g k₁ l₁ p)
    exact ⟨_, _, .one (step_resume_fresh _ _ _ _ _ _ _ hg) (.trans g2 (exit_go hx he)), fin e₁ s₁ he⟩
  | suspended k₀ l₀ c₀ p₀ fs₀ cl =>
    obtain ⟨e₁, s₁, t', c', p', pre', g2, hx, he⟩ := sq_iff.mp hgo (Γ.wake c₀ p) p₀ (.gen g k₁ l₁ Γ.code p :: st) rfl (hΓ.wake c₀ p) (hf.wake c₀ g k₁ l₁ p)
    exact ⟨_, _, .one (step_resume_suspended _ _ _ _ _ _ _ _ hg) (.trans g2 (exit_go hx he)), fin e₁ s₁ he⟩
  | running => exact hgo.elim
  | finished => exact hgo.elim
end KG

set_option maxRecDepth 100000
set_option maxHeartbeats 1000000
/-! KGb: the body of a generator def, statement by statement; its yields may be soft. -/
namespace KG
open PySem PySem.Spec PyProof.Rows GenW L2

/-- no exception leaves here -/
def NoX (X : Cx) : Prop := ∀ e s, X.xe e s → False

/-- objects that may turn while a generator sleeps: at each address, what may stand there -/
abbrev Band := List (Addr × (Obj → Prop))
def adr (L : Band) : List Addr := L.map (·.1)
inductive Held (h : Heap) : Band → List (Addr × Obj) → Prop
  | nil : Held h [] []
  | cons {a : Addr} {P : Obj → Prop} {o : Obj} {L : Band} {pl : List (Addr × Obj)} : h.get? a = some o → P o → (∀ v, o.data ≠ .cell v) → Held h L pl → Held h ((a, P) :: L) ((a, o) :: pl)
theorem Held.mem {h : Heap} {L : Band} {pl : List (Addr × Obj)} (x : Held h L pl) : ∀ q ∈ pl, h.get? q.1 = some q.2 ∧ (∀ v, q.2.data ≠ .cell v) ∧ q.1 ∈ adr L := by
  induction x with
  | nil => intro q hq; simp at hq
  | cons e p nc _ ih =>
    intro q hq
    rcases List.mem_cons.mp hq with rfl | hq
    · exact ⟨e, nc, List.mem_cons_self⟩
    · exact ⟨(ih q hq).1, (ih q hq).2.1, List.mem_cons_of_mem _ (ih q hq).2.2⟩
theorem Held.has {h : Heap} {L : Band} {pl : List (Addr × Obj)} (x : Held h L pl) : ∀ b ∈ adr L, ∃ o, (b, o) ∈ pl := by
  induction x with
  | nil => intro b hb; simp [adr] at hb
  | cons e p nc _ ih =>
    intro b hb
    rcases List.mem_cons.mp hb with rfl | hb
    · exact ⟨_, List.mem_cons_self⟩
    · obtain ⟨o, ho⟩ := ih b hb
      exact ⟨o, List.mem_cons_of_mem _ ho⟩
theorem Held.keep {h t : Heap} {L : Band} {pl : List (Addr × Obj)} (x : Held h L pl) (k : ∀ q ∈ pl, t.get? q.1 = some q.2) : Held t L pl := by
  induction x with
  | nil => exact .nil
  | cons e p nc _ ih => exact .cons (k _ List.mem_cons_self) p nc (ih fun q hq => k q (List.mem_cons_of_mem _ hq))

/-- what happens between a yield and the next wake -/
structure SleptQ (L : Band) (g : Nat) (s t : Shared) : Prop where
  os : t.os = s.os
  size : t.gens.size = s.gens.size
  above : ∀ i : Nat, g < i → t.gens[i]? = s.gens[i]?
  below : ∀ i : Nat, t.gens[i]? = s.gens[i]? ∨ t.gens[i]? = some GenState.running
  keep : ∀ b, b ∉ adr L → ∀ o, s.heap.get? b = some o → t.heap.get? b = some o
  there : ∀ b o, s.heap.get? b = some o → ∃ o', t.heap.get? b = some o'
  band : ∃ pl, Held t.heap L pl
theorem SleptQ.bare {L : Band} {g : Nat} {s t : Shared} (z : SleptQ L g s t) (h : AllBare s.gens) : AllBare t.gens := fun y hy => by
  obtain ⟨i, hi, e⟩ := Array.mem_iff_getElem.mp hy
  have e1 : t.gens[i]? = some y := by rw [Array.getElem?_eq_getElem hi, e]
  rcases z.below i with q | q
  · exact h y (Array.mem_of_getElem? (q ▸ e1))
  · rw [q] at e1; cases e1; rfl

/-- the generator's body runs; the band stands as at s₀ -/
def GJ (X : Cx) (L : Band) (g : Nat) (ip : List (Addr × Obj)) (s₀ : Shared) (σ : L2.St) (H : Hp) (s : Shared) : Prop := g < s.gens.size ∧ ∃ pl, Held s₀.heap L pl ∧ Inv X (pl ++ ip) σ H s
structure GatQ (X : Cx) (L : Band) (ip : List (Addr × Obj)) (A : Around) (c : Code) (fs : List Frame) (gd : Bool → Bool) : Prop where
  offPn : ∀ q ∈ X.pn, q.1 ∉ adr L
  offIp : ∀ q ∈ ip, q.1 ∉ adr L
  mine : ∀ b ∈ adr L, b ∈ X.ex ∨ X.s_0.heap.objs.size ≤ b
  offL : ∀ b ∈ adr L, b ≠ X.env.locals
  offC : ∀ b ∈ adr L, ∀ x d, X.env.cells.lookup x = some d → d ≠ b
  arnd : A.over c fs = X.A
  spl : splitAtGen fs = none
  grd : fs.any Frame.guarded = false
  gdF : gd false = false

theorem GJ.free {X : Cx} {L : Band} {gn : Nat} {ip : List (Addr × Obj)} {s₀ s : Shared} {σ : L2.St} {H : Hp} (h : GJ X L gn ip s₀ σ H s) : ∀ b ∈ adr L, H b = none ∧ b ≠ X.env.locals ∧ b ∉ X.fs := fun b hb => by
  obtain ⟨-, pl, hh, I⟩ := h
  obtain ⟨o, ho⟩ := hh.has b hb
  obtain ⟨-, h2, h3, h4, -⟩ := I.pin (b, o) (List.mem_append_right _ (List.mem_append_left _ ho))
  exact ⟨h2, h3, h4⟩
/-- behind others' turns that keep all but the band -/
theorem GJ.moved {X : Cx} {L : Band} {gn : Nat} {ip : List (Addr × Obj)} {A : Around} {c : Code} {fs : List Frame} {gd : Bool → Bool} {σ : L2.St} {H H' : Hp} {s₀ s t : Shared} (g : GatQ X L ip A c fs gd) (h : GJ X L gn ip s₀ σ H s) (hgt : gn < t.gens.size) (os : t.os = s.os)
    (un : Un (frs X.stack) (adr L) H H' s.heap t.heap) (hok : HOk X.prog X.w H' t.heap) (hb : AllBare t.gens) (hn : ∀ b ∈ adr L, H' b = none) (band : ∃ pl, Held t.heap L pl) : GJ X L gn ip t σ H' t := by
  have fr := h.free
  obtain ⟨-, pl, hh, I⟩ := h
  have I0 : Inv X ip σ H s := I.pins_of fun q hq => I.pin q (List.mem_append_right _ (List.mem_append_right _ hq))
  have J : Inv X ip σ H' t := I0.call' (ch := adr L) os un hok hb fun b hb => ⟨g.mine b hb, g.offL b hb, g.offC b hb, fun q hq => (List.mem_append.mp hq).elim (fun z e => g.offPn q z (by rw [e]; exact hb)) fun z e => g.offIp q z (by rw [e]; exact hb)⟩
  obtain ⟨pl2, h2⟩ := band
  refine ⟨hgt, pl2, h2, J.pins_of fun q hq => ?_⟩
  rcases List.mem_append.mp hq with z | z
  · obtain ⟨a1, a2, a3⟩ := h2.mem q z
    exact ⟨a1, hn _ a3, (fr _ a3).2.1, (fr _ a3).2.2, a2⟩
  · exact J.pin q (List.mem_append_right _ z)
theorem GJ.woken {X : Cx} {L : Band} {ip : List (Addr × Obj)} {A : Around} {c : Code} {fs : List Frame} {gd : Bool → Bool} {gn : Nat} {σ : L2.St} {H : Hp} {s₀ s t : Shared} (g : GatQ X L ip A c fs gd) (h : GJ X L gn ip s₀ σ H s) (z : SleptQ L gn s t) : GJ X L gn ip t σ H t := by
  have fr := h.free
  obtain ⟨hgs, pl, hh, I⟩ := id h
  have ne : ∀ b u, H b = some u → b ∉ adr L := fun b u e hb => by rw [(fr b hb).1] at e; cases e
  refine h.moved g (by rw [z.size]; exact hgs) z.os ⟨fun b o e n _ hx => z.keep b hx o e, fun b o e n _ hx => ⟨o.slots, z.keep b hx o e⟩, fun b o e n _ => n, fun b o e hx => ⟨o, z.keep b hx o e⟩, fun _ _ e => e, fun _ _ _ e => e, fun b ps e => ⟨#[], by rw [e]; simp⟩⟩
    (fun b u e => (I.hok b u e).stay (fun d w hd q => z.keep d ?_ w q) (fun _ q => q) fun _ _ q => q) (z.bare I.bare) (fun b hb => (fr b hb).1) z.band
  rcases hd with y | y
  · rw [y]; exact ne b u e
  · exact ne d _ y

/-- to the consumer: at a yield, the band as it stood at the turn's start -/
def YB (os : OsState) (L : Band) (g : Nat) : Protocol := fun _ s₀ v s kap => s.os = os ∧ s.heap.NoLimit ∧ (∃ pl, Held s₀.heap L pl ∧ Held s.heap L pl) ∧ ∀ t, SleptQ L g s t → kap (.send .none) t
structure GE where
  nx : Nat → L2.St → Hp → Prop
  rt : Nat → VK
  bk : Nat → L2.St → Hp → Prop := fun _ _ _ => False
  ct : Nat → L2.St → Hp → Prop := fun _ _ _ => False
/-- a generator's statement, read; the number: how many yields are left -/
abbrev TQ := GE → Nat → L2.St → Hp → Prop
def GE.at (D : GE) (n : Nat) : Ends := { nx := D.nx n, rt := D.rt n, bk := D.bk n, ct := D.ct n }
def GP (X : Cx) (L : Band) (g : Nat) (ip : List (Addr × Obj)) (D : GE) (n : Nat) (s₀ : Shared) (f : Flow) (s : Shared) : Prop :=
  match f with
  | .next => ∃ σ H, GJ X L g ip s₀ σ H s ∧ D.nx n σ H
  | .brk => ∃ σ H, GJ X L g ip s₀ σ H s ∧ D.bk n σ H
  | .cont => ∃ σ H, GJ X L g ip s₀ σ H s ∧ D.ct n σ H
  | .ret u => ∃ v σ H, GJ X L g ip s₀ σ H s ∧ RelV v u ∧ D.rt n v H
def GK2 (X : Cx) (L : Band) (g : Nat) (ip : List (Addr × Obj)) (A : Around) (R : GenEnd) (c : Code) (fs : List Frame) (K : Flow → Sem PySem.Fin) (D : GE) : Prop :=
  ∀ (n : Nat) (s₀ s : Shared) (f : Flow), GP X L g ip D n s₀ f s → SegQ (model X.prog X.w) A R (YB X.s_0.os L g) n s₀ c (K f) fs s
structure Gq (X : Cx) (st : Stmt) (t : TQ) : Prop where
  go : ∀ (A : Around) (L : Band) (g : Nat) (ip : List (Addr × Obj)) (R : GenEnd) (n : Nat) (s₀ : Shared) (c : Code) (fs : List Frame) (K : Flow → Sem PySem.Fin) (J : Value → Sem PySem.Fin) (gd : Bool → Bool) (lv : List Value → List Value) (s : Shared) (σ : L2.St) (H : Hp) (D : GE),
    GatQ X L ip A c fs gd → GK2 X L g ip A R c fs K D → GJ X L g ip s₀ σ H s → t D n σ H → SegQ (model X.prog X.w) A R (YB X.s_0.os L g) n s₀ c ((exec st X.env).wrap K J gd lv) fs s
structure Gqs (X : Cx) (sts : List Stmt) (t : TQ) : Prop where
  go : ∀ (A : Around) (L : Band) (g : Nat) (ip : List (Addr × Obj)) (R : GenEnd) (n : Nat) (s₀ : Shared) (c : Code) (fs : List Frame) (K : Flow → Sem PySem.Fin) (J : Value → Sem PySem.Fin) (gd : Bool → Bool) (lv : List Value → List Value) (s : Shared) (σ : L2.St) (H : Hp) (D : GE),
    GatQ X L ip A c fs gd → GK2 X L g ip A R c fs K D → GJ X L g ip s₀ σ H s → t D n σ H → SegQ (model X.prog X.w) A R (YB X.s_0.os L g) n s₀ c ((execs sts X.env).wrap K J gd lv) fs s

section
variable {X : Cx} {st : Stmt} {rest : List Stmt}
def tqPlain (t : TS) : TQ := fun D n σ H => t (D.at n) σ H
theorem gq_ps (hno : NoX X) {t : TS} (h : PS X st t) : Gq X st (tqPlain t) := ⟨fun A L g ip R n s₀ c fs K J gd lv s σ H D ga k hI ht => by
  obtain ⟨hgz, pl, hh, I⟩ := hI
  refine sq_wrap (qof (wpAny_gsz (n := g + 1) hgz ?_))
  rw [ga.arnd]
  refine wpAny_mono (h.run _ s σ H (D.at n) I ht) (fun f t hf hz => k n s₀ t f ?_) fun e t he => (hno e t he).elim
  match f, hf with
  | .next, ⟨σ', H', I', q⟩ => exact ⟨σ', H', ⟨hz, pl, hh, I'⟩, q⟩
  | .brk, ⟨σ', H', I', q⟩ => exact ⟨σ', H', ⟨hz, pl, hh, I'⟩, q⟩
  | .cont, ⟨σ', H', I', q⟩ => exact ⟨σ', H', ⟨hz, pl, hh, I'⟩, q⟩
  | .ret u, ⟨v, σ', H', I', r, q⟩ => exact ⟨v, σ', H', ⟨hz, pl, hh, I'⟩, r, q⟩⟩
def tqNil : TQ := fun D n σ H => D.nx n σ H
theorem gqs_nil : Gqs X [] tqNil := ⟨fun A L g ip R n s₀ c fs K J gd lv s σ H D ga k hI ht => k n s₀ s .next ⟨σ, H, hI, ht⟩⟩
def tqThen (t u : TQ) : TQ := fun D n σ H => t { D with nx := fun m σ' H' => u D m σ' H' } n σ H
theorem gqs_cons {t u : TQ} (a : Gq X st t) (b : Gqs X rest u) : Gqs X (st :: rest) (tqThen t u) := ⟨fun A L g ip R n s₀ c fs K J gd lv s σ H D ga k hI ht => by
  rw [execs_cons_wrap]
  refine a.go A L g ip R n s₀ c fs _ J gd lv s σ H { D with nx := fun m σ' H' => u D m σ' H' } ga (fun m r₀ t f hf => ?_) hI ht
  match f, hf with
  | .next, ⟨σ', H', I', q⟩ => exact b.go A L g ip R m r₀ c fs K J gd lv t σ' H' D ga k I' q
  | .brk, hf => exact k m r₀ t .brk hf
  | .cont, hf => exact k m r₀ t .cont hf
  | .ret v, hf => exact k m r₀ t (.ret v) hf⟩
theorem gqs_one {t : TQ} (a : Gq X st t) : Gqs X [st] t := ⟨fun A L g ip R n s₀ c fs K J gd lv s σ H D ga k hI ht => by
  rw [execs_cons_wrap]
  refine a.go A L g ip R n s₀ c fs _ J gd lv s σ H D ga (fun m r₀ t f hf => ?_) hI ht
  match f, hf with
  | .next, hf => exact k m r₀ t .next hf
  | .brk, hf => exact k m r₀ t .brk hf
  | .cont, hf => exact k m r₀ t .cont hf
  | .ret v, hf => exact k m r₀ t (.ret v) hf⟩
def tqIf (tc : TT) (t u : TQ) : TQ := fun D n σ H => tc σ H fun b H1 => if b = true then t D n σ H1 else u D n σ H1
theorem gq_if (hno : NoX X) {e : Expr} {a b : List Stmt} {pos : Pos} {tc : TT} {t u : TQ} (hc : PT X e tc) (ha : Gqs X a t) (hb : Gqs X b u) : Gq X (.If e a b pos) (tqIf tc t u) := ⟨fun A L g ip R n s₀ c fs K J gd lv s σ H D ga k hI ht => by
  rw [arm_exec_If]
  show SegQ _ _ _ _ n s₀ c (.at pos fun _ => ((isTrue e X.env (eval e X.env)) >>= fun d => if d = true then execs a X.env else execs b X.env).wrap K J gd lv) fs s
  obtain ⟨hgz, pl, hh, I⟩ := hI
  refine sq_at (sq_bindw (qof (wpAny_gsz (n := g + 1) hgz ?_)))
  rw [ga.arnd]
  refine wpAny_mono (hc.run _ s σ H _ I ht) (fun d t ⟨H1, I1, q⟩ hz => ?_) fun x t hx => (hno x t hx).elim
  cases d with
  | true => exact ha.go A L g ip R n s₀ c fs K J gd lv t σ H1 D ga k ⟨hz, pl, hh, I1⟩ q
  | false => exact hb.go A L g ip R n s₀ c fs K J gd lv t σ H1 D ga k ⟨hz, pl, hh, I1⟩ q⟩
def tqYield (te : TE) : TQ := fun D n σ H => ∃ m, n = m + 1 ∧ te σ H fun _ H1 => D.nx m σ H1
theorem gq_yield (hno : NoX X) {e : Expr} {yp pos : Pos} {te : TE} (he : PE X e te) (hco : X.env.scope.isCoroutine = false) (hi : interactive X.env = false) : Gq X (.Expr (.Yield (some e) yp) pos) (tqYield te) := ⟨fun A L g ip R n s₀ c fs K J gd lv s σ H D ga k hI ht => by
  obtain ⟨n, rfl, ht⟩ := ht
  obtain ⟨hgz, pl, hh, I⟩ := hI
  rw [exec_Expr X.env _ pos hi rfl]
  show SegQ _ _ _ _ (n + 1) s₀ c (.at pos fun _ => ((eval e X.env >>= fun v => (standAt yp >>= fun _ => yieldOut X.env v)) >>= fun x => dropValue (.Yield (some e) yp) pos x).wrap K J gd lv) fs s
  have hy : ∀ v, yieldOut X.env v = yieldValue v := fun v => by simp only [yieldOut, hco, Bool.false_eq_true, if_false]
  simp only [hy]
  refine sq_at ?_
  rw [Sem.bind_eq_wrap', Sem.bind_eq_wrap', Sem.wrap_wrap, Sem.wrap_wrap]
  refine sq_wrap (qof (wpAny_gsz (n := g + 1) hgz ?_))
  rw [ga.arnd]
  refine wpAny_mono (he.run _ s σ H _ I ht) (fun v t ⟨x, H1, I1, rv, q⟩ hz => ?_) fun x t hx => (hno x t hx).elim
  have G1 : GJ X L g ip s₀ σ H1 t := ⟨hz, pl, hh, I1⟩
  refine sq_at (sq_yield ga.spl (.inl ga.gdF) ga.grd ⟨I1.os, I1.nolimit, ⟨pl, hh, hh.keep fun q hq => (I1.pin q (List.mem_append_right _ (List.mem_append_left _ hq))).1⟩, fun t2 z => ?_⟩)
  exact k n t2 t2 .next ⟨σ, H1, G1.woken ga z, q⟩⟩
end
end KG

set_option maxRecDepth 100000
set_option maxHeartbeats 1000000
/-! KGf: for in a generator's body. -/
namespace KG
open PySem PySem.Spec PyProof.Rows GenW L2
section
variable {X : Cx}
theorem GatQ.inner {L : Band} {ip ip' : List (Addr × Obj)} {A : Around} {c c' : Code} {fs : List Frame} {gd : Bool → Bool} {k : Result → Sem PySem.Fin} {l kp : List Value} {p : Pos} (g : GatQ X L ip A c fs gd) (hw : c'.weight = 0) (hu : c'.cUnits = 0)
    (hip : ∀ q ∈ ip', q.1 ∉ adr L) : GatQ X L ip' A c' (.ret k none (gd false) l c p kp :: fs) id :=
  ⟨g.offPn, hip, g.mine, g.offL, g.offC, (over_loop hw hu).trans g.arnd, by show (splitAtGen fs).map _ = none; rw [g.spl]; rfl, by show (gd false || fs.any Frame.guarded) = false; rw [g.gdF, g.grd]; rfl, rfl⟩

def tqFor (wi : TI) (g : TG) (tb : TQ) : TQ := fun D n σ H => wi σ H fun J H1 => ∃ W : Nat → Nat → Nat → L2.St → Hp → Prop, (∃ m, W 0 m n σ H1) ∧ ∀ i m n σ H, W i m n σ H →
  (J.stop i H ∧ D.nx n σ H) ∨ (J.go i H ∧ ∃ N : Nat → L2.St → Hp → Prop, (∀ n' σ' H', N n' σ' H' → ∃ m', m' < m ∧ W (i + 1) m' n' σ' H') ∧
    ∀ x H', J.yld i H x H' → g x σ H' fun σ2 H2 => tb { D with nx := N, ct := N, bk := D.nx } n σ2 H2)

theorem gq_for {tg iter : Expr} {body : List Stmt} {wi : TI} {g : TG} {tb : TQ} {pos : Pos} (hno : NoX X) (hc : X.calm = true) (hi : PI X tg iter wi) (hg : PG X tg g) (hb : Gqs X body tb)
    (hf : ∀ x, foldedSetIterable iter X.env x = pure x := by intro _; rfl) : Gq X (.For tg iter body [] pos) (tqFor wi g tb) := ⟨fun A L gn ip R n s₀ c fs K J gd lv s σ H D ga k hI ht => by
  rw [arm_exec_For]
  show SegQ _ _ _ _ n s₀ c (.at pos fun _ => ((eval iter X.env) >>= fun v => foldedSetIterable iter X.env v >>= fun x => standAt iter.pos >>= fun _ => holding [x] (pyIter x) >>= fun it => runOwn (.forLoop tg it body [] X.env) X.env).wrap K J gd lv) fs s
  obtain ⟨hgz, pl, hh, I⟩ := hI
  refine sq_at (sq_bindw (qof (wpAny_gsz (n := gn + 1) hgz ?_)))
  rw [ga.arnd]
  refine wpAny_mono (hi.run _ s σ H _ I ht) (fun v s1 h1 hz1 => ?_) fun x s' hx => (hno x s' hx).elim
  refine sq_bindw (qof (wpAny_of_eq (hf v) ?_))
  refine sq_bindw (qof (wpAny_standAt ?_))
  refine sq_bindw (qof (wpAny_holding (wpAny_gsz (n := gn + 1) hz1 ?_)))
  rw [ga.arnd]
  refine wpAny_mono h1 (fun itv s2 h2 hz2 => ?_) fun x s' hx => (hno x s' hx).elim
  obtain ⟨it, fp, tn, Jt, H2, e, I2, T, st2, f2, W, ⟨m0, w0⟩, turn⟩ := h2
  subst e
  refine sq_call fun p => ?_
  have notS : ∀ b ∈ fp, b ∉ adr L := fun b hb z => by
    obtain ⟨o, ho⟩ := hh.has b z
    exact (f2 b hb).2.2.2.2.2 (b, o) (List.mem_append_right _ (List.mem_append_left _ ho)) rfl
  have stat : ∀ {H' : Hp} {pl' : List (Addr × Obj)} {s' : Shared}, Held s'.heap L pl' → (∀ b ∈ fp, H' b = none) → ∀ b ∈ fp, FpOk X (pl' ++ ip) H' b := fun {H' pl' s'} hp hz b hb => by
    obtain ⟨_, a1, a2, a3, a4, a5⟩ := f2 b hb
    refine ⟨hz b hb, a1, a2, a3, a4, fun q hq => ?_⟩
    rcases List.mem_append.mp hq with y | y
    · exact a5 q (List.mem_append_left _ y)
    · rcases List.mem_append.mp y with y | y
      · exact fun e => notS b hb (e ▸ (hp.mem q y).2.2)
      · exact a5 q (List.mem_append_right _ (List.mem_append_right _ y))
  have loop : ∀ (m n : Nat) (i : Nat) (s₀ s : Shared) (σ : L2.St) (H : Hp), W i m n σ H → GJ X L gn ip s₀ σ H s → tn i s.heap → (∀ b ∈ fp, H b = none) →
      SegQ (model X.prog X.w) A R (YB X.s_0.os L gn) n s₀ (.forLoop tg (.ref it) body [] X.env) ((model X.prog X.w).den (.forLoop tg (.ref it) body [] X.env))
        (.ret (fun r => ((match r with | .ok f => (.pure f : Sem Flow) | .error e => .raise e).onRaise (cameBack X.env)).wrap K J gd lv) none (gd false) (lv []) c p [] :: fs) s := by
    intro m
    induction m using Nat.strongRecOn with
    | ind m ih =>
      intro n i s₀ s σ H w hI ht0 hz
      have gi : GatQ X L ip A (.forLoop tg (.ref it) body [] X.env) (.ret (fun r => ((match r with | .ok f => (.pure f : Sem Flow) | .error e => .raise e).onRaise (cameBack X.env)).wrap K J gd lv) none (gd false) (lv []) c p [] :: fs) id := ga.inner rfl rfl ga.offIp
      show SegQ _ _ _ _ n s₀ _ ((forTurn tg (.ref it) body [] X.env).onRaise fun x => do noteFrame x X.env; theTreesLotGoes x) _ s
      rw [Sem.onRaise_eq_wrap]
      unfold forTurn
      obtain ⟨hgz', pl', hp', I⟩ := hI
      refine sq_bindw (qof (wpAny_standAt (sq_bindw (qof (wpAny_onRaise (wpAny_gsz (n := gn + 1) hgz' ?_))))))
      rw [gi.arnd]
      rcases turn i m n σ H w with ⟨stop, q⟩ | ⟨go, N, hN, step⟩
      · refine wpAny_mono (T.done X rfl rfl rfl hc i _ s σ H X.xe I (stat hp' hz) ht0 stop) (fun r1 s1 ⟨hr, I1⟩ hz3 => ?_) fun x t hx => (hno x t hx).elim
        subst hr
        show SegQ _ _ _ _ n s₀ _ (.pure (.again (.block [] X.env))) _ s1
        refine sq_again rfl ?_
        exact sq_leaf (.ok .next) (k n s₀ s1 .next ⟨σ, H, ⟨hz3, pl', hp', I1⟩, q⟩)
      · refine wpAny_mono (T.item X rfl rfl rfl hc i _ s σ H X.xe I (stat hp' hz) ht0 go) (fun r1 s1 ⟨u, hr, h3⟩ hz3 => ?_) fun x t hx => (hno x t hx).elim
        subst hr
        refine sq_bindw (qof (wpAny_gsz (n := gn + 1) hz3 ?_))
        rw [gi.arnd]
        refine wpAny_mono h3 (fun _ s3 ⟨x, H3, I3, r3, y3, st3, z3⟩ hz4 => ?_) fun x t hx => (hno x t hx).elim
        have I3' := I3.pinned (stat hp' z3) (T.obj _ _ st3)
        refine sq_bindw (qof (wpAny_gsz (n := gn + 1) hz4 ?_))
        rw [gi.arnd]
        refine wpAny_mono (hg.run _ s3 σ H3 x u _ I3' r3 (step x H3 y3)) (fun _ s4 ⟨σ4, H4, I4, q4⟩ hz5 => ?_) fun x t hx => (hno x t hx).elim
        have hip' : ∀ q ∈ ip ++ pinsAt fp s3.heap, q.1 ∉ adr L := fun q hq => (List.mem_append.mp hq).elim (ga.offIp q) fun z => notS _ (of_pinsAt z).1
        have gi' : GatQ X L (ip ++ pinsAt fp s3.heap) A (.forLoop tg (.ref it) body [] X.env) (.ret (fun r => ((match r with | .ok f => (.pure f : Sem Flow) | .error e => .raise e).onRaise (cameBack X.env)).wrap K J gd lv) none (gd false) (lv []) c p [] :: fs) id := ga.inner rfl rfl hip'
        rw [Sem.bind_eq_wrap', Sem.wrap_wrap]
        refine hb.go A L gn (ip ++ pinsAt fp s3.heap) R n s₀ _ _ _ _ _ _ s4 σ4 H4 { D with nx := N, ct := N, bk := D.nx } gi' (fun n' s₀' s5 f hs => ?_) ⟨hz5, pl', hp', by rw [← List.append_assoc]; exact I4⟩ q4
        have again : ∀ {σ5 : L2.St} {H5 : Hp}, GJ X L gn (ip ++ pinsAt fp s3.heap) s₀' σ5 H5 s5 → N n' σ5 H5 → SegQ (model X.prog X.w) A R (YB X.s_0.os L gn) n' s₀' (.forLoop tg (.ref it) body [] X.env) ((model X.prog X.w).den (.forLoop tg (.ref it) body [] X.env))
            (.ret (fun r => ((match r with | .ok f => (.pure f : Sem Flow) | .error e => .raise e).onRaise (cameBack X.env)).wrap K J gd lv) none (gd false) (lv []) c p [] :: fs) s5 := fun {σ5 H5} hI5 h5 => by
          obtain ⟨m', hm, w5⟩ := hN n' σ5 H5 h5
          obtain ⟨hg5, pl5, hp5, I5⟩ := hI5
          have pn : ∀ b ∈ fp, ∀ o, s3.heap.get? b = some o → s5.heap.get? b = some o ∧ H5 b = none := fun b hb o e => by
            have y := I5.pin (b, o) (List.mem_append_right _ (List.mem_append_right _ (List.mem_append_right _ (mem_pinsAt hb e))))
            exact ⟨y.1, y.2.1⟩
          refine ih m' hm n' (i + 1) s₀' s5 σ5 H5 w5 ⟨hg5, pl5, hp5, I5.pins_of fun q hq => I5.pin q (List.mem_append_right _ ?_)⟩ (T.keep _ _ _ st3 fun b hb o e => (pn b hb o e).1) fun b hb => ?_
          · exact (List.mem_append.mp hq).elim (fun z => List.mem_append_left _ z) fun z => List.mem_append_right _ (List.mem_append_left _ z)
          · obtain ⟨o, e, _⟩ := T.obj _ _ st3 b hb
            exact (pn b hb o e).2
        have out : ∀ {σ5 : L2.St} {H5 : Hp}, GJ X L gn (ip ++ pinsAt fp s3.heap) s₀' σ5 H5 s5 → GJ X L gn ip s₀' σ5 H5 s5 := fun {σ5 H5} ⟨hg5, pl5, hp5, I5⟩ => ⟨hg5, pl5, hp5, I5.pins_of fun q hq => I5.pin q (List.mem_append_right _
          ((List.mem_append.mp hq).elim (fun z => List.mem_append_left _ z) fun z => List.mem_append_right _ (List.mem_append_left _ z)))⟩
        match f, hs with
        | .next, ⟨σ5, H5, hI5, h5⟩ => exact sq_again rfl (again hI5 h5)
        | .cont, ⟨σ5, H5, hI5, h5⟩ => exact sq_again rfl (again hI5 h5)
        | .brk, ⟨σ5, H5, hI5, h5⟩ => exact sq_leaf (.ok .next) (k n' s₀' s5 .next ⟨σ5, H5, out hI5, h5⟩)
        | .ret v, ⟨x5, σ5, H5, hI5, rv5, h5⟩ => exact sq_leaf (.ok (.ret v)) (k n' s₀' s5 (.ret v) ⟨x5, σ5, H5, out hI5, rv5, h5⟩)
  exact loop m0 n 0 s₀ s2 σ H2 w0 ⟨hz2, pl, hh, I2⟩ st2 fun b hb => (f2 b hb).1⟩
end
end KG

set_option maxRecDepth 100000
set_option maxHeartbeats 1000000
/-! KGc: a generator is woken by next, by «yield from», by list. -/
namespace KG
open PySem PySem.Spec PyProof.Rows GenW L2

/-- a generator's object; its first slot, if there is one, bears 0 -/
def GenO (g : Nat) (o : Obj) : Prop := o.cls = .type "generator" ∧ (∃ nm qn, o.data = .fields #[.int g 0, nm, qn]) ∧ ∀ n t, (o.slots[0]? : Option (Option Value)) = some (some (Value.int n t)) → n = 0
theorem GenO.num {g : Nat} {o : Obj} (h : GenO g o) : o.genNumber?.isSome = true := by
  obtain ⟨h1, ⟨nm, qn, h2⟩, -⟩ := h
  unfold Obj.genNumber?
  rw [h1, h2]; rfl
theorem GenO.nocell {g : Nat} {o : Obj} (h : GenO g o) : ∀ v, o.data ≠ .cell v := fun v e => by
  obtain ⟨-, ⟨nm, qn, h2⟩, -⟩ := h
  rw [h2] at e; cases e

section
variable {M : Model} {A : Around} {E : Value → Shared → Prop} {s : Shared}
theorem gen_number {a : Addr} {g : Nat} {o : Obj} {Q : Nat → Shared → Prop} (ha : s.heap.get? a = some o) (ho : GenO g o) (h : Q g s) : wpAny M A (Builtin.Generator.genNumber (.ref a)) Q E s := by
  obtain ⟨h1, ⟨nm, qn, h2⟩, h3⟩ := ho
  unfold Builtin.Generator.genNumber
  refine wpAny_bind (wpAny_load ha ?_)
  simp only [h2]
  have fin : wpAny M A (pure ((g : Int).toNat)) Q E s := by rw [Int.toNat_natCast]; exact wpAny_pure h
  rcases e : (o.slots[0]? : Option (Option Value)) with _ | (_ | v)
  · exact fin
  · exact fin
  · cases v with
    | int n t =>
      have := h3 n t e
      subst this
      exact fin
    | _ => exact fin
/-- an object whose first slot bears n -/
def marked (n : Int) (o : Obj) : Obj := { o with slots := (o.slots ++ Array.replicate (0 + 1 - o.slots.size) none).setIfInBounds 0 (some (rawInt n)) }
theorem marked_at (n : Int) (o : Obj) : ((marked n o).slots[0]? : Option (Option Value)) = some (some (rawInt n)) := by
  show ((o.slots ++ Array.replicate (0 + 1 - o.slots.size) none).setIfInBounds 0 (some (rawInt n)))[0]? = _
  rw [Array.getElem?_setIfInBounds_self]
  rw [if_pos]
  rw [Array.size_append, Array.size_replicate]; omega
theorem GenO.marked0 {g : Nat} {o : Obj} (h1 : o.cls = .type "generator") (h2 : ∃ nm qn, o.data = .fields #[.int g 0, nm, qn]) : GenO g (marked 0 o) :=
  ⟨h1, h2, fun n t e => by rw [marked_at] at e; cases e; rfl⟩
theorem slept_on {a : Addr} {g : Nat} {o : Obj} {Q : Unit → Shared → Prop} (ha : s.heap.get? a = some o) (ho : GenO g o) (h : Q () { s with heap := s.heap.update a (marked 1) }) : wpAny M A (Builtin.Generator.sleptOver (.ref a) true) Q E s := by
  obtain ⟨h1, h2, h3⟩ := ho
  unfold Builtin.Generator.sleptOver
  refine wpAny_bind (wpAny_load ha ?_)
  rw [h1]
  have fin : ∀ n : Int, n = 0 → wpAny M A (setSlotAt a 0 (some (rawInt (if true = true then n + 1 else n - 1)))) Q E s := fun n hn => by
    subst hn
    unfold setSlotAt
    rw [if_neg (by decide)]
    exact wpAny_updatePart ha h
  rcases e : (o.slots[0]? : Option (Option Value)) with _ | (_ | v)
  · exact fin 0 rfl
  · exact fin 0 rfl
  · cases v with
    | int n t => exact fin n (h3 n t e)
    | _ => exact fin 0 rfl
theorem slept_off {a : Addr} {o : Obj} {Q : Unit → Shared → Prop} (ha : s.heap.get? a = some o) (h1 : o.cls = .type "generator") (e : (o.slots[0]? : Option (Option Value)) = some (some (rawInt 1))) (h : Q () { s with heap := s.heap.update a (marked 0) }) : wpAny M A (Builtin.Generator.sleptOver (.ref a) false) Q E s := by
  unfold Builtin.Generator.sleptOver
  refine wpAny_bind (wpAny_load ha ?_)
  rw [h1, e]
  show wpAny M A (setSlotAt a 0 (some (rawInt 0))) Q E s
  unfold setSlotAt
  rw [if_neg (by decide)]
  exact wpAny_updatePart ha h
end

section
variable {P : Program} {w : World} {A : Around} {E : Value → Shared → Prop} {s : Shared} {a : Addr} {o : Obj} {g n : Nat} {gs : GenState} {R : GenEnd} {Y : Protocol}
/-- g.__next__() -/
theorem q_next {Q : Option Value → Shared → Prop} (hh : A.handled = none) (hl : s.heap.NoLimit) (hroom : A.depth < recursionLimit) (ha : s.heap.get? a = some o) (ho : GenO g o) (hgs : s.gens[g]? = some gs)
    (hgo : GoesQ (model P w) A.in1 R Y n gs (.send .none) (s.setGen g .running))
    (hR : ∀ x s₁, R n (s.setGen g .running) x s₁ → (x = .ok (.ret .none) ∨ x = .ok .next) ∧ ∀ e h', StopX e h' → (∀ b o, s₁.heap.get? b = some o → h'.get? b = some o) → E e { s₁.setGen g .finished with heap := h' })
    (hY : ∀ v s₁ gs', (∃ k₀ l₀ c₀ p₀ fs₀ cl, gs' = .suspended k₀ l₀ c₀ p₀ fs₀ cl) → Y (n - 1) (s.setGen g .running) v s₁ (fun r' s₂ => match n with | 0 => False | m + 1 => GoesQ (model P w) A.in1 R Y m gs' r' s₂) → Q (some v) (s₁.setGen g gs')) :
    wqAny (model P w) A (callSpecial? (.ref a) "__next__") Q E s := by
  have hT : s.TypeIs (.ref a) "generator" := ⟨o, ha, ho.1⟩
  simp only [callSpecial?]
  refine qlet (wpAny_specialOf hT slot_gen_next.lookup ?_)
  simp only [slot_gen_next.bind]
  refine qhold (qlet (wpAny_pure (qbind (qcall (codeQ_builtin (plainId_quiet slot_gen_next.plain _) entry_gen_next (slot_gen_next.check _ _ _ _ _ _ _ _ hT (args_gen_next _) ?_))))))
  rw [Around.under_plainId slot_gen_next.plain _]
  show wqAny _ A.in1 (Builtin.Generator.genWake (.ref a) (.send .none)) _ _ s
  unfold Builtin.Generator.genWake
  refine qlet (wpAny_holding (gen_number ha ho (qlet (wpAny_genState hgs ?_))))
  have stop : ∀ (s₁ : Shared) (E' : Value → Shared → Prop), (∀ e h', StopX e h' → (∀ b o, s₁.heap.get? b = some o → h'.get? b = some o) → E' e { s₁ with heap := h' }) → ∀ (k : PUnit → Sem PySem.Fin) (Z : PySem.Fin → Shared → Prop),
      wqAny (model P w) A.in1 (newExc (.type "StopIteration") [] >>= fun e => raiseNew e >>= k) Z E' s₁ := fun s₁ E' hE k Z => by
    refine qof (wpAny_bind ?_)
    simp only [newExc, newTuple]
    refine wpAny_bind (wpAny_newObj_type ?_ (by size_fits))
    refine wpAny_bind (m := firstArgMember _ _) (wpAny_of_eq (a := Value.none) (by first | rfl | (simp only [firstArgMember]; rfl)) ?_)
    refine wpAny_newObj_type ?_ (by size_fits)
    simp only [raiseNew]
    refine wpAny_bind (wpAny_bind (wpAny_handled ?_))
    rw [show A.in1.handled = none from hh]
    refine wpAny_throw (hE _ _ ⟨_, _, _, rfl, Heap.get?_push_size _ rfl, rfl, rfl, ?_⟩ fun b o e => Heap.get?_push_of_some _ (Heap.get?_push_of_some _ e))
    first
      | rfl
      | (rw [Array.getElem?_append_left (by decide)]; rfl)
      | kernel_rfl
  cases gs with
  | running => exact hgo.elim
  | finished => exact hgo.elim
  | _ =>
    refine qlet (wpAny_roomToWake hl hroom ?_)
    show wqAny _ A.in1 (.resume g (.send .none) [] _) _ _ s
    refine q_resume hgs hgo (fun x s₁ hx => ?_) fun v s₁ gs' hs hv => qpure (qpure (hY v s₁ gs' hs hv))
    obtain ⟨hr, hE⟩ := hR x s₁ hx
    have hres : End.result (.ret x) = .returned .none := by rcases hr with hr | hr <;> rw [hr] <;> rfl
    rw [hres]
    exact stop (s₁.setGen g .finished) _ hE _ _
end
end KG

set_option maxRecDepth 100000
set_option maxHeartbeats 1000000
/-! KGd: what a call of a generator def gives. -/
namespace KG
open PySem PySem.Spec PyProof.Rows GenW L2

/-- the arguments, the heap, how many yields at most, what is wanted of the heap at the end -/
abbrev SpQ := List V → Hp → Nat → (Hp → Prop) → Prop
/-- a run's end -/
def RB (P : Program) (w : World) (outer : List Env) (H : Hp) (sc : Shared) (L : Band) (Q : Hp → Prop) : GenEnd := fun _ s₀ r s => match r with
  | .ok (.ret u) => u = .none ∧ ∃ H', s.os = sc.os ∧ AllBare s.gens ∧ Un (frs outer) (adr L) H H' sc.heap s.heap ∧ HOk P w H' s.heap ∧ (∃ pl, Held s₀.heap L pl ∧ Held s.heap L pl) ∧ (∀ b ∈ adr L, H' b = none) ∧ Q H'
  | _ => False
/-- this band may turn beside a generator that was made between sc and s' -/
structure BandOk (base : Heap) (outer : List Env) (H : Hp) (sc s' : Shared) (a : Addr) (g : Nat) (L : Band) : Prop where
  own : a ∈ adr L
  side : ∀ b ∈ adr L, b = a ∨ s'.heap.objs.size ≤ b ∨ (b < sc.heap.objs.size ∧ H b = none ∧ b ∉ frs outer ∧ base.get? b = none)
def GMadeQ (P : Program) (w : World) (base : Heap) (k : Nat) (outer : List Env) (H : Hp) (sc : Shared) (N : Nat) (Q : Hp → Prop) (u : Value) (s' : Shared) : Prop :=
  ∃ (a : Addr) (g : Nat) (c : Code), u = .ref a ∧ sc.heap.objs.size ≤ a ∧ a < s'.heap.objs.size ∧ (∃ o, s'.heap.get? a = some o ∧ GenO g o) ∧ s'.gens[g]? = some (.fresh c) ∧ sc.gens.size = g ∧ s'.gens.size = g + 1 ∧ s'.os = sc.os ∧ AllBare s'.gens ∧ s'.heap.NoLimit ∧
    (∀ b o, sc.heap.get? b = some o → s'.heap.get? b = some o) ∧ HOk P w H s'.heap ∧
    ∀ (A : Around) (L : Band) (s2 : Shared) (n : Nat), N ≤ n → Room k A → A.frames = some outer → BandOk base outer H sc s' a g L → (∀ b o, b ∉ adr L → s'.heap.get? b = some o → s2.heap.get? b = some o) → (∃ pl, Held s2.heap L pl) → s2.os = sc.os → AllBare s2.gens → g < s2.gens.size →
      SegQ (model P w) A (RB P w outer H sc L Q) (YB sc.os L g) n s2 c ((model P w).den c) [] s2
structure GFnQ (P : Program) (w : World) (K : PySem.W.Frag) (mg : Str → Option Value) (base : Heap) (k : Nat) (f : Addr) (fd : FuncData) (ps : List Str) (sp : SpQ) : Prop where
  len : ∀ vs H N Q, sp vs H N Q → vs.length = ps.length
  run : ∀ (A : Around) (outer : List Env) (s : Shared) (H : Hp) (args : Args) (us : List Value) (vs : List V) (N : Nat) (Q : Hp → Prop), Room k A → Env0 P w K mg base A outer s H → BindsTo s fd args (ps.zip us) → Vals vs us → sp vs H N Q →
    codeAny (model P w) A (.call (.ref f) args) (fun r s' => match r with | .ok (.ret u) => GMadeQ P w base k outer H s N Q u s' | _ => False) s
theorem GFnQ.mono {P : Program} {w : World} {K : PySem.W.Frag} {mg : Str → Option Value} {base : Heap} {j k : Nat} {f : Addr} {fd : FuncData} {ps : List Str} {sp : SpQ} (F : GFnQ P w K mg base j f fd ps sp) (h : j ≤ k) : GFnQ P w K mg base k f fd ps sp :=
  ⟨F.len, fun A outer s H args us vs N Q hr e0 hb r hs => codeAny_mono (F.run A outer s H args us vs N Q (hr.mono h) e0 hb r hs) fun r s' q => by
    match r, q with
    | .ok (.ret u), ⟨a, g, c, h1, h2, h3, h4, h5, h0, h6, h7, h8, h9, h10, h11, run⟩ => exact ⟨a, g, c, h1, h2, h3, h4, h5, h0, h6, h7, h8, h9, h10, h11, fun A L s2 n hn hr => run A L s2 n hn (hr.mono h)⟩⟩

/-- the context of a generator's body -/
def gcx (P : Program) (w : World) (K : PySem.W.Frag) (mg : Str → Option Value) (base : Heap) (N : List Str) (qual : Str) (scope : Scope) (f : Addr) (cd : Value) (A : Around) (outer : List Env) (s : Shared) (H : Hp) (L : Band) : Cx :=
  { cxOf (CX P w) P w K mg base N qual scope f cd A outer s H (fun _ _ _ => False) with ex := adr L, xe := fun _ _ => False }
theorem nox_gcx {P : Program} {w : World} {K : PySem.W.Frag} {mg : Str → Option Value} {base : Heap} {N : List Str} {qual : Str} {scope : Scope} {f : Addr} {cd : Value} {A : Around} {outer : List Env} {s : Shared} {H : Hp} {L : Band} :
    NoX (gcx P w K mg base N qual scope f cd A outer s H L) := fun _ _ h => h
theorem sq_func {prog : Program} {w : World} {A : Around} {R : GenEnd} {Y : Protocol} {n : Nat} {s₀ s : Shared} {fs : List Frame} {env : Env} {body : List Stmt}
    (h : SegQ (model prog w) A R Y n s₀ (.func body env) ((execs body env).wrap (fun f => .pure (.done (.ret (match f with | .ret v => v | _ => .none)))) (fun e => (leaving env e).wrap (fun _ => .raise e) .raise id id) id id) fs s) :
    SegQ (model prog w) A R Y n s₀ (.func body env) ((model prog w).den (.func body env)) fs s := by
  show SegQ _ A R Y n s₀ _ (.point [] fun _ => ((execs body env).onRaise (leaving env)) >>= _) fs s
  refine sq_point ?_
  rw [Sem.onRaise_eq_wrap, Sem.bind_eq_wrap', Sem.wrap_wrap]
  rw [Sem.wrap_congr (execs body env) _ _ (K' := fun f => .pure (.done (.ret (match f with | .ret v => v | _ => .none)))) (H' := fun e => (leaving env e).wrap (fun _ => .raise e) .raise id id) (fun f => by cases f <;> rfl)
    (fun e => by rw [Sem.bind_eq_wrap, Sem.wrap_wrap]; rfl)]
  exact h

/-- the rule: a generator def by its body -/
theorem gfnq_of {P : Program} {w : World} {K : PySem.W.Frag} {mg : Str → Option Value} {base : Heap} {k : Nat} {f : Addr} {name qual : Str} {params : Arguments} {body : List Stmt} {scope : Scope} {dV kV doc pm cdv ct oc : Value} {an od : Option Addr}
    {osl : Array (Option Value)} {N ps : List Str} {sp : SpQ} (lk : K.lookup f = some ⟨oc, od, .func (PySem.W.fnOf name qual params body scope dV kV doc pm an cdv ct), osl⟩) (hcd : PySem.W.codeIn K cdv qual = true) (S : GScope N ps scope)
    (len : ∀ vs H m Q, sp vs H m Q → vs.length = ps.length)
    (hbody : ∀ (A : Around) (outer : List Env) (s : Shared) (H : Hp) (vs : List V) (m n : Nat) (Q : Hp → Prop) (L : Band), Room k (A.deeper (envOfC qual scope s.heap.objs.size f cdv)) → sp vs H m Q → m ≤ n →
      ∃ t, Gqs (gcx P w K mg base N qual scope f cdv A outer s H L) body t ∧ t { nx := fun _ _ H' => Q H', rt := fun _ v H' => v = .non ∧ Q H' } n (start N vs) H) :
    GFnQ P w K mg base (k + 1) f (PySem.W.fnOf name qual params body scope dV kV doc pm an cdv ct) ps sp := by
  refine ⟨len, fun A outer s H args us vs m Q hr e0 hb r hsp => ?_⟩
  have hl := len _ _ _ _ hsp
  have KX : K.In s.heap := e0.mod.kin.keeps fun b o e => (e0.bs b o e).1
  have lim : s.heap.NoLimit := e0.mod.nolimit.keeps fun b o e => (e0.bs b o e).1
  have hkind : ∀ y ∈ ps.zip us, scope.names.lookup y.1 = some .local ∨ (scope.names.lookup y.1 = some .cell ∧ ((cellsFrom (s.heap.objs.size + 1) scope.names []).lookup y.1).isSome = true) := fun ⟨n, v⟩ hy =>
    (S.par n (List.of_mem_zip hy).1).imp id fun q => ⟨q, PySem.W.cellsFrom_some _ _ _ (.inl q)⟩
  refine codeAny_call_generator hr.depth (KX _ _ lk) rfl S.co S.gen rfl (PySem.W.codeRec_of KX hcd) (hb _ _ _ _ ?_)
  refine wpAny_newFunctionEnv_cells S.kind hkind fun env he s1 x => ?_
  subst he
  have lim1 : s1.heap.NoLimit := lim.keeps x.toInCall.keep
  refine ⟨lim1, ?_⟩
  obtain ⟨h1, tk, es1, hk1⟩ := x.done
  have os1 : s1.os = s.os := by rw [es1]
  have gen1 : s1.gens = s.gens := by rw [es1]
  have lt1 : s.heap.objs.size < s1.heap.objs.size := x.toInCall.ns.lt
  have sz1 : s.heap.objs.size ≤ s1.heap.objs.size := Nat.le_of_lt lt1
  have kp1 : ∀ b o, s.heap.get? b = some o → s1.heap.get? b = some o := x.toInCall.keep
  have main : ∀ (go : Obj) (nm qn : Value) (tk2 : Nat), go.cls = .type "generator" → go.data = .fields #[.int s1.gens.size 0, nm, qn] → go.slots = #[] → (∀ h : Heap, (h.push go).get? h.objs.size = some go) →
      GMadeQ P w base (k + 1) outer H s m Q (.ref s1.heap.objs.size) { s1 with gens := s1.gens.push (.fresh (.func body (envOfC qual scope s.heap.objs.size f cdv))), toks := tk2, heap := s1.heap.push go } := by
    intro go nm qn tk2 hgc hgd0 hgs hgp
    have gO : GenO s1.gens.size go := ⟨hgc, ⟨nm, qn, hgd0⟩, fun n t e => by rw [hgs] at e; simp at e⟩
    have hpushed : (s1.heap.push go).get? s1.heap.objs.size = some go := hgp _
    have I1w : ∀ {Aw : Around}, Aw.handled = none → Aw.frames = some outer → Inv (gcxOf P w K mg base N qual scope f cdv Aw outer s H (fun _ _ _ => False) []) [] (start N vs) H s1 := fun {Aw} hd hfr =>
      inv_startG S hd ⟨hfr, e0.mod, e0.bs, e0.bsz, e0.funs, e0.frf, e0.hok, e0.bare⟩ hl r x
    have hok1 : HOk P w H s1.heap := e0.hok.kept kp1
    refine ⟨s1.heap.objs.size, s1.gens.size, _, rfl, sz1, ?_, ⟨go, hpushed, gO⟩, Array.getElem?_push_size .., by rw [gen1], Array.size_push .., os1, ?_, lim1.keeps fun b o e => Heap.get?_push_of_some _ e, fun b o e => Heap.get?_push_of_some _ (kp1 b o e),
      hok1.kept fun b o e => Heap.get?_push_of_some _ e, ?_⟩
    · show _ < (s1.heap.push _).objs.size
      rw [Heap.size_push]; exact Nat.lt_succ_self _
    · exact AllBare.push (by rw [gen1]; exact e0.bare) rfl
    intro Aw L s2 n hmn hrw hfr hB hk2 ⟨pl, hpl⟩ hos hba hgz
    obtain ⟨t, ht, hq⟩ := hbody Aw outer s H vs m n Q L (hrw.deeper _) hsp hmn
    have I1 := I1w hrw.hd hfr
    -- where the band lies
    have side : ∀ b ∈ adr L, b ≠ s.heap.objs.size ∧ (∀ y c, (cellsFrom (s.heap.objs.size + 1) scope.names []).lookup y = some c → c ≠ b) ∧ b ∉ frs outer ∧ H b = none ∧ ∀ o, base.get? b ≠ some o := fun b hb => by
      have young : ∀ b, s1.heap.objs.size ≤ b → b ≠ s.heap.objs.size ∧ (∀ y c, (cellsFrom (s.heap.objs.size + 1) scope.names []).lookup y = some c → c ≠ b) ∧ b ∉ frs outer ∧ H b = none ∧ ∀ o, base.get? b ≠ some o := fun b hb => by
        refine ⟨Nat.ne_of_gt (Nat.lt_of_lt_of_le lt1 hb), fun y c e z => ?_, I1.nofs hb, I1.hok.fresh hb, fun o e => ?_⟩
        · obtain ⟨v, ob, ho, _⟩ := I1.cell y c e
          have := Heap.lt_size ho
          rw [z] at this
          exact absurd (Nat.lt_of_lt_of_le this hb) (Nat.lt_irrefl _)
        · exact absurd (Nat.lt_of_lt_of_le (Heap.lt_size (kp1 _ _ (e0.bs b o e).1)) hb) (Nat.lt_irrefl _)
      rcases hB.side b hb with rfl | h | ⟨h1, h2, h3, h4⟩
      · exact young _ (Nat.le_refl _)
      · have h' : (s1.heap.push go).objs.size ≤ b := h
        rw [Heap.size_push] at h'
        exact young b (by omega)
      · refine ⟨Nat.ne_of_lt h1, fun y c e z => ?_, h3, h2, fun o e => by rw [h4] at e; cases e⟩
        have h5 : s.heap.objs.size ≤ c := I1.ok.cab y c rfl e
        rw [z] at h5
        exact absurd (Nat.lt_of_lt_of_le h1 h5) (Nat.lt_irrefl _)
    have I0 : Inv (gcx P w K mg base N qual scope f cdv Aw outer s H L) [] (start N vs) H s1 :=
      ⟨⟨I1.ok.mod, I1.ok.kind, I1.ok.glob, I1.ok.blt, I1.ok.above, I1.ok.inj, I1.ok.has, I1.ok.cab, I1.ok.hd, I1.ok.frames, I1.ok.stk, fun b hb => ⟨(side b hb).1, fun y c e => (side b hb).2.1 y c e⟩, I1.ok.bs, I1.ok.bsz, fun b o e hb => (side b hb).2.2.2.2 o e,
        fun b hb => (side b hb).2.2.1, I1.ok.funs, I1.ok.frf⟩, I1.os, I1.bare, I1.base.mono (fun _ z => z) (fun b z => absurd (show b ∈ ([] : List Addr) from z) (by simp)), I1.loc, I1.cell, I1.free, I1.freeC, I1.pin, I1.hok, I1.len⟩
    have ne : ∀ b u, H b = some u → b ∉ adr L := fun b u e hb => by rw [(side b hb).2.2.2.1] at e; cases e
    have kp2 : ∀ b o, b ∉ adr L → s1.heap.get? b = some o → s2.heap.get? b = some o := fun b o hb e => hk2 b o hb (Heap.get?_push_of_some _ e)
    have hok2 : HOk P w H s2.heap := fun b u e => (hok1 b u e).stay (fun d w' hd q => kp2 d w' (hd.elim (fun y => y ▸ ne b u e) (ne d _)) q) (fun _ q => q) fun _ _ q => q
    have I2 : Inv (gcx P w K mg base N qual scope f cdv Aw outer s H L) [] (start N vs) H s2 :=
      I0.call' (ch := adr L) (hos.trans os1.symm) ⟨fun b o e _ _ hx => kp2 b o hx e, fun b o e _ _ hx => ⟨o.slots, kp2 b o hx e⟩, fun _ _ _ z _ => z, fun b o e hx => ⟨o, kp2 b o hx e⟩, fun _ _ e => e, fun _ _ _ e => e, fun b ps e => ⟨#[], by rw [e]; simp⟩⟩
        hok2 hba fun b hb => ⟨.inl hb, (side b hb).1, (side b hb).2.1, fun p hp => absurd (show p ∈ ([] : List (Addr × Obj)) from hp) (by simp)⟩
    have hG : GJ (gcx P w K mg base N qual scope f cdv Aw outer s H L) L s1.gens.size [] s2 (start N vs) H s2 := by
      refine ⟨hgz, pl, hpl, I2.pins_of fun q hq => ?_⟩
      rw [List.append_nil] at hq
      obtain ⟨q1, q2, q3⟩ := hpl.mem q (by simpa [gcx, cxOf] using hq)
      exact ⟨q1, (side _ q3).2.2.2.1, (side _ q3).1, (side _ q3).2.2.1, q2⟩
    have fin : ∀ {ip : List (Addr × Obj)} {s₀ s' : Shared} {σ' : L2.St} {H' : Hp} (nn : Nat), GJ (gcx P w K mg base N qual scope f cdv Aw outer s H L) L s1.gens.size ip s₀ σ' H' s' → Q H' → RB P w outer H s L Q nn s₀ (.ok (.ret .none)) s' := fun {ip s₀ s' σ' H'} nn hI hQ => by
      have fr := hI.free
      obtain ⟨-, pl, hh, J⟩ := hI
      exact ⟨rfl, H', J.os, J.bare, J.base, J.hok, ⟨pl, hh, hh.keep fun q hq => (J.pin q (List.mem_append_right _ (List.mem_append_left _ hq))).1⟩, fun b hb => (fr b hb).1, hQ⟩
    refine sq_func (ht.go Aw L s1.gens.size [] _ n s2 _ [] _ _ id id s2 (start N vs) H _ ⟨fun q hq => absurd (show q ∈ ([] : List (Addr × Obj)) from hq) (by simp), fun q hq => absurd hq (by simp), fun b hb => .inl hb, fun b hb => (side b hb).1, fun b hb => (side b hb).2.1, over_func, rfl, rfl, rfl⟩
      (fun nn s₀ s' fl hs => ?_) hG hq)
    match fl, hs with
    | .next, ⟨σ', H', hI, hQ⟩ => exact sq_end (.ok (.ret .none)) (fin nn hI hQ)
    | .brk, ⟨_, _, _, q⟩ => exact False.elim q
    | .cont, ⟨_, _, _, q⟩ => exact False.elim q
    | .ret u, ⟨v, σ', H', hI, rv, ev, hQ⟩ =>
      subst ev
      obtain rfl : u = Value.none := rv
      exact sq_end (.ok (.ret .none)) (fin nn hI hQ)
  exact main _ _ _ _ rfl rfl rfl fun h => Heap.get?_push_size _ rfl
end KG

set_option maxRecDepth 100000
set_option maxHeartbeats 2000000
/-! KGy: «yield from» over a generator. -/
namespace KG
open PySem PySem.Spec PyProof.Rows GenW L2

theorem Held.uniq {h : Heap} {L : Band} {pl pl2 : List (Addr × Obj)} (x : Held h L pl) (y : Held h L pl2) : pl = pl2 := by
  induction x generalizing pl2 with
  | nil => cases y; rfl
  | cons e _ _ _ ih =>
    cases y with
    | cons e2 _ _ y =>
      rw [e] at e2; cases e2
      rw [ih y]
theorem Held.inv {h : Heap} {a : Addr} {P : Obj → Prop} {L : Band} {pl : List (Addr × Obj)} (x : Held h ((a, P) :: L) pl) : ∃ o r, pl = (a, o) :: r ∧ h.get? a = some o ∧ P o ∧ Held h L r := by
  cases x with
  | cons e p _ y => exact ⟨_, _, rfl, e, p, y⟩
theorem NoLimit.upd {h : Heap} {a : Addr} {f : Obj → Obj} (x : h.NoLimit) (ha : a ≠ cStatics) : (h.update a f).NoLimit :=
  let ⟨mc, hns, hnn⟩ := x
  ⟨mc, hns.at' fun o e => (Heap.get?_update_other _ _ ha).trans e, hnn⟩
theorem marked_live {g : Nat} {n : Int} {o : Obj} (h : GenO g o) : (marked n o).isFreed = false := by
  obtain ⟨_, ⟨nm, qn, h⟩, _⟩ := h
  exact Obj.isFreed_of_fields (o := marked n o) h
theorem Un.less {fs ex : List Addr} {H H' : Hp} {h h' : Heap} {a : Addr} (u : Un fs (a :: ex) H H' h h') (ha : h.objs.size ≤ a) : Un fs ex H H' h h' := by
  have ne : ∀ {b : Addr} {o : Obj}, h.get? b = some o → b ∉ ex → b ∉ a :: ex := fun {b o} e hx hm => by
    rcases List.mem_cons.mp hm with rfl | hm
    · exact absurd (Nat.lt_of_lt_of_le (Heap.lt_size e) ha) (Nat.lt_irrefl _)
    · exact hx hm
  exact ⟨fun b o e n hf hx => u.keep b o e n hf (ne e hx), fun b o e n hf hx => u.slot b o e n hf (ne e hx), fun b o e n hx => u.free b o e n (ne e hx), fun b o e hx => u.there b o e (ne e hx), u.tups, u.frzs, u.tbls⟩
theorem over_plain {A : Around} {c : Code} {fs : List Frame} {k : Result → Sem PySem.Fin} {g : Bool} {l kp : List Value} {p : Pos} {id : String} {args : Args} (h : plainId id = true) : A.over (.builtin id args) (.ret k none g l c p kp :: fs) = (A.over c fs).in1 := by
  have hw := plainId_weight h args
  have hu := plainId_units h args
  have e2 : A.depth + frameCount ((c, p) :: fs.map Frame.where_) + (Code.builtin id args).weight = A.depth + frameCount (fs.map Frame.where_) + c.weight := by rw [frameCount_cons, hw]; omega
  have e3 : pushEnvs (Code.builtin id args).envs (pushEnvs (envsOf ((c, p) :: fs.map Frame.where_)) A.frames) = pushEnvs c.envs (pushEnvs (envsOf (fs.map Frame.where_)) A.frames) := by
    rw [Code.envs_of_weight hw, envsOf_cons]; simp only [pushEnvs_eq]; cases A.frames <;> simp [List.append_assoc]
  have e4 : pushGuards (Code.builtin id args).guards (pushGuards (guardsOf ((c, p) :: fs.map Frame.where_)) A.guards) = pushGuards c.guards (pushGuards (guardsOf (fs.map Frame.where_)) A.guards) := by
    rw [Code.guards_of_weight hw, guardsOf_cons]; simp only [pushGuards_eq]; cases A.guards <;> simp [List.append_assoc]
  have e5 : A.units + unitsOf ((c, p) :: fs.map Frame.where_) + (Code.builtin id args).cUnits = A.units + unitsOf (fs.map Frame.where_) + c.cUnits + 1 := by rw [unitsOf_cons, hu]; omega
  show (⟨(marksOver fs (A.handled, A.handled)).1, A.depth + frameCount ((c, p) :: fs.map Frame.where_) + (Code.builtin id args).weight, pushEnvs (Code.builtin id args).envs (pushEnvs (envsOf ((c, p) :: fs.map Frame.where_)) A.frames),
    pushGuards (Code.builtin id args).guards (pushGuards (guardsOf ((c, p) :: fs.map Frame.where_)) A.guards), A.units + unitsOf ((c, p) :: fs.map Frame.where_) + (Code.builtin id args).cUnits⟩ : Around) = _
  rw [e2, e3, e4, e5]; rfl
theorem gen_close : typeLookup (.type "generator") "close" = pure (some (.builtin "generator.close")) := by rw [typeLookup_type, builtinLookup_eq_fast]; kernel_rfl
theorem setGen_ne {s : Shared} {g i : Nat} {x : GenState} (h : i ≠ g) : (s.setGen g x).gens[i]? = s.gens[i]? := by
  show (s.gens.setIfInBounds g x)[i]? = _
  rw [Array.getElem?_setIfInBounds_ne (Ne.symm h)]

/-! ### the table of generators only grows -/
theorem stepK_gsz {den : Code → Sem PySem.Fin} {prog : Program} {w : World} {s s' : Shared} {t t' : Thread} (h : stepK den prog w s t = .go s' t') : s.gens.size ≤ s'.gens.size := by
  obtain ⟨heap, gens, drawn, toks, os⟩ := s
  obtain ⟨cur, code, pos, stack⟩ := t
  cases cur with
  | pure fin =>
    cases fin with
    | again c => simp only [stepK, Step.go.injEq] at h; rw [← h.1]; exact Nat.le_refl _
    | done f => simp only [stepK, PySem.step, finish] at h; (repeat' split at h) <;> simp_all <;> (first | (obtain ⟨h, _⟩ := h; subst h; simp) | skip)
  | call c h₀ g l k => simp only [stepK, Step.go.injEq] at h; rw [← h.1]; exact Nat.le_refl _
  | _ => simp only [stepK, PySem.step, finish] at h; (repeat' split at h) <;> simp_all <;> (first | (obtain ⟨h, _⟩ := h; subst h; simp) | skip)
theorem Go.gsz {M : Model} {s t s' t'} (h : Go M s t s' t') : s.gens.size ≤ s'.gens.size := by
  induction h with
  | refl => exact Nat.le_refl _
  | step _ a _ ih => exact Nat.le_trans (stepK_gsz a) ih
theorem wq_gsz {α : Type} {M : Model} {Γ : PySem.Ctx} {n : Nat} {Q : α → Pos → Shared → Prop} {E : Value → Pos → Shared → Prop} (t : Sem α) : ∀ p s, n ≤ s.gens.size → wq M Γ t Q E p s →
    wq M Γ t (fun a p' s' => n ≤ s'.gens.size ∧ Q a p' s') (fun e p' s' => n ≤ s'.gens.size ∧ E e p' s') p s := by
  induction t with
  | pure a => exact fun p s hn h => ⟨hn, h⟩
  | raise e => exact fun p s hn h => ⟨hn, h⟩
  | unsupported | finish | yield | fork | await | register => exact fun _ _ _ h => h
  | rule _ k ih | «at» _ k ih | alloc _ k ih | loadIfAlive _ k ih | point _ k ih | fresh k ih | ask k ih | os _ _ k ih | handled _ k ih | stack k ih | thread k ih => exact fun _ _ hn h => ih _ _ _ hn h
  | newGen c k ih => exact fun p s hn h => ih _ _ _ (by show n ≤ (s.gens.push _).size; rw [Array.size_push]; omega) h
  | load a _ k ih | genState a k ih => exact fun _ _ hn ⟨o, ho, h⟩ => ⟨o, ho, ih _ _ _ hn h⟩
  | update a _ f k ih | choose _ _ k ih => exact fun _ _ hn ⟨ha, h⟩ => ⟨ha, ih _ _ _ hn h⟩
  | call c h g l k ih =>
    intro p s hn h st hf
    obtain ⟨r, s', c', p', hg, hr⟩ := h st hf
    exact ⟨r, s', c', p', hg, ih r p s' (Nat.le_trans hn hg.gsz) hr⟩
  | resume g r l k ih =>
    intro p s hn h st l' k' hf
    obtain ⟨res, s', hg, hr⟩ := h st l' k' hf
    exact ⟨res, s', hg, ih res p s' (Nat.le_trans hn hg.gsz) hr⟩
theorem q_gsz {α : Type} {M : Model} {A : Around} {s : Shared} {t : Sem α} {Q : α → Shared → Prop} {E : Value → Shared → Prop} {n : Nat} (hn : n ≤ s.gens.size) (h : wqAny M A t (fun a s' => n ≤ s'.gens.size → Q a s') (fun e s' => n ≤ s'.gens.size → E e s') s) : wqAny M A t Q E s :=
  fun Γ p hΓ => wq_mono t (fun _ _ _ x => x.2 x.1) (fun _ _ _ x => x.2 x.1) p s (wq_gsz t p s hn (h Γ p hΓ))

section
variable {X : Cx}
/-- the turns of a delegator: the inner generator is a (its number gi, its call at sc), m of its yields are left -/
theorem sq_deleg {L : Band} {g gi : Nat} {ip : List (Addr × Obj)} {A : Around} {R : GenEnd} {c : Code} {fs : List Frame} {gd : Bool → Bool} {kf : Result → Sem PySem.Fin} {lf kp : List Value} {pf : Pos} {a : Addr} {σ : L2.St} {H : Hp} {sc s₁ : Shared} {cont : Hp → Prop} {d : Nat}
    (ga : GatQ X L ip A c fs gd) (hh : X.A.handled = none) (hroom : X.A.depth < recursionLimit) (hsc : GJ X L g ip s₁ σ H sc) (hgg : g < gi) (ha : sc.heap.objs.size ≤ a) (haL : a ∉ adr L)
    (hend : ∀ (n : Nat) (s₀ t : Shared) (H' : Hp), d ≤ n → GJ X L g ip s₀ σ H' t → cont H' → SegQ (model X.prog X.w) A R (YB X.s_0.os L g) n s₀ c (kf (.ok (.ret .none))) fs t) :
    ∀ (m : Nat) (s₀ s : Shared) (gs : GenState), (∃ o, s.heap.get? a = some o ∧ GenO gi o) → s.gens[gi]? = some gs → (∃ pl, Held s₀.heap L pl ∧ Held s.heap L pl) → s.heap.NoLimit → g < s.gens.size →
      GoesQ (model X.prog X.w) X.A.in1.in1 (RB X.prog X.w X.stack H sc ((a, GenO gi) :: L) cont) (YB sc.os ((a, GenO gi) :: L) gi) m gs (.send .none) (s.setGen gi .running) →
      SegQ (model X.prog X.w) A R (YB X.s_0.os L g) (m + d) s₀ (.builtin "proto.yield_from" ⟨[.ref a, .bool false, .none], []⟩) ((model X.prog X.w).den (.builtin "proto.yield_from" ⟨[.ref a, .bool false, .none], []⟩)) (.ret kf none (gd false) lf c pf kp :: fs) s := by
  have hov : A.over (.builtin "proto.yield_from" ⟨[.ref a, .bool false, .none], []⟩) (.ret kf none (gd false) lf c pf kp :: fs) = X.A.in1 := by rw [over_plain plain_yf, ga.arnd]
  have hsp : splitAtGen (.ret kf none (gd false) lf c pf kp :: fs) = none := by show (splitAtGen fs).map _ = none; rw [ga.spl]; rfl
  have hgd : (Frame.ret kf none (gd false) lf c pf kp :: fs).any Frame.guarded = false := by show (gd false || fs.any Frame.guarded) = false; rw [ga.gdF, ga.grd]; rfl
  -- the inner generator's end
  have ended : ∀ (n m : Nat) (s₀ s : Shared) (x : Result) (t : Shared), d ≤ n → (∃ pl, Held s₀.heap L pl ∧ Held s.heap L pl) → RB X.prog X.w X.stack H sc ((a, GenO gi) :: L) cont m (s.setGen gi .running) x t →
      (x = .ok (.ret .none) ∨ x = .ok .next) ∧ ∀ e h', StopX e h' → (∀ b o, t.heap.get? b = some o → h'.get? b = some o) → gi + 1 ≤ t.gens.size →
        ∀ (K : Sem PySem.Fin), (∀ s', (∃ b o vs, e = .ref b ∧ s'.heap.get? b = some o ∧ o.cls = .type "StopIteration" ∧ o.data = .fields vs ∧ vs[5]? = some Value.none) →
            SegQ (model X.prog X.w) A R (YB X.s_0.os L g) n s₀ (.builtin "proto.yield_from" ⟨[.ref a, .bool false, .none], []⟩) (.pure (.done (.ret .none))) (.ret kf none (gd false) lf c pf kp :: fs) s' →
            SegQ (model X.prog X.w) A R (YB X.s_0.os L g) n s₀ (.builtin "proto.yield_from" ⟨[.ref a, .bool false, .none], []⟩) K (.ret kf none (gd false) lf c pf kp :: fs) s') →
          SegQ (model X.prog X.w) A R (YB X.s_0.os L g) n s₀ (.builtin "proto.yield_from" ⟨[.ref a, .bool false, .none], []⟩) K (.ret kf none (gd false) lf c pf kp :: fs) { t.setGen gi .finished with heap := h' } := by
    intro n m s₀ s x t hn ⟨pl, hp0, hps⟩ hx
    match x, hx with
    | .ok (.ret u), ⟨hu, H', hos, hba, un, hok, ⟨pl2, hp2, hp3⟩, hnone, hc⟩ =>
      subst hu
      refine ⟨.inl rfl, fun e h' hS hk hsz K hK => ?_⟩
      obtain ⟨b, o, vs, he, hb, hcl, hda, h5⟩ := hS
      refine hK _ ⟨b, o, vs, he, hb, hcl, hda, h5⟩ (sq_leaf (.ok (.ret .none)) ?_)
      cases hp2 with
      | cons _ _ _ hp2 =>
        cases hp3 with
        | cons _ _ _ hp3 =>
          have e1 := hps.uniq hp2
          subst e1
          have hp4 : Held h' L pl := hp3.keep fun q hq => hk _ _ (hp3.mem q hq).1
          have G := hsc.moved (t := { t.setGen gi .finished with heap := h' }) (H' := H') ga (by show g < (t.setGen gi .finished).gens.size; rw [setGen_size]; omega) (by rw [show ({ t.setGen gi .finished with heap := h' } : Shared).os = t.os from rfl, hos])
            ((Un.less un ha).trans (Un.kept hk)) (hok.kept hk) (allBare_setGen hba rfl) (fun b hb => hnone b (List.mem_cons_of_mem _ hb)) ⟨pl, hp4⟩
          refine hend n s₀ _ H' hn ?_ hc
          obtain ⟨g1, pl5, g2, g3⟩ := G
          have e2 := hp4.uniq g2
          subst e2
          exact ⟨g1, pl, hp0, g3⟩
  have soft : ∀ (s : Shared) (o : Obj), s.heap.get? a = some o → GenO gi o → SoftAt (.builtin "proto.yield_from" ⟨[.ref a, .bool false, .none], []⟩) { s with heap := s.heap.update a (marked 1) } := fun s o ho hO =>
    ⟨a, _, _, marked 1 o, rfl, Heap.get?_update_self _ ho (by obtain ⟨_, ⟨nm, qn, h⟩, _⟩ := hO; exact Obj.isFreed_of_fields (o := marked 1 o) h), by
      obtain ⟨h1, ⟨nm, qn, h2⟩, -⟩ := hO
      show (match o.cls, o.data with | .type "generator", .fields vs | .type "coroutine", .fields vs | .type "async_generator", .fields vs => _ | _, _ => _ : Option Nat).isSome = true
      rw [h1, h2]; rfl⟩
  -- behind the inner generator's StopIteration
  have stops : ∀ (n : Nat) (s₀ s' : Shared) (e : Value) (k : Value → Sem PySem.Fin), (∃ b o vs, e = .ref b ∧ s'.heap.get? b = some o ∧ o.cls = .type "StopIteration" ∧ o.data = .fields vs ∧ vs[5]? = some Value.none) →
      SegQ (model X.prog X.w) A R (YB X.s_0.os L g) n s₀ (.builtin "proto.yield_from" ⟨[.ref a, .bool false, .none], []⟩) (.pure (.done (.ret .none))) (.ret kf none (gd false) lf c pf kp :: fs) s' →
      SegQ (model X.prog X.w) A R (YB X.s_0.os L g) n s₀ (.builtin "proto.yield_from" ⟨[.ref a, .bool false, .none], []⟩) (Builtin.Generator.endsTheTurnAsAValue false e >>= fun b => if b = true then rule "yield-from.value" >>= fun _ => field e 5 >>= fun r => ret r else k e) (.ret kf none (gd false) lf c pf kp :: fs) s' := by
    rintro n s₀ s' e k ⟨b, o, vs, rfl, hb, hcl, hda, h5⟩ hfin
    refine sq_bind (qof (wpAny_endsTurn hb hcl ?_))
    rw [if_pos rfl]
    refine sq_bind (qof (wpAny_rule ?_))
    exact sq_bind (qof (wpAny_field hb hda h5 hfin))
  intro m
  induction m with
  | zero =>
    intro s₀ s gs ⟨oa, hoa, hO⟩ hgs hbd hlim hgz hgo
    have hgi : gi < s.gens.size := (Array.getElem?_eq_some_iff.mp hgs).1
    rw [den_yf]
    unfold Builtin.«proto.yield_from»
    try dsimp only
    refine sq_bind (qof (wpAny_pure ?_))
    try dsimp only
    refine sq_bind (qattempt (qhold ?_))
    rw [if_neg Bool.false_ne_true, if_pos (show (Value.none == Value.none) = true from rfl)]
    refine qlet (wpAny_rule (qbind (q_gsz (n := gi + 1) hgi ?_)))
    rw [hov]
    refine q_next (show X.A.in1.handled = none from hh) hlim hroom hoa hO hgs hgo (fun x t hx => ?_) fun v t gs' hsus hv => ?_
    · obtain ⟨h1, h2⟩ := ended (0 + d) 0 s₀ s x t (by omega) hbd hx
      exact ⟨h1, fun e h' hS hk hz => h2 e h' hS hk (by rw [← setGen_size t gi .finished]; exact hz) _ fun s' hS' hfin => stops _ _ _ e _ hS' hfin⟩
    · obtain ⟨hos, hl2, ⟨pl2, hp2, hp3⟩, hkap⟩ := hv
      exact (hkap t ⟨rfl, rfl, fun _ _ => rfl, fun _ => .inl rfl, fun _ _ _ e => e, fun b o e => ⟨o, e⟩, pl2, hp3⟩).elim
  | succ m ih =>
    intro s₀ s gs ⟨oa, hoa, hO⟩ hgs hbd hlim hgz hgo
    have hgi : gi < s.gens.size := (Array.getElem?_eq_some_iff.mp hgs).1
    rw [den_yf]
    unfold Builtin.«proto.yield_from»
    try dsimp only
    refine sq_bind (qof (wpAny_pure ?_))
    try dsimp only
    refine sq_bind (qattempt (qhold ?_))
    rw [if_neg Bool.false_ne_true, if_pos (show (Value.none == Value.none) = true from rfl)]
    refine qlet (wpAny_rule (qbind (q_gsz (n := gi + 1) hgi ?_)))
    rw [hov]
    refine q_next (show X.A.in1.handled = none from hh) hlim hroom hoa hO hgs hgo (fun x t hx => ?_) fun v t gs' hsus hv => ?_
    · obtain ⟨h1, h2⟩ := ended (m + 1 + d) (m + 1) s₀ s x t (by omega) hbd hx
      exact ⟨h1, fun e h' hS hk hz => h2 e h' hS hk (by rw [← setGen_size t gi .finished]; exact hz) _ fun s' hS' hfin => stops _ _ _ e _ hS' hfin⟩
    · intro hz
      obtain ⟨pl, hp0, hps⟩ := hbd
      obtain ⟨hos, hl2, ⟨pl2, hp2, hp3⟩, hkap⟩ := hv
      obtain ⟨o2, plr, rfl, e2, hO2, hp3⟩ := hp3.inv
      obtain ⟨o3, plr3, e3, -, -, hp2⟩ := hp2.inv
      obtain ⟨rfl, rfl⟩ : o2 = o3 ∧ plr = plr3 := by cases e3; exact ⟨rfl, rfl⟩
      have e1 := hps.uniq hp2
      subst e1
      refine qpure ?_
      have hzt : gi < t.gens.size := by rw [← setGen_size t gi gs']; exact hz
      refine sq_bind (qof (wpAny_typeOf (T := "generator") ⟨o2, e2, hO2.1⟩ ?_))
      try dsimp only
      refine sq_bind (qof (wpAny_of_eq gen_close ?_))
      refine sq_bind (qof (wpAny_pure ?_))
      refine sq_bind (qof (slept_on (s := t.setGen gi gs') e2 hO2 ?_))
      have hI : X.s_0.os = sc.os := let ⟨_, _, _, I⟩ := hsc; I.os.symm
      have hst : a ≠ cStatics := by
        obtain ⟨_, _, _, I⟩ := hsc
        obtain ⟨_, hn, _⟩ := I.nolimit
        exact Nat.ne_of_gt (Nat.lt_of_lt_of_le hn.lt ha)
      have hne : ∀ q ∈ pl, q.1 ≠ a := fun q hq z => haL (z ▸ (hp3.mem q hq).2.2)
      rw [Nat.add_right_comm]
      refine sq_yield hsp (.inr (soft (t.setGen gi gs') o2 e2 hO2)) hgd ⟨hos.trans hI.symm, NoLimit.upd hl2 hst, ⟨pl, hp0, hp3.keep fun q hq => (Heap.get?_update_other _ _ (Ne.symm (hne q hq))).trans (hp3.mem q hq).1⟩, fun t2 z => ?_⟩
      show SegQ _ _ _ _ (m + d) t2 _ (Builtin.Generator.sleptOver (.ref a) false >>= fun _ => _) _ t2
      have e5 : (t.setGen gi gs').heap.get? a = some o2 := e2
      have ea : t2.heap.get? a = some (marked 1 o2) := z.keep a haL _ (Heap.get?_update_self _ e5 (marked_live hO2))
      refine sq_bind (qof (slept_off ea hO2.1 (marked_at 1 o2) ?_))
      try dsimp only
      refine sq_bind (qof (wpAny_pure ?_))
      have live0 : (marked 0 (marked 1 o2)).isFreed = false := by
        obtain ⟨_, ⟨nm, qn, h⟩, _⟩ := hO2
        exact Obj.isFreed_of_fields (o := marked 0 (marked 1 o2)) h
      have ea0 : (t2.heap.update a (marked 0)).get? a = some (marked 0 (marked 1 o2)) := Heap.get?_update_self _ ea live0
      have gO0 : GenO gi (marked 0 (marked 1 o2)) := GenO.marked0 hO2.1 hO2.2.1
      have oth : ∀ b, b ≠ a → (t2.heap.update a (marked 0)).get? b = t2.heap.get? b := fun b hb => Heap.get?_update_other _ _ (Ne.symm hb)
      have hgs2 : t2.gens[gi]? = some gs' := by rw [z.above gi hgg]; exact setGen_at hzt
      obtain ⟨pl6, hp6⟩ := z.band
      have hp7 : Held (t2.heap.update a (marked 0)) L pl6 := hp6.keep fun q hq => (oth _ fun w => haL (w ▸ (hp6.mem q hq).2.2)).trans (hp6.mem q hq).1
      have hgsz : t2.gens.size = t.gens.size := by rw [z.size]; exact setGen_size _ _ _
      refine sq_again (plainId_quiet plain_yf _) (ih t2 { t2 with heap := t2.heap.update a (marked 0) } gs' ⟨_, ea0, gO0⟩ hgs2 ⟨pl6, hp6, hp7⟩ ?_ (by show g < t2.gens.size; rw [hgsz]; omega) ?_)
      · have hcs : cStatics ∉ adr L := fun w => by
          obtain ⟨_, _, _, I⟩ := hsc
          obtain ⟨mc, hns, _⟩ := I.ok.mod.nolimit
          obtain ⟨ob, _, _, hob, _⟩ := id hns
          rcases ga.mine _ w with y | y
          · exact I.ok.noex _ ob hob y
          · exact absurd (Nat.lt_of_lt_of_le (Nat.lt_of_lt_of_le hns.lt I.ok.bsz) y) (Nat.lt_irrefl _)
        obtain ⟨mc, hns, hnn⟩ := hl2
        exact ⟨mc, hns.at' fun o e => (oth _ hst.symm).trans (z.keep _ hcs o ((Heap.get?_update_other _ _ hst).trans e)), hnn⟩
      · refine hkap _ ⟨z.os, ?_, fun i hi => ?_, fun i => ?_, fun b hb o e => ?_, fun b o e => ?_, ?_⟩
        · show (({ t2 with heap := t2.heap.update a (marked 0) } : Shared).setGen gi .running).gens.size = t.gens.size
          rw [setGen_size]; exact hgsz
        · rw [setGen_ne (Nat.ne_of_gt hi)]
          show t2.gens[i]? = _
          rw [z.above i (Nat.lt_trans hgg hi)]
          exact setGen_ne (Nat.ne_of_gt hi)
        · by_cases h : i = gi
          · subst h
            exact .inr (setGen_at (by show i < t2.gens.size; rw [hgsz]; exact hzt))
          · rw [setGen_ne h]
            rcases z.below i with q | q
            · refine .inl ?_
              show t2.gens[i]? = _
              rw [q]; exact setGen_ne h
            · exact .inr q
        · have hba : b ≠ a := fun w => hb (w ▸ List.mem_cons_self)
          show (t2.heap.update a (marked 0)).get? b = some o
          rw [oth b hba]
          exact z.keep b (fun w => hb (List.mem_cons_of_mem _ w)) o ((Heap.get?_update_other _ _ (Ne.symm hba)).trans e)
        · by_cases hba : b = a
          · subst hba; exact ⟨_, ea0⟩
          · obtain ⟨o', e'⟩ := z.there b o ((Heap.get?_update_other _ _ (Ne.symm hba)).trans e)
            exact ⟨o', (oth b hba).trans e'⟩
        · exact ⟨(a, _) :: pl6, .cons ea0 gO0 gO0.nocell hp7⟩
end
end KG

set_option maxRecDepth 100000
set_option maxHeartbeats 2000000
/-! KGz: «yield from f(..)», list(f(..)). -/
namespace KG
open PySem PySem.Spec PyProof.Rows GenW L2

/-- an expression whose value is a generator that has not begun -/
abbrev TGq := L2.St → Hp → Nat → (Hp → Prop) → Prop
structure PGenQ (X : Cx) (k : Nat) (e : Expr) (tg : TGq) : Prop where
  run : ∀ (pins : List (Addr × Obj)) (s : Shared) (σ : L2.St) (H : Hp) (N : Nat) (cont : Hp → Prop), Inv X pins σ H s → tg σ H N cont → wpAny (model X.prog X.w) X.A (eval e X.env)
    (fun u s' => ∃ H1 sc, s.gens.size ≤ sc.gens.size ∧ Inv X pins σ H1 sc ∧ GMadeQ X.prog X.w X.base k X.stack H1 sc N cont u s') X.xe s
def tgCall (sp : SpQ) (dvs : List V) (t : TA) : TGq := fun σ H N cont => t σ H fun vs H1 => sp (vs ++ dvs) H1 N cont
section
variable {X : Cx} {k : Nat} {f : Addr} {fd : FuncData} {ps : List Str} {sp : SpQ} {dvs : List V} {ds : List Value} {x : Str} {p pos yp : Pos} {e : Expr} {es : List Expr} {t : TA}
theorem pgq_call (F : GFnQ X.prog X.w X.K X.mg X.base k f fd ps sp) (hr : Room k X.A) (hg : Gl X x) (hm : X.mg x = some (.ref f)) (hk : PySem.W.keepIn X.K (.ref f) = true) (hb : Binds X.K fd ps ds) (hd : Vals dvs ds)
    (ha : PA X (e :: es) t) (hdb : (x == ("__debug__" : Str)) = false := by decide) (he : starEach (e :: es) X.env = (false, eval e X.env) :: starEach es X.env := by rfl) (hpl : (backTo pos (starEach es X.env)).any (·.1) = false := by rfl) :
    PGenQ X k (.Call (.Name x p) (e :: es) [] pos) (tgCall sp dvs t) := by
  refine ⟨fun pins s σ H N cont I h => ?_⟩
  refine wpAny_Call_Name_kw (ld_glob I hg hm ?_ hdb)
  refine PySem.W.callWith_K (h₀ := X.base) I.ok.mod.kin hk (wpAny_gsz (n := s.gens.size) (Nat.le_refl _) (wpAny_mono (ha.run pos pins s σ H _ I h) (fun us s1 ⟨vs, H1, I1, r, q⟩ hz => ⟨I1.kIn, ?_⟩) fun _ _ z _ => z)) he hpl
  have r2 : Vals (vs ++ dvs) (us ++ ds) := r.append hd
  have hl2 : (us ++ ds).length = ps.length := by rw [← r2.length]; exact F.len _ _ _ _ q
  refine wpAny_call (codeAny_mono (F.run X.A X.stack s1 H1 ⟨us, []⟩ (us ++ ds) (vs ++ dvs) N cont hr I1.env0 (hb s1 us I1.kIn hl2) r2 q) fun r s' hq => ?_)
  match r, hq with
  | .ok (.ret u), hq => exact ⟨H1, s1, hz, I1, hq⟩

def tqFrom (tg : TGq) : TQ := fun D n σ H => ∃ N, N ≤ n ∧ tg σ H N fun H' => ∀ n', n - N ≤ n' → D.nx n' σ H'
theorem pyIter_gen {P : Program} {w : World} {A : Around} {E : Value → Shared → Prop} {s : Shared} {a : Addr} {Q : Value → Shared → Prop} (hT : s.TypeIs (.ref a) "generator") (h : Q (.ref a) s) : wpAny (model P w) A (pyIter (.ref a)) Q E s := by
  refine wpAny_pyIter_slot hT slot_gen_iter (wpAny_call_entry slot_gen_iter hT entry_gen_iter ?_ (args_gen_iter _))
  show wpAny _ _ (ret (.ref a)) _ _ s
  exact wpAny_pure ⟨_, rfl, "generator", _, hT, slot_gen_next.lookup, h⟩
theorem gq_from (hno : NoX X) {tg : TGq} (he : PGenQ X k e tg) (hr : Room (k + 1) X.A) (hi : interactive X.env = false := by rfl) : Gq X (.Expr (.YieldFrom e yp) pos) (tqFrom tg) := ⟨fun A L g ip R n s₀ c fs K J gd lv s σ H D ga kk hI ht => by
  obtain ⟨N, hNn, ht⟩ := ht
  rw [exec_Expr X.env _ pos hi rfl]
  show SegQ _ _ _ _ n s₀ c (.at pos fun _ => ((eval e X.env >>= fun v => (standAt yp >>= fun _ => yieldFrom X.env v)) >>= fun x => dropValue (.YieldFrom e yp) pos x).wrap K J gd lv) fs s
  refine sq_at ?_
  obtain ⟨hgz, pl, hh, I⟩ := hI
  rw [Sem.bind_eq_wrap' (eval e X.env >>= fun v => (standAt yp >>= fun _ => yieldFrom X.env v)) (fun x => dropValue (.YieldFrom e yp) pos x), Sem.wrap_wrap]
  refine sq_bindw (qof ?_)
  rw [ga.arnd]
  refine wpAny_mono (he.run _ s σ H N _ I ht) (fun u s' hu => ?_) fun x t hx => (hno x t hx).elim
  obtain ⟨H1, sc, hz1, I1, a, gi, cc, rfl, ha1, ha2, ⟨go, hgo, gO⟩, hfr, hgi, hsz, hos, hba, hlim, hkp, hok, run⟩ := hu
  have hT : s'.TypeIs (.ref a) "generator" := ⟨go, hgo, gO.1⟩
  refine sq_at ?_
  show SegQ _ _ _ _ n s₀ c ((yieldFrom X.env (.ref a)).wrap (fun b => (dropValue (.YieldFrom e yp) pos b).wrap K J gd lv) J gd lv) fs s'
  unfold yieldFrom
  refine sq_bindw (qof (wpAny_typeOf hT ?_))
  rw [if_neg (show ¬ ((Value.type "generator" == Value.type "coroutine") = true) from by decide)]
  refine sq_bindw (qof (wpAny_holding (pyIter_gen hT ?_)))
  refine sq_call fun p => ?_
  have hgc : g < sc.gens.size := Nat.lt_of_lt_of_le hgz hz1
  have hsc : GJ X L g ip s₀ σ H1 sc := ⟨hgc, pl, hh, I1⟩
  have pinned : ∀ b ∈ adr L, ∃ o, (b, o) ∈ pl ∧ sc.heap.get? b = some o := fun b hb => by
    obtain ⟨o, ho⟩ := hh.has b hb
    exact ⟨o, ho, (I1.pin (b, o) (List.mem_append_right _ (List.mem_append_left _ ho))).1⟩
  have haL : a ∉ adr L := fun w => by
    obtain ⟨o, _, ho⟩ := pinned a w
    exact absurd (Nat.lt_of_lt_of_le (Heap.lt_size ho) ha1) (Nat.lt_irrefl _)
  have hpl' : Held s'.heap L pl := hh.keep fun q hq => hkp _ _ (I1.pin q (List.mem_append_right _ (List.mem_append_left _ hq))).1
  obtain ⟨d, rfl⟩ : ∃ d, n = N + d := ⟨n - N, by omega⟩
  refine sq_deleg (gi := gi) (d := d) (sc := sc) (s₁ := s₀) (H := H1) (a := a) (cont := fun H' => ∀ n', N + d - N ≤ n' → D.nx n' σ H') ga hr.hd (by have := hr.dp; omega) hsc (by rw [← hgi]; exact hgc) ha1 haL (fun n' s₀' t H' hd hG hc => ?_) N s₀ s' (.fresh cc) ⟨go, hgo, gO⟩ hfr ⟨pl, hh, hpl'⟩ hlim (by rw [hsz, ← hgi]; omega) ⟨rfl, ?_⟩
  · exact kk n' s₀' t .next ⟨σ, H', hG, hc n' (by omega)⟩
  · refine run X.A.in1.in1 ((a, GenO gi) :: L) (s'.setGen gi .running) N (Nat.le_refl _) ⟨hr.hd, by have := hr.dp; show X.A.depth + 3 * k + 5 < _; omega, by have := hr.un; show X.A.units + 1 + 1 + 16 * k + 200 < _; omega⟩ I1.ok.frames ⟨List.mem_cons_self, fun b hb => ?_⟩ (fun b o _ e => e) ⟨(a, go) :: pl, .cons hgo gO gO.nocell hpl'⟩ hos (allBare_setGen hba rfl)
      (by rw [setGen_size, hsz]; omega)
    rcases List.mem_cons.mp hb with rfl | hb
    · exact .inl rfl
    · obtain ⟨o, ho, e1⟩ := pinned b hb
      obtain ⟨_, p2, p3, p4, _⟩ := I1.pin (b, o) (List.mem_append_right _ (List.mem_append_left _ ho))
      refine .inr (.inr ⟨Heap.lt_size e1, p2, fun w => (List.mem_cons.mp (I1.stkSub b w)).elim p3 p4, ?_⟩)
      cases eb : X.base.get? b with
      | none => rfl
      | some ob =>
        rcases ga.mine b hb with y | y
        · exact absurd y (I1.ok.noex b ob eb)
        · exact absurd (Nat.lt_of_lt_of_le (Nat.lt_of_lt_of_le (Heap.lt_size eb) I1.ok.bsz) y) (Nat.lt_irrefl _)⟩
end
end KG

set_option maxRecDepth 100000
set_option maxHeartbeats 2000000
/-! KLst: list(g), g a generator whose yields may be soft. -/
namespace KG
open PySem PySem.Spec PyProof.Rows GenW L2

section
variable {P : Program} {w : World} {A : Around} {E : Value → Shared → Prop} {s : Shared}
theorem codeQ_entry {R : Result → Shared → Prop} {id : String} {args : Args} {b : Builtin} (hb : entryFor table id = some b)
    (h : wqAny (model P w) (A.under (.builtin id args)) (b args) (fun fin s' => match fin with | .done f => R (.ok f) s' | .again c₁ => c₁.quiet = true ∧ codeQ (model P w) A c₁ R s') (fun e s' => R (.error e) s') s) : codeQ (model P w) A (.builtin id args) R s := by
  refine codeQ_tree ?_
  show wqAny _ _ (match entryFor table id with | some b => b args | none => unsupported ((withoutEnding? id "#data").getD id)) _ _ s
  rw [hb]; exact h

/-- list(u): the new list, then its __init__ -/
theorem q_list {u : Value} {Q : Value → Shared → Prop}
    (h : wqAny (model P w) A.in1.in1 (Builtin.«list.__init__» ⟨[.ref s.heap.objs.size, u], []⟩) (fun fin s' => match fin with
      | .done f => (∃ r, f = .ret r ∧ r = .none ∧ Q (.ref s.heap.objs.size) s')
      | .again c₁ => c₁.quiet = true ∧ codeQ (model P w) A.in1 c₁ (fun r s' => match r with | .ok (.ret r) => r = .none ∧ Q (.ref s.heap.objs.size) s' | .ok _ => False | .error e => E e s') s') E { s with heap := s.heap.push { cls := .type "list", data := .seq #[] } }) :
    wqAny (model P w) A (call (.type "list") [u]) Q E s := by
  have ft := F.called_list
  obtain ⟨c, tl, hmro⟩ := ft.mro
  have hmade := ft.made
  have hsub := ft.sub
  refine qcall (codeQ_tree (qof ?_))
  show wpAny _ _ (callAny (.type "list") _) _ _ _
  refine wpAny_pure ⟨Code.quiet_builtin _ (by decide +kernel), codeQ_entry F.entry_type_call ?_⟩
  rw [Around.under_plain (weight_type_call_type "list" [u] []) rfl]
  have h1 := ft.notType
  have h2 := ft.canCreate
  unfold Builtin.«type.__call__»
  have hct := F.typeCall_list_1 u
  have e1 : (Value.type "list" == Value.type "type") = false := by decide
  dsimp only
  rw [if_neg (show ¬ ((Value.type "list" == Value.type "type") = true) from by rw [e1]; exact Bool.false_ne_true)]
  rw [h2, hct]
  rw [if_neg Bool.false_ne_true]
  refine qlet (wpAny_pure (qlet (wpAny_of_eq hmro ?_)))
  rw [if_neg (show ¬ ((c :: tl).isEmpty = true) from Bool.false_ne_true)]
  refine qlet (wpAny_of_eq hmade ?_)
  dsimp only
  refine qlet (wpAny_pure (qlet (wpAny_holding (wpAny_call (codeAny_mono (code_list_new (A := A.in1) (E := E) u (Q₁ := fun obj s₁ => obj = .ref s.heap.objs.size ∧ s₁ = { s with heap := s.heap.push { cls := .type "list", data := .seq #[] } }) ⟨rfl, rfl⟩) fun r s₁ hr => ?_)))))
  have fin : ∀ (r : Value) (s' : Shared), r = .none → Q (.ref s.heap.objs.size) s' → wqAny (model P w) A.in1 (match some r with
      | none => ret (.ref s.heap.objs.size)
      | some r => (if (r != Value.none) = true then do
          rule "type.call.init-returned-value"
          let n ← typeNameOf r
          let _ ← (raiseErrorMade "TypeError" (toString "__init__() should return None, not '" ++ toString n ++ toString "'") : Sem PUnit)
          ret (.ref s.heap.objs.size)
        else ret (.ref s.heap.objs.size) : Sem PySem.Fin)) (fun fin s' => match fin with
        | .done f => (match (Except.ok f : Result) with | .ok (.ret v) => Q v s' | .ok _ => False | .error e => E e s')
        | .again c₁ => c₁.quiet = true ∧ codeQ (model P w) A c₁ (fun r s' => match r with | .ok (.ret v) => Q v s' | .ok _ => False | .error e => E e s') s') (fun e s' => E e s') s' := by
    rintro r s' rfl hq
    exact qpure hq
  match r, hr with
  | .error e, hr => exact hr
  | .ok (.ret v), hr =>
    obtain ⟨rfl, rfl⟩ := (show v = .ref s.heap.objs.size ∧ s₁ = _ from hr)
    have hT : Shared.TypeIs { s with heap := s.heap.push { cls := .type "list", data := .seq #[] } } (.ref s.heap.objs.size) "list" := ⟨_, Heap.get?_push_size _ rfl, rfl⟩
    show wqAny _ _ _ _ _ _
    refine qlet (wpAny_isInstance (T := "list") (b := true) hT sub_list_self ?_)
    rw [if_neg (show ¬ ((!true) = true) from Bool.false_ne_true)]
    refine qbind (qhold ?_)
    simp only [callSpecial?]
    refine qlet (wpAny_specialOf hT ft.init.lookup ?_)
    simp only [ft.init.bind]
    refine qhold (qlet (wpAny_pure (qbind (qcall (codeQ_builtin (plainId_quiet ft.init.plain _) F.entry_list_init (ft.init.check _ _ _ _ _ _ _ _ hT (F.args_list_init_2 _ _) ?_))))))
    rw [Around.under_plainId ft.init.plain _]
    refine qthn h fun fi s' hf => ?_
    match fi, hf with
    | .done _, ⟨r, rfl, hr, hq⟩ => exact qpure (fin r s' hr hq)
    | .again c₁, ⟨hq, hc⟩ =>
      refine ⟨hq, hc.mono fun r s' z => ?_⟩
      match r, z with
      | .ok (.ret r), ⟨hr, hq⟩ => exact qpure (fin r s' hr hq)
      | .error e, z => exact z
end

def LstO (o : Obj) : Prop := ∃ acc c, o = lstObj acc c
/-- the list's loop takes all that the generator hands out -/
theorem drainQ {P : Program} {w : World} {outer : List Env} {H : Hp} {sc : Shared} {Q : Hp → Prop} {A : Around} {R : Result → Shared → Prop} {S a : Addr} {g : Nat} (hh : A.handled = none) (hd : A.depth < recursionLimit) (hSa : S ≠ a) (hSc : S ≠ cStatics)
    (hend : ∀ s' H', s'.os = sc.os → AllBare s'.gens → Un (frs outer) (adr [(S, LstO), (a, GenO g)]) H H' sc.heap s'.heap → HOk P w H' s'.heap → (∀ b ∈ adr [(S, LstO), (a, GenO g)], H' b = none) → Q H' → R (.ok (.ret .none)) s') :
    ∀ (n : Nat) (s : Shared) (acc : Array Value) (c : Nat) (gs : GenState), s.heap.get? S = some (lstObj acc c) → acc.size + n ≤ sizeLine → (∃ o, s.heap.get? a = some o ∧ GenO g o) → s.gens[g]? = some gs → s.heap.NoLimit →
      GoesQ (model P w) A.in1.in1 (RB P w outer H sc [(S, LstO), (a, GenO g)] Q) (YB sc.os [(S, LstO), (a, GenO g)] g) n gs (.send .none) (s.setGen g .running) →
      codeQ (model P w) A (.builtin "list.extend.loop" ⟨[.ref S, .ref a, .none], []⟩) R s := by
  have ended : ∀ (n : Nat) (s₀ t : Shared) (x : Result), RB P w outer H sc [(S, LstO), (a, GenO g)] Q n s₀ x t → (x = .ok (.ret .none) ∨ x = .ok .next) ∧ ∀ e h', StopX e h' → (∀ b o, t.heap.get? b = some o → h'.get? b = some o) →
      ∀ B : Around, wqAny (model P w) B (isInstance e (.type "StopIteration") >>= fun b => if b = true then (pure none : Sem (Option Value)) else throw e) (fun r s' => r = none ∧ R (.ok (.ret .none)) s') (fun _ _ => False) { t.setGen g .finished with heap := h' } := by
    intro n s₀ t x hx
    match x, hx with
    | .ok (.ret u), ⟨hu, H', hos, hba, un, hok, _, hnone, hc⟩ =>
      subst hu
      refine ⟨.inl rfl, fun e h' hS hk B => ?_⟩
      obtain ⟨b, o, vs, rfl, hb, hcl, hda, h5⟩ := hS
      refine qlet (wpAny_isInstance (T := "StopIteration") (b := true) ⟨o, hb, hcl⟩ isSubtype_stop ?_)
      rw [if_pos rfl]
      exact qpure ⟨rfl, hend _ H' hos (allBare_setGen hba rfl) (un.trans (Un.kept hk)) (hok.kept hk) hnone hc⟩
  intro n
  induction n with
  | zero =>
    intro s acc c gs hS hsz ⟨oa, hoa, hO⟩ hgs hlim hgo
    refine codeQ_entry F.entry_extend_loop ?_
    rw [Around.under_plainId F.plain_extend_loop _]
    show wqAny _ A.in1 (pyNext (.ref a) >>= _) _ _ s
    unfold pyNext
    refine qbind (qbind (qattempt (q_next (A := A.in1) hh hlim hd hoa hO hgs hgo (fun x t hx => ?_) fun v t gs' hsus hv => ?_)))
    · obtain ⟨h1, h2⟩ := ended 0 _ t x hx
      exact ⟨h1, fun e h' hS hk => qmono (h2 e h' hS hk A.in1) (fun r s' ⟨hr, hR⟩ => by subst hr; exact qpure hR) fun _ _ z => z.elim⟩
    · obtain ⟨hos, hl2, ⟨pl2, hp2, hp3⟩, hkap⟩ := hv
      exact (hkap t ⟨rfl, rfl, fun _ _ => rfl, fun _ => .inl rfl, fun _ _ _ e => e, fun b o e => ⟨o, e⟩, pl2, hp3⟩).elim
  | succ n ih =>
    intro s acc c gs hS hsz ⟨oa, hoa, hO⟩ hgs hlim hgo
    have hgl : g < s.gens.size := (Array.getElem?_eq_some_iff.mp hgs).1
    refine codeQ_entry F.entry_extend_loop ?_
    rw [Around.under_plainId F.plain_extend_loop _]
    show wqAny _ A.in1 (pyNext (.ref a) >>= _) _ _ s
    unfold pyNext
    refine qbind (qbind (qattempt (q_gsz (n := g + 1) hgl (q_next (A := A.in1) hh hlim hd hoa hO hgs hgo (fun x t hx => ?_) fun v t gs' hsus hv => ?_))))
    · obtain ⟨h1, h2⟩ := ended (n + 1) _ t x hx
      exact ⟨h1, fun e h' hS hk _ => qmono (h2 e h' hS hk A.in1) (fun r s' ⟨hr, hR⟩ => by subst hr; exact qpure hR) fun _ _ z => z.elim⟩
    · intro hz
      have hzt : g < t.gens.size := by rw [← setGen_size t g gs']; exact hz
      obtain ⟨hos, hl2, ⟨pl2, hp2, hp3⟩, hkap⟩ := hv
      obtain ⟨oS, plr, rfl, eS, -, hp3⟩ := hp3.inv
      obtain ⟨oS', plr', eq1, eS', -, hp2⟩ := hp2.inv
      obtain ⟨o2, _, rfl, e2, hO2, hp3⟩ := hp3.inv
      have hS1 : t.heap.get? S = some (lstObj acc c) := by
        cases eq1
        have : (s.setGen g .running).heap.get? S = some oS := eS'
        rw [show (s.setGen g .running).heap.get? S = s.heap.get? S from rfl, hS] at this
        rw [eS, ← this]
      refine qpure ?_
      have has : acc.size ≤ sizeLine := by omega
      show wqAny _ A.in1 (updateSeq S (·.push v) >>= _) _ _ _
      refine qlet (wpAny_updateSeq (s := t.setGen g gs') hS1 rfl (qpure ⟨plainId_quiet F.plain_extend_loop _, ?_⟩) has (by show (acc.push v).size ≤ sizeLine + 1; rw [Array.size_push]; omega))
      have oth : ∀ b, b ≠ S → (t.heap.update S (Obj.mapSeq (·.push v))).get? b = t.heap.get? b := fun b hb => Heap.get?_update_other _ _ (Ne.symm hb)
      have eS2 := Heap.get?_update_self (Obj.mapSeq (·.push v)) hS1 rfl
      have ea2 : (t.heap.update S (Obj.mapSeq (·.push v))).get? a = some o2 := (oth a (Ne.symm hSa)).trans e2
      refine ih { t.setGen g gs' with heap := t.heap.update S (Obj.mapSeq (·.push v)) } (acc.push v) _ gs' eS2 (by rw [Array.size_push]; omega) ⟨o2, ea2, hO2⟩ (setGen_at hzt) (NoLimit.upd hl2 hSc) (hkap _ ⟨rfl, ?_, fun i hi => ?_, fun i => ?_, fun b hb o e => ?_, fun b o e => ?_, ?_⟩)
      · show (Shared.setGen { t.setGen g gs' with heap := t.heap.update S (Obj.mapSeq (·.push v)) } g .running).gens.size = t.gens.size
        rw [setGen_size]; exact setGen_size _ _ _
      · rw [setGen_ne (Nat.ne_of_gt hi)]; exact setGen_ne (Nat.ne_of_gt hi)
      · by_cases h : i = g
        · subst h; exact .inr (setGen_at (by show i < (t.setGen i gs').gens.size; rw [setGen_size]; exact hzt))
        · rw [setGen_ne h]; exact .inl (setGen_ne h)
      · exact (oth b fun w => hb (w ▸ List.mem_cons_self)).trans e
      · by_cases h : b = S
        · subst h; exact ⟨_, eS2⟩
        · exact ⟨o, (oth b h).trans e⟩
      · exact ⟨[(S, _), (a, o2)], .cons eS2 ⟨acc.push v, _, rfl⟩ (fun v q => by cases q) (.cons ea2 hO2 hO2.nocell .nil)⟩

section
variable {X : Cx} {k : Nat}
/-- list(e), e a generator that has not begun; the list is not tracked -/
def tqList (tg : TGq) : TE := fun σ H Q => ∃ N, N ≤ sizeLine ∧ tg σ H N fun H2 => ∀ p, H2 p = none → Q (.ref p) H2
theorem qe_list {e : Expr} {tg : TGq} {nm : Str} {p pos : Pos} (h : PGenQ X k e tg) (hr : Room (k + 3) X.A) (hg : Gl X nm) (hmg : X.mg nm = none) (hv : bootBuiltins nm = some (.type "list")) (hnm : nm ≠ "__name__" := by decide) (hdb : (nm == ("__debug__" : Str)) = false := by decide)
    (he : starEach [e] X.env = (false, eval e X.env) :: starEach [] X.env := by rfl) : QE X (.Call (.Name nm p) [e] [] pos) (tqList tg) := by
  refine ⟨fun pins s σ H Q I ⟨N, hN, hq⟩ => ?_⟩
  rw [arm_eval_Call_Name']
  refine qlet (ld_blt I hg hmg hv ?_ hnm hdb)
  rw [show backTo pos (starEach [e] X.env) = (false, eval e X.env) :: backTo pos (starEach [] X.env) from by rw [he]; rfl]
  refine q_callWith (Pr := fun _ => True) rfl (fun h _ => ⟨.machine, .inr (.inl rfl), PySem.W.Looks.of_pure rfl⟩) (q_args (qof (Calls.spliced_cons (thn (h.run pins s σ H N _ I hq) fun u s1 ⟨H1, sc, hz, I1, hG⟩ => Calls.spliced_nil ⟨trivial, ?_⟩))))
  obtain ⟨a, g, c, rfl, ha1, ha2, ⟨go, hgo, gO⟩, hfr, hgi, hgz, hos, hba, hlim, hkp, hok, run⟩ := hG
  have hSa : s1.heap.objs.size ≠ a := Nat.ne_of_gt ha2
  have hSc : s1.heap.objs.size ≠ cStatics := let ⟨_, hn, _⟩ := hlim; Nat.ne_of_gt hn.lt
  refine q_list (qof ?_)
  have hS : (s1.heap.push { cls := .type "list", data := .seq #[] }).get? s1.heap.objs.size = some { cls := .type "list", data := .seq #[] } := Heap.get?_push_size _ rfl
  have up : ∀ (hp : Heap) (f : Obj → Obj), (∀ b o, s1.heap.get? b = some o → hp.get? b = some o) → ∀ b o, s1.heap.get? b = some o → (hp.update s1.heap.objs.size f).get? b = some o := fun hp f q b o e =>
    (Heap.get?_update_other _ _ (Ne.symm (Nat.ne_of_lt (Heap.lt_size e)))).trans (q b o e)
  have k1 : ∀ b o, s1.heap.get? b = some o → (s1.heap.push { cls := .type "list", data := .seq #[] }).get? b = some o := fun b o e => Heap.get?_push_of_some _ e
  have gty : ∀ {s' : Shared}, (∀ b o, s1.heap.get? b = some o → s'.heap.get? b = some o) → s'.TypeIs (.ref a) "generator" := fun q => ⟨go, q a go hgo, gO.1⟩
  show wpAny _ X.A.in1.in1 (do let old ← Builtin.List.listItems (.ref s1.heap.objs.size); Builtin.List.listUpdate (.ref s1.heap.objs.size) (fun _ => #[]); letGo old.toList.reverse; Builtin.List.listExtendWith (.ref s1.heap.objs.size) (.ref a) .none) _ _ _
  unfold Builtin.List.listItems
  refine wpAny_bind (wpAny_bind (wpAny_seqItems hS rfl (wpAny_pure ?_)))
  show wpAny _ X.A.in1.in1 (updateSeq s1.heap.objs.size (fun _ => #[]) >>= fun _ => letGo (#[] : Array Value).toList.reverse >>= fun _ => Builtin.List.listExtendWith (.ref s1.heap.objs.size) (.ref a) .none) _ _ _
  refine wpAny_bind (wpAny_updateSeq hS rfl (wpAny_bind (wpAny_letGo ?_)))
  have hS2 := Heap.get?_update_self (Obj.mapSeq (fun _ => (#[] : Array Value))) hS rfl
  have k2 := up _ (Obj.mapSeq (fun _ => (#[] : Array Value))) k1
  unfold Builtin.List.listExtendWith
  refine wpAny_bind (wpAny_typeOf (gty k2) ?_)
  have f1 : (Builtin.List.listSameRef (.ref s1.heap.objs.size) (.ref a) || Value.type "generator" == Value.type "list" || Value.type "generator" == Value.type "tuple") = false := by simp [Builtin.List.listSameRef, hSa]
  rw [if_neg (show ¬ _ from by rw [f1]; exact Bool.false_ne_true)]
  refine wpAny_bind (pyIter_gen (gty k2) (wpAny_bind (wpAny_holding ?_)))
  unfold Builtin.List.listLengthHint
  refine wpAny_bind (wpAny_specialOf (gty k2) F.gen_no_len ?_)
  show wpAny _ X.A.in1.in1 (specialOf (Value.ref a) (Str.ofString "__length_hint__") >>= _) _ _ _
  refine wpAny_bind (wpAny_specialOf (gty k2) F.gen_no_hint (wpAny_pure ?_))
  show wpAny _ X.A.in1.in1 (rule "list.extend.makes-room" >>= fun _ => Builtin.List.listTouch (.ref s1.heap.objs.size) >>= fun _ => again (.builtin "list.extend.loop" ⟨[.ref s1.heap.objs.size, .ref a, .none], []⟩)) _ _ _
  refine wpAny_bind (wpAny_rule (wpAny_bind ?_))
  show wpAny _ X.A.in1.in1 (updateSeq s1.heap.objs.size (·.push .none) >>= fun _ => updateSeq s1.heap.objs.size (·.pop)) _ _ _
  have hS3 := Heap.get?_update_self (Obj.mapSeq (·.push Value.none)) hS2 rfl
  refine wpAny_bind (wpAny_updateSeq hS2 rfl (wpAny_updateSeq (hz := by seq_fits) hS3 rfl (wpAny_pure ⟨plainId_quiet F.plain_extend_loop _, ?_⟩)))
  have hS4 := Heap.get?_update_self (Obj.mapSeq (·.pop)) hS3 rfl
  have k4 := up _ (Obj.mapSeq (·.pop)) (up _ (Obj.mapSeq (·.push Value.none)) k2)
  have hl4 : (((((s1.heap.push { cls := .type "list", data := .seq #[] }).update s1.heap.objs.size (Obj.mapSeq fun _ => #[])).update s1.heap.objs.size (Obj.mapSeq (·.push Value.none))).update s1.heap.objs.size (Obj.mapSeq (·.pop)))).NoLimit := hlim.keeps k4
  have fresh : ∀ b, sc.heap.objs.size ≤ b → ∀ o, sc.heap.get? b = some o → False := fun b hb o e => absurd (Nat.lt_of_lt_of_le (Heap.lt_size e) hb) (Nat.lt_irrefl _)
  have hscS : sc.heap.objs.size ≤ s1.heap.objs.size := Nat.le_trans ha1 (Nat.le_of_lt ha2)
  refine drainQ (Q := fun H2 => ∀ p, H2 p = none → Q (.ref p) H2) (outer := X.stack) (H := H1) (sc := sc) (g := g) (A := X.A.in1) hr.hd (by have := hr.dp; show X.A.depth < _; omega) hSa hSc (fun s' H' os1 hb1 un hok' hnone hc => ?_) N _ #[] _ _ hS4 (by simpa using hN) ⟨go, k4 a go hgo, gO⟩ hfr hl4 ⟨rfl, ?_⟩
  · refine ⟨rfl, .ref s1.heap.objs.size, H', I1.call' (ch := []) os1 (Un.less (Un.less un hscS) ha1) hok' hb1 fun b z => absurd z (by simp), rfl, hc _ (hnone _ List.mem_cons_self)⟩
  · refine run X.A.in1.in1.in1 [(s1.heap.objs.size, LstO), (a, GenO g)] _ N (Nat.le_refl _) ⟨hr.hd, by have := hr.dp; show X.A.depth + 3 * k + 5 < _; omega, by have := hr.un; show X.A.units + 1 + 1 + 1 + 16 * k + 200 < _; omega⟩ I1.ok.frames
      ⟨List.mem_cons_of_mem _ List.mem_cons_self, fun b hb => ?_⟩ (fun b o _ e => k4 b o e) ⟨[(_, _), (a, go)], .cons hS4 ⟨_, _, rfl⟩ (fun v q => by cases q) (.cons (k4 a go hgo) gO gO.nocell .nil)⟩ hos (allBare_setGen (s := { s1 with heap := _ }) hba rfl) (by rw [setGen_size]; show g < s1.gens.size; rw [hgz]; omega)
    rcases List.mem_cons.mp hb with rfl | hb
    · exact .inr (.inl (Nat.le_refl _))
    · rw [List.mem_singleton.mp hb]
      exact .inl rfl
end
end KG

set_option maxRecDepth 100000
set_option maxHeartbeats 1000000
/-! KTry: try .. except x as n over a loud block; a test that is loud; match over loud bodies. -/
namespace KG
open PySem PySem.Spec PyProof.Rows L2

/-! ### try -/
theorem q_tryStmt {M : Model} {A : Around} {E : Value → Shared → Prop} {s : Shared} {env : Env} {body orelse : Sem Flow} {h₀ : ExceptHandler} {hs : List ExceptHandler} {Q : Flow → Shared → Prop}
    (h : wqAny M A body (fun f s₁ => match f with | .next => wqAny M A orelse Q E s₁ | f => Q f s₁)
      (fun e s₁ => wpAny M A (noteFrame e env) (fun _ s₂ => wpAny M A (setFlight e none) (fun _ s₃ => wpAny M A (handleBy e env (h₀ :: hs)) Q E s₃) E s₂) E s₁) s) : wqAny M A (tryStmt false body (h₀ :: hs) orelse [] env) Q E s := by
  unfold tryStmt
  simp only [List.isEmpty_nil, if_true, List.isEmpty_cons, Bool.false_and, Bool.false_eq_true, if_false]
  refine qbind (qattempt (qmono h (fun f s₁ h₁ => ?_) fun e s₁ h₁ => ?_))
  · match f, h₁ with
    | .next, h₁ => exact h₁
    | .ret _, h₁ => exact qpure h₁
    | .brk, h₁ => exact qpure h₁
    | .cont, h₁ => exact qpure h₁
  · exact qof (wpAny_bind (wpAny_mono h₁ (fun _ _ h₂ => wpAny_bind h₂) fun _ _ x => x))

/-- where an except suite ends: its name (slot i) goes -/
def gone (i : Nat) (D : Ends) : Ends := ⟨fun σ' H' => D.nx (σ'.set i none) H', D.rt, fun σ' H' => D.bk (σ'.set i none) H', fun σ' H' => D.ct (σ'.set i none) H'⟩
/-- what is wished of an exception of the body: the clause takes it -/
def wCatch (K : PySem.W.Frag) (c : Value) (i : Nat) (ts : Addr → Value → Option Addr → TS) (D : Ends) : WX := fun cls d σ H =>
  PySem.W.exmOne K cls c = some true ∧ ∀ a, H a = none → ts a cls d (gone i D) (σ.set i (some (.ref a))) H

section
variable {X : Cx} {x n : Str} {c : Value} {i : Nat} {suite : List Stmt} {b₀ : Stmt} {np pos' : Pos} {ts : Addr → Value → Option Addr → TS} {pins : List (Addr × Obj)}
/-- the exception is no frame -/
theorem off_frames {B h : Heap} {l : List Env} {a : Addr} {o : Obj} {vs : Array Value} (ff : h.FunFrames B l) (e : h.get? a = some o) (dd : o.data = .fields vs) : a ∉ frs l := fun hm => by
  obtain ⟨f, o', e', hnf⟩ := ff.mem hm
  exact hnf _ ((congrArg Obj.data (Option.some.inj (e'.symm.trans e))).trans dd)
/-- behind the suite -/
theorem suite_over {i : Nat} {a : Addr} {oe : Obj} {D : Ends} {f : Flow} {s6 : Shared} (ok : X.Ok) (hN : X.N.Nodup) (hi : X.N[i]? = some n) (hln : X.env.kindOf n = some .local)
    (h : SP (X.suite a ((a, oe) :: (X.pn ++ pins))) [] (gone i D) f s6) : wpAny (model X.prog X.w) X.A (do bindName X.env n .none; unbindBehindTheSuite X.env n pos') (fun _ s7 => SP X pins D f s7) X.xe s6 := by
  match f, h with
  | .next, ⟨σ6, H6, S6, q6⟩ => exact gone_ok (S6.unsuite ok) hN hi hln fun s7 J7 => ⟨_, _, J7, q6⟩
  | .brk, ⟨σ6, H6, S6, q6⟩ => exact gone_ok (S6.unsuite ok) hN hi hln fun s7 J7 => ⟨_, _, J7, q6⟩
  | .cont, ⟨σ6, H6, S6, q6⟩ => exact gone_ok (S6.unsuite ok) hN hi hln fun s7 J7 => ⟨_, _, J7, q6⟩
  | .ret u, ⟨v6, σ6, H6, S6, r6, q6⟩ => exact gone_ok (S6.unsuite ok) hN hi hln fun s7 J7 => ⟨_, _, _, J7, r6, q6⟩
/-- an exception of the body that the clause takes -/
theorem caught {xe' : Value → Shared → Prop} {D : Ends} {u : Value} {s' : Shared} (ok : X.Ok) (hs : X.stack = X.env :: X.outer) (hf : X.env.frame = some X.env.locals) (hN : X.N.Nodup) (hi : X.N[i]? = some n) (hln : X.env.kindOf n = some .local) (hc : Names X x c)
    (hsu : ∀ (a : Addr) (oe : Obj) (cls : Value) (d : Option Addr) (pn : List (Addr × Obj)), Zc cls d oe → (∃ vs, oe.data = .fields vs) → PSs (X.suite a ((a, oe) :: pn)) (b₀ :: suite) (ts a cls d))
    (xx : XE (X.tr (X.pn ++ pins) xe') (wCatch X.K c i ts D) u s') :
    wpAny (model X.prog X.w) X.A (noteFrame u X.env) (fun _ s₂ => wpAny (model X.prog X.w) X.A (setFlight u none) (fun _ s₃ =>
      wpAny (model X.prog X.w) X.A (handleBy u X.env [.ExceptHandler (some (.Name x np)) (some n) (b₀ :: suite) pos']) (SP X pins D) X.xe s₃) X.xe s₂) X.xe s' := by
  have frames : X.A.frames = some (X.env :: X.outer) := ok.frames.trans (congrArg some hs)
  obtain ⟨a, B, sI, pins', σ', H', cls, d, rfl, J', nb, up, sky, na, os, ag, hit, yes⟩ := xx
  have J : Inv X pins σ' H' sI := Inv.ofTry J' ok
  have sky2 : Sky B (X.env :: X.outer) a (Zc cls d) X.env.locals s'.heap := hs ▸ sky
  refine Sky.land Zc.steady frames hf sky2 fun h3 fl3 up3 => ?_
  -- the clause's test
  obtain ⟨oe3, vs3, he3, hz3, hd3⟩ := fl3.there
  have J3 : Inv X pins σ' H' { s' with heap := h3 } := Inv.landed J nb fl3.1 (Heap.UpToSlots.trans up up3) os ag
  have nfr : a ∉ frs (X.env :: X.outer) := off_frames fl3.2.2.1 he3 hd3
  have nL : a ≠ X.env.locals := fun z => nfr (List.mem_filterMap.mpr ⟨X.env, List.mem_cons_self, hf.trans (congrArg some z.symm)⟩)
  have nF : a ∉ X.fs := fun hm => nfr (by
    obtain ⟨e, he, q⟩ := List.mem_filterMap.mp hm
    exact List.mem_filterMap.mpr ⟨e, List.mem_cons_of_mem X.env he, q⟩)
  have S3 := J3.suite he3 hd3 na nL nF
  have looks := PySem.W.exm_one (M := model X.prog X.w) (K := X.K) (J3.kIn) (fun A Q E s k q => wpAny_typeOf_ref (k _ _ he3) (by rw [hz3.1]; exact q)) hit
  refine wpAny_handleBy_cons (codeAny_handlers_test ?_) (fun q => nomatch q)
  have named : ∀ {Q : Value → Shared → Prop} {E : Value → Shared → Prop}, Q c { s' with heap := h3 } → wpAny (model X.prog X.w) (X.A.mark (some (.ref a))) (eval (.Name x np) X.env) Q E { s' with heap := h3 } := by
    intro Q E q
    rcases hc.2.2 with hm | ⟨hm, hv, hn⟩
    · exact ld_glob (X := X.suite a ((a, oe3) :: (X.pn ++ pins))) S3 hc.1 hm q hc.2.1
    · exact ld_blt (X := X.suite a ((a, oe3) :: (X.pn ++ pins))) S3 hc.1 hm hv q hn hc.2.1
  refine named (looks.here (codeAny_handlers_suite_as (HandSPX.lands_againZ fl3 fun h4 fl4 up4 => ?_)))
  -- the suite
  obtain ⟨oe4, vs4, he4, hz4, hd4⟩ := fl4.there
  have J4 : Inv X pins σ' H' { s' with heap := h4 } := Inv.landed J nb fl4.1 (Heap.UpToSlots.trans (Heap.UpToSlots.trans up up3) up4) os ag
  have S4 := J4.suite he4 hd4 na nL nF
  refine store_ok (X := X.suite a ((a, oe4) :: (X.pn ++ pins))) (v := .ref a) S4 hN hi (.inl hln) rfl (fun s5 S5 => ?_) (.inr hln)
  exact wpAny_mono ((hsu a oe4 cls d (X.pn ++ pins) hz4 ⟨vs4, hd4⟩).run [] s5 _ H' _ S5 (yes a na)) (fun f s6 hsp => suite_over ok hN hi hln hsp) fun _ _ z => z.elim

variable {body : List Stmt} {tb : WX → TS} {pos : Pos}
/-- try: body except x as n: suite, the body loud; the clause takes all that the body raises -/
theorem qs_try (hs : X.stack = X.env :: X.outer) (hf : X.env.frame = some X.env.locals) (hN : X.N.Nodup) (hi : X.N[i]? = some n) (hln : X.env.kindOf n = some .local) (hc : Names X x c)
    (hb : ∀ (W : WX) (pn : List (Addr × Obj)) (xe : Value → Shared → Prop), Takes (X.tr pn xe) W → PassesOwn (model X.prog X.w) X.A X.env xe → QSs (X.tr pn xe) body (tb W))
    (hsu : ∀ (a : Addr) (oe : Obj) (cls : Value) (d : Option Addr) (pn : List (Addr × Obj)), Zc cls d oe → (∃ vs, oe.data = .fields vs) → PSs (X.suite a ((a, oe) :: pn)) (b₀ :: suite) (ts a cls d)) :
    QS X (.Try body [.ExceptHandler (some (.Name x np)) (some n) (b₀ :: suite) pos'] [] [] pos) (fun D σ H => tb (wCatch X.K c i ts D) D σ H) := by
  refine ⟨fun pins s σ H D I h => ?_⟩
  have ok := I.ok
  rw [arm_exec_Try]
  refine qat (q_tryStmt ?_)
  refine qmono ((hb _ (X.pn ++ pins) _ (fun u s' xx => caught (np := np) (pos' := pos') ok hs hf hN hi hln hc hsu xx) PassesOwn.looking).run [] s σ H D (I.toTry _) h) (fun f s1 hsp => ?_) fun _ _ z => z
  match f, hsp with
  | .next, ⟨σ', H', K', q⟩ => exact qof (wpAny_execs_nil ⟨σ', H', K'.ofTry ok, q⟩)
  | .brk, ⟨σ', H', K', q⟩ => exact ⟨σ', H', K'.ofTry ok, q⟩
  | .cont, ⟨σ', H', K', q⟩ => exact ⟨σ', H', K'.ofTry ok, q⟩
  | .ret u, ⟨v, σ', H', K', r, q⟩ => exact ⟨v, σ', H', K'.ofTry ok, r, q⟩
end

/-! ### tests -/
section
variable {X : Cx} {e : Expr} {te : TE} {tt : TT} {pos : Pos}
/-- a loud expression that gives True or False, as a test -/
theorem qt_val (h : QE X e te) (he : ∀ whole, isTrue e X.env whole = (do let v ← whole; standAt e.pos; holding [v] (truthy v)) := by intro _; rfl) : QT X e (tB te) := by
  refine ⟨fun pins s σ H Q I q => ?_⟩
  rw [he]
  refine qbind (qthn (h.run pins s σ H _ I q) fun u s1 ⟨x, H1, I1, r1, b, ex, q1⟩ => qat ?_)
  subst ex
  obtain rfl : u = Value.bool b := r1
  exact qof (wpAny_holding (wpAny_truthy_bool (show TP X pins σ Q b s1 from ⟨H1, I1, q1⟩)))
theorem qt_not (h : QT X e tt) : QT X (.UnaryOp .Not e pos) (tNot tt) := by
  refine ⟨fun pins s σ H Q I q => ?_⟩
  rw [arm_isTrue_UnaryOp]
  exact qbind (qthn (h.run pins s σ H (fun c H1 => Q (!c) H1) I q) fun b s1 z => qpure z)
end

/-! ### match over tuples that begin with a text -/
/-- the slots that the captures of a pattern fill -/
def put (σ : L2.St) : List Nat → List V → L2.St
  | i :: sl, v :: vs => put (σ.set i (some v)) sl vs
  | _, _ => σ
inductive Caps (X : Cx) : List Pattern → List Nat → Prop
  | nil : Caps X [] []
  | cons {i : Nat} {n : Str} {p : Pos} {ps : List Pattern} {sl : List Nat} : X.N.Nodup → X.N[i]? = some n → Loc X.env.scope n → (X.fn n = true ∨ X.env.scope.names.lookup n = some .local) → Caps X ps sl → Caps X (.MatchAs none (some n) p :: ps) (i :: sl)
/-- a case: the text, the captures' slots, the body's reading -/
structure MC where
  tag : Str
  sl : List Nat
  tb : TS
inductive QCs (X : Cx) : List MatchCase → List MC → Prop
  | nil : QCs X [] []
  | cons {tag : Str} {j : Nat} {p1 p2 p3 : Pos} {ps : List Pattern} {sl : List Nat} {body : List Stmt} {tb : TS} {rest : List MatchCase} {r : List MC} : Caps X ps sl → QSs X body tb → QCs X rest r →
      QCs X (⟨.MatchSequence (.MatchValue (.Constant (.str tag) j p1) p2 :: ps) p3, none, body⟩ :: rest) (⟨tag, sl, tb⟩ :: r)
def mrun : List MC → List V → Ends → L2.St → Hp → Prop
  | [], _, D, σ, H => D.nx σ H
  | c :: r, xs, D, σ, H => if xs.length = c.sl.length + 1 ∧ xs.head? = some (.str c.tag) then c.tb D (put σ c.sl xs.tail) H else mrun r xs D σ H
def tMatch (K : PySem.W.Frag) (te : TE) (cs : List MC) : TS := fun D σ H => te σ H fun x H1 => ∃ a z r, x = .ref a ∧ SqT K H1 a (.str z :: r) ∧ mrun cs (.str z :: r) D σ H1

section
variable {X : Cx} {pins : List (Addr × Obj)} {s : Shared} {σ : L2.St} {H : Hp}
theorem caps_ok {ps : List Pattern} {sl : List Nat} (c : Caps X ps sl) : ∀ (vs : List V) (us : List Value), Vals vs us → vs.length = sl.length → ∃ bs : List (Str × Value),
    (∀ (s : Shared) (Q : Option (List (Str × Value)) → Shared → Prop) (E : Value → Shared → Prop), Q (some bs) s → wpAny (model X.prog X.w) X.A (matchEach ps X.env us) Q E s) ∧
    ∀ (s : Shared) (σ : L2.St) (H : Hp) (Q : Unit → Shared → Prop) (E : Value → Shared → Prop), Inv X pins σ H s → (∀ s', Inv X pins (put σ sl vs) H s' → Q () s') →
      wpAny (model X.prog X.w) X.A (assignInOrder (bs.map fun (n, _) => bindName X.env n) (bs.map (·.2))) Q E s := by
  induction c with
  | nil =>
    intro vs us r hl
    cases r with
    | nil => exact ⟨[], fun s Q E q => wpAny_matchEach_nil q, fun s σ H Q E I q => wpAny_assignInOrder_none (q s I)⟩
    | cons _ _ => cases hl
  | @cons i n p ps sl hN hi hx hf c ih =>
    intro vs us r hl
    cases r with
    | nil => cases hl
    | @cons v u vs us rv r =>
      obtain ⟨bs, h1, h2⟩ := ih vs us r (Nat.succ.inj hl)
      refine ⟨(n, u) :: bs, fun s Q E q => wpAny_matchEach_cons (wpAny_matchPattern_Capture (h1 s _ E q)), fun s σ H Q E I q => ?_⟩
      exact wpAny_assignInOrder_more (wpAny_bindName (store_ok I hN hi hx rv (fun s' I' => h2 s' _ H Q E I' q) hf))
theorem caps_star {tag : Str} {j : Nat} {p1 p2 : Pos} {ps : List Pattern} {sl : List Nat} (c : Caps X ps sl) : ps.length = sl.length ∧ (Pattern.MatchValue (.Constant (.str tag) j p1) p2 :: ps).findIdx? (·.isStar) = none := by
  suffices h : ps.length = sl.length ∧ ∀ q ∈ ps, q.isStar = false by
    refine ⟨h.1, List.findIdx?_eq_none_iff.mpr fun q hq => ?_⟩
    cases hq with
    | head => rfl
    | tail _ e => exact h.2 q e
  induction c with
  | nil => exact ⟨rfl, fun q hq => by cases hq⟩
  | cons _ _ _ _ _ ih =>
    refine ⟨congrArg (· + 1) ih.1, fun q hq => ?_⟩
    cases hq with
    | head => rfl
    | tail _ e => exact ih.2 q e
/-- the text ahead -/
theorem tag_ok {z tag : Str} {u : Value} {j : Nat} {p1 p2 : Pos} {Q : Option (List (Str × Value)) → Shared → Prop} (I : Inv X pins σ H s) (r : RelV (.str z) u)
    (h : ∀ s', Inv X pins σ H s' → Q (if z = tag then some [] else none) s') : wpAny (model X.prog X.w) X.A (matchPattern (.MatchValue (.Constant (.str tag) j p1) p2) X.env u) Q X.xe s := by
  refine wpAny_matchPattern_Value (thn (pe_str.run pins s σ H (fun v H1 => v = .str tag ∧ H1 = H) I ⟨rfl, rfl⟩) fun y s1 ⟨v, H1, I1, r1, e1, e2⟩ => ?_)
  subst e1
  subst e2
  refine thn (op_eq pins s1 σ H1 (.str z) (.str tag) u y (fun v H2 => v = .bl (decide (V.str z = V.str tag)) ∧ H2 = H1) I1 r r1 ⟨rfl, rfl, rfl⟩) fun c s2 ⟨v, H2, I2, r2, e1, e2⟩ => ?_
  subst e1
  subst e2
  obtain rfl : c = Value.bool (decide (V.str z = V.str tag)) := r2
  refine wpAny_truthy_bool ?_
  by_cases e : z = tag
  · rw [decide_eq_true (congrArg V.str e)]
    have := h s2 I2
    rw [if_pos e] at this
    exact this
  · rw [decide_eq_false fun w => e (V.str.inj w)]
    have := h s2 I2
    rw [if_neg e] at this
    exact this
theorem cases_ok {cs : List MatchCase} {rs : List MC} (c : QCs X cs rs) (hc : X.calm = true) {a : Addr} {z : Str} {r : List V} {D : Ends} : ∀ (b : Bool) (s : Shared), Inv X pins σ H s → SqT X.K H a (.str z :: r) → mrun rs (.str z :: r) D σ H →
    wqAny (model X.prog X.w) X.A (matchCases cs X.env (.ref a) b) (SP X pins D) X.xe s := by
  induction c with
  | nil => exact fun b s I t h => qof (wpAny_matchCases_nil ⟨σ, H, I, h⟩)
  | @cons tag j p1 p2 p3 ps sl body tb rest rs cp hb _ ih =>
    intro b s I t h
    rw [arm_matchCases_cons]
    obtain ⟨its, rv, ht, hz⟩ := I.tuple t
    cases rv with
    | @cons _ u _ us ru rr =>
    have hl : r.length = us.length := rr.length
    have hz : r.length + 1 ≤ sizeLine := hz
    have fit : ((u :: us).toArray.size : Int) < 2 ^ 63 := by
      have e : ((u :: us).toArray.size : Int) = ((us.length + 1 : Nat) : Int) := rfl
      have h2 : (sizeLine : Int) < 2 ^ 63 := by decide
      rw [e, ← hl]
      omega
    obtain ⟨cpl, cps⟩ := caps_star (tag := tag) (j := j) (p1 := p1) (p2 := p2) cp
    have J : ∀ (h' : Heap) (t' : Nat), (∀ b o, s.heap.get? b = some o → h'.get? b = some o) → Inv X pins σ H { s with heap := h', toks := t' } := fun h' t' k => I.kept (t' := t') k
    have miss : ∀ s1, Inv X pins σ H s1 → ¬ (r.length = sl.length ∧ z = tag) → wqAny (model X.prog X.w) X.A (matchCases rest X.env (.ref a) false) (SP X pins D) X.xe s1 := fun s1 I1 n => by
      refine ih false s1 I1 t ?_
      have nn : ¬ ((V.str z :: r).length = sl.length + 1 ∧ (V.str z :: r).head? = some (.str tag)) := fun ⟨e1, e2⟩ => n ⟨Nat.succ.inj e1, V.str.inj (Option.some.inj e2)⟩
      unfold mrun at h
      rw [if_neg nn] at h
      exact h
    refine qbind (qhold (qof ?_))
    by_cases hn : r.length = sl.length
    · refine matchSeq_tuple_hit ht fit (by
        show us.length + 1 = ps.length + 1
        omega) ?_ cps rfl
      rw [show (Pattern.MatchValue (.Constant (.str tag) j p1) p2 :: ps).length = (u :: us).toArray.size by
        show ps.length + 1 = us.length + 1
        omega]
      refine unpackItems_tuple (I.ok.hd hc) ht fun h' hx => ?_
      have I1 : Inv X pins σ H { s with heap := h', toks := s.toks + 1 + 1 } := J h' _ fun b o e => hx b o (Nat.ne_of_lt (Heap.lt_size e)) e
      obtain ⟨bs, h1, h2⟩ := caps_ok (pins := pins) cp r us rr hn
      refine wpAny_matchEach_cons (tag_ok I1 ru fun s2 I2 => ?_)
      by_cases e : z = tag
      · rw [if_pos e]
        refine h1 s2 _ _ ?_
        refine qbind (qhold (qof (h2 s2 σ H _ _ I2 fun s3 I3 => ?_)))
        refine qlet (wpAny_pure ?_)
        have yes : ((V.str z :: r).length = sl.length + 1 ∧ (V.str z :: r).head? = some (.str tag)) := ⟨congrArg (· + 1) hn, congrArg (fun y => some (V.str y)) e⟩
        unfold mrun at h
        rw [if_pos yes] at h
        exact hb.run pins s3 _ H D I3 h
      · rw [if_neg e]
        exact miss s2 I2 fun n => e n.2
    · refine matchSeq_tuple_miss ht fit (fun e => hn ?_) (miss _ (J s.heap _ fun b o e => e) fun n => hn n.1) cps rfl
      have e : us.length + 1 = ps.length + 1 := e
      omega
/-- match e: case (text, names..): body .. -/
theorem qs_match {e : Expr} {te : TE} {cs : List MatchCase} {rs : List MC} {pos : Pos} (hc : X.calm = true) (he : PE X e te) (c : QCs X cs rs) : QS X (.Match e cs pos) (tMatch X.K te rs) := by
  refine ⟨fun pins s σ H D I h => ?_⟩
  rw [arm_exec_Match]
  refine qat (qlet (thn (he.run pins s σ H _ I h) fun u s1 ⟨x, H1, I1, r1, a, z, r, ex, t, q⟩ => ?_))
  subst ex
  obtain rfl : u = Value.ref a := r1
  exact cases_ok c hc true s1 I1 t q
end
end KG

set_option maxRecDepth 100000
set_option maxHeartbeats 4000000
/-! K7A: names. -/
namespace K77
open PySem PySem.Spec PyProof.Rows L2 KG TL

/-! ### heaps -/
theorem same_upd {H : Hp} {p : Addr} {o : HO} (h : H p = none) : Same H (upd H p o) := fun b x e => by
  rw [upd_ne (ne_of_none e h)]
  exact e
theorem same_seqT {K : PySem.W.Frag} {H H' : Hp} {a : Addr} {xs : List V} (e : Same H H') (h : SqT K H a xs) : SqT K H' a xs := by
  rcases h with (h | ⟨o, h⟩) | h
  · exact .inl (.inl (e _ _ h))
  · exact .inl (.inr ⟨o, e _ _ h⟩)
  · exact .inr h
/-- only the object at m may differ -/
def But (m : Addr) (H H' : Hp) : Prop := ∀ b o, b ≠ m → H b = some o → H' b = some o
theorem but_upd {H : Hp} {m : Addr} {o : HO} : But m H (upd H m o) := fun b x n e => by
  rw [upd_ne n]
  exact e
theorem But.trans {m : Addr} {H H1 H2 : Hp} (a : But m H H1) (b : But m H1 H2) : But m H H2 := fun c o n h => b c o n (a c o n h)
theorem same_but {m : Addr} {H H' : Hp} (a : Same H H') : But m H H' := fun c o _ h => a c o h

/-! ### names of the module -/
section
variable {X : Cx} {x z : Str} {i : Int} {a : Addr} {pos : Pos}
theorem pe_gint (hg : Gl X x) (h : ∃ t, X.mg x = some (.int i t)) (hd : (x == ("__debug__" : Str)) = false := by decide) : PE X (.Name x pos) (tC (.int i)) := pe_glob hg h.choose_spec ⟨_, rfl⟩ hd
theorem pe_gstr (hg : Gl X x) (h : ∃ t, X.mg x = some (.str z t)) (hd : (x == ("__debug__" : Str)) = false := by decide) : PE X (.Name x pos) (tC (.str z)) := pe_glob hg h.choose_spec ⟨_, rfl⟩ hd
theorem pe_gref (hg : Gl X x) (h : X.mg x = some (.ref a)) (hd : (x == ("__debug__" : Str)) = false := by decide) : PE X (.Name x pos) (tC (.ref a)) := pe_glob hg h rfl hd
end

/-! ### names -/
/-- a text that is a name -/
structure NameOk (z : Str) : Prop where
  pos : 1 ≤ z.length
  len : z.length ≤ 12
  head : ∃ c r, tl z = c :: r ∧ c ∈ tl "abcdefghijklmnopqrstuvwxyz"
  signs : ∀ c ∈ tl z, c ∈ tl "abcdefghijklmnopqrstuvwxyz0123456789"
  kw : inV (.str z) keywordsV = false
theorem small_str {z : Str} {n : Nat} (h : z.length ≤ n) (hn : n ≤ 10000) : z.length ≤ sizeLine := Nat.le_trans h (Nat.le_trans hn (by decide))

section
variable {P : Program} {w : World} {K : PySem.W.Frag} {mg : Str → Option Value} {base : Heap}
def spIsName : Sp := fun vs H Q _ => ∃ z : Str, vs = [.str z] ∧ NameOk z ∧ ∀ H', Same H H' → Q (.bl true) H'
theorem ok_is_name (T : Tx K mg) : FnOk P w K mg base CX0 1 T.a_is_name T.f_is_name ["word"] spIsName := by
  refine T.F_is_name.ok sc_is_name (fun vs H Q E h => ?_) (fun cdv A outer s H vs Q E hr h => ?_)
  · obtain ⟨z, rfl, _⟩ := h
    rfl
  · obtain ⟨z, rfl, nz, q⟩ := h
    refine ⟨_, (pss_cons (ps_if (PW.pt (pw_or (pt_not (pt_chain op_le op_le pe_int (pe_callB call_len_str (by rfl) T.b_len PySem.boot_len (pa_cons (pv 0) pa_nil)) (pe_gint (by rfl) T.c_NAME_SIGNS))) (pw_or (pt_cmpR op_notIn_sign (pe_ix ix_str (pv 0) pe_int (fun _ _ => rfl)) (pe_gstr (by rfl) T.c_LETTERS) rfl) (pw_or1 (pt_cmpR op_in_seq (pv 0) (pe_gref (by rfl) T.m_KEYWORDS) rfl))))) (pss_one (ps_ret pe_bl)) pss_nil) (pss_one (ps_ret (pe_callB (cr_all rfl) (by rfl) T.b_all (by decide +kernel) (pa_cons (pe_lc (own := [("sign", 1)]) (g := gName 1) (by rfl) sc_is_name.nd (pi_str (pv 0)) (blkOk_by (own := [("sign", 1)]) (N := ["word", "sign"]) (sc := defScope s_is_name) (by decide +kernel)) (fun _ _ _ _ _ => (pg_name (i := 1) sc_is_name.nd rfl (.inl rfl))) (fun _ _ _ _ _ => pts_nil) (fun _ _ _ _ _ => (pe_cmpR op_in_sign (pv 1) (pe_gstr (by rfl) T.c_WORD_SIGNS) rfl))) pa_nil))))), ?_⟩
    have h1 := nz.pos
    have h2 := nz.len
    obtain ⟨c0, r0, e0, m0⟩ := nz.head
    refine ⟨_, rfl, z, rfl, small_str h2 (by decide), 1, (z.length : Int), rfl, rfl, decide ((1 : Int) ≤ z.length), rfl, ?_⟩
    rw [decide_eq_true (by omega)]
    refine iteT ⟨_, _, rfl, rfl, _, rfl, ?_⟩
    rw [decide_eq_true (by omega)]
    refine iteF ⟨_, rfl, z, 0, c0, rfl, rfl, small_str h2 (by decide), ?_, c0, _, rfl, rfl, _, rfl, ?_⟩
    · exact (show atI (tl z) ((0 : Nat) : Int) = some c0 from atI_nat (by show (tl z)[0]? = some c0; rw [e0]; rfl))
    rw [decide_eq_true m0]
    refine iteF ⟨_, rfl, T.A_KEYWORDS, keywordsV, rfl, .inr (T.t_KEYWORDS H), rfl, rfl, _, rfl, ?_⟩
    rw [nz.kw]
    refine iteF ⟨.str z, rfl, z, rfl, fun D nD => lc_it walk_str (fun i H' => Same H H' ∧ H' D = some (.lst ((List.replicate i true).map V.bl))) ⟨same_upd nD, upd_same⟩ (fun _ _ _ _ => trivial) (fun i x H1 H2 hi hP hY => ?_) fun H' hP => ?_⟩
    · obtain ⟨sm, eD⟩ := hP
      obtain ⟨rfl, c, hc, rfl⟩ := hY
      have hm : c ∈ tl z := by
        rw [← Array.getElem?_toList] at hc
        exact List.mem_of_getElem? hc
      refine ⟨rfl, _, rfl, c, _, rfl, rfl, _, eD, ?_, ?_⟩
      · rw [List.length_map, List.length_replicate]
        have : i < z.length := hi
        exact small1000 (by omega)
      · rw [decide_eq_true (nz.signs c hm)]
        refine ⟨fun b o e => ?_, ?_⟩
        · rw [upd_ne (ne_of_none e nD)]
          exact sm b o e
        · rw [upd_same, List.replicate_succ', List.map_append]
          rfl
    · obtain ⟨sm, eD⟩ := hP
      refine ⟨D, _, rfl, .inl (.inl eD), ?_⟩
      rw [show ((List.replicate z.cps.size true).all id) = true from List.all_eq_true.mpr fun b hb => List.eq_of_mem_replicate hb]
      exact q H' sm
end
end K77

set_option maxRecDepth 100000
set_option maxHeartbeats 4000000
/-! K7B: formulas as objects; formula_text, formula_names, conjoin. -/
namespace K77
open PySem PySem.Spec PyProof.Rows L2 KG TL

inductive Fm where
  | yes | no
  | name (z : Str)
  | not (f : Fm)
  | and (a b : Fm)
  | or (a b : Fm)
/-- the value v holds the formula -/
def Fml (K : PySem.W.Frag) (H : Hp) : Fm → V → Prop
  | .yes, v => ∃ a, v = .ref a ∧ SqT K H a [.str "yes"]
  | .no, v => ∃ a, v = .ref a ∧ SqT K H a [.str "no"]
  | .name z, v => ∃ a, v = .ref a ∧ SqT K H a [.str "name", .str z]
  | .not f, v => ∃ a u, v = .ref a ∧ SqT K H a [.str "not", u] ∧ Fml K H f u
  | .and f g, v => ∃ a u t, v = .ref a ∧ SqT K H a [.str "and", u, t] ∧ Fml K H f u ∧ Fml K H g t
  | .or f g, v => ∃ a u t, v = .ref a ∧ SqT K H a [.str "or", u, t] ∧ Fml K H f u ∧ Fml K H g t
/-- no tuple is lost -/
def Tups (H H' : Hp) : Prop := ∀ b xs, Rd H b (.tup xs) → Rd H' b (.tup xs)
theorem Tups.refl (H : Hp) : Tups H H := fun _ _ h => h
theorem Tups.trans {H H1 H2 : Hp} (a : Tups H H1) (b : Tups H1 H2) : Tups H H2 := fun c xs h => b c xs (a c xs h)
theorem same_tups {H H' : Hp} (s : Same H H') : Tups H H' := fun b xs h => by
  rcases h with h | ⟨o, h⟩
  · exact .inl (s _ _ h)
  · exact .inr ⟨o, s _ _ h⟩
theorem but_tups {m : Addr} {ys : List V} {H H' : Hp} (s : But m H H') (h : H m = some (.lst ys)) : Tups H H' := fun b xs e => by
  rcases e with e | ⟨o, e⟩
  · exact .inl (s _ _ (ne_of e h (by intro z; cases z)) e)
  · exact .inr ⟨o, s _ _ (ne_of e h (by intro z; cases z)) e⟩
theorem Tups.seqT {K : PySem.W.Frag} {H H' : Hp} {a : Addr} {xs : List V} (t : Tups H H') (h : SqT K H a xs) : SqT K H' a xs := by
  rcases h with h | h
  · exact .inl (t _ _ h)
  · exact .inr h
theorem Fml.keep {K : PySem.W.Frag} {H H' : Hp} (t : Tups H H') : ∀ {f : Fm} {v : V}, Fml K H f v → Fml K H' f v
  | .yes, _, ⟨a, e, h⟩ => ⟨a, e, t.seqT h⟩
  | .no, _, ⟨a, e, h⟩ => ⟨a, e, t.seqT h⟩
  | .name _, _, ⟨a, e, h⟩ => ⟨a, e, t.seqT h⟩
  | .not _, _, ⟨a, u, e, h, q⟩ => ⟨a, u, e, t.seqT h, Fml.keep t q⟩
  | .and _ _, _, ⟨a, u, x, e, h, q, r⟩ => ⟨a, u, x, e, t.seqT h, Fml.keep t q, Fml.keep t r⟩
  | .or _ _, _, ⟨a, u, x, e, h, q, r⟩ => ⟨a, u, x, e, t.seqT h, Fml.keep t q, Fml.keep t r⟩

def Fm.tag : Fm → Str
  | .yes => "yes" | .no => "no" | .name _ => "name" | .not _ => "not" | .and _ _ => "and" | .or _ _ => "or"
def Fm.isOr : Fm → Bool
  | .or _ _ => true
  | _ => false
def Fm.isBin : Fm → Bool
  | .or _ _ => true
  | .and _ _ => true
  | _ => false
def Fm.dep : Fm → Nat
  | .not f => f.dep + 1
  | .and a b => max a.dep b.dep + 1
  | .or a b => max a.dep b.dep + 1
  | _ => 0
/-- at least the length of what it is written as, loosely too -/
def Fm.wt : Fm → Nat
  | .name z => z.length + 5
  | .not f => f.wt + 10
  | .and a b => a.wt + b.wt + 12
  | .or a b => a.wt + b.wt + 12
  | _ => 6
def par (b : Bool) (z : Str) : Str := if b then "(" ++ z ++ ")" else z
/-- the printed form -/
def Fm.std : Fm → Str
  | .yes => "1"
  | .no => "0"
  | .name z => z
  | .not f => if f.isBin then "!(" ++ f.std ++ ")" else "!" ++ f.std
  | .and a b => par a.isOr a.std ++ " & " ++ par b.isBin b.std
  | .or a b => a.std ++ " | " ++ par b.isOr b.std
theorem len_app (x y : Str) : (x ++ y).length = x.length + y.length := by
  rw [len_tl, len_tl, len_tl, tl_append, List.length_append]
theorem len_par (b : Bool) (z : Str) : (par b z).length ≤ z.length + 2 := by
  unfold par
  split
  · rw [len_app, len_app, show ("(" : Str).length = 1 from by decide +kernel, show (")" : Str).length = 1 from by decide +kernel]
    omega
  · omega
theorem Fm.std_len : ∀ f : Fm, f.std.length ≤ f.wt
  | .yes => by show ("1" : Str).length ≤ 6; decide +kernel
  | .no => by show ("0" : Str).length ≤ 6; decide +kernel
  | .name z => by show z.length ≤ z.length + 5; omega
  | .not f => by
    have ih := Fm.std_len f
    show (if f.isBin then "!(" ++ f.std ++ ")" else "!" ++ f.std : Str).length ≤ f.wt + 10
    split
    · rw [len_app, len_app, show ("!(" : Str).length = 2 from by decide +kernel, show (")" : Str).length = 1 from by decide +kernel]
      omega
    · rw [len_app, show ("!" : Str).length = 1 from by decide +kernel]
      omega
  | .and a b => by
    have h1 := Fm.std_len a
    have h2 := Fm.std_len b
    have h3 := len_par a.isOr a.std
    have h4 := len_par b.isBin b.std
    show (par a.isOr a.std ++ " & " ++ par b.isBin b.std).length ≤ a.wt + b.wt + 12
    rw [len_app, len_app, show (" & " : Str).length = 3 from by decide +kernel]
    omega
  | .or a b => by
    have h1 := Fm.std_len a
    have h2 := Fm.std_len b
    have h4 := len_par b.isOr b.std
    show (a.std ++ " | " ++ par b.isOr b.std).length ≤ a.wt + b.wt + 12
    rw [len_app, len_app, show (" | " : Str).length = 3 from by decide +kernel]
    omega
/-- a formula's object begins with its word -/
theorem Fml.at_ {K : PySem.W.Frag} {H : Hp} : ∀ {f : Fm} {v : V}, Fml K H f v → ∃ a r, v = .ref a ∧ SqT K H a (.str f.tag :: r)
  | .yes, _, ⟨a, e, h⟩ => ⟨a, _, e, h⟩
  | .no, _, ⟨a, e, h⟩ => ⟨a, _, e, h⟩
  | .name _, _, ⟨a, e, h⟩ => ⟨a, _, e, h⟩
  | .not _, _, ⟨a, _, e, h, _⟩ => ⟨a, _, e, h⟩
  | .and _ _, _, ⟨a, _, _, e, h, _⟩ => ⟨a, _, e, h⟩
  | .or _ _, _, ⟨a, _, _, e, h, _⟩ => ⟨a, _, e, h⟩

/-! ### tests of texts -/
theorem sNe {a b : Str} (h : a ≠ b) : V.bl (decide (V.str a = V.str b)) = V.bl false := congrArg V.bl (decide_eq_false fun e => h (V.str.inj e))
theorem sEq {a b : Str} (h : a = b) : V.bl (decide (V.str a = V.str b)) = V.bl true := congrArg V.bl (decide_eq_true (congrArg V.str h))
theorem tag_or (f : Fm) : V.bl (decide (V.str f.tag = V.str "or")) = V.bl f.isOr := by
  cases f with
  | yes => exact sNe (a := "yes") (b := "or") (by decide +kernel)
  | no => exact sNe (a := "no") (b := "or") (by decide +kernel)
  | name z => exact sNe (a := "name") (b := "or") (by decide +kernel)
  | not f => exact sNe (a := "not") (b := "or") (by decide +kernel)
  | and a b => exact sNe (a := "and") (b := "or") (by decide +kernel)
  | or a b => exact sEq rfl
theorem tag_bin (f : Fm) : V.bl (inV (.str f.tag) [.str "and", .str "or"]) = V.bl f.isBin := by
  cases f with
  | yes => exact congrArg V.bl (show inV (.str "yes") [.str "and", .str "or"] = false by decide +kernel)
  | no => exact congrArg V.bl (show inV (.str "no") [.str "and", .str "or"] = false by decide +kernel)
  | name z => exact congrArg V.bl (show inV (.str "name") [.str "and", .str "or"] = false by decide +kernel)
  | not f => exact congrArg V.bl (show inV (.str "not") [.str "and", .str "or"] = false by decide +kernel)
  | and a b => exact congrArg V.bl (show inV (.str "and") [.str "and", .str "or"] = true by decide +kernel)
  | or a b => exact congrArg V.bl (show inV (.str "or") [.str "and", .str "or"] = true by decide +kernel)
theorem l_lp : ("(" : Str).length = 1 := by decide +kernel
theorem l_rp : (")" : Str).length = 1 := by decide +kernel
theorem l_am : (" & " : Str).length = 3 := by decide +kernel
theorem l_ba : (" | " : Str).length = 3 := by decide +kernel

section
variable {P : Program} {w : World} {K : PySem.W.Frag} {mg : Str → Option Value} {base : Heap}
def spFText (K : PySem.W.Frag) (n : Nat) : Sp := fun vs H Q _ => ∃ (f : Fm) (v : V), vs = [v] ∧ Fml K H f v ∧ f.dep < n ∧ f.wt ≤ 1000 ∧ ∀ H', Same H H' → Q (.str f.std) H'
theorem big_str {n : Nat} (h : n ≤ 2000) : n ≤ sizeLine := Nat.le_trans h (by decide)
theorem ok_formula_text (T : Tx K mg) : ∀ n, FnOk P w K mg base CX0 n T.a_formula_text T.f_formula_text ["formula"] (spFText K n)
  | 0 => ⟨fun vs H Q E ⟨f, v, e, _⟩ => by rw [e] <;> rfl, fun A outer s H args us vs Q E a b c d ⟨f, v, _, _, l, _⟩ => absurd l (Nat.not_lt_zero _)⟩
  | n + 1 => by
    have IH := ok_formula_text T n
    refine T.F_formula_text.ok sc_formula_text (fun vs H Q E h => ?_) (fun cdv A outer s H vs Q E hr h => ?_)
    · obtain ⟨f, v, rfl, _⟩ := h
      rfl
    · obtain ⟨f, v, rfl, hf, hd, hw, q⟩ := h
      refine ⟨_, pss_cons (ps_set (i := 1) sc_formula_text.nd rfl (.inl rfl) (pe_ix ix_tup (pv 0) pe_int (fun _ _ => rfl)))
  (pss_cons (ps_if (pt_cmpR op_eq (pv 1) pe_str (nomark _)) (pss_one (ps_ret pe_str)) pss_nil)
  (pss_cons (ps_if (pt_cmpR op_eq (pv 1) pe_str (nomark _)) (pss_one (ps_ret pe_str)) pss_nil)
  (pss_cons (ps_if (pt_cmpR op_eq (pv 1) pe_str (nomark _)) (pss_one (ps_ret (pe_ix ix_tup (pv 0) pe_int (fun _ _ => rfl)))) pss_nil)
  (pss_cons (ps_set (i := 2) sc_formula_text.nd rfl (.inl rfl) (pe_call IH hr (by rfl) T.m_formula_text T.F_formula_text.kp T.B_formula_text .nil pass0 (pa_cons (pe_ix ix_tup (pv 0) pe_int (fun _ _ => rfl)) pa_nil)))
  (pss_cons (ps_if (pt_cmpR op_eq (pv 1) pe_str (nomark _)) (pss_one (ps_ret (pe_ifExp (pt_cmpR op_in_seq (pe_ix ix_tup (pe_ix ix_tup (pv 0) pe_int (fun _ _ => rfl)) pe_int (fun _ _ => rfl)) (pe_tup (pa_cons pe_str (pa_cons pe_str pa_nil))) rfl) (pe_op op_add_str (pe_op op_add_str pe_str (pv 2)) pe_str) (pe_op op_add_str pe_str (pv 2))))) pss_nil)
  (pss_cons (ps_set (i := 3) sc_formula_text.nd rfl (.inl rfl) (pe_call IH hr (by rfl) T.m_formula_text T.F_formula_text.kp T.B_formula_text .nil pass0 (pa_cons (pe_ix ix_tup (pv 0) pe_int (fun _ _ => rfl)) pa_nil)))
  (pss_cons (ps_if (pt_cmpR op_eq (pv 1) pe_str (nomark _))
    (pss_cons (ps_if (pt_cmpR op_eq (pe_ix ix_tup (pe_ix ix_tup (pv 0) pe_int (fun _ _ => rfl)) pe_int (fun _ _ => rfl)) pe_str (nomark _)) (pss_one (ps_set (i := 2) sc_formula_text.nd rfl (.inl rfl) (pe_op op_add_str (pe_op op_add_str pe_str (pv 2)) pe_str))) pss_nil)
    (pss_cons (ps_if (pt_cmpR op_in_seq (pe_ix ix_tup (pe_ix ix_tup (pv 0) pe_int (fun _ _ => rfl)) pe_int (fun _ _ => rfl)) (pe_tup (pa_cons pe_str (pa_cons pe_str pa_nil))) rfl) (pss_one (ps_set (i := 3) sc_formula_text.nd rfl (.inl rfl) (pe_op op_add_str (pe_op op_add_str pe_str (pv 3)) pe_str))) pss_nil) (pss_one (ps_ret (pe_op op_add_str (pe_op op_add_str (pv 2) pe_str) (pv 3)))))) pss_nil)
  (pss_cons (ps_if (pt_cmpR op_eq (pe_ix ix_tup (pe_ix ix_tup (pv 0) pe_int (fun _ _ => rfl)) pe_int (fun _ _ => rfl)) pe_str (nomark _)) (pss_one (ps_set (i := 3) sc_formula_text.nd rfl (.inl rfl) (pe_op op_add_str (pe_op op_add_str pe_str (pv 3)) pe_str))) pss_nil) (pss_one (ps_ret (pe_op op_add_str (pe_op op_add_str (pv 2) pe_str) (pv 3)))))))))))), ?_⟩
      cases f with
      | yes =>
        obtain ⟨a, rfl, h⟩ := hf
        refine ⟨_, rfl, a, _, 0, _, rfl, rfl, h, atI_nat (j := 0) rfl, _, rfl, rfl, true, sEq rfl, q H (Same.refl H)⟩
      | no =>
        obtain ⟨a, rfl, h⟩ := hf
        refine ⟨_, rfl, a, _, 0, _, rfl, rfl, h, atI_nat (j := 0) rfl, _, rfl, rfl, false, sNe (by decide +kernel), ?_⟩
        exact ⟨_, rfl, rfl, true, sEq rfl, q H (Same.refl H)⟩
      | name z =>
        obtain ⟨a, rfl, h⟩ := hf
        refine ⟨_, rfl, a, _, 0, _, rfl, rfl, h, atI_nat (j := 0) rfl, _, rfl, rfl, false, sNe (by decide +kernel), ?_⟩
        refine ⟨_, rfl, rfl, false, sNe (by decide +kernel), ?_⟩
        exact ⟨_, rfl, rfl, true, sEq rfl, _, rfl, a, _, 1, _, rfl, rfl, h, atI_nat (j := 1) rfl, q H (Same.refl H)⟩
      | not f =>
        obtain ⟨a, u, rfl, h, hf⟩ := hf
        have hw : f.wt + 10 ≤ 1000 := hw
        have hd : f.dep + 1 < n + 1 := hd
        have sl := f.std_len
        refine ⟨_, rfl, a, _, 0, _, rfl, rfl, h, atI_nat (j := 0) rfl, _, rfl, rfl, false, sNe (by decide +kernel), ?_⟩
        refine ⟨_, rfl, rfl, false, sNe (by decide +kernel), ?_⟩
        refine ⟨_, rfl, rfl, false, sNe (by decide +kernel), ?_⟩
        refine ⟨_, rfl, a, _, 1, _, rfl, rfl, h, atI_nat (j := 1) rfl, f, u, rfl, hf, by omega, by omega, fun H1 s1 => ?_⟩
        obtain ⟨b, r, rfl, hb⟩ := hf.at_
        refine ⟨_, rfl, rfl, true, sEq rfl, ?_⟩
        refine ⟨_, rfl, a, _, 1, _, rfl, rfl, same_seqT s1 h, atI_nat (j := 1) rfl, b, _, 0, _, rfl, rfl, same_seqT s1 hb, atI_nat (j := 0) rfl, by decide, fun p hp => ?_⟩
        have s2 : Same H1 (upd H1 p (.tup [.str "and", .str "or"])) := same_upd hp
        refine ⟨p, _, rfl, .inr (.inl (.inl upd_same)), rfl, rfl, f.isBin, tag_bin f, ?_⟩
        have fin : Q (.str (Fm.not f).std) (upd H1 p (.tup [.str "and", .str "or"])) := q _ (s1.trans s2)
        unfold Fm.std at fin
        cases hb : f.isBin with
        | true =>
          rw [hb] at fin
          refine ⟨_, rfl, _, _, rfl, rfl, big_str ?_, _, _, rfl, rfl, big_str ?_, fin⟩
          · rw [show ("!(" : Str).length = 2 from by decide +kernel]
            omega
          · rw [len_app, show ("!(" : Str).length = 2 from by decide +kernel, show (")" : Str).length = 1 from by decide +kernel]
            omega
        | false =>
          rw [hb] at fin
          refine ⟨_, rfl, _, _, rfl, rfl, big_str ?_, fin⟩
          rw [show ("!" : Str).length = 1 from by decide +kernel]
          omega
      | and f g =>
        obtain ⟨a, u, x, rfl, h, hf, hg⟩ := hf
        have hw : f.wt + g.wt + 12 ≤ 1000 := hw
        have hd : max f.dep g.dep + 1 < n + 1 := hd
        have sl := f.std_len
        have sr := g.std_len
        refine ⟨_, rfl, a, _, 0, _, rfl, rfl, h, atI_nat (j := 0) rfl, _, rfl, rfl, false, sNe (by decide +kernel), ?_⟩
        refine ⟨_, rfl, rfl, false, sNe (by decide +kernel), ?_⟩
        refine ⟨_, rfl, rfl, false, sNe (by decide +kernel), ?_⟩
        refine ⟨_, rfl, a, _, 1, _, rfl, rfl, h, atI_nat (j := 1) rfl, f, u, rfl, hf, by omega, by omega, fun H1 s1 => ?_⟩
        refine ⟨_, rfl, rfl, false, sNe (by decide +kernel), ?_⟩
        refine ⟨_, rfl, a, _, 2, _, rfl, rfl, same_seqT s1 h, atI_nat (j := 2) rfl, g, x, rfl, hg.keep (same_tups s1), by omega, by omega, fun H2 s2 => ?_⟩
        have h2 := same_seqT (s1.trans s2) h
        obtain ⟨b, rf, rfl, hb⟩ := (hf.keep (same_tups (s1.trans s2))).at_
        obtain ⟨c, rg, rfl, hc⟩ := (hg.keep (same_tups (s1.trans s2))).at_
        refine ⟨_, rfl, rfl, true, sEq rfl, ?_⟩
        refine ⟨_, rfl, a, _, 1, _, rfl, rfl, h2, atI_nat (j := 1) rfl, b, _, 0, _, rfl, rfl, hb, atI_nat (j := 0) rfl, rfl, f.isOr, tag_or f, ?_⟩
        have fin : ∀ p, H2 p = none → Q (.str (Fm.and f g).std) (upd H2 p (.tup [.str "and", .str "or"])) := fun p hp => q _ ((s1.trans s2).trans (same_upd hp))
        unfold Fm.std par at fin
        cases eo : f.isOr with
        | true =>
          refine ⟨_, rfl, _, _, rfl, rfl, big_str (by rw [l_lp]; omega), _, _, rfl, rfl, big_str (by rw [len_app, l_lp, l_rp]; omega), ?_⟩
          refine ⟨_, rfl, a, _, 2, _, rfl, rfl, h2, atI_nat (j := 2) rfl, c, _, 0, _, rfl, rfl, hc, atI_nat (j := 0) rfl, by decide, fun p hp => ?_⟩
          have fin := fin p hp
          refine ⟨p, _, rfl, .inr (.inl (.inl upd_same)), rfl, rfl, g.isBin, tag_bin g, ?_⟩
          cases eb : g.isBin with
          | true =>
            rw [eo, eb] at fin
            refine ⟨_, rfl, _, _, rfl, rfl, big_str (by rw [l_lp]; omega), _, _, rfl, rfl, big_str (by rw [len_app, l_lp, l_rp]; omega), ?_⟩
            exact ⟨_, rfl, _, _, rfl, rfl, big_str (by rw [len_app, len_app, l_lp, l_rp, l_am]; omega), _, rfl, _, _, rfl, rfl, big_str (by rw [len_app, len_app, len_app, len_app, len_app, l_lp, l_rp, l_am]; omega), fin⟩
          | false =>
            rw [eo, eb] at fin
            exact ⟨_, rfl, _, _, rfl, rfl, big_str (by rw [len_app, len_app, l_lp, l_rp, l_am]; omega), _, rfl, _, _, rfl, rfl, big_str (by rw [len_app, len_app, len_app, l_lp, l_rp, l_am]; omega), fin⟩
        | false =>
          refine ⟨_, rfl, a, _, 2, _, rfl, rfl, h2, atI_nat (j := 2) rfl, c, _, 0, _, rfl, rfl, hc, atI_nat (j := 0) rfl, by decide, fun p hp => ?_⟩
          have fin := fin p hp
          refine ⟨p, _, rfl, .inr (.inl (.inl upd_same)), rfl, rfl, g.isBin, tag_bin g, ?_⟩
          cases eb : g.isBin with
          | true =>
            rw [eo, eb] at fin
            refine ⟨_, rfl, _, _, rfl, rfl, big_str (by rw [l_lp]; omega), _, _, rfl, rfl, big_str (by rw [len_app, l_lp, l_rp]; omega), ?_⟩
            exact ⟨_, rfl, _, _, rfl, rfl, big_str (by rw [l_am]; omega), _, rfl, _, _, rfl, rfl, big_str (by rw [len_app, len_app, len_app, l_lp, l_rp, l_am]; omega), fin⟩
          | false =>
            rw [eo, eb] at fin
            exact ⟨_, rfl, _, _, rfl, rfl, big_str (by rw [l_am]; omega), _, rfl, _, _, rfl, rfl, big_str (by rw [len_app, l_am]; omega), fin⟩
      | or f g =>
        obtain ⟨a, u, x, rfl, h, hf, hg⟩ := hf
        have hw : f.wt + g.wt + 12 ≤ 1000 := hw
        have hd : max f.dep g.dep + 1 < n + 1 := hd
        have sl := f.std_len
        have sr := g.std_len
        refine ⟨_, rfl, a, _, 0, _, rfl, rfl, h, atI_nat (j := 0) rfl, _, rfl, rfl, false, sNe (by decide +kernel), ?_⟩
        refine ⟨_, rfl, rfl, false, sNe (by decide +kernel), ?_⟩
        refine ⟨_, rfl, rfl, false, sNe (by decide +kernel), ?_⟩
        refine ⟨_, rfl, a, _, 1, _, rfl, rfl, h, atI_nat (j := 1) rfl, f, u, rfl, hf, by omega, by omega, fun H1 s1 => ?_⟩
        refine ⟨_, rfl, rfl, false, sNe (by decide +kernel), ?_⟩
        refine ⟨_, rfl, a, _, 2, _, rfl, rfl, same_seqT s1 h, atI_nat (j := 2) rfl, g, x, rfl, hg.keep (same_tups s1), by omega, by omega, fun H2 s2 => ?_⟩
        have h2 := same_seqT (s1.trans s2) h
        obtain ⟨b, rf, rfl, hb⟩ := (hf.keep (same_tups (s1.trans s2))).at_
        obtain ⟨c, rg, rfl, hc⟩ := (hg.keep (same_tups (s1.trans s2))).at_
        refine ⟨_, rfl, rfl, false, sNe (by decide +kernel), ?_⟩
        refine ⟨_, rfl, a, _, 2, _, rfl, rfl, h2, atI_nat (j := 2) rfl, c, _, 0, _, rfl, rfl, hc, atI_nat (j := 0) rfl, rfl, g.isOr, tag_or g, ?_⟩
        have fin : Q (.str (Fm.or f g).std) H2 := q _ (s1.trans s2)
        unfold Fm.std par at fin
        cases eo : g.isOr with
        | true =>
          rw [eo] at fin
          refine ⟨_, rfl, _, _, rfl, rfl, big_str (by rw [l_lp]; omega), _, _, rfl, rfl, big_str (by rw [len_app, l_lp, l_rp]; omega), ?_⟩
          exact ⟨_, rfl, _, _, rfl, rfl, big_str (by rw [l_ba]; omega), _, rfl, _, _, rfl, rfl, big_str (by rw [len_app, len_app, len_app, l_lp, l_rp, l_ba]; omega), fin⟩
        | false =>
          rw [eo] at fin
          exact ⟨_, rfl, _, _, rfl, rfl, big_str (by rw [l_ba]; omega), _, rfl, _, _, rfl, rfl, big_str (by rw [len_app, l_ba]; omega), fin⟩
end
end K77

set_option maxRecDepth 100000
set_option maxHeartbeats 4000000
/-! K7Bx: list.extend(tuple). -/
namespace K77
open PySem PySem.Spec PyProof.Rows L2 KG TL

theorem meets_extT (l : Addr) (items : Array Value) (n : Nat) (b : Addr) (items2 : Array Value) (n2 : Nat) (dt : Option Addr) (sl : Array (Option Value)) (long : ¬(!items.isEmpty && Builtin.List.listTooLong (items.size + items2.size)) = true) (fits : items.size ≤ sizeLine)
    (both : items.size + items2.size ≤ sizeLine + 1) :
    Meets (Builtin.«list.extend» ⟨[.ref l, .ref b], []⟩) (fun _ R s => s.heap.get? l = some { cls := .type "list", dict := none, data := .seq items n, slots := #[] } ∧ s.heap.get? b = some ⟨.type "tuple", dt, .seq items2 n2, sl⟩ ∧
      R (.ok (.ret Value.none)) { s with heap := s.heap.update l (Obj.mapSeq fun x => x ++ items2), toks := s.toks }) := by
  refine .of_wp fun prog w A R s h => ?_
  obtain ⟨heap, gens, drawn, toks, os⟩ := s
  obtain ⟨hl, hb, h⟩ := h
  have f2 := sub_tuple_tuple
  have f3 := sub_list_list
  have f4 := sub_tuple_list
  have f5 := sub_list_tuple
  have size2 : (items ++ items2).size ≤ sizeLine + 1 := by
    rw [Array.size_append]
    exact both
  wp_walk using (wpAny_updateSeq hl rfl (hz := fits) (_hz' := size2)), wpAny_loadPart' hl, wpAny_loadPart' hb
  exact ⟨_, rfl, h⟩
/-- xs.extend(t), t a tuple -/
def rExtT (K : PySem.W.Frag) : V → List V → Hp → VK → Prop := fun x vs H Q => ∃ (l b : Addr) (xs zs : List V), x = .ref l ∧ vs = [.ref b] ∧ H l = some (.lst xs) ∧ SqT K H b zs ∧ xs.length + zs.length ≤ 10000 ∧ Q .non (upd H l (.lst (xs ++ zs)))
theorem mt_extendT {X : Cx} : MtM X "list.extend" (rExtT X.K) := by
  intro pins s σ H x v vs us Q I rx rv h
  obtain ⟨l, b, xs, zs, rfl, rfl, hH, hB, hz, q⟩ := h
  cases rx
  obtain ⟨u, rfl, ru⟩ := rv.one
  cases ru
  obtain ⟨z, its, n, r, hl, e⟩ := I.lstM hH
  obtain ⟨its2, r2, ⟨o2, e2, c2, n2, d2⟩, hz2⟩ := I.tuple hB
  obtain ⟨oc, od, odt, osl⟩ := o2
  obtain rfl : oc = .type "tuple" := c2
  obtain rfl : odt = .seq its2.toArray n2 := d2
  have big : (10000 : Nat) ≤ sizeLine := by decide
  have e1 : its.length = xs.length := r.length.symm
  have e3 : its2.length = zs.length := r2.length.symm
  have hsz : its.toArray.size + its2.toArray.size ≤ sizeLine := by
    rw [List.size_toArray, List.size_toArray]
    omega
  refine call_meets PySem.F.slot_list_extend ⟨_, e, rfl⟩ PySem.F.entry_list_extend (PySem.F.args_list_extend_2 _ _)
    (meets_extT l its.toArray n b its2.toArray n2 od osl (extend_door hsz) (Nat.le_trans (Nat.le_add_right _ _) hsz) (by omega)) ⟨e, e2, ?_⟩
  refine ⟨.non, _, I.lset (its' := its ++ its2) hH e (by simp) (r.append r2) ?_, rfl, q⟩
  rw [List.length_append]
  omega
end K77

set_option maxRecDepth 100000
set_option maxHeartbeats 4000000
/-! K7C: formula_names, conjoin. -/
namespace K77
open PySem PySem.Spec PyProof.Rows L2 KG TL

def Fm.names : Fm → List Str
  | .name z => [z]
  | .not f => f.names
  | .and a b => a.names ++ b.names
  | .or a b => a.names ++ b.names
  | _ => []
def Fm.lv : Fm → Nat
  | .name _ => 1
  | .not f => f.lv
  | .and a b => a.lv + b.lv
  | .or a b => a.lv + b.lv
  | _ => 0
theorem Fm.lv_wt : ∀ f : Fm, 5 * f.lv ≤ f.wt
  | .yes => by show 5 * 0 ≤ 6; omega
  | .no => by show 5 * 0 ≤ 6; omega
  | .name z => by show 5 * 1 ≤ z.length + 5; omega
  | .not f => by
    have := f.lv_wt
    show 5 * f.lv ≤ f.wt + 10
    omega
  | .and a b => by
    have := a.lv_wt
    have := b.lv_wt
    show 5 * (a.lv + b.lv) ≤ a.wt + b.wt + 12
    omega
  | .or a b => by
    have := a.lv_wt
    have := b.lv_wt
    show 5 * (a.lv + b.lv) ≤ a.wt + b.wt + 12
    omega
/-- what is left to be looked at, the last of the list first -/
abbrev Stk := List (Fm × V)
def Stk.vs (s : Stk) : List V := (s.map (·.2)).reverse
def Stk.wt (s : Stk) : Nat := (s.map (·.1.wt)).sum
def Stk.lv (s : Stk) : Nat := (s.map (·.1.lv)).sum
theorem stk_vs (p : Fm × V) (s : Stk) : Stk.vs (p :: s) = Stk.vs s ++ [p.2] := by
  unfold Stk.vs
  rw [List.map_cons, List.reverse_cons]
theorem stk_wt (p : Fm × V) (s : Stk) : Stk.wt (p :: s) = p.1.wt + Stk.wt s := by
  unfold Stk.wt
  rw [List.map_cons, List.sum_cons]
theorem stk_lv (p : Fm × V) (s : Stk) : Stk.lv (p :: s) = p.1.lv + Stk.lv s := by
  unfold Stk.lv
  rw [List.map_cons, List.sum_cons]
theorem stk_len (s : Stk) : (Stk.vs s).length = s.length := by
  unfold Stk.vs
  rw [List.length_reverse, List.length_map]
theorem last_of {xs : List V} {y : V} : (xs ++ [y])[(xs ++ [y]).length - 1]? = some y := by
  rw [List.length_append, List.length_singleton, Nat.add_sub_cancel, List.getElem?_append_right (Nat.le_refl _), Nat.sub_self]
  rfl
theorem cut1 (x : V) (xs : List V) : cutV (x :: xs) (some 1) none = xs := by
  unfold cutV
  rw [show HT.sIx (x :: xs).length 0 (some 1) = min 1 (x :: xs).length from HT.sIx_nat (x :: xs).length 0 1, HT.sIx_none, show min 1 (x :: xs).length = 1 from Nat.min_eq_left (by rw [List.length_cons]; omega)]
  show List.take ((x :: xs).length - 1) xs = xs
  rw [List.length_cons, Nat.add_sub_cancel]
  exact List.take_length
theorem notAll (x y : V) (xs : List V) : ¬ (HT.sIx (x :: xs).length 0 (some 1) = 0 ∧ HT.sIx (x :: xs).length (x :: xs).length none = (x :: xs).length) := fun z => by
  have e := z.1
  rw [show HT.sIx (x :: xs).length 0 (some 1) = min 1 (x :: xs).length from HT.sIx_nat (x :: xs).length 0 1, show min 1 (x :: xs).length = 1 from Nat.min_eq_left (by rw [List.length_cons]; omega)] at e
  cases e
theorem put_mem {kvs : List (Key × V)} {k : Key} {v : V} {q : Key × V} (h : q ∈ putK kvs k v) : q.1 = k ∨ ∃ r ∈ kvs, r.1 = q.1 := by
  unfold putK at h
  split at h
  · obtain ⟨r, hr, e⟩ := List.mem_map.mp h
    right
    refine ⟨r, hr, ?_⟩
    rw [← e]
    split <;> rfl
  · rcases List.mem_append.mp h with h | h
    · exact .inr ⟨q, h, rfl⟩
    · rw [List.mem_singleton.mp h]
      exact .inl rfl
theorem put_len (kvs : List (Key × V)) (k : Key) (v : V) : (putK kvs k v).length ≤ kvs.length + 1 := by
  unfold putK
  split
  · rw [List.length_map]
    omega
  · rw [List.length_append, List.length_singleton]
    omega

theorem Fm.wpos : ∀ g : Fm, 5 ≤ g.wt
  | .yes => by show 5 ≤ 6; omega
  | .no => by show 5 ≤ 6; omega
  | .name z => by show 5 ≤ z.length + 5; omega
  | .not f => by show 5 ≤ f.wt + 10; omega
  | .and a b => by show 5 ≤ a.wt + b.wt + 12; omega
  | .or a b => by show 5 ≤ a.wt + b.wt + 12; omega
theorem stk_small : ∀ s : Stk, s.length ≤ Stk.wt s
  | [] => Nat.zero_le _
  | x :: r => by
    have := stk_small r
    have := x.1.wpos
    rw [stk_wt, List.length_cons]
    omega
theorem stk_app_vs (a b : Stk) : Stk.vs (a ++ b) = Stk.vs b ++ Stk.vs a := by
  unfold Stk.vs
  rw [List.map_append, List.reverse_append]
theorem stk_app_wt (a b : Stk) : Stk.wt (a ++ b) = Stk.wt a + Stk.wt b := by
  unfold Stk.wt
  rw [List.map_append, List.sum_append]
theorem stk_app_lv (a b : Stk) : Stk.lv (a ++ b) = Stk.lv a + Stk.lv b := by
  unfold Stk.lv
  rw [List.map_append, List.sum_append]
theorem keys_of {f : Fm} : ∀ kvs : List (Key × V), (∀ q ∈ kvs, ∃ z ∈ f.names, q.1 = Sum.inr z) → ∃ ks : List Str, kvs.map (·.1) = ks.map Sum.inr ∧ (∀ y ∈ ks, y ∈ f.names) ∧ ks.length = kvs.length
  | [], _ => ⟨[], rfl, fun _ z => (nomatch z), rfl⟩
  | q :: r, keys => by
    obtain ⟨ks, e, h, l⟩ := keys_of r fun x hx => keys x (List.mem_cons_of_mem _ hx)
    obtain ⟨z, hz, e2⟩ := keys q List.mem_cons_self
    refine ⟨z :: ks, by rw [List.map_cons, List.map_cons, e2, e], fun y hy => ?_, congrArg (· + 1) l⟩
    rcases List.mem_cons.mp hy with hy | hy
    · rw [hy]
      exact hz
    · exact h y hy
/-- the parts of what is no name -/
theorem kids_of {K : PySem.W.Frag} {H : Hp} {g : Fm} {u : V} (h : Fml K H g u) : (∃ a z, g = .name z ∧ u = .ref a ∧ SqT K H a [.str "name", .str z]) ∨
    ∃ (a : Addr) (ks : Stk), u = .ref a ∧ SqT K H a (.str g.tag :: Stk.vs ks) ∧ g.tag ≠ "name" ∧ (∀ x ∈ ks, Fml K H x.1 x.2) ∧ (∀ x ∈ ks, ∀ y ∈ x.1.names, y ∈ g.names) ∧ Stk.lv ks ≤ g.lv ∧ Stk.wt ks < g.wt ∧ ks.length ≤ 2 := by
  cases g with
  | name z =>
    obtain ⟨a, e, h⟩ := h
    exact .inl ⟨a, z, rfl, e, h⟩
  | yes =>
    obtain ⟨a, e, h⟩ := h
    exact .inr ⟨a, [], e, h, show ("yes" : Str) ≠ "name" by decide +kernel, fun _ z => (nomatch z), fun _ z => (nomatch z), Nat.le_refl _, Nat.succ_pos _, Nat.zero_le _⟩
  | no =>
    obtain ⟨a, e, h⟩ := h
    exact .inr ⟨a, [], e, h, show ("no" : Str) ≠ "name" by decide +kernel, fun _ z => (nomatch z), fun _ z => (nomatch z), Nat.le_refl _, Nat.succ_pos _, Nat.zero_le _⟩
  | not f =>
    obtain ⟨a, v, e, h, hf⟩ := h
    refine .inr ⟨a, [(f, v)], e, h, show ("not" : Str) ≠ "name" by decide +kernel, fun x hx => ?_, fun x hx y hy => ?_, ?_, ?_, by show 1 ≤ 2; decide⟩
    · rw [List.mem_singleton.mp hx]
      exact hf
    · rw [List.mem_singleton.mp hx] at hy
      exact hy
    · show f.lv + 0 ≤ f.lv
      omega
    · show f.wt + 0 < f.wt + 10
      omega
  | and f k =>
    obtain ⟨a, v, x, e, h, hf, hk⟩ := h
    refine .inr ⟨a, [(k, x), (f, v)], e, h, show ("and" : Str) ≠ "name" by decide +kernel, fun p hp => ?_, fun p hp y hy => ?_, ?_, ?_, by show 2 ≤ 2; decide⟩
    · rcases List.mem_cons.mp hp with e | hp
      · rw [e]
        exact hk
      · rw [List.mem_singleton.mp hp]
        exact hf
    · rcases List.mem_cons.mp hp with e | hp
      · rw [e] at hy
        exact List.mem_append_right _ hy
      · rw [List.mem_singleton.mp hp] at hy
        exact List.mem_append_left _ hy
    · show k.lv + (f.lv + 0) ≤ f.lv + k.lv
      omega
    · show k.wt + (f.wt + 0) < f.wt + k.wt + 12
      omega
  | or f k =>
    obtain ⟨a, v, x, e, h, hf, hk⟩ := h
    refine .inr ⟨a, [(k, x), (f, v)], e, h, show ("or" : Str) ≠ "name" by decide +kernel, fun p hp => ?_, fun p hp y hy => ?_, ?_, ?_, by show 2 ≤ 2; decide⟩
    · rcases List.mem_cons.mp hp with e | hp
      · rw [e]
        exact hk
      · rw [List.mem_singleton.mp hp]
        exact hf
    · rcases List.mem_cons.mp hp with e | hp
      · rw [e] at hy
        exact List.mem_append_right _ hy
      · rw [List.mem_singleton.mp hp] at hy
        exact List.mem_append_left _ hy
    · show k.lv + (f.lv + 0) ≤ f.lv + k.lv
      omega
    · show k.wt + (f.wt + 0) < f.wt + k.wt + 12
      omega

section
variable {P : Program} {w : World} {K : PySem.W.Frag} {mg : Str → Option Value} {base : Heap}
def spFNames (K : PySem.W.Frag) : Sp := fun vs H Q _ => ∃ (f : Fm) (v : V), vs = [v] ∧ Fml K H f v ∧ f.wt ≤ 300 ∧ ∀ (H' : Hp) (p : Addr) (ys : List Str), Same H H' → H p = none → H' p = some (.lst (ys.map V.str)) → (∀ y ∈ ys, y ∈ f.names) → ys.length < 64 → Q (.ref p) H'
/-- what stands while the formula is looked through -/
structure NmInv (K : PySem.W.Frag) (f : Fm) (v : V) (fo pd : Addr) (H0 : Hp) (stk : Stk) (kvs : List (Key × V)) (H : Hp) : Prop where
  same : Same H0 H
  pend : H pd = some (.lst (Stk.vs stk))
  found : H fo = some (.dK kvs)
  fml : ∀ p ∈ stk, Fml K H p.1 p.2
  sub : ∀ p ∈ stk, ∀ y ∈ p.1.names, y ∈ f.names
  keys : ∀ q ∈ kvs, ∃ z ∈ f.names, q.1 = Sum.inr z
  few : kvs.length + Stk.lv stk ≤ f.lv
  small : stk.length ≤ Stk.wt stk ∧ Stk.wt stk ≤ 300
theorem ok_formula_names (T : Tx K mg) : FnOk P w K mg base CX0 1 T.a_formula_names T.f_formula_names ["formula"] (spFNames K) := by
  refine T.F_formula_names.ok sc_formula_names (fun vs H Q E h => ?_) (fun cdv A outer s H vs Q E hr h => ?_)
  · obtain ⟨f, v, rfl, _⟩ := h
    rfl
  · obtain ⟨f, v, rfl, hf, hw, q⟩ := h
    have hu := hu_of hr
    refine ⟨_, (pss_cons (ps_set (i := 1) sc_formula_names.nd rfl (.inl rfl) pe_dnewK)
  (pss_cons (ps_set (i := 2) sc_formula_names.nd rfl (.inl rfl) (pe_lst (pa_cons (pv 0) pa_nil)))
  (pss_cons (ps_while PassesOwn.never (pt_truth (pv 2) (by intro _; rfl))
    (pss_cons (ps_set (i := 3) sc_formula_names.nd rfl (.inl rfl) (pe_bm0 PySem.F.plainAttrs_list PySem.F.slot_list_pop PySem.F.type_list_pop mt_pop (pv 2))) (pss_one (ps_if (pt_cmpR op_eq (pe_ix ix_tup (pv 3) pe_int (fun _ _ => rfl)) pe_str (nomark _)) (pss_one (ps_dput hu (pv 1) (pe_ix ix_tup (pv 3) pe_int (fun _ _ => rfl)) pe_bl rfl)) (pss_one (ps_expr (pe_bm PySem.F.plainAttrs_list PySem.F.slot_list_extend PySem.F.type_list_extend mt_extendT (pv 2) (pa_cons (pe_slice sl_tup (pv 3) (po_some pe_int) po_none) pa_nil))))))))
  (pss_one (ps_ret (pe_callB (call_sortedD rfl) (by rfl) T.b_sorted (by decide +kernel) (pa_cons (pv 1) pa_nil))))))), ?_⟩
    refine fun fo nfo => ⟨_, rfl, by show 1 ≤ sizeLine; decide, fun pd npd => ?_⟩
    have s1 : Same H (upd H fo (.dK [])) := same_upd nfo
    have s2 : Same (upd H fo (.dK [])) (upd (upd H fo (.dK [])) pd (.lst [v])) := same_upd npd
    have hpf : fo ≠ pd := ne_of_none upd_same npd
    have nH : ∀ {b : Addr} {o : HO}, H b = some o → b ≠ fo ∧ b ≠ pd := fun e => ⟨ne_of_none e nfo, ne_of_none (s1 _ _ e) npd⟩
    refine ⟨fun m σ H' => ∃ stk kvs y3, m = Stk.wt stk ∧ σ = [some v, some (.ref fo), some (.ref pd), y3] ∧ NmInv K f v fo pd H stk kvs H',
      ⟨_, [(f, v)], [], none, rfl, rfl, s1.trans s2, upd_same, (upd_ne hpf).trans upd_same, fun p hp => ?_, fun p hp y hy => ?_, fun _ z => (nomatch z), ?_, ?_⟩, fun m σ H1 hW => ?_⟩
    · rw [List.mem_singleton.mp hp]
      exact hf.keep (same_tups (s1.trans s2))
    · rw [List.mem_singleton.mp hp] at hy
      exact hy
    · show 0 + (f.lv + 0) ≤ f.lv
      omega
    · have := f.wpos
      refine ⟨?_, ?_⟩
      · show 1 ≤ f.wt + 0
        omega
      · show f.wt + 0 ≤ 300
        omega
    · obtain ⟨stk, kvs, y3, rfl, rfl, I⟩ := hW
      have npf : ∀ {b : Addr} {o : HO}, H b = some o → b ≠ fo ∧ b ≠ pd := nH
      cases stk with
      | nil =>
        refine ⟨_, rfl, false, .inl ⟨_, .inl (.inl I.pend), rfl⟩, ?_⟩
        have lv := f.lv_wt
        have few := I.few
        have few : kvs.length + 0 ≤ f.lv := few
        obtain ⟨ks, ek, hk, lk⟩ := keys_of kvs I.keys
        refine ⟨_, rfl, fo, kvs, ks, rfl, .inl I.found, ek, by omega, fun ys p perm _ np => ?_⟩
        exact q _ p ys (I.same.trans (same_upd np)) (Same.free I.same np) upd_same (fun y hy => hk y (perm.mem_iff.mp hy)) (by rw [perm.length_eq]; omega)
      | cons p stk =>
        have ev := stk_vs p stk
        have pend := I.pend
        rw [ev] at pend
        have ne : (Stk.vs stk ++ [p.2]).isEmpty = false := by simp
        refine ⟨_, rfl, true, .inl ⟨_, .inl (.inl pend), by rw [ne]; rfl⟩, ?_⟩
        refine ⟨fun σ' H' => ∃ m', m' < Stk.wt (p :: stk) ∧ ∃ stk' kvs' y3, m' = Stk.wt stk' ∧ σ' = [some v, some (.ref fo), some (.ref pd), y3] ∧ NmInv K f v fo pd H stk' kvs' H', fun _ _ h => h, ?_⟩
        -- part = pending.pop()
        refine ⟨_, rfl, .inl ⟨rfl, _, .inl (.inl pend)⟩, pd, _, p.2, rfl, rfl, pend, last_of, ?_⟩
        rw [List.dropLast_concat]
        have tp : Tups H1 (upd H1 pd (.lst (Stk.vs stk))) := but_tups but_upd pend
        have hp : Fml K H1 p.1 p.2 := I.fml p List.mem_cons_self
        have few := I.few
        have small := I.small
        rw [stk_lv] at few
        rw [stk_wt] at small
        have small : stk.length + 1 ≤ p.1.wt + Stk.wt stk ∧ p.1.wt + Stk.wt stk ≤ 300 := small
        have f2 : (upd H1 pd (.lst (Stk.vs stk))) fo = some (.dK kvs) := (upd_ne hpf).trans I.found
        have sm2 : ∀ b o, H b = some o → (upd H1 pd (.lst (Stk.vs stk))) b = some o := fun b o e => (upd_ne (npf e).2).trans (I.same _ _ e)
        have rest : ∀ x ∈ stk, Fml K (upd H1 pd (.lst (Stk.vs stk))) x.1 x.2 := fun x hx => (I.fml x (List.mem_cons_of_mem _ hx)).keep tp
        have lsm := stk_small stk
        obtain ⟨g, u⟩ := p
        rcases kids_of hp with ⟨a, z, rfl, rfl, ht⟩ | ⟨a, ks, rfl, ht, nn, kf, kn, kl, kw, k2⟩
        · have ht := tp.seqT ht
          refine ⟨_, rfl, a, _, 0, _, rfl, rfl, ht, atI_nat (j := 0) rfl, rfl, true, sEq rfl, ?_⟩
          refine ⟨_, rfl, _, rfl, a, _, 1, _, rfl, rfl, ht, atI_nat (j := 1) rfl, fo, _, rfl, DPut.k (k := Sum.inr z) f2 ?_, ?_⟩
          · have := f.lv_wt
            have few : kvs.length + (1 + Stk.lv stk) ≤ f.lv := few
            exact small1000 (by omega)
          have t3 : Tups (upd H1 pd (.lst (Stk.vs stk))) (upd (upd H1 pd (.lst (Stk.vs stk))) fo (.dK (putK kvs (Sum.inr z) (.bl true)))) := fun b xs e => by
            rcases e with e | ⟨o, e⟩
            · exact .inl ((upd_ne (ne_of e f2 (by intro z; cases z))).trans e)
            · exact .inr ⟨o, (upd_ne (ne_of e f2 (by intro z; cases z))).trans e⟩
          refine ⟨_, ?_, stk, _, _, rfl, rfl, fun b o e => (upd_ne (npf e).1).trans (sm2 b o e), (upd_ne hpf.symm).trans upd_same, upd_same, fun x hx => (rest x hx).keep t3, fun x hx => I.sub x (List.mem_cons_of_mem _ hx), fun x hx => ?_, ?_, lsm, ?_⟩
          · rw [stk_wt]
            have := (Fm.name z).wpos
            show Stk.wt stk < (Fm.name z).wt + Stk.wt stk
            omega
          · rcases put_mem hx with e | ⟨r, hr, e⟩
            · exact ⟨z, I.sub _ List.mem_cons_self z List.mem_cons_self, e⟩
            · rw [← e]
              exact I.keys r hr
          · have := put_len kvs (Sum.inr z) (.bl true)
            have few : kvs.length + (1 + Stk.lv stk) ≤ f.lv := few
            omega
          · omega
        · have ht := tp.seqT ht
          have kw : Stk.wt ks < g.wt := kw
          have kl : Stk.lv ks ≤ g.lv := kl
          refine ⟨_, rfl, a, _, 0, _, rfl, rfl, ht, atI_nat (j := 0) rfl, rfl, false, sNe nn, ?_⟩
          have p2 : (upd H1 pd (.lst (Stk.vs stk))) pd = some (.lst (Stk.vs stk)) := upd_same
          refine ⟨_, rfl, .inl ⟨rfl, _, .inl (.inl p2)⟩, _, rfl, 1, rfl, a, _, rfl, ht, notAll _ (.non) _, fun c nc => ?_⟩
          rw [cut1]
          have hcp : pd ≠ c := ne_of_none p2 nc
          have hcf : fo ≠ c := ne_of_none f2 nc
          have s4 : Same (upd H1 pd (.lst (Stk.vs stk))) (upd (upd H1 pd (.lst (Stk.vs stk))) c (.tup (Stk.vs ks))) := same_upd nc
          have p3 := s4 _ _ p2
          refine ⟨pd, c, _, _, rfl, rfl, p3, .inl (.inl upd_same), ?_, ?_⟩
          · have small : stk.length + 1 ≤ g.wt + Stk.wt stk ∧ g.wt + Stk.wt stk ≤ 300 := small
            rw [stk_len, stk_len]
            omega
          have t5 := (same_tups s4).trans (but_tups (but_upd (H := (upd (upd H1 pd (.lst (Stk.vs stk))) c (.tup (Stk.vs ks)))) (o := .lst (Stk.vs stk ++ Stk.vs ks))) p3)
          refine ⟨_, ?_, ks ++ stk, kvs, _, rfl, rfl, fun b o e => (upd_ne (npf e).2).trans (s4 _ _ (sm2 b o e)), ?_, (upd_ne hpf).trans (s4 _ _ f2), fun x hx => ?_, fun x hx y hy => ?_, I.keys, ?_, stk_small _, ?_⟩
          · rw [stk_app_wt, stk_wt]
            show Stk.wt ks + Stk.wt stk < g.wt + Stk.wt stk
            omega
          · rw [stk_app_vs]
            exact upd_same
          · rcases List.mem_append.mp hx with hx | hx
            · exact (kf x hx).keep (tp.trans t5)
            · exact (rest x hx).keep t5
          · rcases List.mem_append.mp hx with hx | hx
            · exact I.sub _ List.mem_cons_self y (kn x hx y hy)
            · exact I.sub x (List.mem_cons_of_mem _ hx) y hy
          · rw [stk_app_lv]
            have few : kvs.length + (g.lv + Stk.lv stk) ≤ f.lv := few
            omega
          · rw [stk_app_wt]
            have small : stk.length + 1 ≤ g.wt + Stk.wt stk ∧ g.wt + Stk.wt stk ≤ 300 := small
            omega
end
end K77

set_option maxRecDepth 100000
set_option maxHeartbeats 4000000
/-! K7D: conjoin; read_atom, apply_nots, apply_operators, close_group. -/
namespace K77
open PySem PySem.Spec PyProof.Rows L2 KG TL

section
variable {P : Program} {w : World} {K : PySem.W.Frag} {mg : Str → Option Value} {base : Heap}
/-- a switch or its negation -/
def Fm.lit (f : Fm) : Prop := ∃ z, NameOk z ∧ (f = .name z ∨ f = .not (.name z))
theorem sign_lt : ∀ c ∈ tl "abcdefghijklmnopqrstuvwxyz0123456789", c < 123 := by decide +kernel
theorem name_str {z : Str} (h : NameOk z) : PyData.strOk z = true := by
  unfold PyData.strOk
  rw [Array.all_eq_true']
  intro c hc
  have := sign_lt c (h.signs c (Array.mem_toList_iff.mpr hc))
  exact decide_eq_true (by omega)
theorem str_name : PyData.strOk "name" = true := by decide +kernel
theorem str_not : PyData.strOk "not" = true := by decide +kernel
theorem str_yes : PyData.strOk "yes" = true := by decide +kernel
theorem str_no : PyData.strOk "no" = true := by decide +kernel
theorem lit_data {H : Hp} {f : Fm} {v : V} (l : f.lit) (h : Fml K H f v) : ∃ x y, Dp K H v (.tuple [x, y]) ∧ SeqAt.shaped (.tuple [x, y]) = true := by
  obtain ⟨z, nz, rfl | rfl⟩ := l
  all_goals have sz := name_str nz
  · obtain ⟨a, rfl, h⟩ := h
    exact ⟨_, _, .tup h (.cons (.str _) (.cons (.str _) .nil)), by simp [SeqAt.shaped, PyData.canLay0, PyData.canLayAll0, PyData.depth, PyData.depthAll, str_name, str_not, sz]⟩
  · obtain ⟨a, u, rfl, h, b, rfl, h2⟩ := h
    exact ⟨_, _, .tup h (.cons (.str _) (.cons (.tup h2 (.cons (.str _) (.cons (.str _) .nil))) .nil)), by simp [SeqAt.shaped, PyData.canLay0, PyData.canLayAll0, PyData.depth, PyData.depthAll, str_name, str_not, sz]⟩
def spConjoin (K : PySem.W.Frag) (aY : Addr) : Sp := fun vs H Q _ => ∃ (f : Fm) (v : V), vs = [.ref aY, v] ∧ Fml K H f v ∧ f.lit ∧ Q v H
theorem ok_conjoin (T : Tx K mg) : FnOk P w K mg base CX0 1 T.a_conjoin T.f_conjoin ["first", "second"] (spConjoin K T.A_YES) := by
  refine T.F_conjoin.ok sc_conjoin (fun vs H Q E h => ?_) (fun cdv A outer s H vs Q E hr h => ?_)
  · obtain ⟨f, v, rfl, _⟩ := h
    rfl
  · obtain ⟨f, v, rfl, hf, hl, q⟩ := h
    refine ⟨_, (pss_cons (ps_if (PW.pt (pw_or (pt_cmpR (op_eqD hr.units) (pv 0) (pe_gref (by rfl) T.m_NO) (nomark _)) (pw_or1 (pt_cmpR (op_eqD hr.units) (pv 1) (pe_gref (by rfl) T.m_NO) (nomark _))))) (pss_one (ps_ret (pe_gref (by rfl) T.m_NO))) pss_nil)
  (pss_cons (ps_if (pt_cmpR (op_eqD hr.units) (pv 0) (pe_gref (by rfl) T.m_YES) (nomark _)) (pss_one (ps_ret (pv 1))) pss_nil)
  (pss_cons (ps_if (pt_cmpR (op_eqD hr.units) (pv 1) (pe_gref (by rfl) T.m_YES) (nomark _)) (pss_one (ps_ret (pv 0))) pss_nil) (pss_one (ps_ret (pe_tup (pa_cons pe_str (pa_cons (pv 0) (pa_cons (pv 1) pa_nil))))))))), ?_⟩
    have dY : Dp K H (.ref T.A_YES) (.tuple [.str "yes"]) := .tup (T.t_YES H) (.cons (.str _) .nil)
    have dN : Dp K H (.ref T.A_NO) (.tuple [.str "no"]) := .tup (T.t_NO H) (.cons (.str _) .nil)
    obtain ⟨x, y, dv, sv⟩ := lit_data hl hf
    have sY : SeqAt.shaped (.tuple [.str "yes"]) = true := by simp [SeqAt.shaped, PyData.canLay0, PyData.canLayAll0, PyData.depth, PyData.depthAll, str_name, str_not, str_yes, str_no]
    have sN : SeqAt.shaped (.tuple [.str "no"]) = true := by simp [SeqAt.shaped, PyData.canLay0, PyData.canLayAll0, PyData.depth, PyData.depthAll, str_name, str_not, str_yes, str_no]
    refine ⟨_, rfl, _, _, dY, dN, sY, sN, false, congrArg V.bl (by simp [PyData.eqv, PyData.eqvAll]; decide +kernel), ?_⟩
    refine ⟨_, rfl, _, _, dv, dN, sv, sN, false, congrArg V.bl (by simp [PyData.eqv, PyData.eqvAll]), ?_⟩
    refine ⟨_, rfl, _, _, dY, dY, sY, sY, true, congrArg V.bl (by simp [PyData.eqv, PyData.eqvAll]), ?_⟩
    exact ⟨_, rfl, q⟩
end
end K77

set_option maxRecDepth 100000
set_option maxHeartbeats 4000000
/-! K7E: read_atom, apply_nots, apply_operators, close_group. -/
namespace K77
open PySem PySem.Spec PyProof.Rows L2 KG TL

/-! ### the reader's two lists -/
inductive Mk where
  | bang | lp | amp | bar
def Mk.str : Mk → Str
  | .bang => "!" | .lp => "(" | .amp => "&" | .bar => "|"
def mks (ms : List Mk) : List V := (ms.map fun m => V.str m.str).reverse
theorem mks_cons (m : Mk) (ms : List Mk) : mks (m :: ms) = mks ms ++ [.str m.str] := by
  unfold mks
  rw [List.map_cons, List.reverse_cons]
theorem mks_len (ms : List Mk) : (mks ms).length = ms.length := by
  unfold mks
  rw [List.length_reverse, List.length_map]
def fms (st : Stk) : List Fm := st.map (·.1)
/-- the two lists and what they hold -/
structure Two (K : PySem.W.Frag) (H : Hp) (a b : Addr) (st : Stk) (ms : List Mk) : Prop where
  vals : H a = some (.lst (Stk.vs st))
  marks : H b = some (.lst (mks ms))
  fml : ∀ p ∈ st, Fml K H p.1 p.2
  ne : a ≠ b
  few : st.length ≤ 1000 ∧ ms.length ≤ 1000
/-- all but the two objects stands -/
def But2 (a b : Addr) (H H' : Hp) : Prop := ∀ c o, c ≠ a → c ≠ b → H c = some o → H' c = some o
theorem But2.refl (a b : Addr) (H : Hp) : But2 a b H H := fun _ _ _ _ h => h
theorem But2.trans {a b : Addr} {H H1 H2 : Hp} (x : But2 a b H H1) (y : But2 a b H1 H2) : But2 a b H H2 := fun c o n m h => y c o n m (x c o n m h)
theorem same_but2 {a b : Addr} {H H' : Hp} (x : Same H H') : But2 a b H H' := fun c o _ _ h => x c o h
theorem but2_l {a b : Addr} {H : Hp} {o : HO} : But2 a b H (upd H a o) := fun c x n _ h => (upd_ne n).trans h
theorem but2_r {a b : Addr} {H : Hp} {o : HO} : But2 a b H (upd H b o) := fun c x _ n h => (upd_ne n).trans h

/-! ### what they do -/
def nots : Fm → List Mk → Fm × List Mk
  | f, .bang :: ms => nots (.not f) ms
  | f, ms => (f, ms)
inductive Ops (w : Bool) : List Fm → List Mk → List Fm → List Mk → Prop
  | and {l r : Fm} {fs fs' : List Fm} {ms ms' : List Mk} : Ops w (.and l r :: fs) ms fs' ms' → Ops w (r :: l :: fs) (.amp :: ms) fs' ms'
  | or {l r : Fm} {fs fs' : List Fm} {ms ms' : List Mk} : w = false → Ops w (.or l r :: fs) ms fs' ms' → Ops w (r :: l :: fs) (.bar :: ms) fs' ms'
  | nil {fs : List Fm} : Ops w fs [] fs []
  | lp {fs : List Fm} {ms : List Mk} : Ops w fs (.lp :: ms) fs (.lp :: ms)
  | bar {fs : List Fm} {ms : List Mk} : w = true → Ops w fs (.bar :: ms) fs (.bar :: ms)
  | bang {fs : List Fm} {ms : List Mk} : Ops w fs (.bang :: ms) fs (.bang :: ms)

section
variable {P : Program} {w : World} {K : PySem.W.Frag} {mg : Str → Option Value} {base : Heap}
inductive Atom : Str → Fm → Prop
  | yes : Atom "1" .yes
  | no : Atom "0" .no
  | name {z : Str} : NameOk z → Atom z (.name z)
theorem name_ne {z : Str} (h : NameOk z) : z ≠ "1" ∧ z ≠ "0" := by
  obtain ⟨c, r, e, m⟩ := h.head
  have hl : ∀ c ∈ tl "abcdefghijklmnopqrstuvwxyz", 97 ≤ c := by decide +kernel
  have := hl c m
  refine ⟨fun z1 => ?_, fun z1 => ?_⟩
  · rw [z1, show tl "1" = [49] by decide +kernel] at e
    injection e with e1 _
    omega
  · rw [z1, show tl "0" = [48] by decide +kernel] at e
    injection e with e1 _
    omega
def spAtom (K : PySem.W.Frag) : Sp := fun vs H Q _ => ∃ (z : Str) (f : Fm), vs = [.str z] ∧ Atom z f ∧ ∀ H' v, Same H H' → Fml K H' f v → Q v H'
theorem ok_read_atom (T : Tx K mg) : FnOk P w K mg base CX0 2 T.a_read_atom T.f_read_atom ["word"] (spAtom K) := by
  refine T.F_read_atom.ok sc_read_atom (fun vs H Q E h => ?_) (fun cdv A outer s H vs Q E hr h => ?_)
  · obtain ⟨z, f, rfl, _⟩ := h
    rfl
  · obtain ⟨z, f, rfl, ha, q⟩ := h
    refine ⟨_, (pss_cons (ps_if (pt_cmpR op_eq (pv 0) pe_str (nomark _)) (pss_one (ps_ret (pe_gref (by rfl) T.m_YES))) pss_nil)
  (pss_cons (ps_if (pt_cmpR op_eq (pv 0) pe_str (nomark _)) (pss_one (ps_ret (pe_gref (by rfl) T.m_NO))) pss_nil)
  (pss_cons (ps_if (pt_not (pt_val (pe_call (ok_is_name T) hr (by rfl) T.m_is_name T.F_is_name.kp T.B_is_name .nil pass0 (pa_cons (pv 0) pa_nil)))) (pss_one ps_never) pss_nil) (pss_one (ps_ret (pe_tup (pa_cons pe_str (pa_cons (pv 0) pa_nil)))))))), ?_⟩
    cases ha with
    | yes => exact ⟨_, rfl, rfl, true, sEq rfl, q H _ (Same.refl H) ⟨_, rfl, T.t_YES H⟩⟩
    | no => exact ⟨_, rfl, rfl, false, sNe (by decide +kernel), _, rfl, rfl, true, sEq rfl, q H _ (Same.refl H) ⟨_, rfl, T.t_NO H⟩⟩
    | name nz =>
      refine ⟨_, rfl, rfl, false, sNe (name_ne nz).1, _, rfl, rfl, false, sNe (name_ne nz).2, ?_⟩
      refine ⟨_, rfl, z, rfl, nz, fun H1 s1 => ⟨true, rfl, ?_⟩⟩
      exact ⟨_, rfl, by show 2 ≤ sizeLine; decide, fun p np => q _ _ (s1.trans (same_upd np)) ⟨p, rfl, .inl (.inl upd_same)⟩⟩

def spNots (K : PySem.W.Frag) : Sp := fun vs H Q _ => ∃ (a b : Addr) (f : Fm) (v : V) (st : Stk) (ms : List Mk), vs = [.ref a, .ref b] ∧ Two K H a b ((f, v) :: st) ms ∧
  ∀ H' v', But2 a b H H' → Two K H' a b (((nots f ms).1, v') :: st) (nots f ms).2 → Q .non H'
theorem ok_apply_nots (T : Tx K mg) : FnOk P w K mg base CX0 1 T.a_apply_nots T.f_apply_nots ["values", "marks"] (spNots K) := by
  refine T.F_apply_nots.ok sc_apply_nots (fun vs H Q E h => ?_) (fun cdv A outer s H vs Q E hr h => ?_)
  · obtain ⟨a, b, f, v, st, ms, rfl, _⟩ := h
    rfl
  · obtain ⟨a, b, f, v, st, ms, rfl, h2, q⟩ := h
    refine ⟨_, (pss_one (ps_while PassesOwn.never (PW.pt (pw_and (pt_truth (pv 1) (by intro _; rfl)) (pw_and1 (pt_cmpR op_eq (pe_ix ix_list (pv 1) (pe_un un_neg pe_int) (fun _ _ => rfl)) pe_str (nomark _)))))
    (pss_cons (ps_expr (pe_bm0 PySem.F.plainAttrs_list PySem.F.slot_list_pop PySem.F.type_list_pop mt_pop (pv 1))) (pss_one (ps_expr (pe_bm PySem.F.plainAttrs_list PySem.F.slot_list_append PySem.F.type_list_append mt_append (pv 0) (pa_cons (pe_tup (pa_cons pe_str (pa_cons (pe_bm0 PySem.F.plainAttrs_list PySem.F.slot_list_pop PySem.F.type_list_pop mt_pop (pv 0)) pa_nil))) pa_nil))))))), ?_⟩
    refine ⟨fun m σ H1 => ∃ f1 v1 ms1, m = ms1.length ∧ σ = [some (.ref a), some (.ref b)] ∧ But2 a b H H1 ∧ Two K H1 a b ((f1, v1) :: st) ms1 ∧ nots f1 ms1 = nots f ms, ⟨_, f, v, ms, rfl, rfl, But2.refl _ _ _, h2, rfl⟩, fun m σ H1 hW => ?_⟩
    obtain ⟨f1, v1, ms1, rfl, rfl, bu, tw, en⟩ := hW
    cases ms1 with
    | nil =>
      refine ⟨_, rfl, false, .inl ⟨_, .inl (.inl tw.marks), rfl⟩, ?_⟩
      show Q .non H1
      refine q H1 v1 bu ?_
      rw [← en]
      exact tw
    | cons m ms1 =>
      have hm := tw.marks
      rw [mks_cons] at hm
      have ne : (mks ms1 ++ [V.str m.str]).isEmpty = false := by simp
      have step : ∀ b' : Bool, V.bl (decide (V.str m.str = V.str "!")) = V.bl b' → (b' = true → m = .bang) → (b' = false → nots f1 (m :: ms1) = (f1, m :: ms1)) → True := fun _ _ _ _ => trivial
      refine ⟨_, rfl, true, .inl ⟨_, .inl (.inl hm), by rw [ne]; rfl⟩, ?_⟩
      refine ⟨_, rfl, 1, rfl, b, _, -1, _, rfl, rfl, .inl (.inl hm), atI_last _ _, ?_⟩
      have stop : (nots f1 (m :: ms1) = (f1, m :: ms1)) → Q .non H1 := fun e => by
        refine q H1 v1 bu ?_
        rw [← en, e]
        exact tw
      cases m with
      | lp => exact ⟨rfl, false, sNe (by decide +kernel), stop rfl⟩
      | amp => exact ⟨rfl, false, sNe (by decide +kernel), stop rfl⟩
      | bar => exact ⟨rfl, false, sNe (by decide +kernel), stop rfl⟩
      | bang =>
        refine ⟨rfl, true, sEq rfl, ?_⟩
        refine ⟨fun σ' H' => ∃ m', m' < (Mk.bang :: ms1).length ∧ ∃ f1 v1 ms1, m' = ms1.length ∧ σ' = [some (.ref a), some (.ref b)] ∧ But2 a b H H' ∧ Two K H' a b ((f1, v1) :: st) ms1 ∧ nots f1 ms1 = nots f ms, fun _ _ h => h, ?_⟩
        refine ⟨_, rfl, .inl ⟨rfl, _, .inl (.inl hm)⟩, b, _, _, rfl, rfl, hm, last_of, ?_⟩
        rw [List.dropLast_concat]
        have ha := tw.vals
        rw [stk_vs] at ha
        have ha2 : (upd H1 b (.lst (mks ms1))) a = some (.lst (Stk.vs st ++ [v1])) := (upd_ne tw.ne).trans ha
        have t2 : Tups H1 (upd H1 b (.lst (mks ms1))) := but_tups but_upd hm
        refine ⟨_, rfl, .inl ⟨rfl, _, .inl (.inl ha2)⟩, ?_⟩
        refine ⟨_, rfl, .inl ⟨rfl, _, .inl (.inl ha2)⟩, a, _, v1, rfl, rfl, ha2, last_of, ?_⟩
        rw [List.dropLast_concat]
        refine ⟨by show 2 ≤ sizeLine; decide, fun p np => ?_⟩
        have t3 : Tups (upd H1 b (.lst (mks ms1))) (upd (upd H1 b (.lst (mks ms1))) a (.lst (Stk.vs st))) := but_tups but_upd ha2
        have s4 := same_upd (o := .tup [.str "not", v1]) np
        have a3 : (upd (upd H1 b (.lst (mks ms1))) a (.lst (Stk.vs st))) a = some (.lst (Stk.vs st)) := upd_same
        have b3 : (upd (upd H1 b (.lst (mks ms1))) a (.lst (Stk.vs st))) b = some (.lst (mks ms1)) := (upd_ne tw.ne.symm).trans upd_same
        have a4 := s4 _ _ a3
        have b4 := s4 _ _ b3
        have few := tw.few
        have few : st.length + 1 ≤ 1000 ∧ ms1.length + 1 ≤ 1000 := few
        refine ⟨a, _, _, rfl, rfl, a4, by rw [stk_len]; exact small1000 (by omega), ?_⟩
        have t5 := but_tups (but_upd (o := .lst (Stk.vs st ++ [.ref p]))) a4
        have tt := ((t2.trans t3).trans (same_tups s4)).trans t5
        have pp : (upd (upd (upd (upd H1 b (.lst (mks ms1))) a (.lst (Stk.vs st))) p (.tup [.str "not", v1])) a (.lst (Stk.vs st ++ [.ref p]))) p = some (.tup [.str "not", v1]) := (upd_ne (ne_of_none a3 np).symm).trans upd_same
        refine ⟨_, Nat.lt_succ_self _, .not f1, .ref p, ms1, rfl, rfl, bu.trans ((but2_r.trans but2_l).trans ((same_but2 s4).trans but2_l)), ⟨?_, (upd_ne tw.ne.symm).trans b4, fun x hx => ?_, tw.ne, few.1, by omega⟩, en⟩
        · rw [stk_vs]
          exact upd_same
        · rcases List.mem_cons.mp hx with e | hx
          · rw [e]
            exact ⟨p, v1, rfl, .inl (.inl pp), (tw.fml _ List.mem_cons_self).keep tt⟩
          · exact (tw.fml x (List.mem_cons_of_mem _ hx)).keep tt
end
end K77

set_option maxRecDepth 100000
set_option maxHeartbeats 4000000
/-! K7F: apply_operators, close_group. -/
namespace K77
open PySem PySem.Spec PyProof.Rows L2 KG TL

/-- a stack's bottom below two values -/
theorem two_top {K : PySem.W.Frag} {H : Hp} {a b : Addr} {st : Stk} {ms : List Mk} (t : Two K H a b st ms) {r l : Fm} {fs : List Fm} (e : fms st = r :: l :: fs) : ∃ u v st0, st = (r, u) :: (l, v) :: st0 ∧ fms st0 = fs := by
  match st, e with
  | (r', u) :: (l', v) :: st0, e =>
    have e : r' :: l' :: fms st0 = r :: l :: fs := e
    injection e with e1 e
    injection e with e2 e
    exact ⟨u, v, st0, by rw [e1, e2], e⟩

section
variable {K : PySem.W.Frag} {H H' : Hp} {a b : Addr} {st : Stk} {ms : List Mk} {m : Mk} {p : Fm × V}
theorem Two.popm (t : Two K H a b st (m :: ms)) : H b = some (.lst (mks ms ++ [.str m.str])) ∧ Two K (upd H b (.lst (mks ms))) a b st ms ∧ Tups H (upd H b (.lst (mks ms))) := by
  have hm := t.marks
  rw [mks_cons] at hm
  have tp : Tups H (upd H b (.lst (mks ms))) := but_tups but_upd hm
  have few := t.few
  have few : st.length ≤ 1000 ∧ ms.length + 1 ≤ 1000 := few
  exact ⟨hm, ⟨(upd_ne t.ne).trans t.vals, upd_same, fun x hx => (t.fml x hx).keep tp, t.ne, few.1, by omega⟩, tp⟩
theorem Two.popv (t : Two K H a b (p :: st) ms) : H a = some (.lst (Stk.vs st ++ [p.2])) ∧ Two K (upd H a (.lst (Stk.vs st))) a b st ms ∧ Fml K (upd H a (.lst (Stk.vs st))) p.1 p.2 ∧ Tups H (upd H a (.lst (Stk.vs st))) := by
  have hv := t.vals
  rw [stk_vs] at hv
  have tp : Tups H (upd H a (.lst (Stk.vs st))) := but_tups but_upd hv
  have few := t.few
  have few : st.length + 1 ≤ 1000 ∧ ms.length ≤ 1000 := few
  exact ⟨hv, ⟨upd_same, (upd_ne t.ne.symm).trans t.marks, fun x hx => (t.fml x (List.mem_cons_of_mem _ hx)).keep tp, t.ne, by omega, few.2⟩, (t.fml p List.mem_cons_self).keep tp, tp⟩
theorem Two.same (t : Two K H a b st ms) (s : Same H H') : Two K H' a b st ms := ⟨s _ _ t.vals, s _ _ t.marks, fun x hx => (t.fml x hx).keep (same_tups s), t.ne, t.few⟩
theorem Two.push (t : Two K H a b st ms) (h : Fml K H p.1 p.2) (l : st.length + 1 ≤ 1000) : Two K (upd H a (.lst (Stk.vs st ++ [p.2]))) a b (p :: st) ms ∧ Tups H (upd H a (.lst (Stk.vs st ++ [p.2]))) := by
  have tp : Tups H (upd H a (.lst (Stk.vs st ++ [p.2]))) := but_tups but_upd t.vals
  refine ⟨⟨?_, (upd_ne t.ne.symm).trans t.marks, fun x hx => ?_, t.ne, l, t.few.2⟩, tp⟩
  · rw [stk_vs]
    exact upd_same
  · rcases List.mem_cons.mp hx with e | hx
    · rw [e]
      exact h.keep tp
    · exact (t.fml x hx).keep tp
theorem Two.pushm (t : Two K H a b st ms) (l : ms.length + 1 ≤ 1000) : Two K (upd H b (.lst (mks ms ++ [.str m.str]))) a b st (m :: ms) ∧ Tups H (upd H b (.lst (mks ms ++ [.str m.str]))) := by
  have tp : Tups H (upd H b (.lst (mks ms ++ [.str m.str]))) := but_tups but_upd t.marks
  refine ⟨⟨(upd_ne t.ne).trans t.vals, ?_, fun x hx => (t.fml x hx).keep tp, t.ne, t.few.1, l⟩, tp⟩
  rw [mks_cons]
  exact upd_same
theorem Two.room (t : Two K H a b st ms) : (Stk.vs st).length < sizeLine ∧ (mks ms).length < sizeLine := by
  rw [stk_len, mks_len]
  exact ⟨small1000 t.few.1, small1000 t.few.2⟩
end
theorem or_same {c : Bool} {A B : Prop} (h : A) (hb : c = false → A → B) : if c = true then A else B := by
  cases c with
  | true => exact h
  | false => exact hb rfl h
theorem not_op {m : Mk} (h : m ≠ .amp ∧ m ≠ .bar) : V.bl (inV (.str m.str) [.str "&", .str "|"]) = V.bl false := by
  cases m with
  | bang => exact congrArg V.bl (show inV (.str "!") [.str "&", .str "|"] = false by decide +kernel)
  | lp => exact congrArg V.bl (show inV (.str "(") [.str "&", .str "|"] = false by decide +kernel)
  | amp => exact absurd rfl h.1
  | bar => exact absurd rfl h.2
theorem is_op {m : Mk} (h : m = .amp ∨ m = .bar) : V.bl (inV (.str m.str) [.str "&", .str "|"]) = V.bl true := by
  rcases h with rfl | rfl
  · exact congrArg V.bl (show inV (.str "&") [.str "&", .str "|"] = true by decide +kernel)
  · exact congrArg V.bl (show inV (.str "|") [.str "&", .str "|"] = true by decide +kernel)
theorem sNn {a b : Str} (h : a ≠ b) : V.bl (!decide (V.str a = V.str b)) = V.bl true := congrArg V.bl (by rw [decide_eq_false fun e => h (V.str.inj e)]; rfl)
theorem sNeq {a b : Str} (h : a = b) : V.bl (!decide (V.str a = V.str b)) = V.bl false := congrArg V.bl (by rw [decide_eq_true (congrArg V.str h)]; rfl)

section
variable {P : Program} {w : World} {K : PySem.W.Frag} {mg : Str → Option Value} {base : Heap}
def spOps (K : PySem.W.Frag) : Sp := fun vs H Q _ => ∃ (a b : Addr) (z : Str) (st : Stk) (ms ms' : List Mk) (fs' : List Fm), vs = [.ref a, .ref b, .str z] ∧ Two K H a b st ms ∧ Ops (decide (z = "&")) (fms st) ms fs' ms' ∧
  ∀ H' st', But2 a b H H' → Two K H' a b st' ms' → fms st' = fs' → Q .non H'
theorem ok_apply_operators (T : Tx K mg) : FnOk P w K mg base CX0 1 T.a_apply_operators T.f_apply_operators ["values", "marks", "word"] (spOps K) := by
  refine T.F_apply_operators.ok sc_apply_operators (fun vs H Q E h => ?_) (fun cdv A outer s H vs Q E hr h => ?_)
  · obtain ⟨a, b, z, st, ms, ms', fs', rfl, _⟩ := h
    rfl
  · obtain ⟨a, b, z, st, ms, ms', fs', rfl, h2, ho, q⟩ := h
    refine ⟨_, (pss_one (ps_while PassesOwn.never (PW.pt (pw_and (pt_truth (pv 1) (by intro _; rfl)) (pw_and (pt_cmpR op_in_seq (pe_ix ix_list (pv 1) (pe_un un_neg pe_int) (fun _ _ => rfl)) (pe_tup (pa_cons pe_str (pa_cons pe_str pa_nil))) rfl) (pw_and1 (PW.pt (pw_or (pt_cmpR op_eq (pe_ix ix_list (pv 1) (pe_un un_neg pe_int) (fun _ _ => rfl)) pe_str (nomark _)) (pw_or1 (pt_cmpR op_ne (pv 2) pe_str (nomark _)))))))))
    (pss_cons (ps_set (i := 3) sc_apply_operators.nd rfl (.inl rfl) (pe_bm0 PySem.F.plainAttrs_list PySem.F.slot_list_pop PySem.F.type_list_pop mt_pop (pv 1)))
    (pss_cons (ps_set (i := 4) sc_apply_operators.nd rfl (.inl rfl) (pe_bm0 PySem.F.plainAttrs_list PySem.F.slot_list_pop PySem.F.type_list_pop mt_pop (pv 0)))
    (pss_cons (ps_set (i := 5) sc_apply_operators.nd rfl (.inl rfl) (pe_bm0 PySem.F.plainAttrs_list PySem.F.slot_list_pop PySem.F.type_list_pop mt_pop (pv 0))) (pss_one (ps_expr (pe_bm PySem.F.plainAttrs_list PySem.F.slot_list_append PySem.F.type_list_append mt_append (pv 0) (pa_cons (pe_tup (pa_cons (pe_ifExp (pt_cmpR op_eq (pv 3) pe_str (nomark _)) pe_str pe_str) (pa_cons (pv 5) (pa_cons (pv 4) pa_nil)))) pa_nil))))))))), ?_⟩
    let W : Nat → L2.St → Hp → Prop := fun m σ H1 => ∃ st1 ms1 y3 y4 y5, m = ms1.length ∧ σ = [some (.ref a), some (.ref b), some (.str z), y3, y4, y5] ∧ But2 a b H H1 ∧ Two K H1 a b st1 ms1 ∧ Ops (decide (z = "&")) (fms st1) ms1 fs' ms'
    refine ⟨W, ⟨_, st, ms, none, none, none, rfl, rfl, But2.refl _ _ _, h2, ho⟩, fun m σ H1 hW => ?_⟩
    obtain ⟨st1, ms1, y3, y4, y5, rfl, rfl, bu, tw, op⟩ := hW
    have stop : ∀ H2, Same H1 H2 → fs' = fms st1 → ms' = ms1 → Q .non H2 := fun H2 s e1 e2 => by
      refine q H2 st1 (bu.trans (same_but2 s)) ?_ e1.symm
      rw [e2]
      exact tw.same s
    cases ms1 with
    | nil =>
      refine ⟨_, rfl, false, .inl ⟨_, .inl (.inl tw.marks), rfl⟩, ?_⟩
      generalize fms st1 = fl at op stop
      cases op with
      | nil => exact stop H1 (Same.refl _) rfl rfl
    | cons m ms1 =>
      have hm := tw.marks
      rw [mks_cons] at hm
      have ne : (mks ms1 ++ [V.str m.str]).isEmpty = false := by simp
      refine ⟨_, rfl, true, .inl ⟨_, .inl (.inl hm), by rw [ne]; rfl⟩, ?_⟩
      refine ⟨_, rfl, 1, rfl, b, _, -1, _, rfl, rfl, .inl (.inl hm), atI_last _ _, by show 2 ≤ sizeLine; decide, fun c nc => ?_⟩
      have s1 : Same H1 (upd H1 c (.tup [.str "&", .str "|"])) := same_upd nc
      have tw1 := tw.same s1
      have hm1 := s1 _ _ hm
      by_cases hop : m = .amp ∨ m = .bar
      · refine ⟨c, _, rfl, .inr (.inl (.inl upd_same)), rfl, rfl, true, is_op hop, ?_⟩
        refine ⟨_, rfl, 1, rfl, b, _, -1, _, rfl, rfl, .inl (.inl hm1), atI_last _ _, rfl, ?_⟩
        by_cases hst : m = .bar ∧ z = "&"
        · obtain ⟨rfl, rfl⟩ := hst
          refine ⟨false, sNe (by decide +kernel), _, rfl, rfl, false, sNeq rfl, ?_⟩
          generalize fms st1 = fl at op stop
          cases op with
          | or w _ => exact absurd w (by decide +kernel)
          | bar _ => exact stop _ s1 rfl rfl
        · obtain ⟨r, l, fs, g, ef, op2, eg, mkg⟩ : ∃ (r l : Fm) (fs : List Fm) (g : Fm), fms st1 = r :: l :: fs ∧ Ops (decide (z = "&")) (g :: fs) ms1 fs' ms' ∧ V.str g.tag = (if V.bl (decide (V.str m.str = V.str "&")) = .bl true then .str "and" else .str "or") ∧
              ∀ (H3 : Hp) (p : Addr) (u v : V), H3 p = some (.tup [.str g.tag, v, u]) → Fml K H3 r u → Fml K H3 l v → Fml K H3 g (.ref p) := by
            generalize ec : fms st1 = fl at op
            cases op with
            | and op => exact ⟨_, _, _, _, rfl, op, by rw [sEq (a := Mk.amp.str) (b := "&") rfl, if_pos rfl]; rfl, fun H3 p u v e hu hv => ⟨p, v, u, rfl, .inl (.inl e), hv, hu⟩⟩
            | or _ op => exact ⟨_, _, _, _, rfl, op, by rw [sNe (a := Mk.bar.str) (b := "&") (by decide +kernel), if_neg (by intro z; cases z)]; rfl, fun H3 p u v e hu hv => ⟨p, v, u, rfl, .inl (.inl e), hv, hu⟩⟩
            | bar w => exact absurd ⟨rfl, of_decide_eq_true w⟩ hst
            | lp => rcases hop with e | e <;> cases e
            | bang => rcases hop with e | e <;> cases e
          obtain ⟨u, v, st0, rfl, e0⟩ := two_top tw ef
          refine ⟨decide (V.str m.str = V.str "&"), rfl, or_same ?_ fun hc hA => ⟨_, rfl, rfl, true, sNn fun ez => ?_, hA⟩⟩
          · refine ⟨fun σ' H' => ∃ m', m' < (m :: ms1).length ∧ W m' σ' H', fun _ _ h => h, ?_⟩
            obtain ⟨hm2, tw2, tp2⟩ := tw1.popm
            refine ⟨_, rfl, .inl ⟨rfl, _, .inl (.inl hm2)⟩, b, _, _, rfl, rfl, hm2, last_of, ?_⟩
            rw [List.dropLast_concat]
            obtain ⟨ha3, tw3, fr3, tp3⟩ := tw2.popv
            refine ⟨_, rfl, .inl ⟨rfl, _, .inl (.inl ha3)⟩, a, _, _, rfl, rfl, ha3, last_of, ?_⟩
            rw [List.dropLast_concat]
            obtain ⟨ha4, tw4, fl4, tp4⟩ := tw3.popv
            refine ⟨_, rfl, .inl ⟨rfl, _, .inl (.inl ha4)⟩, a, _, _, rfl, rfl, ha4, last_of, ?_⟩
            rw [List.dropLast_concat]
            have few := tw.few
            have few : st0.length + 1 + 1 ≤ 1000 ∧ ms1.length + 1 ≤ 1000 := few
            refine ⟨_, rfl, .inl ⟨rfl, _, .inl (.inl tw4.vals)⟩, _, rfl, rfl, decide (V.str m.str = V.str "&"), rfl, ?_⟩
            have last : ∀ (x : V) (H5 : Hp), x = V.str g.tag → H5 = (upd (upd (upd (upd H1 c (.tup [.str "&", .str "|"])) b (.lst (mks ms1))) a (.lst (Stk.vs ((l, v) :: st0)))) a (.lst (Stk.vs st0))) →
                [x, v, u].length ≤ sizeLine ∧ ∀ p, H5 p = none → ∃ (l' : Addr) (xs : List V) (y : V), V.ref a = .ref l' ∧ [V.ref p] = [y] ∧ upd H5 p (.tup [x, v, u]) l' = some (.lst xs) ∧ xs.length < sizeLine ∧
                  ∃ m', m' < (m :: ms1).length ∧ W m' [some (.ref a), some (.ref b), some (.str z), some (.str m.str), some u, some v] (upd (upd H5 p (.tup [x, v, u])) l' (.lst (xs ++ [y]))) := fun x H5 ex e5 => by
              subst ex
              subst e5
              refine ⟨by show 3 ≤ sizeLine; decide, fun p np => ?_⟩
              have s5 := same_upd (o := .tup [.str g.tag, v, u]) np
              have tw5 := tw4.same s5
              have fu := (fr3.keep tp4).keep (same_tups s5)
              have fv := fl4.keep (same_tups s5)
              obtain ⟨tw6, _⟩ := tw5.push (p := (g, .ref p)) (mkg _ p u v upd_same fu fv) (by omega)
              refine ⟨a, _, _, rfl, rfl, tw5.vals, tw5.room.1, ms1.length, Nat.lt_succ_self _, (g, .ref p) :: st0, ms1, _, _, _, rfl, rfl, bu.trans ((same_but2 s1).trans (but2_r.trans (but2_l.trans (but2_l.trans ((same_but2 s5).trans but2_l))))), tw6, ?_⟩
              show Ops _ (g :: fms st0) ms1 fs' ms'
              rw [e0]
              exact op2
            by_cases hd : V.str m.str = V.str "&"
            · rw [decide_eq_true hd]
              rw [decide_eq_true hd, if_pos rfl] at eg
              exact ⟨_, rfl, _, rfl, last _ _ eg.symm rfl⟩
            · rw [decide_eq_false hd]
              rw [decide_eq_false hd, if_neg (by intro z; cases z)] at eg
              exact ⟨_, rfl, _, rfl, last _ _ eg.symm rfl⟩
          · rcases hop with rfl | rfl
            · rw [decide_eq_true (show V.str Mk.amp.str = V.str "&" from rfl)] at hc
              cases hc
            · exact hst ⟨rfl, ez⟩
      · refine ⟨c, _, rfl, .inr (.inl (.inl upd_same)), rfl, rfl, false, not_op ⟨fun e => hop (.inl e), fun e => hop (.inr e)⟩, ?_⟩
        generalize fms st1 = fl at op stop
        cases op with
        | and _ => exact absurd (.inl rfl) hop
        | or _ _ => exact absurd (.inr rfl) hop
        | bar _ => exact absurd (.inr rfl) hop
        | lp => exact stop _ s1 rfl rfl
        | bang => exact stop _ s1 rfl rfl
end
end K77

set_option maxRecDepth 100000
set_option maxHeartbeats 4000000
/-! K7G: close_group, formula_words. -/
namespace K77
open PySem PySem.Spec PyProof.Rows L2 KG TL

theorem nots_len : ∀ (f : Fm) (ms : List Mk), (nots f ms).2.length ≤ ms.length
  | f, .bang :: ms => Nat.le_succ_of_le (nots_len (.not f) ms)
  | f, [] => Nat.le_refl _
  | f, .lp :: ms => Nat.le_refl _
  | f, .amp :: ms => Nat.le_refl _
  | f, .bar :: ms => Nat.le_refl _
section
variable {P : Program} {w : World} {K : PySem.W.Frag} {mg : Str → Option Value} {base : Heap}
def spClose (K : PySem.W.Frag) : Sp := fun vs H Q _ => ∃ (a b : Addr) (st : Stk) (ms ms1 : List Mk) (f : Fm) (fs : List Fm), vs = [.ref a, .ref b] ∧ Two K H a b st ms ∧ Ops false (fms st) ms (f :: fs) (.lp :: ms1) ∧
  ∀ H' st', But2 a b H H' → Two K H' a b st' (nots f ms1).2 → fms st' = (nots f ms1).1 :: fs → Q .non H'
theorem ok_close_group (T : Tx K mg) : FnOk P w K mg base CX0 2 T.a_close_group T.f_close_group ["values", "marks"] (spClose K) := by
  refine T.F_close_group.ok sc_close_group (fun vs H Q E h => ?_) (fun cdv A outer s H vs Q E hr h => ?_)
  · obtain ⟨a, b, st, ms, ms1, f, fs, rfl, _⟩ := h
    rfl
  · obtain ⟨a, b, st, ms, ms1, f, fs, rfl, tw, op, q⟩ := h
    refine ⟨_, (pss_cons (ps_expr (pe_call (ok_apply_operators T) hr (by rfl) T.m_apply_operators T.F_apply_operators.kp T.B_apply_operators .nil pass0 (pa_cons (pv 0) (pa_cons (pv 1) (pa_cons pe_str pa_nil)))))
  (pss_cons (ps_if (pt_not (pt_truth (pv 1) (by intro _; rfl))) (pss_one ps_never) pss_nil)
  (pss_cons (ps_expr (pe_bm0 PySem.F.plainAttrs_list PySem.F.slot_list_pop PySem.F.type_list_pop mt_pop (pv 1))) (pss_one (ps_expr (pe_call (ok_apply_nots T) hr (by rfl) T.m_apply_nots T.F_apply_nots.kp T.B_apply_nots .nil pass0 (pa_cons (pv 0) (pa_cons (pv 1) pa_nil)))))))), ?_⟩
    refine ⟨_, rfl, _, rfl, a, b, ")", st, ms, .lp :: ms1, f :: fs, rfl, tw, ?_, fun H1 st1 b1 tw1 e1 => ?_⟩
    · rw [show decide ((")" : Str) = "&") = false by decide +kernel]
      exact op
    obtain ⟨v, st0, rfl, e0⟩ : ∃ v st0, st1 = (f, v) :: st0 ∧ fms st0 = fs := by
      match st1, e1 with
      | (f', v) :: st0, e1 =>
        have e1 : f' :: fms st0 = f :: fs := e1
        injection e1 with e2 e3
        exact ⟨v, st0, by rw [e2], e3⟩
    obtain ⟨hm, tw2, _⟩ := tw1.popm
    have ne : (mks ms1 ++ [V.str Mk.lp.str]).isEmpty = false := by simp
    refine ⟨_, rfl, true, .inl ⟨_, .inl (.inl hm), by rw [ne]; rfl⟩, ?_⟩
    refine ⟨_, rfl, .inl ⟨rfl, _, .inl (.inl hm)⟩, b, _, _, rfl, rfl, hm, last_of, ?_⟩
    rw [List.dropLast_concat]
    refine ⟨_, rfl, _, rfl, a, b, f, v, st0, ms1, rfl, tw2, fun H3 v3 b3 tw3 => ?_⟩
    exact q H3 _ (b1.trans (but2_r.trans b3)) tw3 (by show _ :: fms st0 = _; rw [e0])
end

/-! ### the words of a formula's text -/
abbrev isW (c : Nat) : Prop := c ∈ tl "abcdefghijklmnopqrstuvwxyz0123456789"
inductive Wd : List Nat → List Str → Prop
  | nil : Wd [] []
  | sp {s : List Nat} {ws : List Str} : Wd s ws → Wd (32 :: s) ws
  | sign {c : Nat} {s : List Nat} {ws : List Str} : c ∈ [33, 38, 124, 40, 41] → Wd s ws → Wd (c :: s) (⟨#[c]⟩ :: ws)
  | word {l s : List Nat} {ws : List Str} : l ≠ [] → (∀ c ∈ l, isW c) → (∀ c r, s = c :: r → ¬ isW c) → Wd s ws → Wd (l ++ s) (⟨l.toArray⟩ :: ws)
theorem cut_nat {z : Str} {i j : Nat} (h : i ≤ j) (hj : j ≤ (tl z).length) : cutS z (some (i : Int)) (some (j : Int)) = ⟨(((tl z).drop i).take (j - i)).toArray⟩ := by
  unfold cutS
  rw [HT.sIx_nat, HT.sIx_nat, len_tl, Nat.min_eq_left hj, Nat.min_eq_left (Nat.le_trans h hj)]
theorem at_drop {l : List Nat} {i c : Nat} {r : List Nat} (h : l.drop i = c :: r) : l[i]? = some c ∧ l.drop (i + 1) = r ∧ i < l.length := by
  have hi : i < l.length := by
    by_cases hi : i < l.length
    · exact hi
    · rw [List.drop_eq_nil_of_le (by omega)] at h
      cases h
  rw [List.drop_eq_getElem_cons hi] at h
  injection h with h1 h2
  exact ⟨by rw [List.getElem?_eq_getElem hi, h1], h2, hi⟩

section
variable {P : Program} {w : World} {K : PySem.W.Frag} {mg : Str → Option Value} {base : Heap}
def spWords : Sp := fun vs H Q _ => ∃ (z : Str) (ws : List Str), vs = [.str z] ∧ z.length ≤ 1000 ∧ Wd (tl z) ws ∧ ∀ H' p, Same H H' → H p = none → H' p = some (.lst (ws.map V.str)) → Q (.ref p) H'
theorem ok_formula_words (T : Tx K mg) : FnOk P w K mg base CX0 1 T.a_formula_words T.f_formula_words ["text"] spWords := by
  refine T.F_formula_words.ok sc_formula_words (fun vs H Q E h => ?_) (fun cdv A outer s H vs Q E hr h => ?_)
  · obtain ⟨z, ws, rfl, _⟩ := h
    rfl
  · obtain ⟨z, ws, rfl, hz, hw, q⟩ := h
    refine ⟨_, (pss_cons (ps_set (i := 1) sc_formula_words.nd rfl (.inl rfl) (pe_lst pa_nil))
  (pss_cons (ps_set (i := 2) sc_formula_words.nd rfl (.inl rfl) pe_int)
  (pss_cons (ps_while PassesOwn.never (pt_cmpR op_lt (pv 2) (pe_callB call_len_str (by rfl) T.b_len PySem.boot_len (pa_cons (pv 0) pa_nil)) (nomark _))
    (pss_cons (ps_set (i := 3) sc_formula_words.nd rfl (.inl rfl) (pe_op op_add (pv 2) pe_int))
    (pss_cons (ps_if (pt_cmpR op_in_sign (pe_ix ix_str (pv 0) (pv 2) (fun _ _ => rfl)) (pe_gstr (by rfl) T.c_WORD_SIGNS) rfl) (pss_one (ps_while PassesOwn.never (PW.pt (pw_and (pt_cmpR op_lt (pv 3) (pe_callB call_len_str (by rfl) T.b_len PySem.boot_len (pa_cons (pv 0) pa_nil)) (nomark _)) (pw_and1 (pt_cmpR op_in_sign (pe_ix ix_str (pv 0) (pv 3) (fun _ _ => rfl)) (pe_gstr (by rfl) T.c_WORD_SIGNS) rfl)))) (pss_one (ps_aug (i := 3) sc_formula_words.nd rfl (.inl rfl) pe_int ip_add)))) (pss_one (ps_if (pt_cmpR op_notIn_sign (pe_ix ix_str (pv 0) (pv 2) (fun _ _ => rfl)) pe_str rfl) (pss_one ps_never) pss_nil)))
    (pss_cons (ps_if (pt_cmpR op_ne (pe_ix ix_str (pv 0) (pv 2) (fun _ _ => rfl)) pe_str (nomark _)) (pss_one (ps_expr (pe_bm PySem.F.plainAttrs_list PySem.F.slot_list_append PySem.F.type_list_append mt_append (pv 1) (pa_cons (pe_slice sl_str (pv 0) (po_some (pv 2)) (po_some (pv 3))) pa_nil)))) pss_nil) (pss_one (ps_set (i := 2) sc_formula_words.nd rfl (.inl rfl) (pv 3))))))) (pss_one (ps_ret (pv 1)))))), ?_⟩
    have hlen : z.length = (tl z).length := len_tl z
    have hzl : z.length ≤ sizeLine := small_str hz (by decide)
    refine ⟨Nat.zero_le _, fun o no => ?_⟩
    have s1 : Same H (upd H o (.lst [])) := same_upd no
    let W : Nat → L2.St → Hp → Prop := fun m σ H1 => ∃ (i : Nat) (ws1 ws2 : List Str) (y3 : Option V), m = (tl z).length - i ∧ σ = [some (.str z), some (.ref o), some (.int i), y3] ∧ i ≤ (tl z).length ∧ Wd ((tl z).drop i) ws2 ∧ ws1 ++ ws2 = ws ∧ ws1.length ≤ i ∧ Same H H1 ∧ H1 o = some (.lst (ws1.map V.str))
    refine ⟨W, ⟨_, 0, [], ws, none, rfl, rfl, Nat.zero_le _, by rw [List.drop_zero]; exact hw, rfl, Nat.le_refl _, s1, upd_same⟩, fun m σ H1 hW => ?_⟩
    obtain ⟨i, ws1, ws2, y3, rfl, rfl, hi, hd, ew, wl, sm, eo⟩ := hW
    refine ⟨_, rfl, _, rfl, z, rfl, hzl, (i : Int), (z.length : Int), rfl, rfl, _, rfl, ?_⟩
    by_cases hlt : i < (tl z).length
    · rw [decide_eq_true (by omega)]
      refine ⟨fun σ' H' => ∃ m', m' < (tl z).length - i ∧ W m' σ' H', fun _ _ h => h, ?_⟩
      refine ⟨_, rfl, _, _, rfl, rfl, ?_⟩
      -- what follows a word that ends at j
      have next : ∀ (c : Nat) (j : Nat) (ws3 : List Str), (tl z)[i]? = some c → i < j → j ≤ (tl z).length → Wd ((tl z).drop j) ws3 → (if c = 32 then ws2 = ws3 else ws2 = ⟨(((tl z).drop i).take (j - i)).toArray⟩ :: ws3) →
          tSeq (tIfS (tTest (tOp rNe (tOp rIxS (tVar 0) (tVar 2)) (tC (.str " ")))) (tDrop (tBM K "list" rAppend (tVar 1) (tCons (tSl rSlS (tVar 0) (tPart (tVar 2)) (tPart (tVar 3))) tNil))) tNext) (tAsg (tVar 3) (gName 2))
            ⟨fun σ' H' => ∃ m', m' < (tl z).length - i ∧ W m' σ' H', Q, fun σ H => tRet (tVar 1) ⟨fun _ H' => Q .non H', Q, fun _ H' => Q .non H', fun _ H' => Q .non H'⟩ σ H, fun σ' H' => ∃ m', m' < (tl z).length - i ∧ W m' σ' H'⟩ [some (.str z), some (.ref o), some (.int i), some (.int j)] H1 := by
        intro c j ws3 hc hij hj h3 hws
        refine ⟨_, rfl, _, rfl, z, (i : Int), c, rfl, rfl, hzl, atI_nat hc, rfl, _, rfl, ?_⟩
        by_cases h32 : c = 32
        · rw [if_pos h32] at hws
          rw [show (V.str ⟨#[c]⟩) = V.str " " from congrArg V.str (by rw [h32]; decide +kernel), decide_eq_true rfl]
          exact ⟨_, rfl, _, (by omega : (tl z).length - j < (tl z).length - i), j, ws1, ws3, _, rfl, rfl, hj, h3, by rw [← hws]; exact ew, by omega, sm, eo⟩
        · rw [if_neg h32] at hws
          have ns : (V.str ⟨#[c]⟩) ≠ V.str " " := fun e => h32 (by
            have e1 : tl ⟨#[c]⟩ = tl (" " : Str) := congrArg tl (V.str.inj e)
            rw [show tl (" " : Str) = [32] by decide +kernel] at e1
            injection e1)
          rw [decide_eq_false ns]
          refine ⟨_, rfl, .inl ⟨rfl, _, .inl (.inl eo)⟩, _, rfl, _, rfl, _, rfl, _, rfl, _, rfl, _, rfl, hzl, o, _, _, rfl, rfl, eo, ?_, ?_⟩
          · rw [List.length_map]
            exact small1000 (by omega)
          · rw [cut_nat (Nat.le_of_lt hij) hj]
            refine ⟨_, rfl, _, (by omega : (tl z).length - j < (tl z).length - i), j, ws1 ++ [⟨(((tl z).drop i).take (j - i)).toArray⟩], ws3, _, rfl, rfl, hj, h3, ?_, ?_, fun b x e => (upd_ne (ne_of_none e no)).trans (sm b x e), ?_⟩
            · rw [List.append_assoc, List.singleton_append, ← hws]
              exact ew
            · rw [List.length_append, List.length_singleton]
              omega
            · rw [List.map_append]
              exact upd_same
      have alt : (∃ (c : Nat) (s : List Nat) (ws3 : List Str), (tl z).drop i = c :: s ∧ c ∈ [33, 38, 124, 40, 41, 32] ∧ Wd s ws3 ∧ (if c = 32 then ws2 = ws3 else ws2 = ⟨#[c]⟩ :: ws3)) ∨
          ∃ (c : Nat) (l s : List Nat) (ws3 : List Str), (tl z).drop i = c :: l ++ s ∧ (∀ c' ∈ c :: l, isW c') ∧ (∀ c r, s = c :: r → ¬ isW c) ∧ Wd s ws3 ∧ ws2 = ⟨(c :: l).toArray⟩ :: ws3 := by
        generalize es : (tl z).drop i = s0 at hd
        cases hd with
        | nil =>
          have := List.drop_eq_nil_iff.mp es
          omega
        | sp h3 => exact .inl ⟨32, _, _, rfl, by decide, h3, by rw [if_pos rfl]⟩
        | @sign c s ws3 hc h3 =>
          refine .inl ⟨c, s, ws3, rfl, List.mem_append_left [32] hc, h3, ?_⟩
          rw [if_neg (fun e => by rw [e] at hc; exact absurd hc (by decide))]
        | @word l s ws3 hne hl hs h3 =>
          cases l with
          | nil => exact absurd rfl hne
          | cons c l => exact .inr ⟨c, l, s, ws3, rfl, hl, hs, h3, rfl⟩
      rcases alt with ⟨c, s, ws3, es, hc, h3, hws⟩ | ⟨c, l, s, ws3, es, hl, hs, h3, hws⟩
      · obtain ⟨hc1, hr, _⟩ := at_drop es
        have n1 : c ∉ tl "abcdefghijklmnopqrstuvwxyz0123456789" := by
          have : ∀ c ∈ [33, 38, 124, 40, 41, 32], c ∉ tl "abcdefghijklmnopqrstuvwxyz0123456789" := by decide +kernel
          exact this c hc
        have n2 : c ∈ tl "!&|() " := by
          have : ∀ c ∈ [33, 38, 124, 40, 41, 32], c ∈ tl "!&|() " := by decide +kernel
          exact this c hc
        refine ⟨_, rfl, _, rfl, z, (i : Int), c, rfl, rfl, hzl, atI_nat hc1, c, _, rfl, rfl, _, rfl, ?_⟩
        rw [decide_eq_false n1]
        refine ⟨_, rfl, _, rfl, z, (i : Int), c, rfl, rfl, hzl, atI_nat hc1, c, _, rfl, rfl, _, rfl, ?_⟩
        rw [decide_eq_true n2]
        refine next c (i + 1) ws3 hc1 (Nat.lt_succ_self _) hlt (by rw [hr]; exact h3) ?_
        rw [es, Nat.add_sub_cancel_left]
        exact hws
      · obtain ⟨hc1, _, _⟩ := at_drop es
        have hn : i + (l.length + 1) ≤ (tl z).length := by
          have := congrArg List.length es
          rw [List.length_drop, List.length_append, List.length_cons] at this
          omega
        have hdr : (tl z).drop (i + (l.length + 1)) = s := by
          rw [← List.drop_drop, es, show l.length + 1 = (c :: l).length from rfl, List.drop_left]
        have htk : ((tl z).drop i).take (l.length + 1) = c :: l := by
          rw [es, show l.length + 1 = (c :: l).length from rfl, List.take_left]
        have hat : ∀ k, k < l.length + 1 → ∃ d, (tl z)[i + k]? = some d ∧ isW d := fun k hk => by
          have hk2 : k < (c :: l).length := hk
          refine ⟨(c :: l)[k], ?_, hl _ (List.getElem_mem hk2)⟩
          have e : ((tl z).drop i)[k]? = some (c :: l)[k] := by
            rw [es, List.getElem?_append_left hk2, List.getElem?_eq_getElem hk2]
          rw [List.getElem?_drop] at e
          exact e
        refine ⟨_, rfl, _, rfl, z, (i : Int), c, rfl, rfl, hzl, atI_nat hc1, c, _, rfl, rfl, _, rfl, ?_⟩
        rw [decide_eq_true (hl c List.mem_cons_self)]
        refine ⟨fun m σ' H' => ∃ j, m = i + (l.length + 1) - j ∧ σ' = [some (.str z), some (.ref o), some (.int i), some (.int (j : Nat))] ∧ H1 = H' ∧ i < j ∧ j ≤ i + (l.length + 1), ⟨_, i + 1, rfl, rfl, rfl, Nat.lt_succ_self _, by omega⟩, fun m σ' H' hV => ?_⟩
        obtain ⟨j, rfl, rfl, rfl, hij, hj⟩ := hV
        refine ⟨_, rfl, _, rfl, z, rfl, hzl, (j : Int), (z.length : Int), rfl, rfl, _, rfl, ?_⟩
        have args : j = i + (l.length + 1) → j ≤ (tl z).length ∧ Wd ((tl z).drop j) ws3 ∧ (if c = 32 then ws2 = ws3 else ws2 = ⟨(((tl z).drop i).take (j - i)).toArray⟩ :: ws3) := fun ej => by
          refine ⟨by omega, by rw [ej, hdr]; exact h3, ?_⟩
          rw [if_neg (fun e => by
            have h := hl c List.mem_cons_self
            rw [e] at h
            exact absurd h (by decide +kernel)), ej, Nat.add_sub_cancel_left, htk]
          exact hws
        by_cases hjl : j < (tl z).length
        · rw [decide_eq_true (by omega)]
          by_cases hje : j < i + (l.length + 1)
          · obtain ⟨d, hd1, hd2⟩ := hat (j - i) (by omega)
            rw [show i + (j - i) = j by omega] at hd1
            refine ⟨_, rfl, _, rfl, z, (j : Int), d, rfl, rfl, hzl, atI_nat hd1, d, _, rfl, rfl, _, rfl, ?_⟩
            rw [decide_eq_true hd2]
            exact ⟨fun σ' H' => ∃ m', m' < i + (l.length + 1) - j ∧ ∃ j, m' = i + (l.length + 1) - j ∧ σ' = [some (.str z), some (.ref o), some (.int i), some (.int (j : Nat))] ∧ H1 = H' ∧ i < j ∧ j ≤ i + (l.length + 1), fun _ _ h => h,
              _, rfl, _, _, rfl, rfl, _, (by omega : i + (l.length + 1) - (j + 1) < i + (l.length + 1) - j), j + 1, rfl, rfl, rfl, by omega, by omega⟩
          · have ej : j = i + (l.length + 1) := by omega
            obtain ⟨d, hd1, hd2⟩ : ∃ d, (tl z)[j]? = some d ∧ ¬ isW d := by
              cases s with
              | nil =>
                have := List.drop_eq_nil_iff.mp hdr
                omega
              | cons d r =>
                rw [← ej] at hdr
                exact ⟨d, (at_drop hdr).1, hs d r rfl⟩
            refine ⟨_, rfl, _, rfl, z, (j : Int), d, rfl, rfl, hzl, atI_nat hd1, d, _, rfl, rfl, _, rfl, ?_⟩
            rw [decide_eq_false hd2]
            obtain ⟨x1, x2, x3⟩ := args ej
            exact next c j ws3 hc1 hij x1 x2 x3
        · rw [decide_eq_false (by omega)]
          obtain ⟨x1, x2, x3⟩ := args (by omega)
          exact next c j ws3 hc1 hij x1 x2 x3
    · have ei : i = (tl z).length := by omega
      rw [decide_eq_false (by omega)]
      rw [ei, List.drop_length] at hd
      have e2 : ws2 = [] := by
        cases ws2 with
        | nil => rfl
        | cons _ _ =>
          generalize es : ([] : List Nat) = s0 at hd
          cases hd with
          | sp => cases es
          | sign => cases es
          | @word l s _ hl _ _ _ =>
            cases l with
            | nil => exact absurd rfl hl
            | cons _ _ => cases es
      rw [e2, List.append_nil] at ew
      rw [ew] at eo
      exact ⟨_, rfl, q H1 o sm no eo⟩
end
end K77

set_option maxRecDepth 100000
set_option maxHeartbeats 4000000
/-! K7H: read_formula. -/
namespace K77
open PySem PySem.Spec PyProof.Rows L2 KG TL

inductive Step : Bool → List Fm → List Mk → Str → Bool → List Fm → List Mk → Prop
  | push {fs : List Fm} {ms : List Mk} (m : Mk) : m = .bang ∨ m = .lp → Step true fs ms m.str true fs (m :: ms)
  | atom {fs : List Fm} {ms : List Mk} {z : Str} {f : Fm} : Atom z f → Step true fs ms z false ((nots f ms).1 :: fs) (nots f ms).2
  | op {fs fs' : List Fm} {ms ms' : List Mk} (m : Mk) : m = .amp ∨ m = .bar → Ops (decide (m.str = "&")) fs ms fs' ms' → Step false fs ms m.str true fs' (m :: ms')
  | close {fs fs1 : List Fm} {ms ms1 : List Mk} {f : Fm} : Ops false fs ms (f :: fs1) (.lp :: ms1) → Step false fs ms ")" false ((nots f ms1).1 :: fs1) (nots f ms1).2
inductive Run : Bool → List Fm → List Mk → List Str → Bool → List Fm → List Mk → Prop
  | nil {b : Bool} {fs : List Fm} {ms : List Mk} : Run b fs ms [] b fs ms
  | cons {b b1 b2 : Bool} {fs fs1 fs2 : List Fm} {ms ms1 ms2 : List Mk} {z : Str} {ws : List Str} : Step b fs ms z b1 fs1 ms1 → Run b1 fs1 ms1 ws b2 fs2 ms2 → Run b fs ms (z :: ws) b2 fs2 ms2
def ReadsF (ws : List Str) (f : Fm) : Prop := ∃ fs ms, Run true [] [] ws false fs ms ∧ Ops false fs ms [f] []
theorem Ops.len {w : Bool} {fs fs' : List Fm} {ms ms' : List Mk} (o : Ops w fs ms fs' ms') : fs'.length ≤ fs.length ∧ ms'.length ≤ ms.length := by
  induction o with
  | and _ ih => exact ⟨Nat.le_succ_of_le ih.1, Nat.le_succ_of_le ih.2⟩
  | or _ _ ih => exact ⟨Nat.le_succ_of_le ih.1, Nat.le_succ_of_le ih.2⟩
  | _ => exact ⟨Nat.le_refl _, Nat.le_refl _⟩
theorem fms_len (st : Stk) : (fms st).length = st.length := List.length_map ..
theorem Wd.len {l : List Nat} {ws : List Str} (h : Wd l ws) : ws.length ≤ l.length := by
  induction h with
  | nil => exact Nat.le_refl _
  | sp _ ih => exact Nat.le_succ_of_le ih
  | sign _ _ ih => exact Nat.succ_le_succ ih
  | @word l s ws hne _ _ _ ih =>
    rw [List.length_append, List.length_cons]
    have := List.length_pos_iff.mpr hne
    omega
theorem atom_no {z : Str} {f : Fm} (h : Atom z f) : V.bl (inV (.str z) [.str "!", .str "("]) = V.bl false := by
  cases h with
  | yes => exact congrArg V.bl (by decide +kernel)
  | no => exact congrArg V.bl (by decide +kernel)
  | name nz =>
    refine congrArg V.bl ?_
    obtain ⟨c, r, e, m⟩ := nz.head
    have hl : ∀ c ∈ tl "abcdefghijklmnopqrstuvwxyz", 97 ≤ c := by decide +kernel
    have := hl c m
    have ne : ∀ (x : Str) (d : Nat), tl x = [d] → d < 97 → eqV (.str x) (.str z) = false := fun x d hx hd => by
      show (x == z) = false
      rw [beq_eq_false_iff_ne]
      intro ez
      rw [← ez, hx] at e
      injection e with e1 _
      omega
    show (eqV (.str "!") (.str z) || (eqV (.str "(") (.str z) || false)) = false
    rw [ne "!" 33 (by decide +kernel) (by decide), ne "(" 40 (by decide +kernel) (by decide)]
    rfl

section
variable {P : Program} {w : World} {K : PySem.W.Frag} {mg : Str → Option Value} {base : Heap}
theorem bind_read_formula (T : Tx K mg) : ∃ ds, Vals [.int 240] ds ∧ Binds K T.f_read_formula ["text", "most"] ds :=
  T.F_read_formula.binds1 1 0 (by simp) (by rfl) fun _ _ _ _ _ _ _ us its h1 h2 => match us, its, h1, h2 with | [_], [_], _, _ => ⟨_, rfl, rfl⟩
def spRF (K : PySem.W.Frag) : Sp := fun vs H Q _ => ∃ (z : Str) (ws : List Str) (f : Fm), vs = [.str z, .int 240] ∧ z.length ≤ 240 ∧ Wd (tl z) ws ∧ ReadsF ws f ∧ ∀ H' v, Same H H' → Fml K H' f v → Q v H'
theorem ok_read_formula (T : Tx K mg) : FnOk P w K mg base CX0 3 T.a_read_formula T.f_read_formula ["text", "most"] (spRF K) := by
  refine T.F_read_formula.ok sc_read_formula (fun vs H Q E h => ?_) (fun cdv A outer s H vs Q E hr h => ?_)
  · obtain ⟨z, ws, f, rfl, _⟩ := h
    rfl
  · obtain ⟨z, ws, f, rfl, hz, hw, ⟨fsE, msE, run, opE⟩, q⟩ := h
    have hr1 : Room 1 _ := hr.mono (by decide)
    refine ⟨_, PSs.nox (pss_cons (ps_if (pt_cmpR op_gt (pe_callB call_len_str (by rfl) T.b_len PySem.boot_len (pa_cons (pv 0) pa_nil)) (pv 1) (nomark _)) (pss_one ps_never) pss_nil)
  (pss_cons (ps_set (i := 2) sc_read_formula.nd rfl (.inl rfl) (pe_lst pa_nil))
  (pss_cons (ps_set (i := 3) sc_read_formula.nd rfl (.inl rfl) (pe_lst pa_nil))
  (pss_cons (ps_set (i := 4) sc_read_formula.nd rfl (.inl rfl) pe_bl)
  (pss_cons (ps_for PassesOwn.never rfl (pi_list (pe_call (ok_formula_words T) hr1 (by rfl) T.m_formula_words T.F_formula_words.kp T.B_formula_words .nil pass0 (pa_cons (pv 0) pa_nil))) (pg_name (i := 5) sc_read_formula.nd rfl (.inl rfl)) (pss_one (ps_if (PW.pt (pw_and (pt_truth (pv 4) (by intro _; rfl)) (pw_and1 (pt_cmpR op_in_seq (pv 5) (pe_tup (pa_cons pe_str (pa_cons pe_str pa_nil))) rfl)))) (pss_one (ps_expr (pe_bm PySem.F.plainAttrs_list PySem.F.slot_list_append PySem.F.type_list_append mt_append (pv 3) (pa_cons (pv 5) pa_nil)))) (pss_one (ps_if (pt_truth (pv 4) (by intro _; rfl))
        (pss_cons (ps_expr (pe_bm PySem.F.plainAttrs_list PySem.F.slot_list_append PySem.F.type_list_append mt_append (pv 2) (pa_cons (pe_call (ok_read_atom T) hr (by rfl) T.m_read_atom T.F_read_atom.kp T.B_read_atom .nil pass0 (pa_cons (pv 5) pa_nil)) pa_nil)))
        (pss_cons (ps_expr (pe_call (ok_apply_nots T) hr1 (by rfl) T.m_apply_nots T.F_apply_nots.kp T.B_apply_nots .nil pass0 (pa_cons (pv 2) (pa_cons (pv 3) pa_nil)))) (pss_one (ps_set (i := 4) sc_read_formula.nd rfl (.inl rfl) pe_bl)))) (pss_one (ps_if (pt_cmpR op_in_seq (pv 5) (pe_tup (pa_cons pe_str (pa_cons pe_str pa_nil))) rfl)
          (pss_cons (ps_expr (pe_call (ok_apply_operators T) hr1 (by rfl) T.m_apply_operators T.F_apply_operators.kp T.B_apply_operators .nil pass0 (pa_cons (pv 2) (pa_cons (pv 3) (pa_cons (pv 5) pa_nil)))))
          (pss_cons (ps_expr (pe_bm PySem.F.plainAttrs_list PySem.F.slot_list_append PySem.F.type_list_append mt_append (pv 3) (pa_cons (pv 5) pa_nil))) (pss_one (ps_set (i := 4) sc_read_formula.nd rfl (.inl rfl) pe_bl)))) (pss_one (ps_if (pt_cmpR op_eq (pv 5) pe_str (nomark _)) (pss_one (ps_expr (pe_call (ok_close_group T) hr (by rfl) T.m_close_group T.F_close_group.kp T.B_close_group .nil pass0 (pa_cons (pv 2) (pa_cons (pv 3) pa_nil))))) (pss_one ps_never))))))))))
  (pss_cons (ps_if (pt_truth (pv 4) (by intro _; rfl)) (pss_one ps_never) pss_nil)
  (pss_cons (ps_expr (pe_call (ok_apply_operators T) hr1 (by rfl) T.m_apply_operators T.F_apply_operators.kp T.B_apply_operators .nil pass0 (pa_cons (pv 2) (pa_cons (pv 3) (pa_cons pe_str pa_nil)))))
  (pss_cons (ps_if (pt_truth (pv 3) (by intro _; rfl)) (pss_one ps_never) pss_nil) (pss_one (ps_ret (pe_ix ix_list (pv 2) pe_int (fun _ _ => rfl)))))))))))), ?_⟩
    have wl := hw.len
    rw [← len_tl] at wl
    refine ⟨_, rfl, z, rfl, small_str hz (by decide), _, rfl, _, _, rfl, rfl, false, congrArg V.bl (decide_eq_false (by omega)), ?_⟩
    refine ⟨Nat.zero_le _, fun a na => ⟨Nat.zero_le _, fun b nb => ?_⟩⟩
    have s1 : Same H (upd H a (.lst [])) := same_upd na
    have s2 : Same (upd H a (.lst [])) (upd (upd H a (.lst [])) b (.lst [])) := same_upd nb
    have hab : a ≠ b := ne_of_none upd_same nb
    have nH : ∀ {c : Addr} {o : HO}, H c = some o → c ≠ a ∧ c ≠ b := fun e => ⟨ne_of_none e na, ne_of_none (s1 _ _ e) nb⟩
    refine ⟨_, rfl, z, ws, rfl, by omega, hw, fun H3 p s3 np ep => ⟨p, rfl, ⟨_, .inl (.inl ep)⟩, ?_⟩⟩
    have a2 : (upd (upd H a (.lst [])) b (.lst [])) a = some (.lst []) := (upd_ne hab).trans upd_same
    have tw0 : Two K H3 a b [] [] := ⟨s3 _ _ a2, s3 _ _ upd_same, fun _ z => (nomatch z), hab, by decide, by decide⟩
    have hpa : p ≠ a := (ne_of_none a2 np).symm
    have hpb : p ≠ b := (ne_of_none upd_same np).symm
    let Pv : Nat → L2.St → Hp → Prop := fun i σ H1 => ∃ (wt : Bool) (st : Stk) (ms : List Mk) (y5 : Option V), σ = [some (.str z), some (.int 240), some (.ref a), some (.ref b), some (.bl wt), y5] ∧ Run wt (fms st) ms (ws.drop i) false fsE msE ∧ Two K H1 a b st ms ∧ But2 a b H3 H1 ∧ st.length ≤ i ∧ ms.length ≤ i
    refine for_list (xs := ws.map V.str) Pv ⟨true, [], [], none, rfl, by rw [List.drop_zero]; exact run, tw0, But2.refl _ _ _, Nat.le_refl _, Nat.le_refl _⟩ (fun i σ H1 _ hP => ?_) (fun i x σ H1 hx hP => ?_) fun σ H1 hP => ?_
    · obtain ⟨wt, st, ms, y5, _, _, _, bu, _⟩ := hP
      exact .inl (.inl (bu _ _ hpa hpb ep))
    · obtain ⟨wt, st, ms, y5, rfl, rn, tw, bu, ls, lm⟩ := hP
      obtain ⟨wd, hwd, rfl⟩ : ∃ wd, ws[i]? = some wd ∧ x = .str wd := by
        rw [List.getElem?_map] at hx
        cases e : ws[i]? with
        | none => rw [e] at hx; cases hx
        | some wd => rw [e] at hx; exact ⟨wd, rfl, (Option.some.inj hx).symm⟩
      have hil : i < ws.length := (List.getElem?_eq_some_iff.mp hwd).1
      have ed : ws.drop i = wd :: ws.drop (i + 1) := by
        rw [List.drop_eq_getElem_cons hil, (List.getElem?_eq_some_iff.mp hwd).2]
      rw [ed] at rn
      have wl2 : i + 1 ≤ 240 := by omega
      have inb : ∀ (c : Addr), (upd H1 c (.tup [.str "!", .str "("])) c = some (.tup [.str "!", .str "("]) := fun c => upd_same
      generalize efs : fms st = fs0 at rn
      cases rn with
      | @cons _ b1 _ _ fs1 _ _ ms1 _ _ _ step rest =>
      cases step with
      | push m hm =>
        refine ⟨_, rfl, true, rfl, ?_⟩
        refine ⟨_, rfl, by show 2 ≤ sizeLine; decide, fun c nc => ?_⟩
        have s4 : Same H1 (upd H1 c (.tup [.str "!", .str "("])) := same_upd nc
        refine ⟨c, _, rfl, .inr (.inl (.inl upd_same)), rfl, rfl, true, ?_, ?_⟩
        · rcases hm with rfl | rfl
          · exact congrArg V.bl (show inV (.str "!") [.str "!", .str "("] = true by decide +kernel)
          · exact congrArg V.bl (show inV (.str "(") [.str "!", .str "("] = true by decide +kernel)
        have tw4 := tw.same s4
        refine ⟨_, rfl, .inl ⟨rfl, _, .inl (.inl tw4.marks)⟩, _, rfl, b, _, _, rfl, rfl, tw4.marks, tw4.room.2, ?_⟩
        exact ⟨true, st, m :: ms, _, rfl, by rw [efs]; exact rest, (tw4.pushm (by omega)).1, bu.trans ((same_but2 s4).trans but2_r), by omega, by show ms.length + 1 ≤ i + 1; omega⟩
      | @atom _ _ _ fa ha =>
        refine ⟨_, rfl, true, rfl, ?_⟩
        refine ⟨_, rfl, by show 2 ≤ sizeLine; decide, fun c nc => ?_⟩
        have s4 : Same H1 (upd H1 c (.tup [.str "!", .str "("])) := same_upd nc
        refine ⟨c, _, rfl, .inr (.inl (.inl upd_same)), rfl, rfl, false, atom_no ha, ?_⟩
        have tw4 := tw.same s4
        refine ⟨_, rfl, true, rfl, ?_⟩
        refine ⟨_, rfl, .inl ⟨rfl, _, .inl (.inl tw4.vals)⟩, _, rfl, wd, _, rfl, ha, fun H5 v s5 hv => ?_⟩
        have tw5 := tw4.same s5
        refine ⟨a, _, _, rfl, rfl, tw5.vals, tw5.room.1, ?_⟩
        have tw6 := (tw5.push (p := (_, v)) hv (by omega)).1
        refine ⟨_, rfl, _, rfl, a, b, _, v, st, ms, rfl, tw6, fun H7 v7 b7 tw7 => ?_⟩
        have nl := nots_len fa ms
        exact ⟨false, _ :: st, _, _, rfl, by show Run _ (_ :: fms st) _ _ _ _ _; rw [efs]; exact rest, tw7, bu.trans ((same_but2 s4).trans ((same_but2 s5).trans (but2_l.trans b7))), by show st.length + 1 ≤ i + 1; omega, Nat.le_trans nl (by omega)⟩
      | op m hm ho =>
        refine ⟨_, rfl, false, rfl, ?_⟩
        refine ⟨_, rfl, false, rfl, ?_⟩
        refine ⟨_, rfl, by show 2 ≤ sizeLine; decide, fun c nc => ?_⟩
        have s4 : Same H1 (upd H1 c (.tup [.str "&", .str "|"])) := same_upd nc
        refine ⟨c, _, rfl, .inr (.inl (.inl upd_same)), rfl, rfl, true, is_op hm, ?_⟩
        have tw4 := tw.same s4
        refine ⟨_, rfl, _, rfl, _, rfl, a, b, m.str, st, ms, _, _, rfl, tw4, by rw [efs]; exact ho, fun H5 st5 b5 tw5 e5 => ?_⟩
        have ol := ho.len
        rw [← efs, fms_len, ← e5, fms_len] at ol
        refine ⟨_, rfl, .inl ⟨rfl, _, .inl (.inl tw5.marks)⟩, _, rfl, b, _, _, rfl, rfl, tw5.marks, tw5.room.2, ?_⟩
        refine ⟨true, st5, m :: _, _, rfl, by rw [e5]; exact rest, (tw5.pushm (by omega)).1, bu.trans ((same_but2 s4).trans (b5.trans but2_r)), by omega, ?_⟩
        rw [List.length_cons]
        omega
      | close ho =>
        refine ⟨_, rfl, false, rfl, ?_⟩
        refine ⟨_, rfl, false, rfl, ?_⟩
        refine ⟨_, rfl, by show 2 ≤ sizeLine; decide, fun c nc => ?_⟩
        have s4 : Same H1 (upd H1 c (.tup [.str "&", .str "|"])) := same_upd nc
        refine ⟨c, _, rfl, .inr (.inl (.inl upd_same)), rfl, rfl, false, congrArg V.bl (by decide +kernel), ?_⟩
        have tw4 := tw.same s4
        refine ⟨_, rfl, rfl, true, sEq rfl, ?_⟩
        refine ⟨_, rfl, _, rfl, a, b, st, ms, _, _, _, rfl, tw4, by rw [efs]; exact ho, fun H5 st5 b5 tw5 e5 => ?_⟩
        have ol := ho.len
        rw [← efs, fms_len, List.length_cons, List.length_cons] at ol
        have l5 := congrArg List.length e5
        rw [fms_len, List.length_cons] at l5
        have nl := nots_len
        exact ⟨false, st5, _, _, rfl, by rw [e5]; exact rest, tw5, bu.trans ((same_but2 s4).trans b5), by omega, Nat.le_trans (nots_len _ _) (by omega)⟩
    · obtain ⟨wt, st, ms, y5, rfl, rn, tw, bu, ls, lm⟩ := hP
      rw [List.length_map, List.drop_length] at rn
      generalize efs : fms st = fs0 at rn
      cases rn
      refine ⟨_, rfl, false, rfl, ?_⟩
      refine ⟨_, rfl, _, rfl, a, b, "", st, _, [], [f], rfl, tw, ?_, fun H4 st4 b4 tw4 e4 => ?_⟩
      · rw [show decide (("" : Str) = "&") = false by decide +kernel, efs]
        exact opE
      refine ⟨_, rfl, false, .inl ⟨_, .inl (.inl tw4.marks), rfl⟩, ?_⟩
      match st4, e4, tw4 with
      | [(g, v)], e4, tw4 =>
        have e4 : [g] = [f] := e4
        injection e4 with e4 _
        subst e4
        refine ⟨_, rfl, a, _, 0, v, rfl, rfl, .inl (.inl tw4.vals), atI_nat (j := 0) rfl, ?_⟩
        refine q H4 v (fun c o e => ?_) (tw4.fml _ List.mem_cons_self)
        exact b4 _ _ (nH e).1 (nH e).2 (bu _ _ (nH e).1 (nH e).2 (s3 _ _ (s2 _ _ (s1 _ _ e))))
end
end K77

set_option maxRecDepth 100000
set_option maxHeartbeats 4000000
/-! K7I: the lines of a book; entry_text, Book. -/
namespace K77
open PySem PySem.Spec PyProof.Rows L2 KG TL

inductive Ln where
  | sw (s : Str)
  | rule (f : Fm)
  | grp (w : Str) (ns : List Str)
def Ln.tag : Ln → Str
  | .sw _ => "switch" | .rule _ => "rule" | .grp w _ => w
def EntAt (K : PySem.W.Frag) (H : Hp) : Ln → V → Prop
  | .sw s, v => ∃ a, v = .ref a ∧ SqT K H a [.str "switch", .str s]
  | .rule f, v => ∃ a u, v = .ref a ∧ SqT K H a [.str "rule", u] ∧ Fml K H f u
  | .grp w ns, v => ∃ a b, v = .ref a ∧ SqT K H a [.str w, .ref b] ∧ SqT K H b (ns.map V.str)
theorem EntAt.keep {K : PySem.W.Frag} {H H' : Hp} (t : Tups H H') : ∀ {l : Ln} {v : V}, EntAt K H l v → EntAt K H' l v
  | .sw _, _, ⟨a, e, h⟩ => ⟨a, e, t.seqT h⟩
  | .rule _, _, ⟨a, u, e, h, q⟩ => ⟨a, u, e, t.seqT h, q.keep t⟩
  | .grp _ _, _, ⟨a, b, e, h, q⟩ => ⟨a, b, e, t.seqT h, t.seqT q⟩
/-- what lines must be: words, lengths -/
def Ln.ok : Ln → Prop
  | .sw s => NameOk s
  | .rule f => f.wt ≤ 240 ∧ f.dep < 20
  | .grp w ns => w ∈ (["one", "needs", "bars"] : List Str) ∧ (∀ n ∈ ns, NameOk n) ∧ 2 ≤ ns.length ∧ ns.length ≤ (if w = "one" then 12 else 2) ∧ ns.Nodup
theorem grp_tag {w : Str} (h : w ∈ (["one", "needs", "bars"] : List Str)) : w ≠ "switch" ∧ w ≠ "rule" ∧ w.length ≤ 5 := by
  have : ∀ w ∈ (["one", "needs", "bars"] : List Str), w ≠ "switch" ∧ w ≠ "rule" ∧ w.length ≤ 5 := by decide +kernel
  exact this w h
def swOf : List Ln → List Str
  | [] => []
  | .sw s :: r => s :: swOf r
  | _ :: r => swOf r
theorem swOf_app : ∀ a b : List Ln, swOf (a ++ b) = swOf a ++ swOf b
  | [], _ => rfl
  | .sw s :: r, b => congrArg (s :: ·) (swOf_app r b)
  | .rule _ :: r, b => swOf_app r b
  | .grp _ _ :: r, b => swOf_app r b
theorem swOf_len : ∀ a : List Ln, (swOf a).length ≤ a.length
  | [] => Nat.le_refl _
  | .sw s :: r => Nat.succ_le_succ (swOf_len r)
  | .rule _ :: r => Nat.le_succ_of_le (swOf_len r)
  | .grp _ _ :: r => Nat.le_succ_of_le (swOf_len r)
/-- the printed line -/
def Ln.std : Ln → Str
  | .sw s => "switch " ++ s
  | .rule f => "rule " ++ f.std
  | .grp w ns => w ++ " " ++ Txt.join " " ns
/-- the lines at the values -/
def Ents (K : PySem.W.Frag) (H : Hp) : List Ln → List V → Prop
  | [], [] => True
  | l :: ls, v :: vs => EntAt K H l v ∧ Ents K H ls vs
  | _, _ => False
theorem Ents.keep {K : PySem.W.Frag} {H H' : Hp} (t : Tups H H') : ∀ {ls : List Ln} {vs : List V}, Ents K H ls vs → Ents K H' ls vs
  | [], [], h => h
  | _ :: _, _ :: _, h => ⟨h.1.keep t, Ents.keep t h.2⟩
  | [], _ :: _, h => h.elim
  | _ :: _, [], h => h.elim
theorem Ents.len {K : PySem.W.Frag} {H : Hp} : ∀ {ls : List Ln} {vs : List V}, Ents K H ls vs → vs.length = ls.length
  | [], [], _ => rfl
  | _ :: _, _ :: _, h => congrArg (· + 1) (Ents.len h.2)
  | [], _ :: _, h => h.elim
  | _ :: _, [], h => h.elim
theorem Ents.at_ {K : PySem.W.Frag} {H : Hp} : ∀ {ls : List Ln} {vs : List V} {i : Nat} {v : V}, Ents K H ls vs → vs[i]? = some v → ∃ l, ls[i]? = some l ∧ EntAt K H l v
  | _ :: _, _ :: _, 0, v, h, e => ⟨_, rfl, by
      have e := Option.some.inj e
      rw [← e]
      exact h.1⟩
  | _ :: ls, _ :: vs, i + 1, v, h, e => Ents.at_ (ls := ls) (vs := vs) (i := i) h.2 e
  | [], [], _, _, _, e => by cases e
theorem Ents.snoc {K : PySem.W.Frag} {H : Hp} {l : Ln} {v : V} (e : EntAt K H l v) : ∀ {ls : List Ln} {vs : List V}, Ents K H ls vs → Ents K H (ls ++ [l]) (vs ++ [v])
  | [], [], _ => ⟨e, trivial⟩
  | _ :: _, _ :: _, h => ⟨h.1, Ents.snoc e h.2⟩
  | [], _ :: _, h => h.elim
  | _ :: _, [], h => h.elim
theorem join_len (y : Str) (parts : List Str) : (Txt.join y parts).length ≤ (parts.map (·.length)).sum + parts.length * y.length := by
  rw [join_eq]
  exact StrLaws.join_length_le y parts
theorem sum_le {parts : List Str} {n : Nat} (h : ∀ p ∈ parts, p.length ≤ n) : (parts.map (·.length)).sum ≤ parts.length * n := by
  induction parts with
  | nil => exact Nat.zero_le _
  | cons p r ih =>
    have h1 := h p List.mem_cons_self
    have h2 := ih fun x hx => h x (List.mem_cons_of_mem _ hx)
    rw [List.map_cons, List.sum_cons, List.length_cons, Nat.succ_mul]
    omega
theorem grp_len {w : Str} {ns : List Str} (h : (Ln.grp w ns).ok) : (ns.map (·.length)).sum ≤ 144 ∧ ns.length ≤ 12 := by
  obtain ⟨_, hn, _, hl, _⟩ := h
  have l12 : ns.length ≤ 12 := by
    split at hl <;> omega
  have := sum_le (n := 12) fun p hp => (hn p hp).len
  refine ⟨by omega, l12⟩
theorem sp_len : (" " : Str).length = 1 := by decide +kernel
theorem Ln.std_len : ∀ {l : Ln}, l.ok → l.std.length ≤ 300
  | .sw s, h => by
    have := h.len
    show ("switch " ++ s : Str).length ≤ 300
    rw [len_app, show ("switch " : Str).length = 7 by decide +kernel]
    omega
  | .rule f, h => by
    have := f.std_len
    have := h.1
    show ("rule " ++ f.std : Str).length ≤ 300
    rw [len_app, show ("rule " : Str).length = 5 by decide +kernel]
    omega
  | .grp w ns, h => by
    have h1 := grp_len h
    have h2 := join_len " " ns
    have h3 := (grp_tag h.1).2.2
    show (w ++ " " ++ Txt.join " " ns).length ≤ 300
    rw [len_app, len_app]
    rw [sp_len] at h2 ⊢
    omega

section
variable {P : Program} {w : World} {K : PySem.W.Frag} {mg : Str → Option Value} {base : Heap}
def spEntryText (K : PySem.W.Frag) : Sp := fun vs H Q _ => ∃ (l : Ln) (v : V), vs = [v] ∧ EntAt K H l v ∧ l.ok ∧ ∀ H', Same H H' → Q (.str l.std) H'
theorem ok_entry_text (T : Tx K mg) : FnOk P w K mg base CX0 21 T.a_entry_text T.f_entry_text ["entry"] (spEntryText K) := by
  refine T.F_entry_text.ok sc_entry_text (fun vs H Q E h => ?_) (fun cdv A outer s H vs Q E hr h => ?_)
  · obtain ⟨l, v, rfl, _⟩ := h
    rfl
  · obtain ⟨l, v, rfl, he, hl, q⟩ := h
    refine ⟨_, (pss_cons (ps_asg (pv 0) (pg_tup rfl (pgs_cons (pg_name (i := 1) sc_entry_text.nd rfl (.inl rfl)) (pgs_cons (pg_name (i := 2) sc_entry_text.nd rfl (.inl rfl)) pgs_nil))))
  (pss_cons (ps_if (pt_cmpR op_eq (pv 1) pe_str (nomark _)) (pss_one (ps_ret (pe_op op_add_str pe_str (pv 2)))) pss_nil)
  (pss_cons (ps_if (pt_cmpR op_eq (pv 1) pe_str (nomark _)) (pss_one (ps_ret (pe_op op_add_str pe_str (pe_call (ok_formula_text T 20) hr (by rfl) T.m_formula_text T.F_formula_text.kp T.B_formula_text .nil pass0 (pa_cons (pv 2) pa_nil))))) pss_nil) (pss_one (ps_ret (pe_op op_add_str (pe_op op_add_str (pv 1) pe_str) (pe_join pe_str (pv 2)))))))), ?_⟩
    have sl := Ln.std_len hl
    cases l with
    | sw z =>
      obtain ⟨a, rfl, h⟩ := he
      have nl := hl.len
      refine ⟨_, rfl, a, _, rfl, h, rfl, _, _, rfl, _, _, rfl, rfl, ?_⟩
      refine ⟨_, rfl, rfl, true, sEq rfl, _, rfl, _, _, rfl, rfl, big_str ?_, q H (Same.refl H)⟩
      rw [show ("switch " : Str).length = 7 by decide +kernel]
      omega
    | rule f =>
      obtain ⟨a, u, rfl, h, hf⟩ := he
      have fl := f.std_len
      have hw := hl.1
      refine ⟨_, rfl, a, _, rfl, h, rfl, _, _, rfl, _, _, rfl, rfl, ?_⟩
      refine ⟨_, rfl, rfl, false, sNe (by decide +kernel), ?_⟩
      refine ⟨_, rfl, rfl, true, sEq rfl, _, rfl, f, u, rfl, hf, hl.2, by omega, fun H1 s1 => ⟨_, _, rfl, rfl, big_str ?_, q H1 s1⟩⟩
      rw [show ("rule " : Str).length = 5 by decide +kernel]
      omega
    | grp x ns =>
      obtain ⟨a, b, rfl, h, hb⟩ := he
      have gt := grp_tag hl.1
      have gl := grp_len hl
      have jl := join_len " " ns
      rw [sp_len] at jl
      refine ⟨_, rfl, a, _, rfl, h, rfl, _, _, rfl, _, _, rfl, rfl, ?_⟩
      refine ⟨_, rfl, rfl, false, sNe gt.1, ?_⟩
      refine ⟨_, rfl, rfl, false, sNe gt.2.1, ?_⟩
      refine ⟨_, rfl, _, _, rfl, rfl, big_str ?_, ⟨_, rfl⟩, _, rfl, _, b, ns, rfl, rfl, .inr hb, ?_, _, _, rfl, rfl, big_str ?_, q H (Same.refl H)⟩
      · rw [sp_len]
        omega
      · rw [sp_len]
        omega
      · rw [len_app, sp_len]
        omega
end
end K77

set_option maxRecDepth 100000
set_option maxHeartbeats 4000000
/-! K7J: Book. -/
namespace K77
open PySem PySem.Spec PyProof.Rows L2 KG TL

/-- a Book of these lines -/
def BookAt (K : PySem.W.Frag) (C : Addr) (H : Hp) (x : Addr) (ls : List Ln) : Prop := ∃ (dx t u : Addr) (vs : List V), H x = some (.ins C dx [("entries", .ref t), ("switches", .ref u)]) ∧ SqT K H t vs ∧ Ents K H ls vs ∧ SqT K H u ((swOf ls).map V.str)
theorem BookAt.keep {K : PySem.W.Frag} {C : Addr} {H H' : Hp} {x : Addr} {ls : List Ln} (s : Same H H') (h : BookAt K C H x ls) : BookAt K C H' x ls := by
  obtain ⟨dx, t, u, vs, e, ht, he, hu⟩ := h
  exact ⟨dx, t, u, vs, s _ _ e, same_seqT s ht, he.keep (same_tups s), same_seqT s hu⟩
theorem tups_of {H H' : Hp} {x : Addr} {o : HO} (b : But x H H') (h : H x = some o) (ho : ∀ xs, o ≠ .tup xs) (hf : ∀ d xs, o ≠ .frz d (.tup xs)) : Tups H H' := fun c xs e => by
  rcases e with e | ⟨d, e⟩
  · exact .inl (b _ _ (fun z => by rw [z, h] at e; exact ho xs (Option.some.inj e)) e)
  · exact .inr ⟨d, b _ _ (fun z => by rw [z, h] at e; exact hf d xs (Option.some.inj e)) e⟩
theorem tups_ins {H H' : Hp} {x C dx : Addr} {fs : List (Str × V)} (b : But x H H') (h : H x = some (.ins C dx fs)) : Tups H H' := tups_of b h (by intro _ z; cases z) (by intro _ _ z; cases z)
theorem take_ents {K : PySem.W.Frag} {H : Hp} {ls : List Ln} {i : Nat} {l : Ln} (h : ls[i]? = some l) : swOf (ls.take (i + 1)) = swOf (ls.take i) ++ swOf [l] := by
  rw [List.take_add_one, h, swOf_app]
  rfl
theorem ent_tag {K : PySem.W.Frag} {H : Hp} : ∀ {l : Ln} {v : V}, EntAt K H l v → ∃ a t, v = .ref a ∧ SqT K H a [.str l.tag, t] ∧ (∀ s, l = .sw s → t = .str s)
  | .sw s, _, ⟨a, e, h⟩ => ⟨a, _, e, h, fun s' e' => by cases e'; rfl⟩
  | .rule _, _, ⟨a, u, e, h, _⟩ => ⟨a, u, e, h, fun _ e' => by cases e'⟩
  | .grp _ _, _, ⟨a, b, e, h, _⟩ => ⟨a, _, e, h, fun _ e' => by cases e'⟩
theorem tag_sw {l : Ln} (h : l.ok) : (∃ s, l = .sw s) ∨ (l.tag ≠ "switch" ∧ swOf [l] = []) := by
  cases l with
  | sw s => exact .inl ⟨s, rfl⟩
  | rule f => exact .inr ⟨show ("rule" : Str) ≠ "switch" by decide +kernel, rfl⟩
  | grp w ns => exact .inr ⟨(grp_tag h.1).1, rfl⟩

section
variable {P : Program} {w : World} {K : PySem.W.Frag} {mg : Str → Option Value} {base : Heap}
def spBookInit (K : PySem.W.Frag) (C : Addr) : Sp := fun vs H Q _ => ∃ (x dx l : Addr) (ls : List Ln) (es : List V), vs = [.ref x, .ref l] ∧ H x = some (.ins C dx []) ∧ (SqL K H l es ∨ SqT K H l es) ∧ Ents K H ls es ∧ (∀ l ∈ ls, l.ok) ∧ ls.length ≤ 200 ∧ l ≠ x ∧
  ∀ H', But x H H' → BookAt K C H' x ls → Q .non H'
theorem ok_Book_init (T : Tx K mg) : FnOk P w K mg base CX0 1 T.a_Book_init T.f_Book_init ["self", "entries"] (spBookInit K T.A_Book) := by
  refine T.F_Book_init.ok sc_Book_init (fun vs H Q E h => ?_) (fun cdv A outer s H vs Q E hr h => ?_)
  · obtain ⟨x, dx, l, ls, es, rfl, _⟩ := h
    rfl
  · obtain ⟨x, dx, l, ls, es, rfl, hx, hl, he, hok, hn, hlx, q⟩ := h
    refine ⟨_, (C8.pss_cut (ps_fld (pv 0) (pe_callTy call_tuple_of (by rfl) T.b_tuple (by decide +kernel) (pa_cons (pv 1) pa_nil)) rfl) (pss_one (ps_fld (pv 0) (pe_callTy call_tuple_of (by rfl) T.b_tuple (by decide +kernel) (pa_cons (pe_lc (own := [("word", 2), ("told", 3)]) (g := gTup K 2 (gCons (gName 2) (gCons (gName 3) gNil))) (by rfl) sc_Book_init.nd (pi_tup (pe_fld (pv 0) rfl)) (blkOk_by (own := [("word", 2), ("told", 3)]) (N := ["self", "entries", "word", "told"]) (sc := defScope s_Book_init) (by decide +kernel)) (fun _ _ _ _ _ => (pg_tup rfl (pgs_cons (pg_name (i := 2) sc_Book_init.nd rfl (.inl rfl) (.inr rfl)) (pgs_cons (pg_name (i := 3) sc_Book_init.nd rfl (.inl rfl) (.inr rfl)) pgs_nil)))) (fun _ _ _ _ _ => (pts_one (pt_cmpR op_eq (pv 2) pe_str (nomark _)))) (fun _ _ _ _ _ => (pv 3))) pa_nil)) rfl))), ?_⟩
    have nxn : ∀ {b : Addr}, H b = none → b ≠ x := fun n e => by
      rw [e, hx] at n
      cases n
    refine ⟨fun σ' H' => ∃ t H1, σ' = [some (.ref x), some (.ref l), none, none] ∧ Same H H1 ∧ SqT K H1 t es ∧ H' = upd H1 x (.ins T.A_Book dx [("entries", .ref t)]), ?_, fun σ' H' hM => ?_⟩
    · refine ⟨_, rfl, l, es, rfl, ?_⟩
      rcases hl with hl | hl
      · exact .inl ⟨hl, fun p np => ⟨_, rfl, x, _, dx, [], rfl, same_upd np _ _ hx, T.C_Book, T.N_Book_entries, by decide, p, _, rfl, same_upd np, .inl (.inl upd_same), rfl⟩⟩
      · exact .inr ⟨hl, _, rfl, x, _, dx, [], rfl, hx, T.C_Book, T.N_Book_entries, by decide, l, H, rfl, Same.refl H, hl, rfl⟩
    · obtain ⟨t, H1, rfl, s1, ht, rfl⟩ := hM
      have hx1 := s1 _ _ hx
      have hx2 : (upd H1 x (.ins T.A_Book dx [("entries", .ref t)])) x = some (.ins T.A_Book dx [("entries", .ref t)]) := upd_same
      have t2 : Tups H1 (upd H1 x (.ins T.A_Book dx [("entries", .ref t)])) := tups_ins but_upd hx1
      have ht2 := t2.seqT ht
      have he2 : Ents K (upd H1 x (.ins T.A_Book dx [("entries", .ref t)])) ls es := (he.keep (same_tups s1)).keep t2
      have el := he.len
      refine ⟨_, rfl, x, _, _, _, _, rfl, hx2, T.C_Book, T.N_Book_entries, rfl, t, rfl, ⟨_, ht2⟩, fun D nD => ?_⟩
      refine lc_tup (K := K) (a := t) (xs := es) (fun i H' => Same (upd H1 x (.ins T.A_Book dx [("entries", .ref t)])) H' ∧ H' D = some (.lst ((swOf (ls.take i)).map V.str))) ⟨same_upd nD, upd_same⟩ (fun i H' _ hP => same_seqT hP.1 ht2) (fun i v H' hv hP => ?_) fun H' hP => ?_
      · obtain ⟨s3, eD⟩ := hP
        obtain ⟨n, hn1, hn2⟩ := he2.at_ hv
        obtain ⟨a, u, rfl, ha, hsw⟩ := ent_tag hn2
        have hok1 : n.ok := hok n (List.mem_of_getElem? hn1)
        refine ⟨a, _, rfl, same_seqT s3 ha, rfl, _, _, rfl, _, _, rfl, rfl, rfl, ?_⟩
        have tk := take_ents (K := K) (H := H) hn1
        have lt : (swOf (ls.take i)).length ≤ 200 := Nat.le_trans (swOf_len _) (Nat.le_trans (by rw [List.length_take]; exact Nat.min_le_right _ _) hn)
        rcases tag_sw hok1 with ⟨s, rfl⟩ | ⟨hne, hnil⟩
        · obtain rfl := hsw s rfl
          refine ⟨_, rfl, rfl, true, sEq rfl, _, rfl, _, eD, ?_, fun b o e => (upd_ne (ne_of_none e nD)).trans (s3 b o e), ?_⟩
          · rw [List.length_map]
            exact small1000 (by omega)
          · rw [tk, List.map_append]
            exact upd_same
        · refine ⟨_, rfl, rfl, false, sNe hne, s3, ?_⟩
          rw [tk, hnil, List.append_nil]
          exact eD
      · obtain ⟨s3, eD⟩ := hP
        rw [show es.length = ls.length from el, List.take_length] at eD
        refine ⟨D, _, rfl, .inl ⟨.inl (.inl eD), fun u nu => ?_⟩⟩
        have s4 := same_upd (o := .tup ((swOf ls).map V.str)) nu
        have hx4 := s4 _ _ (s3 _ _ hx2)
        refine ⟨_, rfl, x, _, dx, _, rfl, hx4, T.C_Book, T.N_Book_switches, by show 1 < 1000; decide, ?_⟩
        have t5 := (same_tups (s3.trans s4)).trans (tups_ins (but_upd (o := .ins T.A_Book dx [("entries", .ref t), ("switches", .ref u)])) hx4)
        refine q _ (fun b o nb e => (upd_ne nb).trans (s4 _ _ (s3 _ _ ((upd_ne nb).trans (s1 _ _ e))))) ⟨dx, t, u, es, upd_same, t5.seqT ht2, he2.keep t5, .inl (.inl ?_)⟩
        have nux : u ≠ x := fun e => by
          rw [e, s3 _ _ hx2] at nu
          cases nu
        exact (upd_ne nux).trans upd_same
end
end K77

set_option maxRecDepth 100000
set_option maxHeartbeats 4000000
/-! K7K: Book.text, Book.narrowed. -/
namespace K77
open PySem PySem.Spec PyProof.Rows L2 KG TL

def bookStd (ls : List Ln) : Str := Txt.join "\n" (ls.map Ln.std)
theorem cut_at {ls : List Ln} {i : Nat} {l : Ln} (h : ls[i]? = some l) : (ls.take (i + 1)).map Ln.std = (ls.take i).map Ln.std ++ [l.std] := by
  rw [List.take_add_one, h, List.map_append]
  rfl
theorem ent_rule {K : PySem.W.Frag} {H : Hp} {f : Fm} {v : V} {p : Addr} (e : H p = some (.tup [.str "rule", v])) (h : Fml K H f v) : EntAt K H (.rule f) (.ref p) := ⟨p, v, rfl, .inl (.inl e), h⟩
section
variable {P : Program} {w : World} {K : PySem.W.Frag} {mg : Str → Option Value} {base : Heap}
def spBookText (K : PySem.W.Frag) (C : Addr) : Sp := fun vs H Q _ => ∃ (x : Addr) (ls : List Ln), vs = [.ref x] ∧ BookAt K C H x ls ∧ (∀ l ∈ ls, l.ok) ∧ ls.length ≤ 200 ∧ ∀ H', Same H H' → Q (.str (bookStd ls)) H'
theorem ok_Book_text (T : Tx K mg) : FnOk P w K mg base CX0 22 T.a_Book_text T.f_Book_text ["self"] (spBookText K T.A_Book) := by
  refine T.F_Book_text.ok sc_Book_text (fun vs H Q E h => ?_) (fun cdv A outer s H vs Q E hr h => ?_)
  · obtain ⟨x, ls, rfl, _⟩ := h
    rfl
  · obtain ⟨x, ls, rfl, ⟨dx, t, u, es, hx, ht, he, hu⟩, hok, hn, q⟩ := h
    refine ⟨_, (pss_one (ps_ret (pe_join pe_str (pe_lc (own := [("entry", 1)]) (g := gName 1) (by rfl) sc_Book_text.nd (pi_tup (pe_fld (pv 0) rfl)) (blkOk_by (own := [("entry", 1)]) (N := ["self", "entry"]) (sc := defScope s_Book_text) (by decide +kernel)) (fun _ _ _ _ _ => (pg_name (i := 1) sc_Book_text.nd rfl (.inl rfl))) (fun _ _ _ _ _ => pts_nil) (fun _ _ _ _ _ => (pe_call (ok_entry_text T) hr (by rfl) T.m_entry_text T.F_entry_text.kp T.B_entry_text .nil pass0 (pa_cons (pv 1) pa_nil))))))), ?_⟩
    have el := he.len
    refine ⟨⟨_, rfl⟩, _, rfl, x, _, _, _, _, rfl, hx, T.C_Book, T.N_Book_entries, rfl, t, rfl, ⟨_, ht⟩, fun D nD => ?_⟩
    refine lc_tup (K := K) (a := t) (xs := es) (fun i H' => Same H H' ∧ H' D = some (.lst (((ls.take i).map Ln.std).map V.str))) ⟨same_upd nD, upd_same⟩ (fun i H' _ hP => same_seqT hP.1 ht) (fun i v H' hv hP => ?_) fun H' hP => ?_
    · obtain ⟨s3, eD⟩ := hP
      obtain ⟨n, hn1, hn2⟩ := he.at_ hv
      refine ⟨rfl, _, rfl, n, v, rfl, hn2.keep (same_tups s3), hok n (List.mem_of_getElem? hn1), fun H4 s4 => ⟨_, s4 _ _ eD, ?_, fun b o e => (upd_ne (ne_of_none e nD)).trans (s4 _ _ (s3 b o e)), ?_⟩⟩
      · rw [List.length_map, List.length_map, List.length_take]
        exact small1000 (by omega)
      · rw [cut_at hn1, List.map_append]
        exact upd_same
    · obtain ⟨s3, eD⟩ := hP
      rw [el, List.take_length] at eD
      refine ⟨_, D, ls.map Ln.std, rfl, rfl, .inl (.inl (.inl eD)), ?_, q H' s3⟩
      have h1 := sum_le (parts := ls.map Ln.std) (n := 300) fun p hp => by
        obtain ⟨l, hl, rfl⟩ := List.mem_map.mp hp
        exact Ln.std_len (hok l hl)
      rw [List.length_map] at h1 ⊢
      rw [show ("\n" : Str).length = 1 by decide +kernel]
      omega
def spBookNarrowed (K : PySem.W.Frag) (C : Addr) : Sp := fun vs H Q _ => ∃ (x : Addr) (v : V) (f : Fm) (ls : List Ln), vs = [.ref x, v] ∧ BookAt K C H x ls ∧ Fml K H f v ∧ (∀ l ∈ ls, l.ok) ∧ (Ln.rule f).ok ∧ ls ≠ [] ∧ ls.length ≤ 55 ∧
  ∀ H' y, Same H H' → BookAt K C H' y (ls ++ [.rule f]) → Q (.ref y) H'
theorem ok_Book_narrowed (T : Tx K mg) : FnOk P w K mg base CX0 3 T.a_Book_narrowed T.f_Book_narrowed ["self", "formula"] (spBookNarrowed K T.A_Book) := by
  refine T.F_Book_narrowed.ok sc_Book_narrowed (fun vs H Q E h => ?_) (fun cdv A outer s H vs Q E hr h => ?_)
  · obtain ⟨x, v, f, ls, rfl, _⟩ := h
    rfl
  · obtain ⟨x, v, f, ls, rfl, ⟨dx, t, u, es, hx, ht, he, hu⟩, hf, hok, hfo, hne, hn, q⟩ := h
    refine ⟨_, (pss_cons (ps_if (pt_cmpR op_eq (pe_op op_sub (pe_callB call_len_seq (by rfl) T.b_len (by decide +kernel) (pa_cons (pe_fld (pv 0) rfl) pa_nil)) (pe_callB call_len_seq (by rfl) T.b_len (by decide +kernel) (pa_cons (pe_fld (pv 0) rfl) pa_nil))) (pe_gint (by rfl) T.c_MOST_RULES) (nomark _)) (pss_one ps_never) pss_nil) (pss_one (ps_ret (pe_make T.K_Book (ok_Book_init T) hr (by rfl) T.m_Book T.B_Book_init .nil pass0 (pa_cons (pe_op op_catT (pe_fld (pv 0) rfl) (pe_tup (pa_cons (pe_tup (pa_cons pe_str (pa_cons (pv 1) pa_nil))) pa_nil))) pa_nil))))), ?_⟩
    have el := he.len
    have sl := swOf_len ls
    refine ⟨_, rfl, x, _, _, _, _, rfl, hx, T.C_Book, T.N_Book_entries, rfl, t, es, rfl, .inr ht, ?_⟩
    refine ⟨_, rfl, x, _, _, _, _, rfl, hx, T.C_Book, T.N_Book_switches, rfl, u, _, rfl, .inr hu, _, _, rfl, rfl, rfl, false, congrArg V.bl (decide_eq_false fun e => ?_), ?_⟩
    · have e := V.int.inj e
      rw [List.length_map, el] at e
      omega
    refine ⟨_, rfl, x, _, _, _, _, rfl, hx, T.C_Book, T.N_Book_entries, rfl, _, rfl, by show 2 ≤ sizeLine; decide, fun p np => ⟨by show 1 ≤ sizeLine; decide, fun p2 np2 => ?_⟩⟩
    have s1 := same_upd (o := .tup [.str "rule", v]) np
    have s2 := same_upd (o := .tup [.ref p]) np2
    refine ⟨t, p2, es, _, rfl, rfl, same_seqT (s1.trans s2) ht, .inl (.inl upd_same), fun e => ?_, ?_, fun e => (by cases e), fun _ p3 np3 => ?_⟩
    · rw [e] at el
      exact hne (List.length_eq_zero_iff.mp el.symm)
    · exact Nat.le_of_lt (small1000 (by rw [el]; show ls.length + 1 ≤ 1000; omega))
    have s3 := same_upd (o := .tup (es ++ [.ref p])) np3
    intro y dy ny ndy hyy
    have s4 := (same_upd (o := .own y) ndy)
    have nyd : (upd (upd (upd (upd H p (.tup [.str "rule", v])) p2 (.tup [.ref p])) p3 (.tup (es ++ [.ref p]))) dy (.own y)) y = none := by
      rw [upd_ne (Ne.symm hyy)]
      exact ny
    have s5 := same_upd (o := .ins T.A_Book dy []) nyd
    have ss := ((s1.trans s2).trans s3).trans (s4.trans s5)
    have p3at : (upd (upd (upd (upd (upd H p (.tup [.str "rule", v])) p2 (.tup [.ref p])) p3 (.tup (es ++ [.ref p]))) dy (.own y)) y (.ins T.A_Book dy [])) p3 = some (.tup (es ++ [.ref p])) := s5 _ _ (s4 _ _ upd_same)
    have pat : (upd (upd (upd (upd (upd H p (.tup [.str "rule", v])) p2 (.tup [.ref p])) p3 (.tup (es ++ [.ref p]))) dy (.own y)) y (.ins T.A_Book dy [])) p = some (.tup [.str "rule", v]) := s5 _ _ (s4 _ _ (s3 _ _ (s2 _ _ upd_same)))
    refine ⟨y, dy, p3, ls ++ [.rule f], es ++ [.ref p], rfl, upd_same, .inr (.inl (.inl p3at)), Ents.snoc (ent_rule pat (hf.keep (same_tups ss))) (he.keep (same_tups ss)), fun l hl => ?_, ?_, fun e => ?_, fun H' bu hb => ⟨rfl, q H' y (fun b o e => bu b o (fun z => ?_) (ss b o e)) hb⟩⟩
    · rcases List.mem_append.mp hl with hl | hl
      · exact hok l hl
      · rw [List.mem_singleton.mp hl]
        exact hfo
    · rw [List.length_append, List.length_singleton]
      omega
    · rw [e, upd_same] at p3at
      cases p3at
    · rw [z] at e
      have h := s3 _ _ (s2 _ _ (s1 _ _ e))
      rw [ny] at h
      cases h
end
end K77

set_option maxRecDepth 100000
set_option maxHeartbeats 4000000
/-! K7L: len(set(texts)), the texts distinct. -/
namespace K77
open PySem PySem.Spec PyProof.Rows L2 KG TL

section
variable {prog : Program} {w : World} {A : Around} {R : Result → Shared → Prop} {I : Addr} {fp wr : List Addr} {G : Array GenState → Array GenState → Prop} {n : Nat} {P : Nat → Value → Prop} {St : Nat → Shared → Prop}
abbrev sK (prog : Program) (w : World) : KeyKind prog w Str := PySem.strKind prog w
/-- the first i texts -/
def upTo (val : Nat → Str) (i : Nat) : Str → Bool := fun z => (List.range i).any fun j => decide (val j = z)
theorem upTo_succ (val : Nat → Str) (i : Nat) (z : Str) : (upTo val i z || decide (z = val i)) = upTo val (i + 1) z := by
  unfold upTo
  rw [List.range_succ, List.any_append]
  have e : decide (val i = z) = decide (z = val i) := decide_eq_decide.mpr ⟨Eq.symm, Eq.symm⟩
  simp [e]
theorem upTo_new {val : Nat → Str} {i : Nat} (h : ∀ j, j < i → val j ≠ val i) : upTo val i (val i) = false := by
  unfold upTo
  rw [List.any_eq_false]
  intro j hj
  rw [decide_eq_false (h j (List.mem_range.mp hj))]
  exact Bool.false_ne_true
theorem texts_loop (W : WalksS prog w A.in1 I fp wr G n P St) (S : Addr) (off : S ∉ fp) (val : Nat → Str) (is : ∀ i v, P i v → ∃ t, v = .str (val i) t) (apart : ∀ j i, j < i → i < n → val j ≠ val i) (few : n + 1 < scanBound) :
    ∀ (k i : Nat) (s : Shared), n - i = k → i ≤ n → St i s → s.heap.SetOf (sK prog w) S (upTo val i) i →
      (∀ s', Moved (S :: wr) G s s' → s'.heap.SetOf (sK prog w) S (upTo val n) n → R (.ok (.ret .none)) s') → codeAny (model prog w) A (.builtin "set.update.loop" ⟨[.ref S, .ref I], []⟩) R s := by
  have offw : S ∉ wr := fun h => off (W.sub S h)
  have more : ∀ b ∈ wr, b ∈ S :: wr := fun b hb => .tail S hb
  intro k
  induction k with
  | zero =>
    intro i s hk hi hst set done
    obtain rfl : i = n := Nat.le_antisymm hi (Nat.sub_eq_zero_iff_le.mp hk)
    refine codeAny_builtin F.entry_set_update_loop ?_
    rw [Around.under_plainId F.plain_set_update_loop ⟨_, _⟩]
    show wpAny (model prog w) A.in1 (pyNext (.ref I) >>= _) _ _ s
    refine wpAny_bind (W.done s _ _ hst fun s2 mv => ?_)
    show wpAny (model prog w) A.in1 (ret Value.none) _ _ s2
    refine wpAny_pure (done s2 (mv.mono more) ?_)
    obtain ⟨o, es, ep, t, at_, rest⟩ := set
    exact ⟨o, es, ep, t, mv.heap S o offw at_, rest⟩
  | succ k ih =>
    intro i s hk hi hst set done
    have lt : i < n := by omega
    refine codeAny_builtin F.entry_set_update_loop ?_
    rw [Around.under_plainId F.plain_set_update_loop ⟨_, _⟩]
    show wpAny (model prog w) A.in1 (pyNext (.ref I) >>= _) _ _ s
    refine wpAny_bind (W.item i s _ _ lt hst fun v s2 pv st2 mv => ?_)
    obtain ⟨t, rfl⟩ := is i v pv
    have set2 : s2.heap.SetOf (sK prog w) S (upTo val i) i := by
      obtain ⟨o, es, ep, tb, at_, rest⟩ := set
      exact ⟨o, es, ep, tb, mv.heap S o offw at_, rest⟩
    show wpAny (model prog w) A.in1 (holding [Value.str (val i) t] (setAdd S (.str (val i) t)) >>= _) _ _ s2
    refine wpAny_bind (wpAny_holding ?_)
    unfold setAdd
    have isk : (sK prog w).is (val i) (.str (val i) t) = true := by
      show Value.isStrOf (val i) (.str (val i) t) = true
      simp [Value.isStrOf]
    refine wpAny_holding (wpAny_bind ((sK prog w).pyHash (k := val i) isk ?_))
    refine wpAny_setAddHashed_of (knd := sK prog w) (s := { s2 with toks := _ }) isk rfl set2 (by omega) fun h2 sb set3 => ?_
    rw [upTo_new fun j hj => apart j i hj lt] at set3
    have set4 : h2.SetOf (sK prog w) S (upTo val (i + 1)) (i + 1) := SetOf_congr set3 (upTo_succ val i) rfl
    refine wpAny_pure ⟨plainId_quiet F.plain_set_update_loop _, ih (i + 1) _ (by omega) lt (W.frame _ s2 _ _ st2 (Nat.le_succ _) fun b hb o e => ?_) set4 fun s3 mv3 set5 => ?_⟩
    · exact (sb.2 b fun h => off (h ▸ hb)).trans e
    · refine done s3 (Moved.trans W.gtrans ((mv.mono more).then_heap (Nat.le_succ _) fun b o hb e => ?_) mv3) set5
      exact (sb.2 b fun h => hb (by rw [h]; exact .head wr)).trans e
end

section
variable {prog : Program} {w : World} {A : Around} {E : Value → Shared → Prop} {s : Shared}
/-- what is known of the set and of all else behind set(xs) -/
def SetMade (prog : Program) (w : World) (s : Shared) (zs : List Str) (h : Heap) : Prop := h.SetOf (sK prog w) s.heap.objs.size (upTo (fun i => zs.getD i "") zs.length) zs.length ∧ ∀ b o, b < s.heap.objs.size → s.heap.get? b = some o → h.get? b = some o
set_option maxHeartbeats 8000000 in
theorem set_of_texts {l : Addr} {items : List Value} {zs : List Str} {Q : Value → Shared → Prop} (calm : A.handled = none) (hl : s.heap.IsList l items.toArray) (r : Vals (zs.map V.str) items) (nd : zs.Nodup) (few : zs.length < 1000)
    (done : ∀ (h : Heap) (tk : Nat), SetMade prog w s zs h → Q (.ref s.heap.objs.size) { s with heap := h, toks := tk }) : wpAny (model prog w) A (call (.type "set") [.ref l]) Q E s := by
  have len : items.length = zs.length := by rw [← r.length, List.length_map]
  have scan : (1001 : Nat) < scanBound := by decide
  obtain ⟨c, tl, hmro⟩ := F.called_set.mro
  have made := F.called_set.made
  have subs := F.called_set.sub
  refine wpAny_call (codeAny_of_tree ?_)
  show wpAny (model prog w) _ (callAny (.type "set") _) _ _ s
  refine wpAny_pure ⟨Code.quiet_builtin _ (by decide +kernel), codeAny_builtin F.entry_type_call ?_⟩
  rw [Around.under_plain (weight_type_call_type "set" [.ref l] []) rfl]
  have nt := F.called_set.notType
  have cc := F.called_set.canCreate
  have ct := F.typeCall_set_1 (.ref l)
  repeat (any_goals (first | assumption | wp_step))
  let fresh (led : Bool) : Obj := { cls := .type "set", dict := none, data := .set #[] 0 (.fresh 0 0 led) }
  refine codeAny_mono (code_set_new_1 (.ref l) (E := E) (Q₁ := fun obj s₁ => ∃ led : Bool, obj = .ref s.heap.objs.size ∧ s₁ = { s with heap := s.heap.push (fresh led) }) fun led => ⟨led, rfl, rfl⟩) fun res s₁ hres => ?_
  match res, hres with
  | .error e, hres => exact hres
  | .ok .next, hres => exact hres.elim
  | .ok .brk, hres => exact hres.elim
  | .ok .cont, hres => exact hres.elim
  | .ok (.ret obj), ⟨led, eobj, es₁⟩ =>
    subst eobj
    subst es₁
    have at0 : (s.heap.push (fresh led)).get? s.heap.objs.size = some (fresh led) := Heap.get?_push_size _ rfl
    have isSet : Shared.TypeIs { s with heap := s.heap.push (fresh led) } (.ref s.heap.objs.size) "set" := ⟨_, at0, rfl⟩
    have initL := F.called_set.init.lookup
    have initB := F.called_set.init.bind (.ref s.heap.objs.size)
    repeat (any_goals (first | assumption | wp_step))
    refine codeAny_mono (codeAny_call_builtin (R := wants (fun r s₂ => r = .none ∧ ∃ h tk, s₂ = { s with heap := h, toks := tk } ∧ SetMade prog w s zs h) E) F.called_set.init.plain F.entry_set_init (check_set_init_1 isSet ?_)) fun r₂ s₂ hr₂ => ?_
    · obtain ⟨⟨lc, ld, ldat, lsl⟩, lat, lcls, ln, ldata⟩ := hl
      obtain rfl : lc = .type "list" := lcls
      obtain rfl : ldat = .seq items.toArray ln := ldata
      have lat2 : (s.heap.push (fresh led)).get? l = some ⟨.type "list", ld, .seq items.toArray ln, lsl⟩ := Heap.get?_push_of_some _ lat
      have q1 := F.sub_list_set
      have q2 := F.sub_list_frozenset
      have q3 : (Value.type "list" == Value.type "dict") = false := by decide
      have isL : (s.heap.push (fresh led)).IsList l items.toArray := ⟨_, lat2, rfl, ln, rfl⟩
      unfold Builtin.«set.__init__» noKeywords Builtin.Frozenset.updateFrom
      generalize hPI : pyIter = PI
      wp_walk
      subst hPI
      refine wpAny_pyIter_list isL (wpAny_bind (wpAny_runValue ?_))
      have lS : l < s.heap.objs.size := Heap.lt_size lat
      have calm3 : A.in1.in1.in1.handled = none := by simp [calm]
      have size2 : (s.heap.push (fresh led)).objs.size = s.heap.objs.size + 1 := Heap.size_push ..
      have neI : l ≠ (s.heap.push (fresh led)).objs.size := by rw [size2]; exact Nat.ne_of_lt (Nat.lt_succ_of_lt lS)
      have off : s.heap.objs.size ∉ [(s.heap.push (fresh led)).objs.size, l] := by
        rw [size2]
        simp only [List.mem_cons, List.not_mem_nil, or_false, not_or]
        exact ⟨Nat.ne_of_lt (Nat.lt_succ_self _), Nat.ne_of_gt lS⟩
      have sz : items.toArray.size = zs.length := by rw [List.size_toArray, len]
      have texts : ∀ (i : Nat) (v : Value), items.toArray[i]? = some v → ∃ t, v = .str ((fun i => zs.getD i "") i) t := fun i v hv => by
        have hv : items[i]? = some v := by simpa using hv
        have hi : i < zs.length := by
          rw [← len]
          exact (List.getElem?_eq_some_iff.mp hv).1
        obtain ⟨u, hu, t, ru⟩ := Vals.get (i := i) (x := .str zs[i]) r (by rw [List.getElem?_map, List.getElem?_eq_getElem hi]; rfl)
        rw [hv] at hu
        refine ⟨t, ?_⟩
        show v = .str (zs.getD i "") t
        rw [Option.some.inj hu, ru, List.getD_eq_getElem?_getD, List.getElem?_eq_getElem hi]
        rfl
      have apart : ∀ j i, j < i → i < items.toArray.size → (fun i => zs.getD i "") j ≠ (fun i => zs.getD i "") i := fun j i hj hi => by
        rw [sz] at hi
        have hj2 : j < zs.length := Nat.lt_trans hj hi
        show zs.getD j "" ≠ zs.getD i ""
        rw [List.getD_eq_getElem?_getD, List.getD_eq_getElem?_getD, List.getElem?_eq_getElem hi, List.getElem?_eq_getElem hj2]
        exact List.pairwise_iff_getElem.mp nd j i hj2 hi hj
      refine texts_loop ((Walks.list calm3 _ l neI items.toArray).toS) s.heap.objs.size off (fun i => zs.getD i "") texts apart (by rw [sz]; omega) (items.toArray.size - 0) 0 _ (by omega) (Nat.zero_le _)
        ⟨⟨_, Heap.get?_push_size _ rfl, rfl, rfl⟩, isL.push _⟩ ?start ?fin
      case start =>
        exact SetOf_congr ((setObjOf_fresh (knd := sK prog w) led).setOf (Heap.get?_push_of_some _ at0) (by unfold scanBound; omega)) (fun _ => rfl) rfl
      case fin =>
        intro s3 mv set3
        obtain ⟨h3, g3, d3, t3, o3⟩ := s3
        obtain rfl : g3 = s.gens := mv.gens
        obtain rfl : d3 = s.drawn := mv.drawn
        obtain rfl : o3 = s.os := mv.os
        show wpAny (model prog w) _ _ _ _ _
        refine wpAny_pure ?_
        show wpAny (model prog w) _ (ret Value.none) _ _ _
        refine wpAny_pure ⟨rfl, h3, t3, rfl, by rw [sz] at set3; exact set3, fun b o hb e => mv.heap b o ?_ (Heap.get?_push_of_some _ (Heap.get?_push_of_some _ e))⟩
        rw [size2]
        simp only [List.mem_cons, List.not_mem_nil, or_false, not_or]
        exact ⟨Nat.ne_of_lt hb, Nat.ne_of_lt (Nat.lt_succ_of_lt hb)⟩
    · match r₂, hr₂ with
      | .error e, hr₂ => exact hr₂
      | .ok .next, hr₂ => exact hr₂.elim
      | .ok .brk, hr₂ => exact hr₂.elim
      | .ok .cont, hr₂ => exact hr₂.elim
      | .ok (.ret r), ⟨er, h, tk, es₂, mk⟩ =>
        subst er
        subst es₂
        repeat (any_goals (first | assumption | wp_step))
        exact done h tk mk
end
/-- len(set(xs)), xs a list of distinct texts -/
def tLenSetS (K : PySem.W.Frag) (ta : TE) : TE := fun σ H Q => ta σ H fun x H1 => ∃ (l : Addr) (zs : List Str), x = .ref l ∧ SqL K H1 l (zs.map V.str) ∧ zs.Nodup ∧ zs.length < 1000 ∧ Q (.int (zs.length : Nat)) H1
theorem pe_lenSetS {X : Cx} {a : Expr} {ta : TE} {p p2 q pos : Pos} (hg : Gl X "len") (hm : X.mg "len" = none) (hg2 : Gl X "set") (hm2 : X.mg "set" = none) (ha : PE X a ta) (hc : X.calm = true := by rfl)
    (one : starEach [a] X.env = (false, eval a X.env) :: starEach [] X.env := by rfl) : PE X (.Call (.Name "len" p) [.Call (.Name "set" p2) [a] [] q] [] pos) (tLenSetS X.K ta) := by
  refine ⟨fun pins s σ H Q I h => ?_⟩
  refine Call_ (ld_blt I hg hm boot_len (PyProof.Rows.callWith_builtin1 (PyProof.Rows.args_cons ?_ rfl) rfl rfl))
  refine Call_ (ld_blt I hg2 hm2 boot_set ?_)
  refine PyProof.Rows.callWith_type1 (PyProof.Rows.args_cons (thn (ha.run pins s σ H _ I h) fun v s1 ⟨x, H1, I1, rx, l, zs, ex, hq, nd, few, q1⟩ => PyProof.Rows.args_nil ?_) one) one rfl
  subst ex
  obtain rfl : v = Value.ref l := rx
  obtain ⟨its, r, pl, hz⟩ := I1.list hq
  refine set_of_texts (I1.ok.hd hc) pl.isList r nd few fun h' tk ⟨set, keep⟩ => PyProof.Rows.args_nil ?_
  obtain ⟨o, es, ep, t, ho, hex, hd, _, _, _, hf, hn⟩ := set
  have scan : (1001 : Nat) < scanBound := by decide
  have I2 : Inv X pins σ H1 { s1 with heap := h', toks := tk } := I1.kept fun b o e => keep b o (Heap.lt_size e) e
  exact call_len_set ho hex hd hf (by rw [hn]; omega) ⟨.int zs.length, H1, I2.tok _, ⟨_, by rw [hn]⟩, q1⟩
end K77

set_option maxRecDepth 100000
set_option maxHeartbeats 4000000
/-! K7M: read_rule, read_entry. -/
namespace K77
open PySem PySem.Spec PyProof.Rows L2 KG TL

/-- the text t is read as the formula f -/
def RT (t : Str) (f : Fm) : Prop := t.length ≤ 240 ∧ ∃ ws, Wd (tl t) ws ∧ ReadsF ws f
/-- the line z writes l -/
def LnWr (z : Str) : Ln → Prop
  | .rule f => ∃ t, z = "rule " ++ t ∧ RT t f
  | l => z = l.std
theorem cut_from {z : Str} {k : Nat} (h : k ≤ (tl z).length) : cutS z (some (k : Int)) none = ⟨((tl z).drop k).toArray⟩ := by
  unfold cutS
  rw [HT.sIx_nat, HT.sIx_none, len_tl, Nat.min_eq_left h]
  congr 1
  congr 1
  exact List.take_of_length_le (by rw [List.length_drop]; exact Nat.le_refl _)
theorem tl_rule : tl "rule " = [114, 117, 108, 101, 32] := by decide +kernel
theorem rule_tail (t : Str) : cutS ("rule " ++ t) (some 5) none = t := by
  have h : tl ("rule " ++ t) = [114, 117, 108, 101, 32] ++ tl t := by rw [tl_append, tl_rule]
  rw [show (some (5 : Int)) = some ((5 : Nat) : Int) from rfl, cut_from (by rw [h, List.length_append]; show 5 ≤ 5 + _; omega), h]
  exact mk_tl t
theorem cut_to (z : Str) (k : Nat) : cutS z none (some (k : Int)) = ⟨((tl z).take k).toArray⟩ := by
  unfold cutS
  rw [HT.sIx_nat, HT.sIx_none, len_tl]
  show (⟨(((tl z).drop 0).take (min k (tl z).length - 0)).toArray⟩ : Str) = _
  rw [List.drop_zero, Nat.sub_zero]
  congr 1
  congr 1
  by_cases h : k ≤ (tl z).length
  · rw [Nat.min_eq_left h]
  · rw [Nat.min_eq_right (by omega), List.take_length, List.take_of_length_le (by omega)]
theorem rule_head (t : Str) : cutS ("rule " ++ t) none (some 5) = "rule " := by
  have h : tl ("rule " ++ t) = [114, 117, 108, 101, 32] ++ tl t := by rw [tl_append, tl_rule]
  rw [show (some (5 : Int)) = some ((5 : Nat) : Int) from rfl, cut_to, h]
  exact ext_tl tl_rule.symm
theorem not_rule {z : Str} {c : Nat} {r : List Nat} (h : tl z = c :: r) (n : c ≠ 114) : cutS z none (some 5) ≠ "rule " := fun e => by
  rw [show (some (5 : Int)) = some ((5 : Nat) : Int) from rfl, cut_to, h] at e
  have e2 := congrArg tl e
  rw [tl_rule] at e2
  injection e2 with e3 _
  exact n e3
theorem inV_yes {y : Str} {ss : List Str} (h : y ∈ ss) : inV (.str y) (ss.map V.str) = true := by
  unfold inV
  rw [List.any_map]
  exact List.any_eq_true.mpr ⟨y, h, beq_self_eq_true y⟩
theorem inV_no {y : Str} {ss : List Str} (h : y ∉ ss) : inV (.str y) (ss.map V.str) = false := by
  unfold inV
  rw [List.any_map, List.any_eq_false]
  intro x hx e
  have e2 : (x == y) = true := e
  rw [eq_of_beq e2] at hx
  exact h hx
theorem flat_strs (ss : List Str) : (ss.map V.str).all flatV = true := by
  rw [List.all_map]
  exact List.all_eq_true.mpr fun _ _ => rfl

section
variable {P : Program} {w : World} {K : PySem.W.Frag} {mg : Str → Option Value} {base : Heap}
/-- a list or a tuple of these texts -/
def Texts (K : PySem.W.Frag) (H : Hp) (a : Addr) (ss : List Str) : Prop := SqL K H a (ss.map V.str) ∨ SqT K H a (ss.map V.str)
theorem Texts.keep {H H' : Hp} {a : Addr} {ss : List Str} (s : Same H H') (h : Texts K H a ss) : Texts K H' a ss := h.imp s.seq (same_seqT s)
def spReadRule (K : PySem.W.Frag) : Sp := fun vs H Q _ => ∃ (t : Str) (at_ : V) (sw : Addr) (ss : List Str) (f : Fm), vs = [.str ("rule " ++ t), at_, .ref sw] ∧ RT t f ∧ f.wt ≤ 240 ∧ Texts K H sw ss ∧ (∀ y ∈ f.names, y ∈ ss) ∧
  ∀ H' v, Same H H' → EntAt K H' (.rule f) v → Q v H'
theorem ok_read_rule (T : Tx K mg) : FnOk P w K mg base CX0 4 T.a_read_rule T.f_read_rule ["line", "at", "switches"] (spReadRule K) := by
  refine T.F_read_rule.ok sc_read_rule (fun vs H Q E h => ?_) (fun cdv A outer s H vs Q E hr h => ?_)
  · obtain ⟨t, at_, sw, ss, f, rfl, _⟩ := h
    rfl
  · obtain ⟨t, at_, sw, ss, f, rfl, ⟨hl, ws, hw, hrd⟩, hwt, hss, hn, q⟩ := h
    have hr1 : Room 1 _ := hr.mono (by decide)
    obtain ⟨ds, hd, hb⟩ := bind_read_formula T
    refine ⟨_, (pss_cons (ps_try_thru0 (pss_one (ps_set (i := 3) sc_read_rule.nd rfl (.inl rfl) (pe_call (ok_read_formula T) hr (by rfl) T.m_read_formula T.F_read_formula.kp hb hd pass0 (pa_cons (pe_slice sl_str (pv 0) (po_some pe_int) po_none) pa_nil)))))
  (pss_cons (ps_for PassesOwn.never rfl (pi_list (pe_call (ok_formula_names T) hr1 (by rfl) T.m_formula_names T.F_formula_names.kp T.B_formula_names .nil pass0 (pa_cons (pv 3) pa_nil))) (pg_name (i := 4) sc_read_rule.nd rfl (.inl rfl)) (pss_one (ps_if (pt_cmpR op_notIn_seq (pv 4) (pv 2) rfl) (pss_one ps_never) pss_nil))) (pss_one (ps_ret (pe_tup (pa_cons pe_str (pa_cons (pv 3) pa_nil))))))), ?_⟩
    refine ⟨_, rfl, 5, rfl, _, rfl, ?_, ?_⟩
    · rw [len_app, show ("rule " : Str).length = 5 by decide +kernel]
      exact big_str (by omega)
    rw [rule_tail]
    refine ⟨t, ws, f, rfl, hl, hw, hrd, fun H1 v s1 hv => ?_⟩
    refine ⟨_, rfl, f, v, rfl, hv, by omega, fun H2 p ys s2 _ ep hy hlen => ⟨p, rfl, ⟨_, .inl (.inl ep)⟩, ?_⟩⟩
    refine for_list (xs := ys.map V.str) (fun i σ H3 => H3 = H2 ∧ ∃ y4, σ = [some (.str ("rule " ++ t)), some at_, some (.ref sw), some v, y4]) ⟨rfl, none, rfl⟩ (fun i σ H3 _ hP => ?_) (fun i x σ H3 hx hP => ?_) fun σ H3 hP => ?_
    · rw [hP.1]
      exact .inl (.inl ep)
    · obtain ⟨rfl, y4, rfl⟩ := hP
      rw [List.getElem?_map] at hx
      cases e : ys[i]? with
      | none => rw [e] at hx; cases hx
      | some y =>
        rw [e] at hx
        obtain rfl : V.str y = x := Option.some.inj hx
        refine ⟨_, rfl, _, rfl, sw, _, rfl, hss.keep (s1.trans s2), rfl, flat_strs ss, false, congrArg V.bl ?_, rfl, _, rfl⟩
        show (!inV (.str y) (ss.map V.str)) = false
        rw [inV_yes (hn y (hy y (List.mem_of_getElem? e)))]
        rfl
    · obtain ⟨rfl, y4, rfl⟩ := hP
      refine ⟨_, rfl, by show 2 ≤ sizeLine; decide, fun p2 np => ?_⟩
      have s3 := same_upd (o := .tup [.str "rule", v]) np
      exact q _ _ ((s1.trans s2).trans s3) (ent_rule upd_same (hv.keep (same_tups (s2.trans s3))))
end
end K77

set_option maxRecDepth 100000
set_option maxHeartbeats 4000000
/-! K7N: read_entry. -/
namespace K77
open PySem PySem.Spec PyProof.Rows L2 KG TL

theorem tl_sp : tl " " = [32] := by decide +kernel
theorem sp_kind : (" " : Str).cps.all (· < 256) = true := by decide +kernel
theorem name_sp {s : Str} (h : NameOk s) : 32 ∉ tl s := fun m => absurd (h.signs 32 m) (by decide +kernel)
theorem join2 (y a b : Str) : Txt.join y [a, b] = a ++ y ++ b := join_eq y [a, b]
theorem join_more (y a b : Str) (r : List Str) : Txt.join y (a :: b :: r) = a ++ y ++ Txt.join y (b :: r) := by
  rw [join_eq, join_eq]
  rfl
theorem split_sp {ps : List Str} (h : ps ≠ []) (n : ∀ p ∈ ps, 32 ∉ tl p) : Txt.split (Txt.join " " ps) " " = ps := split_join (s := 32) (S := []) tl_sp sp_kind h n
theorem sw_join (s : Str) : ("switch " : Str) ++ s = Txt.join " " ["switch", s] := by
  rw [join2]
  refine ext_tl ?_
  rw [tl_append, tl_append, tl_append, show tl "switch " = tl "switch" ++ tl " " by decide +kernel]
theorem grp_join {w : Str} {ns : List Str} (h : 2 ≤ ns.length) : (Ln.grp w ns).std = Txt.join " " (w :: ns) := by
  match ns, h with
  | n :: r, _ => exact (join_more " " w n r).symm
theorem grp_sp {w : Str} (h : w ∈ (["one", "needs", "bars"] : List Str)) : 32 ∉ tl w ∧ ∃ c r, tl w = c :: r ∧ c ≠ 114 := by
  have e1 : tl "one" = [111, 110, 101] := by decide +kernel
  have e2 : tl "needs" = [110, 101, 101, 100, 115] := by decide +kernel
  have e3 : tl "bars" = [98, 97, 114, 115] := by decide +kernel
  rcases List.mem_cons.mp h with rfl | h
  · exact ⟨by rw [e1]; decide, _, _, e1, by decide⟩
  rcases List.mem_cons.mp h with rfl | h
  · exact ⟨by rw [e2]; decide, _, _, e2, by decide⟩
  · rw [List.mem_singleton.mp h]
    exact ⟨by rw [e3]; decide, _, _, e3, by decide⟩
theorem cut1s (x : V) (xs : List V) : cutV (x :: xs) (some 1) none = xs := cut1 x xs
/-- what the lines above must have -/
def Fits (ss : List Str) : Ln → Prop
  | .sw s => s ∉ ss
  | .rule f => ∀ y ∈ f.names, y ∈ ss
  | .grp _ ns => ∀ n ∈ ns, n ∈ ss

section
variable {P : Program} {w : World} {K : PySem.W.Frag} {mg : Str → Option Value} {base : Heap}
def spReadEntry (K : PySem.W.Frag) : Sp := fun vs H Q _ => ∃ (z : Str) (at_ : V) (sw : Addr) (ss : List Str) (l : Ln), vs = [.str z, at_, .ref sw] ∧ LnWr z l ∧ l.ok ∧ Texts K H sw ss ∧ Fits ss l ∧
  ∀ H' v, Same H H' → EntAt K H' l v → Q v H'
theorem ok_read_entry (T : Tx K mg) : FnOk P w K mg base CX0 5 T.a_read_entry T.f_read_entry ["line", "at", "switches"] (spReadEntry K) := by
  refine T.F_read_entry.ok sc_read_entry (fun vs H Q E h => ?_) (fun cdv A outer s H vs Q E hr h => ?_)
  · obtain ⟨z, at_, sw, ss, l, rfl, _⟩ := h
    rfl
  · obtain ⟨z, at_, sw, ss', l, rfl, hwr, hok, hss, hfit, q⟩ := h
    have hr1 : Room 1 _ := hr.mono (by decide)
    refine ⟨_, (pss_cons (ps_if (pt_cmpR op_eq (pe_slice sl_str (pv 0) po_none (po_some pe_int)) pe_str (nomark _)) (pss_one (ps_ret (pe_call (ok_read_rule T) hr (by rfl) T.m_read_rule T.F_read_rule.kp T.B_read_rule .nil pass0 (pa_cons (pv 0) (pa_cons (pv 1) (pa_cons (pv 2) pa_nil)))))) pss_nil)
  (pss_cons (ps_set (i := 3) sc_read_entry.nd rfl (.inl rfl) (pe_split (pv 0) pe_str))
  (pss_cons (ps_if (pt_cmpR op_eq (pe_ix ix_list (pv 3) pe_int (fun _ _ => rfl)) pe_str (nomark _))
    (pss_cons (ps_if (PW.pt (pw_or (pt_cmpR op_ne (pe_callB call_len_seq (by rfl) T.b_len (by decide +kernel) (pa_cons (pv 3) pa_nil)) pe_int (nomark _)) (pw_or (pt_not (pt_val (pe_call (ok_is_name T) hr1 (by rfl) T.m_is_name T.F_is_name.kp T.B_is_name .nil pass0 (pa_cons (pe_ix ix_list (pv 3) pe_int (fun _ _ => rfl)) pa_nil)))) (pw_or1 (pt_cmpR op_in_seq (pe_ix ix_list (pv 3) pe_int (fun _ _ => rfl)) (pv 2) rfl))))) (pss_one ps_never) pss_nil) (pss_one (ps_ret (pe_tup (pa_cons pe_str (pa_cons (pe_ix ix_list (pv 3) pe_int (fun _ _ => rfl)) pa_nil)))))) pss_nil)
  (C8.pss_cut (ps_set (i := 4) sc_read_entry.nd rfl (.inl rfl) (pe_ifExp (pt_cmpR op_eq (pe_ix ix_list (pv 3) pe_int (fun _ _ => rfl)) pe_str (nomark _)) (pe_gint (by rfl) T.c_MOST_IN_GROUP) pe_int))
  (pss_cons (ps_if (PW.pt (pw_or (pt_cmpR op_notIn_seq (pe_ix ix_list (pv 3) pe_int (fun _ _ => rfl)) (pe_tup (pa_cons pe_str (pa_cons pe_str (pa_cons pe_str pa_nil)))) rfl) (pw_or1 (pt_not (pt_chain op_le op_le pe_int (pe_callB call_len_seq (by rfl) T.b_len (by decide +kernel) (pa_cons (pv 3) pa_nil)) (pe_op op_add (pv 4) pe_int)))))) (pss_one ps_never) pss_nil)
  (pss_cons (ps_if (pt_cmpR op_lt (pe_lenSetS (by rfl) T.b_len (by rfl) T.b_set (pe_slice sl_list (pv 3) (po_some pe_int) po_none)) (pe_op op_sub (pe_callB call_len_seq (by rfl) T.b_len (by decide +kernel) (pa_cons (pv 3) pa_nil)) pe_int) (nomark _)) (pss_one ps_never) pss_nil)
  (pss_cons (ps_for PassesOwn.never rfl (pi_list (pe_slice sl_list (pv 3) (po_some pe_int) po_none)) (pg_name (i := 5) sc_read_entry.nd rfl (.inl rfl)) (pss_one (ps_if (pt_cmpR op_notIn_seq (pv 5) (pv 2) rfl) (pss_one ps_never) pss_nil))) (pss_one (ps_ret (pe_tup (pa_cons (pe_ix ix_list (pv 3) pe_int (fun _ _ => rfl)) (pa_cons (pe_callTy call_tuple_of (by rfl) T.b_tuple (by decide +kernel) (pa_cons (pe_slice sl_list (pv 3) (po_some pe_int) po_none) pa_nil)) pa_nil)))))))))))), ?_⟩
    cases l with
    | rule f =>
      obtain ⟨t, rfl, hrt⟩ := hwr
      refine ⟨_, rfl, 5, rfl, _, rfl, ?_, rfl, true, sEq (rule_head t), ?_⟩
      · rw [len_app, show ("rule " : Str).length = 5 by decide +kernel]
        have := hrt.1
        exact big_str (by omega)
      exact ⟨_, rfl, _, rfl, _, rfl, t, at_, sw, ss', f, rfl, hrt, hok.1, hss, hfit, fun H1 v s1 hv => q H1 v s1 hv⟩
    | sw y =>
      have hz : z = "switch " ++ y := hwr
      have nl := NameOk.len hok
      have zl : z.length ≤ 20 := by
        rw [hz, len_app, show ("switch " : Str).length = 7 by decide +kernel]
        omega
      have hz1 : tl z = 115 :: (tl "witch " ++ tl y) := by
        rw [hz, tl_append, show tl "switch " = 115 :: tl "witch " by decide +kernel]
        rfl
      refine ⟨_, rfl, 5, rfl, _, rfl, big_str (by omega), rfl, false, sNe (not_rule hz1 (by decide)), ?_⟩
      refine ⟨_, rfl, ⟨_, rfl⟩, z, " ", rfl, rfl, by decide +kernel, big_str (by omega), fun p np => ?_⟩
      rw [hz, sw_join, split_sp (by simp) (fun x hx => by
        rcases List.mem_cons.mp hx with e | hx
        · rw [e]
          decide +kernel
        · rw [List.mem_singleton.mp hx]
          exact name_sp hok), List.map_cons, List.map_cons, List.map_nil]
      have s1 := same_upd (o := .lst [V.str "switch", V.str y]) np
      have ep : SqL K (upd H p (.lst [V.str "switch", V.str y])) p [V.str "switch", V.str y] := .inl (.inl upd_same)
      refine ⟨_, rfl, p, _, 0, _, rfl, rfl, ep, atI_nat (j := 0) rfl, rfl, true, sEq rfl, ?_⟩
      refine ⟨_, rfl, p, _, rfl, .inl ep, rfl, false, rfl, ?_⟩
      refine ⟨_, rfl, p, _, 1, _, rfl, rfl, ep, atI_nat (j := 1) rfl, y, rfl, hok, fun H2 s2 => ⟨true, rfl, ?_⟩⟩
      have ep2 : SqL K H2 p [V.str "switch", V.str y] := s2.seq ep
      refine ⟨_, rfl, p, _, 1, _, rfl, rfl, ep2, atI_nat (j := 1) rfl, _, rfl, sw, _, rfl, hss.keep (s1.trans s2), rfl, flat_strs ss', false, congrArg V.bl (inV_no hfit), ?_⟩
      refine ⟨_, rfl, p, _, 1, _, rfl, rfl, ep2, atI_nat (j := 1) rfl, by show 2 ≤ sizeLine; decide, fun p2 np2 => ?_⟩
      exact q _ _ ((s1.trans s2).trans (same_upd np2)) ⟨p2, rfl, .inl (.inl upd_same)⟩
    | grp x ns =>
      have hz : z = (Ln.grp x ns).std := hwr
      obtain ⟨hx, hnm, h2, hmax, hnd⟩ := hok
      have zl : z.length ≤ 300 := by
        rw [hz]
        exact Ln.std_len (l := .grp x ns) ⟨hx, hnm, h2, hmax, hnd⟩
      obtain ⟨xsp, c, r, ec, nc⟩ := grp_sp hx
      have hz1 : tl z = c :: (r ++ tl (" " ++ Txt.join " " ns)) := by
        rw [hz]
        show tl (x ++ " " ++ Txt.join " " ns) = _
        rw [tl_append, tl_append, tl_append, ec, List.append_assoc]
        rfl
      have l12 : ns.length ≤ 12 := by split at hmax <;> omega
      refine ⟨_, rfl, 5, rfl, _, rfl, big_str (by omega), rfl, false, sNe (not_rule hz1 nc), ?_⟩
      refine ⟨_, rfl, ⟨_, rfl⟩, z, " ", rfl, rfl, by decide +kernel, big_str (by omega), fun p np => ?_⟩
      rw [hz, grp_join h2, split_sp (by simp) (fun n hn => by
        rcases List.mem_cons.mp hn with e | hn
        · rw [e]
          exact xsp
        · exact name_sp (hnm n hn))]
      rw [List.map_cons]
      have s1 := same_upd (o := .lst (V.str x :: ns.map V.str)) np
      have ep : SqL K (upd H p (.lst (V.str x :: ns.map V.str))) p (V.str x :: ns.map V.str) := .inl (.inl upd_same)
      refine ⟨_, rfl, p, _, 0, _, rfl, rfl, ep, atI_nat (j := 0) rfl, rfl, false, sNe (grp_tag hx).1, ?_⟩
      refine ⟨fun σ' H' => ∃ n : Int, σ' = [some (.str (Txt.join " " (x :: ns))), some at_, some (.ref sw), some (.ref p), some (.int n), none] ∧ H' = upd H p (.lst (V.str x :: ns.map V.str)) ∧ (ns.length : Int) ≤ n, ?_, fun σ' H' hM => ?_⟩
      · refine ⟨_, rfl, p, _, 0, _, rfl, rfl, ep, atI_nat (j := 0) rfl, rfl, decide (V.str x = V.str "one"), rfl, ?_⟩
        by_cases h1 : x = "one"
        · rw [if_pos h1] at hmax
          rw [decide_eq_true (congrArg V.str h1)]
          exact ⟨12, rfl, rfl, by omega⟩
        · rw [if_neg h1] at hmax
          rw [decide_eq_false fun e => h1 (V.str.inj e)]
          exact ⟨2, rfl, rfl, by omega⟩
      obtain ⟨n, rfl, rfl, hn⟩ := hM
      refine ⟨_, rfl, p, _, 0, _, rfl, rfl, ep, atI_nat (j := 0) rfl, by show 3 ≤ sizeLine; decide, fun c nc => ?_⟩
      have s2 := same_upd (o := .tup [.str "one", .str "needs", .str "bars"]) nc
      have ep2 := s2.seq ep
      refine ⟨c, _, rfl, .inr (.inl (.inl upd_same)), rfl, rfl, false, congrArg V.bl ?_, ?_⟩
      · show (!inV (.str x) ((["one", "needs", "bars"] : List Str).map V.str)) = false
        rw [inV_yes hx]
        rfl
      refine ⟨_, rfl, p, _, rfl, .inl ep2, _, _, rfl, rfl, decide ((3 : Int) ≤ ((V.str x :: ns.map V.str).length : Nat)), rfl, ?_⟩
      have lw : ((V.str x :: ns.map V.str).length : Int) = (ns.length : Int) + 1 := by
        rw [List.length_cons, List.length_map]
        omega
      rw [decide_eq_true (by rw [lw]; omega)]
      refine iteT ⟨_, rfl, _, _, rfl, rfl, _, _, rfl, rfl, true, congrArg V.bl (decide_eq_true (by rw [lw]; omega)), ?_⟩
      refine ⟨_, rfl, 1, rfl, p, _, rfl, ep2, fun d nd => ?_⟩
      rw [cut1]
      have s3 := same_upd (o := .lst (ns.map V.str)) nd
      have ep3 := s3.seq ep2
      refine ⟨d, ns, rfl, .inl (.inl upd_same), hnd, by omega, ?_⟩
      refine ⟨_, rfl, p, _, rfl, .inl ep3, _, _, rfl, rfl, _, _, rfl, rfl, false, congrArg V.bl (decide_eq_false (by rw [lw]; omega)), ?_⟩
      refine ⟨_, rfl, 1, rfl, p, _, rfl, ep3, fun e ne => ?_⟩
      rw [cut1]
      have s4 := same_upd (o := .lst (ns.map V.str)) ne
      have ep4 := s4.seq ep3
      have ss := ((s1.trans s2).trans s3).trans s4
      refine ⟨e, rfl, ⟨_, .inl (.inl upd_same)⟩, ?_⟩
      refine for_list (xs := ns.map V.str) (fun i σ H3 => H3 = upd (upd (upd (upd H p (.lst (V.str x :: ns.map V.str))) c (.tup [.str "one", .str "needs", .str "bars"])) d (.lst (ns.map V.str))) e (.lst (ns.map V.str)) ∧
          ∃ y5, σ = [some (.str (Txt.join " " (x :: ns))), some at_, some (.ref sw), some (.ref p), some (.int n), y5]) ⟨rfl, none, rfl⟩ (fun i σ H3 _ hP => ?_) (fun i v σ H3 hv hP => ?_) fun σ H3 hP => ?_
      · rw [hP.1]
        exact .inl (.inl upd_same)
      · obtain ⟨rfl, y5, rfl⟩ := hP
        rw [List.getElem?_map] at hv
        cases en : ns[i]? with
        | none => rw [en] at hv; cases hv
        | some y =>
          rw [en] at hv
          obtain rfl : V.str y = v := Option.some.inj hv
          refine ⟨_, rfl, _, rfl, sw, _, rfl, hss.keep ss, rfl, flat_strs ss', false, congrArg V.bl ?_, rfl, _, rfl⟩
          show (!inV (.str y) (ss'.map V.str)) = false
          rw [inV_yes (hfit y (List.mem_of_getElem? en))]
          rfl
      · obtain ⟨rfl, y5, rfl⟩ := hP
        refine ⟨_, rfl, p, _, 0, _, rfl, rfl, ep4, atI_nat (j := 0) rfl, ?_⟩
        refine ⟨_, rfl, 1, rfl, p, _, rfl, ep4, fun g ng => ?_⟩
        rw [cut1]
        have s5 := same_upd (o := .lst (ns.map V.str)) ng
        refine ⟨g, _, rfl, .inl ⟨.inl (.inl upd_same), fun u nu => ⟨by show 2 ≤ sizeLine; decide, fun k nk => ?_⟩⟩⟩
        have s6 := same_upd (o := .tup (ns.map V.str)) nu
        have s7 := same_upd (o := .tup [.str x, .ref u]) nk
        exact q _ _ (((ss.trans s5).trans s6).trans s7) ⟨k, u, rfl, .inl (.inl upd_same), .inl (.inl (s7 _ _ upd_same))⟩
end
end K77

set_option maxRecDepth 100000
set_option maxHeartbeats 4000000
/-! K7O: read_book. -/
namespace K77
open PySem PySem.Spec PyProof.Rows L2 KG TL

/-- the rows write the lines -/
def RowsWr : List Str → List Ln → Prop
  | [], [] => True
  | z :: zs, l :: ls => (LnWr z l ∧ 10 ∉ tl z ∧ z.length ≤ 300) ∧ RowsWr zs ls
  | _, _ => False
theorem RowsWr.len : ∀ {zs : List Str} {ls : List Ln}, RowsWr zs ls → zs.length = ls.length
  | [], [], _ => rfl
  | _ :: _, _ :: _, h => congrArg (· + 1) (RowsWr.len h.2)
  | [], _ :: _, h => h.elim
  | _ :: _, [], h => h.elim
theorem RowsWr.at_ : ∀ {zs : List Str} {ls : List Ln} {i : Nat} {z : Str}, RowsWr zs ls → zs[i]? = some z → ∃ l, ls[i]? = some l ∧ LnWr z l
  | _ :: _, _ :: _, 0, z, h, e => ⟨_, rfl, by
      have e := Option.some.inj e
      rw [← e]
      exact h.1.1⟩
  | _ :: zs, _ :: ls, i + 1, z, h, e => RowsWr.at_ (zs := zs) (ls := ls) (i := i) h.2 e
  | [], [], _, _, _, e => by cases e
theorem RowsWr.all : ∀ {zs : List Str} {ls : List Ln}, RowsWr zs ls → ∀ z ∈ zs, 10 ∉ tl z ∧ z.length ≤ 300
  | z :: zs, _ :: _, h, x, hx => by
    rcases List.mem_cons.mp hx with e | hx
    · rw [e]
      exact h.1.2
    · exact RowsWr.all h.2 x hx
  | [], [], _, x, hx => by cases hx
def BookWr (text : Str) (ls : List Ln) : Prop := ∃ rows, text = Txt.join "\n" rows ∧ RowsWr rows ls
structure GoodBook (ls : List Ln) : Prop where
  ok : ∀ l ∈ ls, l.ok
  fits : ∀ i l, ls[i]? = some l → Fits (swOf (ls.take i)) l
  few : ls.length ≤ 55
  ne : ls ≠ []
  sws : (swOf ls).length ≤ 40
theorem swOf_take (ls : List Ln) (i : Nat) : (swOf (ls.take i)).length ≤ (swOf ls).length := by
  have e := swOf_app (ls.take i) (ls.drop i)
  rw [List.take_append_drop] at e
  rw [e, List.length_append]
  omega
theorem tl_nl : tl "\n" = [10] := by decide +kernel
theorem nl_kind : ("\n" : Str).cps.all (· < 256) = true := by decide +kernel
theorem nl_len : ("\n" : Str).length = 1 := by decide +kernel
theorem split_nl {ps : List Str} (h : ps ≠ []) (n : ∀ p ∈ ps, 10 ∉ tl p) : Txt.split (Txt.join "\n" ps) "\n" = ps := split_join (s := 10) (S := []) tl_nl nl_kind h n

section
variable {P : Program} {w : World} {K : PySem.W.Frag} {mg : Str → Option Value} {base : Heap}
def spReadBook (K : PySem.W.Frag) (C : Addr) : Sp := fun vs H Q _ => ∃ (z : Str) (ls : List Ln), vs = [.str z] ∧ BookWr z ls ∧ GoodBook ls ∧ z ≠ "" ∧ ∀ H' y, Same H H' → BookAt K C H' y ls → Q (.ref y) H'
theorem ok_read_book (T : Tx K mg) : FnOk P w K mg base CX0 6 T.a_read_book T.f_read_book ["text"] (spReadBook K T.A_Book) := by
  refine T.F_read_book.ok sc_read_book (fun vs H Q E h => ?_) (fun cdv A outer s H vs Q E hr h => ?_)
  · obtain ⟨z, ls, rfl, _⟩ := h
    rfl
  · obtain ⟨z, ls, rfl, ⟨rows, hz, hrw⟩, gb, hne, q⟩ := h
    have hr2 : Room 2 _ := hr.mono (by decide)
    refine ⟨_, (pss_cons (ps_set (i := 1) sc_read_book.nd rfl (.inl rfl) (pe_lst pa_nil))
  (pss_cons (ps_set (i := 2) sc_read_book.nd rfl (.inl rfl) (pe_lst pa_nil))
  (pss_cons (ps_set (i := 3) sc_read_book.nd rfl (.inl rfl) (pe_ifExp (pt_cmpR op_ne (pv 0) pe_str (nomark _)) (pe_split (pv 0) pe_str) (pe_lst pa_nil)))
  (pss_cons (ps_for PassesOwn.never rfl (pi_enum (by rfl) T.b_enumerate (pa_cons (pv 3) pa_nil)) (pg_tup rfl (pgs_cons (pg_name (i := 4) sc_read_book.nd rfl (.inl rfl)) (pgs_cons (pg_name (i := 5) sc_read_book.nd rfl (.inl rfl)) pgs_nil)))
    (pss_cons (ps_set (i := 6) sc_read_book.nd rfl (.inl rfl) (pe_call (ok_read_entry T) hr (by rfl) T.m_read_entry T.F_read_entry.kp T.B_read_entry .nil pass0 (pa_cons (pv 5) (pa_cons (pv 4) (pa_cons (pv 2) pa_nil)))))
    (C8.pss_cut (ps_if (pt_cmpR op_eq (pe_ix ix_tup (pv 6) pe_int (fun _ _ => rfl)) pe_str (nomark _))
      (pss_cons (ps_if (pt_cmpR op_eq (pe_callB call_len_seq (by rfl) T.b_len (by decide +kernel) (pa_cons (pv 2) pa_nil)) (pe_gint (by rfl) T.c_MOST_SWITCHES) (nomark _)) (pss_one ps_never) pss_nil) (pss_one (ps_expr (pe_bm PySem.F.plainAttrs_list PySem.F.slot_list_append PySem.F.type_list_append mt_append (pv 2) (pa_cons (pe_ix ix_tup (pv 6) pe_int (fun _ _ => rfl)) pa_nil))))) (pss_one (ps_if (pt_cmpR op_eq (pe_op op_sub (pe_callB call_len_seq (by rfl) T.b_len (by decide +kernel) (pa_cons (pv 1) pa_nil)) (pe_callB call_len_seq (by rfl) T.b_len (by decide +kernel) (pa_cons (pv 2) pa_nil))) (pe_gint (by rfl) T.c_MOST_RULES) (nomark _)) (pss_one ps_never) pss_nil))) (pss_one (ps_expr (pe_bm PySem.F.plainAttrs_list PySem.F.slot_list_append PySem.F.type_list_append mt_append (pv 1) (pa_cons (pv 6) pa_nil))))))) (pss_one (ps_ret (pe_make T.K_Book (ok_Book_init T) hr2 (by rfl) T.m_Book T.B_Book_init .nil pass0 (pa_cons (pv 1) pa_nil)))))))), ?_⟩
    have hrl := hrw.len
    have rne : rows ≠ [] := fun e => gb.ne (List.length_eq_zero_iff.mp (by rw [← hrl, e]; rfl))
    have zl : z.length ≤ 20000 := by
      have h1 := join_len "\n" rows
      have h2 := sum_le (parts := rows) (n := 300) fun x hx => (hrw.all x hx).2
      rw [nl_len] at h1
      have := gb.few
      rw [hz]
      omega
    refine ⟨Nat.zero_le _, fun eo neo => ⟨Nat.zero_le _, fun so nso => ?_⟩⟩
    have s1 : Same H (upd H eo (.lst [])) := same_upd neo
    have s2 : Same (upd H eo (.lst [])) (upd (upd H eo (.lst [])) so (.lst [])) := same_upd nso
    have hes : eo ≠ so := ne_of_none upd_same nso
    have nH : ∀ {c : Addr} {o : HO}, H c = some o → c ≠ eo ∧ c ≠ so := fun e => ⟨ne_of_none e neo, ne_of_none (s1 _ _ e) nso⟩
    have eo2 : (upd (upd H eo (.lst [])) so (.lst [])) eo = some (.lst []) := (upd_ne hes).trans upd_same
    refine ⟨_, rfl, rfl, true, sNn hne, _, rfl, ⟨_, rfl⟩, z, "\n", rfl, rfl, by decide +kernel, Nat.le_trans (Nat.add_le_add_right zl 2) (by decide), fun p np => ?_⟩
    rw [hz, split_nl rne fun x hx => (hrw.all x hx).1]
    have s3 := same_upd (o := .lst (rows.map V.str)) np
    have hpe : p ≠ eo := (ne_of_none eo2 np).symm
    have hps : p ≠ so := (ne_of_none upd_same np).symm
    have ss := (s1.trans s2).trans s3
    refine ⟨_, rfl, p, _, rfl, .inl (.inl upd_same), ?_⟩
    generalize eHs : upd (upd (upd H eo (.lst [])) so (.lst [])) p (.lst (rows.map V.str)) = Hs at *
    have e0 : Hs eo = some (.lst []) := s3 _ _ eo2
    have f0 : Hs so = some (.lst []) := s3 _ _ upd_same
    have p0 : Hs p = some (.lst (rows.map V.str)) := by rw [← eHs]; exact upd_same
    let σ0 : Option V → Option V → Option V → L2.St := fun y4 y5 y6 => [some (.str (Txt.join "\n" rows)), some (.ref eo), some (.ref so), some (.ref p), y4, y5, y6]
    let Pv : Nat → L2.St → Hp → Prop := fun i σ H3 => ∃ es y4 y5 y6, σ = σ0 y4 y5 y6 ∧ But2 eo so Hs H3 ∧ H3 eo = some (.lst es) ∧ Ents K H3 (ls.take i) es ∧ H3 so = some (.lst ((swOf (ls.take i)).map V.str))
    refine for_it (walk_enum (xs := rows.map V.str)) Pv ⟨[], none, none, none, rfl, But2.refl _ _ _, e0, trivial, f0⟩ (fun i σ H3 _ hP => ?_) (fun i x σ H3 H4 hi hP hY => ?_) fun σ H3 hP => ?_
    · obtain ⟨es, y4, y5, y6, rfl, bu, _⟩ := hP
      exact .inl (.inl (bu _ _ hpe hps p0))
    · obtain ⟨es, y4, y5, y6, rfl, bu, he, hen, hso⟩ := hP
      obtain ⟨Tn, x1, x2, rfl, nT, rfl, e1, e2⟩ := hY
      obtain rfl : V.int (i : Nat) = x1 := Option.some.inj e1
      have e2 : (rows.map V.str)[i]? = some x2 := e2
      rw [List.getElem?_map] at e2
      cases er : rows[i]? with
      | none => rw [er] at e2; cases e2
      | some row =>
      rw [er] at e2
      obtain rfl : V.str row = x2 := Option.some.inj e2
      obtain ⟨l, hl, hwr⟩ := hrw.at_ er
      have hok := gb.ok l (List.mem_of_getElem? hl)
      have s4 := same_upd (o := .tup [.int (i : Nat), .str row]) nT
      have lt : (ls.take i).length ≤ 55 := by
        rw [List.length_take]
        have := gb.few
        omega
      have il : i < ls.length := (List.getElem?_eq_some_iff.mp hl).1
      have lti : (ls.take i).length = i := by rw [List.length_take]; omega
      have elen := hen.len
      have tk := take_ents (K := K) (H := H) hl
      have tk2 : ls.take (i + 1) = ls.take i ++ [l] := by rw [List.take_add_one, hl]; rfl
      have swl := swOf_len (ls.take i)
      refine ⟨Tn, _, rfl, .inl (.inl upd_same), rfl, _, _, rfl, _, _, rfl, rfl, ?_⟩
      refine ⟨_, rfl, _, rfl, _, rfl, row, _, so, _, l, rfl, hwr, hok, .inl (.inl (.inl (s4 _ _ hso))), gb.fits i l hl, fun H5 v s5 hv => ?_⟩
      have s45 := s4.trans s5
      have he5 := s45 _ _ he
      have hso5 := s45 _ _ hso
      have hen5 := hen.keep (same_tups s45)
      obtain ⟨a, u, rfl, ha, hsw⟩ := ent_tag hv
      refine ⟨fun σ' H' => σ' = σ0 (some (.int (i : Nat))) (some (.str row)) (some (.ref a)) ∧ But2 eo so Hs H' ∧ H' eo = some (.lst es) ∧ Ents K H' (ls.take i) es ∧ H' so = some (.lst ((swOf (ls.take (i + 1))).map V.str)) ∧ EntAt K H' l (.ref a), ?_, fun σ' H' hM => ?_⟩
      · rcases tag_sw hok with ⟨y, rfl⟩ | ⟨hne', hnil⟩
        · obtain rfl := hsw y rfl
          refine ⟨_, rfl, a, _, 0, _, rfl, rfl, ha, atI_nat (j := 0) rfl, rfl, true, sEq rfl, ?_⟩
          have few40 : (swOf (ls.take i)).length < 40 := by
            have h1 := swOf_take ls (i + 1)
            have h2 := gb.sws
            rw [tk, List.length_append] at h1
            have : (swOf [Ln.sw y]).length = 1 := rfl
            omega
          refine ⟨_, rfl, so, _, rfl, .inl (.inl (.inl hso5)), rfl, false, congrArg V.bl (decide_eq_false fun e => ?_), ?_⟩
          · have e := V.int.inj e
            rw [List.length_map] at e
            omega
          refine ⟨_, rfl, .inl ⟨rfl, _, .inl (.inl hso5)⟩, _, rfl, a, _, 1, _, rfl, rfl, ha, atI_nat (j := 1) rfl, so, _, _, rfl, rfl, hso5, ?_, ?_⟩
          · rw [List.length_map]
            exact small1000 (by omega)
          have t6 := but_tups (but_upd (o := .lst ((swOf (ls.take i)).map V.str ++ [.str y]))) hso5
          refine ⟨rfl, bu.trans ((same_but2 s45).trans but2_r), (upd_ne hes).trans he5, hen5.keep t6, ?_, hv.keep t6⟩
          rw [tk, List.map_append]
          exact upd_same
        · refine ⟨_, rfl, a, _, 0, _, rfl, rfl, ha, atI_nat (j := 0) rfl, rfl, false, sNe hne', ?_⟩
          refine ⟨_, rfl, eo, _, rfl, .inl (.inl (.inl he5)), _, rfl, so, _, rfl, .inl (.inl (.inl hso5)), _, _, rfl, rfl, rfl, false, congrArg V.bl (decide_eq_false fun e => ?_), ?_⟩
          · have e := V.int.inj e
            rw [List.length_map] at e
            omega
          refine ⟨rfl, bu.trans (same_but2 s45), he5, hen5, ?_, hv⟩
          rw [tk, hnil, List.append_nil]
          exact hso5
      · obtain ⟨rfl, bu6, he6, hen6, hso6, hv6⟩ := hM
        refine ⟨_, rfl, .inl ⟨rfl, _, .inl (.inl he6)⟩, _, rfl, eo, _, _, rfl, rfl, he6, small1000 (by omega), ?_⟩
        have t7 := but_tups (but_upd (o := .lst (es ++ [.ref a]))) he6
        exact ⟨es ++ [.ref a], _, _, _, rfl, bu6.trans but2_l, upd_same, by rw [tk2]; exact Ents.snoc (hv6.keep t7) (hen6.keep t7), (upd_ne hes.symm).trans hso6⟩
    · obtain ⟨es, y4, y5, y6, rfl, bu, he, hen, hso⟩ := hP
      rw [List.length_map, hrl, List.take_length] at hen
      refine ⟨_, rfl, ?_⟩
      intro y dy ny ndy hyy
      have s4 := same_upd (o := .own y) ndy
      have nyd : (upd H3 dy (.own y)) y = none := by
        rw [upd_ne (Ne.symm hyy)]
        exact ny
      have s5 := same_upd (o := .ins T.A_Book dy []) nyd
      have s45 := s4.trans s5
      have he5 := s45 _ _ he
      have hey : eo ≠ y := ne_of_none he ny
      refine ⟨y, dy, eo, ls, es, rfl, upd_same, .inl (.inl (.inl he5)), hen.keep (same_tups s45), gb.ok, by have := gb.few; omega, hey, fun H6 b6 hb => ⟨rfl, q H6 y (fun c o e => ?_) hb⟩⟩
      have e3 := bu _ _ (nH e).1 (nH e).2 (ss _ _ e)
      exact b6 _ _ (ne_of_none e3 ny) (s45 _ _ e3)
end
end K77

set_option maxRecDepth 100000
set_option maxHeartbeats 4000000
/-! K7P: OpenPiece, read_condition. -/
namespace K77
open PySem PySem.Spec PyProof.Rows L2 KG TL

section
variable {P : Program} {w : World} {K : PySem.W.Frag} {mg : Str → Option Value} {base : Heap}
/-- an open piece at x: its condition, where its one side stands -/
def PieceAt (C : Addr) (H : Hp) (x : Addr) (u : V) (s l : Addr) : Prop := ∃ dx, H x = some (.ins C dx [("condition", u), ("sides", .ref s)]) ∧ H s = some (.lst [.ref l])
def spOpInit (C : Addr) : Sp := fun vs H Q _ => ∃ (x dx : Addr) (u : V), vs = [.ref x, u] ∧ H x = some (.ins C dx []) ∧
  ∀ H' s l, But x H H' → H s = none → H l = none → s ≠ l → PieceAt C H' x u s l → H' l = some (.lst []) → Q .non H'
theorem ok_OpenPiece_init (T : Tx K mg) : FnOk P w K mg base CX0 1 T.a_OpenPiece_init T.f_OpenPiece_init ["self", "condition"] (spOpInit T.A_OpenPiece) := by
  refine T.F_OpenPiece_init.ok sc_OpenPiece_init (fun vs H Q E h => ?_) (fun cdv A outer s H vs Q E hr h => ?_)
  · obtain ⟨x, dx, u, rfl, _⟩ := h
    rfl
  · obtain ⟨x, dx, u, rfl, hx, q⟩ := h
    refine ⟨_, (pss_cons (ps_fld (pv 0) (pv 1) rfl) (pss_one (ps_fld (pv 0) (pe_lst (pa_cons (pe_lst pa_nil) pa_nil)) rfl))), ?_⟩
    refine ⟨_, rfl, _, rfl, x, _, dx, _, rfl, hx, T.C_OpenPiece, T.N_OpenPiece_condition, by decide, ?_⟩
    rw [show putF "condition" u [] = [(("condition" : Str), u)] from rfl]
    refine ⟨Nat.zero_le _, fun l nl => ⟨by show 1 ≤ sizeLine; decide, fun s ns => ?_⟩⟩
    have b1 : But x H (upd H x (.ins T.A_OpenPiece dx [("condition", u)])) := but_upd
    have hx1 : (upd H x (.ins T.A_OpenPiece dx [("condition", u)])) x = some (.ins T.A_OpenPiece dx [("condition", u)]) := upd_same
    have s2 := same_upd (o := .lst []) nl
    have s3 := same_upd (o := .lst [.ref l]) ns
    have hx3 := s3 _ _ (s2 _ _ hx1)
    have nlx : l ≠ x := fun e => by
      rw [e, hx1] at nl
      cases nl
    have nsx : s ≠ x := fun e => by
      rw [e, s2 _ _ hx1] at ns
      cases ns
    have nsl : s ≠ l := fun e => by
      rw [e, upd_same] at ns
      cases ns
    refine ⟨_, rfl, x, _, dx, _, rfl, hx3, T.C_OpenPiece, T.N_OpenPiece_sides, by show 1 < 1000; decide, ?_⟩
    refine q _ s l (fun b o n e => (upd_ne n).trans (s3 _ _ (s2 _ _ (b1 _ _ n e)))) ?_ ?_ nsl ⟨dx, upd_same, (upd_ne nsx).trans upd_same⟩ ((upd_ne nlx).trans (s3 _ _ upd_same))
    · have h2 : (upd H x (.ins T.A_OpenPiece dx [("condition", u)])) s = none := Same.free s2 ns
      rw [upd_ne nsx] at h2
      exact h2
    · rw [upd_ne nlx] at nl
      exact nl
def spFinished (K : PySem.W.Frag) (C : Addr) : Sp := fun vs H Q _ => ∃ (x s l : Addr) (u : V) (rs : List V), vs = [.ref x] ∧ PieceAt C H x u s l ∧ H l = some (.lst rs) ∧
  ∀ H' p b, Same H H' → H' p = some (.tup [.str "piece", u, .ref b, .non]) → H' b = some (.tup rs) → Q (.ref p) H'
theorem ok_OpenPiece_finished (T : Tx K mg) : FnOk P w K mg base CX0 1 T.a_OpenPiece_finished T.f_OpenPiece_finished ["self"] (spFinished K T.A_OpenPiece) := by
  refine T.F_OpenPiece_finished.ok sc_OpenPiece_finished (fun vs H Q E h => ?_) (fun cdv A outer s0 H vs Q E hr h => ?_)
  · obtain ⟨x, s, l, u, rs, rfl, _⟩ := h
    rfl
  · obtain ⟨x, s, l, u, rs, rfl, ⟨dx, hx, hs⟩, hl, q⟩ := h
    refine ⟨_, (pss_cons (ps_set (i := 1) sc_OpenPiece_finished.nd rfl (.inl rfl) (pe_ifExp (pt_cmpR op_eq (pe_callB call_len_seq (by rfl) T.b_len (by decide +kernel) (pa_cons (pe_fld (pv 0) rfl) pa_nil)) pe_int (nomark _)) (pe_callTy call_tuple_of (by rfl) T.b_tuple (by decide +kernel) (pa_cons (pe_ix ix_list (pe_fld (pv 0) rfl) pe_int (fun _ _ => rfl)) pa_nil)) pe_non)) (pss_one (ps_ret (pe_tup (pa_cons pe_str (pa_cons (pe_fld (pv 0) rfl) (pa_cons (pe_callTy call_tuple_of (by rfl) T.b_tuple (by decide +kernel) (pa_cons (pe_ix ix_list (pe_fld (pv 0) rfl) pe_int (fun _ _ => rfl)) pa_nil)) (pa_cons (pv 1) pa_nil)))))))), ?_⟩
    refine ⟨_, rfl, x, _, dx, _, _, rfl, hx, T.C_OpenPiece, T.N_OpenPiece_sides, rfl, s, _, rfl, .inl (.inl (.inl hs)), rfl, false, congrArg V.bl (show decide (V.int ((1 : Nat) : Int) = V.int 2) = false by decide), ?_⟩
    refine ⟨_, rfl, x, _, dx, _, _, rfl, hx, T.C_OpenPiece, T.N_OpenPiece_condition, rfl, ?_⟩
    refine ⟨_, rfl, x, _, dx, _, _, rfl, hx, T.C_OpenPiece, T.N_OpenPiece_sides, rfl, s, _, 0, _, rfl, rfl, .inl (.inl hs), atI_nat (j := 0) rfl, l, rs, rfl, .inl ⟨.inl (.inl hl), fun b nb => ?_⟩⟩
    refine ⟨_, rfl, by show 4 ≤ sizeLine; decide, fun p np => ?_⟩
    have s1 := same_upd (o := .tup rs) nb
    have s2 := same_upd (o := .tup [.str "piece", u, .ref b, .non]) np
    exact q _ p b (s1.trans s2) upd_same (s2 _ _ upd_same)
def spReadCondition (K : PySem.W.Frag) : Sp := fun vs H Q _ => ∃ (t : Str) (at_ : V) (sw : Addr) (ss : List Str) (f : Fm), vs = [.str t, at_, .ref sw] ∧ RT t f ∧ f.wt ≤ 240 ∧ Texts K H sw ss ∧ (∀ y ∈ f.names, y ∈ ss) ∧
  ∀ H' v, Same H H' → Fml K H' f v → Q v H'
theorem ok_read_condition (T : Tx K mg) : FnOk P w K mg base CX0 4 T.a_read_condition T.f_read_condition ["told", "place", "switches"] (spReadCondition K) := by
  refine T.F_read_condition.ok sc_read_condition (fun vs H Q E h => ?_) (fun cdv A outer s H vs Q E hr h => ?_)
  · obtain ⟨t, at_, sw, ss, f, rfl, _⟩ := h
    rfl
  · obtain ⟨t, at_, sw, ss, f, rfl, ⟨hl, ws, hw, hrd⟩, hwt, hss, hn, q⟩ := h
    have hr1 : Room 1 _ := hr.mono (by decide)
    obtain ⟨ds, hd, hb⟩ := bind_read_formula T
    refine ⟨_, (pss_cons (ps_try_thru0 (pss_one (ps_set (i := 3) sc_read_condition.nd rfl (.inl rfl) (pe_call (ok_read_formula T) hr (by rfl) T.m_read_formula T.F_read_formula.kp hb hd pass0 (pa_cons (pv 0) pa_nil)))))
  (pss_cons (ps_for PassesOwn.never rfl (pi_list (pe_call (ok_formula_names T) hr1 (by rfl) T.m_formula_names T.F_formula_names.kp T.B_formula_names .nil pass0 (pa_cons (pv 3) pa_nil))) (pg_name (i := 4) sc_read_condition.nd rfl (.inl rfl)) (pss_one (ps_if (pt_cmpR op_notIn_seq (pv 4) (pv 2) rfl) (pss_one ps_never) pss_nil))) (pss_one (ps_ret (pv 3))))), ?_⟩
    refine ⟨_, rfl, t, ws, f, rfl, hl, hw, hrd, fun H1 v s1 hv => ?_⟩
    refine ⟨_, rfl, f, v, rfl, hv, by omega, fun H2 p ys s2 _ ep hy hlen => ⟨p, rfl, ⟨_, .inl (.inl ep)⟩, ?_⟩⟩
    refine for_list (xs := ys.map V.str) (fun i σ H3 => H3 = H2 ∧ ∃ y4, σ = [some (.str t), some at_, some (.ref sw), some v, y4]) ⟨rfl, none, rfl⟩ (fun i σ H3 _ hP => ?_) (fun i x σ H3 hx hP => ?_) fun σ H3 hP => ?_
    · rw [hP.1]
      exact .inl (.inl ep)
    · obtain ⟨rfl, y4, rfl⟩ := hP
      rw [List.getElem?_map] at hx
      cases e : ys[i]? with
      | none => rw [e] at hx; cases hx
      | some y =>
        rw [e] at hx
        obtain rfl : V.str y = x := Option.some.inj hx
        refine ⟨_, rfl, _, rfl, sw, _, rfl, hss.keep (s1.trans s2), rfl, flat_strs ss, false, congrArg V.bl ?_, rfl, _, rfl⟩
        show (!inV (.str y) (ss.map V.str)) = false
        rw [inV_yes (hn y (hy y (List.mem_of_getElem? e)))]
        rfl
    · obtain ⟨rfl, y4, rfl⟩ := hP
      exact ⟨_, rfl, q _ _ (s1.trans s2) (hv.keep (same_tups s2))⟩
end
end K77

set_option maxRecDepth 100000
set_option maxHeartbeats 4000000
/-! K7Q: parts; add_run. -/
namespace K77
open PySem PySem.Spec PyProof.Rows L2 KG TL

def RunAt (K : PySem.W.Frag) (H : Hp) (v : V) : Prop := ∃ (a : Addr) (z : Str), v = .ref a ∧ SqT K H a [.str "run", .str z]
def PieceV (K : PySem.W.Frag) (H : Hp) (v : V) : Prop := ∃ (a : Addr) (u : V) (f : Fm) (b : Addr) (rs : List V), v = .ref a ∧ SqT K H a [.str "piece", u, .ref b, .non] ∧ Fml K H f u ∧ f.lit ∧ SqT K H b rs ∧ (∀ r ∈ rs, RunAt K H r) ∧ rs.length ≤ 1
def PartOk (K : PySem.W.Frag) (H : Hp) (v : V) : Prop := RunAt K H v ∨ PieceV K H v
theorem RunAt.keep {K : PySem.W.Frag} {H H' : Hp} {v : V} (t : Tups H H') (h : RunAt K H v) : RunAt K H' v := let ⟨a, z, e, q⟩ := h; ⟨a, z, e, t.seqT q⟩
theorem PieceV.keep {K : PySem.W.Frag} {H H' : Hp} {v : V} (t : Tups H H') (h : PieceV K H v) : PieceV K H' v := let ⟨a, u, f, b, rs, e, q, hf, l, hb, hr⟩ := h; ⟨a, u, f, b, rs, e, t.seqT q, hf.keep t, l, t.seqT hb, fun r x => (hr.1 r x).keep t, hr.2⟩
theorem PartOk.keep {K : PySem.W.Frag} {H H' : Hp} {v : V} (t : Tups H H') (h : PartOk K H v) : PartOk K H' v := h.imp (RunAt.keep t) (PieceV.keep t)
/-- nothing, or a piece stands last -/
def NoRun (K : PySem.W.Frag) (H : Hp) (rs : List V) : Prop := rs = [] ∨ ∃ r0 v, rs = r0 ++ [v] ∧ PieceV K H v
theorem small10k {n : Nat} (h : n ≤ 10000) : n < sizeLine := Nat.lt_of_le_of_lt h (by decide)
section
variable {P : Program} {w : World} {K : PySem.W.Frag} {mg : Str → Option Value} {base : Heap}
def spAddRun (K : PySem.W.Frag) : Sp := fun vs H Q _ => ∃ (l : Addr) (z : Str) (rs : List V), vs = [.ref l, .str z] ∧ H l = some (.lst rs) ∧ NoRun K H rs ∧ rs.length < 10000 ∧
  ∀ H' ns, But l H H' → H' l = some (.lst (rs ++ ns)) → ns.length ≤ 1 → (∀ v ∈ ns, RunAt K H' v) → Q .non H'
theorem ok_add_run (T : Tx K mg) : FnOk P w K mg base CX0 1 T.a_add_run T.f_add_run ["parts", "string"] (spAddRun K) := by
  refine T.F_add_run.ok sc_add_run (fun vs H Q E h => ?_) (fun cdv A outer s H vs Q E hr h => ?_)
  · obtain ⟨l, z, rs, rfl, _⟩ := h
    rfl
  · obtain ⟨l, z, rs, rfl, hl, nr, few, q⟩ := h
    refine ⟨_, (pss_cons (ps_if (pt_cmpR op_eq (pv 1) pe_str (nomark _)) (pss_one ps_retN) pss_nil)
  (C8.pss_cut (ps_if (PW.pt (pw_and (pt_truth (pv 0) (by intro _; rfl)) (pw_and1 (pt_cmpR op_eq (pe_ix ix_tup (pe_ix ix_list (pv 0) (pe_un un_neg pe_int) (fun _ _ => rfl)) pe_int (fun _ _ => rfl)) pe_str (nomark _))))) (pss_one (ps_set (i := 1) sc_add_run.nd rfl (.inl rfl) (pe_op op_add_str (pe_ix ix_tup (pe_bm0 PySem.F.plainAttrs_list PySem.F.slot_list_pop PySem.F.type_list_pop mt_pop (pv 0)) pe_int (fun _ _ => rfl)) (pv 1)))) pss_nil) (pss_one (ps_expr (pe_bm PySem.F.plainAttrs_list PySem.F.slot_list_append PySem.F.type_list_append mt_append (pv 0) (pa_cons (pe_tup (pa_cons pe_str (pa_cons (pv 1) pa_nil))) pa_nil)))))), ?_⟩
    by_cases hz : z = ""
    · exact ⟨_, rfl, rfl, true, sEq hz, q H [] (fun _ _ _ e => e) (by rw [List.append_nil]; exact hl) (Nat.zero_le _) (fun _ h => (nomatch h))⟩
    refine ⟨_, rfl, rfl, false, sNe hz, ?_⟩
    refine ⟨fun σ' H' => σ' = [some (.ref l), some (.str z)] ∧ H' = H, ?_, fun σ' H' hM => ?_⟩
    · rcases nr with rfl | ⟨r0, v, rfl, a, u, f, b, ins, rfl, ha, _⟩
      · exact ⟨_, rfl, false, .inl ⟨_, .inl (.inl hl), rfl⟩, rfl, rfl⟩
      · have ne : (r0 ++ [V.ref a]).isEmpty = false := by simp
        refine ⟨_, rfl, true, .inl ⟨_, .inl (.inl hl), by rw [ne]; rfl⟩, ?_⟩
        exact ⟨_, rfl, 1, rfl, l, _, -1, _, rfl, rfl, .inl (.inl hl), atI_last _ _, a, _, 0, _, rfl, rfl, ha, atI_nat (j := 0) rfl, rfl, false, sNe (by decide +kernel), rfl, rfl⟩
    · obtain ⟨rfl, rfl⟩ := hM
      refine ⟨_, rfl, .inl ⟨rfl, _, .inl (.inl hl)⟩, _, rfl, by show 2 ≤ sizeLine; decide, fun p np => ?_⟩
      have s1 := same_upd (o := .tup [.str "run", .str z]) np
      have hl1 := s1 _ _ hl
      have npl : p ≠ l := (ne_of_none hl np).symm
      refine ⟨l, _, _, rfl, rfl, hl1, small10k (by omega), ?_⟩
      refine q _ [.ref p] (fun c o n e => (upd_ne n).trans (s1 _ _ e)) upd_same (Nat.le_refl _) fun v hv => ?_
      rw [List.mem_singleton.mp hv]
      exact ⟨p, z, rfl, .inl (.inl ((upd_ne npl).trans upd_same))⟩
end
end K77

set_option maxRecDepth 100000
set_option maxHeartbeats 4000000
/-! K7R: take_directive. -/
namespace K77
open PySem PySem.Spec PyProof.Rows L2 KG TL

theorem tl_if : tl "if " = [105, 102, 32] := by decide +kernel
theorem if_tail (t : Str) : cutS ("if " ++ t) (some 3) none = t := by
  have h : tl ("if " ++ t) = [105, 102, 32] ++ tl t := by rw [tl_append, tl_if]
  rw [show (some (3 : Int)) = some ((3 : Nat) : Int) from rfl, cut_from (by rw [h, List.length_append]; show 3 ≤ 3 + _; omega), h]
  exact mk_tl t
theorem if_head (t : Str) : cutS ("if " ++ t) none (some 3) = "if " := by
  have h : tl ("if " ++ t) = [105, 102, 32] ++ tl t := by rw [tl_append, tl_if]
  rw [show (some (3 : Int)) = some ((3 : Nat) : Int) from rfl, cut_to, h]
  exact ext_tl tl_if.symm
theorem end_head : cutS ("end" : Str) none (some 3) ≠ "if " := by decide +kernel
theorem at_m1 {xs : List V} {v : V} : atI (xs ++ [v]) (-1) = some v := atI_last xs v
section
variable {P : Program} {w : World} {K : PySem.W.Frag} {mg : Str → Option Value} {base : Heap}
def spTakeIf (K : PySem.W.Frag) (C : Addr) : Sp := fun vs H Q _ => ∃ (pd sw : Addr) (t : Str) (at_ : V) (ss : List Str) (f : Fm) (ps : List V), vs = [.ref pd, .str ("if " ++ t), at_, .ref sw] ∧ RT t f ∧ f.wt ≤ 240 ∧ Texts K H sw ss ∧ (∀ y ∈ f.names, y ∈ ss) ∧
  H pd = some (.lst ps) ∧ ps.length ≤ 12 ∧ ∀ H' x u s l, But pd H H' → H x = none → H s = none → H l = none → H' pd = some (.lst (ps ++ [.ref x])) → PieceAt C H' x u s l → H' l = some (.lst []) → Fml K H' f u → Q .non H'
def spTakeEnd (K : PySem.W.Frag) (C : Addr) : Sp := fun vs H Q _ => ∃ (pd sw x s l y s2 l2 : Addr) (at_ u u2 : V) (f : Fm) (ps rs rs2 : List V), vs = [.ref pd, .str "end", at_, .ref sw] ∧ H pd = some (.lst (ps ++ [.ref y] ++ [.ref x])) ∧ PieceAt C H x u s l ∧ H l = some (.lst rs) ∧
  Fml K H f u ∧ f.lit ∧ (∀ r ∈ rs, RunAt K H r) ∧ rs.length ≤ 1 ∧ PieceAt C H y u2 s2 l2 ∧ H l2 = some (.lst rs2) ∧ l2 ≠ pd ∧ s2 ≠ pd ∧ l ≠ pd ∧ s ≠ pd ∧ l2 ≠ s2 ∧ rs2.length < 10000 ∧
  ∀ H' v, But2 pd l2 H H' → H' pd = some (.lst (ps ++ [.ref y])) → H' l2 = some (.lst (rs2 ++ [v])) → PieceV K H' v → Q .non H'
def spTake (K : PySem.W.Frag) (C : Addr) : Sp := fun vs H Q E => spTakeIf K C vs H Q E ∨ spTakeEnd K C vs H Q E
theorem ok_take_directive (T : Tx K mg) : FnOk P w K mg base CX0 5 T.a_take_directive T.f_take_directive ["pending", "word", "place", "switches"] (spTake K T.A_OpenPiece) := by
  refine T.F_take_directive.ok sc_take_directive (fun vs H Q E h => ?_) (fun cdv A outer s0 H vs Q E hr h => ?_)
  · rcases h with ⟨pd, sw, t, at_, ss, f, ps, rfl, _⟩ | ⟨pd, sw, x, s, l, y, s2, l2, at_, u, u2, f, ps, rs, rs2, rfl, _⟩ <;> rfl
  · have hr2 : Room 2 _ := hr.mono (by decide)
    have hr1 : Room 1 _ := hr.mono (by decide)
    refine ⟨_, (pss_one (ps_if (pt_cmpR op_eq (pe_slice sl_str (pv 1) po_none (po_some pe_int)) pe_str (nomark _))
    (pss_cons (ps_set (i := 4) sc_take_directive.nd rfl (.inl rfl) (pe_call (ok_read_condition T) hr (by rfl) T.m_read_condition T.F_read_condition.kp T.B_read_condition .nil pass0 (pa_cons (pe_slice sl_str (pv 1) (po_some pe_int) po_none) (pa_cons (pv 2) (pa_cons (pv 3) pa_nil)))))
    (pss_cons (ps_if (pt_cmpR op_gt (pe_callB call_len_seq (by rfl) T.b_len (by decide +kernel) (pa_cons (pv 0) pa_nil)) (pe_gint (by rfl) T.c_MOST_OPEN) (nomark _)) (pss_one ps_never) pss_nil) (pss_one (ps_expr (pe_bm PySem.F.plainAttrs_list PySem.F.slot_list_append PySem.F.type_list_append mt_append (pv 0) (pa_cons (pe_make T.K_OpenPiece (ok_OpenPiece_init T) hr2 (by rfl) T.m_OpenPiece T.B_OpenPiece_init .nil pass0 (pa_cons (pv 4) pa_nil)) pa_nil)))))) (pss_one (ps_if (PW.pt (pw_and (pt_cmpR op_eq (pv 1) pe_str (nomark _)) (pw_and (pt_cmpR op_gt (pe_callB call_len_seq (by rfl) T.b_len (by decide +kernel) (pa_cons (pv 0) pa_nil)) pe_int (nomark _)) (pw_and1 (pt_cmpR op_eq (pe_callB call_len_seq (by rfl) T.b_len (by decide +kernel) (pa_cons (pe_fld (pe_ix ix_list (pv 0) (pe_un un_neg pe_int) (fun _ _ => rfl)) rfl) pa_nil)) pe_int (nomark _)))))) (pss_one (ps_expr (pe_bm PySem.F.plainAttrs_list PySem.F.slot_list_append PySem.F.type_list_append mt_append (pe_fld (pe_ix ix_list (pv 0) (pe_un un_neg pe_int) (fun _ _ => rfl)) rfl) (pa_cons (pe_lst pa_nil) pa_nil)))) (pss_one (ps_if (PW.pt (pw_and (pt_cmpR op_eq (pv 1) pe_str (nomark _)) (pw_and1 (pt_cmpR op_gt (pe_callB call_len_seq (by rfl) T.b_len (by decide +kernel) (pa_cons (pv 0) pa_nil)) pe_int (nomark _)))))
        (pss_cons (ps_set (i := 5) sc_take_directive.nd rfl (.inl rfl) (pe_meth0 (pe_bm0 PySem.F.plainAttrs_list PySem.F.slot_list_pop PySem.F.type_list_pop mt_pop (pv 0)) T.C_OpenPiece T.M_OpenPiece_finished (ok_OpenPiece_finished T) hr1 T.B_OpenPiece_finished .nil pass0)) (pss_one (ps_expr (pe_bm PySem.F.plainAttrs_list PySem.F.slot_list_append PySem.F.type_list_append mt_append (pe_ix ix_list (pe_fld (pe_ix ix_list (pv 0) (pe_un un_neg pe_int) (fun _ _ => rfl)) rfl) (pe_un un_neg pe_int) (fun _ _ => rfl)) (pa_cons (pv 5) pa_nil))))) (pss_one ps_never))))))), ?_⟩
    rcases h with ⟨pd, sw, t, at_, ss, f, ps, rfl, hrt, hwt, hss, hn, hpd, few, q⟩ | ⟨pd, sw, x, s, l, y, s2, l2, at_, u, u2, f, ps, rs, rs2, rfl, hpd, ⟨dx, hx, hs⟩, hl, hf, lit, hrs, hrl, ⟨dy, hy, hs2⟩, hl2, n1, n2, n3, n4, n5, few, q⟩
    · have tlen : ("if " ++ t : Str).length ≤ sizeLine := by
        rw [len_app, show ("if " : Str).length = 3 by decide +kernel]
        have := hrt.1
        exact big_str (by omega)
      refine ⟨_, rfl, 3, rfl, _, rfl, tlen, rfl, true, sEq (if_head t), ?_⟩
      refine ⟨_, rfl, 3, rfl, _, rfl, tlen, ?_⟩
      rw [if_tail]
      refine ⟨_, rfl, _, rfl, t, at_, sw, ss, f, rfl, hrt, hwt, hss, hn, fun H1 u s1 hu => ?_⟩
      have hpd1 := s1 _ _ hpd
      refine ⟨_, rfl, pd, _, rfl, .inl (.inl (.inl hpd1)), _, _, rfl, rfl, false, congrArg V.bl (decide_eq_false (by omega)), ?_⟩
      refine ⟨_, rfl, .inl ⟨rfl, _, .inl (.inl hpd1)⟩, _, rfl, ?_⟩
      intro x dx nx ndx hxd
      have s2 := same_upd (o := .own x) ndx
      have nxd : (upd H1 dx (.own x)) x = none := by
        rw [upd_ne (Ne.symm hxd)]
        exact nx
      have s3 := same_upd (o := .ins T.A_OpenPiece dx []) nxd
      have s13 := s1.trans (s2.trans s3)
      refine ⟨x, dx, u, rfl, upd_same, fun H4 s l b4 ns nl nsl pc hl4 => ⟨rfl, ?_⟩⟩
      have sm : Same H H4 := fun b o e => b4 b o (fun z => by rw [z] at e; rw [s1 _ _ e] at nx; cases nx) (s13 b o e)
      have sm1 : Same H1 H4 := fun b o e => b4 b o (fun z => by rw [z] at e; rw [e] at nx; cases nx) ((s2.trans s3) b o e)
      have hpd4 := sm _ _ hpd
      obtain ⟨dx2, hx4, hs4⟩ := pc
      have npx : x ≠ pd := (ne_of_none hpd1 nx).symm
      have free : ∀ {b : Addr}, (upd (upd H1 dx (.own x)) x (.ins T.A_OpenPiece dx [])) b = none → H b = none := fun n => Same.free s13 n
      have nsp : s ≠ pd := fun z => by
        have := free ns
        rw [z, hpd] at this
        cases this
      have nlp : l ≠ pd := fun z => by
        have := free nl
        rw [z, hpd] at this
        cases this
      refine ⟨pd, ps, .ref x, rfl, rfl, hpd4, small1000 (by omega), ?_⟩
      refine q _ x u s l (fun b o n e => (upd_ne n).trans (sm _ _ e)) (Same.free s1 nx) (free ns) (free nl) upd_same ⟨dx2, (upd_ne npx).trans hx4, (upd_ne nsp).trans hs4⟩ ((upd_ne nlp).trans hl4) ?_
      exact hu.keep ((same_tups sm1).trans (but_tups but_upd hpd4))
    · have npx : x ≠ pd := ne_of hx hpd (by intro z; cases z)
      have npy : y ≠ pd := ne_of hy hpd (by intro z; cases z)
      refine ⟨_, rfl, 3, rfl, _, rfl, by decide +kernel, rfl, false, sNe end_head, ?_⟩
      refine ⟨_, rfl, rfl, false, sNe (by decide +kernel), ?_⟩
      have len2 : (2 : Nat) ≤ (ps ++ [V.ref y] ++ [V.ref x]).length := by
        rw [List.length_append, List.length_append, List.length_singleton, List.length_singleton]
        omega
      refine ⟨_, rfl, rfl, true, sEq rfl, _, rfl, pd, _, rfl, .inl (.inl (.inl hpd)), _, _, rfl, rfl, true, congrArg V.bl (decide_eq_true (by omega)), ?_⟩
      refine ⟨_, rfl, .inl ⟨rfl, _, .inl (.inl hpd)⟩, pd, _, _, rfl, rfl, hpd, last_of, ?_⟩
      rw [List.dropLast_concat]
      have t1 : Tups H (upd H pd (.lst (ps ++ [.ref y]))) := but_tups but_upd hpd
      have hx1 : (upd H pd (.lst (ps ++ [.ref y]))) x = _ := (upd_ne npx).trans hx
      refine ⟨x, dx, _, rfl, hx1, rfl, x, s, l, u, rs, rfl, ⟨dx, hx1, (upd_ne n4).trans hs⟩, (upd_ne n3).trans hl, fun H2 p b s2' hp hb => ?_⟩
      have hpd2 : H2 pd = some (.lst (ps ++ [.ref y])) := s2' _ _ upd_same
      have hy2 := s2' _ _ ((upd_ne npy).trans hy)
      have hs22 := s2' _ _ ((upd_ne n2).trans hs2)
      have hl22 := s2' _ _ ((upd_ne n1).trans hl2)
      refine ⟨_, rfl, 1, rfl, pd, _, -1, _, rfl, rfl, .inl (.inl hpd2), atI_last _ _, y, _, dy, _, _, rfl, hy2, T.C_OpenPiece, T.N_OpenPiece_sides, rfl, 1, rfl, s2, _, -1, _, rfl, rfl, .inl (.inl hs22), atI_last [] _, .inl ⟨rfl, _, .inl (.inl hl22)⟩, _, rfl, l2, _, _, rfl, rfl, hl22, small10k (by omega), ?_⟩
      have t2 := (t1.trans (same_tups s2')).trans (but_tups (but_upd (o := .lst (rs2 ++ [.ref p]))) hl22)
      have t3 := but_tups (but_upd (o := .lst (rs2 ++ [.ref p]))) hl22
      refine q _ (.ref p) (fun c o n m e => (upd_ne m).trans (s2' _ _ ((upd_ne n).trans e))) ((upd_ne n1.symm).trans hpd2) upd_same ?_
      exact ⟨p, u, f, b, rs, rfl, t3.seqT (.inl (.inl hp)), hf.keep t2, lit, t3.seqT (.inl (.inl hb)), fun r hr => (hrs r hr).keep t2, hrl⟩
end
end K77

set_option maxRecDepth 100000
set_option maxHeartbeats 4000000
/-! K7S: text.find("#", at). -/
namespace K77
open PySem PySem.Spec PyProof.Rows L2 KG TL PySem.StrLaws PySem.Builtin PySem.Builtin.Str

theorem run_full (x y : Str) (hi : Nat) : ∀ (l : List Nat) (st : Array Nat × Nat), 1 ≤ st.fst.size → (forIn l st (occBody x y hi 1)).run.fst = st.fst
  | [], st, _ => by simp
  | a :: l, st, h => by
    rw [List.forIn_cons]
    unfold occBody
    rw [if_neg (fun c => by have := c.1.1.1; omega)]
    exact run_full x y hi l (st.fst, st.snd) h
theorem run_first (x y : Str) (hi : Nat) : ∀ (n lo free m : Nat), free ≤ lo → (∀ k, lo ≤ k → k < lo + m → ¬ (k + y.length ≤ hi ∧ subAt x y k = true)) → (lo + m + y.length ≤ hi ∧ subAt x y (lo + m) = true) → m < n →
    (forIn (List.range' lo n) ((#[] : Array Nat), free) (occBody x y hi 1)).run.fst = #[lo + m]
  | 0, _, _, _, _, _, _, h => absurd h (Nat.not_lt_zero _)
  | n + 1, lo, free, m, hf, hn, hh, hm => by
    rw [List.range'_succ, List.forIn_cons]
    unfold occBody
    cases m with
    | zero =>
      rw [Nat.add_zero] at hh ⊢
      rw [if_pos ⟨⟨⟨by simp, hf⟩, hh.1⟩, hh.2⟩]
      exact run_full x y hi _ (#[].push lo, lo + y.length) (by simp)
    | succ m =>
      have hno := hn lo (Nat.le_refl _) (by omega)
      rw [if_neg (fun c => hno ⟨c.1.2, c.2⟩)]
      have e : lo + (m + 1) = lo + 1 + m := by omega
      rw [e] at hh ⊢
      exact run_first x y hi n (lo + 1) free m (by omega) (fun k h1 h2 => hn k (by omega) (by omega)) hh (by omega)
theorem tl_hash : tl "#" = [35] := by decide +kernel
theorem hash_len : ("#" : Str).length = 1 := by decide +kernel
theorem sub_at {z : Str} {k : Nat} (h : k < (tl z).length) : subAt z "#" k = true ↔ (tl z)[k]? = some 35 := by
  unfold subAt
  rw [beq_iff_eq, hash_len]
  constructor
  · intro e
    have e2 := congrArg Array.toList e
    rw [Array.toList_extract, show ("#" : Str).cps.toList = [35] from tl_hash] at e2
    have e3 : ((tl z).drop k).take 1 = [35] := by
      simpa [List.extract_eq_drop_take] using e2
    rw [List.drop_eq_getElem_cons h] at e3
    rw [List.getElem?_eq_getElem h]
    have : [(tl z)[k]] = [35] := e3
    injection this with e4 _
    rw [e4]
  · intro e
    refine Array.toList_inj.mp ?_
    rw [Array.toList_extract, show ("#" : Str).cps.toList = [35] from tl_hash, List.extract_eq_drop_take]
    have : (tl z).drop k = 35 :: (tl z).drop (k + 1) := by
      rw [List.drop_eq_getElem_cons h]
      rw [List.getElem?_eq_getElem h] at e
      rw [Option.some.inj e]
    show ((tl z).drop k).take (k + 1 - k) = [35]
    rw [this, Nat.add_sub_cancel_left]
    rfl
theorem from_nat (n i : Nat) : fromIndex n (i : Int) = i := by
  unfold fromIndex
  rw [if_neg (by omega)]
  omega
/-- the next sign # stands behind mid -/
theorem find_hit {z : Str} {i : Nat} {mid rest : List Nat} (h : (tl z).drop i = mid ++ 35 :: rest) (hm : 35 ∉ mid) : Txt.find3 z "#" (i : Int) = ((i + mid.length : Nat) : Int) := by
  have hi : i + mid.length < (tl z).length := by
    have e := congrArg List.length h
    rw [List.length_drop, List.length_append, List.length_cons] at e
    omega
  have hat : ∀ k, (tl z)[i + k]? = (mid ++ 35 :: rest)[k]? := fun k => by rw [← h, List.getElem?_drop]
  have key := run_first z "#" z.length (z.length + 1 - i) i i mid.length (Nat.le_refl _) (fun k h1 h2 hc => by
    obtain ⟨d, rfl⟩ := Nat.le.dest h1
    have hd : d < mid.length := by omega
    have e := (sub_at (by omega)).mp hc.2
    rw [hat, List.getElem?_append_left hd] at e
    exact hm (List.mem_of_getElem? e)) ⟨by rw [hash_len, len_tl]; omega, (sub_at hi).mpr (by rw [hat, List.getElem?_append_right (Nat.le_refl _), Nat.sub_self]; rfl)⟩ (by rw [len_tl]; omega)
  unfold Txt.find3
  rw [from_nat, occ_eq, key]
theorem find_none {z : Str} {i : Nat} (hi : i ≤ (tl z).length) (h : 35 ∉ (tl z).drop i) : Txt.find3 z "#" (i : Int) = -1 := by
  have key := (occ_none z "#" z.length (List.range' i (z.length + 1 - i)) i (fun k hk => (List.mem_range'_1.mp hk).1)).mpr fun k hk hc => by
    have hk1 := (List.mem_range'_1.mp hk).1
    have hk2 : k < (tl z).length := by
      have := hc.1
      rw [hash_len, len_tl] at this
      omega
    have e := (sub_at hk2).mp hc.2
    obtain ⟨d, rfl⟩ := Nat.le.dest hk1
    rw [← List.getElem?_drop] at e
    exact h (List.mem_of_getElem? e)
  unfold Txt.find3
  rw [from_nat, occ_eq, key]
end K77

set_option maxRecDepth 100000
set_option maxHeartbeats 4000000
/-! K7U: texts with pieces; read_parts. -/
namespace K77
open PySem PySem.Spec PyProof.Rows L2 KG TL

/-- a run that may stand ahead of a directive -/
def SepEnd (r : List Nat) : Prop := r = [] ∨ ∃ r0 c, r = r0 ++ [c] ∧ (c = 32 ∨ c = 10)
inductive TextOk (ss : List Str) : List Nat → Prop
  | tail {r : List Nat} : 35 ∉ r → TextOk ss r
  | blk {r s rest : List Nat} {t : Str} {f : Fm} : 35 ∉ r → SepEnd r → 35 ∉ tl t → RT t f → f.lit → f.wt ≤ 240 → (∀ y ∈ f.names, y ∈ ss) → 35 ∉ s → SepEnd s → TextOk ss rest →
      TextOk ss (r ++ 35 :: (tl ("if " ++ t) ++ 35 :: (s ++ 35 :: (tl "end" ++ 35 :: rest))))
theorem tl_seps : tl " \n#" = [32, 10, 35] := by decide +kernel
theorem tl_end : tl "end" = [101, 110, 100] := by decide +kernel
theorem hash_if {t : Str} (h : 35 ∉ tl t) : 35 ∉ tl ("if " ++ t) := by
  rw [tl_append, tl_if]
  intro m
  rcases List.mem_append.mp m with m | m
  · exact absurd m (by decide)
  · exact h m
theorem hash_end : 35 ∉ tl "end" := by rw [tl_end]; decide
/-- the sign ahead of a directive at i + |r| is a separator -/
theorem sep_ahead {l : List Nat} {i : Nat} {r rest : List Nat} (h : l.drop i = r ++ rest) (s : SepEnd r) (h0 : i = 0 ∨ ∃ c, l[i - 1]? = some c ∧ c ∈ [32, 10, 35]) : i + r.length = 0 ∨ ∃ c, l[i + r.length - 1]? = some c ∧ c ∈ [32, 10, 35] := by
  rcases s with rfl | ⟨r0, c, rfl, hc⟩
  · exact h0
  · right
    refine ⟨c, ?_, by rcases hc with rfl | rfl <;> decide⟩
    have e : (l.drop i)[r0.length]? = some c := by
      rw [h, List.append_assoc, List.getElem?_append_right (Nat.le_refl _), Nat.sub_self]
      rfl
    rw [List.getElem?_drop] at e
    rw [show i + (r0 ++ [c]).length - 1 = i + r0.length by rw [List.length_append, List.length_singleton]; omega]
    exact e
/-- behind mid and one sign -/
theorem drop_past {l mid rest : List Nat} {i c : Nat} (h : l.drop i = mid ++ c :: rest) : l.drop (i + mid.length + 1) = rest ∧ i + mid.length < l.length ∧ (l.drop i).take mid.length = mid ∧ l[i + mid.length]? = some c := by
  have e : l.drop (i + mid.length) = c :: rest := by rw [← List.drop_drop, h, List.drop_left]
  obtain ⟨h1, h2, h3⟩ := at_drop e
  exact ⟨h2, h3, by rw [h, List.take_left], h1⟩
theorem cut_mid {z : Str} {i : Nat} {mid rest : List Nat} {c : Nat} (h : (tl z).drop i = mid ++ c :: rest) : cutS z (some (i : Int)) (some ((i + mid.length : Nat) : Int)) = ⟨mid.toArray⟩ := by
  obtain ⟨_, h2, h3, _⟩ := drop_past h
  rw [cut_nat (Nat.le_add_right _ _) (Nat.le_of_lt h2), Nat.add_sub_cancel_left, h3]
end K77

set_option maxRecDepth 100000
set_option maxHeartbeats 8000000
/-! K7V: read_parts. -/
namespace K77
open PySem PySem.Spec PyProof.Rows L2 KG TL

theorem or_same' {c : Bool} {A B : Prop} (h : c = true → A) (hb : c = false → B) : if c = true then A else B := by
  cases c with
  | true => exact h rfl
  | false => exact hb rfl
section
variable {P : Program} {w : World} {K : PySem.W.Frag} {mg : Str → Option Value} {base : Heap}
/-- between two pieces -/
structure OutI (K : PySem.W.Frag) (C : Addr) (H0 H : Hp) (pd o s l : Addr) (u : V) (rs : List V) : Prop where
  same : Same H0 H
  fpd : H0 pd = none
  fl : H0 l = none
  pend : H pd = some (.lst [.ref o])
  pc : PieceAt C H o u s l
  parts : H l = some (.lst rs)
  ok : ∀ v ∈ rs, PartOk K H v
  nr : NoRun K H rs
  ne : l ≠ pd ∧ s ≠ pd ∧ s ≠ l
/-- within a piece -/
structure InI (K : PySem.W.Frag) (C : Addr) (H0 H : Hp) (pd o s l : Addr) (u : V) (rs : List V) (o1 s1 l1 : Addr) (u1 : V) : Prop where
  same : Same H0 H
  fpd : H0 pd = none
  fl : H0 l = none
  fl1 : H0 l1 = none
  pend : H pd = some (.lst [.ref o, .ref o1])
  pc : PieceAt C H o u s l
  parts : H l = some (.lst rs)
  ok : ∀ v ∈ rs, PartOk K H v
  pc1 : PieceAt C H o1 u1 s1 l1
  parts1 : H l1 = some (.lst [])
  cond : ∃ f : Fm, Fml K H f u1 ∧ f.lit
  ne : l ≠ pd ∧ s ≠ pd ∧ s ≠ l
  ne1 : l1 ≠ pd ∧ s1 ≠ pd ∧ s1 ≠ l1 ∧ l1 ≠ l ∧ s1 ≠ l ∧ l1 ≠ s
def spReadParts (K : PySem.W.Frag) : Sp := fun vs H Q _ => ∃ (z : Str) (sw : Addr) (ss : List Str), vs = [.str z, .ref sw] ∧ z.length ≤ 6000 ∧ Texts K H sw ss ∧ TextOk ss (tl z) ∧
  ∀ H' p rs, Same H H' → SqT K H' p rs → rs.length ≤ 6001 → (∀ v ∈ rs, PartOk K H' v) → Q (.ref p) H'
theorem ok_read_parts (T : Tx K mg) : FnOk P w K mg base CX0 6 T.a_read_parts T.f_read_parts ["text", "switches"] (spReadParts K) := by
  refine T.F_read_parts.ok sc_read_parts (fun vs H Q E h => ?_) (fun cdv A outer s0 H vs Q E hr h => ?_)
  · obtain ⟨z, sw, ss, rfl, _⟩ := h
    rfl
  · obtain ⟨z, sw, ss, rfl, hz, hss, htx, q⟩ := h
    have hr1 : Room 1 _ := hr.mono (by decide)
    have hr2 : Room 2 _ := hr.mono (by decide)
    refine ⟨_, (pss_cons (ps_if (pt_cmpR op_gt (pe_callB call_len_str (by rfl) T.b_len PySem.boot_len (pa_cons (pv 0) pa_nil)) (pe_gint (by rfl) T.c_MOST_SIGNS) (nomark _)) (pss_one ps_never) pss_nil)
  (pss_cons (ps_set (i := 2) sc_read_parts.nd rfl (.inl rfl) (pe_lst (pa_cons (pe_make T.K_OpenPiece (ok_OpenPiece_init T) hr2 (by rfl) T.m_OpenPiece T.B_OpenPiece_init .nil pass0 (pa_cons (pe_tup (pa_cons pe_str pa_nil)) pa_nil)) pa_nil)))
  (pss_cons (ps_set (i := 3) sc_read_parts.nd rfl (.inl rfl) pe_int)
  (pss_cons (ps_whileW PassesOwn.never (ptw_cmp op_ge (pew_named (i := 4) sc_read_parts.nd rfl (.inl rfl) (pew_of (pe_bm PySem.F.plainAttrs_str PySem.F.slot_str_find PySem.F.type_str_find mt_find3 (pv 0) (pa_cons pe_str (pa_cons (pv 3) pa_nil))))) pe_int (nomark _))
    (pss_cons (ps_set (i := 5) sc_read_parts.nd rfl (.inl rfl) (pe_bm PySem.F.plainAttrs_str PySem.F.slot_str_find PySem.F.type_str_find mt_find3 (pv 0) (pa_cons pe_str (pa_cons (pe_op op_add (pv 4) pe_int) pa_nil))))
    (C8.pss_cut (ps_if (PW.pt (pw_or (pt_cmpR op_lt (pv 5) pe_int (nomark _)) (pw_or1 (PW.pt (pw_and (pt_cmpR op_gt (pv 4) pe_int (nomark _)) (pw_and1 (pt_cmpR op_notIn_sign (pe_ix ix_str (pv 0) (pe_op op_sub (pv 4) pe_int) (fun _ _ => rfl)) (pe_gstr (by rfl) T.c_SEPARATORS) rfl))))))) (pss_one ps_never) pss_nil)
    (pss_cons (ps_expr (pe_call (ok_add_run T) hr1 (by rfl) T.m_add_run T.F_add_run.kp T.B_add_run .nil pass0 (pa_cons (pe_ix ix_list (pe_fld (pe_ix ix_list (pv 2) (pe_un un_neg pe_int) (fun _ _ => rfl)) rfl) (pe_un un_neg pe_int) (fun _ _ => rfl)) (pa_cons (pe_slice sl_str (pv 0) (po_some (pv 3)) (po_some (pv 4))) pa_nil))))
    (pss_cons (ps_expr (pe_call (ok_take_directive T) hr (by rfl) T.m_take_directive T.F_take_directive.kp T.B_take_directive .nil pass0 (pa_cons (pv 2) (pa_cons (pe_slice sl_str (pv 0) (po_some (pe_op op_add (pv 4) pe_int)) (po_some (pv 5))) (pa_cons (pv 4) (pa_cons (pv 1) pa_nil)))))) (pss_one (ps_set (i := 3) sc_read_parts.nd rfl (.inl rfl) (pe_op op_add (pv 5) pe_int))))))) pss_nil)
  (pss_cons (ps_if (pt_cmpR op_gt (pe_callB call_len_seq (by rfl) T.b_len (by decide +kernel) (pa_cons (pv 2) pa_nil)) pe_int (nomark _)) (pss_one ps_never) pss_nil)
  (pss_cons (ps_expr (pe_call (ok_add_run T) hr1 (by rfl) T.m_add_run T.F_add_run.kp T.B_add_run .nil pass0 (pa_cons (pe_ix ix_list (pe_fld (pe_ix ix_list (pv 2) pe_int (fun _ _ => rfl)) rfl) pe_int (fun _ _ => rfl)) (pa_cons (pe_slice sl_str (pv 0) (po_some (pv 3)) po_none) pa_nil)))) (pss_one (ps_ret (pe_callTy call_tuple_of (by rfl) T.b_tuple (by decide +kernel) (pa_cons (pe_ix ix_list (pe_fld (pe_ix ix_list (pv 2) pe_int (fun _ _ => rfl)) rfl) pe_int (fun _ _ => rfl)) pa_nil)))))))))), ?_⟩
    have hzl : z.length ≤ sizeLine := small_str hz (by decide)
    refine ⟨_, rfl, z, rfl, hzl, _, _, rfl, rfl, false, congrArg V.bl (decide_eq_false (by omega)), ?_⟩
    refine ⟨by show 1 ≤ sizeLine; decide, fun t nt => ?_⟩
    intro x dx nx ndx hxd
    have s1 := same_upd (o := .tup [.str "yes"]) nt
    have s2 := same_upd (o := .own x) ndx
    have nxd : (upd (upd H t (.tup [.str "yes"])) dx (.own x)) x = none := by
      rw [upd_ne (Ne.symm hxd)]
      exact nx
    have s3 := same_upd (o := .ins T.A_OpenPiece dx []) nxd
    have s13 := s1.trans (s2.trans s3)
    refine ⟨x, dx, .ref t, rfl, upd_same, fun H1 s l b1 ns nl nsl pc hl => ⟨rfl, by show 1 ≤ sizeLine; decide, fun pd npd => ?_⟩⟩
    have sm : Same H H1 := fun b o e => b1 b o (fun z => by rw [z] at e; rw [s1 _ _ e] at nx; cases nx) (s13 b o e)
    have s4 := same_upd (o := .lst [.ref x]) npd
    have out0 : OutI K T.A_OpenPiece H (upd H1 pd (.lst [.ref x])) pd x s l (.ref t) [] := by
      obtain ⟨dx2, hx2, hs2⟩ := pc
      refine ⟨sm.trans s4, Same.free sm npd, Same.free s13 nl, upd_same, ⟨dx2, s4 _ _ hx2, s4 _ _ hs2⟩, s4 _ _ hl, fun _ h => (nomatch h), .inl rfl, ?_, ?_, nsl⟩
      · exact ne_of_none hl npd
      · exact ne_of_none hs2 npd
    let W : Nat → L2.St → Hp → Prop := fun m σ H' => ∃ (i : Nat) (y4 y5 : Option V) (rs : List V), m = (tl z).length - i ∧ σ = [some (.str z), some (.ref sw), some (.ref pd), some (.int (i : Nat)), y4, y5] ∧ i ≤ (tl z).length ∧ rs.length ≤ i ∧
      (i = 0 ∨ ∃ c, (tl z)[i - 1]? = some c ∧ c ∈ [32, 10, 35]) ∧
      ((OutI K T.A_OpenPiece H H' pd x s l (.ref t) rs ∧ TextOk ss ((tl z).drop i)) ∨
        ∃ (o1 s1 l1 : Addr) (u1 : V) (r rest : List Nat), InI K T.A_OpenPiece H H' pd x s l (.ref t) rs o1 s1 l1 u1 ∧ (tl z).drop i = r ++ 35 :: (tl "end" ++ 35 :: rest) ∧ 35 ∉ r ∧ SepEnd r ∧ TextOk ss rest)
    refine ⟨W, ⟨_, 0, none, none, [], rfl, rfl, Nat.zero_le _, Nat.le_refl _, .inl rfl, .inl ⟨out0, by rw [List.drop_zero]; exact htx⟩⟩, fun m σ H2 hW => ?_⟩
    obtain ⟨i, y4, y5, rs, rfl, rfl, hi, hrs, hsep, alt⟩ := hW
    rcases alt with ⟨out, tx⟩ | ⟨o1, s1', l1, u1, r, rest, ins, ed, hr35, hse, tx⟩
    · generalize ed : (tl z).drop i = rm at tx
      cases tx with
      | tail h35 =>
        refine ⟨_, rfl, rfl, _, rfl, z, "#", (i : Int), rfl, rfl, ?_⟩
        rw [find_none hi (by rw [ed]; exact h35)]
        refine ⟨_, _, rfl, rfl, false, congrArg V.bl (show decide ((0 : Int) ≤ -1) = false by decide), ?_⟩
        refine ⟨_, rfl, pd, _, rfl, .inl (.inl (.inl out.pend)), _, _, rfl, rfl, false, congrArg V.bl (show decide ((1 : Int) < ((1 : Nat) : Int)) = false by decide), ?_⟩
        obtain ⟨dx2, hx2, hs2⟩ := out.pc
        refine ⟨_, rfl, pd, _, 0, _, rfl, rfl, .inl (.inl out.pend), atI_nat (j := 0) rfl, x, _, dx2, _, _, rfl, hx2, T.C_OpenPiece, T.N_OpenPiece_sides, rfl, s, _, 0, _, rfl, rfl, .inl (.inl hs2), atI_nat (j := 0) rfl, _, rfl, _, rfl, _, rfl, _, rfl, hzl, ?_⟩
        refine ⟨l, _, rs, rfl, out.parts, out.nr, by rw [← len_tl] at hi; omega, fun H3 ns3 b3 hl3 nlen hrn => ?_⟩
        have t3 : Tups H2 H3 := but_tups b3 out.parts
        have hpd3 := b3 _ _ out.ne.1.symm out.pend
        have hx3 := b3 _ _ (ne_of hx2 out.parts (by intro z; cases z)) hx2
        have hs3 := b3 _ _ out.ne.2.2 hs2
        refine ⟨_, rfl, pd, _, 0, _, rfl, rfl, .inl (.inl hpd3), atI_nat (j := 0) rfl, x, _, dx2, _, _, rfl, hx3, T.C_OpenPiece, T.N_OpenPiece_sides, rfl, s, _, 0, _, rfl, rfl, .inl (.inl hs3), atI_nat (j := 0) rfl, l, _, rfl, .inl ⟨.inl (.inl hl3), fun p np => ?_⟩⟩
        have s5 := same_upd (o := .tup (rs ++ ns3)) np
        refine q _ p (rs ++ ns3) (fun b o e => s5 _ _ (b3 _ _ (fun z => by rw [z, out.fl] at e; cases e) (out.same _ _ e))) (.inl (.inl upd_same)) (by rw [List.length_append]; rw [← len_tl] at hi; omega) fun v hv => ?_
        rcases List.mem_append.mp hv with hv | hv
        · exact ((out.ok v hv).keep t3).keep (same_tups s5)
        · exact .inl ((hrn v hv).keep (same_tups s5))
      | @blk r sn rest tt f h35 hse t35 hrt lit hwt hn sn35 hse2 tx =>
        obtain ⟨ed2, hlt, _, hat1⟩ := drop_past ed
        obtain ⟨ed3, hlt2, _, hat2⟩ := drop_past ed2
        refine ⟨_, rfl, rfl, _, rfl, z, "#", (i : Int), rfl, rfl, ?_⟩
        rw [find_hit ed h35]
        refine ⟨_, _, rfl, rfl, true, congrArg V.bl (decide_eq_true (Int.natCast_nonneg _)), ?_⟩
        refine ⟨fun σ' H' => ∃ m', m' < (tl z).length - i ∧ W m' σ' H', fun _ _ h => h, ?_⟩
        refine ⟨_, rfl, rfl, _, rfl, _, _, rfl, rfl, z, "#", (((i + r.length + 1 : Nat)) : Int), rfl, rfl, ?_⟩
        rw [find_hit ed2 (hash_if t35)]
        have sepOk := sep_ahead ed hse hsep
        refine ⟨fun σ' H' => σ' = [some (.str z), some (.ref sw), some (.ref pd), some (.int (i : Nat)), some (.int ((i + r.length : Nat) : Int)), some (.int ((i + r.length + 1 + (tl ("if " ++ tt)).length : Nat) : Int))] ∧ H' = H2, ?_, fun σ' H' hM => ?_⟩
        · refine ⟨_, rfl, _, _, rfl, rfl, false, congrArg V.bl (decide_eq_false (by omega)), ?_⟩
          refine ⟨_, rfl, _, _, rfl, rfl, decide ((0 : Int) < ((i + r.length : Nat) : Int)), rfl, ?_⟩
          refine or_same' (fun h0 => ?_) (fun h0 => ⟨rfl, rfl⟩)
          have hpos : 0 < i + r.length := by
            have := of_decide_eq_true h0
            omega
          obtain ⟨c, hc, hcm⟩ := sepOk.resolve_left (by omega)
          refine ⟨_, rfl, _, rfl, _, _, rfl, rfl, z, ((i + r.length - 1 : Nat) : Int), c, rfl, congrArg V.int (by omega), hzl, atI_nat hc, c, _, rfl, rfl, false, congrArg V.bl ?_, rfl, rfl⟩
          show (!decide (c ∈ tl " \n#")) = false
          rw [tl_seps, decide_eq_true hcm]
          rfl
        obtain ⟨rfl, rfl⟩ := hM
        obtain ⟨dx2, hx2, hs2⟩ := out.pc
        refine ⟨_, rfl, 1, rfl, pd, _, -1, _, rfl, rfl, .inl (.inl out.pend), atI_last [] _, x, _, dx2, _, _, rfl, hx2, T.C_OpenPiece, T.N_OpenPiece_sides, rfl, 1, rfl, s, _, -1, _, rfl, rfl, .inl (.inl hs2), atI_last [] _, _, rfl, _, rfl, _, rfl, _, rfl, _, rfl, _, rfl, hzl, ?_⟩
        rw [cut_mid ed]
        refine ⟨l, _, rs, rfl, out.parts, out.nr, by rw [← len_tl] at hi; omega, fun H3 ns3 b3 hl3 nlen hrn => ?_⟩
        have t3 : Tups H' H3 := but_tups b3 out.parts
        have nxl : x ≠ l := ne_of hx2 out.parts (by intro z; cases z)
        have hpd3 := b3 _ _ out.ne.1.symm out.pend
        have hx3 := b3 _ _ nxl hx2
        have hs3 := b3 _ _ out.ne.2.2 hs2
        have same3 : Same H H3 := fun b o e => b3 _ _ (fun z => by rw [z, out.fl] at e; cases e) (out.same _ _ e)
        have nxp : x ≠ pd := ne_of hx3 hpd3 (by intro z; cases z)
        refine ⟨_, rfl, _, rfl, _, rfl, _, _, rfl, rfl, ((i + r.length + 1 : Nat) : Int), rfl, _, rfl, _, rfl, _, rfl, hzl, ?_⟩
        rw [cut_mid ed2, mk_tl]
        refine ⟨_, rfl, _, rfl, .inl ⟨pd, sw, tt, _, ss, f, [.ref x], rfl, hrt, hwt, hss.keep same3, hn, hpd3, by show 1 ≤ 12; decide, fun H4 o1 u1 s1' l1 b4 no1 ns1 nl1 hpd4 pc1 hl1 hf1 => ?_⟩⟩
        have t4 : Tups H3 H4 := but_tups b4 hpd3
        have same4 : Same H H4 := fun b o e => b4 _ _ (fun z => by rw [z, out.fpd] at e; cases e) (same3 _ _ e)
        refine ⟨_, rfl, _, _, rfl, rfl, ?_⟩
        have eln : i + r.length + 1 + (tl ("if " ++ tt)).length + 1 ≤ (tl z).length := hlt2
        refine ⟨_, (by omega : (tl z).length - (i + r.length + 1 + (tl ("if " ++ tt)).length + 1) < (tl z).length - i), i + r.length + 1 + (tl ("if " ++ tt)).length + 1, _, _, rs ++ ns3, rfl, rfl, eln, ?_, .inr ⟨35, by rw [Nat.add_sub_cancel]; exact hat2, by decide⟩, .inr ⟨o1, s1', l1, u1, sn, rest, ?_, ed3, sn35, hse2, tx⟩⟩
        · rw [List.length_append]
          omega
        · obtain ⟨dx5, ho1, hs1⟩ := pc1
          refine ⟨same4, out.fpd, out.fl, Same.free same3 nl1, hpd4, ⟨dx2, b4 _ _ nxp hx3, b4 _ _ out.ne.2.1 hs3⟩, b4 _ _ out.ne.1 hl3, fun v hv => ?_, ⟨dx5, ho1, hs1⟩, hl1, ⟨f, hf1, lit⟩, out.ne, (ne_of_none hpd3 nl1).symm, (ne_of_none hpd3 ns1).symm, ne_of hs1 hl1 (by intro z; cases z), (ne_of_none hl3 nl1).symm, (ne_of_none hl3 ns1).symm, (ne_of_none hs3 nl1).symm⟩
          rcases List.mem_append.mp hv with hv | hv
          · exact ((out.ok v hv).keep t3).keep t4
          · exact .inl ((hrn v hv).keep t4)
    · obtain ⟨ed2, hlt, _, hat1⟩ := drop_past ed
      obtain ⟨ed3, hlt2, _, hat2⟩ := drop_past ed2
      refine ⟨_, rfl, rfl, _, rfl, z, "#", (i : Int), rfl, rfl, ?_⟩
      rw [find_hit ed hr35]
      refine ⟨_, _, rfl, rfl, true, congrArg V.bl (decide_eq_true (Int.natCast_nonneg _)), ?_⟩
      refine ⟨fun σ' H' => ∃ m', m' < (tl z).length - i ∧ W m' σ' H', fun _ _ h => h, ?_⟩
      refine ⟨_, rfl, rfl, _, rfl, _, _, rfl, rfl, z, "#", (((i + r.length + 1 : Nat)) : Int), rfl, rfl, ?_⟩
      rw [find_hit ed2 hash_end]
      have sepOk := sep_ahead ed hse hsep
      refine ⟨fun σ' H' => σ' = [some (.str z), some (.ref sw), some (.ref pd), some (.int (i : Nat)), some (.int ((i + r.length : Nat) : Int)), some (.int ((i + r.length + 1 + (tl "end").length : Nat) : Int))] ∧ H' = H2, ?_, fun σ' H' hM => ?_⟩
      · refine ⟨_, rfl, _, _, rfl, rfl, false, congrArg V.bl (decide_eq_false (by omega)), ?_⟩
        refine ⟨_, rfl, _, _, rfl, rfl, decide ((0 : Int) < ((i + r.length : Nat) : Int)), rfl, ?_⟩
        refine or_same' (fun h0 => ?_) (fun h0 => ⟨rfl, rfl⟩)
        have hpos : 0 < i + r.length := by
          have := of_decide_eq_true h0
          omega
        obtain ⟨c, hc, hcm⟩ := sepOk.resolve_left (by omega)
        refine ⟨_, rfl, _, rfl, _, _, rfl, rfl, z, ((i + r.length - 1 : Nat) : Int), c, rfl, congrArg V.int (by omega), hzl, atI_nat hc, c, _, rfl, rfl, false, congrArg V.bl ?_, rfl, rfl⟩
        show (!decide (c ∈ tl " \n#")) = false
        rw [tl_seps, decide_eq_true hcm]
        rfl
      obtain ⟨rfl, rfl⟩ := hM
      obtain ⟨dx2, hx2, hs2⟩ := ins.pc
      obtain ⟨dx5, ho1, hs1⟩ := ins.pc1
      obtain ⟨f, hf, lit⟩ := ins.cond
      obtain ⟨m1, m2, m3, m4, m5, m6⟩ := ins.ne1
      refine ⟨_, rfl, 1, rfl, pd, _, -1, _, rfl, rfl, .inl (.inl ins.pend), atI_last [V.ref x] _, o1, _, dx5, _, _, rfl, ho1, T.C_OpenPiece, T.N_OpenPiece_sides, rfl, 1, rfl, s1', _, -1, _, rfl, rfl, .inl (.inl hs1), atI_last [] _, _, rfl, _, rfl, _, rfl, _, rfl, _, rfl, _, rfl, hzl, ?_⟩
      rw [cut_mid ed]
      refine ⟨l1, _, [], rfl, ins.parts1, .inl rfl, by decide, fun H3 ns3 b3 hl3 nlen hrn => ?_⟩
      have t3 : Tups H' H3 := but_tups b3 ins.parts1
      have hpd3 := b3 _ _ m1.symm ins.pend
      have hx3 := b3 _ _ (ne_of hx2 ins.parts1 (by intro z; cases z)) hx2
      have hs3 := b3 _ _ m6.symm hs2
      have hl3' := b3 _ _ m4.symm ins.parts
      have ho3 := b3 _ _ (ne_of ho1 ins.parts1 (by intro z; cases z)) ho1
      have hs13 := b3 _ _ m3 hs1
      have same3 : Same H H3 := fun b o e => b3 _ _ (fun z => by rw [z, ins.fl1] at e; cases e) (ins.same _ _ e)
      have nxp : x ≠ pd := ne_of hx3 hpd3 (by intro z; cases z)
      have nxl : x ≠ l := ne_of hx3 hl3' (by intro z; cases z)
      refine ⟨_, rfl, _, rfl, _, rfl, _, _, rfl, rfl, ((i + r.length + 1 : Nat) : Int), rfl, _, rfl, _, rfl, _, rfl, hzl, ?_⟩
      rw [cut_mid ed2, mk_tl]
      refine ⟨_, rfl, _, rfl, .inr ⟨pd, sw, o1, s1', l1, x, s, l, _, u1, .ref t, f, [], ns3, rs, rfl, hpd3, ⟨dx5, ho3, hs13⟩, hl3, hf.keep t3, lit, hrn, nlen, ⟨dx2, hx3, hs3⟩, hl3', ins.ne.1, ins.ne.2.1, m1, m2, ins.ne.2.2.symm, by rw [← len_tl] at hi; omega, fun H4 v b4 hpd4 hl4 pv4 => ?_⟩⟩
      have same4 : Same H H4 := fun b o e => b4 _ _ (fun z => by rw [z, ins.fpd] at e; cases e) (fun z => by rw [z, ins.fl] at e; cases e) (same3 _ _ e)
      have t4 : Tups H3 H4 := fun b xs e => by
        rcases e with e | ⟨o, e⟩
        · exact .inl (b4 _ _ (ne_of e hpd3 (by intro z; cases z)) (ne_of e hl3' (by intro z; cases z)) e)
        · exact .inr ⟨o, b4 _ _ (ne_of e hpd3 (by intro z; cases z)) (ne_of e hl3' (by intro z; cases z)) e⟩
      refine ⟨_, rfl, _, _, rfl, rfl, ?_⟩
      have eln : i + r.length + 1 + (tl "end").length + 1 ≤ (tl z).length := hlt2
      refine ⟨_, (by omega : (tl z).length - (i + r.length + 1 + (tl "end").length + 1) < (tl z).length - i), i + r.length + 1 + (tl "end").length + 1, _, _, rs ++ [v], rfl, rfl, eln, ?_, .inr ⟨35, by rw [Nat.add_sub_cancel]; exact hat2, by decide⟩, .inl ⟨?_, by rw [ed3]; exact tx⟩⟩
      · rw [List.length_append, List.length_singleton]
        omega
      · refine ⟨same4, ins.fpd, ins.fl, hpd4, ⟨dx2, b4 _ _ nxp nxl hx3, b4 _ _ ins.ne.2.1 ins.ne.2.2 hs3⟩, hl4, fun v' hv => ?_, .inr ⟨rs, v, rfl, pv4⟩, ins.ne⟩
        rcases List.mem_append.mp hv with hv | hv
        · exact ((ins.ok v' hv).keep t3).keep t4
        · rw [List.mem_singleton.mp hv]
          exact .inr pv4
end
end K77

set_option maxRecDepth 100000
set_option maxHeartbeats 4000000
/-! K7W: each_run. -/
namespace K77
open PySem PySem.Spec PyProof.Rows L2 KG TL GenW

abbrev nEach : List Str := ["parts", "around", "part", "inside", "kept", "other", "left"]
theorem gs_each_run : GScope nEach ["parts", "around"] (defScope s_each_run) := ⟨rfl, rfl, rfl, by decide +kernel, rfl, by decide +kernel, by decide +kernel⟩
section
variable {P : Program} {w : World} {K : PySem.W.Frag} {mg : Str → Option Value} {base : Heap}
theorem each_of (T : Tx K mg) {k : Nat} {sp : SpQ} (len : ∀ vs H m Q, sp vs H m Q → vs.length = (["parts", "around"] : List Str).length)
    (hbody : ∀ (cdv : Value) (A : Around) (outer : List Env) (s : Shared) (H : Hp) (vs : List V) (m n : Nat) (Q : Hp → Prop) (L : Band), Room k (A.deeper (envOfC "each_run" (defScope s_each_run) s.heap.objs.size T.a_each_run cdv)) → sp vs H m Q → m ≤ n →
      ∃ t, Gqs (gcx P w K mg base nEach "each_run" (defScope s_each_run) T.a_each_run cdv A outer s H L) (defBody s_each_run) t ∧ t { nx := fun _ _ H' => Q H', rt := fun _ v H' => v = .non ∧ Q H' } n (start nEach vs) H) :
    GFnQ P w K mg base (k + 1) T.a_each_run T.f_each_run ["parts", "around"] sp := by
  obtain ⟨oc, od, kV, doc, pm, an, cdv, ct, osl, e, lk, hcd⟩ := T.F_each_run.ex
  rw [e] at lk ⊢
  exact gfnq_of lk hcd gs_each_run len fun A outer s H vs m n Q L hr hsp hm => hbody cdv A outer s H vs m n Q L hr hsp hm
/-- all parts are runs -/
def spEach0 (K : PySem.W.Frag) : SpQ := fun vs H N Q => ∃ (p : Addr) (y : V) (rs : List V), vs = [.ref p, y] ∧ SqT K H p rs ∧ (∀ r ∈ rs, RunAt K H r) ∧ rs.length ≤ N ∧ ∀ H', Same H H' → Q H'
theorem ok_each0 (T : Tx K mg) : GFnQ P w K mg base 1 T.a_each_run T.f_each_run ["parts", "around"] (spEach0 K) := by
  refine each_of T (fun vs H m Q h => ?_) (fun cdv A outer s H vs m n Q L hr h hm => ?_)
  · obtain ⟨p, y, rs, rfl, _⟩ := h
    rfl
  · obtain ⟨p, y, rs, rfl, hp, hrs, hN, q⟩ := h
    refine ⟨_, gqs_one (gq_for nox_gcx rfl (pi_tup (pv 0)) (pg_name (i := 2) gs_each_run.nd rfl (.inl rfl)) (gqs_one (gq_if nox_gcx (pt_cmpR op_eq (pe_ix ix_tup (pv 2) pe_int (fun _ _ => rfl)) pe_str (nomark _))
      (gqs_one (gq_yield nox_gcx (pe_tup (pa_cons (pv 1) (pa_cons (pe_ix ix_tup (pv 2) pe_int (fun _ _ => rfl)) pa_nil))) rfl rfl))
      (gqs_cons (gq_ps nox_gcx ps_never) (gqs_cons (gq_ps nox_gcx ps_never) (gqs_cons (gq_ps nox_gcx ps_never) (gqs_one (gq_ps nox_gcx ps_never)))))))), ?_⟩
    refine ⟨_, rfl, p, rfl, ⟨_, hp⟩, ?_⟩
    refine ⟨fun i m n σ H' => m = rs.length - i ∧ i ≤ rs.length ∧ rs.length - i ≤ n ∧ Same H H' ∧ ∃ y2, σ = [some (.ref p), some y, y2, none, none, none, none], ⟨_, rfl, Nat.zero_le _, Nat.le_trans hN hm, Same.refl H, none, rfl⟩, fun i m n σ H' hW => ?_⟩
    obtain ⟨rfl, hi, hn, sm, y2, rfl⟩ := hW
    have hp' := same_seqT sm hp
    by_cases hlt : i < rs.length
    · refine .inr ⟨⟨rs, rs[i], hp', by simp [hlt]⟩, fun n' σ' H'' => rs.length - (i + 1) ≤ n' ∧ Same H H'' ∧ ∃ y2, σ' = [some (.ref p), some y, y2, none, none, none, none], fun n' σ' H'' ⟨h1, h2, h3⟩ => ⟨_, (by omega : rs.length - (i + 1) < rs.length - i), rfl, hlt, h1, h2, h3⟩, fun x H'' yl => ?_⟩
      obtain ⟨e, yl⟩ := yl
      subst e
      have hx : rs[i]? = some x := yl rs hp'
      obtain ⟨a, z, rfl, ha⟩ := (hrs x (List.mem_of_getElem? hx)).keep (same_tups sm)
      refine ⟨_, rfl, a, _, 0, _, rfl, rfl, ha, atI_nat (j := 0) rfl, rfl, true, sEq rfl, ?_⟩
      refine (if_pos rfl).mpr ?_
      refine ⟨n - 1, by omega, _, rfl, _, rfl, a, _, 1, _, rfl, rfl, ha, atI_nat (j := 1) rfl, by show 2 ≤ sizeLine; decide, fun t nt => ?_⟩
      exact ⟨by omega, sm.trans (same_upd nt), _, rfl⟩
    · have e : i = rs.length := by omega
      subst e
      exact .inl ⟨⟨rs, hp', Nat.le_refl _⟩, q _ sm⟩
/-- runs and pieces of runs, at the top -/
def spEach (K : PySem.W.Frag) (aY : Addr) : SpQ := fun vs H N Q => ∃ (p : Addr) (rs : List V), vs = [.ref p, .ref aY] ∧ SqT K H p rs ∧ (∀ r ∈ rs, PartOk K H r) ∧ rs.length ≤ N ∧ ∀ H', Same H H' → Q H'
theorem ok_each_run (T : Tx K mg) : GFnQ P w K mg base 3 T.a_each_run T.f_each_run ["parts", "around"] (spEach K T.A_YES) := by
  refine each_of T (fun vs H m Q h => ?_) (fun cdv A outer s H vs m n Q L hr h hm => ?_)
  · obtain ⟨p, rs, rfl, _⟩ := h
    rfl
  · obtain ⟨p, rs, rfl, hp, hrs, hN, q⟩ := h
    have hr1 : Room 1 _ := hr.mono (by decide)
    refine ⟨_, gqs_one (gq_for nox_gcx rfl (pi_tup (pv 0)) (pg_name (i := 2) gs_each_run.nd rfl (.inl rfl)) (gqs_one (gq_if nox_gcx (pt_cmpR op_eq (pe_ix ix_tup (pv 2) pe_int (fun _ _ => rfl)) pe_str (nomark _))
      (gqs_one (gq_yield nox_gcx (pe_tup (pa_cons (pv 1) (pa_cons (pe_ix ix_tup (pv 2) pe_int (fun _ _ => rfl)) pa_nil))) rfl rfl))
      (gqs_cons (gq_ps nox_gcx (ps_set (i := 3) gs_each_run.nd rfl (.inl rfl) (pe_ix ix_tup (pv 2) pe_int (fun _ _ => rfl))))
      (gqs_cons (gq_ps nox_gcx (ps_set (i := 4) gs_each_run.nd rfl (.inl rfl) (pe_call (ok_conjoin T) hr1 (by rfl) T.m_conjoin T.F_conjoin.kp T.B_conjoin .nil pass0 (pa_cons (pv 1) (pa_cons (pe_ix ix_tup (pv 2) pe_int (fun _ _ => rfl)) pa_nil)))))
      (gqs_cons (gq_from nox_gcx (pgq_call (ok_each0 T) hr1 (by rfl) T.m_each_run T.F_each_run.kp T.B_each_run .nil (pa_cons (pv 3) (pa_cons (pv 4) pa_nil))) hr)
      (gqs_one (gq_if nox_gcx (pt_cmpR op_notN (pe_ix ix_tup (pv 2) pe_int (fun _ _ => rfl)) pe_non (nomark _)) (gqs_cons (gq_ps nox_gcx ps_never) (gqs_cons (gq_ps nox_gcx ps_never) (gqs_one (gq_ps nox_gcx ps_never)))) gqs_nil)))))))), ?_⟩
    refine ⟨_, rfl, p, rfl, ⟨_, hp⟩, ?_⟩
    refine ⟨fun i m n σ H' => m = rs.length - i ∧ i ≤ rs.length ∧ rs.length - i ≤ n ∧ Same H H' ∧ ∃ y2 y3 y4, σ = [some (.ref p), some (.ref T.A_YES), y2, y3, y4, none, none], ⟨_, rfl, Nat.zero_le _, Nat.le_trans hN hm, Same.refl H, none, none, none, rfl⟩, fun i m n σ H' hW => ?_⟩
    obtain ⟨rfl, hi, hn, sm, y2, y3, y4, rfl⟩ := hW
    have hp' := same_seqT sm hp
    by_cases hlt : i < rs.length
    · refine .inr ⟨⟨rs, rs[i], hp', by simp [hlt]⟩, fun n' σ' H'' => rs.length - (i + 1) ≤ n' ∧ Same H H'' ∧ ∃ y2 y3 y4, σ' = [some (.ref p), some (.ref T.A_YES), y2, y3, y4, none, none], fun n' σ' H'' ⟨h1, h2, h3⟩ => ⟨_, (by omega : rs.length - (i + 1) < rs.length - i), rfl, hlt, h1, h2, h3⟩, fun x H'' yl => ?_⟩
      obtain ⟨e, yl⟩ := yl
      subst e
      have hx : rs[i]? = some x := yl rs hp'
      rcases (hrs x (List.mem_of_getElem? hx)).keep (same_tups sm) with ⟨a, z, rfl, ha⟩ | ⟨a, u, f, b, ins, rfl, ha, hf, lit, hb, hins, hil⟩
      · refine ⟨_, rfl, a, _, 0, _, rfl, rfl, ha, atI_nat (j := 0) rfl, rfl, true, sEq rfl, ?_⟩
        refine (if_pos rfl).mpr ?_
        refine ⟨n - 1, by omega, _, rfl, _, rfl, a, _, 1, _, rfl, rfl, ha, atI_nat (j := 1) rfl, by show 2 ≤ sizeLine; decide, fun t nt => ?_⟩
        exact ⟨by omega, sm.trans (same_upd nt), _, _, _, rfl⟩
      · refine ⟨_, rfl, a, _, 0, _, rfl, rfl, ha, atI_nat (j := 0) rfl, rfl, false, sNe (by decide +kernel), ?_⟩
        refine (if_neg Bool.false_ne_true).mpr ?_
        refine ⟨_, rfl, a, _, 2, _, rfl, rfl, ha, atI_nat (j := 2) rfl, ?_⟩
        refine ⟨_, rfl, _, rfl, a, _, 1, _, rfl, rfl, ha, atI_nat (j := 1) rfl, f, u, rfl, hf, lit, ?_⟩
        refine ⟨1, by omega, _, rfl, _, rfl, b, _, _, rfl, hb, hins, hil, fun H3 s3 => fun n' hn' => ?_⟩
        have ha3 := same_seqT s3 ha
        refine ⟨_, rfl, a, _, 3, _, rfl, rfl, ha3, atI_nat (j := 3) rfl, rfl, false, rfl, ?_⟩
        refine (if_neg Bool.false_ne_true).mpr ?_
        exact ⟨by omega, sm.trans s3, _, _, _, rfl⟩
    · have e : i = rs.length := by omega
      subst e
      exact .inl ⟨⟨rs, hp', Nat.le_refl _⟩, q _ sm⟩
end
end K77

set_option maxRecDepth 100000
set_option maxHeartbeats 4000000
/-! K7X: loud defs by their body; Text, read_text, checked, opened, replaced, narrowed. -/
namespace KG
open PySem PySem.Spec PyProof.Rows L2
section
variable {P : Program} {w : World} {K : PySem.W.Frag} {mg : Str → Option Value} {base : Heap}
/-- a loud def that may raise, by its body -/
theorem okQ {x qual : Str} {st : Stmt} {f : Addr} {fd : FuncData} {N ps : List Str} {k : Nat} {sp : Sp} (F : Fun K x qual st f fd) (S : FnScope N ps (defScope st)) (len : ∀ vs H Q E, sp vs H Q E → vs.length = ps.length)
    (hbody : ∀ (cdv : Value) (A : Around) (outer : List Env) (s : Shared) (H : Hp) (vs : List V) (Q : VK) (E : XK), Room k (A.deeper (envOfC qual (defScope st) s.heap.objs.size f cdv)) → sp vs H Q E →
      ∃ t, QSs (cxOf (L2.CX P w) P w K mg base N qual (defScope st) f cdv A outer s H E) (defBody st) t ∧ t { nx := fun _ H' => Q .non H', rt := Q } (start N vs) H) : FnQ P w K mg base (L2.CX P w) (k + 1) f fd ps sp := by
  obtain ⟨oc, od, kV, doc, pm, an, cdv, ct, osl, rfl, lk, hcd⟩ := F.ex
  exact fn_ofQ lk hcd S len fun A outer s H vs Q E hr hsp => hbody cdv A outer s H vs Q E hr hsp
/-- what a callee lets out, the caller lets out -/
theorem passE {N : List Str} {qual : Str} {sc : Scope} {f : Addr} {cdv : Value} {A : Around} {outer : List Env} {s : Shared} {H : Hp} {E : XK} : Passes (L2.CX P w) (cxOf (L2.CX P w) P w K mg base N qual sc f cdv A outer s H E) E :=
  passes_call (takes_of rfl rfl rfl rfl) fun _ _ _ _ h => h
end
section
variable {X : Cx} {a b c d : Expr} {ta tb tc td : TE} {pos : Pos}
/-- a op1 b op2 c op3 d, as a test -/
def tTest3 (r r' r'' : R2) (ta tb tc td : TE) : TT := fun σ H Q => ta σ H fun x H1 => tb σ H1 fun y H2 => r x y H2 fun z H3 => ∃ k, z = .bl k ∧
  (if k = true then tc σ H3 fun u H4 => r' y u H4 fun z2 H5 => ∃ k2, z2 = .bl k2 ∧ (if k2 = true then td σ H5 fun t H6 => r'' u t H6 fun z3 H7 => ∃ k3, z3 = .bl k3 ∧ Q k3 H7 else Q false H5) else Q false H3)
theorem pt_chain3 {op op' op'' : CmpOp} {r r' r'' : R2} (ho : OpR X (compareOp op) r) (ho' : OpR X (compareOp op') r') (ho'' : OpR X (compareOp op'') r'') (ha : PE X a ta) (hb : PE X b tb) (hc : PE X c tc) (hd : PE X d td)
    (hm : lastMarks [op, op', op''] [b, c, d] = false := by with_unfolding_all rfl) : PT X (.Compare a [op, op', op''] [b, c, d] pos) (tTest3 r r' r'' ta tb tc td) := by
  refine ⟨fun pins s σ H Q I h => ?_⟩
  refine isTrue_chain (thn (ha.run pins s σ H _ I h) fun v s1 ⟨x, H1, I1, r1, q1⟩ => test_link (thn (hb.run pins s1 σ H1 _ I1 q1) fun u s2 ⟨y, H2, I2, r2, q2⟩ =>
    thn (ho pins s2 σ H2 x y v u _ I2 r1 r2 q2) fun d s3 ⟨z, H3, I3, r3, k, e, q3⟩ => ?_)) hm
  subst e
  cases r3
  refine wpAny_truthy_bool ?_
  cases k with
  | false => exact ite_ff ⟨H3, I3, q3⟩
  | true =>
    refine ite_tt (test_link (thn (hc.run pins s3 σ H3 _ I3 q3) fun w' s4 ⟨z', H4, I4, r4, q4⟩ => thn (ho' pins s4 σ H4 y z' u w' _ I4 r2 r4 q4) fun d' s5 ⟨z2, H5, I5, r5, k2, e2, q5⟩ => ?_))
    subst e2
    cases r5
    refine wpAny_truthy_bool ?_
    cases k2 with
    | false => exact ite_ff ⟨H5, I5, q5⟩
    | true =>
      refine ite_tt (test_last (thn (hd.run pins s5 σ H5 _ I5 q5) fun w2 s6 ⟨z3, H6, I6, r6, q6⟩ => thn (ho'' pins s6 σ H6 z' z3 w' w2 _ I6 r4 r6 q6) fun d2 s7 ⟨z4, H7, I7, r7, k3, e3, q7⟩ => ?_))
      subst e3
      cases r7
      exact wpAny_truthy_bool ⟨H7, I7, q7⟩
end
end KG
namespace K77
open PySem PySem.Spec PyProof.Rows L2 KG TL
/-- a Text over the book at b -/
def TextAt (C : Addr) (H : Hp) (x b : Addr) : Prop := ∃ (dx p l : Addr), H x = some (.ins C dx [("book", .ref b), ("parts", .ref p), ("_runs", .ref l)])
/-- a text and a book that can be read -/
structure Now (z rl : Str) (ls : List Ln) : Prop where
  few : z.length ≤ 6000
  wr : BookWr rl ls
  good : GoodBook ls
  ne : rl ≠ ""
  text : TextOk (swOf ls) (tl z)
theorem same_made {H : Hp} {x dx C : Addr} (nx : H x = none) (ndx : H dx = none) (hxd : dx ≠ x) : Same H (upd (upd H dx (.own x)) x (.ins C dx [])) :=
  (same_upd ndx).trans (same_upd (by rw [upd_ne (Ne.symm hxd)]; exact nx))
theorem same_back {H H1 H2 : Hp} {x : Addr} (s : Same H H1) (nx : H x = none) (b : But x H1 H2) : Same H H2 := fun c o e => b c o (fun z => by rw [z, nx] at e; cases e) (s c o e)
section
variable {P : Program} {w : World} {K : PySem.W.Frag} {mg : Str → Option Value} {base : Heap}
def spTextInit (K : PySem.W.Frag) (C : Addr) : Sp := fun vs H Q _ => ∃ (x dx b p : Addr) (rs : List V), vs = [.ref x, .ref b, .ref p] ∧ H x = some (.ins C dx []) ∧ SqT K H p rs ∧ (∀ r ∈ rs, PartOk K H r) ∧ rs.length ≤ 6001 ∧
  ∀ H', But x H H' → TextAt C H' x b → Q .non H'
theorem ok_Text_init (T : Tx K mg) : FnQ P w K mg base (L2.CX P w) 7 T.a_Text_init T.f_Text_init ["self", "book", "parts"] (spTextInit K T.A_Text) := by
  refine okQ T.F_Text_init sc_Text_init (fun vs H Q E h => ?_) (fun cdv A outer s H vs Q E hr h => ?_)
  · obtain ⟨x, dx, b, p, rs, rfl, _⟩ := h
    rfl
  · obtain ⟨x, dx, b, p, rs, rfl, hx, hp, hrs, few, q⟩ := h
    refine ⟨_, qss_cons (qs_fld (pv 0) (QE.of (pv 1)) rfl) (qss_cons (qs_fld (pv 0) (QE.of (pv 2)) rfl)
      (qss_one (qs_fld (pv 0) (qe_list (pgq_call (ok_each_run T) (hr.mono (by decide)) (by rfl) T.m_each_run T.F_each_run.kp T.B_each_run .nil (pa_cons (pv 2) (pa_cons (pe_gref (by rfl) T.m_YES) pa_nil))) hr (by rfl) T.b_list (by decide +kernel)) rfl))), ?_⟩
    refine ⟨_, rfl, _, rfl, x, _, dx, _, rfl, hx, T.C_Text, T.N_Text_book, by decide, ?_⟩
    rw [show putF "book" (.ref b) [] = [(("book" : Str), V.ref b)] from rfl]
    have b1 : But x H (upd H x (.ins T.A_Text dx [("book", .ref b)])) := but_upd
    have t1 := tups_ins b1 hx
    refine ⟨_, rfl, _, rfl, x, _, dx, _, rfl, upd_same, T.C_Text, T.N_Text_parts, by show 1 < 1000; decide, ?_⟩
    rw [show putF "parts" (.ref p) [(("book" : Str), V.ref b)] = [(("book" : Str), V.ref b), ("parts", .ref p)] from rfl]
    generalize eH2 : upd (upd H x (.ins T.A_Text dx [("book", .ref b)])) x (.ins T.A_Text dx [("book", .ref b), ("parts", .ref p)]) = H2
    have b2 : But x H H2 := by rw [← eH2]; exact b1.trans but_upd
    have hx2 : H2 x = some (.ins T.A_Text dx [("book", .ref b), ("parts", .ref p)]) := by rw [← eH2]; exact upd_same
    have t2 := tups_ins b2 hx
    refine ⟨6001, by decide, _, rfl, p, rs, rfl, t2.seqT hp, fun r hr => (hrs r hr).keep t2, few, fun H3 s3 l nl => ?_⟩
    refine ⟨_, rfl, x, _, dx, _, rfl, s3 _ _ hx2, T.C_Text, T.N_Text_runs, by show 2 < 1000; decide, ?_⟩
    rw [show putF "_runs" (.ref l) [(("book" : Str), V.ref b), ("parts", .ref p)] = [(("book" : Str), V.ref b), ("parts", .ref p), ("_runs", .ref l)] from rfl]
    exact q _ (fun c o n e => (upd_ne n).trans (s3 _ _ (b2 _ _ n e))) ⟨dx, p, l, upd_same⟩
def spReadText (K : PySem.W.Frag) (CB CT : Addr) : Sp := fun vs H Q _ => ∃ (z : Str) (b : Addr) (ls : List Ln), vs = [.str z, .ref b] ∧ z.length ≤ 6000 ∧ BookAt K CB H b ls ∧ TextOk (swOf ls) (tl z) ∧
  ∀ H' x, Same H H' → TextAt CT H' x b → Q (.ref x) H'
theorem ok_read_text (T : Tx K mg) : FnQ P w K mg base (L2.CX P w) 9 T.a_read_text T.f_read_text ["text", "book"] (spReadText K T.A_Book T.A_Text) := by
  refine okQ T.F_read_text sc_read_text (fun vs H Q E h => ?_) (fun cdv A outer s0 H vs Q E hr h => ?_)
  · obtain ⟨z, b, ls, rfl, _⟩ := h
    rfl
  · obtain ⟨z, b, ls, rfl, hz, hb, htx, q⟩ := h
    refine ⟨_, qss_one (qs_ret (qe_make T.K_Text (ok_Text_init T) hr (by rfl) T.m_Text T.B_Text_init .nil passL (QA.of (pa_cons (pv 1) (pa_cons (pe_call (ok_read_parts T) (hr.mono (by decide)) (by rfl) T.m_read_parts T.F_read_parts.kp T.B_read_parts .nil pass0 (pa_cons (pv 0) (pa_cons (pe_fld (pv 1) rfl) pa_nil))) pa_nil))))), ?_⟩
    obtain ⟨dx, t, u, vs, hx, ht, he, hu⟩ := id hb
    refine ⟨_, rfl, _, rfl, _, rfl, b, _, dx, _, _, rfl, hx, T.C_Book, T.N_Book_switches, rfl, z, u, swOf ls, rfl, hz, .inr hu, htx, fun H1 p rs s1 hp few hrs => ?_⟩
    intro x dx2 nx ndx hxd
    have s2 := same_made (C := T.A_Text) nx ndx hxd
    refine ⟨x, dx2, b, p, rs, rfl, upd_same, same_seqT s2 hp, fun r hr => (hrs r hr).keep (same_tups s2), few, fun H3 b3 tx => ⟨rfl, q H3 x (s1.trans (same_back s2 nx b3)) tx⟩⟩
def spChecked (K : PySem.W.Frag) : Sp := fun vs H Q _ => ∃ (z rl : Str) (ls : List Ln), vs = [.str z, .str rl] ∧ Now z rl ls ∧ ∀ H' p, Same H H' → H p = none → H' p = some (.tup [.str z, .str rl]) → Q (.ref p) H'
theorem ok_checked (T : Tx K mg) : FnQ P w K mg base (L2.CX P w) 10 T.a_checked T.f_checked ["text", "rules"] (spChecked K) := by
  refine okQ T.F_checked sc_checked (fun vs H Q E h => ?_) (fun cdv A outer s0 H vs Q E hr h => ?_)
  · obtain ⟨z, rl, ls, rfl, _⟩ := h
    rfl
  · obtain ⟨z, rl, ls, rfl, N, q⟩ := h
    refine ⟨_, qss_cons (qs_expr (qe_call (ok_read_text T) hr (by rfl) T.m_read_text T.F_read_text.kp T.B_read_text .nil passL (QA.of (pa_cons (pv 0) (pa_cons (pe_call (ok_read_book T) (hr.mono (by decide)) (by rfl) T.m_read_book T.F_read_book.kp T.B_read_book .nil pass0 (pa_cons (pv 1) pa_nil)) pa_nil)))))
      (qss_one (QS.of (ps_ret (pe_tup (pa_cons (pv 0) (pa_cons (pv 1) pa_nil)))))), ?_⟩
    refine ⟨_, rfl, _, rfl, rl, ls, rfl, N.wr, N.good, N.ne, fun H1 y s1 hy => ?_⟩
    refine ⟨z, y, ls, rfl, N.few, hy, N.text, fun H2 x s2 _ => ?_⟩
    refine ⟨_, rfl, _, rfl, by show 2 ≤ sizeLine; decide, fun p np => ?_⟩
    exact q _ p ((s1.trans s2).trans (same_upd np)) (Same.free (s1.trans s2) np) upd_same
def spOpened (K : PySem.W.Frag) (CB CT : Addr) : Sp := fun vs H Q _ => ∃ (n : Addr) (z rl : Str) (ls : List Ln), vs = [.ref n] ∧ SqT K H n [.str z, .str rl] ∧ Now z rl ls ∧ ∀ H' x b, Same H H' → TextAt CT H' x b → BookAt K CB H' b ls → Q (.ref x) H'
theorem ok_opened (T : Tx K mg) : FnQ P w K mg base (L2.CX P w) 10 T.a_opened T.f_opened ["now"] (spOpened K T.A_Book T.A_Text) := by
  refine okQ T.F_opened sc_opened (fun vs H Q E h => ?_) (fun cdv A outer s0 H vs Q E hr h => ?_)
  · obtain ⟨n, z, rl, ls, rfl, _⟩ := h
    rfl
  · obtain ⟨n, z, rl, ls, rfl, hn, N, q⟩ := h
    refine ⟨_, qss_one (qs_ret (qe_call (ok_read_text T) hr (by rfl) T.m_read_text T.F_read_text.kp T.B_read_text .nil passL (QA.of (pa_cons (pe_ix ix_tup (pv 0) pe_int (fun _ _ => rfl)) (pa_cons (pe_call (ok_read_book T) (hr.mono (by decide)) (by rfl) T.m_read_book T.F_read_book.kp T.B_read_book .nil pass0 (pa_cons (pe_ix ix_tup (pv 0) pe_int (fun _ _ => rfl)) pa_nil)) pa_nil))))), ?_⟩
    refine ⟨_, rfl, n, _, 0, _, rfl, rfl, hn, atI_nat (j := 0) rfl, _, rfl, n, _, 1, _, rfl, rfl, hn, atI_nat (j := 1) rfl, rl, ls, rfl, N.wr, N.good, N.ne, fun H1 y s1 hy => ?_⟩
    exact ⟨z, y, ls, rfl, N.few, hy, N.text, fun H2 x s2 tx => q H2 x y (s1.trans s2) tx (hy.keep s2)⟩
/-- z with new in the place of its signs from s up to e -/
def repl (z : Str) (s e : Nat) (new : Str) : Str := cutS z none (some (s : Int)) ++ new ++ cutS z (some (e : Int)) none
def spReplaced (K : PySem.W.Frag) (cE : Value) : Sp := fun vs H Q E => ∃ (n : Addr) (z rl : Str) (s e : Nat) (new : Str), vs = [.ref n, .int s, .int e, .str new] ∧ SqT K H n [.str z, .str rl] ∧ z.length ≤ 6000 ∧
  ((s ≤ e ∧ e ≤ z.length ∧ new.length ≤ 6000 ∧ (∃ ls, Now (repl z s e new) rl ls) ∧ ∀ H' p, Same H H' → H p = none → H' p = some (.tup [.str (repl z s e new), .str rl]) → Q (.ref p) H') ∨
    (s = 1 ∧ e = 0 ∧ E cE none H))
end
end K77

set_option maxRecDepth 100000
set_option maxHeartbeats 2000000
/-! KSup: an own exception over own classes over ValueError, whose __init__ says super().__init__("..") and self.f = x. -/
namespace KG
open PySem PySem.W PySem.Calls PyProof.Rows

/-- the classes above C, its __init__ at fI: what the written part says -/
structure SupF (P : Program) (K : Frag) (mg : Str → Option Value) (sc : Scope) (f : Str) (C fI : Addr) (ps : Arguments) (body : List Stmt) (fd : FuncData) : Prop where
  ex : ∃ (oc : Value) (od : Option Addr) (kV doc pm : Value) (an : Option Addr) (cda : Addr) (ct : Value) (osl : Array (Option Value)) (cc : Addr) (nm qual : Str),
    fd = ksFn nm qual ps body sc .none kV doc pm an (.ref cda) ct cc ∧ K.lookup fI = some ⟨oc, od, .func fd, osl⟩ ∧ codeIn K (.ref cda) qual = true ∧
    (∃ (ccl : Value) (cdd : Option Addr) (vs : Array Value) (ccs : Array (Option Value)) (file : Str) (tf : Tok), K.lookup cda = some ⟨ccl, cdd, .fields vs, ccs⟩ ∧ vs[2]? = some (.str file tf) ∧ ((P.main.file : Str) == file) = true) ∧
    ∃ (cl : Value) (cld : Option Addr) (csl : Array (Option Value)), K.lookup cc = some ⟨cl, cld, .cell (some (.ref C)), csl⟩
  oex : L2.OexC K C
  sup : ks_superIn K C C "__init__" = some (some (.builtin "ValueError.__init__"))
  ve : subIn K (.ref C) (.type "ValueError") = some true
  own : mroIn K C (.ref C) = some true
  opq : nsIn K cStatics "thirdparty.any" = some none
  noF : findIn K (.ref C) f = some none
  mSuper : mg "super" = none
  top : (P.main.scope.names.lookup ("super" : Str)).isSome = false

section
variable {prog : Program} {w : World} {A : Around} {E : Value → Shared → Prop} {h : Heap} {g : Array GenState} {d : Drawn} {t : Nat} {os : OsState} {K : Frag}
/-- ValueError.__init__, bound to a new exception, called -/
theorem call_mw {u e t0 C : Addr} {rest : List Value} {Q : Value → Shared → Prop} {nm q : Str} {N : Addr} {bs bm : List Value} {hdct : Bool} {sn : List Str} {sub : List Value} {ab : Bool} {col : Option Bool} {dd : Option Addr} {k0 k1 k2 k3 k5 : Option Value}
    (hC : h.get? C = some (excClassObj nm q C N bs bm hdct sn sub ab col dd k0 k1 k2 k3 k5 "ValueError.__new__")) (he : h.get? e = some (excObj C t0 none .none)) (hu : h.get? u = some (kxs_mw "ValueError.__init__" e)) (hrest : rest.length ≤ sizeLine)
    (hq : ∀ h' t1, (∀ b o, b ≠ e → h.get? b = some o → h'.get? b = some o) → h'.get? e = some (excObj C t1 none .none) → Q .none ⟨h', g, d, t, os⟩) :
    wpAny (model prog w) A (call (.ref u) rest) Q E ⟨h, g, d, t, os⟩ := by
  refine wpAny_call (codeAny_of_tree ?_)
  show wpAny _ A.in1 (callAny (.ref u) ⟨rest, []⟩) _ _ _
  simp only [callAny]
  refine wpAny_bind (wpAny_load hu ?_)
  simp only [kxs_mw, show (Value.type "method-wrapper" == Value.type "method" || Value.type "method-wrapper" == Value.type "builtin_function_or_method" || Value.type "method-wrapper" == Value.type "method-wrapper") = true by decide, if_true]
  refine KFB.if_so (by decide) ?_
  refine wpAny_bind (check_bound_init F.excBase_ValueError.toExcCallFacts hC he rfl ?_)
  refine wpAny_bind (wpAny_pure (wpAny_pure ?_))
  refine ⟨plainId_quiet F.excBase_ValueError.init.plain _, codeAny_builtin F.excBase_ValueError.initEntry ?_⟩
  exact exc_init_tree (cls := .ref C) (t0 := t0) (dv := none) (c2 := .none) (c3 := .none) (b4 := .bool false) he hrest fun h' k e' _ => hq h' _ k e'

theorem ns_keep {h h' : Heap} {L : Addr} {m : Str → Option Value} (n : h.Ns L m) (k : ∀ b o, h.get? b = some o → h'.get? b = some o) : h'.Ns L m := by
  obtain ⟨oL, es, ep, hL, r⟩ := n
  exact ⟨oL, es, ep, k _ _ hL, r⟩
theorem ns_but {h h' : Heap} {L x : Addr} {m : Str → Option Value} (n : h.Ns L m) (ne : L ≠ x) (k : ∀ b o, b ≠ x → h.get? b = some o → h'.get? b = some o) : h'.Ns L m := by
  obtain ⟨oL, es, ep, hL, r⟩ := n
  exact ⟨oL, es, ep, k _ _ ne hL, r⟩

/-- the walk -/
theorem sup_code {mg : Str → Option Value} {sc : Scope} {f x msg : Str} {C fI : Addr} {ps : Arguments} {fd : FuncData} {s : Shared} {R : Result → Shared → Prop} {p0 p1 p2 p3 p4 p5 p6 p7 p8 p9 : Pos} {j : Nat} {ar : Arg} {args : Args} {a t0 : Addr} {u : Value}
    (T : SupF prog K mg sc f C fI ps [.Expr (.Call (.Attribute (.Call (.Name "super" p0) [] [] p1) "__init__" p2) [.Constant (.str msg) j p3] [] p4) p5, .Assign [.Attribute (.Name "self" p6) f p7] (.Name x p8) p9] fd)
    (hi : ∀ (q : Str) (L cda cc : Addr), interactive (ksEnv q sc L fI (.ref cda) cc) = false)
    (he : ∀ (q : Str) (L cda cc : Addr), ∃ pl : Sem Bool, eval (.Call (.Attribute (.Call (.Name "super" p0) [] [] p1) "__init__" p2) [.Constant (.str msg) j p3] [] p4) (ksEnv q sc L fI (.ref cda) cc) = (do
      let ov ← attributeBase (.Call (.Name "super" p0) [] [] p1) "__init__" (ksEnv q sc L fI (.ref cda) cc) (eval (.Call (.Name "super" p0) [] [] p1) (ksEnv q sc L fI (.ref cda) cc))
      standAt p2.atName
      let (f, first) ← holding [ov] (getMethod ov "__init__" pl)
      callWith p4 f first (backTo p4 (starEach [.Constant (.str msg) j p3] (ksEnv q sc L fI (.ref cda) cc))) []))
    (har : (ps.posonlyargs ++ ps.args).head? = some ar) (hself : ar.arg = "self") (hcell : ∀ y ∈ sc.names, y.2 ≠ .cell) (hks : sc.names.lookup ("super" : Str) = some .globalImplicit) (hkc : sc.names.lookup ("__class__" : Str) = some .free)
    (hka : sc.names.lookup ("self" : Str) = some .local) (hkx : sc.names.lookup x = some .local) (hxs : ("self" : Str) ≠ x) (hxd : (x == ("__debug__" : Str)) = false) (hco : sc.isCoroutine = false) (hgen : sc.isGenerator = false) (hk : sc.kind = .function)
    (X : K.In s.heap) (glob : s.heap.Ns mainGlobals mg) (blt : ∃ mb, s.heap.Ns builtinsNs mb ∧ ∀ y : Str, y ≠ "__name__" → mb y = bootBuiltins y) (lim : s.heap.NoLimit) (hroom : A.depth < recursionLimit)
    (hb : BindsTo s fd args [("self", .ref a), (x, u)]) (hKa : K.lookup a = none) (ha : s.heap.get? a = some (excObj C t0 none .none))
    (hq : ∀ h' tk dx t1, (∀ b o, b ≠ a → s.heap.get? b = some o → h'.get? b = some o) → (∀ b o, s.heap.get? b = some o → b ≠ dx) → dx ≠ a → h'.get? a = some (excObj C t1 (some dx) .none) → h'.Ns1 dx (fun y => if y = f then some u else none) → R (.ok (.ret .none)) ⟨h', s.gens, s.drawn, tk, s.os⟩) :
    codeAny (model prog w) A (.call (.ref fI) args) R s := by
  obtain ⟨oc, od, kV, doc, pm, an, cda, ct, osl, cc, nm, qual, rfl, lk, hcd, ⟨ccl, cdd, vs, ccs, file, tf, hcode, hvs, hfile⟩, cl, cld, csl, hccl⟩ := T.ex
  obtain ⟨nmC, qC, N, bs, bm, sn, sub, ab, col, dd, k0, k1, k2, k3, k5, hC, hbm⟩ := T.oex.cls
  have hcl : clsIn K C = some { name := nmC, bases := bs, mro := .ref C :: bm, ns := N, qualname := qC, hasDict := true, slotNames := sn, subclasses := sub, abstract := ab, collection := col, hasDel := false } := by unfold clsIn; rw [hC] <;> rfl
  refine ks_codeAny_call_defAt hroom (X _ _ lk) rfl lim (codeRec_of X hcd) rfl hb hcell (fun y hy => ?_) (fun h₁ hns hk₁ => ?_) hco hgen hk
  · rcases List.mem_cons.mp hy with rfl | hy
    · exact hka
    · rw [List.mem_singleton.mp hy]
      exact hkx
  obtain ⟨mb, b1, b2⟩ := blt
  obtain ⟨hp, g, d, t, os⟩ := s
  have sl : ∀ (v : Value), List.lookup ("self" : Str) ([((x : Str), u), ("self", .ref a)] : List (Str × Value)) = some (.ref a) := fun _ => by
    have e : (("self" : Str) == x) = false := by simpa using hxs
    simp [List.lookup, e]
  have xl : List.lookup x ([((x : Str), u), ("self", .ref a)] : List (Str × Value)) = some u := by simp [List.lookup]
  have nas : hp.objs.size ≠ a := fun z => by
    have := Heap.lt_size ha
    rw [← z] at this
    exact absurd this (Nat.lt_irrefl _)
  have ha1 := hk₁ _ _ ha
  have X1 : K.In h₁ := X.keeps hk₁
  have I1 : InstAt h₁ a (excObj C t0 none .none) C none := ⟨ha1, rfl, rfl, trivial⟩
  have hD1 : h₁.get? C = some (excClassObj nmC qC C N bs bm true sn sub ab col dd k0 k1 k2 k3 k5 "ValueError.__new__") := X1 _ _ hC
  have naC : a ≠ C := ks_ne X1 I1 hcl
  obtain ⟨pl, he⟩ := he qual hp.objs.size cda cc
  refine ks_wpAt_execs_cons (ks_wpAt_Expr_any (env := ksEnv qual sc hp.objs.size fI (.ref cda) cc) (ks_wpAt_MethodCall (pl := pl) ?_ he) (hi _ _ _ _))
  refine ks_wpAt_super_base (env := ksEnv qual sc hp.objs.size fI (.ref cda) cc) hks hkc (by decide +kernel) rfl (X1 _ _ lk) rfl har rfl (X1 _ _ hcode) rfl hvs hfile T.top ?_
  rw [hself]
  refine ks_loadName_global (env := ksEnv qual sc hp.objs.size fI (.ref cda) cc) hk hks (loadGlobal_builtin (env := ksEnv qual sc hp.objs.size fI (.ref cda) cc) (glob.keeps hk₁) T.mSuper (b1.keeps hk₁) ((b2 _ (by decide +kernel)).trans (by decide +kernel)) ⟨rfl, ?_⟩)
  refine wpAny_loadName_free hk hkc (show List.lookup ("__class__" : Str) [(("__class__" : Str), cc)] = some cc by simp [List.lookup]) ⟨_, X1 _ _ hccl, rfl⟩ ?_
  refine wpAny_loadName_local hk hka hns (sl u) ?_
  refine ks_wpAny_isType_cls hD1 rfl ⟨rfl, ?_⟩
  refine ks_wpAny_call_super hD1 rfl ha1 rfl (fun c e => by cases e) (looks_mroIn X1 T.own) (fun h2 hso kk2 => ?_)
  have X2 : K.In h2 := X1.keeps kk2
  have I2 : InstAt h2 a (excObj C t0 none .none) C none := ⟨kk2 _ _ ha1, rfl, rfl, trivial⟩
  have hsup := T.sup
  unfold ks_superIn at hsup
  rw [hcl] at hsup
  refine kxs_getMethod kxs_ValueError hso (looks_opaque X2 T.opq) (l₀ := .ref C :: bm) (fun A Q E s k q => wpAny_bind ((looks_clsIn X2 hcl) A _ E s k (wpAny_pure q))) rfl X2 hsup (I2.type.andThen (looks_subIn X2 T.ve)) naC (by decide +kernel) ?_
  have k3 : ∀ b o, h2.get? b = some o → (h2.push (kxs_mw "ValueError.__init__" a)).get? b = some o := fun b o e => Heap.get?_push_of_some _ e
  have hu3 : (h2.push (kxs_mw "ValueError.__init__" a)).get? h2.objs.size = some (kxs_mw "ValueError.__init__" a) := Heap.get?_push_at rfl rfl
  refine kxs_callWith (i := "ValueError.__init__") (x := a) rfl (evalArgs_plain (spliced_cons (wpAny_Constant_str (k := j) (pos := p3) (spliced_nil ⟨hu3, ?_⟩))))
  refine call_mw (X2.keeps k3 _ _ hC) (k3 _ _ (kk2 _ _ ha1)) hu3 (by show 1 ≤ sizeLine; rw [sizeLine_eq]; omega) fun h4 t1 k4 ha4 => ?_
  -- self.f = x
  have kk : ∀ b o, b ≠ a → hp.get? b = some o → h4.get? b = some o := fun b o n e => k4 b o n (k3 _ _ (kk2 _ _ (hk₁ _ _ e)))
  have X4 : K.In h4 := fun b o e => k4 b o (fun z => by rw [z, hKa] at e; cases e) (X2.keeps k3 _ _ e)
  have hns4 : h4.Ns hp.objs.size (fun y => List.lookup y ([("self", .ref a), (x, u)] : List (Str × Value)).reverse) := ns_but (ns_keep (ns_keep hns kk2) k3) nas k4
  refine wpAt_of_wpAny (wpAny_execs_cons (plainObj_wpAny_Assign_Attribute (ESX.ldL (env := ksEnv qual sc hp.objs.size fI (.ref cda) cc) hns4 xl (ESX.ldL (env := ksEnv qual sc hp.objs.size fI (.ref cda) cc) hns4 (sl u) ?_ hk hka) hk hkx hxd)))
  refine set_plain X4 (ox := excObj C t1 none .none) (od := none) ⟨ha4, rfl, rfl, trivial⟩ T.oex.sa (HandSPX.exc_osa X4 ha4 hcl (show HandSPX.refsVE (.ref C :: bm) = true from hbm) rfl T.noF fun h' tk' dx k dn dne hx hn => ?_)
  refine wpAny_execs_nil (hq h' tk' dx t1 (fun b o n e => k b o n (kk b o n e)) (fun b o e z => ?_) dne hx hn)
  rw [z] at e
  have := Heap.lt_size (kk dx o dne e)
  exact absurd (Nat.lt_of_lt_of_le this dn) (Nat.lt_irrefl _)
end
end KG

set_option maxRecDepth 100000
set_option maxHeartbeats 2000000
/-! KSup2: the promise of such an __init__; isinstance of a caught error by its own class; methods called in a try. -/
namespace KG
open PySem PySem.Spec PyProof.Rows L2

def spSup (C : Addr) (f : Str) : Sp := fun vs H Q _ => ∃ (a : Addr) (y : V), vs = [.ref a, y] ∧ H a = some (exo a C none) ∧ ∀ dx, H dx = none → dx ≠ a → Q .non (upd (upd H dx (exd dx [(f, y)])) a (exo a C (some dx)))
theorem ok_sup_init {P : Program} {w : World} {K : PySem.W.Frag} {mg : Str → Option Value} {base : Heap} {sc : Scope} {f x msg : Str} {C fI : Addr} {ps : Arguments} {fd : FuncData} {p0 p1 p2 p3 p4 p5 p6 p7 p8 p9 : Pos} {j : Nat} {ar : Arg}
    (T : SupF P K mg sc f C fI ps [.Expr (.Call (.Attribute (.Call (.Name "super" p0) [] [] p1) "__init__" p2) [.Constant (.str msg) j p3] [] p4) p5, .Assign [.Attribute (.Name "self" p6) f p7] (.Name x p8) p9] fd)
    (hi : ∀ (q : Str) (L cda cc : Addr), interactive (PySem.W.ksEnv q sc L fI (.ref cda) cc) = false)
    (he : ∀ (q : Str) (L cda cc : Addr), ∃ pl : Sem Bool, eval (.Call (.Attribute (.Call (.Name "super" p0) [] [] p1) "__init__" p2) [.Constant (.str msg) j p3] [] p4) (PySem.W.ksEnv q sc L fI (.ref cda) cc) = (do
      let ov ← attributeBase (.Call (.Name "super" p0) [] [] p1) "__init__" (PySem.W.ksEnv q sc L fI (.ref cda) cc) (eval (.Call (.Name "super" p0) [] [] p1) (PySem.W.ksEnv q sc L fI (.ref cda) cc))
      standAt p2.atName
      let (f, first) ← holding [ov] (getMethod ov "__init__" pl)
      callWith p4 f first (backTo p4 (starEach [.Constant (.str msg) j p3] (PySem.W.ksEnv q sc L fI (.ref cda) cc))) []))
    (har : (ps.posonlyargs ++ ps.args).head? = some ar) (hself : ar.arg = "self") (hcell : ∀ y ∈ sc.names, y.2 ≠ .cell) (hks : sc.names.lookup ("super" : Str) = some .globalImplicit) (hkc : sc.names.lookup ("__class__" : Str) = some .free)
    (hka : sc.names.lookup ("self" : Str) = some .local) (hkx : sc.names.lookup x = some .local) (hxs : ("self" : Str) ≠ x) (hxd : (x == ("__debug__" : Str)) = false) (hco : sc.isCoroutine = false) (hgen : sc.isGenerator = false) (hk : sc.kind = .function) :
    FnOk P w K mg base CX0 1 fI fd ["self", x] (spSup C f) := by
  refine ⟨fun vs H Q E ⟨a, y, e, _⟩ => by rw [e] <;> rfl, fun A outer s H args us vs Q E hr e0 hb r h => ?_⟩
  obtain ⟨a, y, rfl, e, q⟩ := h
  cases r with
  | @cons _ u0 _ us1 ra r1 =>
  cases r1 with
  | @cons _ u _ us2 ry r2 =>
  cases r2
  obtain rfl : u0 = Value.ref a := ra
  have KX : K.In s.heap := e0.mod.kin.keeps fun b o e => (e0.bs b o e).1
  have kb : ∀ b o, base.get? b = some o → s.heap.get? b = some o := fun b o e => (e0.bs b o e).1
  obtain ⟨t1, ho⟩ := exo_at e0.hok e
  obtain ⟨mb, b1, b2⟩ := e0.mod.blt
  have hKa : K.lookup a = none := by
    cases z : K.lookup a with
    | none => rfl
    | some o =>
      have := (e0.bs a o (e0.mod.kin _ _ z)).2
      rw [e] at this
      cases this
  refine sup_code T hi he har hself hcell hks hkc hka hkx hxs hxd hco hgen hk KX (e0.mod.glob.keeps kb) ⟨mb, b1.keeps kb, b2⟩ (e0.mod.nolimit.keeps kb) hr.depth hb hKa ho fun h' tk dx t2 k nd dne hx hn => ?_
  have dn : s.heap.get? dx = none := by
    cases z : s.heap.get? dx with
    | none => rfl
    | some o => exact absurd rfl (nd dx o z)
  have hnd : H dx = none := e0.hok.gone dn
  have na : ∀ {b : Addr}, H b = none → b ≠ a := fun {b} n z => by
    rw [z, e] at n
    cases n
  refine ⟨.non, upd (upd H dx (exd dx [(f, y)])) a (exo a C (some dx)), rfl, e0.bare, ?_, fun b o z => ?_, rfl, q dx hnd dne⟩
  · exact {
      keep := fun b o q n _ _ => k b o (na n) q
      slot := fun b o q n _ _ => ⟨o.slots, k b o (na n) q⟩
      free := fun b o q n _ => by rw [upd_ne (na n), upd_ne (nd b o q)]; exact n
      there := fun b o q _ => by
        by_cases hb : b = a
        · exact ⟨_, by rw [hb]; exact hx⟩
        · exact ⟨o, k b o hb q⟩
      tups := fun b xs q => by rw [upd_ne (at_ne e q exo_tup), upd_ne (ne_of_none q hnd)]; exact q
      frzs := fun b o v q => by rw [upd_ne (at_ne e q exo_frz), upd_ne (ne_of_none q hnd)]; exact q
      tbls := fun b ps q => ⟨#[], by rw [upd_ne (at_ne e q exo_tbl), upd_ne (ne_of_none q hnd), q]; simp⟩ }
  · by_cases hb : b = a
    · subst hb
      rw [upd_same] at z
      cases z
      exact exo_ok hx
    · rw [upd_ne hb] at z
      by_cases hd : b = dx
      · subst hd
        rw [upd_same] at z
        cases z
        exact exd_ok hn (relO_put (fs := []) ry fun g => True.intro)
      · rw [upd_ne hd] at z
        exact (e0.hok b o z).stay (fun c v hc z => k c v (by
            rcases hc with hc | hc
            · rw [hc]
              exact hb
            · exact at_ne e hc exo_own) z)
          (fun c hc => by rw [upd_ne (at_ne e hc exo_own), upd_ne (ne_of_none hc hnd)]; exact hc) (fun c xs hc => by rw [upd_ne (at_ne e hc exo_tup), upd_ne (ne_of_none hc hnd)]; exact hc)

/-! ### isinstance(e, D), D the class of e itself -/
theorem kit_same {x c : Value} {S : Heap → Prop} (LT : ∀ (M : Model) (h : Heap), S h → PySem.W.Looks M h (typeOf x) c) : Answers (fun s => S s.heap) x c true := by
  intro dep tk prog w A R s hs
  obtain ⟨h0, g, d, tt, os⟩ := s
  obtain ⟨p, hq⟩ := hs
  unfold Builtin.«isinstance.nested»
  refine wpAny_bind ((LT _ _ p).at ?_)
  rw [if_pos (beq_self_eq_true c)]
  first
    | exact wpAny_bind (wpAny_rule (hq tt))
    | exact wpAny_bind (wpAny_rule (wpAny_pure (hq tt)))
theorem kia_same {prog : Program} {w : World} {A : Around} {E : Value → Shared → Prop} {s : Shared} {Q : Value → Shared → Prop} {x c : Value} {S : Heap → Prop} (LT : ∀ (M : Model) (h : Heap), S h → PySem.W.Looks M h (typeOf x) c) (p : S s.heap) (hx : x ≠ .builtin "__main__.__loader__#opaque")
    (h : ∀ tk, Q (.bool true) { s with toks := tk }) : wpAny (model prog w) A (call (.builtin "isinstance") [x, c]) Q E s :=
  call_isinstance (S := fun _ R s => S s.heap ∧ ∀ tk, R (.ok (.ret (.bool true))) { s with toks := tk })
    (fun prog w A R s hs => isinstance_outer (kit_same LT 0 _ prog w A R s hs) hx) ⟨p, h⟩
def rIsS (a D : Addr) : List V → Hp → VK → Prop := fun xs H Q => xs = [.ref a, .ref D] ∧ Q (.bl true) H
theorem call_isS {X : Cx} {a D : Addr} {d : Option Addr} {oe : Obj} {pn : List (Addr × Obj)} (hz : Zc (.ref D) d oe) : CallR (X.suite a ((a, oe) :: pn)) (.builtin "isinstance") (rIsS a D) := by
  intro pins s σ H xs us Q I r h
  obtain ⟨rfl, q⟩ := h
  cases r with
  | cons rx rr =>
    cases rr with
    | cons rt rr =>
      cases rr
      cases rx
      cases rt
      obtain ⟨hget, _⟩ := I.pin (a, oe) (List.mem_append.mpr (.inl List.mem_cons_self))
      refine kia_same (S := fun h => h.get? a = some oe) (fun M h p => ?_) hget (fun z => nomatch z) fun tk => ⟨.bl true, H, I.kept (t' := tk) fun _ _ z => z, rfl, q⟩
      have := hz.1
      exact this ▸ (PySem.W.Looks.ld p).andThen .now

/-! ### o.m(e, ..), what is raised wished for at the slots -/
section
variable {X : Cx} {CX : CXT} {k : Nat} {f C : Addr} {fd : FuncData} {ps : List Str} {sp : Sp} {E : L2.St → XK} {m : Str} {pos apos : Pos} {e o : Expr} {es : List Expr} {ta : TE} {t : TA}
def tMethS (C : Addr) (m : Str) (sp : Sp) (E : L2.St → XK) (ta : TE) (t : TA) : TE := fun σ H Q => ta σ H fun x H1 => ∃ a dx fs, x = .ref a ∧ H1 a = some (.ins C dx fs) ∧ fs.lookup m = none ∧ t σ H1 fun vs H2 => sp (.ref a :: vs) H2 Q (E σ)
theorem qe_methS {pl : Sem Bool} (he : PE X o ta) (c : Cls X.K C) (hm : Meth X.K C m f) (F : FnQ X.prog X.w X.K X.mg X.base CX k f fd ps sp) (hr : Room k X.A) (hb : Binds X.K fd ps []) (hx : ∀ σ, PassesAt CX X σ (E σ)) (ha : QA X (e :: es) t)
    (hst : starEach (e :: es) X.env = (false, eval e X.env) :: starEach es X.env := by rfl) (hpl : (backTo pos (starEach es X.env)).any (·.1) = false := by rfl)
    (ht : eval (.Call (.Attribute o m apos) (e :: es) [] pos) X.env = (do
      let ov ← eval o X.env
      standAt apos.atName
      let (g, first) ← holding [ov] (getMethod ov m pl)
      callWith pos g first (backTo pos (starEach (e :: es) X.env)) (backToKw pos (keywordEach [] X.env))) := by rfl) : QE X (.Call (.Attribute o m apos) (e :: es) [] pos) (tMethS C m sp E ta t) := by
  refine ⟨fun pins s σ H Q I h => ?_⟩
  rw [ht]
  refine qlet (thn (he.run pins s σ H _ I h) fun u s1 ⟨x, H1, I1, rx, a, dx, fs, ex, ea, l, q⟩ => ?_)
  subst ex
  obtain rfl : u = Value.ref a := rx
  refine qat (qlet (wpAny_holding (getmeth_ok I1 ea c hm l ?_)))
  refine q_with (first := [.ref a]) hm.kp (qthn (ha.run pos pins s1 σ H1 _ I1 q) fun us s2 ⟨vs, H2, I2, r, q2⟩ => ⟨I2.kIn, ?_⟩) hst hpl
  have r2 : Vals (V.ref a :: vs) (Value.ref a :: us) := .cons rfl r
  have hl : (Value.ref a :: us).length = ps.length := by rw [← r2.length]; exact F.len _ _ _ _ q2
  have b := hb s2 (.ref a :: us) I2.kIn (by rw [List.append_nil]; exact hl)
  rw [List.append_nil] at b
  refine qcall ((F.run X.A X.stack s2 H2 ⟨.ref a :: us, []⟩ (.ref a :: us) (.ref a :: vs) Q (E σ) hr I2.env0 b r2 q2).mono fun r s' hq => ?_)
  match r, hq with
  | .error e, hq => exact hx σ pins H2 s2 e s' I2 hq
  | .ok (.ret u), hq => exact I2.after hq
  | .ok .next, hq => exact False.elim hq
  | .ok .brk, hq => exact False.elim hq
  | .ok .cont, hq => exact False.elim hq
end
/-- a promise that nobody asks for -/
theorem fnq_no {P : Program} {w : World} {K : PySem.W.Frag} {mg : Str → Option Value} {base : Heap} {CX : CXT} {k : Nat} {f : Addr} {fd : FuncData} {ps : List Str} : FnQ P w K mg base CX k f fd ps (fun _ _ _ _ => False) := ⟨fun _ _ _ _ h => h.elim, fun _ _ _ _ _ _ _ _ _ _ _ _ _ h => h.elim⟩
end KG

set_option maxRecDepth 100000
set_option maxHeartbeats 4000000
/-! K7Y: the two errors; check_switch, turn_switch, replaced, narrowed. -/
namespace K77
open PySem PySem.Spec PyProof.Rows L2 KG TL

abbrev s_US : Stmt := inClass (top 7) 0
/-- what the top leaves of the two errors -/
structure Ux (P : Program) (K : PySem.W.Frag) (mg : Str → Option Value) (T : Tx K mg) where
  f0 : Addr
  fd0 : FuncData
  sup : SupF P K mg (defScope s_US) "name" T.A_UnknownSwitch f0 (defArgs s_US) (defBody s_US) fd0
  iC : PySem.W.findIn K (.ref T.A_UnknownSwitch) "__init__" = some (some (.ref f0))
  tI : PySem.W.typeIn K (.ref f0) = some (.type "function")
  xB : PySem.W.excIn K T.A_BadEdit [.type "ValueError", .type "Exception", .type "BaseException", .type "object"] "ValueError.__new__" = true
  kB : PySem.W.keepIn K (.ref T.A_BadEdit) = true
  bB : PySem.W.subIn K (.ref T.A_BadEdit) (.type "BaseException") = some true
  tB : PySem.W.typeIn K (.ref T.A_BadEdit) = some (.type "type")
  eB : PySem.W.exmOne K (.ref T.A_BadEdit) (.ref T.A_ProductError) = some true
  eU : PySem.W.exmOne K (.ref T.A_UnknownSwitch) (.ref T.A_ProductError) = some true
section
variable {P : Program} {w : World} {K : PySem.W.Frag} {mg : Str → Option Value} {base : Heap}
theorem ok_US (T : Tx K mg) (U : Ux P K mg T) : FnOk P w K mg base CX0 1 U.f0 U.fd0 ["self", "name"] (spSup T.A_UnknownSwitch "name") :=
  ok_sup_init (sc := defScope s_US) U.sup (fun _ _ _ _ => rfl) (fun _ _ _ _ => ⟨_, rfl⟩) rfl rfl (by decide +kernel) (by decide +kernel) (by decide +kernel) (by decide +kernel) (by decide +kernel) (by decide +kernel) (by decide +kernel) rfl rfl rfl
theorem B_US (T : Tx K mg) (U : Ux P K mg T) : Binds K U.fd0 ["self", "name"] [] := by
  obtain ⟨oc, od, kV, doc, pm, an, cda, ct, osl, cc, nm, qual, e, _⟩ := U.sup.ex
  rw [e]
  exact .all fun us hl => match us, hl with | [_, _], _ => rfl
def spCheck (K : PySem.W.Frag) (CB CT : Addr) (cE : Value) : Sp := fun vs H _ E => ∃ (x b : Addr) (n : Str) (ls : List Ln), vs = [.ref x, .str n] ∧ TextAt CT H x b ∧ BookAt K CB H b ls ∧ n ∉ swOf ls ∧ ∀ H' d, Same H H' → E cE (some d) H'
theorem ok_check_switch (T : Tx K mg) (U : Ux P K mg T) : FnOk P w K mg base (L2.CX P w) 3 T.a_check_switch T.f_check_switch ["text", "name"] (spCheck K T.A_Book T.A_Text (.ref T.A_UnknownSwitch)) := by
  refine T.F_check_switch.okX sc_check_switch (fun vs H Q E h => ?_) (fun cdv A outer s0 H vs Q E hr h => ?_)
  · obtain ⟨x, b, n, ls, rfl, _⟩ := h
    rfl
  · obtain ⟨x, b, n, ls, rfl, ⟨dx, p, l, hx⟩, ⟨db, t, u, es, hb, ht, he, hu⟩, hn, q⟩ := h
    refine ⟨_, pss_one (ps_if (pt_cmpR op_notIn_seq (pv 1) (pe_fld (pe_fld (pv 0) rfl) rfl) rfl) (pss_one (ps_raise rfl (takes_of rfl rfl rfl rfl) (pmk_oex U.sup.oex U.iC U.tI (ok_US T U) hr (B_US T U) .nil pass0 (by rfl) T.m_UnknownSwitch (pa_cons (pv 1) pa_nil)))) pss_nil), ?_⟩
    refine ⟨_, rfl, _, rfl, x, _, dx, _, _, rfl, hx, T.C_Text, T.N_Text_book, rfl, b, _, db, _, _, rfl, hb, T.C_Book, T.N_Book_switches, rfl, u, _, rfl, .inr hu, rfl, flat_strs _, true, congrArg V.bl ?_, ?_⟩
    · show (!inV (.str n) ((swOf ls).map V.str)) = true
      rw [inV_no hn]
      rfl
    refine (if_pos rfl).mpr ?_
    refine ⟨_, rfl, by show 1 ≤ 1000; decide, fun a na => ⟨a, _, rfl, upd_same, fun dx2 ndx hda => ⟨rfl, dx2, _, upd_same, (upd_ne hda).trans upd_same, ?_, ?_⟩⟩⟩
    · rw [upd_ne hda] at ndx
      exact ndx
    · refine q _ dx2 fun c o e => ?_
      have nc : c ≠ a := ne_of_none e na
      have nd : c ≠ dx2 := fun z => by
        rw [upd_ne hda] at ndx
        rw [z, ndx] at e
        cases e
      rw [upd_ne nd, del_ne nc, upd_ne nc, upd_ne nd, upd_ne nc]
      exact e
theorem ok_turn_switch (T : Tx K mg) (U : Ux P K mg T) : FnOk P w K mg base (L2.CX P w) 4 T.a_turn_switch T.f_turn_switch ["text", "name"] (spCheck K T.A_Book T.A_Text (.ref T.A_UnknownSwitch)) := by
  refine T.F_turn_switch.okX sc_turn_switch (fun vs H Q E h => ?_) (fun cdv A outer s0 H vs Q E hr h => ?_)
  · obtain ⟨x, b, n, ls, rfl, _⟩ := h
    rfl
  · obtain ⟨x, b, n, ls, rfl, hx, hb, hn, q⟩ := h
    refine ⟨_, pss_cons (ps_expr (pe_call (ok_check_switch T U) hr (by rfl) T.m_check_switch T.F_check_switch.kp T.B_check_switch .nil passE (pa_cons (pv 0) (pa_cons (pv 1) pa_nil)))) pss_never, ?_⟩
    exact ⟨_, rfl, _, rfl, x, b, n, ls, rfl, hx, hb, hn, q⟩
theorem cut_len0 (z : Str) {k : Nat} (h : k ≤ z.length) : (cutS z none (some (k : Int))).length ≤ z.length := by
  rw [cut_to, len_tl, len_tl]
  show (List.take k (tl z)).toArray.toList.length ≤ (tl z).length
  rw [List.toList_toArray, List.length_take]
  omega
theorem cut_len1 (z : Str) {k : Nat} (h : k ≤ z.length) : (cutS z (some (k : Int)) none).length ≤ z.length := by
  rw [cut_from (by rw [← len_tl]; exact h), len_tl, len_tl]
  show (List.drop k (tl z)).toArray.toList.length ≤ (tl z).length
  rw [List.toList_toArray, List.length_drop]
  omega
theorem ok_replaced (T : Tx K mg) (U : Ux P K mg T) : FnQ P w K mg base (L2.CX P w) 11 T.a_replaced T.f_replaced ["now", "start", "end", "new"] (spReplaced K (.ref T.A_BadEdit)) := by
  refine okQ T.F_replaced sc_replaced (fun vs H Q E h => ?_) (fun cdv A outer s0 H vs Q E hr h => ?_)
  · obtain ⟨n, z, rl, s, e, new, rfl, _⟩ := h
    rfl
  · obtain ⟨n, z, rl, s, e, new, rfl, hn, hz, h⟩ := h
    refine ⟨_, qss_cons (QS.of (ps_asg (pv 0) (pg_tup rfl (pgs_cons (pg_name (i := 4) sc_replaced.nd rfl (.inl rfl)) (pgs_cons (pg_name (i := 5) sc_replaced.nd rfl (.inl rfl)) pgs_nil)))))
      (qss_cons (qs_if (QT.of (pt_not (pt_chain3 op_le op_le op_le pe_int (pv 1) (pv 2) (pe_callB call_len_str (by rfl) T.b_len PySem.boot_len (pa_cons (pv 4) pa_nil))))) (QSs.of (pss_one (ps_raise rfl (takes_of rfl rfl rfl rfl) (pmk_own PySem.F.excBase_ValueError U.xB T.m_BadEdit U.kB (raises_own U.bB U.tB) (by rfl))))) (QSs.of pss_nil))
      (qss_one (qs_ret (qe_call (ok_checked T) hr (by rfl) T.m_checked T.F_checked.kp T.B_checked .nil passE (QA.of (pa_cons (pe_op op_add_str (pe_op op_add_str (pe_slice sl_str (pv 4) po_none (po_some (pv 1))) (pv 3)) (pe_slice sl_str (pv 4) (po_some (pv 2)) po_none)) (pa_cons (pv 5) pa_nil))))))), ?_⟩
    have zl : z.length ≤ sizeLine := small_str hz (by decide)
    refine ⟨_, rfl, n, _, rfl, hn, rfl, _, _, rfl, _, _, rfl, rfl, ?_⟩
    rcases h with ⟨hse, he, hnew, ⟨ls, N⟩, q⟩ | ⟨rfl, rfl, q⟩
    · refine ⟨_, rfl, _, _, rfl, rfl, true, congrArg V.bl (decide_eq_true (Int.natCast_nonneg _)), (if_pos rfl).mpr ?_⟩
      refine ⟨_, rfl, _, _, rfl, rfl, true, congrArg V.bl (decide_eq_true (by omega)), (if_pos rfl).mpr ?_⟩
      refine ⟨_, rfl, z, rfl, zl, _, _, rfl, rfl, true, congrArg V.bl (decide_eq_true (by omega)), (if_neg Bool.false_ne_true).mpr ?_⟩
      have l0 := cut_len0 z (Nat.le_trans hse he)
      have l1 := cut_len1 z he
      refine ⟨_, rfl, _, rfl, (s : Int), rfl, _, rfl, zl, _, rfl, _, _, rfl, rfl, Nat.le_trans (by omega) (by decide : 12000 ≤ sizeLine), ?_⟩
      refine ⟨_, rfl, _, rfl, (e : Int), rfl, _, rfl, zl, _, _, rfl, rfl, Nat.le_trans (by rw [len_app]; omega) (by decide : 18000 ≤ sizeLine), ?_⟩
      exact ⟨_, rfl, _, rl, ls, rfl, N, q⟩
    · refine ⟨_, rfl, _, _, rfl, rfl, true, congrArg V.bl (show decide ((0 : Int) ≤ ((1 : Nat) : Int)) = true by decide), (if_pos rfl).mpr ?_⟩
      refine ⟨_, rfl, _, _, rfl, rfl, false, congrArg V.bl (show decide (((1 : Nat) : Int) ≤ ((0 : Nat) : Int)) = false by decide), (if_neg Bool.false_ne_true).mpr ?_⟩
      exact (if_pos rfl).mpr q
end
end K77

set_option maxRecDepth 100000
set_option maxHeartbeats 4000000
/-! K7Z: narrowed, edited. -/
namespace K77
open PySem PySem.Spec PyProof.Rows L2 KG TL

inductive Ed where
  | repl (s e : Nat) (new : Str)
  | book (r : Str)
  | narrow (t : Str) (f : Fm)
def EdAt (K : PySem.W.Frag) (H : Hp) : Ed → V → Prop
  | .repl s e new, v => ∃ a, v = .ref a ∧ SqT K H a [.str "replace", .int s, .int e, .str new]
  | .book r, v => ∃ a, v = .ref a ∧ SqT K H a [.str "book", .str r]
  | .narrow t _, v => ∃ a, v = .ref a ∧ SqT K H a [.str "narrow", .str t]
theorem EdAt.keep {K : PySem.W.Frag} {H H' : Hp} (t : Tups H H') : ∀ {e : Ed} {v : V}, EdAt K H e v → EdAt K H' e v
  | .repl _ _ _, _, ⟨a, e, h⟩ => ⟨a, e, t.seqT h⟩
  | .book _, _, ⟨a, e, h⟩ => ⟨a, e, t.seqT h⟩
  | .narrow _ _, _, ⟨a, e, h⟩ => ⟨a, e, t.seqT h⟩
inductive EdOk : Ed → Str → Str → List Ln → Str → Str → List Ln → Prop
  | repl {s e : Nat} {new z rl : Str} {ls : List Ln} : s ≤ e → e ≤ z.length → new.length ≤ 6000 → Now (repl z s e new) rl ls → EdOk (.repl s e new) z rl ls (repl z s e new) rl ls
  | book {r z rl : Str} {ls ls' : List Ln} : Now z r ls' → EdOk (.book r) z rl ls z r ls'
  | narrow {t z rl : Str} {f : Fm} {ls : List Ln} : RT t f → f.wt ≤ 240 → (Ln.rule f).ok → (∀ y ∈ f.names, y ∈ swOf ls) → Now z (bookStd (ls ++ [.rule f])) (ls ++ [.rule f]) → EdOk (.narrow t f) z rl ls z (bookStd (ls ++ [.rule f])) (ls ++ [.rule f])
theorem EdOk.now {e : Ed} {z rl z' rl' : Str} {ls ls' : List Ln} (h : EdOk e z rl ls z' rl' ls') : Now z' rl' ls' := by
  cases h with
  | repl _ _ _ n => exact n
  | book n => exact n
  | narrow _ _ _ _ n => exact n
section
variable {P : Program} {w : World} {K : PySem.W.Frag} {mg : Str → Option Value} {base : Heap}
def spNarrowed (K : PySem.W.Frag) : Sp := fun vs H Q _ => ∃ (n : Addr) (z rl t : Str) (f : Fm) (ls : List Ln), vs = [.ref n, .str t] ∧ SqT K H n [.str z, .str rl] ∧ Now z rl ls ∧ RT t f ∧ f.wt ≤ 240 ∧ (Ln.rule f).ok ∧ (∀ y ∈ f.names, y ∈ swOf ls) ∧
  Now z (bookStd (ls ++ [.rule f])) (ls ++ [.rule f]) ∧ ∀ H' p, Same H H' → H p = none → H' p = some (.tup [.str z, .str (bookStd (ls ++ [.rule f]))]) → Q (.ref p) H'
theorem ok_narrowed (T : Tx K mg) : FnQ P w K mg base (L2.CX P w) 23 T.a_narrowed T.f_narrowed ["now", "told"] (spNarrowed K) := by
  refine okQ T.F_narrowed sc_narrowed (fun vs H Q E h => ?_) (fun cdv A outer s0 H vs Q E hr h => ?_)
  · obtain ⟨n, z, rl, t, f, ls, rfl, _⟩ := h
    rfl
  · obtain ⟨n, z, rl, t, f, ls, rfl, hn, N, ⟨hl, ws, hw, hrd⟩, hwt, hfo, hns, N2, q⟩ := h
    obtain ⟨ds, hd, hb⟩ := bind_read_formula T
    refine ⟨_, qss_cons (QS.of (ps_asg (pv 0) (pg_tup rfl (pgs_cons (pg_name (i := 2) sc_narrowed.nd rfl (.inl rfl)) (pgs_cons (pg_name (i := 3) sc_narrowed.nd rfl (.inl rfl)) pgs_nil)))))
      (qss_cons (QS.of (ps_set (i := 4) sc_narrowed.nd rfl (.inl rfl) (pe_call (ok_read_book T) (hr.mono (by decide)) (by rfl) T.m_read_book T.F_read_book.kp T.B_read_book .nil pass0 (pa_cons (pv 3) pa_nil))))
      (qss_cons (QS.of (ps_set (i := 5) sc_narrowed.nd rfl (.inl rfl) (pe_call (ok_read_formula T) (hr.mono (by decide)) (by rfl) T.m_read_formula T.F_read_formula.kp hb hd pass0 (pa_cons (pv 1) pa_nil))))
      (qss_cons (QS.of (ps_for (passes_of rfl) rfl (pi_list (pe_call (ok_formula_names T) (hr.mono (by decide)) (by rfl) T.m_formula_names T.F_formula_names.kp T.B_formula_names .nil pass0 (pa_cons (pv 5) pa_nil))) (pg_name (i := 6) sc_narrowed.nd rfl (.inl rfl)) (pss_one (ps_if (pt_cmpR op_notIn_seq (pv 6) (pe_fld (pv 4) rfl) rfl) (pss_one ps_never) pss_nil))))
      (qss_one (qs_ret (qe_call (ok_checked T) (hr.mono (by decide)) (by rfl) T.m_checked T.F_checked.kp T.B_checked .nil passE (QA.of (pa_cons (pv 2) (pa_cons (pe_meth0 (pe_meth (pv 4) T.C_Book T.M_Book_narrowed (ok_Book_narrowed T) (hr.mono (by decide)) T.B_Book_narrowed .nil pass0 (pa_cons (pv 5) pa_nil)) T.C_Book T.M_Book_text (ok_Book_text T) hr T.B_Book_text .nil pass0) pa_nil))))))))), ?_⟩
    refine ⟨_, rfl, n, _, rfl, hn, rfl, _, _, rfl, _, _, rfl, rfl, ?_⟩
    refine ⟨_, rfl, rl, ls, rfl, N.wr, N.good, N.ne, fun H1 b s1 hb1 => ?_⟩
    refine ⟨_, rfl, t, ws, f, rfl, hl, hw, hrd, fun H2 v s2 hv => ?_⟩
    refine ⟨_, rfl, f, v, rfl, hv, by omega, fun H3 p ys s3 _ ep hy hlen => ⟨p, rfl, ⟨_, .inl (.inl ep)⟩, ?_⟩⟩
    have hb3 := hb1.keep (s2.trans s3)
    obtain ⟨db, tb, u, es, hbx, ht, he, hu⟩ := id hb3
    refine for_list (xs := ys.map V.str) (fun i σ H4 => H4 = H3 ∧ ∃ y6, σ = [some (.ref n), some (.str t), some (.str z), some (.str rl), some (.ref b), some v, y6]) ⟨rfl, none, rfl⟩ (fun i σ H4 _ hP => ?_) (fun i x σ H4 hx hP => ?_) fun σ H4 hP => ?_
    · rw [hP.1]
      exact .inl (.inl ep)
    · obtain ⟨rfl, y6, rfl⟩ := hP
      rw [List.getElem?_map] at hx
      cases e : ys[i]? with
      | none => rw [e] at hx; cases hx
      | some y =>
        rw [e] at hx
        obtain rfl : V.str y = x := Option.some.inj hx
        refine ⟨_, rfl, _, rfl, b, _, db, _, _, rfl, hbx, T.C_Book, T.N_Book_switches, rfl, u, _, rfl, .inr hu, rfl, flat_strs _, false, congrArg V.bl ?_, rfl, _, rfl⟩
        show (!inV (.str y) ((swOf ls).map V.str)) = false
        rw [inV_yes (hns y (hy y (List.mem_of_getElem? e)))]
        rfl
    · obtain ⟨rfl, y6, rfl⟩ := hP
      have hlen : ls.length + 1 ≤ 55 := by
        have := N2.good.few
        rw [List.length_append, List.length_singleton] at this
        exact this
      refine ⟨_, rfl, _, rfl, b, db, _, rfl, hbx, rfl, _, rfl, b, v, f, ls, rfl, hb3, hv.keep (same_tups s3), N.good.ok, hfo, N.good.ne, by omega, fun H5 y s5 hy5 => ?_⟩
      obtain ⟨dy, ty, uy, esy, hyx, _⟩ := id hy5
      refine ⟨y, dy, _, rfl, hyx, rfl, y, _, rfl, hy5, N2.good.ok, by rw [List.length_append, List.length_singleton]; omega, fun H6 s6 => ?_⟩
      have ss := (s1.trans (s2.trans s3)).trans (s5.trans s6)
      exact ⟨z, _, _, rfl, N2, fun H7 p7 s7 n7 e7 => q H7 p7 (ss.trans s7) (Same.free ss n7) e7⟩
/-- ("replace", 1, 0, "") -/
def BadAt (K : PySem.W.Frag) (H : Hp) (v : V) : Prop := ∃ a, v = .ref a ∧ SqT K H a [.str "replace", .int 1, .int 0, .str ""]
/-- ("turn", "if") -/
def TurnAt (K : PySem.W.Frag) (H : Hp) (v : V) : Prop := ∃ a, v = .ref a ∧ SqT K H a [.str "turn", .str "if"]
def spEdited (K : PySem.W.Frag) (cB cU : Value) : Sp := fun vs H Q E => ∃ (n : Addr) (v : V) (z rl : Str) (ls : List Ln), vs = [.ref n, v] ∧ SqT K H n [.str z, .str rl] ∧ Now z rl ls ∧
  ((∃ ed z' rl' ls', EdAt K H ed v ∧ EdOk ed z rl ls z' rl' ls' ∧ ∀ H' p, Same H H' → H p = none → H' p = some (.tup [.str z', .str rl']) → Q (.ref p) H') ∨
    (BadAt K H v ∧ E cB none H) ∨ (TurnAt K H v ∧ ("if" : Str) ∉ swOf ls ∧ ∀ H' d, Same H H' → E cU (some d) H'))
theorem ok_edited (T : Tx K mg) (U : Ux P K mg T) : FnQ P w K mg base (L2.CX P w) 24 T.a_edited T.f_edited ["now", "edit"] (spEdited K (.ref T.A_BadEdit) (.ref T.A_UnknownSwitch)) := by
  refine okQ T.F_edited sc_edited (fun vs H Q E h => ?_) (fun cdv A outer s0 H vs Q E hr h => ?_)
  · obtain ⟨n, v, z, rl, ls, rfl, _⟩ := h
    rfl
  · obtain ⟨n, v, z, rl, ls, rfl, hn, N, h⟩ := h
    refine ⟨_, qss_cons (qs_match rfl (pv 1)
      (.cons (.cons (i := 2) sc_edited.nd rfl (.inl rfl) (.inl rfl) (.cons (i := 3) sc_edited.nd rfl (.inl rfl) (.inl rfl) (.cons (i := 4) sc_edited.nd rfl (.inl rfl) (.inl rfl) .nil)))
        (qss_one (qs_ret (qe_call (ok_replaced T U) (hr.mono (by decide)) (by rfl) T.m_replaced T.F_replaced.kp T.B_replaced .nil passE (QA.of (pa_cons (pv 0) (pa_cons (pv 2) (pa_cons (pv 3) (pa_cons (pv 4) pa_nil))))))))
      (.cons (.cons (i := 5) sc_edited.nd rfl (.inl rfl) (.inl rfl) .nil)
        (qss_one (qs_ret (qe_call (ok_checked T) (hr.mono (by decide)) (by rfl) T.m_checked T.F_checked.kp T.B_checked .nil passE (QA.of (pa_cons (pe_ix ix_tup (pv 0) pe_int (fun _ _ => rfl)) (pa_cons (pv 5) pa_nil))))))
      (.cons (.cons (i := 6) sc_edited.nd rfl (.inl rfl) (.inl rfl) .nil)
        (qss_one (qs_ret (qe_call (ok_narrowed T) hr (by rfl) T.m_narrowed T.F_narrowed.kp T.B_narrowed .nil passE (QA.of (pa_cons (pv 0) (pa_cons (pv 6) pa_nil))))))
      (.cons .nil (QSs.of pss_never)
      (.cons (.cons (i := 7) sc_edited.nd rfl (.inl rfl) (.inl rfl) (.cons (i := 4) sc_edited.nd rfl (.inl rfl) (.inl rfl) .nil)) (QSs.of pss_never)
      (.cons (.cons (i := 8) sc_edited.nd rfl (.inl rfl) (.inl rfl) .nil)
        (qss_one (qs_ret (qe_call (fnq_no (CX := L2.CX P w) (k := 1)) (hr.mono (by decide)) (by rfl) T.m_closed T.F_closed.kp T.B_closed .nil passE
          (qa_cons (qe_call (FnQ.of (ok_turn_switch T U)) (hr.mono (by decide)) (by rfl) T.m_turn_switch T.F_turn_switch.kp T.B_turn_switch .nil passE
            (qa_cons (qe_call (ok_opened T) (hr.mono (by decide)) (by rfl) T.m_opened T.F_opened.kp T.B_opened .nil passE (QA.of (pa_cons (pv 0) pa_nil))) (QA.of (pa_cons (pv 8) pa_nil)))) (QA.of pa_nil)))))
      (.cons (.cons (i := 8) sc_edited.nd rfl (.inl rfl) (.inl rfl) (.cons (i := 9) sc_edited.nd rfl (.inl rfl) (.inl rfl) .nil)) (QSs.of pss_never) .nil)))))))) (QSs.of pss_never), ?_⟩
    have ne2 : ∀ {a b : Str} {n m : Nat} {xs : List V}, a ≠ b → ¬ (xs.length = n ∧ (V.str a :: xs).head? = some (V.str b)) := fun h e => h (V.str.inj (Option.some.inj e.2))
    rcases h with ⟨ed, z', rl', ls', hed, ho, q⟩ | ⟨⟨a, rfl, ha⟩, q⟩ | ⟨⟨a, rfl, ha⟩, hif, q⟩
    · cases ho with
      | @repl s e new _ _ _ h1 h2 h3 h4 =>
        obtain ⟨a, rfl, ha⟩ := hed
        refine ⟨_, rfl, a, _, _, rfl, ha, ?_⟩
        refine (if_pos ⟨rfl, rfl⟩).mpr ?_
        exact ⟨_, rfl, _, rfl, _, rfl, _, rfl, n, z, rl, s, e, new, rfl, hn, N.few, .inl ⟨h1, h2, h3, ⟨_, h4⟩, q⟩⟩
      | @book _ _ _ _ _ h4 =>
        obtain ⟨a, rfl, ha⟩ := hed
        refine ⟨_, rfl, a, _, _, rfl, ha, ?_⟩
        refine (if_neg (fun e => by cases e.1)).mpr ?_
        refine (if_pos ⟨rfl, rfl⟩).mpr ?_
        exact ⟨_, rfl, n, _, 0, _, rfl, rfl, hn, atI_nat (j := 0) rfl, _, rfl, z, _, _, rfl, h4, q⟩
      | @narrow t _ _ f _ h1 h2 h3 h4 h5 =>
        obtain ⟨a, rfl, ha⟩ := hed
        refine ⟨_, rfl, a, _, _, rfl, ha, ?_⟩
        refine (if_neg (fun e => by cases e.1)).mpr ?_
        refine (if_neg (fun e => absurd (V.str.inj (Option.some.inj e.2)) (show ("narrow" : Str) ≠ "book" by decide +kernel))).mpr ?_
        refine (if_pos ⟨rfl, rfl⟩).mpr ?_
        exact ⟨_, rfl, _, rfl, n, z, rl, t, f, ls, rfl, hn, N, h1, h2, h3, h4, h5, q⟩
    · refine ⟨_, rfl, a, _, _, rfl, ha, ?_⟩
      refine (if_pos ⟨rfl, rfl⟩).mpr ?_
      exact ⟨_, rfl, _, rfl, _, rfl, _, rfl, n, z, rl, 1, 0, "", rfl, hn, N.few, .inr ⟨rfl, rfl, q⟩⟩
    · refine ⟨_, rfl, a, _, _, rfl, ha, ?_⟩
      refine (if_neg (fun e => by cases e.1)).mpr ?_
      refine (if_neg (fun e => absurd (V.str.inj (Option.some.inj e.2)) (show ("turn" : Str) ≠ "book" by decide +kernel))).mpr ?_
      refine (if_neg (fun e => absurd (V.str.inj (Option.some.inj e.2)) (show ("turn" : Str) ≠ "narrow" by decide +kernel))).mpr ?_
      refine (if_neg (fun e => by cases e.1)).mpr ?_
      refine (if_neg (fun e => by cases e.1)).mpr ?_
      refine (if_pos ⟨rfl, rfl⟩).mpr ?_
      refine ⟨_, rfl, n, z, rl, ls, rfl, hn, N, fun H1 x b s1 hx hb => ?_⟩
      exact ⟨_, rfl, x, b, "if", ls, rfl, hx, hb, hif, fun H2 d s2 => q H2 d (s1.trans s2)⟩
end
end K77

set_option maxRecDepth 100000
set_option maxHeartbeats 4000000
/-! K8A: Desk. -/
namespace K77
open PySem PySem.Spec PyProof.Rows L2 KG TL

abbrev dk (n pa fu : Addr) : List (Str × V) := [("_now", .ref n), ("_past", .ref pa), ("_future", .ref fu), ("_road", .non)]
structure DeskAt (C : Addr) (H : Hp) (x n pa fu : Addr) (ps fs : List V) : Prop where
  at_ : ∃ dx, H x = some (.ins C dx (dk n pa fu))
  past : H pa = some (.lst ps)
  fut : H fu = some (.lst fs)
  ne : pa ≠ fu
/-- all but some stand -/
def Oth (L : List Addr) (H H' : Hp) : Prop := ∀ b o, b ∉ L → H b = some o → H' b = some o
theorem same_oth {L : List Addr} {H H' : Hp} (s : Same H H') : Oth L H H' := fun b o _ e => s b o e
theorem Oth.trans {L : List Addr} {H H1 H2 : Hp} (a : Oth L H H1) (b : Oth L H1 H2) : Oth L H H2 := fun c o n e => b c o n (a c o n e)
theorem Oth.mono {L M : List Addr} {H H' : Hp} (a : Oth L H H') (h : ∀ b ∈ L, b ∈ M) : Oth M H H' := fun c o n e => a c o (fun z => n (h c z)) e
theorem oth_upd {L : List Addr} {H : Hp} {m : Addr} {o : HO} (h : m ∈ L) : Oth L H (upd H m o) := fun b x n e => (upd_ne (fun z => n (by rw [z]; exact h))).trans e
/-- no list and no instance: a tuple is not among these -/
theorem Oth.tups {L : List Addr} {H H' : Hp} (a : Oth L H H') (h : ∀ b ∈ L, (∀ xs, H b ≠ some (.tup xs)) ∧ ∀ o xs, H b ≠ some (.frz o (.tup xs))) : Tups H H' := fun b xs e => by
  rcases e with e | ⟨o, e⟩
  · exact .inl (a _ _ (fun z => (h b z).1 _ e) e)
  · exact .inr ⟨o, a _ _ (fun z => (h b z).2 _ _ e) e⟩
section
variable {P : Program} {w : World} {K : PySem.W.Frag} {mg : Str → Option Value} {base : Heap}
def spTurnTo (C : Addr) : Sp := fun vs H Q _ => ∃ (x dx n p pa fu : Addr), vs = [.ref x, .ref p] ∧ H x = some (.ins C dx (dk n pa fu)) ∧ ∀ H', But x H H' → H' x = some (.ins C dx (dk p pa fu)) → Q .non H'
theorem ok_Desk_turn_to (T : Tx K mg) : FnOk P w K mg base CX0 1 T.a_Desk_turn_to T.f_Desk_turn_to ["self", "now"] (spTurnTo T.A_Desk) := by
  refine T.F_Desk_turn_to.ok sc_Desk_turn_to (fun vs H Q E h => ?_) (fun cdv A outer s0 H vs Q E hr h => ?_)
  · obtain ⟨x, dx, n, p, pa, fu, rfl, _⟩ := h
    rfl
  · obtain ⟨x, dx, n, p, pa, fu, rfl, hx, q⟩ := h
    refine ⟨_, pss_cons (ps_fld (pv 0) (pv 1) rfl) (pss_one (ps_fld (pv 0) pe_non rfl)), ?_⟩
    refine ⟨_, rfl, _, rfl, x, _, dx, _, rfl, hx, T.C_Desk, T.N_Desk_now, by show 4 < 1000; decide, ?_⟩
    rw [show putF "_now" (.ref p) (dk n pa fu) = dk p pa fu from rfl]
    refine ⟨_, rfl, x, _, dx, _, rfl, upd_same, T.C_Desk, T.N_Desk_road, by show 4 < 1000; decide, ?_⟩
    rw [show putF "_road" .non (dk p pa fu) = dk p pa fu from rfl]
    exact q _ (but_upd.trans but_upd) upd_same
def spUndo (C : Addr) (back : Bool) : Sp := fun vs H Q _ => ∃ (x n pa fu : Addr) (ps fs : List V), vs = [.ref x] ∧ DeskAt C H x n pa fu ps fs ∧ ps.length ≤ 1000 ∧ fs.length ≤ 1000 ∧
  (if back then (ps = [] ∧ Q (.bl false) H) ∨ ∃ ps0 m, ps = ps0 ++ [.ref m] ∧ ∀ H', Oth [x, pa, fu] H H' → DeskAt C H' x m pa fu ps0 (fs ++ [.ref n]) → Q (.bl true) H'
    else (fs = [] ∧ Q (.bl false) H) ∨ ∃ fs0 m, fs = fs0 ++ [.ref m] ∧ ∀ H', Oth [x, pa, fu] H H' → DeskAt C H' x m pa fu (ps ++ [.ref n]) fs0 → Q (.bl true) H')
theorem ok_Desk_undo (T : Tx K mg) : FnOk P w K mg base CX0 2 T.a_Desk_undo T.f_Desk_undo ["self"] (spUndo T.A_Desk true) := by
  refine T.F_Desk_undo.ok sc_Desk_undo (fun vs H Q E h => ?_) (fun cdv A outer s0 H vs Q E hr h => ?_)
  · obtain ⟨x, n, pa, fu, ps, fs, rfl, _⟩ := h
    rfl
  · obtain ⟨x, n, pa, fu, ps, fs, rfl, ⟨⟨dx, hx⟩, hp, hf, ne⟩, lp, lf, h⟩ := h
    refine ⟨_, (pss_cons (ps_if (pt_not (pt_truth (pe_fld (pv 0) rfl) (by intro _; rfl))) (pss_one (ps_ret pe_bl)) pss_nil)
  (pss_cons (ps_expr (pe_bm PySem.F.plainAttrs_list PySem.F.slot_list_append PySem.F.type_list_append mt_append (pe_fld (pv 0) rfl) (pa_cons (pe_fld (pv 0) rfl) pa_nil)))
  (pss_cons (ps_expr (pe_meth (pv 0) T.C_Desk T.M_Desk_turn_to (ok_Desk_turn_to T) hr T.B_Desk_turn_to .nil pass0 (pa_cons (pe_bm0 PySem.F.plainAttrs_list PySem.F.slot_list_pop PySem.F.type_list_pop mt_pop (pe_fld (pv 0) rfl)) pa_nil))) (pss_one (ps_ret pe_bl))))), ?_⟩
    have npx : x ≠ pa := ne_of hx hp (by intro z; cases z)
    have nfx : x ≠ fu := ne_of hx hf (by intro z; cases z)
    rcases (show _ ∨ _ from h) with ⟨rfl, q⟩ | ⟨ps0, m, rfl, q⟩
    · exact ⟨_, rfl, x, _, dx, _, _, rfl, hx, T.C_Desk, T.N_Desk_past, rfl, false, .inl ⟨_, .inl (.inl hp), rfl⟩, (if_pos rfl).mpr q⟩
    · have e1 : (ps0 ++ [V.ref m]).isEmpty = false := by simp
      refine ⟨_, rfl, x, _, dx, _, _, rfl, hx, T.C_Desk, T.N_Desk_past, rfl, true, .inl ⟨_, .inl (.inl hp), by rw [e1]; rfl⟩, (if_neg Bool.false_ne_true).mpr ?_⟩
      refine ⟨_, rfl, x, _, dx, _, _, rfl, hx, T.C_Desk, T.N_Desk_future, rfl, .inl ⟨rfl, _, .inl (.inl hf)⟩, _, rfl, x, _, dx, _, _, rfl, hx, T.C_Desk, T.N_Desk_now, rfl, fu, _, _, rfl, rfl, hf, small1000 lf, ?_⟩
      have hx1 : (upd H fu (.lst (fs ++ [.ref n]))) x = some (.ins T.A_Desk dx (dk n pa fu)) := (upd_ne nfx).trans hx
      have hp1 : (upd H fu (.lst (fs ++ [.ref n]))) pa = some (.lst (ps0 ++ [.ref m])) := (upd_ne ne).trans hp
      refine ⟨_, rfl, x, dx, _, rfl, hx1, rfl, _, rfl, x, _, dx, _, _, rfl, hx1, T.C_Desk, T.N_Desk_past, rfl, .inl ⟨rfl, _, .inl (.inl hp1)⟩, pa, _, _, rfl, rfl, hp1, last_of, ?_⟩
      rw [List.dropLast_concat]
      refine ⟨x, dx, n, m, pa, fu, rfl, (upd_ne npx).trans hx1, fun H' b' hx' => ?_⟩
      refine q H' (fun b o nb e => ?_) ⟨⟨dx, hx'⟩, b' _ _ npx.symm upd_same, b' _ _ nfx.symm ((upd_ne ne.symm).trans upd_same), ne⟩
      have n1 : b ≠ x := fun z => nb (by rw [z]; simp)
      have n2 : b ≠ pa := fun z => nb (by rw [z]; simp)
      have n3 : b ≠ fu := fun z => nb (by rw [z]; simp)
      exact b' _ _ n1 ((upd_ne n2).trans ((upd_ne n3).trans e))
theorem ok_Desk_redo (T : Tx K mg) : FnOk P w K mg base CX0 2 T.a_Desk_redo T.f_Desk_redo ["self"] (spUndo T.A_Desk false) := by
  refine T.F_Desk_redo.ok sc_Desk_redo (fun vs H Q E h => ?_) (fun cdv A outer s0 H vs Q E hr h => ?_)
  · obtain ⟨x, n, pa, fu, ps, fs, rfl, _⟩ := h
    rfl
  · obtain ⟨x, n, pa, fu, ps, fs, rfl, ⟨⟨dx, hx⟩, hp, hf, ne⟩, lp, lf, h⟩ := h
    refine ⟨_, (pss_cons (ps_if (pt_not (pt_truth (pe_fld (pv 0) rfl) (by intro _; rfl))) (pss_one (ps_ret pe_bl)) pss_nil)
  (pss_cons (ps_expr (pe_bm PySem.F.plainAttrs_list PySem.F.slot_list_append PySem.F.type_list_append mt_append (pe_fld (pv 0) rfl) (pa_cons (pe_fld (pv 0) rfl) pa_nil)))
  (pss_cons (ps_expr (pe_meth (pv 0) T.C_Desk T.M_Desk_turn_to (ok_Desk_turn_to T) hr T.B_Desk_turn_to .nil pass0 (pa_cons (pe_bm0 PySem.F.plainAttrs_list PySem.F.slot_list_pop PySem.F.type_list_pop mt_pop (pe_fld (pv 0) rfl)) pa_nil))) (pss_one (ps_ret pe_bl))))), ?_⟩
    have npx : x ≠ pa := ne_of hx hp (by intro z; cases z)
    have nfx : x ≠ fu := ne_of hx hf (by intro z; cases z)
    rcases (show _ ∨ _ from h) with ⟨rfl, q⟩ | ⟨fs0, m, rfl, q⟩
    · exact ⟨_, rfl, x, _, dx, _, _, rfl, hx, T.C_Desk, T.N_Desk_future, rfl, false, .inl ⟨_, .inl (.inl hf), rfl⟩, (if_pos rfl).mpr q⟩
    · have e1 : (fs0 ++ [V.ref m]).isEmpty = false := by simp
      refine ⟨_, rfl, x, _, dx, _, _, rfl, hx, T.C_Desk, T.N_Desk_future, rfl, true, .inl ⟨_, .inl (.inl hf), by rw [e1]; rfl⟩, (if_neg Bool.false_ne_true).mpr ?_⟩
      refine ⟨_, rfl, x, _, dx, _, _, rfl, hx, T.C_Desk, T.N_Desk_past, rfl, .inl ⟨rfl, _, .inl (.inl hp)⟩, _, rfl, x, _, dx, _, _, rfl, hx, T.C_Desk, T.N_Desk_now, rfl, pa, _, _, rfl, rfl, hp, small1000 lp, ?_⟩
      have hx1 : (upd H pa (.lst (ps ++ [.ref n]))) x = some (.ins T.A_Desk dx (dk n pa fu)) := (upd_ne npx).trans hx
      have hf1 : (upd H pa (.lst (ps ++ [.ref n]))) fu = some (.lst (fs0 ++ [.ref m])) := (upd_ne ne.symm).trans hf
      refine ⟨_, rfl, x, dx, _, rfl, hx1, rfl, _, rfl, x, _, dx, _, _, rfl, hx1, T.C_Desk, T.N_Desk_future, rfl, .inl ⟨rfl, _, .inl (.inl hf1)⟩, fu, _, _, rfl, rfl, hf1, last_of, ?_⟩
      rw [List.dropLast_concat]
      refine ⟨x, dx, n, m, pa, fu, rfl, (upd_ne nfx).trans hx1, fun H' b' hx' => ?_⟩
      refine q H' (fun b o nb e => ?_) ⟨⟨dx, hx'⟩, b' _ _ npx.symm ((upd_ne ne).trans upd_same), b' _ _ nfx.symm upd_same, ne⟩
      have n1 : b ≠ x := fun z => nb (by rw [z]; simp)
      have n2 : b ≠ pa := fun z => nb (by rw [z]; simp)
      have n3 : b ≠ fu := fun z => nb (by rw [z]; simp)
      exact b' _ _ n1 ((upd_ne n3).trans ((upd_ne n2).trans e))
def spSteps (C : Addr) : Sp := fun vs H Q _ => ∃ (x n pa fu : Addr) (ps fs : List V), vs = [.ref x] ∧ DeskAt C H x n pa fu ps fs ∧ ∀ p, H p = none → Q (.ref p) (upd H p (.tup [.int (ps.length : Nat), .int (fs.length : Nat)]))
theorem ok_Desk_steps (T : Tx K mg) : FnOk P w K mg base CX0 1 T.a_Desk_steps T.f_Desk_steps ["self"] (spSteps T.A_Desk) := by
  refine T.F_Desk_steps.ok sc_Desk_steps (fun vs H Q E h => ?_) (fun cdv A outer s0 H vs Q E hr h => ?_)
  · obtain ⟨x, n, pa, fu, ps, fs, rfl, _⟩ := h
    rfl
  · obtain ⟨x, n, pa, fu, ps, fs, rfl, ⟨⟨dx, hx⟩, hp, hf, ne⟩, q⟩ := h
    refine ⟨_, (pss_one (ps_ret (pe_tup (pa_cons (pe_callB call_len_seq (by rfl) T.b_len (by decide +kernel) (pa_cons (pe_fld (pv 0) rfl) pa_nil)) (pa_cons (pe_callB call_len_seq (by rfl) T.b_len (by decide +kernel) (pa_cons (pe_fld (pv 0) rfl) pa_nil)) pa_nil))))), ?_⟩
    refine ⟨_, rfl, x, _, dx, _, _, rfl, hx, T.C_Desk, T.N_Desk_past, rfl, pa, ps, rfl, .inl (.inl (.inl hp)), ?_⟩
    exact ⟨_, rfl, x, _, dx, _, _, rfl, hx, T.C_Desk, T.N_Desk_future, rfl, fu, fs, rfl, .inl (.inl (.inl hf)), by show 2 ≤ sizeLine; decide, q⟩
def spField (K : PySem.W.Frag) (C : Addr) (first : Bool) : Sp := fun vs H Q _ => ∃ (x n pa fu : Addr) (ps fs : List V) (z rl : Str), vs = [.ref x] ∧ DeskAt C H x n pa fu ps fs ∧ SqT K H n [.str z, .str rl] ∧ Q (.str (if first then z else rl)) H
theorem ok_Desk_source (T : Tx K mg) : FnOk P w K mg base CX0 1 T.a_Desk_source T.f_Desk_source ["self"] (spField K T.A_Desk true) := by
  refine T.F_Desk_source.ok sc_Desk_source (fun vs H Q E h => ?_) (fun cdv A outer s0 H vs Q E hr h => ?_)
  · obtain ⟨x, n, pa, fu, ps, fs, z, rl, rfl, _⟩ := h
    rfl
  · obtain ⟨x, n, pa, fu, ps, fs, z, rl, rfl, ⟨⟨dx, hx⟩, hp, hf, ne⟩, hn, q⟩ := h
    exact ⟨_, (pss_one (ps_ret (pe_ix ix_tup (pe_fld (pv 0) rfl) pe_int (fun _ _ => rfl)))), _, rfl, x, _, dx, _, _, rfl, hx, T.C_Desk, T.N_Desk_now, rfl, n, _, 0, _, rfl, rfl, hn, atI_nat (j := 0) rfl, q⟩
theorem ok_Desk_rulebook (T : Tx K mg) : FnOk P w K mg base CX0 1 T.a_Desk_rulebook T.f_Desk_rulebook ["self"] (spField K T.A_Desk false) := by
  refine T.F_Desk_rulebook.ok sc_Desk_rulebook (fun vs H Q E h => ?_) (fun cdv A outer s0 H vs Q E hr h => ?_)
  · obtain ⟨x, n, pa, fu, ps, fs, z, rl, rfl, _⟩ := h
    rfl
  · obtain ⟨x, n, pa, fu, ps, fs, z, rl, rfl, ⟨⟨dx, hx⟩, hp, hf, ne⟩, hn, q⟩ := h
    exact ⟨_, (pss_one (ps_ret (pe_ix ix_tup (pe_fld (pv 0) rfl) pe_int (fun _ _ => rfl)))), _, rfl, x, _, dx, _, _, rfl, hx, T.C_Desk, T.N_Desk_now, rfl, n, _, 1, _, rfl, rfl, hn, atI_nat (j := 1) rfl, q⟩
end
end K77

set_option maxRecDepth 100000
set_option maxHeartbeats 4000000
/-! K8B: Desk: steps of edits. -/
namespace K77
open PySem PySem.Spec PyProof.Rows L2 KG TL

inductive Out where
  | ok (z rl : Str) (ls : List Ln)
  | bad
  | unk
/-- where a list of edits leads -/
inductive Path (K : PySem.W.Frag) (H : Hp) : List V → Str → Str → List Ln → Out → Prop
  | nil {z rl : Str} {ls : List Ln} : Path K H [] z rl ls (.ok z rl ls)
  | bad {v : V} {z rl : Str} {ls : List Ln} : BadAt K H v → Path K H [v] z rl ls .bad
  | unk {v : V} {z rl : Str} {ls : List Ln} : TurnAt K H v → ("if" : Str) ∉ swOf ls → Path K H [v] z rl ls .unk
  | cons {v : V} {vs : List V} {e : Ed} {z rl z1 rl1 : Str} {ls ls1 : List Ln} {o : Out} : EdAt K H e v → EdOk e z rl ls z1 rl1 ls1 → Path K H vs z1 rl1 ls1 o → Path K H (v :: vs) z rl ls o
theorem Path.keep {K : PySem.W.Frag} {H H' : Hp} {vs : List V} {z rl : Str} {ls : List Ln} {o : Out} (t : Tups H H') (p : Path K H vs z rl ls o) : Path K H' vs z rl ls o := by
  induction p with
  | nil => exact .nil
  | bad h => exact .bad (let ⟨a, e, q⟩ := h; ⟨a, e, t.seqT q⟩)
  | unk h n => exact .unk (let ⟨a, e, q⟩ := h; ⟨a, e, t.seqT q⟩) n
  | cons h o _ ih => exact .cons (h.keep t) o ih
def Want (K : PySem.W.Frag) (cB cU : Value) (H : Hp) (E : XK) (ok : Str → Str → List Ln → Prop) : Out → Prop
  | .ok z rl ls => ok z rl ls
  | .bad => ∀ H', Same H H' → E cB none H'
  | .unk => ∀ H' d, Same H H' → E cU (some d) H'
section
variable {P : Program} {w : World} {K : PySem.W.Frag} {mg : Str → Option Value} {base : Heap}
def spBehind (K : PySem.W.Frag) (C : Addr) (cB cU : Value) : Sp := fun vs H Q E => ∃ (x n pa fu l : Addr) (ps fs es : List V) (z rl : Str) (ls : List Ln) (o : Out), vs = [.ref x, .ref l] ∧ DeskAt C H x n pa fu ps fs ∧ SqT K H n [.str z, .str rl] ∧ Now z rl ls ∧
  SqL K H l es ∧ Path K H es z rl ls o ∧ Want K cB cU H E (fun z' rl' ls' => ∀ H' p, Same H H' → SqT K H' p [.str z', .str rl'] → Q (.ref p) H') o
theorem ok_Desk_behind (T : Tx K mg) (U : Ux P K mg T) : FnQ P w K mg base (L2.CX P w) 25 T.a_Desk_behind T.f_Desk_behind ["self", "edits"] (spBehind K T.A_Desk (.ref T.A_BadEdit) (.ref T.A_UnknownSwitch)) := by
  refine okQ T.F_Desk_behind sc_Desk_behind (fun vs H Q E h => ?_) (fun cdv A outer s0 H vs Q E hr h => ?_)
  · obtain ⟨x, n, pa, fu, l, ps, fs, es, z, rl, ls, o, rfl, _⟩ := h
    rfl
  · obtain ⟨x, n, pa, fu, l, ps, fs, es, z, rl, ls, o, rfl, ⟨⟨dx, hx⟩, hp, hf, ne⟩, hn, N, hl, hpath, hw⟩ := h
    refine ⟨_, qss_cons (QS.of (ps_set (i := 2) sc_Desk_behind.nd rfl (.inl rfl) (pe_fld (pv 0) rfl)))
      (qss_cons (qs_for (passes_of rfl) rfl (pi_list (pv 1)) (pg_name (i := 3) sc_Desk_behind.nd rfl (.inl rfl)) (qss_one (qs_set (i := 2) sc_Desk_behind.nd rfl (.inl rfl) (qe_call (ok_edited T U) hr (by rfl) T.m_edited T.F_edited.kp T.B_edited .nil passE (QA.of (pa_cons (pv 2) (pa_cons (pv 3) pa_nil)))))))
      (qss_one (QS.of (ps_ret (pv 2))))), ?_⟩
    refine ⟨_, rfl, x, _, dx, _, _, rfl, hx, T.C_Desk, T.N_Desk_now, rfl, ?_⟩
    refine ⟨_, rfl, l, rfl, ⟨_, hl⟩, ?_⟩
    refine for_list (xs := es) (fun i σ H' => Same H H' ∧ ∃ p y3 z1 rl1 ls1, σ = [some (.ref x), some (.ref l), some (.ref p), y3] ∧ SqT K H' p [.str z1, .str rl1] ∧ Now z1 rl1 ls1 ∧ Path K H (es.drop i) z1 rl1 ls1 o) ⟨Same.refl H, n, none, z, rl, ls, rfl, hn, N, by rw [List.drop_zero]; exact hpath⟩
      (fun i σ H' _ hP => hP.1.seq hl) (fun i v σ H' hv hP => ?_) fun σ H' hP => ?_
    · obtain ⟨sm, p, y3, z1, rl1, ls1, rfl, hp1, N1, pt⟩ := hP
      have hlt : i < es.length := (List.getElem?_eq_some_iff.mp hv).1
      rw [List.drop_eq_getElem_cons hlt, (List.getElem?_eq_some_iff.mp hv).2] at pt
      generalize er : es.drop (i + 1) = rest at pt
      have ts := same_tups sm
      refine ⟨_, rfl, _, rfl, p, v, z1, rl1, ls1, rfl, hp1, N1, ?_⟩
      cases pt with
      | bad hb => exact .inr (.inl ⟨let ⟨a, e, q⟩ := hb; ⟨a, e, ts.seqT q⟩, hw H' sm⟩)
      | unk hb hif => exact .inr (.inr ⟨let ⟨a, e, q⟩ := hb; ⟨a, e, ts.seqT q⟩, hif, fun H2 d s2 => hw H2 d (sm.trans s2)⟩)
      | @cons _ _ ed _ _ z2 rl2 _ ls2 _ hed ho hrest =>
        exact .inl ⟨ed, z2, rl2, ls2, hed.keep ts, ho, fun H2 p2 s2 _ e2 => ⟨sm.trans s2, p2, _, z2, rl2, ls2, rfl, .inl (.inl e2), ho.now, hrest⟩⟩
    · obtain ⟨sm, p, y3, z1, rl1, ls1, rfl, hp1, N1, pt⟩ := hP
      rw [List.drop_length] at pt
      cases pt
      exact ⟨_, rfl, hw H' p sm hp1⟩
def spApply (K : PySem.W.Frag) (C : Addr) (cB cU : Value) : Sp := fun vs H Q E => ∃ (x n pa fu l : Addr) (ps fs es : List V) (z rl : Str) (ls : List Ln) (o : Out), vs = [.ref x, .ref l] ∧ DeskAt C H x n pa fu ps fs ∧ ps.length ≤ 1000 ∧ SqT K H n [.str z, .str rl] ∧ Now z rl ls ∧
  SqL K H l es ∧ Path K H es z rl ls o ∧
  Want K cB cU H E (fun z' rl' ls' => ∀ H' p fu', Oth [x, pa] H H' → H fu' = none → DeskAt C H' x p pa fu' (ps ++ [.ref n]) [] → SqT K H' p [.str z', .str rl'] → Q .non H') o
theorem ok_Desk_apply (T : Tx K mg) (U : Ux P K mg T) : FnQ P w K mg base (L2.CX P w) 26 T.a_Desk_apply T.f_Desk_apply ["self", "edits"] (spApply K T.A_Desk (.ref T.A_BadEdit) (.ref T.A_UnknownSwitch)) := by
  refine okQ T.F_Desk_apply sc_Desk_apply (fun vs H Q E h => ?_) (fun cdv A outer s0 H vs Q E hr h => ?_)
  · obtain ⟨x, n, pa, fu, l, ps, fs, es, z, rl, ls, o, rfl, _⟩ := h
    rfl
  · obtain ⟨x, n, pa, fu, l, ps, fs, es, z, rl, ls, o, rfl, hd, lp, hn, N, hl, hpath, hw⟩ := h
    refine ⟨_, qss_cons (qs_set (i := 2) sc_Desk_apply.nd rfl (.inl rfl) (qe_meth (pv 0) T.C_Desk T.M_Desk_behind (ok_Desk_behind T U) hr T.B_Desk_behind .nil passE (QA.of (pa_cons (pv 1) pa_nil))))
      (QSs.of (pss_cons (ps_expr (pe_bm PySem.F.plainAttrs_list PySem.F.slot_list_append PySem.F.type_list_append mt_append (pe_fld (pv 0) rfl) (pa_cons (pe_fld (pv 0) rfl) pa_nil)))
  (pss_cons (ps_fld (pv 0) (pe_lst pa_nil) rfl) (pss_one (ps_expr (pe_meth (pv 0) T.C_Desk T.M_Desk_turn_to (ok_Desk_turn_to T) (hr.mono (by decide)) T.B_Desk_turn_to .nil pass0 (pa_cons (pv 2) pa_nil))))))), ?_⟩
    obtain ⟨⟨dx, hx⟩, hp, hf, ne⟩ := id hd
    have npx : x ≠ pa := ne_of hx hp (by intro z; cases z)
    refine ⟨_, rfl, x, dx, _, rfl, hx, rfl, _, rfl, x, n, pa, fu, l, ps, fs, es, z, rl, ls, o, rfl, hd, hn, N, hl, hpath, ?_⟩
    cases o with
    | bad => exact hw
    | unk => exact hw
    | ok z' rl' ls' =>
      intro H1 p s1 hp1
      have hx1 := s1 _ _ hx
      have hpa1 := s1 _ _ hp
      refine ⟨_, rfl, x, _, dx, _, _, rfl, hx1, T.C_Desk, T.N_Desk_past, rfl, .inl ⟨rfl, _, .inl (.inl hpa1)⟩, _, rfl, x, _, dx, _, _, rfl, hx1, T.C_Desk, T.N_Desk_now, rfl, pa, _, _, rfl, rfl, hpa1, small1000 lp, ?_⟩
      refine ⟨Nat.zero_le _, fun fu' nf => ?_⟩
      have s2 := same_upd (o := .lst []) nf
      have hx2 : (upd (upd H1 pa (.lst (ps ++ [.ref n]))) fu' (.lst [])) x = some (.ins T.A_Desk dx (dk n pa fu)) := s2 _ _ ((upd_ne npx).trans hx1)
      refine ⟨_, rfl, x, _, dx, _, rfl, hx2, T.C_Desk, T.N_Desk_future, by show 4 < 1000; decide, ?_⟩
      rw [show putF "_future" (.ref fu') (dk n pa fu) = dk n pa fu' from rfl]
      have nfp : fu' ≠ pa := fun z => by
        rw [z, upd_same] at nf
        cases nf
      have nfx : fu' ≠ x := fun z => by
        rw [z, upd_ne npx, hx1] at nf
        cases nf
      refine ⟨_, rfl, x, dx, _, rfl, upd_same, rfl, _, rfl, x, dx, n, p, pa, fu', rfl, upd_same, fun H3 b3 hx3 => ?_⟩
      have up : ∀ b o, b ≠ x → b ≠ pa → H1 b = some o → H3 b = some o := fun b o n1 n2 e => b3 _ _ n1 ((upd_ne n1).trans (s2 _ _ ((upd_ne n2).trans e)))
      have tu : Tups H1 H3 := fun b xs e => by
        rcases e with e | ⟨o, e⟩
        · exact .inl (up _ _ (ne_of e hx1 (by intro z; cases z)) (ne_of e hpa1 (by intro z; cases z)) e)
        · exact .inr ⟨o, up _ _ (ne_of e hx1 (by intro z; cases z)) (ne_of e hpa1 (by intro z; cases z)) e⟩
      refine hw H3 p fu' (fun b o nb e => up b o (fun z => nb (by rw [z]; simp)) (fun z => nb (by rw [z]; simp)) (s1 _ _ e)) ?_ ⟨⟨dx, hx3⟩, b3 _ _ npx.symm ((upd_ne npx.symm).trans (s2 _ _ upd_same)), b3 _ _ nfx ((upd_ne nfx).trans upd_same), nfp.symm⟩ (tu.seqT hp1)
      rw [upd_ne nfp] at nf
      exact Same.free s1 nf
/-- one edit, in a list made for it -/
def spOne (K : PySem.W.Frag) (C : Addr) (mk : List V → Ed → Prop) : Sp := fun vs H Q _ => ∃ (x n pa fu : Addr) (us ps fs : List V) (e : Ed) (z rl z' rl' : Str) (ls ls' : List Ln), vs = .ref x :: us ∧ mk us e ∧ DeskAt C H x n pa fu ps fs ∧ ps.length ≤ 1000 ∧ SqT K H n [.str z, .str rl] ∧ Now z rl ls ∧
  EdOk e z rl ls z' rl' ls' ∧ ∀ H' p fu', Oth [x, pa] H H' → H fu' = none → DeskAt C H' x p pa fu' (ps ++ [.ref n]) [] → SqT K H' p [.str z', .str rl'] → Q .non H'
def mkRepl (us : List V) (e : Ed) : Prop := ∃ s t new, us = [.int (s : Nat), .int (t : Nat), .str new] ∧ e = .repl s t new
def mkBook (us : List V) (e : Ed) : Prop := ∃ r, us = [.str r] ∧ e = .book r
theorem ok_Desk_replace (T : Tx K mg) (U : Ux P K mg T) : FnQ P w K mg base (L2.CX P w) 27 T.a_Desk_replace T.f_Desk_replace ["self", "start", "end", "new"] (spOne K T.A_Desk mkRepl) := by
  refine okQ T.F_Desk_replace sc_Desk_replace (fun vs H Q E h => ?_) (fun cdv A outer s0 H vs Q E hr h => ?_)
  · obtain ⟨x, n, pa, fu, us, ps, fs, e, z, rl, z', rl', ls, ls', rfl, ⟨s, t, new, rfl, _⟩, _⟩ := h
    rfl
  · obtain ⟨x, n, pa, fu, us, ps, fs, e, z, rl, z', rl', ls, ls', rfl, ⟨s, t, new, rfl, rfl⟩, hd, lp, hn, N, ho, q⟩ := h
    refine ⟨_, qss_one (qs_expr (qe_meth (pv 0) T.C_Desk T.M_Desk_apply (ok_Desk_apply T U) hr T.B_Desk_apply .nil passE (QA.of (pa_cons (pe_lst (pa_cons (pe_tup (pa_cons pe_str (pa_cons (pv 1) (pa_cons (pv 2) (pa_cons (pv 3) pa_nil))))) pa_nil)) pa_nil)))), ?_⟩
    obtain ⟨⟨dx, hx⟩, hp, hf, ne⟩ := id hd
    refine ⟨_, rfl, x, dx, _, rfl, hx, rfl, _, rfl, _, rfl, _, rfl, by show 4 ≤ sizeLine; decide, fun a na => ⟨by show 1 ≤ sizeLine; decide, fun l nl => ?_⟩⟩
    have s1 := same_upd (o := .tup [.str "replace", .int s, .int t, .str new]) na
    have s2 := same_upd (o := .lst [.ref a]) nl
    have ss := s1.trans s2
    refine ⟨x, n, pa, fu, l, ps, fs, [.ref a], z, rl, ls, .ok z' rl' ls', rfl, ⟨⟨dx, ss _ _ hx⟩, ss _ _ hp, ss _ _ hf, ne⟩, lp, same_seqT ss hn, N, .inl (.inl upd_same), .cons (e := .repl s t new) ⟨a, rfl, .inl (.inl (s2 _ _ upd_same))⟩ ho .nil, fun H' p fu' o nf hd' hp' => ?_⟩
    exact q H' p fu' ((same_oth ss).trans o) (Same.free ss nf) hd' hp'
theorem ok_Desk_change_book (T : Tx K mg) (U : Ux P K mg T) : FnQ P w K mg base (L2.CX P w) 27 T.a_Desk_change_book T.f_Desk_change_book ["self", "rules"] (spOne K T.A_Desk mkBook) := by
  refine okQ T.F_Desk_change_book sc_Desk_change_book (fun vs H Q E h => ?_) (fun cdv A outer s0 H vs Q E hr h => ?_)
  · obtain ⟨x, n, pa, fu, us, ps, fs, e, z, rl, z', rl', ls, ls', rfl, ⟨r, rfl, _⟩, _⟩ := h
    rfl
  · obtain ⟨x, n, pa, fu, us, ps, fs, e, z, rl, z', rl', ls, ls', rfl, ⟨r, rfl, rfl⟩, hd, lp, hn, N, ho, q⟩ := h
    refine ⟨_, qss_one (qs_expr (qe_meth (pv 0) T.C_Desk T.M_Desk_apply (ok_Desk_apply T U) hr T.B_Desk_apply .nil passE (QA.of (pa_cons (pe_lst (pa_cons (pe_tup (pa_cons pe_str (pa_cons (pv 1) pa_nil))) pa_nil)) pa_nil)))), ?_⟩
    obtain ⟨⟨dx, hx⟩, hp, hf, ne⟩ := id hd
    refine ⟨_, rfl, x, dx, _, rfl, hx, rfl, _, rfl, by show 2 ≤ sizeLine; decide, fun a na => ⟨by show 1 ≤ sizeLine; decide, fun l nl => ?_⟩⟩
    have s1 := same_upd (o := .tup [.str "book", .str r]) na
    have s2 := same_upd (o := .lst [.ref a]) nl
    have ss := s1.trans s2
    refine ⟨x, n, pa, fu, l, ps, fs, [.ref a], z, rl, ls, .ok z' rl' ls', rfl, ⟨⟨dx, ss _ _ hx⟩, ss _ _ hp, ss _ _ hf, ne⟩, lp, same_seqT ss hn, N, .inl (.inl upd_same), .cons (e := .book r) ⟨a, rfl, .inl (.inl (s2 _ _ upd_same))⟩ ho .nil, fun H' p fu' o nf hd' hp' => ?_⟩
    exact q H' p fu' ((same_oth ss).trans o) (Same.free ss nf) hd' hp'
def spDeskInit (K : PySem.W.Frag) (C : Addr) : Sp := fun vs H Q _ => ∃ (x dx : Addr) (z rl : Str) (ls : List Ln), vs = [.ref x, .str z, .str rl] ∧ H x = some (.ins C dx []) ∧ Now z rl ls ∧
  ∀ H' n pa fu, But x H H' → H n = none → H pa = none → H fu = none → DeskAt C H' x n pa fu [] [] → SqT K H' n [.str z, .str rl] → Q .non H'
theorem ok_Desk_init (T : Tx K mg) : FnQ P w K mg base (L2.CX P w) 11 T.a_Desk_init T.f_Desk_init ["self", "text", "rules"] (spDeskInit K T.A_Desk) := by
  refine okQ T.F_Desk_init sc_Desk_init (fun vs H Q E h => ?_) (fun cdv A outer s0 H vs Q E hr h => ?_)
  · obtain ⟨x, dx, z, rl, ls, rfl, _⟩ := h
    rfl
  · obtain ⟨x, dx, z, rl, ls, rfl, hx, N, q⟩ := h
    refine ⟨_, qss_cons (qs_fld (pv 0) (qe_call (ok_checked T) hr (by rfl) T.m_checked T.F_checked.kp T.B_checked .nil passE (QA.of (pa_cons (pv 1) (pa_cons (pv 2) pa_nil)))) rfl)
      (QSs.of (pss_cons (ps_fld (pv 0) (pe_lst pa_nil) rfl) (pss_cons (ps_fld (pv 0) (pe_lst pa_nil) rfl) (pss_one (ps_fld (pv 0) pe_non rfl))))), ?_⟩
    refine ⟨_, rfl, _, rfl, z, rl, ls, rfl, N, fun H1 n s1 nn hn => ?_⟩
    have hx1 := s1 _ _ hx
    have nnx : n ≠ x := (ne_of_none hx nn).symm
    refine ⟨_, rfl, x, _, dx, _, rfl, hx1, T.C_Desk, T.N_Desk_now, by decide, ?_⟩
    rw [show putF "_now" (.ref n) [] = [(("_now" : Str), V.ref n)] from rfl]
    refine ⟨Nat.zero_le _, fun pa npa => ?_⟩
    have hx2 : (upd (upd H1 x (.ins T.A_Desk dx [("_now", .ref n)])) pa (.lst [])) x = some (.ins T.A_Desk dx [("_now", .ref n)]) := same_upd npa _ _ upd_same
    have npx : pa ≠ x := fun z => by
      rw [z, upd_same] at npa
      cases npa
    refine ⟨_, rfl, x, _, dx, _, rfl, hx2, T.C_Desk, T.N_Desk_past, by show 1 < 1000; decide, ?_⟩
    rw [show putF "_past" (.ref pa) [(("_now" : Str), V.ref n)] = [(("_now" : Str), V.ref n), ("_past", .ref pa)] from rfl]
    refine ⟨Nat.zero_le _, fun fu nfu => ?_⟩
    generalize eH2 : upd (upd H1 x (.ins T.A_Desk dx [("_now", .ref n)])) pa (.lst []) = H2 at *
    have nfx : fu ≠ x := fun z => by
      rw [z, upd_same] at nfu
      cases nfu
    have nfp : fu ≠ pa := fun z => by
      rw [z, upd_ne npx, ← eH2, upd_same] at nfu
      cases nfu
    have hx3 : (upd (upd H2 x (.ins T.A_Desk dx [("_now", .ref n), ("_past", .ref pa)])) fu (.lst [])) x = some (.ins T.A_Desk dx [("_now", .ref n), ("_past", .ref pa)]) := same_upd nfu _ _ upd_same
    refine ⟨_, rfl, x, _, dx, _, rfl, hx3, T.C_Desk, T.N_Desk_future, by show 2 < 1000; decide, ?_⟩
    rw [show putF "_future" (.ref fu) [(("_now" : Str), V.ref n), ("_past", .ref pa)] = [(("_now" : Str), V.ref n), ("_past", .ref pa), ("_future", .ref fu)] from rfl]
    refine ⟨_, rfl, x, _, dx, _, rfl, upd_same, T.C_Desk, T.N_Desk_road, by show 3 < 1000; decide, ?_⟩
    rw [show putF "_road" .non [(("_now" : Str), V.ref n), ("_past", .ref pa), ("_future", .ref fu)] = dk n pa fu from rfl]
    have npa1 : H1 pa = none := by rw [upd_ne npx] at npa; exact npa
    have nfu1 : H1 fu = none := by
      rw [upd_ne nfx, ← eH2, upd_ne nfp, upd_ne nfx] at nfu
      exact nfu
    have up : ∀ b o, b ≠ x → H1 b = some o → (upd (upd (upd (upd H2 x (.ins T.A_Desk dx [("_now", .ref n), ("_past", .ref pa)])) fu (.lst [])) x (.ins T.A_Desk dx [("_now", .ref n), ("_past", .ref pa), ("_future", .ref fu)])) x (.ins T.A_Desk dx (dk n pa fu))) b = some o := fun b o nb e => by
      rw [upd_ne nb, upd_ne nb, upd_ne (ne_of_none e nfu1), upd_ne nb, ← eH2, upd_ne (ne_of_none e npa1), upd_ne nb]
      exact e
    refine q _ n pa fu (fun b o nb e => up b o nb (s1 _ _ e)) nn (Same.free s1 npa1) (Same.free s1 nfu1) ⟨⟨dx, upd_same⟩, ?_, ?_, nfp.symm⟩ (.inl (.inl (up _ _ nnx hn)))
    · rw [upd_ne npx, upd_ne npx, upd_ne nfp.symm, upd_ne npx, ← eH2, upd_same]
    · rw [upd_ne nfx, upd_ne nfx, upd_same]
end
end K77

set_option maxRecDepth 100000
set_option maxHeartbeats 4000000
/-! K8C: the law's draws: heaps with some objects hidden; _law_take. -/
namespace K77
open PySem PySem.Spec PyProof.Rows L2 KG TL

/-- the heap without the objects at S -/
def hide (S : List Addr) (H : Hp) : Hp := fun b => if b ∈ S then none else H b
theorem hide_off {S : List Addr} {H : Hp} {b : Addr} (h : b ∉ S) : hide S H b = H b := if_neg h
theorem hide_in {S : List Addr} {H : Hp} {b : Addr} (h : b ∈ S) : hide S H b = none := if_pos h
theorem hide_get {S : List Addr} {H : Hp} {b : Addr} {o : HO} (h : hide S H b = some o) : b ∉ S ∧ H b = some o := by
  unfold hide at h
  split at h
  · cases h
  · exact ⟨‹_›, h⟩
theorem hide_same (S : List Addr) (H : Hp) : Same (hide S H) H := fun b o e => (hide_get e).2
theorem hide_mono {S S' : List Addr} {H : Hp} (h : ∀ b ∈ S, b ∈ S') : Same (hide S' H) (hide S H) := fun b o e => by
  obtain ⟨n, e⟩ := hide_get e
  exact (hide_off fun z => n (h b z)).trans e
theorem oth_hide {S L : List Addr} {H H' : Hp} (o : Oth L H H') (h : ∀ b ∈ L, b ∈ S) : Same (hide S H) (hide S H') := fun b x e => by
  obtain ⟨n, e⟩ := hide_get e
  exact (hide_off n).trans (o b x (fun z => n (h b z)) e)
/-- a new object that is hidden -/
theorem hide_new {S : List Addr} {H : Hp} {p : Addr} {o : HO} (h : H p = none) : Same (hide S H) (hide (p :: S) (upd H p o)) := fun b x e => by
  obtain ⟨n, e⟩ := hide_get e
  have nb : b ≠ p := ne_of_none e h
  refine (hide_off fun z => ?_).trans ((upd_ne nb).trans e)
  rcases List.mem_cons.mp z with z | z
  · exact nb z
  · exact n z
/-- a hidden object is changed -/
theorem hide_upd {S : List Addr} {H : Hp} {p : Addr} {o : HO} (h : p ∈ S) : hide S (upd H p o) = hide S H := by
  funext b
  by_cases z : b ∈ S
  · rw [hide_in z, hide_in z]
  · rw [hide_off z, hide_off z, upd_ne (fun e => z (by rw [e]; exact h))]
theorem same_hide {S : List Addr} {H H' : Hp} (s : Same H H') : Same (hide S H) (hide S H') := oth_hide (L := []) (fun b o _ e => s b o e) (fun _ h => (nomatch h))
/-- a fresh object is not among the hidden -/
theorem fresh_off {S : List Addr} {H : Hp} {p : Addr} (h : H p = none) (a : ∀ s ∈ S, H s ≠ none) : p ∉ S := fun z => a p z h

structure Dr (H : Hp) (d t : Addr) (S : List Addr) : Prop where
  cell : ∃ k : Nat, H t = some (.lst [.int k])
  t_in : t ∈ S
  draws : ∃ ns : List Int, hide S H d = some (.lst (ns.map V.int)) ∧ ns ≠ [] ∧ (∀ n ∈ ns, 0 ≤ n ∧ n < 1009) ∧ ns.length ≤ 10000
  all : ∀ s ∈ S, H s ≠ none
def Rolls (t : Addr) (H H' : Hp) : Prop := Oth [t] H H' ∧ ∃ k : Nat, H' t = some (.lst [.int k])
theorem Oth.there {L : List Addr} {H H' : Hp} (o : Oth L H H') {b : Addr} (h : b ∉ L) (n : H b ≠ none) : H' b ≠ none := by
  cases e : H b with
  | none => exact absurd e n
  | some x => rw [o b x h e]; intro z; cases z
theorem Dr.roll {H H' : Hp} {d t : Addr} {S : List Addr} (D : Dr H d t S) (r : Rolls t H H') : Dr H' d t S := by
  obtain ⟨o, k, hk⟩ := r
  obtain ⟨ns, hd, h1, h2, h3⟩ := D.draws
  refine ⟨⟨k, hk⟩, D.t_in, ⟨ns, oth_hide o (fun b h => by rw [List.mem_singleton.mp h]; exact D.t_in) _ _ hd, h1, h2, h3⟩, fun s hs => ?_⟩
  by_cases e : s = t
  · rw [e, hk]
    intro z
    cases z
  · exact o.there (fun z => e (List.mem_singleton.mp z)) (D.all s hs)
theorem Rolls.same {H H' : Hp} {d t : Addr} {S : List Addr} (D : Dr H d t S) (s : Same H H') : Rolls t H H' := ⟨same_oth s, let ⟨k, h⟩ := D.cell; ⟨k, s _ _ h⟩⟩
theorem Rolls.trans {t : Addr} {H H1 H2 : Hp} (a : Rolls t H H1) (b : Rolls t H1 H2) : Rolls t H H2 := ⟨a.1.trans b.1, b.2⟩
theorem Rolls.hide {t : Addr} {H H' : Hp} {S : List Addr} (r : Rolls t H H') (h : t ∈ S) : Same (hide S H) (hide S H') := oth_hide r.1 fun b z => by rw [List.mem_singleton.mp z]; exact h
theorem Dr.same {H H' : Hp} {d t : Addr} {S : List Addr} (D : Dr H d t S) (s : Same H H') : Dr H' d t S := D.roll (.same D s)
theorem Dr.refl {H : Hp} {d t : Addr} {S : List Addr} (D : Dr H d t S) : Rolls t H H := ⟨fun _ _ _ e => e, D.cell⟩
/-- fewer hidden -/
theorem Dr.less {H : Hp} {d t : Addr} {S S' : List Addr} (D : Dr H d t S) (h : ∀ b ∈ S', b ∈ S) (ht : t ∈ S') : Dr H d t S' := by
  obtain ⟨ns, hd, h1⟩ := D.draws
  exact ⟨D.cell, ht, ⟨ns, hide_mono h _ _ hd, h1⟩, fun s hs => D.all s (h s hs)⟩
/-- one more hidden -/
theorem Dr.more {H : Hp} {d t p : Addr} {S : List Addr} {o : HO} (D : Dr H d t S) (h : H p = none) : Dr (upd H p o) d t (p :: S) := by
  obtain ⟨ns, hd, h1⟩ := D.draws
  obtain ⟨k, hk⟩ := D.cell
  refine ⟨⟨k, same_upd h _ _ hk⟩, .tail _ D.t_in, ⟨ns, hide_new h _ _ hd, h1⟩, fun s hs => ?_⟩
  by_cases e : s = p
  · rw [e, upd_same]
    intro z
    cases z
  · rw [upd_ne e]
    rcases List.mem_cons.mp hs with z | z
    · exact absurd z e
    · exact D.all s z
section
variable {P : Program} {w : World} {K : PySem.W.Frag} {mg : Str → Option Value} {base : Heap}
def spTakeN : Sp := fun vs H Q _ => ∃ (d t : Addr) (S : List Addr) (m : Nat), vs = [.ref d, .ref t, .int (m : Nat)] ∧ Dr H d t S ∧ 1 ≤ m ∧ ∀ (H' : Hp) (r : Nat), Rolls t H H' → r < m → Q (.int (r : Nat)) H'
theorem ok_law_take (T : Tx K mg) : FnOk P w K mg base CX0 1 T.a_law_take T.f_law_take ["draws", "at", "many"] spTakeN := by
  refine T.F_law_take.ok sc_law_take (fun vs H Q E h => ?_) (fun cdv A outer s0 H vs Q E hr h => ?_)
  · obtain ⟨d, t, S, m, rfl, _⟩ := h
    rfl
  · obtain ⟨d, t, S, m, rfl, D, hm, q⟩ := h
    refine ⟨_, (pss_cons (ps_asg (pe_op op_add (pe_ix ix_list (pv 1) pe_int (fun _ _ => rfl)) pe_int) (pg_sub (pv 1) pe_int set_list)) (pss_one (ps_ret (pe_op op_mod (pe_ix ix_list (pv 0) (pe_op op_mod (pe_op op_sub (pe_ix ix_list (pv 1) pe_int (fun _ _ => rfl)) pe_int) (pe_callB call_len_seq (by rfl) T.b_len (by decide +kernel) (pa_cons (pv 0) pa_nil))) (fun _ _ => rfl)) (pv 2))))), ?_⟩
    obtain ⟨k, hk⟩ := D.cell
    obtain ⟨ns, hd, hne, hns, hl⟩ := D.draws
    obtain ⟨nd, hd⟩ := hide_get hd
    have ndt : d ≠ t := fun z => nd (z ▸ D.t_in)
    refine ⟨_, rfl, t, _, 0, _, rfl, rfl, .inl (.inl hk), atI_nat (j := 0) rfl, _, _, rfl, rfl, _, rfl, t, _, 0, 0, rfl, rfl, hk, rfl, ?_⟩
    have hd1 : (upd H t (.lst ([V.int (k : Nat)].set 0 (.int ((k : Nat) + 1))))) d = some (.lst (ns.map V.int)) := (upd_ne ndt).trans hd
    have lp : 0 < ns.length := List.length_pos_iff.mpr hne
    have hlt : k % ns.length < ns.length := Nat.mod_lt _ lp
    have hn := hns _ (List.getElem_mem hlt)
    refine ⟨_, rfl, _, rfl, t, _, 0, _, rfl, rfl, .inl (.inl upd_same), atI_nat (j := 0) rfl, _, _, rfl, rfl, _, rfl, d, _, rfl, .inl (.inl (.inl hd1)), _, _, rfl, rfl, ?_, d, _, _, .int ns[k % ns.length], rfl, rfl, .inl (.inl hd1), ?_, _, rfl, ns[k % ns.length], (m : Nat), rfl, rfl, ?_, ?_⟩
    · rw [List.length_map]
      omega
    · rw [show ((k : Nat) : Int) + 1 - 1 = (k : Nat) by omega, List.length_map, show ((k : Nat) : Int) % ((ns.length : Nat) : Int) = ((k % ns.length : Nat) : Int) from (Int.natCast_emod k ns.length).symm]
      refine atI_nat ?_
      rw [List.getElem?_map, List.getElem?_eq_getElem hlt]
      rfl
    · show (0 : Int) < (m : Nat)
      omega
    · generalize ns[k % ns.length] = n at hn
      obtain ⟨j, rfl⟩ := Int.eq_ofNat_of_zero_le hn.1
      have fin : Q (.int ((j % m : Nat) : Int)) (upd H t (.lst [.int ((k : Nat) + 1)])) := q _ (j % m) ⟨oth_upd (by simp), k + 1, upd_same⟩ (Nat.mod_lt _ (by omega))
      rw [Int.natCast_emod] at fin
      exact fin
end
end K77

set_option maxRecDepth 100000
set_option maxHeartbeats 4000000
/-! K8M: how formulas are written, printed or loosely, and that they are read again. -/
namespace K77
open PySem PySem.Spec PyProof.Rows L2 KG TL

/-- l has the words ws, whatever follows that is no sign of a word -/
def Lx (l : List Nat) (ws : List Str) : Prop := ∀ rest wr, Wd rest wr → (∀ c r, rest = c :: r → ¬ isW c) → Wd (l ++ rest) (ws ++ wr)
/-- .. whatever follows -/
def Ls (l : List Nat) (ws : List Str) : Prop := ∀ rest wr, Wd rest wr → Wd (l ++ rest) (ws ++ wr)
theorem noW {c : Nat} (h : c ∈ [32, 33, 38, 124, 40, 41]) : ¬ isW c := by
  have : ∀ c ∈ [32, 33, 38, 124, 40, 41], ¬ isW c := by decide +kernel
  exact this c h
theorem Ls.lx {l : List Nat} {ws : List Str} (h : Ls l ws) : Lx l ws := fun r wr w _ => h r wr w
theorem Ls.app {a b : List Nat} {wa wb : List Str} (h : Ls a wa) (k : Ls b wb) : Ls (a ++ b) (wa ++ wb) := fun r wr w => by
  rw [List.append_assoc, List.append_assoc]
  exact h _ _ (k _ _ w)
theorem Ls.app_lx {a b : List Nat} {wa wb : List Str} (h : Ls a wa) (k : Lx b wb) : Lx (a ++ b) (wa ++ wb) := fun r wr w n => by
  rw [List.append_assoc, List.append_assoc]
  exact h _ _ (k _ _ w n)
/-- then a sign or a space, then more -/
theorem Lx.then_ {a b : List Nat} {wa wb : List Str} {c : Nat} (hc : c ∈ [32, 33, 38, 124, 40, 41]) (h : Lx a wa) (k : Lx (c :: b) wb) : Lx (a ++ c :: b) (wa ++ wb) := fun r wr w n => by
  rw [List.append_assoc, List.append_assoc]
  refine h _ _ (k _ _ w n) fun d s e => ?_
  cases e
  exact noW hc
theorem Lx.thens {a b : List Nat} {wa wb : List Str} {c : Nat} (hc : c ∈ [32, 33, 38, 124, 40, 41]) (h : Lx a wa) (k : Ls (c :: b) wb) : Ls (a ++ c :: b) (wa ++ wb) := fun r wr w => by
  rw [List.append_assoc, List.append_assoc]
  refine h _ _ (k _ _ w) fun d s e => ?_
  cases e
  exact noW hc
theorem ls_sign {c : Nat} (h : c ∈ [33, 38, 124, 40, 41]) : Ls [c] [⟨#[c]⟩] := fun _ _ w => .sign h w
theorem ls_sp : Ls [32] [] := fun _ _ w => .sp w
theorem ls_nil : Ls [] [] := fun _ _ w => w
theorem ls_pad : ∀ n, Ls (List.replicate n 32) []
  | 0 => ls_nil
  | n + 1 => ls_sp.app (ls_pad n)
theorem lx_word {l : List Nat} (h : l ≠ []) (a : ∀ c ∈ l, isW c) : Lx l [⟨l.toArray⟩] := fun _ _ w n => .word h a n w
theorem Lx.wd {l : List Nat} {ws : List Str} (h : Lx l ws) : Wd l ws := by
  have := h [] [] .nil (fun _ _ e => by cases e)
  rw [List.append_nil, List.append_nil] at this
  exact this

abbrev kLP : Str := "("
abbrev kRP : Str := ")"
abbrev kAM : Str := "&"
abbrev kBA : Str := "|"
abbrev kBG : Str := "!"
/-! ### reading -/
theorem run_app {b b1 b2 : Bool} {fs fs1 fs2 : List Fm} {ms ms1 ms2 : List Mk} {x y : List Str} (h : Run b fs ms x b1 fs1 ms1) (k : Run b1 fs1 ms1 y b2 fs2 ms2) : Run b fs ms (x ++ y) b2 fs2 ms2 := by
  induction h with
  | nil => exact k
  | cons s _ ih => exact .cons s (ih k)
theorem run1 {b b1 : Bool} {fs fs1 : List Fm} {ms ms1 : List Mk} {z : Str} (s : Step b fs ms z b1 fs1 ms1) : Run b fs ms [z] b1 fs1 ms1 := .cons s .nil
/-- an operand -/
def Opd (ws : List Str) (f : Fm) : Prop := ∀ fs ms, Run true fs ms ws false ((nots f ms).1 :: fs) (nots f ms).2
inductive T2 : List Mk → Prop
  | nil : T2 []
  | lp {ms : List Mk} : T2 (.lp :: ms)
inductive T3 : List Mk → Prop
  | nil : T3 []
  | lp {ms : List Mk} : T3 (.lp :: ms)
  | bar {ms : List Mk} : T3 (.bar :: ms)
theorem T2.t3 {ms : List Mk} (h : T2 ms) : T3 ms := by cases h <;> constructor
theorem T3.nots {ms : List Mk} (h : T3 ms) (f : Fm) : nots f ms = (f, ms) := by cases h <;> rfl
/-- a chain of & -/
def AndP (ws : List Str) (f : Fm) : Prop := ∀ fs ms, T3 ms → ∃ fs' ms', Run true fs ms ws false fs' ms' ∧ ∀ w fs2 ms2, Ops w (f :: fs) ms fs2 ms2 → Ops w fs' ms' fs2 ms2
/-- a chain of | -/
def OrP (ws : List Str) (f : Fm) : Prop := ∀ fs ms, T2 ms → ∃ fs' ms', Run true fs ms ws false fs' ms' ∧ ∀ fs2 ms2, Ops false (f :: fs) ms fs2 ms2 → Ops false fs' ms' fs2 ms2
theorem Opd.andP {ws : List Str} {f : Fm} (h : Opd ws f) : AndP ws f := fun fs ms t => by
  have := h fs ms
  rw [t.nots] at this
  exact ⟨_, _, this, fun _ _ _ o => o⟩
theorem AndP.orP {ws : List Str} {f : Fm} (h : AndP ws f) : OrP ws f := fun fs ms t => by
  obtain ⟨fs', ms', r, o⟩ := h fs ms t.t3
  exact ⟨fs', ms', r, o false⟩
theorem opd_atom {z : Str} {f : Fm} (h : Atom z f) : Opd [z] f := fun _ _ => run1 (.atom h)
theorem opd_not {ws : List Str} {f : Fm} (h : Opd ws f) : Opd (kBG :: ws) (.not f) := fun fs ms => .cons (.push .bang (.inl rfl)) (h fs (.bang :: ms))
theorem opd_paren {ws : List Str} {f : Fm} (h : OrP ws f) : Opd (kLP :: (ws ++ [kRP])) f := fun fs ms => by
  obtain ⟨fs', ms', r, o⟩ := h fs (.lp :: ms) .lp
  exact .cons (.push .lp (.inr rfl)) (run_app r (run1 (.close (o _ _ .lp))))
theorem t2_stay {ms : List Mk} {fs : List Fm} (h : T2 ms) : Ops false fs ms fs ms := by cases h <;> constructor
theorem t3_stay {ms : List Mk} {fs : List Fm} (h : T3 ms) : Ops true fs ms fs ms := by
  cases h with
  | nil => exact .nil
  | lp => exact .lp
  | bar => exact .bar rfl
theorem and_chain {wa wb : List Str} {a b : Fm} (h : AndP wa a) (k : Opd wb b) : AndP (wa ++ kAM :: wb) (.and a b) := fun fs ms t => by
  obtain ⟨fs', ms', r, o⟩ := h fs ms t
  refine ⟨b :: a :: fs, .amp :: ms, run_app r (.cons (.op .amp (.inl rfl) ?_) (k (a :: fs) (.amp :: ms))), fun w fs2 ms2 q => .and q⟩
  rw [show decide (Mk.amp.str = "&") = true from decide_eq_true rfl]
  exact o true _ _ (t3_stay t)
theorem or_chain {wa wb : List Str} {a b : Fm} (h : OrP wa a) (k : AndP wb b) : OrP (wa ++ kBA :: wb) (.or a b) := fun fs ms t => by
  obtain ⟨fs', ms', r, o⟩ := h fs ms t
  obtain ⟨fs'', ms'', r2, o2⟩ := k (a :: fs) (.bar :: ms) .bar
  refine ⟨fs'', ms'', run_app r (.cons (.op .bar (.inr rfl) ?_) r2), fun fs2 ms2 q => o2 false _ _ (.or rfl q)⟩
  rw [show decide (Mk.bar.str = "&") = false by decide +kernel]
  exact o _ _ (t2_stay t)
theorem OrP.reads {ws : List Str} {f : Fm} (h : OrP ws f) : ReadsF ws f := by
  obtain ⟨fs', ms', r, o⟩ := h [] [] .nil
  exact ⟨fs', ms', r, o _ _ .nil⟩

/-! ### printed -/
theorem w_not : (⟨#[33]⟩ : Str) = "!" := by decide +kernel
theorem w_lp : (⟨#[40]⟩ : Str) = "(" := by decide +kernel
theorem w_rp : (⟨#[41]⟩ : Str) = ")" := by decide +kernel
theorem w_and : (⟨#[38]⟩ : Str) = "&" := by decide +kernel
theorem w_or : (⟨#[124]⟩ : Str) = "|" := by decide +kernel
theorem s_not : Ls [33] ["!"] := w_not ▸ ls_sign (by decide)
theorem s_lp : Ls [40] ["("] := w_lp ▸ ls_sign (by decide)
theorem s_rp : Ls [41] [")"] := w_rp ▸ ls_sign (by decide)
theorem s_and : Ls [38] ["&"] := w_and ▸ ls_sign (by decide)
theorem s_or : Ls [124] ["|"] := w_or ▸ ls_sign (by decide)
theorem ls_paren {l : List Nat} {ws : List Str} (h : Lx l ws) : Ls (40 :: (l ++ [41])) (kLP :: (ws ++ [kRP])) := s_lp.app (h.thens (by decide) s_rp)
theorem name_lx {z : Str} (h : NameOk z) : Lx (tl z) [z] := by
  have := lx_word (l := tl z) (by obtain ⟨c, r, e, _⟩ := h.head; rw [e]; simp) h.signs
  rw [show (⟨(tl z).toArray⟩ : Str) = z from mk_tl z] at this
  exact this
theorem lx_one : Lx (tl "1") ["1"] := by
  have := lx_word (l := [49]) (by simp) (by decide +kernel)
  rw [show (⟨[49].toArray⟩ : Str) = "1" by decide +kernel] at this
  rw [show tl "1" = [49] by decide +kernel]
  exact this
theorem lx_zero : Lx (tl "0") ["0"] := by
  have := lx_word (l := [48]) (by simp) (by decide +kernel)
  rw [show (⟨[48].toArray⟩ : Str) = "0" by decide +kernel] at this
  rw [show tl "0" = [48] by decide +kernel]
  exact this
theorem tl_lp : tl "(" = [40] := by decide +kernel
theorem tl_rp : tl ")" = [41] := by decide +kernel
theorem tl_bang : tl "!" = [33] := by decide +kernel
theorem tl_bl : tl "!(" = [33, 40] := by decide +kernel
theorem tl_am : tl " & " = [32, 38, 32] := by decide +kernel
theorem tl_ba : tl " | " = [32, 124, 32] := by decide +kernel
theorem par_lx {b : Bool} {z : Str} {ws : List Str} {f : Fm} (h : Lx (tl z) ws) (o : OrP ws f) (n : b = false → Opd ws f) : ∃ wp, Lx (tl (par b z)) wp ∧ Opd wp f := by
  cases b with
  | true =>
    refine ⟨_, ?_, opd_paren o⟩
    show Lx (tl ("(" ++ z ++ ")")) _
    rw [tl_append, tl_append, tl_lp, tl_rp]
    exact (ls_paren h).lx
  | false => exact ⟨ws, h, n rfl⟩
theorem par_and {b : Bool} {z : Str} {ws : List Str} {f : Fm} (h : Lx (tl z) ws) (o : OrP ws f) (n : b = false → AndP ws f) : ∃ wp, Lx (tl (par b z)) wp ∧ AndP wp f := by
  cases b with
  | true =>
    refine ⟨_, ?_, (opd_paren o).andP⟩
    show Lx (tl ("(" ++ z ++ ")")) _
    rw [tl_append, tl_append, tl_lp, tl_rp]
    exact (ls_paren h).lx
  | false => exact ⟨ws, h, n rfl⟩
theorem mid_lx {a b : List Nat} {wa wb : List Str} {c : Nat} {z : Str} (hc : Ls [c] [z]) (h : Lx a wa) (k : Lx b wb) : Lx (a ++ [32, c, 32] ++ b) (wa ++ z :: wb) := by
  rw [List.append_assoc]
  exact h.then_ (by decide) (ls_sp.app_lx (hc.app_lx (ls_sp.app_lx k)))
theorem std_read : ∀ f : Fm, (∀ z ∈ f.names, NameOk z) → ∃ ws, Lx (tl f.std) ws ∧ OrP ws f ∧ (f.isOr = false → AndP ws f) ∧ (f.isBin = false → Opd ws f)
  | .yes, _ => ⟨["1"], lx_one, (opd_atom .yes).andP.orP, fun _ => (opd_atom .yes).andP, fun _ => opd_atom .yes⟩
  | .no, _ => ⟨["0"], lx_zero, (opd_atom .no).andP.orP, fun _ => (opd_atom .no).andP, fun _ => opd_atom .no⟩
  | .name z, h => have n := h z (List.mem_singleton_self z); ⟨[z], name_lx n, (opd_atom (.name n)).andP.orP, fun _ => (opd_atom (.name n)).andP, fun _ => opd_atom (.name n)⟩
  | .not f, h => by
    obtain ⟨ws, l, o, _, u⟩ := std_read f h
    have key : ∃ wp, Lx (tl (Fm.not f).std) wp ∧ Opd wp (.not f) := by
      show ∃ wp, Lx (tl (if f.isBin then "!(" ++ f.std ++ ")" else "!" ++ f.std)) wp ∧ _
      cases e : f.isBin with
      | true =>
        refine ⟨_, ?_, opd_not (opd_paren o)⟩
        rw [if_pos rfl, tl_append, tl_append, tl_bl, tl_rp]
        exact s_not.app_lx (ls_paren l).lx
      | false =>
        refine ⟨_, ?_, opd_not (u e)⟩
        rw [if_neg Bool.false_ne_true, tl_append, tl_bang]
        exact s_not.app_lx l
    obtain ⟨wp, l2, o2⟩ := key
    exact ⟨wp, l2, o2.andP.orP, fun _ => o2.andP, fun _ => o2⟩
  | .and a b, h => by
    obtain ⟨wa, la, oa, aa, _⟩ := std_read a fun z hz => h z (List.mem_append_left _ hz)
    obtain ⟨wb, lb, ob, _, ub⟩ := std_read b fun z hz => h z (List.mem_append_right _ hz)
    obtain ⟨pa, l1, o1⟩ := par_and (b := a.isOr) la oa aa
    obtain ⟨pb, l2, o2⟩ := par_lx (b := b.isBin) lb ob ub
    have c := and_chain o1 o2
    refine ⟨_, ?_, c.orP, fun _ => c, fun e => Bool.noConfusion (show true = false from e)⟩
    show Lx (tl (par a.isOr a.std ++ " & " ++ par b.isBin b.std)) _
    rw [tl_append, tl_append, tl_am]
    exact mid_lx s_and l1 l2
  | .or a b, h => by
    obtain ⟨wa, la, oa, _, _⟩ := std_read a fun z hz => h z (List.mem_append_left _ hz)
    obtain ⟨wb, lb, ob, ab, _⟩ := std_read b fun z hz => h z (List.mem_append_right _ hz)
    obtain ⟨pb, l2, o2⟩ := par_and (b := b.isOr) lb ob ab
    refine ⟨_, ?_, or_chain oa o2, fun e => Bool.noConfusion (show true = false from e), fun e => Bool.noConfusion (show true = false from e)⟩
    show Lx (tl (a.std ++ " | " ++ par b.isOr b.std)) _
    rw [tl_append, tl_append, tl_ba]
    exact mid_lx s_or la l2
theorem rt_std {f : Fm} (h : ∀ z ∈ f.names, NameOk z) (w : f.wt ≤ 240) : RT f.std f := by
  obtain ⟨ws, l, o, _⟩ := std_read f h
  exact ⟨Nat.le_trans f.std_len w, ws, l.wd, o.reads⟩

/-! ### loosely -/
/-- written loosely, without what stands around it -/
def Core (f : Fm) (l : List Nat) : Prop := l.length + 5 ≤ f.wt ∧ ∃ ws, Lx l ws ∧ OrP ws f
def Loose (f : Fm) (l : List Nat) : Prop := l.length ≤ f.wt ∧ ∃ ws, Lx l ws ∧ OrP ws f
theorem Loose.rt {f : Fm} {z : Str} (h : Loose f (tl z)) (w : f.wt ≤ 240) : RT z f := by
  obtain ⟨l, ws, x, o⟩ := h
  exact ⟨by rw [len_tl]; omega, ws, x.wd, o.reads⟩
theorem Core.pad {f : Fm} {l : List Nat} {n : Nat} (h : Core f l) (hn : n < 3) : Loose f (List.replicate n 32 ++ l) := by
  obtain ⟨b, ws, x, o⟩ := h
  refine ⟨?_, ws, (ls_pad n).app_lx x, o⟩
  rw [List.length_append, List.length_replicate]
  omega
theorem Core.wrap {f : Fm} {l : List Nat} {n : Nat} (h : Core f l) (hn : n < 3) : Loose f (List.replicate n 32 ++ (40 :: 32 :: (l ++ [41]))) := by
  obtain ⟨b, ws, x, o⟩ := h
  refine ⟨?_, _, (ls_pad n).app_lx (ls_paren (ls_sp.app_lx x)).lx, (opd_paren o).andP.orP⟩
  simp only [List.length_append, List.length_replicate, List.length_cons, List.length_nil]
  omega
theorem core_yes : Core .yes (tl "1") := ⟨by show (tl "1").length + 5 ≤ 6; decide +kernel, _, lx_one, (opd_atom .yes).andP.orP⟩
theorem core_no : Core .no (tl "0") := ⟨by show (tl "0").length + 5 ≤ 6; decide +kernel, _, lx_zero, (opd_atom .no).andP.orP⟩
theorem core_name {z : Str} (h : NameOk z) : Core (.name z) (tl z) := ⟨by show (tl z).length + 5 ≤ z.length + 5; rw [len_tl]; exact Nat.le_refl _, _, name_lx h, (opd_atom (.name h)).andP.orP⟩
theorem core_not {f : Fm} {l : List Nat} {n : Nat} (h : Loose f l) (hn : n < 3) : Core (.not f) (33 :: (List.replicate n 32 ++ (40 :: (l ++ [41])))) := by
  obtain ⟨b, ws, x, o⟩ := h
  refine ⟨?_, _, s_not.app_lx ((ls_pad n).app_lx (ls_paren x).lx), (opd_not (opd_paren o)).andP.orP⟩
  show _ ≤ f.wt + 10
  simp only [List.length_append, List.length_replicate, List.length_cons, List.length_nil]
  omega
theorem bin_lx {a b : List Nat} {wa wb : List Str} {c n : Nat} {z : Str} (hc : Ls [c] [z]) (h : Lx a wa) (k : Lx b wb) :
    Lx ((40 :: (a ++ [41])) ++ (List.replicate n 32 ++ (c :: (40 :: (b ++ [41]))))) ((kLP :: (wa ++ [kRP])) ++ z :: (kLP :: (wb ++ [kRP]))) :=
  (ls_paren h).app_lx ((ls_pad n).app_lx (hc.app_lx (ls_paren k).lx))
theorem core_and {f g : Fm} {a b : List Nat} {n : Nat} (h : Loose f a) (k : Loose g b) (hn : n < 3) : Core (.and f g) ((40 :: (a ++ [41])) ++ (List.replicate n 32 ++ (38 :: (40 :: (b ++ [41]))))) := by
  obtain ⟨b1, wa, xa, oa⟩ := h
  obtain ⟨b2, wb, xb, ob⟩ := k
  refine ⟨?_, _, bin_lx s_and xa xb, (and_chain (opd_paren oa).andP (opd_paren ob)).orP⟩
  show _ ≤ f.wt + g.wt + 12
  simp only [List.length_append, List.length_replicate, List.length_cons, List.length_nil]
  omega
theorem core_or {f g : Fm} {a b : List Nat} {n : Nat} (h : Loose f a) (k : Loose g b) (hn : n < 3) : Core (.or f g) ((40 :: (a ++ [41])) ++ (List.replicate n 32 ++ (124 :: (40 :: (b ++ [41]))))) := by
  obtain ⟨b1, wa, xa, oa⟩ := h
  obtain ⟨b2, wb, xb, ob⟩ := k
  refine ⟨?_, _, bin_lx s_or xa xb, or_chain (opd_paren oa).andP.orP (opd_paren ob).andP⟩
  show _ ≤ f.wt + g.wt + 12
  simp only [List.length_append, List.length_replicate, List.length_cons, List.length_nil]
  omega
end K77

set_option maxRecDepth 100000
set_option maxHeartbeats 4000000
/-! K8D: _law_text. -/
namespace K77
open PySem PySem.Spec PyProof.Rows L2 KG TL

theorem str_e (x : Str) : x ++ ("" : Str) = x := ext_tl (by rw [tl_append, show tl "" = [] by decide +kernel, List.append_nil])
theorem tag_andb (f : Fm) : V.bl (decide (V.str f.tag = V.str "and")) = V.bl (f.isBin && !f.isOr) := by
  cases f with
  | yes => exact sNe (a := "yes") (b := "and") (by decide +kernel)
  | no => exact sNe (a := "no") (b := "and") (by decide +kernel)
  | name z => exact sNe (a := "name") (b := "and") (by decide +kernel)
  | not f => exact sNe (a := "not") (b := "and") (by decide +kernel)
  | and a b => exact sEq rfl
  | or a b => exact sNe (a := "or") (b := "and") (by decide +kernel)
theorem isOr_isBin {f : Fm} (h : f.isOr = true) : f.isBin = true := by cases f <;> first | rfl | cases h
section
variable {P : Program} {w : World} {K : PySem.W.Frag} {mg : Str → Option Value} {base : Heap}
theorem ok_law_text (T : Tx K mg) : ∀ n, FnOk P w K mg base CX0 n T.a_law_text T.f_law_text ["tree"] (spFText K n)
  | 0 => ⟨fun vs H Q E ⟨f, v, e, _⟩ => by rw [e] <;> rfl, fun A outer s H args us vs Q E a b c d ⟨f, v, _, _, l, _⟩ => absurd l (Nat.not_lt_zero _)⟩
  | n + 1 => by
    have IH := ok_law_text T n
    refine T.F_law_text.ok sc_law_text (fun vs H Q E h => ?_) (fun cdv A outer s H vs Q E hr h => ?_)
    · obtain ⟨f, v, rfl, _⟩ := h
      rfl
    · obtain ⟨f, v, rfl, hf, hd, hw, q⟩ := h
      refine ⟨_, (pss_cons (ps_if (pt_cmpR op_eq (pe_ix ix_tup (pv 0) pe_int (fun _ _ => rfl)) pe_str (nomark _)) (pss_one (ps_ret pe_str)) pss_nil)
  (pss_cons (ps_if (pt_cmpR op_eq (pe_ix ix_tup (pv 0) pe_int (fun _ _ => rfl)) pe_str (nomark _)) (pss_one (ps_ret pe_str)) pss_nil)
  (pss_cons (ps_if (pt_cmpR op_eq (pe_ix ix_tup (pv 0) pe_int (fun _ _ => rfl)) pe_str (nomark _)) (pss_one (ps_ret (pe_ix ix_tup (pv 0) pe_int (fun _ _ => rfl)))) pss_nil)
  (pss_cons (ps_set (i := 1) sc_law_text.nd rfl (.inl rfl) (pe_call IH hr (by rfl) T.m_law_text T.F_law_text.kp T.B_law_text .nil pass0 (pa_cons (pe_ix ix_tup (pv 0) pe_int (fun _ _ => rfl)) pa_nil)))
  (pss_cons (ps_if (pt_cmpR op_eq (pe_ix ix_tup (pv 0) pe_int (fun _ _ => rfl)) pe_str (nomark _)) (pss_one (ps_ret (pe_op op_add_str (pe_op op_add_str (pe_op op_add_str pe_str (pe_ix ix_list (pe_lst (pa_cons pe_str (pa_cons pe_str pa_nil))) (pe_callTy call_int1 (by rfl) T.b_int (by decide +kernel) (pa_cons (pe_cmpR op_in_seq (pe_ix ix_tup (pe_ix ix_tup (pv 0) pe_int (fun _ _ => rfl)) pe_int (fun _ _ => rfl)) (pe_lst (pa_cons pe_str (pa_cons pe_str pa_nil))) rfl) pa_nil)) (fun _ _ => rfl))) (pv 1)) (pe_ix ix_list (pe_lst (pa_cons pe_str (pa_cons pe_str pa_nil))) (pe_callTy call_int1 (by rfl) T.b_int (by decide +kernel) (pa_cons (pe_cmpR op_in_seq (pe_ix ix_tup (pe_ix ix_tup (pv 0) pe_int (fun _ _ => rfl)) pe_int (fun _ _ => rfl)) (pe_lst (pa_cons pe_str (pa_cons pe_str pa_nil))) rfl) pa_nil)) (fun _ _ => rfl))))) pss_nil)
  (pss_cons (ps_set (i := 2) sc_law_text.nd rfl (.inl rfl) (pe_call IH hr (by rfl) T.m_law_text T.F_law_text.kp T.B_law_text .nil pass0 (pa_cons (pe_ix ix_tup (pv 0) pe_int (fun _ _ => rfl)) pa_nil)))
  (C8.pss_cut (ps_if (PW.pt (pw_and (pt_cmpR op_eq (pe_ix ix_tup (pv 0) pe_int (fun _ _ => rfl)) pe_str (nomark _)) (pw_and1 (pt_cmpR op_eq (pe_ix ix_tup (pe_ix ix_tup (pv 0) pe_int (fun _ _ => rfl)) pe_int (fun _ _ => rfl)) pe_str (nomark _))))) (pss_one (ps_set (i := 1) sc_law_text.nd rfl (.inl rfl) (pe_op op_add_str (pe_op op_add_str pe_str (pv 1)) pe_str))) pss_nil)
  (C8.pss_cut (ps_if (PW.pt (pw_or (pt_cmpR op_eq (pe_ix ix_tup (pe_ix ix_tup (pv 0) pe_int (fun _ _ => rfl)) pe_int (fun _ _ => rfl)) pe_str (nomark _)) (pw_or1 (PW.pt (pw_and (pt_cmpR op_eq (pe_ix ix_tup (pe_ix ix_tup (pv 0) pe_int (fun _ _ => rfl)) pe_int (fun _ _ => rfl)) pe_str (nomark _)) (pw_and1 (pt_cmpR op_eq (pe_ix ix_tup (pv 0) pe_int (fun _ _ => rfl)) pe_str (nomark _)))))))) (pss_one (ps_set (i := 2) sc_law_text.nd rfl (.inl rfl) (pe_op op_add_str (pe_op op_add_str pe_str (pv 2)) pe_str))) pss_nil)
  (pss_one (ps_ret (pe_op op_add_str (pe_op op_add_str (pv 1) (pe_ix ix_list (pe_lst (pa_cons pe_str (pa_cons pe_str pa_nil))) (pe_callTy call_int1 (by rfl) T.b_int (by decide +kernel) (pa_cons (pe_cmpR op_eq (pe_ix ix_tup (pv 0) pe_int (fun _ _ => rfl)) pe_str (nomark _)) pa_nil)) (fun _ _ => rfl))) (pv 2)))))))))))), ?_⟩
      have two : 2 ≤ sizeLine := by decide
      have e0 : ("" : Str).length = 0 := by decide +kernel
      have e1 : ("!" : Str).length = 1 := by decide +kernel
      cases f with
      | yes =>
        obtain ⟨a, rfl, h⟩ := hf
        exact ⟨_, rfl, a, _, 0, _, rfl, rfl, h, atI_nat (j := 0) rfl, rfl, true, sEq rfl, q H (Same.refl H)⟩
      | no =>
        obtain ⟨a, rfl, h⟩ := hf
        refine ⟨_, rfl, a, _, 0, _, rfl, rfl, h, atI_nat (j := 0) rfl, rfl, false, sNe (by decide +kernel), ?_⟩
        exact ⟨_, rfl, a, _, 0, _, rfl, rfl, h, atI_nat (j := 0) rfl, rfl, true, sEq rfl, q H (Same.refl H)⟩
      | name z =>
        obtain ⟨a, rfl, h⟩ := hf
        refine ⟨_, rfl, a, _, 0, _, rfl, rfl, h, atI_nat (j := 0) rfl, rfl, false, sNe (by decide +kernel), ?_⟩
        refine ⟨_, rfl, a, _, 0, _, rfl, rfl, h, atI_nat (j := 0) rfl, rfl, false, sNe (by decide +kernel), ?_⟩
        exact ⟨_, rfl, a, _, 0, _, rfl, rfl, h, atI_nat (j := 0) rfl, rfl, true, sEq rfl, _, rfl, a, _, 1, _, rfl, rfl, h, atI_nat (j := 1) rfl, q H (Same.refl H)⟩
      | not f =>
        obtain ⟨a, u, rfl, h, hf⟩ := hf
        have hw : f.wt + 10 ≤ 1000 := hw
        have hd : f.dep + 1 < n + 1 := hd
        have sl := f.std_len
        refine ⟨_, rfl, a, _, 0, _, rfl, rfl, h, atI_nat (j := 0) rfl, rfl, false, sNe (by decide +kernel), ?_⟩
        refine ⟨_, rfl, a, _, 0, _, rfl, rfl, h, atI_nat (j := 0) rfl, rfl, false, sNe (by decide +kernel), ?_⟩
        refine ⟨_, rfl, a, _, 0, _, rfl, rfl, h, atI_nat (j := 0) rfl, rfl, false, sNe (by decide +kernel), ?_⟩
        refine ⟨_, rfl, a, _, 1, _, rfl, rfl, h, atI_nat (j := 1) rfl, f, u, rfl, hf, by omega, by omega, fun H1 s1 => ?_⟩
        have h1 := same_seqT s1 h
        obtain ⟨b, r, rfl, hb⟩ := (hf.keep (same_tups s1)).at_
        refine ⟨_, rfl, a, _, 0, _, rfl, rfl, h1, atI_nat (j := 0) rfl, rfl, true, sEq rfl, ?_⟩
        refine ⟨two, fun p np => ?_⟩
        have s2 := same_upd (o := .lst [.str "", .str "("]) np
        refine ⟨_, rfl, a, _, 1, _, rfl, rfl, same_seqT s2 h1, atI_nat (j := 1) rfl, b, _, 0, _, rfl, rfl, same_seqT s2 hb, atI_nat (j := 0) rfl, two, fun p2 np2 => ?_⟩
        have s3 := same_upd (o := .lst [.str "and", .str "or"]) np2
        have h3 := same_seqT (s2.trans s3) h1
        have hb3 := same_seqT (s2.trans s3) hb
        refine ⟨p2, _, rfl, .inl (.inl (.inl upd_same)), rfl, rfl, .inr ⟨f.isBin, congrArg (fun x => [x]) (tag_bin f), ?_⟩⟩
        refine ⟨p, _, _, .str (if f.isBin then "(" else ""), rfl, rfl, .inl (.inl (s3 _ _ upd_same)), by cases f.isBin <;> rfl, _, _, rfl, rfl, ?_, _, rfl, _, _, rfl, rfl, ?_, ?_⟩
        · refine big_str ?_
          cases f.isBin
          · show ("!" : Str).length + ("" : Str).length ≤ 2000
            omega
          · show ("!" : Str).length + ("(" : Str).length ≤ 2000
            rw [l_lp]
            omega
        · refine big_str ?_
          rw [len_app]
          cases f.isBin
          · show ("!" : Str).length + ("" : Str).length + f.std.length ≤ 2000
            omega
          · show ("!" : Str).length + ("(" : Str).length + f.std.length ≤ 2000
            rw [l_lp]
            omega
        refine ⟨two, fun p4 np4 => ?_⟩
        have s4 := same_upd (o := .lst [.str "", .str ")"]) np4
        refine ⟨_, rfl, a, _, 1, _, rfl, rfl, same_seqT s4 h3, atI_nat (j := 1) rfl, b, _, 0, _, rfl, rfl, same_seqT s4 hb3, atI_nat (j := 0) rfl, two, fun p5 np5 => ?_⟩
        have s5 := same_upd (o := .lst [.str "and", .str "or"]) np5
        refine ⟨p5, _, rfl, .inl (.inl (.inl upd_same)), rfl, rfl, .inr ⟨f.isBin, congrArg (fun x => [x]) (tag_bin f), ?_⟩⟩
        refine ⟨p4, _, _, .str (if f.isBin then ")" else ""), rfl, rfl, .inl (.inl (s5 _ _ upd_same)), by cases f.isBin <;> rfl, _, _, rfl, rfl, ?_, ?_⟩
        · refine big_str ?_
          rw [len_app, len_app]
          cases f.isBin
          · show ("!" : Str).length + ("" : Str).length + f.std.length + ("" : Str).length ≤ 2000
            omega
          · show ("!" : Str).length + ("(" : Str).length + f.std.length + (")" : Str).length ≤ 2000
            rw [l_lp, l_rp]
            omega
        have fin := q _ (s1.trans ((s2.trans s3).trans (s4.trans s5)))
        unfold Fm.std at fin
        cases eb : f.isBin with
        | true =>
          rw [eb] at fin
          exact fin
        | false =>
          rw [eb] at fin
          show Q (.str ((("!" : Str) ++ "" ++ f.std) ++ "")) _
          rw [str_e, str_e]
          exact fin
      | and f g =>
        obtain ⟨a, u, x, rfl, h, hf, hg⟩ := hf
        have hw : f.wt + g.wt + 12 ≤ 1000 := hw
        have hd : max f.dep g.dep + 1 < n + 1 := hd
        have sl := f.std_len
        have sr := g.std_len
        have pl := len_par f.isOr f.std
        have pr := len_par g.isBin g.std
        refine ⟨_, rfl, a, _, 0, _, rfl, rfl, h, atI_nat (j := 0) rfl, rfl, false, sNe (by decide +kernel), ?_⟩
        refine ⟨_, rfl, a, _, 0, _, rfl, rfl, h, atI_nat (j := 0) rfl, rfl, false, sNe (by decide +kernel), ?_⟩
        refine ⟨_, rfl, a, _, 0, _, rfl, rfl, h, atI_nat (j := 0) rfl, rfl, false, sNe (by decide +kernel), ?_⟩
        refine ⟨_, rfl, a, _, 1, _, rfl, rfl, h, atI_nat (j := 1) rfl, f, u, rfl, hf, by omega, by omega, fun H1 s1 => ?_⟩
        have h1 := same_seqT s1 h
        refine ⟨_, rfl, a, _, 0, _, rfl, rfl, h1, atI_nat (j := 0) rfl, rfl, false, sNe (by decide +kernel), ?_⟩
        refine ⟨_, rfl, a, _, 2, _, rfl, rfl, h1, atI_nat (j := 2) rfl, g, x, rfl, hg.keep (same_tups s1), by omega, by omega, fun H2 s2 => ?_⟩
        have h2 := same_seqT (s1.trans s2) h
        obtain ⟨b, rf, rfl, hb⟩ := (hf.keep (same_tups (s1.trans s2))).at_
        obtain ⟨c, rg, rfl, hc⟩ := (hg.keep (same_tups (s1.trans s2))).at_
        refine ⟨fun σ' H' => σ' = [some (.ref a), some (.str (par f.isOr f.std)), some (.str g.std)] ∧ H' = H2, ?_, fun σ' H' hM => ?_⟩
        · refine ⟨_, rfl, a, _, 0, _, rfl, rfl, h2, atI_nat (j := 0) rfl, rfl, true, sEq rfl, ?_⟩
          refine ⟨_, rfl, a, _, 1, _, rfl, rfl, h2, atI_nat (j := 1) rfl, b, _, 0, _, rfl, rfl, hb, atI_nat (j := 0) rfl, rfl, f.isOr, tag_or f, ?_⟩
          cases eo : f.isOr with
          | true => exact ⟨_, rfl, _, _, rfl, rfl, big_str (by rw [l_lp]; omega), _, _, rfl, rfl, big_str (by rw [len_app, l_lp, l_rp]; omega), rfl, rfl⟩
          | false => exact ⟨rfl, rfl⟩
        obtain ⟨rfl, rfl⟩ := hM
        refine ⟨fun σ' H'' => σ' = [some (.ref a), some (.str (par f.isOr f.std)), some (.str (par g.isBin g.std))] ∧ H'' = H', ?_, fun σ' H'' hM => ?_⟩
        · refine ⟨_, rfl, a, _, 2, _, rfl, rfl, h2, atI_nat (j := 2) rfl, c, _, 0, _, rfl, rfl, hc, atI_nat (j := 0) rfl, rfl, g.isOr, tag_or g, ?_⟩
          cases eo : g.isOr with
          | true =>
            rw [isOr_isBin eo]
            exact ⟨_, rfl, _, _, rfl, rfl, big_str (by rw [l_lp]; omega), _, _, rfl, rfl, big_str (by rw [len_app, l_lp, l_rp]; omega), rfl, rfl⟩
          | false =>
            refine ⟨_, rfl, a, _, 2, _, rfl, rfl, h2, atI_nat (j := 2) rfl, c, _, 0, _, rfl, rfl, hc, atI_nat (j := 0) rfl, rfl, g.isBin, ?_, ?_⟩
            · have := tag_andb g
              rw [eo] at this
              rw [this]
              cases g.isBin <;> rfl
            cases eb : g.isBin with
            | true => exact ⟨_, rfl, a, _, 0, _, rfl, rfl, h2, atI_nat (j := 0) rfl, rfl, true, sEq rfl, _, rfl, _, _, rfl, rfl, big_str (by rw [l_lp]; omega), _, _, rfl, rfl, big_str (by rw [len_app, l_lp, l_rp]; omega), rfl, rfl⟩
            | false => exact ⟨rfl, rfl⟩
        obtain ⟨rfl, rfl⟩ := hM
        refine ⟨_, rfl, two, fun p np => ?_⟩
        have s3 := same_upd (o := .lst [.str " | ", .str " & "]) np
        refine ⟨_, rfl, a, _, 0, _, rfl, rfl, same_seqT s3 h2, atI_nat (j := 0) rfl, rfl, .inr ⟨true, congrArg (fun x => [x]) (sEq rfl), ?_⟩⟩
        refine ⟨p, _, _, .str " & ", rfl, rfl, .inl (.inl upd_same), rfl, _, _, rfl, rfl, big_str (by rw [l_am]; omega), _, rfl, _, _, rfl, rfl, big_str (by rw [len_app, l_am]; omega), q _ ((s1.trans s2).trans s3)⟩
      | or f g =>
        obtain ⟨a, u, x, rfl, h, hf, hg⟩ := hf
        have hw : f.wt + g.wt + 12 ≤ 1000 := hw
        have hd : max f.dep g.dep + 1 < n + 1 := hd
        have sl := f.std_len
        have sr := g.std_len
        have pr := len_par g.isOr g.std
        refine ⟨_, rfl, a, _, 0, _, rfl, rfl, h, atI_nat (j := 0) rfl, rfl, false, sNe (by decide +kernel), ?_⟩
        refine ⟨_, rfl, a, _, 0, _, rfl, rfl, h, atI_nat (j := 0) rfl, rfl, false, sNe (by decide +kernel), ?_⟩
        refine ⟨_, rfl, a, _, 0, _, rfl, rfl, h, atI_nat (j := 0) rfl, rfl, false, sNe (by decide +kernel), ?_⟩
        refine ⟨_, rfl, a, _, 1, _, rfl, rfl, h, atI_nat (j := 1) rfl, f, u, rfl, hf, by omega, by omega, fun H1 s1 => ?_⟩
        have h1 := same_seqT s1 h
        refine ⟨_, rfl, a, _, 0, _, rfl, rfl, h1, atI_nat (j := 0) rfl, rfl, false, sNe (by decide +kernel), ?_⟩
        refine ⟨_, rfl, a, _, 2, _, rfl, rfl, h1, atI_nat (j := 2) rfl, g, x, rfl, hg.keep (same_tups s1), by omega, by omega, fun H2 s2 => ?_⟩
        have h2 := same_seqT (s1.trans s2) h
        obtain ⟨c, rg, rfl, hc⟩ := (hg.keep (same_tups (s1.trans s2))).at_
        refine ⟨fun σ' H' => σ' = [some (.ref a), some (.str f.std), some (.str g.std)] ∧ H' = H2, ?_, fun σ' H' hM => ?_⟩
        · exact ⟨_, rfl, a, _, 0, _, rfl, rfl, h2, atI_nat (j := 0) rfl, rfl, false, sNe (by decide +kernel), rfl, rfl⟩
        obtain ⟨rfl, rfl⟩ := hM
        refine ⟨fun σ' H'' => σ' = [some (.ref a), some (.str f.std), some (.str (par g.isOr g.std))] ∧ H'' = H', ?_, fun σ' H'' hM => ?_⟩
        · refine ⟨_, rfl, a, _, 2, _, rfl, rfl, h2, atI_nat (j := 2) rfl, c, _, 0, _, rfl, rfl, hc, atI_nat (j := 0) rfl, rfl, g.isOr, tag_or g, ?_⟩
          cases eo : g.isOr with
          | true =>
            exact ⟨_, rfl, _, _, rfl, rfl, big_str (by rw [l_lp]; omega), _, _, rfl, rfl, big_str (by rw [len_app, l_lp, l_rp]; omega), rfl, rfl⟩
          | false =>
            refine ⟨_, rfl, a, _, 2, _, rfl, rfl, h2, atI_nat (j := 2) rfl, c, _, 0, _, rfl, rfl, hc, atI_nat (j := 0) rfl, rfl, g.isBin, ?_, ?_⟩
            · have := tag_andb g
              rw [eo] at this
              rw [this]
              cases g.isBin <;> rfl
            cases eb : g.isBin with
            | true => exact ⟨_, rfl, a, _, 0, _, rfl, rfl, h2, atI_nat (j := 0) rfl, rfl, false, sNe (by decide +kernel), rfl, rfl⟩
            | false => exact ⟨rfl, rfl⟩
        obtain ⟨rfl, rfl⟩ := hM
        refine ⟨_, rfl, two, fun p np => ?_⟩
        have s3 := same_upd (o := .lst [.str " | ", .str " & "]) np
        refine ⟨_, rfl, a, _, 0, _, rfl, rfl, same_seqT s3 h2, atI_nat (j := 0) rfl, rfl, .inr ⟨false, congrArg (fun x => [x]) (sNe (by decide +kernel)), ?_⟩⟩
        refine ⟨p, _, _, .str " | ", rfl, rfl, .inl (.inl upd_same), rfl, _, _, rfl, rfl, big_str (by rw [l_ba]; omega), _, rfl, _, _, rfl, rfl, big_str (by rw [len_app, l_ba]; omega), q _ ((s1.trans s2).trans s3)⟩
end
end K77

set_option maxRecDepth 100000
set_option maxHeartbeats 4000000
/-! K8E: texts of the law; _law_string, _law_piece. -/
namespace K77
open PySem PySem.Spec PyProof.Rows L2 KG TL

/-! ### texts -/
def litT (neg : Bool) (n : Str) : Str := if neg then "!" ++ n else n
def litF (neg : Bool) (n : Str) : Fm := if neg then .not (.name n) else .name n
theorem lit_std (neg : Bool) (n : Str) : (litF neg n).std = litT neg n := by cases neg <;> rfl
/-- a piece, and what follows it -/
def pcs (neg : Bool) (n : Str) (s rest : List Nat) : List Nat := 35 :: (tl ("if " ++ litT neg n) ++ 35 :: (s ++ 35 :: (tl "end" ++ 35 :: rest)))
inductive LT (ss : List Str) : List Nat → Prop
  | tail {r : List Nat} : 35 ∉ r → LT ss r
  | blk {r s rest : List Nat} {neg : Bool} {n : Str} : 35 ∉ r → SepEnd r → n ∈ ss → NameOk n → 35 ∉ s → SepEnd s → LT ss rest → LT ss (r ++ pcs neg n s rest)
theorem name_35 {n : Str} (h : NameOk n) : 35 ∉ tl n := fun m => absurd (h.signs 35 m) (by decide +kernel)
theorem lit_35 {neg : Bool} {n : Str} (h : NameOk n) : 35 ∉ tl (litT neg n) := by
  cases neg with
  | false => exact name_35 h
  | true =>
    show 35 ∉ tl ("!" ++ n)
    rw [tl_append, tl_bang]
    intro m
    rcases List.mem_append.mp m with m | m
    · exact absurd m (by decide)
    · exact name_35 h m
theorem lit_names (neg : Bool) (n : Str) : (litF neg n).names = [n] := by cases neg <;> rfl
theorem lit_wt {neg : Bool} {n : Str} (h : NameOk n) : (litF neg n).wt ≤ 240 := by
  have := h.len
  cases neg with
  | false => show n.length + 5 ≤ 240; omega
  | true => show n.length + 5 + 10 ≤ 240; omega
theorem lit_lit {neg : Bool} {n : Str} (h : NameOk n) : (litF neg n).lit := ⟨n, h, by cases neg; exact .inl rfl; exact .inr rfl⟩
theorem LT.ok {ss : List Str} {l : List Nat} (h : LT ss l) : TextOk ss l := by
  induction h with
  | tail h => exact .tail h
  | @blk r s rest neg n h1 h2 h3 h4 h5 h6 _ ih =>
    have rt : RT (litT neg n) (litF neg n) := by
      rw [← lit_std]
      exact rt_std (fun z hz => by rw [lit_names] at hz; rw [List.mem_singleton.mp hz]; exact h4) (lit_wt h4)
    exact .blk h1 h2 (lit_35 h4) rt (lit_lit h4) (lit_wt h4) (fun y hy => by rw [lit_names] at hy; rw [List.mem_singleton.mp hy]; exact h3) h5 h6 ih
theorem LT.mono {ss ss' : List Str} {l : List Nat} (h : LT ss l) (m : ∀ n ∈ ss, n ∈ ss') : LT ss' l := by
  induction h with
  | tail h => exact .tail h
  | blk h1 h2 h3 h4 h5 h6 _ ih => exact .blk h1 h2 (m _ h3) h4 h5 h6 ih
/-- with a piece behind -/
theorem LT.app {ss : List Str} {l s rest : List Nat} {neg : Bool} {n : Str} (h : LT ss l) (h3 : n ∈ ss) (h4 : NameOk n) (h5 : 35 ∉ s) (h6 : SepEnd s) (hr : LT ss rest) : LT ss (l ++ 10 :: pcs neg n s rest) := by
  induction h with
  | @tail r h =>
    have e : r ++ 10 :: pcs neg n s rest = (r ++ [10]) ++ pcs neg n s rest := by rw [List.append_assoc]; rfl
    rw [e]
    refine .blk (fun m => ?_) (.inr ⟨r, 10, rfl, .inr rfl⟩) h3 h4 h5 h6 hr
    rcases List.mem_append.mp m with m | m
    · exact h m
    · exact absurd m (by decide)
  | @blk r s2 rest2 neg2 n2 a1 a2 a3 a4 a5 a6 _ ih =>
    have e : r ++ pcs neg2 n2 s2 rest2 ++ 10 :: pcs neg n s rest = r ++ pcs neg2 n2 s2 (rest2 ++ 10 :: pcs neg n s rest) := by
      unfold pcs
      simp only [List.append_assoc, List.cons_append]
    rw [e]
    exact .blk a1 a2 a3 a4 a5 a6 ih
theorem LT.pre {ss : List Str} {l s : List Nat} {neg : Bool} {n : Str} (h3 : n ∈ ss) (h4 : NameOk n) (h5 : 35 ∉ s) (h6 : SepEnd s) (hr : LT ss l) : LT ss (pcs neg n s l) := .blk (r := []) (fun m => by cases m) (.inl rfl) h3 h4 h5 h6 hr
theorem pcs_app (neg : Bool) (n : Str) (s r x : List Nat) : pcs neg n s r ++ x = pcs neg n s (r ++ x) := by
  unfold pcs
  simp only [List.append_assoc, List.cons_append]
/-- without a word in the text, its name may go -/
theorem LT.drop {ss : List Str} {l : List Nat} {z : Str} (h : LT ss l) (n : ∀ a b, l ≠ a ++ tl z ++ b) : LT (ss.filter (fun y => y != z)) l := by
  induction h with
  | tail h => exact .tail h
  | @blk r s rest neg nm a1 a2 a3 a4 a5 a6 _ ih =>
    refine .blk a1 a2 (List.mem_filter.mpr ⟨a3, ?_⟩) a4 a5 a6 (ih fun a b e => ?_)
    · rw [bne_iff_ne]
      intro e
      subst e
      have e2 : tl ("if " ++ litT neg nm) = (tl "if " ++ (if neg then [33] else [])) ++ tl nm := by
        cases neg with
        | false =>
          show tl ("if " ++ nm) = _
          rw [tl_append]
          simp
        | true =>
          show tl ("if " ++ ("!" ++ nm)) = _
          rw [tl_append, tl_append, tl_bang]
          simp
      refine n (r ++ 35 :: (tl "if " ++ (if neg then [33] else []))) (35 :: (s ++ 35 :: (tl "end" ++ 35 :: rest))) ?_
      unfold pcs
      rw [e2]
      simp only [List.append_assoc, List.cons_append]
    · refine n (r ++ 35 :: (tl ("if " ++ litT neg nm) ++ 35 :: (s ++ 35 :: (tl "end" ++ 35 :: a)))) b ?_
      rw [e]
      unfold pcs
      simp only [List.append_assoc, List.cons_append]
theorem pcs_len {neg : Bool} {n : Str} {s rest : List Nat} (h : n.length ≤ 8) (hs : s.length ≤ 8) : (pcs neg n s rest).length ≤ 30 + rest.length := by
  have e : (tl ("if " ++ litT neg n)).length ≤ 12 := by
    rw [← len_tl]
    cases neg with
    | false =>
      show ("if " ++ n).length ≤ 12
      rw [len_app, show ("if " : Str).length = 3 by decide +kernel]
      omega
    | true =>
      show ("if " ++ ("!" ++ n)).length ≤ 12
      rw [len_app, len_app, show ("if " : Str).length = 3 by decide +kernel, show ("!" : Str).length = 1 by decide +kernel]
      omega
  unfold pcs
  rw [tl_end]
  simp only [List.length_append, List.length_cons, List.length_nil]
  omega

/-! ### signs -/
abbrev sg (c : Nat) : Str := ⟨#[c]⟩
theorem tl_sg (c : Nat) : tl (sg c) = [c] := rfl
theorem tl_join0 : ∀ cs : List Nat, tl (Txt.join "" (cs.map sg)) = cs
  | [] => by decide +kernel
  | [c] => by
    show tl (Txt.join "" [sg c]) = [c]
    rw [join_eq]
    rfl
  | a :: b :: r => by
    show tl (Txt.join "" (sg a :: sg b :: r.map sg)) = a :: b :: r
    rw [join_more, tl_append, tl_append, show tl "" = [] by decide +kernel]
    have ih := tl_join0 (b :: r)
    rw [show (b :: r).map sg = sg b :: r.map sg from rfl] at ih
    rw [ih]
    rfl
theorem pick {z : Str} {r : Nat} (h : r < (tl z).length) : atI (tl z) (r : Int) = some ((tl z)[r]) := atI_nat (List.getElem?_eq_getElem h)
structure StrOk (l : List Nat) : Prop where
  few : l.length ≤ 8
  no : 35 ∉ l
  sep : SepEnd l
theorem sum_len : ∀ cs : List Nat, ((cs.map sg).map (·.length)).sum = cs.length
  | [] => rfl
  | c :: r => by
    show (sg c).length + ((r.map sg).map (·.length)).sum = r.length + 1
    rw [sum_len r]
    show 1 + r.length = r.length + 1
    omega
section
variable {P : Program} {w : World} {K : PySem.W.Frag} {mg : Str → Option Value} {base : Heap}
def spLString : Sp := fun vs H Q _ => ∃ (d t : Addr) (S : List Addr), vs = [.ref d, .ref t] ∧ Dr H d t S ∧ ∀ H' z, Rolls t H H' → StrOk (tl z) → Q (.str z) H'
theorem ok_law_string (T : Tx K mg) : FnOk P w K mg base CX0 2 T.a_law_string T.f_law_string ["draws", "at"] spLString := by
  refine T.F_law_string.ok sc_law_string (fun vs H Q E h => ?_) (fun cdv A outer s0 H vs Q E hr h => ?_)
  · obtain ⟨d, t, S, rfl, _⟩ := h
    rfl
  · obtain ⟨d, t, S, rfl, D, q⟩ := h
    refine ⟨_, (pss_cons (ps_set (i := 2) sc_law_string.nd rfl (.inl rfl) (pe_join pe_str (pe_lc (own := [("k", 3)]) (g := gName 3) (by rfl) sc_law_string.nd (pi_range1 (by rfl) T.b_range (pa_cons (pe_call (ok_law_take T) hr (by rfl) T.m_law_take T.F_law_take.kp T.B_law_take .nil pass0 (pa_cons (pv 0) (pa_cons (pv 1) (pa_cons pe_int pa_nil)))) pa_nil)) (blkOk_by (own := [("k", 3)]) (N := ["draws", "at", "body", "k"]) (sc := defScope s_law_string) (by decide +kernel)) (fun _ _ _ _ _ => (pg_name (i := 3) sc_law_string.nd rfl (.inl rfl) (.inr rfl))) (fun _ _ _ _ _ => pts_nil) (fun _ _ _ _ _ => (pe_ix ix_str pe_str (pe_call (ok_law_take T) hr (by rfl) T.m_law_take T.F_law_take.kp T.B_law_take .nil pass0 (pa_cons (pv 0) (pa_cons (pv 1) (pa_cons pe_int pa_nil)))) (fun _ _ => rfl)))))) (pss_one (ps_ret (pe_op op_add_str (pv 2) (pe_ix ix_str pe_str (pe_call (ok_law_take T) hr (by rfl) T.m_law_take T.F_law_take.kp T.B_law_take .nil pass0 (pa_cons (pv 0) (pa_cons (pv 1) (pa_cons pe_int pa_nil)))) (fun _ _ => rfl)))))), ?_⟩
    refine ⟨⟨_, rfl⟩, _, rfl, _, rfl, d, t, S, 8, rfl, D, by decide, fun H1 r ro hr8 => ⟨(r : Nat), rfl, by omega, by omega, fun Dd nD => ?_⟩⟩
    have D1 := D.roll ro
    refine lc_range (lo := 0) (n := r) (fun i H' => Rolls t H1 H' ∧ ∃ cs : List Nat, H' Dd = some (.lst ((cs.map sg).map V.str)) ∧ cs.length = i ∧ 35 ∉ cs) ⟨.same D1 (same_upd nD), [], upd_same, rfl, fun m => by cases m⟩ (fun i H' hi hP => ?_) fun H' hP => ?_
    · obtain ⟨ro', cs, hD, hcs, h35⟩ := hP
      have D' := D1.roll ro'
      refine ⟨rfl, _, rfl, _, rfl, d, t, S, 8, rfl, D', by decide, fun H4 r4 ro4 hr4 => ?_⟩
      have ls : (tl "ab c0\n=;").length = 8 := by decide +kernel
      have nDt : Dd ∉ [t] := fun z => by
        obtain ⟨k, hk⟩ := D1.cell
        rw [List.mem_singleton.mp z, hk] at nD
        cases nD
      refine ⟨"ab c0\n=;", (r4 : Nat), _, rfl, rfl, by decide +kernel, pick (by rw [ls]; exact hr4), _, ro4.1 _ _ nDt hD, ?_, ?_, cs ++ [(tl "ab c0\n=;")[r4]], ?_, ?_, ?_⟩
      · rw [List.length_map, List.length_map]
        exact small1000 (by omega)
      · refine ⟨fun b o n e => ?_, ?_⟩
        · rw [upd_ne (ne_of_none e nD)]
          exact (ro'.trans ro4).1 b o n e
        · obtain ⟨k, hk⟩ := ro4.2
          refine ⟨k, ?_⟩
          rw [upd_ne (fun z => nDt (by rw [z]; simp))]
          exact hk
      · rw [List.map_append, List.map_append]
        exact upd_same
      · rw [List.length_append, hcs]
        rfl
      · intro m
        rcases List.mem_append.mp m with m | m
        · exact h35 m
        · have all : ∀ c ∈ tl "ab c0\n=;", c ≠ 35 := by decide +kernel
          exact all _ (List.getElem_mem _) (List.mem_singleton.mp m).symm
    · obtain ⟨ro', cs, hD, hcs, h35⟩ := hP
      refine ⟨"", Dd, cs.map sg, rfl, rfl, .inl (.inl (.inl hD)), ?_, ?_⟩
      · rw [sum_len, List.length_map, show ("" : Str).length = 0 by decide +kernel]
        omega
      refine ⟨_, rfl, _, rfl, _, rfl, d, t, S, 2, rfl, D1.roll ro', by decide, fun H4 r4 ro4 hr4 => ?_⟩
      have ls : (tl " \n").length = 2 := by decide +kernel
      refine ⟨" \n", (r4 : Nat), _, rfl, rfl, by decide +kernel, pick (by rw [ls]; exact hr4), _, _, rfl, rfl, ?_, ?_⟩
      · rw [len_tl, tl_join0]
        show cs.length + 1 ≤ sizeLine
        exact Nat.le_of_lt (small1000 (by omega))
      · have all : ∀ c ∈ tl " \n", c = 32 ∨ c = 10 := by decide +kernel
        have hc := all _ (List.getElem_mem (l := tl " \n") (n := r4) (by rw [ls]; exact hr4))
        refine q _ _ (ro.trans (ro'.trans ro4)) ?_
        rw [tl_append, tl_join0, tl_sg]
        refine ⟨by rw [List.length_append]; show cs.length + 1 ≤ 8; omega, fun m => ?_, .inr ⟨cs, _, rfl, hc⟩⟩
        rcases List.mem_append.mp m with m | m
        · exact h35 m
        · rw [← List.mem_singleton.mp m] at hc
          exact absurd hc (by decide)
structure Nms (ns : List Str) : Prop where
  ok : ∀ n ∈ ns, NameOk n ∧ n.length ≤ 8
  nd : ns.Nodup
  pos : 1 ≤ ns.length
  few : ns.length ≤ 4
def spPiece (K : PySem.W.Frag) : Sp := fun vs H Q _ => ∃ (d t a : Addr) (S : List Addr) (ns : List Str), vs = [.ref d, .ref t, .ref a] ∧ Dr H d t S ∧ SqL K (hide S H) a (ns.map V.str) ∧ Nms ns ∧
  ∀ (H' : Hp) (z n : Str) (neg : Bool) (s : List Nat), Rolls t H H' → n ∈ ns → StrOk s → tl z = pcs neg n s [] → Q (.str z) H'
theorem ok_law_piece (T : Tx K mg) : FnOk P w K mg base CX0 4 T.a_law_piece T.f_law_piece ["draws", "at", "names"] (spPiece K) := by
  refine T.F_law_piece.ok sc_law_piece (fun vs H Q E h => ?_) (fun cdv A outer s0 H vs Q E hr h => ?_)
  · obtain ⟨d, t, a, S, ns, rfl, _⟩ := h
    rfl
  · obtain ⟨d, t, a, S, ns, rfl, D, ha, N, q⟩ := h
    have hr1 : Room 1 _ := hr.mono (by decide)
    have hr2 : Room 2 _ := hr.mono (by decide)
    refine ⟨_, (pss_cons (ps_set (i := 3) sc_law_piece.nd rfl (.inl rfl) (pe_tup (pa_cons pe_str (pa_cons (pe_ix ix_list (pv 2) (pe_call (ok_law_take T) hr1 (by rfl) T.m_law_take T.F_law_take.kp T.B_law_take .nil pass0 (pa_cons (pv 0) (pa_cons (pv 1) (pa_cons (pe_callB call_len_seq (by rfl) T.b_len (by decide +kernel) (pa_cons (pv 2) pa_nil)) pa_nil)))) (fun _ _ => rfl)) pa_nil))))
  (C8.pss_cut (ps_if (pt_cmpR op_eq (pe_call (ok_law_take T) hr1 (by rfl) T.m_law_take T.F_law_take.kp T.B_law_take .nil pass0 (pa_cons (pv 0) (pa_cons (pv 1) (pa_cons pe_int pa_nil)))) pe_int (nomark _)) (pss_one (ps_set (i := 3) sc_law_piece.nd rfl (.inl rfl) (pe_tup (pa_cons pe_str (pa_cons (pv 3) pa_nil))))) pss_nil) (pss_one (ps_ret (pe_op op_add_str (pe_op op_add_str (pe_op op_add_str (pe_op op_add_str pe_str (pe_call (ok_law_text T 3) hr (by rfl) T.m_law_text T.F_law_text.kp T.B_law_text .nil pass0 (pa_cons (pv 3) pa_nil))) pe_str) (pe_call (ok_law_string T) hr2 (by rfl) T.m_law_string T.F_law_string.kp T.B_law_string .nil pass0 (pa_cons (pv 0) (pa_cons (pv 1) pa_nil)))) pe_str))))), ?_⟩
    have ha0 : SqL K H a (ns.map V.str) := (hide_same S H).seq ha
    refine ⟨_, rfl, _, rfl, _, rfl, _, rfl, a, _, rfl, .inl ha0, d, t, S, ns.length, ?_, D, N.pos, fun H1 r1 ro1 hr1 => ?_⟩
    · exact congrArg (fun n : Nat => [V.ref d, .ref t, .int (n : Nat)]) (List.length_map ..)
    have ha1 : SqL K H1 a (ns.map V.str) := (hide_same S H1).seq ((ro1.hide D.t_in).seq ha)
    have hn : (ns.map V.str)[r1]? = some (.str ns[r1]) := by
      rw [List.getElem?_map, List.getElem?_eq_getElem hr1]
      rfl
    refine ⟨a, _, _, _, rfl, rfl, ha1, atI_nat hn, by show 2 ≤ sizeLine; decide, fun p np => ?_⟩
    have D1 := D.roll ro1
    have s2 := same_upd (o := .tup [.str "name", .str ns[r1]]) np
    have D2 := D1.same s2
    have mem := List.getElem_mem hr1
    generalize ns[r1] = n at *
    have nok := (N.ok n mem).1
    have n8 := (N.ok n mem).2
    refine ⟨fun σ' H' => ∃ (neg : Bool) (v : V), σ' = [some (.ref d), some (.ref t), some (.ref a), some v] ∧ Rolls t H H' ∧ Fml K H' (litF neg n) v, ?_, fun σ' H' hM => ?_⟩
    · refine ⟨_, rfl, _, rfl, d, t, S, 2, rfl, D2, by decide, fun H3 r3 ro3 hr3 => ?_⟩
      have ro : Rolls t H H3 := ro1.trans ((Rolls.same D1 s2).trans ro3)
      have pt : p ∉ [t] := fun z => by
        obtain ⟨k, hk⟩ := D1.cell
        rw [List.mem_singleton.mp z, hk] at np
        cases np
      have hp3 := ro3.1 _ _ pt upd_same
      refine ⟨rfl, decide ((r3 : Int) = 0), congrArg V.bl (by simp), ?_⟩
      by_cases e : (r3 : Int) = 0
      · rw [decide_eq_true e]
        refine (if_pos rfl).mpr ?_
        refine ⟨_, rfl, by show 2 ≤ sizeLine; decide, fun p4 np4 => ?_⟩
        have s4 := same_upd (o := .tup [.str "not", .ref p]) np4
        exact ⟨true, _, rfl, ro.trans (.same (D.roll ro) s4), p4, _, rfl, .inl (.inl upd_same), p, rfl, .inl (.inl (s4 _ _ hp3))⟩
      · rw [decide_eq_false e]
        refine (if_neg Bool.false_ne_true).mpr ?_
        exact ⟨false, _, rfl, ro, p, rfl, .inl (.inl hp3)⟩
    · obtain ⟨neg, v, rfl, ro, hf⟩ := hM
      have wt : (litF neg n).wt ≤ 1000 := Nat.le_trans (lit_wt nok) (by decide)
      have dp : (litF neg n).dep < 3 := by
        cases neg with
        | false => show (0 : Nat) < 3; decide
        | true => show (1 : Nat) < 3; decide
      have D' := D.roll ro
      have sl := (litF neg n).std_len
      have e1 : ("#if " : Str).length = 4 := by decide +kernel
      have e2 : ("#" : Str).length = 1 := by decide +kernel
      have e3 : ("#end#" : Str).length = 5 := by decide +kernel
      refine ⟨_, rfl, litF neg n, v, rfl, hf, dp, wt, fun H5 s5 => ?_⟩
      refine ⟨_, _, rfl, rfl, big_str (by omega), _, _, rfl, rfl, big_str (by rw [len_app]; omega), ?_⟩
      refine ⟨_, rfl, _, rfl, d, t, S, rfl, D'.same s5, fun H6 z ro6 sz => ?_⟩
      have zl : z.length ≤ 8 := by rw [len_tl]; exact sz.few
      refine ⟨_, _, rfl, rfl, big_str (by rw [len_app, len_app]; omega), _, _, rfl, rfl, big_str (by rw [len_app, len_app, len_app]; omega), ?_⟩
      refine q _ _ n neg (tl z) (ro.trans ((Rolls.same D' s5).trans ro6)) mem sz ?_
      rw [tl_append, tl_append, tl_append, tl_append, lit_std, show tl "#if " = 35 :: tl "if " by decide +kernel, show tl "#" = [35] by decide +kernel, show tl "#end#" = 35 :: (tl "end" ++ [35]) by decide +kernel]
      unfold pcs
      rw [tl_append]
      simp only [List.append_assoc, List.cons_append, List.nil_append]
end
end K77

set_option maxRecDepth 100000
set_option maxHeartbeats 4000000
/-! K8F: _law_tree. -/
namespace K77
open PySem PySem.Spec PyProof.Rows L2 KG TL

theorem Fm.dep_wt : ∀ f : Fm, 10 * f.dep ≤ f.wt
  | .yes => Nat.zero_le _
  | .no => Nat.zero_le _
  | .name z => Nat.zero_le _
  | .not f => by
    have := Fm.dep_wt f
    show 10 * (f.dep + 1) ≤ f.wt + 10
    omega
  | .and a b => by
    have := Fm.dep_wt a
    have := Fm.dep_wt b
    show 10 * (max a.dep b.dep + 1) ≤ a.wt + b.wt + 12
    omega
  | .or a b => by
    have := Fm.dep_wt a
    have := Fm.dep_wt b
    show 10 * (max a.dep b.dep + 1) ≤ a.wt + b.wt + 12
    omega
theorem tups_hupd {S : List Addr} {H : Hp} {p : Addr} {xs : List V} {o : HO} (h : H p = some (.lst xs)) : Tups (hide S H) (hide S (upd H p o)) := fun b ys e => by
  rcases e with e | ⟨x, e⟩
  · obtain ⟨n, e⟩ := hide_get e
    exact .inl ((hide_off n).trans ((upd_ne (ne_of e h (by intro z; cases z))).trans e))
  · obtain ⟨n, e⟩ := hide_get e
    exact .inr ⟨x, (hide_off n).trans ((upd_ne (ne_of e h (by intro z; cases z))).trans e)⟩
theorem tups_hnew {S : List Addr} {H : Hp} {p : Addr} {o : HO} (h : H p = none) : Tups (hide S H) (hide S (upd H p o)) := same_tups (same_hide (same_upd h))
theorem hnew {S : List Addr} {H : Hp} {p : Addr} {o : HO} (h : H p = none) (a : ∀ s ∈ S, H s ≠ none) : hide S (upd H p o) p = some o := (hide_off (fresh_off h a)).trans upd_same
theorem Dr.tups {H H' : Hp} {d t : Addr} {S : List Addr} (D : Dr H d t S) (r : Rolls t H H') : Tups (hide S H) (hide S H') := same_tups (r.hide D.t_in)
theorem Dr.ne {H : Hp} {d t p : Addr} {S : List Addr} (D : Dr H d t S) (h : H p = none) : p ≠ t := fun z => by
  obtain ⟨k, e⟩ := D.cell
  rw [z, e] at h
  cases h
/-- what stands, though p, new since H, changes -/
theorem Rolls.upd {H H' : Hp} {t p : Addr} {o : HO} (r : Rolls t H H') (h : H p = none) (n : p ≠ t) : Rolls t H (upd H' p o) :=
  ⟨fun b x nb e => (upd_ne (ne_of_none e h)).trans (r.1 b x nb e), let ⟨k, e⟩ := r.2; ⟨k, (upd_ne n.symm).trans e⟩⟩
theorem Rolls.keep {H H' : Hp} {t p : Addr} {o : HO} (r : Rolls t H H') (n : p ≠ t) (h : H p = some o) : H' p = some o := r.1 p o (fun z => n (List.mem_singleton.mp z)) h
def wsum (st : Stk) : Nat := (st.map fun p => p.1.wt + 12).sum
theorem wsum_cons (p : Fm × V) (st : Stk) : wsum (p :: st) = p.1.wt + 12 + wsum st := by simp [wsum]
/-- the parts of a tree in the making -/
structure PT0 (K : PySem.W.Frag) (G : Hp) (ns : List Str) (st : Stk) : Prop where
  fml : ∀ x ∈ st, Fml K G x.1 x.2 ∧ ∀ y ∈ x.1.names, y ∈ ns
theorem PT0.keep {K : PySem.W.Frag} {G G' : Hp} {ns : List Str} {st : Stk} (h : PT0 K G ns st) (t : Tups G G') : PT0 K G' ns st := ⟨fun x hx => ⟨(h.fml x hx).1.keep t, (h.fml x hx).2⟩⟩
theorem PT0.push {K : PySem.W.Frag} {G : Hp} {ns : List Str} {st : Stk} {f : Fm} {v : V} (h : PT0 K G ns st) (hf : Fml K G f v) (hn : ∀ y ∈ f.names, y ∈ ns) : PT0 K G ns ((f, v) :: st) := ⟨fun x hx => by
  rcases List.mem_cons.mp hx with rfl | hx
  · exact ⟨hf, hn⟩
  · exact h.fml x hx⟩
theorem PT0.tail {K : PySem.W.Frag} {G : Hp} {ns : List Str} {st : Stk} {p : Fm × V} (h : PT0 K G ns (p :: st)) : PT0 K G ns st := ⟨fun x hx => h.fml x (.tail _ hx)⟩
def bin (r : Nat) (f g : Fm) : Fm := if r = 0 then .and f g else .or f g
theorem bin_wt (r : Nat) (f g : Fm) : (bin r f g).wt = f.wt + g.wt + 12 := by unfold bin; split <;> rfl
theorem bin_names (r : Nat) (f g : Fm) : (bin r f g).names = f.names ++ g.names := by unfold bin; split <;> rfl
theorem bin_fml {K : PySem.W.Frag} {G : Hp} {r : Nat} {f g : Fm} {u x : V} {q : Addr} (hq : SqT K G q [.str (if r = 0 then "and" else "or"), u, x]) (hf : Fml K G f u) (hg : Fml K G g x) : Fml K G (bin r f g) (.ref q) := by
  unfold bin
  by_cases h : r = 0
  · rw [if_pos h] at hq ⊢
    exact ⟨q, u, x, rfl, hq, hf, hg⟩
  · rw [if_neg h] at hq ⊢
    exact ⟨q, u, x, rfl, hq, hf, hg⟩
/-- the last two become one: what is known on the way -/
theorem join_mid {H Hx Hc : Hp} {d t p0 pl : Addr} {S : List Addr} {xs : List V} {o : HO} (D : Dr H d t S) (n0 : H p0 = none) (rx : Rolls t H Hx) (npl : (upd Hx p0 (.lst xs)) pl = none)
    (ro : Rolls t (upd (upd Hx p0 (.lst xs)) pl o) Hc) : Rolls t H Hc ∧ Hc p0 = some (.lst xs) ∧ Hc pl = some o ∧ Tups (hide S (upd Hx p0 (.lst xs))) (hide S Hc) := by
  have n0t := D.ne n0
  have rA : Rolls t H (upd Hx p0 (.lst xs)) := rx.upd n0 n0t
  have DA := D.roll rA
  have nplt := DA.ne npl
  have DB := DA.same (same_upd (o := o) npl)
  have hB : (upd (upd Hx p0 (.lst xs)) pl o) p0 = some (.lst xs) := same_upd npl _ _ upd_same
  exact ⟨rA.trans ((Rolls.same DA (same_upd npl)).trans ro), ro.keep n0t hB, ro.keep nplt upd_same, (tups_hnew npl).trans (DB.tups ro)⟩
theorem join_end {K : PySem.W.Frag} {H Hx Hc : Hp} {d t p0 pl q : Addr} {S : List Addr} {ns : List Str} {st : Stk} {f g : Fm} {u x : V} {r : Nat} {o : HO} (D : Dr H d t S) (n0 : H p0 = none) (rx : Rolls t H Hx) (hx : Hx p0 = some (.lst (Stk.vs st ++ [u] ++ [x])))
    (pt : PT0 K (hide S Hx) ns ((g, x) :: (f, u) :: st)) (npl : (upd Hx p0 (.lst (Stk.vs st ++ [u]))) pl = none) (ro : Rolls t (upd (upd Hx p0 (.lst (Stk.vs st ++ [u]))) pl o) Hc) (nq : (upd Hc p0 (.lst (Stk.vs st))) q = none) :
    Rolls t H (upd (upd (upd Hc p0 (.lst (Stk.vs st))) q (.tup [.str (if r = 0 then "and" else "or"), u, x])) p0 (.lst (Stk.vs st ++ [.ref q]))) ∧
      PT0 K (hide S (upd (upd (upd Hc p0 (.lst (Stk.vs st))) q (.tup [.str (if r = 0 then "and" else "or"), u, x])) p0 (.lst (Stk.vs st ++ [.ref q])))) ns ((bin r f g, .ref q) :: st) := by
  have n0t := D.ne n0
  obtain ⟨rC, hC, _, tC⟩ := join_mid D n0 rx npl ro
  have DC := D.roll rC
  have rD : Rolls t H (upd Hc p0 (.lst (Stk.vs st))) := rC.upd n0 n0t
  have DD := D.roll rD
  have rE := rD.trans (Rolls.same DD (same_upd (o := .tup [.str (if r = 0 then "and" else "or"), u, x]) nq))
  have hE : (upd (upd Hc p0 (.lst (Stk.vs st))) q (.tup [.str (if r = 0 then "and" else "or"), u, x])) p0 = some (.lst (Stk.vs st)) := same_upd nq _ _ upd_same
  have tAll : Tups (hide S Hx) (hide S (upd (upd (upd Hc p0 (.lst (Stk.vs st))) q (.tup [.str (if r = 0 then "and" else "or"), u, x])) p0 (.lst (Stk.vs st ++ [.ref q])))) :=
    (tups_hupd hx).trans (tC.trans ((tups_hupd hC).trans ((tups_hnew nq).trans (tups_hupd hE))))
  have pt2 := pt.keep tAll
  have hq : SqT K (hide S (upd (upd (upd Hc p0 (.lst (Stk.vs st))) q (.tup [.str (if r = 0 then "and" else "or"), u, x])) p0 (.lst (Stk.vs st ++ [.ref q])))) q [.str (if r = 0 then "and" else "or"), u, x] :=
    (tups_hupd hE).seqT (.inl (.inl (hnew nq DD.all)))
  refine ⟨rE.upd n0 n0t, pt2.tail.tail.push (bin_fml hq (pt2.fml _ (.tail _ (.head _))).1 (pt2.fml _ (.head _)).1) fun y hy => ?_⟩
  rw [bin_names] at hy
  rcases List.mem_append.mp hy with hy | hy
  · exact (pt2.fml _ (.tail _ (.head _))).2 y hy
  · exact (pt2.fml _ (.head _)).2 y hy
section
variable {P : Program} {w : World} {K : PySem.W.Frag} {mg : Str → Option Value} {base : Heap}
def spTree (K : PySem.W.Frag) : Sp := fun vs H Q _ => ∃ (d t a : Addr) (S : List Addr) (ns : List Str), vs = [.ref d, .ref t, .ref a] ∧ Dr H d t S ∧ SqL K (hide S H) a (ns.map V.str) ∧ Nms ns ∧
  ∀ (H' : Hp) (f : Fm) (v : V), Rolls t H H' → Fml K (hide S H') f v → f.wt ≤ 138 → (∀ y ∈ f.names, y ∈ ns) → Q v H'
theorem ok_law_tree (T : Tx K mg) : FnOk P w K mg base CX0 2 T.a_law_tree T.f_law_tree ["draws", "at", "names"] (spTree K) := by
  refine T.F_law_tree.ok sc_law_tree (fun vs H Q E h => ?_) (fun cdv A outer s0 H vs Q E hr h => ?_)
  · obtain ⟨d, t, a, S, ns, rfl, _⟩ := h
    rfl
  · obtain ⟨d, t, a, S, ns, rfl, D, ha, N, q⟩ := h
    refine ⟨_, (pss_cons (ps_set (i := 3) sc_law_tree.nd rfl (.inl rfl) (pe_lst pa_nil)) 
  (pss_cons (ps_for PassesOwn.never rfl (pi_range1 (by rfl) T.b_range (pa_cons (pe_op op_add pe_int (pe_call (ok_law_take T) hr (by rfl) T.m_law_take T.F_law_take.kp T.B_law_take .nil pass0 (pa_cons (pv 0) (pa_cons (pv 1) (pa_cons pe_int pa_nil))))) pa_nil)) (pg_name (i := 4) sc_law_tree.nd rfl (.inl rfl)) 
    (pss_cons (ps_set (i := 5) sc_law_tree.nd rfl (.inl rfl) (pe_call (ok_law_take T) hr (by rfl) T.m_law_take T.F_law_take.kp T.B_law_take .nil pass0 (pa_cons (pv 0) (pa_cons (pv 1) (pa_cons pe_int pa_nil))))) (pss_one (ps_if (PW.pt (pw_or (pt_cmpR op_lt (pv 5) pe_int (nomark _)) (pw_or1 (pt_cmpR op_eq (pe_callB call_len_seq (by rfl) T.b_len (by decide +kernel) (pa_cons (pv 3) pa_nil)) pe_int (nomark _))))) (pss_one (ps_expr (pe_bm PySem.F.plainAttrs_list PySem.F.slot_list_append PySem.F.type_list_append mt_append (pv 3) (pa_cons (pe_tup (pa_cons pe_str (pa_cons (pe_ix ix_list (pv 2) (pe_call (ok_law_take T) hr (by rfl) T.m_law_take T.F_law_take.kp T.B_law_take .nil pass0 (pa_cons (pv 0) (pa_cons (pv 1) (pa_cons (pe_callB call_len_seq (by rfl) T.b_len (by decide +kernel) (pa_cons (pv 2) pa_nil)) pa_nil)))) (fun _ _ => rfl)) pa_nil))) pa_nil)))) (pss_one (ps_if (pt_cmpR op_eq (pv 5) pe_int (nomark _)) (pss_one (ps_expr (pe_bm PySem.F.plainAttrs_list PySem.F.slot_list_append PySem.F.type_list_append mt_append (pv 3) (pa_cons (pe_ix ix_list (pe_lst (pa_cons (pe_tup (pa_cons pe_str pa_nil)) (pa_cons (pe_tup (pa_cons pe_str pa_nil)) pa_nil))) (pe_call (ok_law_take T) hr (by rfl) T.m_law_take T.F_law_take.kp T.B_law_take .nil pass0 (pa_cons (pv 0) (pa_cons (pv 1) (pa_cons pe_int pa_nil)))) (fun _ _ => rfl)) pa_nil)))) (pss_one (ps_if (pt_cmpR op_lt (pv 5) pe_int (nomark _)) (pss_one (ps_expr (pe_bm PySem.F.plainAttrs_list PySem.F.slot_list_append PySem.F.type_list_append mt_append (pv 3) (pa_cons (pe_tup (pa_cons pe_str (pa_cons (pe_bm0 PySem.F.plainAttrs_list PySem.F.slot_list_pop PySem.F.type_list_pop mt_pop (pv 3)) pa_nil))) pa_nil)))) (pss_one (ps_if (pt_cmpR op_gt (pe_callB call_len_seq (by rfl) T.b_len (by decide +kernel) (pa_cons (pv 3) pa_nil)) pe_int (nomark _)) 
            (pss_cons (ps_set (i := 6) sc_law_tree.nd rfl (.inl rfl) (pe_bm0 PySem.F.plainAttrs_list PySem.F.slot_list_pop PySem.F.type_list_pop mt_pop (pv 3))) (pss_one (ps_expr (pe_bm PySem.F.plainAttrs_list PySem.F.slot_list_append PySem.F.type_list_append mt_append (pv 3) (pa_cons (pe_tup (pa_cons (pe_ix ix_list (pe_lst (pa_cons pe_str (pa_cons pe_str pa_nil))) (pe_call (ok_law_take T) hr (by rfl) T.m_law_take T.F_law_take.kp T.B_law_take .nil pass0 (pa_cons (pv 0) (pa_cons (pv 1) (pa_cons pe_int pa_nil)))) (fun _ _ => rfl)) (pa_cons (pe_bm0 PySem.F.plainAttrs_list PySem.F.slot_list_pop PySem.F.type_list_pop mt_pop (pv 3)) (pa_cons (pv 6) pa_nil)))) pa_nil))))) pss_nil)))))))))) 
  (pss_cons (ps_for PassesOwn.never rfl (pi_range1 (by rfl) T.b_range (pa_cons (pe_op op_sub (pe_callB call_len_seq (by rfl) T.b_len (by decide +kernel) (pa_cons (pv 3) pa_nil)) pe_int) pa_nil)) (pg_name (i := 4) sc_law_tree.nd rfl (.inl rfl)) 
    (pss_cons (ps_set (i := 6) sc_law_tree.nd rfl (.inl rfl) (pe_bm0 PySem.F.plainAttrs_list PySem.F.slot_list_pop PySem.F.type_list_pop mt_pop (pv 3))) (pss_one (ps_expr (pe_bm PySem.F.plainAttrs_list PySem.F.slot_list_append PySem.F.type_list_append mt_append (pv 3) (pa_cons (pe_tup (pa_cons (pe_ix ix_list (pe_lst (pa_cons pe_str (pa_cons pe_str pa_nil))) (pe_call (ok_law_take T) hr (by rfl) T.m_law_take T.F_law_take.kp T.B_law_take .nil pass0 (pa_cons (pv 0) (pa_cons (pv 1) (pa_cons pe_int pa_nil)))) (fun _ _ => rfl)) (pa_cons (pe_bm0 PySem.F.plainAttrs_list PySem.F.slot_list_pop PySem.F.type_list_pop mt_pop (pv 3)) (pa_cons (pv 6) pa_nil)))) pa_nil)))))) (pss_one (ps_ret (pe_ix ix_list (pv 3) pe_int (fun _ _ => rfl))))))), ?_⟩
    refine ⟨Nat.zero_le _, fun p0 n0 => ?_⟩
    have one : 1 ≤ sizeLine := by decide
    have two : 2 ≤ sizeLine := by decide
    have three : 3 ≤ sizeLine := by decide
    have n0t := D.ne n0
    have D0 := D.same (same_upd (o := .lst []) n0)
    refine ⟨_, rfl, _, rfl, d, t, S, 6, rfl, D0, by decide, fun H1 r1 ro1 hr1 => ⟨1, (r1 : Nat), rfl, rfl, ((r1 + 1 : Nat) : Int), congrArg (fun i : Int => [V.int i]) (by omega), by omega, by omega, ?_⟩⟩
    have ro : Rolls t H H1 := (Rolls.same D (same_upd n0)).trans ro1
    have hp1 : H1 p0 = some (.lst []) := ro1.keep n0t upd_same
    have off0 : p0 ∉ S := fresh_off n0 D.all
    have namesAt : ∀ {H' : Hp}, Rolls t H H' → SqL K H' a (ns.map V.str) := fun r => (hide_same S _).seq ((r.hide D.t_in).seq ha)
    refine for_range (lo := 0) (n := r1 + 1) (fun i σ H' => ∃ (st : Stk) (y4 y5 y6 : Option V), σ = [some (.ref d), some (.ref t), some (.ref a), some (.ref p0), y4, y5, y6] ∧ Rolls t H H' ∧ H' p0 = some (.lst (Stk.vs st)) ∧ PT0 K (hide S H') ns st ∧ wsum st ≤ 25 * i ∧ st.length ≤ i ∧ (1 ≤ i → 1 ≤ st.length))
      ⟨[], none, none, none, rfl, ro, hp1, ⟨fun x hx => by cases hx⟩, Nat.zero_le _, Nat.zero_le _, fun z => absurd z (by decide)⟩ (fun i σ H2 hi hP => ?_) fun σ H2 hP => ?_
    · obtain ⟨st, y4, y5, y6, rfl, ro2, hp2, pt, wt, sl, pos⟩ := hP
      have D2 := D.roll ro2
      have svl := stk_len st
      refine ⟨_, rfl, _, rfl, d, t, S, 9, rfl, D2, by decide, fun H3 r3 ro3 hr3 => ?_⟩
      have ro3' := ro2.trans ro3
      have D3 := D.roll ro3'
      have hp3 := ro3.keep n0t hp2
      have pt3 := pt.keep (D2.tups ro3)
      refine ⟨_, rfl, _, _, rfl, rfl, decide ((r3 : Int) < 3), rfl, ?_⟩
      by_cases h3 : (r3 : Int) < 3
      · rw [decide_eq_true h3]
        refine (if_pos rfl).mpr ((if_pos rfl).mpr ?_)
        refine ⟨_, rfl, .inl ⟨rfl, _, .inl (.inl hp3)⟩, _, rfl, _, rfl, _, rfl, _, rfl, a, _, rfl, .inl (namesAt ro3'), d, t, S, ns.length, congrArg (fun n : Nat => [V.ref d, .ref t, .int (n : Nat)]) (List.length_map ..), D3, N.pos, fun H4 r4 ro4 hr4 => ?_⟩
        have hn : (ns.map V.str)[r4]? = some (.str ns[r4]) := by
          rw [List.getElem?_map, List.getElem?_eq_getElem hr4]
          rfl
        have ro4' := ro3'.trans ro4
        refine ⟨a, _, _, _, rfl, rfl, namesAt ro4', atI_nat hn, two, fun q nq => ?_⟩
        have hp4 := ro4.keep n0t hp3
        have D4 := D.roll ro4'
        have hp5 : (upd H4 q (.tup [.str "name", .str ns[r4]])) p0 = some (.lst (Stk.vs st)) := same_upd nq _ _ hp4
        refine ⟨p0, _, _, rfl, rfl, hp5, small1000 (by omega), (.name ns[r4], .ref q) :: st, _, _, _, rfl, (ro4'.trans (.same D4 (same_upd nq))).upd n0 n0t, by rw [stk_vs]; exact upd_same, ?_, ?_, by show st.length + 1 ≤ i + 1; omega, fun _ => by show 1 ≤ st.length + 1; omega⟩
        · exact (pt3.keep ((D3.tups ro4).trans ((tups_hnew nq).trans (tups_hupd hp5)))).push ⟨q, rfl, (tups_hupd hp5).seqT (.inl (.inl (hnew nq D4.all)))⟩ (fun y hy => by rw [List.mem_singleton.mp hy]; exact List.getElem_mem hr4)
        · rw [wsum_cons]
          show ns[r4].length + 5 + 12 + wsum st ≤ 25 * (i + 1)
          have := (N.ok _ (List.getElem_mem hr4)).2
          omega
      rw [decide_eq_false h3]
      refine (if_neg Bool.false_ne_true).mpr ?_
      refine ⟨_, rfl, p0, _, rfl, .inl (.inl (.inl hp3)), rfl, decide (st.length = 0), congrArg V.bl (by rw [stk_len]; simp), ?_⟩
      by_cases h0 : st.length = 0
      · rw [decide_eq_true h0]
        refine (if_pos rfl).mpr ?_
        refine ⟨_, rfl, .inl ⟨rfl, _, .inl (.inl hp3)⟩, _, rfl, _, rfl, _, rfl, _, rfl, a, _, rfl, .inl (namesAt ro3'), d, t, S, ns.length, congrArg (fun n : Nat => [V.ref d, .ref t, .int (n : Nat)]) (List.length_map ..), D3, N.pos, fun H4 r4 ro4 hr4 => ?_⟩
        have hn : (ns.map V.str)[r4]? = some (.str ns[r4]) := by
          rw [List.getElem?_map, List.getElem?_eq_getElem hr4]
          rfl
        have ro4' := ro3'.trans ro4
        refine ⟨a, _, _, _, rfl, rfl, namesAt ro4', atI_nat hn, two, fun q nq => ?_⟩
        have hp4 := ro4.keep n0t hp3
        have D4 := D.roll ro4'
        have hp5 : (upd H4 q (.tup [.str "name", .str ns[r4]])) p0 = some (.lst (Stk.vs st)) := same_upd nq _ _ hp4
        refine ⟨p0, _, _, rfl, rfl, hp5, small1000 (by omega), (.name ns[r4], .ref q) :: st, _, _, _, rfl, (ro4'.trans (.same D4 (same_upd nq))).upd n0 n0t, by rw [stk_vs]; exact upd_same, ?_, ?_, by show st.length + 1 ≤ i + 1; omega, fun _ => by show 1 ≤ st.length + 1; omega⟩
        · exact (pt3.keep ((D3.tups ro4).trans ((tups_hnew nq).trans (tups_hupd hp5)))).push ⟨q, rfl, (tups_hupd hp5).seqT (.inl (.inl (hnew nq D4.all)))⟩ (fun y hy => by rw [List.mem_singleton.mp hy]; exact List.getElem_mem hr4)
        · rw [wsum_cons]
          show ns[r4].length + 5 + 12 + wsum st ≤ 25 * (i + 1)
          have := (N.ok _ (List.getElem_mem hr4)).2
          omega
      rw [decide_eq_false h0]
      refine (if_neg Bool.false_ne_true).mpr ?_
      refine ⟨_, rfl, rfl, decide ((r3 : Int) = 3), congrArg V.bl (by simp), ?_⟩
      by_cases h33 : (r3 : Int) = 3
      · rw [decide_eq_true h33]
        refine (if_pos rfl).mpr ?_
        refine ⟨_, rfl, .inl ⟨rfl, _, .inl (.inl hp3)⟩, one, fun q1 nq1 => ⟨one, fun q2 nq2 => ⟨two, fun q3 nq3 => ?_⟩⟩⟩
        have s1 := same_upd (o := .tup [.str "yes"]) nq1
        have s2 := same_upd (o := .tup [.str "no"]) nq2
        have s3 := same_upd (o := .lst [.ref q1, .ref q2]) nq3
        have r123 := (Rolls.same D3 s1).trans ((Rolls.same (D3.same s1) s2).trans (.same ((D3.same s1).same s2) s3))
        have D5 := D3.roll r123
        refine ⟨_, rfl, _, rfl, d, t, S, 2, rfl, D5, by decide, fun H6 r6 ro6 hr6 => ?_⟩
        have rA := ro3'.trans (r123.trans ro6)
        have hq3 := ro6.keep (((D3.same s1).same s2).ne nq3) upd_same
        have hp6 : H6 p0 = some (.lst (Stk.vs st)) := (r123.trans ro6).keep n0t hp3
        have pt6 := pt3.keep (D3.tups (r123.trans ro6))
        have tq := same_tups (same_hide (S := S) s3)
        have f1 : Fml K (hide S H6) .yes (.ref q1) := ⟨q1, rfl, ((same_tups (same_hide (S := S) s2)).trans (tq.trans (D5.tups ro6))).seqT (.inl (.inl (hnew nq1 D3.all)))⟩
        have f2 : Fml K (hide S H6) .no (.ref q2) := ⟨q2, rfl, (tq.trans (D5.tups ro6)).seqT (.inl (.inl (hnew nq2 (D3.same s1).all)))⟩
        have tF := tups_hupd (S := S) (o := .lst (Stk.vs st ++ [.ref (if r6 = 0 then q1 else q2)])) hp6
        refine ⟨q3, _, _, .ref (if r6 = 0 then q1 else q2), rfl, rfl, .inl (.inl hq3), atI_nat (j := r6) ?_, p0, _, _, rfl, rfl, hp6, small1000 (by omega), ((if r6 = 0 then .yes else .no), .ref (if r6 = 0 then q1 else q2)) :: st, _, _, _, rfl, rA.upd n0 n0t, by rw [stk_vs]; exact upd_same, ?_, ?_, by show st.length + 1 ≤ i + 1; omega, fun _ => by show 1 ≤ st.length + 1; omega⟩
        · rcases (by omega : r6 = 0 ∨ r6 = 1) with rfl | rfl <;> rfl
        · rcases (by omega : r6 = 0 ∨ r6 = 1) with rfl | rfl
          · exact (pt6.keep tF).push (f1.keep tF) (fun y hy => by cases hy)
          · exact (pt6.keep tF).push (f2.keep tF) (fun y hy => by cases hy)
        · rw [wsum_cons]
          rcases (by omega : r6 = 0 ∨ r6 = 1) with rfl | rfl
          · show 6 + 12 + wsum st ≤ 25 * (i + 1)
            omega
          · show 6 + 12 + wsum st ≤ 25 * (i + 1)
            omega
      rw [decide_eq_false h33]
      refine (if_neg Bool.false_ne_true).mpr ?_
      refine ⟨_, rfl, _, _, rfl, rfl, decide ((r3 : Int) < 6), rfl, ?_⟩
      by_cases h6 : (r3 : Int) < 6
      · rw [decide_eq_true h6]
        refine (if_pos rfl).mpr ?_
        match st, h0 with
        | (f, u) :: st, _ =>
        rw [stk_vs] at hp3
        refine ⟨_, rfl, .inl ⟨rfl, _, .inl (.inl hp3)⟩, _, rfl, .inl ⟨rfl, _, .inl (.inl hp3)⟩, p0, _, _, rfl, rfl, hp3, last_of, ?_⟩
        rw [List.dropLast_concat]
        refine ⟨two, fun q nq => ?_⟩
        have rA := ro3'.upd (o := .lst (Stk.vs st)) n0 n0t
        have DA := D.roll rA
        have hp4 : (upd (upd H3 p0 (.lst (Stk.vs st))) q (.tup [.str "not", u])) p0 = some (.lst (Stk.vs st)) := same_upd nq _ _ upd_same
        have sl : st.length + 1 ≤ i := sl
        have tA := (tups_hupd (S := S) (o := .lst (Stk.vs st)) hp3).trans ((tups_hnew nq).trans (tups_hupd (o := .lst (Stk.vs st ++ [.ref q])) hp4))
        refine ⟨p0, _, _, rfl, rfl, hp4, small1000 (by rw [stk_len]; omega), (.not f, .ref q) :: st, _, _, _, rfl, (rA.trans (.same DA (same_upd nq))).upd n0 n0t, by rw [stk_vs]; exact upd_same, ?_, ?_, by show st.length + 1 ≤ i + 1; omega, fun _ => by show 1 ≤ st.length + 1; omega⟩
        · have pt4 := pt3.keep tA
          exact pt4.tail.push ⟨q, u, rfl, (tups_hupd hp4).seqT (.inl (.inl (hnew nq DA.all))), (pt4.fml _ (.head _)).1⟩ (pt4.fml _ (.head _)).2
        · rw [wsum_cons] at wt ⊢
          show f.wt + 10 + 12 + wsum st ≤ 25 * (i + 1)
          have wt : f.wt + 12 + wsum st ≤ 25 * i := wt
          omega
      rw [decide_eq_false h6]
      refine (if_neg Bool.false_ne_true).mpr ?_
      refine ⟨_, rfl, p0, _, rfl, .inl (.inl (.inl hp3)), _, _, rfl, rfl, decide (1 < st.length), congrArg V.bl (by rw [stk_len]; exact decide_eq_decide.mpr (by omega)), ?_⟩
      by_cases h1 : 1 < st.length
      · rw [decide_eq_true h1]
        refine (if_pos rfl).mpr ?_
        match st, h1 with
        | (g, x) :: (f, u) :: st, _ =>
        rw [stk_vs, stk_vs] at hp3
        refine ⟨_, rfl, .inl ⟨rfl, _, .inl (.inl hp3)⟩, p0, _, _, rfl, rfl, hp3, last_of, ?_⟩
        rw [List.dropLast_concat]
        refine ⟨_, rfl, .inl ⟨rfl, _, .inl (.inl upd_same)⟩, two, fun pl npl => ?_⟩
        have DB := (D.roll (ro3'.upd (o := .lst (Stk.vs st ++ [u])) n0 n0t)).same (same_upd (o := .lst [.str "and", .str "or"]) npl)
        refine ⟨_, rfl, _, rfl, d, t, S, 2, rfl, DB, by decide, fun Hc rb rob hrb => ?_⟩
        obtain ⟨_, hC, hpl, _⟩ := join_mid (S := S) D n0 ro3' npl rob
        refine ⟨pl, _, _, .str (if rb = 0 then "and" else "or"), rfl, rfl, .inl (.inl hpl), atI_nat (j := rb) ?_, _, rfl, .inl ⟨rfl, _, .inl (.inl hC)⟩, p0, _, _, rfl, rfl, hC, last_of, ?_⟩
        · rcases (by omega : rb = 0 ∨ rb = 1) with rfl | rfl <;> rfl
        rw [List.dropLast_concat]
        refine ⟨_, rfl, three, fun q nq => ?_⟩
        obtain ⟨rF, ptF⟩ := join_end (r := rb) D n0 ro3' hp3 pt3 npl rob nq
        have sl : st.length + 1 + 1 ≤ i := sl
        refine ⟨p0, _, _, rfl, rfl, same_upd nq _ _ upd_same, small1000 (by rw [stk_len]; omega), (bin rb f g, .ref q) :: st, _, _, _, rfl, rF, by rw [stk_vs]; exact upd_same, ptF, ?_, by show st.length + 1 ≤ i + 1; omega, fun _ => by show 1 ≤ st.length + 1; omega⟩
        rw [wsum_cons, wsum_cons] at wt
        rw [wsum_cons]
        show (bin rb f g).wt + 12 + wsum st ≤ 25 * (i + 1)
        rw [bin_wt]
        have wt : g.wt + 12 + (f.wt + 12 + wsum st) ≤ 25 * i := wt
        omega
      · rw [decide_eq_false h1]
        refine (if_neg Bool.false_ne_true).mpr ?_
        exact ⟨st, _, _, _, rfl, ro3', hp3, pt3, by omega, by omega, fun _ => by omega⟩
    · obtain ⟨st, y4, y5, y6, rfl, ro2, hp2, pt, wt, sl, pos⟩ := hP
      have pos := pos (by omega)
      have svl := stk_len st
      have wt150 : wsum st ≤ 150 := by omega
      refine ⟨_, rfl, p0, _, rfl, .inl (.inl (.inl hp2)), _, _, rfl, rfl, ((st.length - 1 : Nat) : Int), congrArg (fun i : Int => [V.int i]) (by rw [stk_len]; omega), by omega, by omega, ?_⟩
      refine for_range (lo := 0) (n := st.length - 1) (fun i σ H' => ∃ (st' : Stk) (y4 y5 y6 : Option V), σ = [some (.ref d), some (.ref t), some (.ref a), some (.ref p0), y4, y5, y6] ∧ Rolls t H H' ∧ H' p0 = some (.lst (Stk.vs st')) ∧ PT0 K (hide S H') ns st' ∧ wsum st' ≤ 150 ∧ st'.length + i = st.length)
        ⟨st, _, _, _, rfl, ro2, hp2, pt, wt150, rfl⟩ (fun i σ H3 hi hP => ?_) fun σ H3 hP => ?_
      · obtain ⟨st', y4, y5, y6, rfl, ro3', hp3, pt3, wt3, sl3⟩ := hP
        match st', (show 1 < st'.length by omega) with
        | (g, x) :: (f, u) :: st', _ =>
        rw [stk_vs, stk_vs] at hp3
        refine ⟨_, rfl, .inl ⟨rfl, _, .inl (.inl hp3)⟩, p0, _, _, rfl, rfl, hp3, last_of, ?_⟩
        rw [List.dropLast_concat]
        refine ⟨_, rfl, .inl ⟨rfl, _, .inl (.inl upd_same)⟩, two, fun pl npl => ?_⟩
        have DB := (D.roll (ro3'.upd (o := .lst (Stk.vs st' ++ [u])) n0 n0t)).same (same_upd (o := .lst [.str "and", .str "or"]) npl)
        refine ⟨_, rfl, _, rfl, d, t, S, 2, rfl, DB, by decide, fun Hc rb rob hrb => ?_⟩
        obtain ⟨_, hC, hpl, _⟩ := join_mid (S := S) D n0 ro3' npl rob
        refine ⟨pl, _, _, .str (if rb = 0 then "and" else "or"), rfl, rfl, .inl (.inl hpl), atI_nat (j := rb) ?_, _, rfl, .inl ⟨rfl, _, .inl (.inl hC)⟩, p0, _, _, rfl, rfl, hC, last_of, ?_⟩
        · rcases (by omega : rb = 0 ∨ rb = 1) with rfl | rfl <;> rfl
        rw [List.dropLast_concat]
        refine ⟨_, rfl, three, fun q nq => ?_⟩
        obtain ⟨rF, ptF⟩ := join_end (r := rb) D n0 ro3' hp3 pt3 npl rob nq
        have sl3 : st'.length + 1 + 1 + i = st.length := sl3
        refine ⟨p0, _, _, rfl, rfl, same_upd nq _ _ upd_same, small1000 (by rw [stk_len]; omega), (bin rb f g, .ref q) :: st', _, _, _, rfl, rF, by rw [stk_vs]; exact upd_same, ptF, ?_, by show st'.length + 1 + (i + 1) = st.length; omega⟩
        rw [wsum_cons, wsum_cons] at wt3
        rw [wsum_cons]
        show (bin rb f g).wt + 12 + wsum st' ≤ 150
        rw [bin_wt]
        have wt3 : g.wt + 12 + (f.wt + 12 + wsum st') ≤ 150 := wt3
        omega
      · obtain ⟨st', y4, y5, y6, rfl, ro3', hp3, pt3, wt3, sl3⟩ := hP
        match st', (show st'.length = 1 by omega) with
        | [(f, v)], _ =>
        have wt3 : f.wt + 12 + 0 ≤ 150 := wt3
        exact ⟨_, rfl, p0, _, 0, _, rfl, rfl, .inl (.inl hp3), atI_nat (j := 0) rfl, q H3 f v ro3' (pt3.fml _ (.head _)).1 (by omega) (pt3.fml _ (.head _)).2⟩
end
end K77

set_option maxRecDepth 100000
set_option maxHeartbeats 4000000
/-! K8G: _law_loose. -/
namespace K77
open PySem PySem.Spec PyProof.Rows L2 KG TL

def pad (r : Nat) : Str := ⟨(List.replicate r 32).toArray⟩
theorem tl_pad (r : Nat) : tl (pad r) = List.replicate r 32 := rfl
theorem pad_len (r : Nat) : (pad r).length = r := by
  rw [len_tl, tl_pad, List.length_replicate]
theorem op_mul_sp {X : Cx} : OpR X (binaryOp .Mult) (fun x y H Q => ∃ r : Nat, x = .str " " ∧ y = .int (r : Nat) ∧ r < 3 ∧ Q (.str (pad r)) H) := by
  intro pins s σ H x y v u Q I rx ry h
  obtain ⟨r, rfl, rfl, hr, q⟩ := h
  obtain ⟨t1, rfl⟩ := rx
  obtain ⟨t2, rfl⟩ := ry
  have fin : ∀ {z : Str}, z = pad r → ∀ tk tk', EP X pins σ Q (.str z tk) { s with toks := tk' } := fun e tk tk' => ⟨.str (pad r), H, I.tok tk', ⟨tk, by rw [e]⟩, q⟩
  rcases (by omega : r = 0 ∨ r = 1 ∨ r = 2) with rfl | rfl | rfl
  · exact PySem.P.mul_str_none (by decide) (by decide) (fin rfl _ _)
  · refine PySem.P.mul_str (by decide) (fun _ z => absurd z (by decide)) (fun _ z => absurd z (by decide)) ?_
    rw [if_neg (by decide), if_pos (by decide)]
    exact fin (by decide +kernel) t1 s.toks
  · refine PySem.P.mul_str (by decide) (fun _ _ => by decide +kernel) (fun _ _ => by decide +kernel) ?_
    rw [if_neg (by decide), if_neg (by decide +kernel)]
    exact ⟨by decide +kernel, fin (by decide +kernel) _ _⟩
theorem big_str2 {n : Nat} (h : n ≤ 4000) : n ≤ sizeLine := Nat.le_trans h (by decide)
section
variable {P : Program} {w : World} {K : PySem.W.Frag} {mg : Str → Option Value} {base : Heap}
def spLoose (K : PySem.W.Frag) (n : Nat) : Sp := fun vs H Q _ => ∃ (d t : Addr) (S : List Addr) (f : Fm) (v : V), vs = [v, .ref d, .ref t] ∧ Dr H d t S ∧ Fml K (hide S H) f v ∧ f.dep < n ∧ f.wt ≤ 1000 ∧ (∀ z ∈ f.names, NameOk z) ∧
  ∀ H' z, Rolls t H H' → Loose f (tl z) → Q (.str z) H'
theorem Fml.out {K : PySem.W.Frag} {S : List Addr} {H : Hp} {f : Fm} {v : V} (h : Fml K (hide S H) f v) : Fml K H f v := h.keep (same_tups (hide_same S H))
/-- what stands around the core -/
theorem ok_law_loose (T : Tx K mg) : ∀ n, FnOk P w K mg base CX0 (n + 1) T.a_law_loose T.f_law_loose ["tree", "draws", "at"] (spLoose K n)
  | 0 => ⟨fun vs H Q E ⟨d, t, S, f, v, e, _⟩ => by rw [e] <;> rfl, fun A outer s H args us vs Q E a b c d ⟨_, _, _, f, v, _, _, _, l, _⟩ => absurd l (Nat.not_lt_zero _)⟩
  | n + 1 => by
    have IH := ok_law_loose T n
    refine T.F_law_loose.ok sc_law_loose (fun vs H Q E h => ?_) (fun cdv A outer s H vs Q E hr h => ?_)
    · obtain ⟨d, t, S, f, v, rfl, _⟩ := h
      rfl
    · obtain ⟨d, t, S, f, v, rfl, D, hf, hd, hw, hn, q⟩ := h
      have hr1 : Room 1 _ := hr.mono (Nat.le_add_left 1 n)
      refine ⟨_, (pss_cons (ps_set (i := 3) sc_law_loose.nd rfl (.inl rfl) (pe_op op_mul_sp pe_str (pe_call (ok_law_take T) hr1 (by rfl) T.m_law_take T.F_law_take.kp T.B_law_take .nil pass0 (pa_cons (pv 1) (pa_cons (pv 2) (pa_cons pe_int pa_nil)))))) 
  (C8.pss_cut (ps_if (pt_cmpR op_in_seq (pe_ix ix_tup (pv 0) pe_int (fun _ _ => rfl)) (pe_lst (pa_cons pe_str (pa_cons pe_str (pa_cons pe_str pa_nil)))) rfl) (pss_one (ps_set (i := 4) sc_law_loose.nd rfl (.inl rfl) (pe_call (ok_law_text T 1) hr1 (by rfl) T.m_law_text T.F_law_text.kp T.B_law_text .nil pass0 (pa_cons (pv 0) pa_nil)))) (pss_one (ps_if (pt_cmpR op_eq (pe_ix ix_tup (pv 0) pe_int (fun _ _ => rfl)) pe_str (nomark _)) (pss_one (ps_set (i := 4) sc_law_loose.nd rfl (.inl rfl) (pe_op op_add_str (pe_op op_add_str (pe_op op_add_str (pe_op op_add_str pe_str (pv 3)) pe_str) (pe_call IH hr (by rfl) T.m_law_loose T.F_law_loose.kp T.B_law_loose .nil pass0 (pa_cons (pe_ix ix_tup (pv 0) pe_int (fun _ _ => rfl)) (pa_cons (pv 1) (pa_cons (pv 2) pa_nil))))) pe_str))) 
      (pss_cons (ps_set (i := 5) sc_law_loose.nd rfl (.inl rfl) (pe_op op_add_str (pe_op op_add_str pe_str (pe_call IH hr (by rfl) T.m_law_loose T.F_law_loose.kp T.B_law_loose .nil pass0 (pa_cons (pe_ix ix_tup (pv 0) pe_int (fun _ _ => rfl)) (pa_cons (pv 1) (pa_cons (pv 2) pa_nil))))) pe_str)) 
      (pss_cons (ps_set (i := 6) sc_law_loose.nd rfl (.inl rfl) (pe_op op_add_str (pe_op op_add_str pe_str (pe_call IH hr (by rfl) T.m_law_loose T.F_law_loose.kp T.B_law_loose .nil pass0 (pa_cons (pe_ix ix_tup (pv 0) pe_int (fun _ _ => rfl)) (pa_cons (pv 1) (pa_cons (pv 2) pa_nil))))) pe_str)) (pss_one (ps_set (i := 4) sc_law_loose.nd rfl (.inl rfl) (pe_op op_add_str (pe_op op_add_str (pe_op op_add_str (pv 5) (pv 3)) (pe_ix ix_list (pe_lst (pa_cons pe_str (pa_cons pe_str pa_nil))) (pe_callTy call_int1 (by rfl) T.b_int (by decide +kernel) (pa_cons (pe_cmpR op_eq (pe_ix ix_tup (pv 0) pe_int (fun _ _ => rfl)) pe_str (nomark _)) pa_nil)) (fun _ _ => rfl))) (pv 6))))))))) 
  (pss_cons (ps_if (pt_cmpR op_eq (pe_call (ok_law_take T) hr1 (by rfl) T.m_law_take T.F_law_take.kp T.B_law_take .nil pass0 (pa_cons (pv 1) (pa_cons (pv 2) (pa_cons pe_int pa_nil)))) pe_int (nomark _)) (pss_one (ps_set (i := 4) sc_law_loose.nd rfl (.inl rfl) (pe_op op_add_str (pe_op op_add_str pe_str (pv 4)) pe_str))) pss_nil) (pss_one (ps_ret (pe_op op_add_str (pv 3) (pv 4))))))), ?_⟩
      have one : 1 ≤ sizeLine := by decide
      have two : 2 ≤ sizeLine := by decide
      have three : 3 ≤ sizeLine := by decide
      have l_bg : ("!" : Str).length = 1 := by decide +kernel
      refine ⟨_, rfl, _, rfl, d, t, S, 3, rfl, D, by decide, fun H1 r1 ro1 hr1' => ⟨r1, rfl, rfl, hr1', ?_⟩⟩
      have D1 := D.roll ro1
      have hf1 := hf.keep (D.tups ro1)
      obtain ⟨a0, rest, e0, h0⟩ := hf1.at_
      have h0' : SqT K H1 a0 (.str f.tag :: rest) := (same_tups (hide_same S H1)).seqT h0
      subst e0
      refine ⟨fun σ' H' => ∃ (z : Str) (y5 y6 : Option V), σ' = [some (.ref a0), some (.ref d), some (.ref t), some (.str (pad r1)), some (.str z), y5, y6] ∧ Rolls t H H' ∧ Core f (tl z), ?_, fun σ' H' hM => ?_⟩
      · refine ⟨_, rfl, a0, _, 0, _, rfl, rfl, h0', atI_nat (j := 0) rfl, three, fun p np => ?_⟩
        have s2 := same_upd (o := .lst [.str "yes", .str "no", .str "name"]) np
        have D2 := D1.same s2
        have ro2 := ro1.trans (Rolls.same D1 s2)
        have t2 := D1.tups (Rolls.same D1 s2)
        have hf2 := hf1.keep t2
        have h2' : SqT K (upd H1 p (.lst [.str "yes", .str "no", .str "name"])) a0 (.str f.tag :: rest) := same_seqT s2 h0'
        cases f with
        | yes =>
          refine ⟨p, _, rfl, .inl (.inl (.inl upd_same)), rfl, rfl, true, congrArg V.bl (show inV (.str "yes") [.str "yes", .str "no", .str "name"] = true by decide +kernel), ?_⟩
          refine ⟨_, rfl, .yes, _, rfl, hf2.out, by decide, by decide, fun H3 s3 => ⟨_, _, _, rfl, ro2.trans (.same D2 s3), core_yes⟩⟩
        | no =>
          refine ⟨p, _, rfl, .inl (.inl (.inl upd_same)), rfl, rfl, true, congrArg V.bl (show inV (.str "no") [.str "yes", .str "no", .str "name"] = true by decide +kernel), ?_⟩
          refine ⟨_, rfl, .no, _, rfl, hf2.out, by decide, by decide, fun H3 s3 => ⟨_, _, _, rfl, ro2.trans (.same D2 s3), core_no⟩⟩
        | name z =>
          refine ⟨p, _, rfl, .inl (.inl (.inl upd_same)), rfl, rfl, true, congrArg V.bl (show inV (.str "name") [.str "yes", .str "no", .str "name"] = true by decide +kernel), ?_⟩
          refine ⟨_, rfl, .name z, _, rfl, hf2.out, by show (0 : Nat) < 1; decide, hw, fun H3 s3 => ⟨_, _, _, rfl, ro2.trans (.same D2 s3), core_name (hn z (List.mem_singleton_self z))⟩⟩
        | not g =>
          obtain ⟨a, u, e, hg, hgu⟩ := hf2
          obtain rfl := V.ref.inj e
          have hw : g.wt + 10 ≤ 1000 := hw
          have hd : g.dep + 1 < n + 1 := hd
          refine ⟨p, _, rfl, .inl (.inl (.inl upd_same)), rfl, rfl, false, congrArg V.bl (show inV (.str "not") [.str "yes", .str "no", .str "name"] = false by decide +kernel), ?_⟩
          refine ⟨_, rfl, _, _, 0, _, rfl, rfl, h2', atI_nat (j := 0) rfl, rfl, true, sEq rfl, ?_⟩
          refine ⟨_, rfl, _, _, rfl, rfl, big_str (by rw [l_bg, pad_len]; omega), _, _, rfl, rfl, big_str (by rw [len_app, l_bg, pad_len, l_lp]; omega), ?_⟩
          refine ⟨_, rfl, _, _, 1, _, rfl, rfl, (same_tups (hide_same S _)).seqT hg, atI_nat (j := 1) rfl, _, rfl, _, rfl, d, t, S, g, u, rfl, D2, hgu, by omega, by omega, hn, fun H3 z ro3 lz => ?_⟩
          have zl : z.length ≤ 990 := by
            have := lz.1
            rw [len_tl]
            omega
          refine ⟨_, _, rfl, rfl, big_str (by rw [len_app, len_app, l_bg, pad_len, l_lp]; omega), _, _, rfl, rfl, big_str (by rw [len_app, len_app, len_app, l_bg, pad_len, l_lp, l_rp]; omega), ?_⟩
          refine ⟨_, _, _, rfl, ro2.trans ro3, ?_⟩
          rw [tl_append, tl_append, tl_append, tl_append, tl_bang, tl_pad, tl_lp, tl_rp]
          have c := core_not lz hr1'
          simp only [List.append_assoc, List.cons_append, List.nil_append] at c ⊢
          exact c
        | and g k =>
          obtain ⟨a, u, x, e, hg, hgu, hkx⟩ := hf2
          obtain rfl := V.ref.inj e
          have hw : g.wt + k.wt + 12 ≤ 1000 := hw
          have hd : max g.dep k.dep + 1 < n + 1 := hd
          refine ⟨p, _, rfl, .inl (.inl (.inl upd_same)), rfl, rfl, false, congrArg V.bl (show inV (.str "and") [.str "yes", .str "no", .str "name"] = false by decide +kernel), ?_⟩
          refine ⟨_, rfl, _, _, 0, _, rfl, rfl, h2', atI_nat (j := 0) rfl, rfl, false, sNe (a := "and") (b := "not") (by decide +kernel), ?_⟩
          refine ⟨_, rfl, _, _, 1, _, rfl, rfl, (same_tups (hide_same S _)).seqT hg, atI_nat (j := 1) rfl, _, rfl, _, rfl, d, t, S, g, u, rfl, D2, hgu, by omega, by omega, fun z hz => hn z (List.mem_append_left _ hz), fun H3 z ro3 lz => ?_⟩
          have zl : z.length ≤ 990 := by
            have := lz.1
            rw [len_tl]
            omega
          have D3 := D2.roll ro3
          have t3 := D2.tups ro3
          refine ⟨_, _, rfl, rfl, big_str (by rw [l_lp]; omega), _, _, rfl, rfl, big_str (by rw [len_app, l_lp, l_rp]; omega), ?_⟩
          refine ⟨_, rfl, _, _, 2, _, rfl, rfl, (same_tups (hide_same S _)).seqT (t3.seqT hg), atI_nat (j := 2) rfl, _, rfl, _, rfl, d, t, S, k, x, rfl, D3, hkx.keep t3, by omega, by omega, fun z hz => hn z (List.mem_append_right _ hz), fun H4 z2 ro4 lz2 => ?_⟩
          have zl2 : z2.length ≤ 990 := by
            have := lz2.1
            rw [len_tl]
            omega
          have D4 := D3.roll ro4
          have t4 := t3.trans (D3.tups ro4)
          refine ⟨_, _, rfl, rfl, big_str (by rw [l_lp]; omega), _, _, rfl, rfl, big_str (by rw [len_app, l_lp, l_rp]; omega), ?_⟩
          refine ⟨_, rfl, _, rfl, _, _, rfl, rfl, big_str (by rw [len_app, len_app, l_lp, l_rp, pad_len]; omega), two, fun p5 np5 => ?_⟩
          have s5 := same_upd (o := .lst [.str "|", .str "&"]) np5
          have h5 : SqT K (upd H4 p5 (.lst [.str "|", .str "&"])) a0 (.str "and" :: [u, x]) := same_seqT s5 ((same_tups (hide_same S _)).seqT (t4.seqT hg))
          refine ⟨_, rfl, _, _, 0, _, rfl, rfl, h5, atI_nat (j := 0) rfl, rfl, .inr ⟨true, congrArg (fun x => [x]) (sEq rfl), ?_⟩⟩
          refine ⟨p5, _, _, .str "&", rfl, rfl, .inl (.inl upd_same), rfl, _, _, rfl, rfl, big_str (by rw [len_app, len_app, len_app, l_lp, l_rp, pad_len, show ("&" : Str).length = 1 by decide +kernel]; omega), _, rfl, _, _, rfl, rfl, big_str2 (by rw [len_app, len_app, len_app, len_app, len_app, len_app, l_lp, l_rp, pad_len, show ("&" : Str).length = 1 by decide +kernel]; omega), ?_⟩
          refine ⟨_, _, _, rfl, ro2.trans (ro3.trans (ro4.trans (.same D4 s5))), ?_⟩
          rw [tl_append, tl_append, tl_append, tl_append, tl_append, tl_append, tl_append, tl_pad, tl_lp, tl_rp, show tl "&" = [38] by decide +kernel]
          have c := core_and lz lz2 hr1'
          simp only [List.append_assoc, List.cons_append, List.nil_append] at c ⊢
          exact c
        | or g k =>
          obtain ⟨a, u, x, e, hg, hgu, hkx⟩ := hf2
          obtain rfl := V.ref.inj e
          have hw : g.wt + k.wt + 12 ≤ 1000 := hw
          have hd : max g.dep k.dep + 1 < n + 1 := hd
          refine ⟨p, _, rfl, .inl (.inl (.inl upd_same)), rfl, rfl, false, congrArg V.bl (show inV (.str "or") [.str "yes", .str "no", .str "name"] = false by decide +kernel), ?_⟩
          refine ⟨_, rfl, _, _, 0, _, rfl, rfl, h2', atI_nat (j := 0) rfl, rfl, false, sNe (a := "or") (b := "not") (by decide +kernel), ?_⟩
          refine ⟨_, rfl, _, _, 1, _, rfl, rfl, (same_tups (hide_same S _)).seqT hg, atI_nat (j := 1) rfl, _, rfl, _, rfl, d, t, S, g, u, rfl, D2, hgu, by omega, by omega, fun z hz => hn z (List.mem_append_left _ hz), fun H3 z ro3 lz => ?_⟩
          have zl : z.length ≤ 990 := by
            have := lz.1
            rw [len_tl]
            omega
          have D3 := D2.roll ro3
          have t3 := D2.tups ro3
          refine ⟨_, _, rfl, rfl, big_str (by rw [l_lp]; omega), _, _, rfl, rfl, big_str (by rw [len_app, l_lp, l_rp]; omega), ?_⟩
          refine ⟨_, rfl, _, _, 2, _, rfl, rfl, (same_tups (hide_same S _)).seqT (t3.seqT hg), atI_nat (j := 2) rfl, _, rfl, _, rfl, d, t, S, k, x, rfl, D3, hkx.keep t3, by omega, by omega, fun z hz => hn z (List.mem_append_right _ hz), fun H4 z2 ro4 lz2 => ?_⟩
          have zl2 : z2.length ≤ 990 := by
            have := lz2.1
            rw [len_tl]
            omega
          have D4 := D3.roll ro4
          have t4 := t3.trans (D3.tups ro4)
          refine ⟨_, _, rfl, rfl, big_str (by rw [l_lp]; omega), _, _, rfl, rfl, big_str (by rw [len_app, l_lp, l_rp]; omega), ?_⟩
          refine ⟨_, rfl, _, rfl, _, _, rfl, rfl, big_str (by rw [len_app, len_app, l_lp, l_rp, pad_len]; omega), two, fun p5 np5 => ?_⟩
          have s5 := same_upd (o := .lst [.str "|", .str "&"]) np5
          have h5 : SqT K (upd H4 p5 (.lst [.str "|", .str "&"])) a0 (.str "or" :: [u, x]) := same_seqT s5 ((same_tups (hide_same S _)).seqT (t4.seqT hg))
          refine ⟨_, rfl, _, _, 0, _, rfl, rfl, h5, atI_nat (j := 0) rfl, rfl, .inr ⟨false, congrArg (fun x => [x]) (sNe (by decide +kernel)), ?_⟩⟩
          refine ⟨p5, _, _, .str "|", rfl, rfl, .inl (.inl upd_same), rfl, _, _, rfl, rfl, big_str (by rw [len_app, len_app, len_app, l_lp, l_rp, pad_len, show ("|" : Str).length = 1 by decide +kernel]; omega), _, rfl, _, _, rfl, rfl, big_str2 (by rw [len_app, len_app, len_app, len_app, len_app, len_app, l_lp, l_rp, pad_len, show ("|" : Str).length = 1 by decide +kernel]; omega), ?_⟩
          refine ⟨_, _, _, rfl, ro2.trans (ro3.trans (ro4.trans (.same D4 s5))), ?_⟩
          rw [tl_append, tl_append, tl_append, tl_append, tl_append, tl_append, tl_append, tl_pad, tl_lp, tl_rp, show tl "|" = [124] by decide +kernel]
          have c := core_or lz lz2 hr1'
          simp only [List.append_assoc, List.cons_append, List.nil_append] at c ⊢
          exact c
      · obtain ⟨z, y5, y6, rfl, ro, core⟩ := hM
        have D2 := D.roll ro
        have zl : z.length ≤ 1000 := by
          have := core.1
          rw [len_tl]
          omega
        refine ⟨_, rfl, _, rfl, d, t, S, 3, rfl, D2, by decide, fun H3 r3 ro3 hr3 => ?_⟩
        refine ⟨rfl, decide ((r3 : Int) = 0), congrArg V.bl (by simp), ?_⟩
        by_cases e : (r3 : Int) = 0
        · rw [decide_eq_true e]
          refine (if_pos rfl).mpr ?_
          refine ⟨_, rfl, _, _, rfl, rfl, big_str (by rw [show ("( " : Str).length = 2 by decide +kernel]; omega), _, _, rfl, rfl, big_str (by rw [len_app, show ("( " : Str).length = 2 by decide +kernel, l_rp]; omega), ?_⟩
          refine ⟨_, rfl, _, rfl, _, _, rfl, rfl, big_str (by rw [len_app, len_app, pad_len, show ("( " : Str).length = 2 by decide +kernel, l_rp]; omega), q _ _ (ro.trans ro3) ?_⟩
          rw [tl_append, tl_append, tl_append, tl_pad, tl_rp, show tl "( " = [40, 32] by decide +kernel]
          have c := core.wrap hr1'
          simp only [List.append_assoc, List.cons_append, List.nil_append] at c ⊢
          exact c
        · rw [decide_eq_false e]
          refine (if_neg Bool.false_ne_true).mpr ?_
          refine ⟨_, rfl, _, rfl, _, _, rfl, rfl, big_str (by rw [pad_len]; omega), q _ _ (ro.trans ro3) ?_⟩
          rw [tl_append, tl_pad]
          exact core.pad hr1'
end
end K77

set_option maxRecDepth 100000
set_option maxHeartbeats 4000000
/-! K8H: _law_names. -/
namespace K77
open PySem PySem.Spec PyProof.Rows L2 KG TL

abbrev abc : Str := "abcdefghijklmnopqrstuvwxyz"
abbrev xyqv : Str := "0123456789xyqv"
abbrev m0a1 : Str := "0a1"
def kwl : List Str := ["call", "do", "else", "false", "fun", "if", "let", "print", "read", "return", "row", "set", "size", "true", "while"]
theorem kwl_V : keywordsV = kwl.map V.str := rfl
theorem kw_2 : ∀ k ∈ kwl, ∀ c ∈ tl xyqv, (tl k)[1]? ≠ some c := by decide +kernel
theorem kw_3 : ∀ k ∈ kwl, ∀ c ∈ tl xyqv, (tl k)[2]? ≠ some c := by decide +kernel
theorem abc_len : (tl abc).length = 26 := by decide +kernel
theorem xyqv_len : (tl xyqv).length = 14 := by decide +kernel
theorem abc_at : ∀ i : Fin 26, (tl abc)[i.val]'(by rw [abc_len]; exact i.isLt) = 97 + i.val := by decide +kernel
theorem abc_get {i : Nat} (h : i < 26) : (tl abc)[i]? = some (97 + i) := by
  have h' : i < (tl abc).length := by rw [abc_len]; exact h
  rw [List.getElem?_eq_getElem h']
  exact congrArg some (abc_at ⟨i, h⟩)
theorem abc_mem {c : Nat} : c ∈ tl abc ↔ 97 ≤ c ∧ c < 123 := by
  constructor
  · intro h
    have : ∀ c ∈ tl abc, 97 ≤ c ∧ c < 123 := by decide +kernel
    exact this c h
  · intro ⟨h1, h2⟩
    have := abc_get (i := c - 97) (by omega)
    rw [show 97 + (c - 97) = c by omega] at this
    exact List.mem_of_getElem? this
theorem abc_w {c : Nat} (h : c ∈ tl abc) : isW c := by
  have : ∀ c ∈ tl abc, isW c := by decide +kernel
  exact this c h
theorem xyqv_w {c : Nat} (h : c ∈ tl xyqv) : isW c := by
  have : ∀ c ∈ tl xyqv, isW c := by decide +kernel
  exact this c h
theorem m_w {c : Nat} (h : c ∈ tl m0a1) : isW c := by
  have : ∀ c ∈ tl m0a1, isW c := by decide +kernel
  exact this c h
theorem not_kw {z : Str} (h : ∀ k ∈ kwl, z ≠ k) : inV (.str z) keywordsV = false := by
  rw [kwl_V]
  exact inV_no fun m => h z m rfl
theorem zz9_tl : tl "zz9" = [122, 122, 57] := by decide +kernel
/-- a letter, one of xyqv or a figure, signs of words -/
theorem name_a {z : Str} {a b : Nat} {r : List Nat} (e : tl z = a :: b :: r) (ha : a ∈ tl abc) (hb : b ∈ tl xyqv) (hr : ∀ c ∈ r, isW c) (l : r.length ≤ 6) : (NameOk z ∧ z.length ≤ 8) ∧ z ≠ "zz9" := by
  have len : z.length = r.length + 2 := by rw [len_tl, e]; rfl
  refine ⟨⟨⟨by omega, by omega, ⟨a, _, e, ha⟩, fun c hc => ?_, not_kw fun k hk x => ?_⟩, by omega⟩, fun x => ?_⟩
  · rw [e] at hc
    rcases List.mem_cons.mp hc with rfl | hc
    · exact abc_w ha
    rcases List.mem_cons.mp hc with rfl | hc
    · exact xyqv_w hb
    · exact hr c hc
  · refine kw_2 k hk b hb ?_
    rw [← x, e]
    rfl
  · rw [x, zz9_tl] at e
    have : b = 122 := (List.cons.inj (List.cons.inj e).2).1.symm
    rw [this] at hb
    exact absurd hb (by decide +kernel)
/-- another letter ahead of that -/
theorem name_b {z : Str} {s a b : Nat} {r : List Nat} (e : tl z = s :: a :: b :: r) (hs : s ∈ tl abc) (ha : a ∈ tl abc) (hb : b ∈ tl xyqv) (hr : ∀ c ∈ r, isW c) (l : r.length ≤ 5) (n : s ≠ a) : (NameOk z ∧ z.length ≤ 8) ∧ z ≠ "zz9" := by
  have len : z.length = r.length + 3 := by rw [len_tl, e]; rfl
  refine ⟨⟨⟨by omega, by omega, ⟨s, _, e, hs⟩, fun c hc => ?_, not_kw fun k hk x => ?_⟩, by omega⟩, fun x => ?_⟩
  · rw [e] at hc
    rcases List.mem_cons.mp hc with rfl | hc
    · exact abc_w hs
    rcases List.mem_cons.mp hc with rfl | hc
    · exact abc_w ha
    rcases List.mem_cons.mp hc with rfl | hc
    · exact xyqv_w hb
    · exact hr c hc
  · refine kw_3 k hk b hb ?_
    rw [← x, e]
    rfl
  · rw [x, zz9_tl] at e
    have e1 := (List.cons.inj e).1
    have e2 := (List.cons.inj (List.cons.inj e).2).1
    exact n (e1.symm.trans e2)
/-- names as the law makes them -/
structure Base (ns : List Str) : Prop where
  nms : Nms ns
  few : ns.length ≤ 3
  zz : ("zz9" : Str) ∉ ns
theorem base_of {ns : List Str} (h : ∀ n ∈ ns, (NameOk n ∧ n.length ≤ 8) ∧ n ≠ "zz9") (nd : ns.Nodup) (p : 1 ≤ ns.length) (f : ns.length ≤ 3) : Base ns :=
  ⟨⟨fun n hn => (h n hn).1, nd, p, by omega⟩, f, fun m => (h _ m).2 rfl⟩
section
variable {P : Program} {w : World} {K : PySem.W.Frag} {mg : Str → Option Value} {base : Heap}
def spNames (K : PySem.W.Frag) : Sp := fun vs H Q _ => ∃ (d t : Addr) (S : List Addr), vs = [.ref d, .ref t] ∧ Dr H d t S ∧ ∀ (H' : Hp) (p : Addr) (ns : List Str), Rolls t H H' → SqL K (hide S H') p (ns.map V.str) → Base ns → Q (.ref p) H'
theorem ok_law_names (T : Tx K mg) : FnOk P w K mg base CX0 2 T.a_law_names T.f_law_names ["draws", "at"] (spNames K) := by
  refine T.F_law_names.ok sc_law_names (fun vs H Q E h => ?_) (fun cdv A outer s0 H vs Q E hr h => ?_)
  · obtain ⟨d, t, S, rfl, _⟩ := h
    rfl
  · obtain ⟨d, t, S, rfl, D, q⟩ := h
    refine ⟨_, (pss_cons (ps_set (i := 2) sc_law_names.nd rfl (.inr rfl) pe_str) 
  (pss_cons (ps_set (i := 3) sc_law_names.nd rfl (.inl rfl) (pe_call (ok_law_take T) hr (by rfl) T.m_law_take T.F_law_take.kp T.B_law_take .nil pass0 (pa_cons (pv 0) (pa_cons (pv 1) (pa_cons pe_int pa_nil))))) 
  (pss_cons (ps_set (i := 4) sc_law_names.nd rfl (.inr rfl) (pe_op op_mod (pe_call (ok_law_take T) hr (by rfl) T.m_law_take T.F_law_take.kp T.B_law_take .nil pass0 (pa_cons (pv 0) (pa_cons (pv 1) (pa_cons pe_int pa_nil)))) (pe_op op_add (pv 3) pe_int))) 
  (pss_cons (ps_set (i := 5) sc_law_names.nd rfl (.inl rfl) (pe_call (ok_law_take T) hr (by rfl) T.m_law_take T.F_law_take.kp T.B_law_take .nil pass0 (pa_cons (pv 0) (pa_cons (pv 1) (pa_cons pe_int pa_nil))))) 
  (pss_cons (ps_set (i := 6) sc_law_names.nd rfl (.inl rfl) (pe_ix ix_str (pv 2) (pe_op op_mod (pe_op op_add (pe_op op_add (pv 5) pe_int) (pe_call (ok_law_take T) hr (by rfl) T.m_law_take T.F_law_take.kp T.B_law_take .nil pass0 (pa_cons (pv 0) (pa_cons (pv 1) (pa_cons pe_int pa_nil))))) pe_int) (fun _ _ => rfl))) 
  (pss_cons (ps_set (i := 7) sc_law_names.nd rfl (.inr rfl) (pe_op op_add_str (pe_ix ix_str (pv 2) (pv 5) (fun _ _ => rfl)) (pe_ix ix_str pe_str (pe_call (ok_law_take T) hr (by rfl) T.m_law_take T.F_law_take.kp T.B_law_take .nil pass0 (pa_cons (pv 0) (pa_cons (pv 1) (pa_cons pe_int pa_nil)))) (fun _ _ => rfl)))) 
  (pss_cons (ps_set (i := 8) sc_law_names.nd rfl (.inr rfl) (pe_join pe_str (pe_lc (own := [("j", 11)]) (g := gName 11) (by rfl) sc_law_names.nd (pi_range1 (by rfl) T.b_range (pa_cons (pv 3) pa_nil)) (blkOk_by (own := [("j", 11)]) (N := ["draws", "at", "letters", "size", "spot", "head", "sign", "base", "body", "count", "k", "j"]) (sc := defScope s_law_names) (by decide +kernel)) (fun _ _ _ _ _ => (pg_name (i := 11) sc_law_names.nd rfl (.inl rfl) (.inr rfl))) (fun _ _ _ _ _ => pts_nil) (fun _ _ _ _ _ => (pe_ix ix_str (pv 2) (pe_call (ok_law_take T) hr (by rfl) T.m_law_take T.F_law_take.kp T.B_law_take .nil pass0 (pa_cons (pv 0) (pa_cons (pv 1) (pa_cons pe_int pa_nil)))) (fun _ _ => rfl)))))) 
  (pss_cons (ps_set (i := 9) sc_law_names.nd rfl (.inl rfl) (pe_op op_add pe_int (pe_call (ok_law_take T) hr (by rfl) T.m_law_take T.F_law_take.kp T.B_law_take .nil pass0 (pa_cons (pv 0) (pa_cons (pv 1) (pa_cons pe_int pa_nil)))))) 
  (pss_cons (ps_if (pt_cmpR op_eq (pe_call (ok_law_take T) hr (by rfl) T.m_law_take T.F_law_take.kp T.B_law_take .nil pass0 (pa_cons (pv 0) (pa_cons (pv 1) (pa_cons pe_int pa_nil)))) pe_int (nomark _)) (pss_one (ps_ret (pe_slice sl_list (pe_lst (pa_cons (pe_op op_add_str (pv 7) (pv 8)) (pa_cons (pe_op op_add_str (pe_op op_add_str (pv 7) (pv 8)) (pv 6)) (pa_cons (pe_op op_add_str (pe_op op_add_str (pv 6) (pv 7)) (pv 8)) pa_nil)))) po_none (po_some (pv 9))))) pss_nil) (pss_one (ps_ret (pe_lc (own := [("k", 10)]) (g := gName 10) (by rfl) sc_law_names.nd (pi_range1 (by rfl) T.b_range (pa_cons (pv 9) pa_nil)) (blkOk_by (own := [("k", 10)]) (N := ["draws", "at", "letters", "size", "spot", "head", "sign", "base", "body", "count", "k", "j"]) (sc := defScope s_law_names) (by decide +kernel)) (fun _ _ _ _ _ => (pg_name (i := 10) sc_law_names.nd rfl (.inl rfl) (.inr rfl))) (fun _ _ _ _ _ => pts_nil) (fun _ _ _ _ _ => (pe_op op_add_str (pe_op op_add_str (pe_op op_add_str (pv 7) (pe_slice sl_str (pv 8) po_none (po_some (pv 4)))) (pe_ix ix_str pe_str (pv 10) (fun _ _ => rfl))) (pe_slice sl_str (pv 8) (po_some (pv 4)) po_none))))))))))))))), ?_⟩
    have small8 : ∀ {n : Nat}, n ≤ 26 → n ≤ sizeLine := fun h => Nat.le_trans h (by decide)
    refine ⟨_, rfl, _, rfl, d, t, S, 6, rfl, D, by decide, fun H1 size ro1 hsize => ?_⟩
    refine ⟨_, rfl, _, rfl, d, t, S, 6, rfl, D.roll ro1, by decide, fun H2 sp0 ro2 hsp0 => ?_⟩
    have ro2 := ro1.trans ro2
    refine ⟨_, rfl, _, _, rfl, rfl, _, _, rfl, rfl, (by show (0 : Int) < (size : Nat) + 1; omega), ?_⟩
    have espot : ((sp0 : Nat) : Int) % ((size : Nat) + 1) = ((sp0 % (size + 1) : Nat) : Int) := by
      rw [Int.natCast_emod]
      rfl
    have hspot : sp0 % (size + 1) ≤ size := by
      have : sp0 % (size + 1) < size + 1 := Nat.mod_lt _ (Nat.succ_pos _)
      omega
    obtain ⟨spot, esp⟩ : ∃ s, s = sp0 % (size + 1) := ⟨_, rfl⟩
    rw [← esp] at espot hspot
    refine ⟨_, rfl, _, rfl, d, t, S, 26, rfl, D.roll ro2, by decide, fun H3 head ro3 hhead => ?_⟩
    have ro3 := ro2.trans ro3
    refine ⟨_, rfl, _, rfl, _, _, rfl, rfl, _, rfl, _, rfl, d, t, S, 25, rfl, D.roll ro3, by decide, fun H4 rs ro4 hrs => ?_⟩
    have ro4 := ro3.trans ro4
    have hsg : (head + 1 + rs) % 26 < 26 := Nat.mod_lt _ (by decide)
    have hsn : (head + 1 + rs) % 26 ≠ head := by omega
    refine ⟨_, _, rfl, rfl, _, _, rfl, rfl, (by show (0 : Int) < 26; decide), abc, (((head + 1 + rs) % 26 : Nat) : Int), 97 + (head + 1 + rs) % 26, rfl, congrArg V.int (by omega), small8 (by decide +kernel), atI_nat (abc_get hsg), ?_⟩
    -- base
    refine ⟨_, rfl, _, rfl, abc, (head : Nat), 97 + head, rfl, rfl, small8 (by decide +kernel), atI_nat (abc_get hhead), ?_⟩
    refine ⟨_, rfl, _, rfl, d, t, S, 14, rfl, D.roll ro4, by decide, fun H5 rx ro5 hrx => ?_⟩
    have ro5 := ro4.trans ro5
    have hrx' : rx < (tl xyqv).length := by rw [xyqv_len]; exact hrx
    have hx := List.getElem_mem hrx'
    refine ⟨xyqv, (rx : Nat), _, rfl, rfl, small8 (by decide +kernel), pick hrx', ?_⟩
    generalize (tl xyqv)[rx] = cx at hx
    refine ⟨_, _, rfl, rfl, small8 (by show 1 + 1 ≤ 26; decide), ?_⟩
    -- body
    refine ⟨⟨_, rfl⟩, _, rfl, (size : Nat), rfl, by omega, by omega, fun Dd nD => ?_⟩
    have D5 := D.roll ro5
    have nDt := D5.ne nD
    refine lc_range (lo := 0) (n := size) (fun i H' => Rolls t H5 H' ∧ ∃ cs : List Nat, H' Dd = some (.lst ((cs.map sg).map V.str)) ∧ cs.length = i ∧ ∀ c ∈ cs, c ∈ tl abc) ⟨.same D5 (same_upd nD), [], upd_same, rfl, fun c m => by cases m⟩ (fun i H' hi hP => ?_) fun H6 hP => ?_
    · obtain ⟨ro', cs, hD, hcs, hab⟩ := hP
      refine ⟨rfl, _, rfl, _, rfl, _, rfl, d, t, S, 26, rfl, D5.roll ro', by decide, fun H7 r7 ro7 hr7 => ?_⟩
      refine ⟨abc, (r7 : Nat), 97 + r7, rfl, rfl, small8 (by decide +kernel), atI_nat (abc_get hr7), _, ro7.keep nDt hD, ?_, (ro'.trans ro7).upd nD nDt, cs ++ [97 + r7], ?_, ?_, ?_⟩
      · rw [List.length_map, List.length_map]
        exact small1000 (by omega)
      · rw [List.map_append, List.map_append]
        exact upd_same
      · rw [List.length_append, hcs]
        rfl
      · intro c m
        rcases List.mem_append.mp m with m | m
        · exact hab c m
        · rw [List.mem_singleton.mp m]
          exact abc_mem.mpr ⟨by omega, by omega⟩
    obtain ⟨ro6, cs, hD, hcs, hab⟩ := hP
    have ro6 := ro5.trans ro6
    refine ⟨"", Dd, cs.map sg, rfl, rfl, .inl (.inl (.inl hD)), ?_, ?_⟩
    · rw [sum_len, List.length_map, show ("" : Str).length = 0 by decide +kernel]
      omega
    have tb : tl (Txt.join "" (cs.map sg)) = cs := tl_join0 cs
    generalize Txt.join "" (cs.map sg) = body at tb
    have lb : body.length = size := by rw [len_tl, tb]; exact hcs
    refine ⟨_, rfl, _, rfl, d, t, S, 3, rfl, D.roll ro6, by decide, fun H7 rc ro7 hrc => ⟨_, _, rfl, rfl, ?_⟩⟩
    have ro7 := ro6.trans ro7
    refine ⟨_, rfl, _, rfl, d, t, S, 2, rfl, D.roll ro7, by decide, fun H8 rt ro8 hrt => ?_⟩
    have ro8 := ro7.trans ro8
    have D8 := D.roll ro8
    have ecount : (1 : Int) + ((rc : Nat) : Int) = ((rc + 1 : Nat) : Int) := by omega
    have hbase : tl (sg (97 + head) ++ sg cx) = [97 + head, cx] := by rw [tl_append]; rfl
    have lbase : (sg (97 + head) ++ sg cx).length = 2 := by rw [len_tl, hbase]; rfl
    have ha : 97 + head ∈ tl abc := abc_mem.mpr ⟨by omega, by omega⟩
    have hsgn : 97 + (head + 1 + rs) % 26 ∈ tl abc := abc_mem.mpr ⟨by omega, by omega⟩
    generalize (head + 1 + rs) % 26 = sgn at hsg hsn hsgn
    have w8 : ∀ c ∈ cs, isW c := fun c hc => abc_w (hab c hc)
    refine ⟨rfl, decide ((rt : Int) = 0), congrArg V.bl (by simp), ?_⟩
    by_cases ert : (rt : Int) = 0
    · rw [decide_eq_true ert]
      refine (if_pos rfl).mpr ?_
      refine ⟨_, rfl, _, rfl, _, _, rfl, rfl, small8 (by rw [lbase]; omega), _, rfl, _, rfl, _, _, rfl, rfl, small8 (by rw [lbase]; omega), _, rfl, _, _, rfl, rfl, small8 (by rw [len_app, lbase]; show 2 + body.length + 1 ≤ 26; omega), _, rfl, _, rfl, _, _, rfl, rfl, small8 (by rw [lbase]; show 1 + 2 ≤ 26; omega), _, rfl, _, _, rfl, rfl, small8 (by rw [len_app, lbase]; show 1 + 2 + body.length ≤ 26; omega), by show 3 ≤ sizeLine; decide, fun p np => ?_⟩
      refine ⟨_, rfl, ((rc + 1 : Nat) : Int), congrArg V.int ecount, p, _, rfl, .inl (.inl upd_same), fun p2 np2 => ?_⟩
      have s1 := same_upd (o := .lst [.str (sg (97 + head) ++ sg cx ++ body), .str (sg (97 + head) ++ sg cx ++ body ++ sg (97 + sgn)), .str (sg (97 + sgn) ++ (sg (97 + head) ++ sg cx) ++ body)]) np
      have D9 := D8.same s1
      have e1 : tl (sg (97 + head) ++ sg cx ++ body) = (97 + head) :: cx :: cs := by rw [tl_append, hbase, tb]; rfl
      have e2 : tl (sg (97 + head) ++ sg cx ++ body ++ sg (97 + sgn)) = (97 + head) :: cx :: (cs ++ [97 + sgn]) := by rw [tl_append, e1]; rfl
      have e3 : tl (sg (97 + sgn) ++ (sg (97 + head) ++ sg cx) ++ body) = (97 + sgn) :: (97 + head) :: cx :: cs := by rw [tl_append, tl_append, hbase, tb]; rfl
      have n1 := name_a e1 ha hx w8 (by omega)
      have n2 := name_a e2 ha hx (fun c hc => by
        rcases List.mem_append.mp hc with hc | hc
        · exact w8 c hc
        · rw [List.mem_singleton.mp hc]
          exact abc_w hsgn) (by rw [List.length_append, hcs]; show size + 1 ≤ 6; omega)
      have n3 := name_b e3 hsgn ha hx w8 (by omega) (by omega)
      have d12 : sg (97 + head) ++ sg cx ++ body ≠ sg (97 + head) ++ sg cx ++ body ++ sg (97 + sgn) := fun z => by
        have z := congrArg (fun y => (tl y).length) z
        simp only [e1, e2, List.length_cons, List.length_append, List.length_nil] at z
        omega
      have d13 : sg (97 + head) ++ sg cx ++ body ≠ sg (97 + sgn) ++ (sg (97 + head) ++ sg cx) ++ body := fun z => by
        have z := congrArg (fun y => (tl y).length) z
        simp only [e1, e3, List.length_cons] at z
        omega
      have d23 : sg (97 + head) ++ sg cx ++ body ++ sg (97 + sgn) ≠ sg (97 + sgn) ++ (sg (97 + head) ++ sg cx) ++ body := fun z => by
        have z := congrArg tl z
        rw [e2, e3] at z
        have := (List.cons.inj z).1
        omega
      have fin : ∀ ns : List Str, Base ns → cutV [.str (sg (97 + head) ++ sg cx ++ body), .str (sg (97 + head) ++ sg cx ++ body ++ sg (97 + sgn)), .str (sg (97 + sgn) ++ (sg (97 + head) ++ sg cx) ++ body)] none (some ((rc + 1 : Nat) : Int)) = ns.map V.str →
          Q (.ref p2) (upd (upd H8 p (.lst [.str (sg (97 + head) ++ sg cx ++ body), .str (sg (97 + head) ++ sg cx ++ body ++ sg (97 + sgn)), .str (sg (97 + sgn) ++ (sg (97 + head) ++ sg cx) ++ body)])) p2 (.lst (cutV [.str (sg (97 + head) ++ sg cx ++ body), .str (sg (97 + head) ++ sg cx ++ body ++ sg (97 + sgn)), .str (sg (97 + sgn) ++ (sg (97 + head) ++ sg cx) ++ body)] none (some ((rc + 1 : Nat) : Int))))) := fun ns b e => by
        rw [e]
        exact q _ p2 ns (ro8.trans ((Rolls.same D8 s1).trans (.same D9 (same_upd np2)))) (.inl (.inl (hnew np2 D9.all))) b
      rcases (by omega : rc = 0 ∨ rc = 1 ∨ rc = 2) with rfl | rfl | rfl
      · refine fin [_] (base_of (fun n hn => ?_) (by simp) (by simp) (by simp)) rfl
        rw [List.mem_singleton.mp hn]
        exact n1
      · refine fin [_, _] (base_of (fun n hn => ?_) (by simp [d12]) (by simp) (by simp)) rfl
        rcases List.mem_cons.mp hn with rfl | hn
        · exact n1
        rw [List.mem_singleton.mp hn]
        exact n2
      · refine fin [_, _, _] (base_of (fun n hn => ?_) (by simp [d12, d13, d23]) (by simp) (by simp)) rfl
        rcases List.mem_cons.mp hn with rfl | hn
        · exact n1
        rcases List.mem_cons.mp hn with rfl | hn
        · exact n2
        rw [List.mem_singleton.mp hn]
        exact n3
    · rw [decide_eq_false ert]
      refine (if_neg Bool.false_ne_true).mpr ?_
      have spb : spot ≤ body.length := by omega
      refine ⟨_, rfl, ((rc + 1 : Nat) : Int), congrArg (fun i : Int => [V.int i]) ecount, by omega, by omega, fun Dk nDk => ?_⟩
      let mkz : Nat → Str := fun k => sg (97 + head) ++ sg cx ++ cutS body none (some (spot : Int)) ++ sg ((tl m0a1).getD k 0) ++ cutS body (some (spot : Int)) none
      have emk : ∀ k, tl (mkz k) = (97 + head) :: cx :: (cs.take spot ++ (tl m0a1).getD k 0 :: cs.drop spot) := fun k => by
        show tl (sg (97 + head) ++ sg cx ++ cutS body none (some (spot : Int)) ++ sg ((tl m0a1).getD k 0) ++ cutS body (some (spot : Int)) none) = _
        rw [tl_append, tl_append, tl_append, hbase, cut_to, cut_from (by rw [← len_tl]; exact spb), tb]
        show [97 + head, cx] ++ cs.take spot ++ [(tl m0a1).getD k 0] ++ cs.drop spot = _
        simp
      have lm : (tl m0a1).length = 3 := by decide +kernel
      refine lc_range (lo := 0) (n := rc + 1) (fun i H' => Rolls t H8 H' ∧ H' Dk = some (.lst (((List.range i).map mkz).map V.str))) ⟨.same D8 (same_upd nDk), upd_same⟩ (fun i H' hi hP => ?_) fun H9 hP => ?_
      · obtain ⟨ro', hD⟩ := hP
        have hi3 : i < (tl m0a1).length := by rw [lm]; omega
        have l0 := cut_len0 body spb
        have l1 := cut_len1 body spb
        refine ⟨rfl, _, rfl, _, rfl, _, rfl, (spot : Int), congrArg V.int espot, _, rfl, small8 (by omega), _, _, rfl, rfl, small8 (by rw [lbase]; omega), _, rfl, m0a1, (i : Nat), _, rfl, congrArg V.int (by omega), small8 (by decide +kernel), pick hi3, _, _, rfl, rfl, small8 (by rw [len_app, lbase]; show 2 + _ + 1 ≤ 26; omega), _, rfl, _, rfl, (spot : Int), congrArg V.int espot, _, rfl, small8 (by omega), _, _, rfl, rfl, small8 (by rw [len_app, len_app, lbase]; show 2 + _ + 1 + _ ≤ 26; omega), _, hD, ?_, ro'.upd nDk (D8.ne nDk), ?_⟩
        · rw [List.length_map, List.length_map, List.length_range]
          exact small1000 (by omega)
        · rw [List.range_succ, List.map_append, List.map_append, show (tl m0a1)[i] = (tl m0a1).getD i 0 by rw [List.getD_eq_getElem?_getD, List.getElem?_eq_getElem hi3]; rfl]
          exact upd_same
      · obtain ⟨ro', hD⟩ := hP
        have nS : Dk ∉ S := fresh_off nDk D8.all
        refine q _ Dk _ (ro8.trans ro') (.inl (.inl ((hide_off nS).trans hD))) (base_of (fun n hn => ?_) ?_ (by rw [List.length_map, List.length_range]; omega) (by rw [List.length_map, List.length_range]; omega))
        · obtain ⟨k, hk, rfl⟩ := List.mem_map.mp hn
          have hk3 : k < (tl m0a1).length := by
            have := List.mem_range.mp hk
            rw [lm]
            omega
          have hm : (tl m0a1).getD k 0 ∈ tl m0a1 := by
            rw [List.getD_eq_getElem?_getD, List.getElem?_eq_getElem hk3]
            exact List.getElem_mem hk3
          refine name_a (emk k) ha hx (fun c hc => ?_) ?_
          · rcases List.mem_append.mp hc with hc | hc
            · exact w8 c (List.mem_of_mem_take hc)
            rcases List.mem_cons.mp hc with rfl | hc
            · exact m_w hm
            · exact w8 c (List.mem_of_mem_drop hc)
          · rw [List.length_append, List.length_cons, List.length_take, List.length_drop]
            omega
        · refine List.Pairwise.map mkz (R := fun a b => a ≠ b ∧ a < 3 ∧ b < 3) (fun a b ⟨h, h1, h2⟩ e => ?_) ?_
          · have e := congrArg tl e
            rw [emk, emk] at e
            have e := List.append_cancel_left (List.cons.inj (List.cons.inj e).2).2
            have e := (List.cons.inj e).1
            have inj : ∀ a : Fin 3, ∀ b : Fin 3, (tl m0a1).getD a.val 0 = (tl m0a1).getD b.val 0 → a = b := by decide +kernel
            exact h (congrArg Fin.val (inj ⟨a, h1⟩ ⟨b, h2⟩ e))
          · have nd := List.nodup_range (n := rc + 1)
            refine nd.imp_of_mem fun {a b} ha hb h => ⟨h, ?_, ?_⟩
            · have := List.mem_range.mp ha
              omega
            · have := List.mem_range.mp hb
              omega
end
end K77

set_option maxRecDepth 100000
set_option maxHeartbeats 4000000
/-! K8I: lines of a book, as the law has them; _law_some. -/
namespace K77
open PySem PySem.Spec PyProof.Rows L2 KG TL

/-- the law's line at the value -/
def LnV (K : PySem.W.Frag) (G : Hp) : Ln → V → Prop
  | .sw s, v => ∃ a, v = .ref a ∧ SqL K G a [.str "switch", .str s]
  | .rule f, v => ∃ a u, v = .ref a ∧ SqL K G a [.str "rule", u] ∧ Fml K G f u
  | .grp w ns, v => ∃ a b, v = .ref a ∧ SqL K G a [.str w, .ref b] ∧ G b = some (.lst (ns.map V.str))
theorem LnV.keep {K : PySem.W.Frag} {G G' : Hp} (s : Same G G') : ∀ {l : Ln} {v : V}, LnV K G l v → LnV K G' l v
  | .sw _, _, ⟨a, e, h⟩ => ⟨a, e, s.seq h⟩
  | .rule _, _, ⟨a, u, e, h, q⟩ => ⟨a, u, e, s.seq h, q.keep (same_tups s)⟩
  | .grp _ _, _, ⟨a, b, e, h, q⟩ => ⟨a, b, e, s.seq h, s _ _ q⟩
def LnVs (K : PySem.W.Frag) (G : Hp) : List Ln → List V → Prop
  | [], [] => True
  | l :: ls, v :: vs => LnV K G l v ∧ LnVs K G ls vs
  | _, _ => False
theorem LnVs.keep {K : PySem.W.Frag} {G G' : Hp} (s : Same G G') : ∀ {ls : List Ln} {vs : List V}, LnVs K G ls vs → LnVs K G' ls vs
  | [], [], h => h
  | _ :: _, _ :: _, h => ⟨h.1.keep s, LnVs.keep s h.2⟩
  | [], _ :: _, h => h.elim
  | _ :: _, [], h => h.elim
theorem LnVs.len {K : PySem.W.Frag} {G : Hp} : ∀ {ls : List Ln} {vs : List V}, LnVs K G ls vs → vs.length = ls.length
  | [], [], _ => rfl
  | _ :: _, _ :: _, h => congrArg (· + 1) (LnVs.len h.2)
  | [], _ :: _, h => h.elim
  | _ :: _, [], h => h.elim
theorem LnVs.app {K : PySem.W.Frag} {G : Hp} {ms : List Ln} {us : List V} (h : LnVs K G ms us) : ∀ {ls : List Ln} {vs : List V}, LnVs K G ls vs → LnVs K G (ls ++ ms) (vs ++ us)
  | [], [], _ => h
  | _ :: _, _ :: _, k => ⟨k.1, LnVs.app h k.2⟩
  | [], _ :: _, k => k.elim
  | _ :: _, [], k => k.elim
theorem LnVs.snoc {K : PySem.W.Frag} {G : Hp} {l : Ln} {v : V} (e : LnV K G l v) {ls : List Ln} {vs : List V} (h : LnVs K G ls vs) : LnVs K G (ls ++ [l]) (vs ++ [v]) := LnVs.app (ms := [l]) (us := [v]) ⟨e, trivial⟩ h
theorem LnVs.at_ {K : PySem.W.Frag} {G : Hp} : ∀ {ls : List Ln} {vs : List V} {i : Nat} {v : V}, LnVs K G ls vs → vs[i]? = some v → ∃ l, ls[i]? = some l ∧ LnV K G l v
  | _ :: _, _ :: _, 0, v, h, e => ⟨_, rfl, by
    obtain rfl := Option.some.inj e
    exact h.1⟩
  | _ :: ls, _ :: vs, i + 1, v, h, e => LnVs.at_ (ls := ls) (vs := vs) (i := i) h.2 e
  | [], [], _, _, _, e => by cases e
/-- a line that is no switch, over the names ns -/
structure LineOk (ns : List Str) (l : Ln) : Prop where
  ok : l.ok
  fits : Fits ns l
  nosw : ∀ s, l ≠ .sw s
  nms : ∀ f, l = .rule f → f.wt ≤ 138 ∧ ∀ z ∈ f.names, NameOk z
theorem mod_inj {n o j k : Nat} (hn : n ≤ 4) (hj : j < n) (hk : k < n) (h : (o + j) % n = (o + k) % n) : j = k := by
  rcases (by omega : n = 1 ∨ n = 2 ∨ n = 3 ∨ n = 4) with rfl | rfl | rfl | rfl <;> omega
/-- m names in turn -/
def rot (ns : List Str) (o m : Nat) : List Str := (List.range m).map fun j => ns.getD ((o + j) % ns.length) ""
theorem getD_mem {ns : List Str} {k : Nat} (h : k < ns.length) : ns.getD k "" ∈ ns := by
  rw [List.getD_eq_getElem?_getD, List.getElem?_eq_getElem h]
  exact List.getElem_mem h
theorem getD_at {ns : List Str} {k : Nat} (h : k < ns.length) : (ns.map V.str)[k]? = some (.str (ns.getD k "")) := by
  rw [List.getElem?_map, List.getD_eq_getElem?_getD, List.getElem?_eq_getElem h]
  rfl
theorem getD_inj {ns : List Str} (nd : ns.Nodup) {j k : Nat} (hj : j < ns.length) (hk : k < ns.length) (h : ns.getD j "" = ns.getD k "") : j = k := by
  rw [List.getD_eq_getElem?_getD, List.getD_eq_getElem?_getD, List.getElem?_eq_getElem hj, List.getElem?_eq_getElem hk] at h
  have h : ns[j] = ns[k] := h
  have pw := List.pairwise_iff_getElem.mp nd
  rcases Nat.lt_trichotomy j k with l | l | l
  · exact absurd h (pw j k hj hk l)
  · exact l
  · exact absurd h.symm (pw k j hk hj l)
theorem rot_nd {ns : List Str} {o m : Nat} (N : Nms ns) (h : m ≤ ns.length) : (rot ns o m).Nodup := by
  have p : 0 < ns.length := N.pos
  refine List.Pairwise.map _ (R := fun a b => a ≠ b ∧ a < m ∧ b < m) (fun a b ⟨hne, h1, h2⟩ e => ?_) ?_
  · exact hne (mod_inj (o := o) N.few (by omega) (by omega) (getD_inj N.nd (Nat.mod_lt _ p) (Nat.mod_lt _ p) e))
  · refine (List.nodup_range (n := m)).imp_of_mem fun {a b} ha hb hne => ⟨hne, List.mem_range.mp ha, List.mem_range.mp hb⟩
theorem rot_mem {ns : List Str} {o m : Nat} (N : Nms ns) : ∀ z ∈ rot ns o m, z ∈ ns := fun z hz => by
  obtain ⟨j, _, rfl⟩ := List.mem_map.mp hz
  exact getD_mem (Nat.mod_lt _ N.pos)
theorem rot_len (ns : List Str) (o m : Nat) : (rot ns o m).length = m := by
  unfold rot
  rw [List.length_map, List.length_range]
theorem line_rule {ns : List Str} {f : Fm} (N : Nms ns) (w : f.wt ≤ 138) (h : ∀ y ∈ f.names, y ∈ ns) : LineOk ns (.rule f) :=
  ⟨⟨by omega, by have := f.dep_wt; omega⟩, h, fun s e => (by cases e), fun g e => by cases e; exact ⟨w, fun z hz => (N.ok z (h z hz)).1⟩⟩
theorem line_one {ns : List Str} {o m : Nat} (N : Nms ns) (h2 : 2 ≤ m) (h : m ≤ ns.length) : LineOk ns (.grp "one" (rot ns o m)) :=
  ⟨⟨by simp, fun z hz => (N.ok z (rot_mem N z hz)).1, by rw [rot_len]; exact h2, by rw [rot_len, if_pos rfl]; have := N.few; omega, rot_nd N h⟩, rot_mem N, fun s e => (by cases e), fun f e => (by cases e)⟩
theorem line_two {ns : List Str} {w : Str} {o s : Nat} (N : Nms ns) (hw : w = "needs" ∨ w = "bars") (ho : o < ns.length) (hs : 1 ≤ s) (hs2 : s < ns.length) : LineOk ns (.grp w [ns.getD o "", ns.getD ((o + s) % ns.length) ""]) := by
  have p : 0 < ns.length := N.pos
  have m1 := getD_mem ho
  have m2 : ns.getD ((o + s) % ns.length) "" ∈ ns := getD_mem (Nat.mod_lt _ p)
  have mem : ∀ z ∈ [ns.getD o "", ns.getD ((o + s) % ns.length) ""], z ∈ ns := fun z hz => by
    rcases List.mem_cons.mp hz with rfl | hz
    · exact m1
    · rw [List.mem_singleton.mp hz]
      exact m2
  refine ⟨⟨by rcases hw with rfl | rfl <;> simp, fun z hz => (N.ok z (mem z hz)).1, by simp, ?_, ?_⟩, mem, fun s e => (by cases e), fun f e => (by cases e)⟩
  · rw [if_neg (by rcases hw with rfl | rfl <;> decide +kernel)]
    simp
  · have hne : ns.getD o "" ≠ ns.getD ((o + s) % ns.length) "" := fun e => by
      have e := getD_inj N.nd ho (Nat.mod_lt _ p) e
      have e2 : (o + 0) % ns.length = (o + s) % ns.length := by rw [← e, Nat.add_zero, Nat.mod_eq_of_lt ho]
      have := mod_inj (o := o) N.few p hs2 e2
      omega
    exact List.nodup_cons.mpr ⟨fun m => hne (List.mem_singleton.mp m), List.nodup_cons.mpr ⟨fun m => (by cases m), List.nodup_nil⟩⟩
/-- an object made since H, hidden too -/
theorem Dr.roll1 {H H' : Hp} {d t p0 : Addr} {S : List Addr} {o : HO} (D : Dr H d t S) (n0 : H p0 = none) (r : Rolls t H H') (h : H' p0 = some o) : Dr H' d t (p0 :: S) ∧ Same (hide S H) (hide (p0 :: S) H') := by
  have s : Same (hide S H) (hide (p0 :: S) H') := fun b x e => by
    obtain ⟨n, e⟩ := hide_get e
    have nb : b ≠ p0 := ne_of_none e n0
    refine (hide_off fun z => ?_).trans (r.1 b x (fun z => n (by rw [List.mem_singleton.mp z]; exact D.t_in)) e)
    rcases List.mem_cons.mp z with z | z
    · exact nb z
    · exact n z
  have D' := D.roll r
  obtain ⟨ns, hd, h1⟩ := D.draws
  refine ⟨⟨D'.cell, .tail _ D.t_in, ⟨ns, s _ _ hd, h1⟩, fun x hx => ?_⟩, s⟩
  rcases List.mem_cons.mp hx with rfl | hx
  · rw [h]
    intro z
    cases z
  · exact D'.all x hx
def rLen (K : PySem.W.Frag) : List V → Hp → VK → Prop := fun xs H Q => ∃ p ys, xs = [.ref p] ∧ (SqL K H p ys ∨ SqT K H p ys) ∧ Q (.int (ys.length : Nat)) H
theorem call_len_K {X : Cx} {K : PySem.W.Frag} (h : X.K = K) : CallR X (.builtin "len") (rLen K) := by
  subst h
  exact call_len_seq
theorem ix_list_K {X : Cx} {K : PySem.W.Frag} (h : X.K = K) : IxR X (rIxL K) := by
  subst h
  exact ix_list
section
variable {P : Program} {w : World} {K : PySem.W.Frag} {mg : Str → Option Value} {base : Heap}
def spSome (K : PySem.W.Frag) : Sp := fun vs H Q _ => ∃ (d t a : Addr) (S : List Addr) (ns : List Str), vs = [.ref d, .ref t, .ref a] ∧ Dr H d t S ∧ SqL K (hide S H) a (ns.map V.str) ∧ Nms ns ∧
  ∀ (H' : Hp) (p : Addr) (ls : List Ln) (us : List V), Rolls t H H' → H p = none → H' p = some (.lst us) → LnVs K (hide S H') ls us → (∀ l ∈ ls, LineOk ns l) → ls.length ≤ 2 → Q (.ref p) H'
theorem ok_law_some (T : Tx K mg) : FnOk P w K mg base CX0 3 T.a_law_some T.f_law_some ["draws", "at", "names"] (spSome K) := by
  refine T.F_law_some.ok sc_law_some (fun vs H Q E h => ?_) (fun cdv A outer s0 H vs Q E hr h => ?_)
  · obtain ⟨d, t, a, S, ns, rfl, _⟩ := h
    rfl
  · obtain ⟨d, t, a, S, ns, rfl, D, ha, N, q⟩ := h
    have hr1 : Room 1 _ := hr.mono (by decide)
    refine ⟨_, (pss_cons (ps_set (i := 3) sc_law_some.nd rfl (.inl rfl) (pe_lst pa_nil)) 
  (pss_cons (ps_for PassesOwn.never rfl (pi_range1 (by rfl) T.b_range (pa_cons (pe_call (ok_law_take T) hr1 (by rfl) T.m_law_take T.F_law_take.kp T.B_law_take .nil pass0 (pa_cons (pv 0) (pa_cons (pv 1) (pa_cons pe_int pa_nil)))) pa_nil)) (pg_name (i := 4) sc_law_some.nd rfl (.inl rfl)) 
    (pss_cons (ps_set (i := 5) sc_law_some.nd rfl (.inl rfl) (pe_call (ok_law_take T) hr1 (by rfl) T.m_law_take T.F_law_take.kp T.B_law_take .nil pass0 (pa_cons (pv 0) (pa_cons (pv 1) (pa_cons pe_int pa_nil))))) 
    (pss_cons (ps_set (i := 6) sc_law_some.nd rfl (.inr rfl) (pe_call (ok_law_take T) hr1 (by rfl) T.m_law_take T.F_law_take.kp T.B_law_take .nil pass0 (pa_cons (pv 0) (pa_cons (pv 1) (pa_cons (pe_callB call_len_seq (by rfl) T.b_len (by decide +kernel) (pa_cons (pv 2) pa_nil)) pa_nil))))) 
    (pss_cons (ps_set (i := 7) sc_law_some.nd rfl (.inl rfl) (pe_op op_add pe_int (pe_call (ok_law_take T) hr1 (by rfl) T.m_law_take T.F_law_take.kp T.B_law_take .nil pass0 (pa_cons (pv 0) (pa_cons (pv 1) (pa_cons (pe_callB (call_max2 rfl) (by rfl) T.b_max (by decide +kernel) (pa_cons pe_int (pa_cons (pe_op op_sub (pe_callB call_len_seq (by rfl) T.b_len (by decide +kernel) (pa_cons (pv 2) pa_nil)) pe_int) pa_nil))) pa_nil)))))) (pss_one (ps_if (PW.pt (pw_or (pt_cmpR op_lt (pv 5) pe_int (nomark _)) (pw_or1 (pt_cmpR op_eq (pe_callB call_len_seq (by rfl) T.b_len (by decide +kernel) (pa_cons (pv 2) pa_nil)) pe_int (nomark _))))) (pss_one (ps_expr (pe_bm PySem.F.plainAttrs_list PySem.F.slot_list_append PySem.F.type_list_append mt_append (pv 3) (pa_cons (pe_lst (pa_cons pe_str (pa_cons (pe_call (ok_law_tree T) hr (by rfl) T.m_law_tree T.F_law_tree.kp T.B_law_tree .nil pass0 (pa_cons (pv 0) (pa_cons (pv 1) (pa_cons (pv 2) pa_nil)))) pa_nil))) pa_nil)))) (pss_one (ps_if (pt_cmpR op_eq (pv 5) pe_int (nomark _)) (pss_one (ps_expr (pe_bm PySem.F.plainAttrs_list PySem.F.slot_list_append PySem.F.type_list_append mt_append (pv 3) (pa_cons (pe_lst (pa_cons pe_str (pa_cons (pe_lc (own := [("j", 8)]) (g := gName 8) (by rfl) sc_law_some.nd (pi_range1 (by rfl) T.b_range (pa_cons (pe_op op_add (pv 7) pe_int) pa_nil)) (blkOk_by (own := [("j", 8)]) (N := ["draws", "at", "names", "found", "k", "choice", "one", "step", "j"]) (sc := defScope s_law_some) (by decide +kernel)) (fun _ _ _ _ _ => (pg_name (i := 8) sc_law_some.nd rfl (.inl rfl) (.inr rfl))) (fun _ _ _ _ _ => pts_nil) (fun _ _ _ _ _ => (pe_ix (ix_list_K (K := K) rfl) (pv 2) (pe_op op_mod (pe_op op_add (pv 6) (pv 8)) (pe_callB (call_len_K (K := K) rfl) (by rfl) T.b_len (by decide +kernel) (pa_cons (pv 2) pa_nil))) (fun _ _ => rfl)))) pa_nil))) pa_nil)))) (pss_one (ps_expr (pe_bm PySem.F.plainAttrs_list PySem.F.slot_list_append PySem.F.type_list_append mt_append (pv 3) (pa_cons (pe_lst (pa_cons (pe_ix ix_list (pe_lst (pa_cons pe_str (pa_cons pe_str pa_nil))) (pe_op op_sub (pv 5) pe_int) (fun _ _ => rfl)) (pa_cons (pe_lst (pa_cons (pe_ix ix_list (pv 2) (pv 6) (fun _ _ => rfl)) (pa_cons (pe_ix ix_list (pv 2) (pe_op op_mod (pe_op op_add (pv 6) (pv 7)) (pe_callB call_len_seq (by rfl) T.b_len (by decide +kernel) (pa_cons (pv 2) pa_nil))) (fun _ _ => rfl)) pa_nil))) pa_nil))) pa_nil)))))))))))) (pss_one (ps_ret (pv 3))))), ?_⟩
    have one : 1 ≤ sizeLine := by decide
    have two : 2 ≤ sizeLine := by decide
    have npos : 1 ≤ ns.length := N.pos
    have nfew : ns.length ≤ 4 := N.few
    refine ⟨Nat.zero_le _, fun p0 n0 => ?_⟩
    have n0t := D.ne n0
    have rs0 := Rolls.same D (same_upd (o := .lst []) n0)
    obtain ⟨D1, h0⟩ := D.roll1 n0 rs0 upd_same
    refine ⟨_, rfl, _, rfl, d, t, p0 :: S, 3, rfl, D1, by decide, fun H1 r1 ro1 hr1' => ⟨(r1 : Nat), rfl, by omega, by omega, ?_⟩⟩
    have lenV : ∀ {x : V}, x = .int ((ns.map V.str).length : Nat) → [V.ref d, .ref t, x] = [V.ref d, .ref t, .int (ns.length : Nat)] := fun e => by rw [e, List.length_map]
    refine for_range (lo := 0) (n := r1) (fun i σ H' => ∃ (ls : List Ln) (us : List V) (y4 y5 y6 y7 : Option V), σ = [some (.ref d), some (.ref t), some (.ref a), some (.ref p0), y4, y5, y6, y7, none] ∧ Rolls t H H' ∧ H' p0 = some (.lst us) ∧
      LnVs K (hide (p0 :: S) H') ls us ∧ (∀ l ∈ ls, LineOk ns l) ∧ ls.length ≤ i) ⟨[], [], none, none, none, none, rfl, rs0.trans ro1, ro1.keep n0t upd_same, trivial, (fun l hl => by cases hl), Nat.zero_le _⟩ (fun i σ H2 hi hP => ?_) fun σ H2 hP => ?_
    · obtain ⟨ls, us, y4, y5, y6, y7, rfl, ro2, hp2, hls, hok, hlen⟩ := hP
      obtain ⟨D2, hs2⟩ := D.roll1 n0 ro2 hp2
      have tin : t ∈ p0 :: S := D1.t_in
      have pin : p0 ∈ p0 :: S := .head _
      have ulen := hls.len
      refine ⟨_, rfl, _, rfl, d, t, p0 :: S, 5, rfl, D2, by decide, fun H3 c ro3 hc => ?_⟩
      have D3 := D2.roll ro3
      have hs3 : Same (hide S H) (hide (p0 :: S) H3) := hs2.trans (ro3.hide tin)
      have nam : ∀ {H' : Hp}, Same (hide S H) (hide (p0 :: S) H') → SqL K H' a (ns.map V.str) := fun s => (hide_same _ _).seq (s.seq ha)
      refine ⟨_, rfl, _, rfl, _, rfl, a, _, rfl, .inl (nam hs3), d, t, p0 :: S, ns.length, lenV rfl, D3, npos, fun H4 o ro4 ho => ?_⟩
      have D4 := D3.roll ro4
      have hs4 : Same (hide S H) (hide (p0 :: S) H4) := hs3.trans (ro4.hide tin)
      refine ⟨_, rfl, _, rfl, _, rfl, a, _, rfl, .inl (nam hs4), _, _, rfl, rfl, 1, _, rfl, d, t, p0 :: S, max 1 (ns.length - 1), ?_, D4, Nat.le_max_left _ _, fun H5 q5 ro5 hq5 => ⟨1, (q5 : Nat), rfl, rfl, ?_⟩⟩
      · refine congrArg (fun i : Int => [V.ref d, .ref t, .int i]) ?_
        rw [List.length_map]
        show (if ((ns.length : Nat) : Int) - 1 > 1 then ((ns.length : Nat) : Int) - 1 else 1) = _
        split <;> omega
      have D5 := D4.roll ro5
      have r35 := ro3.trans (ro4.trans ro5)
      have hs5 : Same (hide S H) (hide (p0 :: S) H5) := hs4.trans (ro5.hide tin)
      have hp5 := r35.keep n0t hp2
      have hls5 := hls.keep (r35.hide tin)
      have ro2' := ro2.trans r35
      have est : (1 : Int) + ((q5 : Nat) : Int) = ((q5 + 1 : Nat) : Int) := by omega
      -- a line more
      have fin : ∀ {H6 : Hp} {l : Ln} {v : V} {y4 y5 y6 y7 : Option V}, Rolls t H H6 → H6 p0 = some (.lst us) → LnVs K (hide (p0 :: S) H6) ls us → LnV K (hide (p0 :: S) H6) l v → LineOk ns l →
          ∃ (ls : List Ln) (us' : List V) (z4 z5 z6 z7 : Option V), [some (V.ref d), some (.ref t), some (.ref a), some (.ref p0), y4, y5, y6, y7, none] = [some (.ref d), some (.ref t), some (.ref a), some (.ref p0), z4, z5, z6, z7, none] ∧ Rolls t H (upd H6 p0 (.lst (us ++ [v]))) ∧ (upd H6 p0 (.lst (us ++ [v]))) p0 = some (.lst us') ∧
            LnVs K (hide (p0 :: S) (upd H6 p0 (.lst (us ++ [v])))) ls us' ∧ (∀ l ∈ ls, LineOk ns l) ∧ ls.length ≤ i + 1 := fun {H6 l v y4 y5 y6 y7} r6 _ h6 hl lo => by
        refine ⟨ls ++ [l], us ++ [v], y4, y5, y6, y7, rfl, r6.upd n0 n0t, upd_same, by rw [hide_upd pin]; exact h6.snoc hl, fun x hx => ?_, by rw [List.length_append]; show ls.length + 1 ≤ i + 1; omega⟩
        · rcases List.mem_append.mp hx with hx | hx
          · exact hok x hx
          · rw [List.mem_singleton.mp hx]
            exact lo
      refine ⟨_, rfl, _, _, rfl, rfl, decide ((c : Int) < 2), rfl, ?_⟩
      by_cases h2 : (c : Int) < 2
      · rw [decide_eq_true h2]
        refine (if_pos rfl).mpr ((if_pos rfl).mpr ?_)
        refine ⟨_, rfl, .inl ⟨rfl, _, .inl (.inl hp5)⟩, _, rfl, _, rfl, _, rfl, d, t, a, p0 :: S, ns, rfl, D5, hs5.seq ha, N, fun H6 f v ro6 hf hw hn => ⟨two, fun q nq => ?_⟩⟩
        have D6 := D5.roll ro6
        have s7 := same_upd (o := .lst [.str "rule", v]) nq
        have hp7 : (upd H6 q (.lst [.str "rule", v])) p0 = some (.lst us) := s7 _ _ (ro6.keep n0t hp5)
        have r7 := ro2'.trans (ro6.trans (Rolls.same D6 s7))
        refine ⟨p0, _, _, rfl, rfl, hp7, small1000 (by omega), fin r7 hp7 (hls5.keep ((ro6.hide tin).trans (same_hide s7))) (l := .rule f) ⟨q, v, rfl, .inl (.inl (hnew nq D6.all)), hf.keep (same_tups (same_hide s7))⟩ (line_rule N hw hn)⟩
      rw [decide_eq_false h2]
      refine (if_neg Bool.false_ne_true).mpr ?_
      refine ⟨_, rfl, a, _, rfl, .inl (nam hs5), rfl, decide (ns.length = 1), congrArg V.bl (by rw [List.length_map]; simp; omega), ?_⟩
      by_cases h1 : ns.length = 1
      · rw [decide_eq_true h1]
        refine (if_pos rfl).mpr ?_
        refine ⟨_, rfl, .inl ⟨rfl, _, .inl (.inl hp5)⟩, _, rfl, _, rfl, _, rfl, d, t, a, p0 :: S, ns, rfl, D5, hs5.seq ha, N, fun H6 f v ro6 hf hw hn => ⟨two, fun q nq => ?_⟩⟩
        have D6 := D5.roll ro6
        have s7 := same_upd (o := .lst [.str "rule", v]) nq
        have hp7 : (upd H6 q (.lst [.str "rule", v])) p0 = some (.lst us) := s7 _ _ (ro6.keep n0t hp5)
        have r7 := ro2'.trans (ro6.trans (Rolls.same D6 s7))
        refine ⟨p0, _, _, rfl, rfl, hp7, small1000 (by omega), fin r7 hp7 (hls5.keep ((ro6.hide tin).trans (same_hide s7))) (l := .rule f) ⟨q, v, rfl, .inl (.inl (hnew nq D6.all)), hf.keep (same_tups (same_hide s7))⟩ (line_rule N hw hn)⟩
      rw [decide_eq_false h1]
      refine (if_neg Bool.false_ne_true).mpr ?_
      have hq5' : q5 + 1 < ns.length := by omega
      refine ⟨_, rfl, rfl, decide ((c : Int) = 2), congrArg V.bl (by simp), ?_⟩
      by_cases h22 : (c : Int) = 2
      · rw [decide_eq_true h22]
        refine (if_pos rfl).mpr ?_
        refine ⟨_, rfl, .inl ⟨rfl, _, .inl (.inl hp5)⟩, _, rfl, _, _, rfl, rfl, ((q5 + 2 : Nat) : Int), congrArg (fun i : Int => [V.int i]) (by omega), by omega, by omega, fun Dd nD => ?_⟩
        refine lc_range (lo := 0) (n := q5 + 2) (fun j H' => Same H5 H' ∧ H' Dd = some (.lst ((rot ns o j).map V.str))) ⟨same_upd nD, upd_same⟩ (fun j H' hj hP => ?_) fun H6 hP => ?_
        · obtain ⟨sm, hD⟩ := hP
          have nm := sm.seq (nam hs5)
          have hlt : (o + j) % ns.length < ns.length := Nat.mod_lt _ (by omega)
          refine ⟨rfl, _, rfl, _, rfl, _, rfl, _, _, rfl, rfl, _, rfl, a, _, rfl, .inl nm, _, _, rfl, rfl, (by rw [List.length_map]; omega), a, _, (((o + j) % ns.length : Nat) : Int), _, rfl, congrArg V.int (by rw [List.length_map, Int.natCast_emod]; congr 1; omega), nm, atI_nat (getD_at hlt), _, hD, ?_, fun b x e => (upd_ne (ne_of_none e nD)).trans (sm b x e), ?_⟩
          · rw [List.length_map, rot_len]
            exact small1000 (by omega)
          · have er : rot ns o (j + 1) = rot ns o j ++ [ns.getD ((o + j) % ns.length) ""] := by
              unfold rot
              rw [List.range_succ, List.map_append]
              rfl
            rw [er, List.map_append]
            exact upd_same
        · obtain ⟨sm, hD⟩ := hP
          refine ⟨two, fun q nq => ?_⟩
          have D6 := D5.same sm
          have s7 := same_upd (o := .lst [.str "one", .ref Dd]) nq
          have hp7 : (upd H6 q (.lst [.str "one", .ref Dd])) p0 = some (.lst us) := s7 _ _ (sm _ _ hp5)
          have r7 := ro2'.trans ((Rolls.same D5 sm).trans (Rolls.same D6 s7))
          have nDS : Dd ∉ p0 :: S := fresh_off nD D5.all
          refine ⟨p0, _, _, rfl, rfl, hp7, small1000 (by omega), fin r7 hp7 (hls5.keep ((same_hide sm).trans (same_hide s7))) (l := .grp "one" (rot ns o (q5 + 2))) ⟨q, Dd, rfl, .inl (.inl (hnew nq D6.all)), (hide_off nDS).trans (s7 _ _ hD)⟩ (line_one N (by omega) (by omega))⟩
      · rw [decide_eq_false h22]
        refine (if_neg Bool.false_ne_true).mpr ?_
        have hlt : (o + (q5 + 1)) % ns.length < ns.length := Nat.mod_lt _ (by omega)
        refine ⟨_, rfl, .inl ⟨rfl, _, .inl (.inl hp5)⟩, two, fun q1 nq1 => ?_⟩
        have s1 := same_upd (o := .lst [.str "needs", .str "bars"]) nq1
        have nm := s1.seq (nam hs5)
        have D6 := D5.same s1
        refine ⟨_, rfl, _, _, rfl, rfl, q1, _, ((c - 3 : Nat) : Int), .str (if c = 3 then "needs" else "bars"), rfl, congrArg V.int (by omega), .inl (.inl upd_same), atI_nat (j := c - 3) ?_, ?_⟩
        · rcases (by omega : c = 3 ∨ c = 4) with rfl | rfl <;> rfl
        refine ⟨_, rfl, _, rfl, a, _, _, _, rfl, rfl, nm, atI_nat (getD_at ho), ?_⟩
        refine ⟨_, rfl, _, rfl, _, rfl, _, _, rfl, rfl, _, rfl, a, _, rfl, .inl nm, _, _, rfl, rfl, (by rw [List.length_map]; omega), a, _, (((o + (q5 + 1)) % ns.length : Nat) : Int), _, rfl, congrArg V.int (by rw [List.length_map, Int.natCast_emod]; congr 1; omega), nm, atI_nat (getD_at hlt), two, fun q2 nq2 => ⟨two, fun q3 nq3 => ?_⟩⟩
        have s2 := same_upd (o := .lst [.str (ns.getD o ""), .str (ns.getD ((o + (q5 + 1)) % ns.length) "")]) nq2
        have D7 := D6.same s2
        have s3 := same_upd (o := .lst [.str (if c = 3 then "needs" else "bars"), .ref q2]) nq3
        have ss := s1.trans (s2.trans s3)
        have hp8 := ss _ _ hp5
        have r8 := ro2'.trans (Rolls.same D5 ss)
        refine ⟨p0, _, _, rfl, rfl, hp8, small1000 (by omega), fin r8 hp8 (hls5.keep (same_hide ss)) (l := .grp (if c = 3 then "needs" else "bars") [ns.getD o "", ns.getD ((o + (q5 + 1)) % ns.length) ""]) ⟨q3, q2, rfl, .inl (.inl (hnew nq3 D7.all)), same_hide s3 _ _ (hnew nq2 D6.all)⟩ (line_two N (by split <;> simp) ho (by omega) (by omega))⟩
    · obtain ⟨ls, us, y4, y5, y6, y7, rfl, ro2, hp2, hls, hok, hlen⟩ := hP
      exact ⟨_, rfl, q H2 p0 ls us ro2 n0 hp2 (hls.keep (hide_mono fun b h => .tail _ h)) hok (by omega)⟩
end
end K77

set_option maxRecDepth 100000
set_option maxHeartbeats 4000000
/-! K8J: _law_lines, _law_book. -/
namespace K77
open PySem PySem.Spec PyProof.Rows L2 KG TL

/-! ### lines that fit -/
def Fit (pre : List Str) (ls : List Ln) : Prop := ∀ i l, ls[i]? = some l → Fits (pre ++ swOf (ls.take i)) l
theorem Fit.nil (pre : List Str) : Fit pre [] := fun i l e => by cases e
theorem Fit.app {pre : List Str} {a b : List Ln} (h : Fit pre a) (k : Fit (pre ++ swOf a) b) : Fit pre (a ++ b) := fun i l e => by
  by_cases hi : i < a.length
  · rw [List.getElem?_append_left hi] at e
    rw [List.take_append_of_le_length (Nat.le_of_lt hi)]
    exact h i l e
  · rw [List.getElem?_append_right (by omega)] at e
    have := k (i - a.length) l e
    rw [List.take_append, List.take_of_length_le (by omega), swOf_app, ← List.append_assoc]
    exact this
theorem Fits.mono {a b : List Str} {l : Ln} (h : Fits a l) (n : ∀ s, l ≠ .sw s) (m : ∀ z ∈ a, z ∈ b) : Fits b l := by
  cases l with
  | sw s => exact absurd rfl (n s)
  | rule f => exact fun y hy => m _ (h y hy)
  | grp w ns => exact fun y hy => m _ (h y hy)
theorem fit_some {pre ns : List Str} {ls : List Ln} (h : ∀ l ∈ ls, LineOk ns l) (m : ∀ z ∈ ns, z ∈ pre) : Fit pre ls := fun i l e => by
  have lo := h l (List.mem_of_getElem? e)
  exact lo.fits.mono lo.nosw fun z hz => List.mem_append_left _ (m z hz)
theorem sw_some {ns : List Str} : ∀ {ls : List Ln}, (∀ l ∈ ls, LineOk ns l) → swOf ls = []
  | [], _ => rfl
  | .sw s :: r, h => absurd rfl ((h _ (.head _)).nosw s)
  | .rule f :: r, h => sw_some (ls := r) fun l hl => h l (.tail _ hl)
  | .grp w n :: r, h => sw_some (ls := r) fun l hl => h l (.tail _ hl)
theorem sw_map : ∀ ns : List Str, swOf (ns.map Ln.sw) = ns
  | [] => rfl
  | n :: r => congrArg (n :: ·) (sw_map r)
theorem fit_map {pre ns : List Str} (nd : (pre ++ ns).Nodup) : Fit pre (ns.map Ln.sw) := fun i l e => by
  rw [List.getElem?_map] at e
  cases en : ns[i]? with
  | none => rw [en] at e; cases e
  | some n =>
    rw [en] at e
    obtain rfl : Ln.sw n = l := Option.some.inj e
    rw [← List.map_take, sw_map]
    show n ∉ pre ++ ns.take i
    have hi : i < ns.length := (List.getElem?_eq_some_iff.mp en).1
    have e2 : ns = ns.take i ++ n :: ns.drop (i + 1) := by
      have := List.getElem_cons_drop hi
      rw [(List.getElem?_eq_some_iff.mp en).2] at this
      rw [this, List.take_append_drop]
    rw [e2, ← List.append_assoc] at nd
    have := (List.nodup_append.mp nd).2.2
    intro m
    exact this n m n (.head _) rfl
/-- a book of the law -/
structure Lns (ls : List Ln) : Prop where
  good : GoodBook ls
  nms : Nms (swOf ls)
  rul : ∀ f, Ln.rule f ∈ ls → f.wt ≤ 138 ∧ ∀ z ∈ f.names, NameOk z
theorem line_wt {ns : List Str} {l : Ln} (h : LineOk ns l) : True := trivial

/-! ### rows -/
theorem wd_10 {l : List Nat} {ws : List Str} (h : Wd l ws) : 10 ∉ l := by
  induction h with
  | nil => intro m; cases m
  | sp _ ih =>
    intro m
    rcases List.mem_cons.mp m with m | m
    · cases m
    · exact ih m
  | @sign c s ws hc _ ih =>
    intro m
    rcases List.mem_cons.mp m with rfl | m
    · exact absurd hc (by decide)
    · exact ih m
  | @word l s ws _ hw _ _ ih =>
    intro m
    rcases List.mem_append.mp m with m | m
    · exact absurd (hw 10 m) (by decide +kernel)
    · exact ih m
theorem name_10 {n : Str} (h : NameOk n) : 10 ∉ tl n := fun m => absurd (h.signs 10 m) (by decide +kernel)
theorem join_mem {y : Str} {c : Nat} (hy : c ∉ tl y) : ∀ {ps : List Str}, (∀ p ∈ ps, c ∉ tl p) → c ∉ tl (Txt.join y ps)
  | [], _ => by
    rw [show tl (Txt.join y []) = [] by rw [join_eq]; rfl]
    intro m
    cases m
  | [p], h => by
    rw [show Txt.join y [p] = p by rw [join_eq]; rfl]
    exact h p (.head _)
  | p :: q :: r, h => by
    rw [join_more, tl_append, tl_append]
    intro m
    rcases List.mem_append.mp m with m | m
    · rcases List.mem_append.mp m with m | m
      · exact h p (.head _) m
      · exact hy m
    · exact join_mem hy (fun x hx => h x (.tail _ hx)) m
/-- a line that the law writes -/
def RowOk (l : Ln) : Prop := l.ok ∧ ∀ f, l = .rule f → f.wt ≤ 138 ∧ ∀ z ∈ f.names, NameOk z
theorem row_sw {s : Str} (h : (Ln.sw s).ok) : LnWr ("switch " ++ s) (.sw s) ∧ 10 ∉ tl ("switch " ++ s) ∧ ("switch " ++ s : Str).length ≤ 300 := by
  refine ⟨rfl, ?_, Ln.std_len h⟩
  rw [tl_append]
  intro m
  rcases List.mem_append.mp m with m | m
  · exact absurd m (by decide +kernel)
  · exact name_10 h m
theorem row_rule {f : Fm} {z : Str} (h : RT z f) (w : z.length ≤ 138) : LnWr ("rule " ++ z) (.rule f) ∧ 10 ∉ tl ("rule " ++ z) ∧ ("rule " ++ z : Str).length ≤ 300 := by
  obtain ⟨l, ws, hw, hr⟩ := h
  refine ⟨⟨z, rfl, l, ws, hw, hr⟩, ?_, ?_⟩
  · rw [tl_append]
    intro m
    rcases List.mem_append.mp m with m | m
    · exact absurd m (by decide +kernel)
    · exact wd_10 hw m
  · rw [len_app, show ("rule " : Str).length = 5 by decide +kernel]
    omega
theorem row_grp {w : Str} {ns : List Str} (h : (Ln.grp w ns).ok) : LnWr (Txt.join " " (w :: ns)) (.grp w ns) ∧ 10 ∉ tl (Txt.join " " (w :: ns)) ∧ (Txt.join " " (w :: ns)).length ≤ 300 := by
  have e := grp_join (w := w) h.2.2.1
  rw [← e]
  refine ⟨rfl, ?_, Ln.std_len h⟩
  rw [e]
  refine join_mem (by rw [tl_sp]; decide) fun p hp => ?_
  rcases List.mem_cons.mp hp with rfl | hp
  · have : ∀ w ∈ (["one", "needs", "bars"] : List Str), 10 ∉ tl w := by decide +kernel
    exact this _ h.1
  · exact name_10 (h.2.1 p hp)
theorem RowsWr.snoc {z : Str} {l : Ln} (h : LnWr z l ∧ 10 ∉ tl z ∧ z.length ≤ 300) : ∀ {zs : List Str} {ls : List Ln}, RowsWr zs ls → RowsWr (zs ++ [z]) (ls ++ [l])
  | [], [], _ => ⟨h, trivial⟩
  | _ :: _, _ :: _, k => ⟨k.1, RowsWr.snoc h k.2⟩
  | [], _ :: _, k => k.elim
  | _ :: _, [], k => k.elim
theorem take_snoc {α : Type} {xs : List α} {i : Nat} {x : α} (h : xs[i]? = some x) : xs.take (i + 1) = xs.take i ++ [x] := by
  rw [List.take_add_one, h]
  rfl
theorem lnwr_ne {z : Str} {l : Ln} (h : LnWr z l) (o : l.ok) : tl z ≠ [] := by
  cases l with
  | sw s =>
    have h : z = "switch " ++ s := h
    rw [h, tl_append, show tl "switch " = [115, 119, 105, 116, 99, 104, 32] by decide +kernel]
    intro e
    cases e
  | rule f =>
    obtain ⟨t, h, _⟩ := h
    rw [h, tl_append, tl_rule]
    intro e
    cases e
  | grp w ns =>
    have h : z = w ++ " " ++ Txt.join " " ns := h
    rw [h, tl_append, tl_append, tl_sp]
    intro e
    simp at e
theorem book_ne {rows : List Str} {ls : List Ln} (h : RowsWr rows ls) (ok : ∀ l ∈ ls, l.ok) (ne : ls ≠ []) : Txt.join "\n" rows ≠ "" := by
  match rows, ls, h with
  | [], [], _ => exact absurd rfl ne
  | r :: rs, l :: ls, h =>
    have n := lnwr_ne h.1.1 (ok l (.head _))
    intro e
    have e := congrArg tl e
    rw [show tl "" = [] by decide +kernel] at e
    cases rs with
    | nil =>
      rw [show Txt.join "\n" [r] = r by rw [join_eq]; rfl] at e
      exact n e
    | cons q rs =>
      rw [join_more, tl_append, tl_append] at e
      exact n (List.append_eq_nil_iff.mp (List.append_eq_nil_iff.mp e).1).1
section
variable {P : Program} {w : World} {K : PySem.W.Frag} {mg : Str → Option Value} {base : Heap}
def spLBook (K : PySem.W.Frag) : Sp := fun vs H Q _ => ∃ (d t L : Addr) (b : Bool) (S : List Addr) (ls : List Ln) (us : List V), vs = [.ref L, .bl b, .ref d, .ref t] ∧ Dr H d t S ∧ SqL K (hide S H) L us ∧ LnVs K (hide S H) ls us ∧ (∀ l ∈ ls, RowOk l) ∧ ls ≠ [] ∧ ls.length ≤ 60 ∧
  ∀ (H' : Hp) (z : Str), Rolls t H H' → BookWr z ls → (b = false → z = bookStd ls) → z ≠ "" → Q (.str z) H'
theorem ok_law_book (T : Tx K mg) : FnOk P w K mg base CX0 22 T.a_law_book T.f_law_book ["lines", "loose", "draws", "at"] (spLBook K) := by
  refine T.F_law_book.ok sc_law_book (fun vs H Q E h => ?_) (fun cdv A outer s0 H vs Q E hr h => ?_)
  · obtain ⟨d, t, L, b, S, ls, us, rfl, _⟩ := h
    rfl
  · obtain ⟨d, t, L, b, S, ls, us, rfl, D, hL, hls, hrow, hne, hlen, q⟩ := h
    refine ⟨_, (pss_cons (ps_set (i := 4) sc_law_book.nd rfl (.inl rfl) (pe_lst pa_nil)) 
  (pss_cons (ps_for PassesOwn.never rfl (pi_list (pv 0)) (pg_name (i := 5) sc_law_book.nd rfl (.inl rfl)) (pss_one (ps_if (pt_cmpR op_eq (pe_ix ix_list (pv 5) pe_int (fun _ _ => rfl)) pe_str (nomark _)) (pss_one (ps_expr (pe_bm PySem.F.plainAttrs_list PySem.F.slot_list_append PySem.F.type_list_append mt_append (pv 4) (pa_cons (pe_op op_add_str pe_str (pe_ix ix_list (pv 5) pe_int (fun _ _ => rfl))) pa_nil)))) (pss_one (ps_if (pt_cmpR op_eq (pe_ix ix_list (pv 5) pe_int (fun _ _ => rfl)) pe_str (nomark _)) (pss_one (ps_expr (pe_bm PySem.F.plainAttrs_list PySem.F.slot_list_append PySem.F.type_list_append mt_append (pv 4) (pa_cons (pe_op op_add_str pe_str (pe_ifExp (pt_truth (pv 1) (by intro _; rfl)) (pe_call (ok_law_loose T 20) hr (by rfl) T.m_law_loose T.F_law_loose.kp T.B_law_loose .nil pass0 (pa_cons (pe_ix ix_list (pv 5) pe_int (fun _ _ => rfl)) (pa_cons (pv 2) (pa_cons (pv 3) pa_nil)))) (pe_call (ok_law_text T 20) (hr.mono (by decide)) (by rfl) T.m_law_text T.F_law_text.kp T.B_law_text .nil pass0 (pa_cons (pe_ix ix_list (pv 5) pe_int (fun _ _ => rfl)) pa_nil)))) pa_nil)))) (pss_one (ps_expr (pe_bm PySem.F.plainAttrs_list PySem.F.slot_list_append PySem.F.type_list_append mt_append (pv 4) (pa_cons (pe_join pe_str (pe_op op_cat (pe_lst (pa_cons (pe_ix ix_list (pv 5) pe_int (fun _ _ => rfl)) pa_nil)) (pe_ix ix_list (pv 5) pe_int (fun _ _ => rfl)))) pa_nil))))))))) (pss_one (ps_ret (pe_join pe_str (pv 4)))))), ?_⟩
    have one : 1 ≤ sizeLine := by decide
    have ulen := hls.len
    refine ⟨Nat.zero_le _, fun p0 n0 => ?_⟩
    have n0t := D.ne n0
    have rs0 := Rolls.same D (same_upd (o := .lst []) n0)
    have inL : ∀ {H' : Hp}, Rolls t H H' → SqL K H' L us := fun r => (hide_same S _).seq ((r.hide D.t_in).seq hL)
    refine ⟨_, rfl, L, rfl, ⟨_, inL rs0⟩, ?_⟩
    refine for_list (xs := us) (fun i σ H' => ∃ (rows : List Str) (y5 : Option V), σ = [some (.ref L), some (.bl b), some (.ref d), some (.ref t), some (.ref p0), y5] ∧ Rolls t H H' ∧ H' p0 = some (.lst (rows.map V.str)) ∧ RowsWr rows (ls.take i) ∧ (b = false → rows = (ls.take i).map Ln.std))
      ⟨[], none, rfl, rs0, upd_same, trivial, fun _ => rfl⟩ (fun i σ H' _ hP => by obtain ⟨_, _, _, r, _⟩ := hP; exact inL r) (fun i v σ H2 hv hP => ?_) fun σ H2 hP => ?_
    · obtain ⟨rows, y5, rfl, ro, hp, hw, hb⟩ := hP
      have D2 := D.roll ro
      have rl := hw.len
      rw [List.length_take] at rl
      obtain ⟨l, hl, hlv⟩ := (hls.keep (ro.hide D.t_in)).at_ hv
      obtain ⟨lok, lrul⟩ := hrow l (List.mem_of_getElem? hl)
      have few : (rows.map V.str).length < sizeLine := by
        rw [List.length_map]
        exact small1000 (by omega)
      have fin : ∀ {H3 : Hp} {z : Str} {y5 : Option V}, Rolls t H H3 → H3 p0 = some (.lst (rows.map V.str)) → (LnWr z l ∧ 10 ∉ tl z ∧ z.length ≤ 300) → (b = false → z = l.std) →
          ∃ (rows' : List Str) (z5 : Option V), [some (V.ref L), some (.bl b), some (.ref d), some (.ref t), some (.ref p0), y5] = [some (V.ref L), some (.bl b), some (.ref d), some (.ref t), some (.ref p0), z5] ∧ Rolls t H (upd H3 p0 (.lst (rows.map V.str ++ [.str z]))) ∧ (upd H3 p0 (.lst (rows.map V.str ++ [.str z]))) p0 = some (.lst (rows'.map V.str)) ∧ RowsWr rows' (ls.take (i + 1)) ∧ (b = false → rows' = (ls.take (i + 1)).map Ln.std) := fun {H3 z y5} r3 h3 hz hs => by
        refine ⟨rows ++ [z], y5, rfl, r3.upd n0 n0t, by rw [List.map_append]; exact upd_same, ?_, fun e => ?_⟩
        · rw [take_snoc hl]
          exact hw.snoc hz
        · rw [take_snoc hl, List.map_append, ← hb e, hs e]
          rfl
      cases l with
      | sw s =>
        obtain ⟨a, rfl, h⟩ := hlv
        have h := (hide_same S _).seq h
        refine ⟨_, rfl, a, _, 0, _, rfl, rfl, h, atI_nat (j := 0) rfl, rfl, true, sEq rfl, ?_⟩
        have rw1 := row_sw lok
        have l3 : ("switch " ++ s : Str).length ≤ 300 := rw1.2.2
        rw [len_app] at l3
        exact ⟨_, rfl, .inl ⟨rfl, _, .inl (.inl hp)⟩, _, rfl, a, _, 1, _, rfl, rfl, h, atI_nat (j := 1) rfl, _, _, rfl, rfl, big_str (by omega), p0, _, _, rfl, rfl, hp, few, fin ro hp rw1 (fun _ => rfl)⟩
      | rule f =>
        obtain ⟨a, u, rfl, h, hf⟩ := hlv
        have h' := (hide_same S _).seq h
        obtain ⟨wt, nm⟩ := lrul f rfl
        have dp : f.dep < 20 := lok.2
        refine ⟨_, rfl, a, _, 0, _, rfl, rfl, h', atI_nat (j := 0) rfl, rfl, false, sNe (by decide +kernel), ?_⟩
        refine ⟨_, rfl, a, _, 0, _, rfl, rfl, h', atI_nat (j := 0) rfl, rfl, true, sEq rfl, ?_⟩
        refine ⟨_, rfl, .inl ⟨rfl, _, .inl (.inl hp)⟩, _, rfl, b, rfl, ?_⟩
        cases b with
        | true =>
          refine (if_pos rfl).mpr ?_
          refine ⟨_, rfl, a, _, 1, _, rfl, rfl, h', atI_nat (j := 1) rfl, _, rfl, _, rfl, d, t, S, f, u, rfl, D2, hf, dp, by omega, nm, fun H3 z ro3 lz => ?_⟩
          have zl : z.length ≤ 138 := by
            have := lz.1
            rw [len_tl]
            omega
          exact ⟨_, _, rfl, rfl, big_str (by rw [show ("rule " : Str).length = 5 by decide +kernel]; omega), p0, _, _, rfl, rfl, ro3.keep n0t hp, few, fin (ro.trans ro3) (ro3.keep n0t hp) (row_rule (lz.rt (by omega)) zl) (fun e => by cases e)⟩
        | false =>
          refine (if_neg Bool.false_ne_true).mpr ?_
          refine ⟨_, rfl, a, _, 1, _, rfl, rfl, h', atI_nat (j := 1) rfl, f, u, rfl, hf.out, dp, by omega, fun H3 s3 => ?_⟩
          have zl := f.std_len
          exact ⟨_, _, rfl, rfl, big_str (by rw [show ("rule " : Str).length = 5 by decide +kernel]; omega), p0, _, _, rfl, rfl, s3 _ _ hp, few, fin (ro.trans (Rolls.same D2 s3)) (s3 _ _ hp) (row_rule (rt_std nm (by omega)) (by omega)) (fun _ => rfl)⟩
      | grp w ns =>
        obtain ⟨a, b2, rfl, h, h2⟩ := hlv
        have h := (hide_same S _).seq h
        have h2 := (hide_get h2).2
        obtain ⟨n1, n2, n3⟩ := grp_tag lok.1
        have g12 := (grp_len lok).2
        refine ⟨_, rfl, a, _, 0, _, rfl, rfl, h, atI_nat (j := 0) rfl, rfl, false, sNe n1, ?_⟩
        refine ⟨_, rfl, a, _, 0, _, rfl, rfl, h, atI_nat (j := 0) rfl, rfl, false, sNe n2, ?_⟩
        refine ⟨_, rfl, .inl ⟨rfl, _, .inl (.inl hp)⟩, ⟨_, rfl⟩, _, rfl, a, _, 0, _, rfl, rfl, h, atI_nat (j := 0) rfl, one, fun q1 nq1 => ?_⟩
        have s1 := same_upd (o := .lst [.str w]) nq1
        refine ⟨_, rfl, a, _, 1, _, rfl, rfl, s1.seq h, atI_nat (j := 1) rfl, q1, b2, _, _, rfl, rfl, upd_same, s1 _ _ h2, by rw [List.length_map]; show 1 + ns.length ≤ sizeLine; exact big_str (by omega), fun q2 nq2 => ?_⟩
        have s2 := same_upd (o := .lst ([.str w] ++ ns.map V.str)) nq2
        have ss := s1.trans s2
        have rwg := row_grp lok
        have sm := grp_len lok
        have stdE := grp_join (w := w) lok.2.2.1
        refine ⟨" ", q2, w :: ns, rfl, rfl, .inl (.inl (.inl upd_same)), ?_, p0, _, _, rfl, rfl, ss _ _ hp, few, fin (ro.trans (Rolls.same D2 ss)) (ss _ _ hp) rwg (fun _ => stdE.symm)⟩
        show w.length + (ns.map (·.length)).sum + (ns.length + 1) * (" " : Str).length ≤ 16777216
        rw [sp_len]
        omega
    · obtain ⟨rows, y5, rfl, ro, hp, hw, hb⟩ := hP
      rw [ulen, List.take_length] at hw hb
      have rl := hw.len
      refine ⟨⟨_, rfl⟩, _, rfl, "\n", p0, rows, rfl, rfl, .inl (.inl (.inl hp)), ?_, q H2 _ ro ⟨rows, rfl, hw⟩ (fun e => by rw [hb e]; rfl) (book_ne hw (fun l hl => (hrow l hl).1) hne)⟩
      have h1 := sum_le (parts := rows) (n := 300) fun x hx => (hw.all x hx).2
      rw [nl_len]
      omega
end
end K77

set_option maxRecDepth 100000
set_option maxHeartbeats 4000000
/-! K8K: _law_lines. -/
namespace K77
open PySem PySem.Spec PyProof.Rows L2 KG TL

theorem cutV_to {xs : List V} {k : Nat} (h : k ≤ xs.length) : cutV xs none (some (k : Int)) = xs.take k := by
  unfold cutV
  rw [HT.sIx_none, HT.sIx_nat, Nat.min_eq_left h]
  rfl
theorem cutV_from {xs : List V} {k : Nat} (h : k ≤ xs.length) : cutV xs (some (k : Int)) none = xs.drop k := by
  unfold cutV
  rw [HT.sIx_none, HT.sIx_nat, Nat.min_eq_left h, ← List.length_drop, List.take_length]
/-- without zz9 -/
def noZ (ns : List Str) : List Str := ns.filter (fun y => y != ("zz9" : Str))
/-- what every book of the law is -/
structure Bk (ls : List Ln) : Prop where
  good : GoodBook ls
  nms : Nms (swOf ls)
  rows : ∀ l ∈ ls, RowOk l
  base : Base (noZ (swOf ls))
theorem LineOk.row {ns : List Str} {l : Ln} (h : LineOk ns l) : RowOk l := ⟨h.ok, h.nms⟩
theorem Base.filter {ns : List Str} (h : Base ns) : noZ ns = ns := List.filter_eq_self.mpr fun y hy => by
  rw [bne_iff_ne]
  intro e
  rw [e] at hy
  exact h.zz hy
theorem bk_of {A B : List Str} {s1 s2 : List Ln} (N : Nms (A ++ B)) (fb : Base (noZ (A ++ B))) (h1 : ∀ l ∈ s1, LineOk A l) (h2 : ∀ l ∈ s2, LineOk (A ++ B) l) (l1 : s1.length ≤ 2) (l2 : s2.length ≤ 2) (ne : A ≠ []) :
    Bk (A.map Ln.sw ++ s1 ++ B.map Ln.sw ++ s2) ∧ swOf (A.map Ln.sw ++ s1 ++ B.map Ln.sw ++ s2) = A ++ B ∧ (A.map Ln.sw ++ s1 ++ B.map Ln.sw ++ s2).length ≤ 8 := by
  have esw : swOf (A.map Ln.sw ++ s1 ++ B.map Ln.sw ++ s2) = A ++ B := by
    rw [swOf_app, swOf_app, swOf_app, sw_map, sw_map, sw_some h1, sw_some h2, List.append_nil, List.append_nil]
  have hlen : (A.map Ln.sw ++ s1 ++ B.map Ln.sw ++ s2).length ≤ 8 := by
    have := N.few
    rw [List.length_append] at this
    simp only [List.length_append, List.length_map]
    omega
  have ok : ∀ l ∈ A.map Ln.sw ++ s1 ++ B.map Ln.sw ++ s2, RowOk l := fun l hl => by
    have sw : ∀ {C : List Str}, (∀ z ∈ C, z ∈ A ++ B) → l ∈ C.map Ln.sw → RowOk l := fun m hl => by
      obtain ⟨n, hn, rfl⟩ := List.mem_map.mp hl
      exact ⟨(N.ok n (m n hn)).1, fun f e => by cases e⟩
    rcases List.mem_append.mp hl with hl | hl
    · rcases List.mem_append.mp hl with hl | hl
      · rcases List.mem_append.mp hl with hl | hl
        · exact sw (fun z hz => List.mem_append_left _ hz) hl
        · exact (h1 l hl).row
      · exact sw (fun z hz => List.mem_append_right _ hz) hl
    · exact (h2 l hl).row
  refine ⟨⟨⟨fun l hl => (ok l hl).1, ?_, by omega, fun e => ?_, ?_⟩, by rw [esw]; exact N, ok, by rw [esw]; exact fb⟩, esw, hlen⟩
  · have nd := N.nd
    have f : Fit [] (A.map Ln.sw ++ s1 ++ B.map Ln.sw ++ s2) := by
      refine Fit.app (Fit.app (Fit.app (fit_map (List.nodup_append.mp nd).1) (fit_some h1 ?_)) (fit_map ?_)) (fit_some h2 ?_)
      · rw [sw_map]
        exact fun z hz => hz
      · rw [swOf_app, sw_map, sw_some h1, List.append_nil]
        exact nd
      · rw [swOf_app, swOf_app, sw_map, sw_map, sw_some h1, List.append_nil]
        exact fun z hz => hz
    exact fun i l e => f i l e
  · have e := congrArg List.length e
    have : 0 < A.length := List.length_pos_iff.mpr ne
    simp only [List.length_append, List.length_map, List.length_nil] at e
    omega
  · rw [esw]
    have := N.few
    omega
section
variable {P : Program} {w : World} {K : PySem.W.Frag} {mg : Str → Option Value} {base : Heap}
def spLines (K : PySem.W.Frag) : Sp := fun vs H Q _ => ∃ (d t a : Addr) (S : List Addr) (ns : List Str), vs = [.ref d, .ref t, .ref a] ∧ Dr H d t S ∧ SqL K (hide S H) a (ns.map V.str) ∧ Base ns ∧
  ∀ (H' : Hp) (p : Addr) (ls : List Ln) (us : List V), Rolls t H H' → H p = none → H' p = some (.lst us) → LnVs K (hide S H') ls us → Bk ls → swOf ls = ns → ls.length ≤ 8 → Q (.ref p) H'
theorem ok_law_lines (T : Tx K mg) : FnOk P w K mg base CX0 4 T.a_law_lines T.f_law_lines ["draws", "at", "names"] (spLines K) := by
  refine T.F_law_lines.ok sc_law_lines (fun vs H Q E h => ?_) (fun cdv A outer s0 H vs Q E hr h => ?_)
  · obtain ⟨d, t, a, S, ns, rfl, _⟩ := h
    rfl
  · obtain ⟨d, t, a, S, ns, rfl, D, ha, B, q⟩ := h
    have hr1 : Room 1 _ := hr.mono (by decide)
    refine ⟨_, (pss_cons (ps_set (i := 3) sc_law_lines.nd rfl (.inl rfl) (pe_op op_add pe_int (pe_call (ok_law_take T) hr1 (by rfl) T.m_law_take T.F_law_take.kp T.B_law_take .nil pass0 (pa_cons (pv 0) (pa_cons (pv 1) (pa_cons (pe_callB call_len_seq (by rfl) T.b_len (by decide +kernel) (pa_cons (pv 2) pa_nil)) pa_nil)))))) 
  (pss_cons (ps_set (i := 4) sc_law_lines.nd rfl (.inl rfl) (pe_op op_cat (pe_lc (own := [("name", 5)]) (g := gName 5) (by rfl) sc_law_lines.nd (pi_list (pe_slice sl_list (pv 2) po_none (po_some (pv 3)))) (blkOk_by (own := [("name", 5)]) (N := ["draws", "at", "names", "early", "lines", "name"]) (sc := defScope s_law_lines) (by decide +kernel)) (fun _ _ _ _ _ => (pg_name (i := 5) sc_law_lines.nd rfl (.inl rfl) (.inr rfl))) (fun _ _ _ _ _ => pts_nil) (fun _ _ _ _ _ => (pe_lst (pa_cons pe_str (pa_cons (pv 5) pa_nil))))) (pe_call (ok_law_some T) hr (by rfl) T.m_law_some T.F_law_some.kp T.B_law_some .nil pass0 (pa_cons (pv 0) (pa_cons (pv 1) (pa_cons (pe_slice sl_list (pv 2) po_none (po_some (pv 3))) pa_nil)))))) (pss_one (ps_ret (pe_op op_cat (pe_op op_cat (pv 4) (pe_lc (own := [("name", 5)]) (g := gName 5) (by rfl) sc_law_lines.nd (pi_list (pe_slice sl_list (pv 2) (po_some (pv 3)) po_none)) (blkOk_by (own := [("name", 5)]) (N := ["draws", "at", "names", "early", "lines", "name"]) (sc := defScope s_law_lines) (by decide +kernel)) (fun _ _ _ _ _ => (pg_name (i := 5) sc_law_lines.nd rfl (.inl rfl) (.inr rfl))) (fun _ _ _ _ _ => pts_nil) (fun _ _ _ _ _ => (pe_lst (pa_cons pe_str (pa_cons (pv 5) pa_nil)))))) (pe_call (ok_law_some T) hr (by rfl) T.m_law_some T.F_law_some.kp T.B_law_some .nil pass0 (pa_cons (pv 0) (pa_cons (pv 1) (pa_cons (pv 2) pa_nil))))))))), ?_⟩
    have two : 2 ≤ sizeLine := by decide
    have N := B.nms
    have npos : 1 ≤ ns.length := N.pos
    have nfew : ns.length ≤ 4 := N.few
    have mlen : (ns.map V.str).length = ns.length := List.length_map ..
    have inN : ∀ {H' : Hp}, Rolls t H H' → SqL K H' a (ns.map V.str) := fun r => (hide_same S _).seq ((r.hide D.t_in).seq ha)
    refine ⟨_, rfl, _, rfl, _, rfl, a, _, rfl, .inl (inN D.refl), d, t, S, ns.length, congrArg (fun n : Nat => [V.ref d, .ref t, .int (n : Nat)]) mlen, D, npos, fun H1 e0 ro1 he0 => ⟨_, _, rfl, rfl, ?_⟩⟩
    have ee : (1 : Int) + ((e0 : Nat) : Int) = ((e0 + 1 : Nat) : Int) := by omega
    have hk : e0 + 1 ≤ ns.length := he0
    generalize e0 + 1 = k at ee hk
    have kpos : 1 ≤ k := by omega
    have eA : cutV (ns.map V.str) none (some (k : Int)) = (ns.take k).map V.str := by rw [cutV_to (by omega), List.map_take]
    have eB : cutV (ns.map V.str) (some (k : Int)) none = (ns.drop k).map V.str := by rw [cutV_from (by omega), List.map_drop]
    have eAB : ns.take k ++ ns.drop k = ns := List.take_append_drop k ns
    have D1 := D.roll ro1
    -- the first switches
    refine ⟨_, rfl, _, rfl, (k : Int), congrArg V.int ee, a, _, rfl, inN ro1, fun p1 np1 => ?_⟩
    rw [eA]
    refine ⟨p1, rfl, ⟨_, .inl (.inl upd_same)⟩, fun Da nDa => ?_⟩
    have s1 := same_upd (o := .lst ((ns.take k).map V.str)) np1
    have ro2 := ro1.trans (Rolls.same D1 s1)
    have D2 := D.roll ro2
    have alen : ((ns.take k).map V.str).length = (ns.take k).length := List.length_map ..
    have alen4 : (ns.take k).length ≤ 4 := by rw [List.length_take]; omega
    refine lc_list (K := K) (a := p1) (xs := (ns.take k).map V.str) (fun i H' => Rolls t (upd H1 p1 (.lst ((ns.take k).map V.str))) H' ∧ ∃ us, H' Da = some (.lst us) ∧ LnVs K (hide (Da :: S) H') (((ns.take k).take i).map Ln.sw) us) ⟨.same D2 (same_upd nDa), [], upd_same, trivial⟩
      (fun i H' _ hP => .inl (.inl (hP.1.keep (D1.ne np1) upd_same))) (fun i v H' hv hP => ?_) fun H3 hP => ?_
    · obtain ⟨r', us, hD, hl⟩ := hP
      obtain ⟨D3, _⟩ := D2.roll1 nDa r' hD
      rw [List.getElem?_map] at hv
      cases en : (ns.take k)[i]? with
      | none => rw [en] at hv; cases hv
      | some n =>
        rw [en] at hv
        obtain rfl : V.str n = v := Option.some.inj hv
        have ul := hl.len
        rw [List.length_map, List.length_take] at ul
        refine ⟨rfl, _, rfl, two, fun q1 nq1 => ?_⟩
        have s4 := same_upd (o := .lst [.str "switch", .str n]) nq1
        refine ⟨us, s4 _ _ hD, small1000 (by omega), (r'.trans (.same (D2.roll r') s4)).upd nDa (D2.ne nDa), _, upd_same, ?_⟩
        rw [hide_upd (.head _), take_snoc en, List.map_append]
        exact (hl.keep (same_hide s4)).snoc (l := .sw n) ⟨q1, rfl, .inl (.inl (hnew nq1 D3.all))⟩
    obtain ⟨r3, ua, hDa, hla⟩ := hP
    rw [alen, List.take_length] at hla
    have ro3 := ro2.trans r3
    have D3 := D.roll ro3
    have hla := hla.keep (hide_mono fun b h => .tail _ h)
    have nDat : Da ≠ t := D2.ne nDa
    -- names[:early] again, then some
    refine ⟨_, rfl, _, rfl, _, rfl, _, rfl, (k : Int), congrArg V.int ee, a, _, rfl, inN ro3, fun p2 np2 => ?_⟩
    rw [eA]
    have s5 := same_upd (o := .lst ((ns.take k).map V.str)) np2
    have ro5 := ro3.trans (Rolls.same D3 s5)
    have D5 := D.roll ro5
    have NA : Nms (ns.take k) := ⟨fun n hn => N.ok n (List.mem_of_mem_take hn), (List.take_sublist k ns).nodup N.nd, by rw [List.length_take]; omega, alen4⟩
    refine ⟨d, t, p2, S, ns.take k, rfl, D5, .inl (.inl (hnew np2 D3.all)), NA, fun H6 p6 l1 u1 ro6 n6 h6 hl1 ok1 len1 => ?_⟩
    have ro6' := ro5.trans ro6
    have D6 := D.roll ro6'
    have hla6 := hla.keep ((same_hide s5).trans (ro6.hide D.t_in))
    have hDa6 := ro6.keep nDat (s5 _ _ hDa)
    have la := hla.len
    have lu1 := hl1.len
    rw [List.length_map] at la
    refine ⟨Da, p6, ua, u1, rfl, rfl, hDa6, h6, Nat.le_of_lt (small1000 (by omega)), fun p7 np7 => ?_⟩
    have s7 := same_upd (o := .lst (ua ++ u1)) np7
    have ro7 := ro6'.trans (Rolls.same D6 s7)
    have D7 := D.roll ro7
    have hl7 := (LnVs.app hl1 hla6).keep (same_hide (S := S) s7)
    have n7t := D6.ne np7
    -- the other switches
    refine ⟨_, rfl, _, rfl, _, rfl, (k : Int), congrArg V.int ee, a, _, rfl, inN ro7, fun p8 np8 => ?_⟩
    rw [eB]
    refine ⟨p8, rfl, ⟨_, .inl (.inl upd_same)⟩, fun Db nDb => ?_⟩
    have s8 := same_upd (o := .lst ((ns.drop k).map V.str)) np8
    have ro8 := ro7.trans (Rolls.same D7 s8)
    have D8 := D.roll ro8
    have blen : ((ns.drop k).map V.str).length = (ns.drop k).length := List.length_map ..
    have blen4 : (ns.drop k).length ≤ 4 := by rw [List.length_drop]; omega
    refine lc_list (K := K) (a := p8) (xs := (ns.drop k).map V.str) (fun i H' => Rolls t (upd (upd H6 p7 (.lst (ua ++ u1))) p8 (.lst ((ns.drop k).map V.str))) H' ∧ ∃ us, H' Db = some (.lst us) ∧ LnVs K (hide (Db :: S) H') (((ns.drop k).take i).map Ln.sw) us) ⟨.same D8 (same_upd nDb), [], upd_same, trivial⟩
      (fun i H' _ hP => .inl (.inl (hP.1.keep (D7.ne np8) upd_same))) (fun i v H' hv hP => ?_) fun H9 hP => ?_
    · obtain ⟨r', us, hD, hl⟩ := hP
      obtain ⟨D9, _⟩ := D8.roll1 nDb r' hD
      rw [List.getElem?_map] at hv
      cases en : (ns.drop k)[i]? with
      | none => rw [en] at hv; cases hv
      | some n =>
        rw [en] at hv
        obtain rfl : V.str n = v := Option.some.inj hv
        have ul := hl.len
        rw [List.length_map, List.length_take] at ul
        refine ⟨rfl, _, rfl, two, fun q1 nq1 => ?_⟩
        have s4 := same_upd (o := .lst [.str "switch", .str n]) nq1
        refine ⟨us, s4 _ _ hD, small1000 (by omega), (r'.trans (.same (D8.roll r') s4)).upd nDb (D8.ne nDb), _, upd_same, ?_⟩
        rw [hide_upd (.head _), take_snoc en, List.map_append]
        exact (hl.keep (same_hide s4)).snoc (l := .sw n) ⟨q1, rfl, .inl (.inl (hnew nq1 D9.all))⟩
    obtain ⟨r9, ub, hDb, hlb⟩ := hP
    rw [blen, List.take_length] at hlb
    have ro9 := ro8.trans r9
    have D9 := D.roll ro9
    have hlb := hlb.keep (hide_mono fun b h => .tail _ h)
    have lb := hlb.len
    rw [List.length_map] at lb
    have h79 : H9 p7 = some (.lst (ua ++ u1)) := r9.keep n7t (s8 _ _ upd_same)
    have hl9 := hl7.keep ((same_hide s8).trans (r9.hide D.t_in))
    refine ⟨p7, Db, _, _, rfl, rfl, h79, hDb, Nat.le_of_lt (small1000 (by rw [List.length_append]; omega)), fun p10 np10 => ?_⟩
    have s10 := same_upd (o := .lst (ua ++ u1 ++ ub)) np10
    have ro10 := ro9.trans (Rolls.same D9 s10)
    have D10 := D.roll ro10
    have hl10 := (LnVs.app hlb hl9).keep (same_hide (S := S) s10)
    refine ⟨_, rfl, _, rfl, _, rfl, d, t, a, S, ns, rfl, D10, (ro10.hide D.t_in).seq ha, N, fun H11 p11 l2 u2 ro11 n11 h11 hl2 ok2 len2 => ?_⟩
    have ro11' := ro10.trans ro11
    have D11 := D.roll ro11'
    have h10' := ro11.keep (D9.ne np10) upd_same
    have lu2 := hl2.len
    refine ⟨p10, p11, _, _, rfl, rfl, h10', h11, Nat.le_of_lt (small1000 (by rw [List.length_append, List.length_append]; omega)), fun p12 np12 => ?_⟩
    have s12 := same_upd (o := .lst (ua ++ u1 ++ ub ++ u2)) np12
    have hl12 := (LnVs.app hl2 (hl10.keep (ro11.hide D.t_in))).keep (same_hide (S := S) s12)
    have fb : Base (noZ (ns.take k ++ ns.drop k)) := by
      rw [eAB, B.filter]
      exact B
    obtain ⟨bk, esw, len⟩ := bk_of (A := ns.take k) (B := ns.drop k) (s1 := l1) (s2 := l2) (by rw [eAB]; exact N) fb ok1 (by rw [eAB]; exact ok2) len1 len2 (fun e => by
      have e := congrArg List.length e
      rw [List.length_take, List.length_nil] at e
      omega)
    refine q _ p12 _ _ (ro11'.trans (Rolls.same D11 s12)) ?_ upd_same hl12 bk (by rw [esw, eAB]) len
    cases e : H p12 with
    | none => rfl
    | some o =>
      have nt : p12 ≠ t := D11.ne np12
      have := ro11'.keep nt e
      rw [np12] at this
      cases this
end
end K77

set_option maxRecDepth 100000
set_option maxHeartbeats 4000000
/-! K8L: states of the law; replaced texts; zz9. -/
namespace K77
open PySem PySem.Spec PyProof.Rows L2 KG TL PySem.StrLaws

theorem occ_empty {z y : Str} (h : (PySem.Builtin.Str.occurrences z y 0 z.length 1).isEmpty = true) : ∀ a b, tl z ≠ a ++ tl y ++ b := fun a b e => by
  rw [List.isEmpty_iff, occ_eq] at h
  have h := Array.toList_eq_nil_iff.mp h
  have no := (occ_none z y z.length (List.range' 0 (z.length + 1 - 0)) 0 (fun _ _ => Nat.zero_le _)).mp h
  have hl : z.length = a.length + y.length + b.length := by
    rw [len_tl, e, List.length_append, List.length_append, len_tl y]
  refine no a.length (List.mem_range'_1.mpr ⟨Nat.zero_le _, by omega⟩) ⟨by omega, ?_⟩
  rw [subAt_eq, beq_iff_eq]
  show ((tl z).drop a.length).take y.length = tl y
  rw [e, List.append_assoc, List.drop_left, len_tl y, List.take_left]
theorem repl_pre (z x : Str) : repl z 0 0 x = x ++ z := by
  unfold repl
  rw [cut_to, cut_from (Nat.zero_le _)]
  refine ext_tl ?_
  rw [tl_append, tl_append, tl_append]
  show List.take 0 (tl z) ++ tl x ++ List.drop 0 (tl z) = _
  rw [List.take_zero, List.drop_zero, List.nil_append]
theorem repl_post (z x : Str) : repl z z.length z.length x = z ++ x := by
  unfold repl
  rw [cut_to, cut_from (by rw [len_tl]; exact Nat.le_refl _)]
  refine ext_tl ?_
  rw [tl_append, tl_append, tl_append]
  show List.take z.length (tl z) ++ tl x ++ List.drop z.length (tl z) = _
  rw [len_tl, List.take_length, List.drop_length, List.append_nil]
theorem repl_none {z : Str} {k : Nat} (h : k ≤ z.length) : repl z k k "" = z := by
  unfold repl
  rw [cut_to, cut_from (by rw [← len_tl]; exact h)]
  refine ext_tl ?_
  rw [tl_append, tl_append, show tl "" = [] by decide +kernel, List.append_nil]
  exact List.take_append_drop k (tl z)
theorem repl_all (z x : Str) : repl z 0 z.length x = x := by
  unfold repl
  rw [cut_to, cut_from (by rw [len_tl]; exact Nat.le_refl _)]
  refine ext_tl ?_
  rw [tl_append, tl_append]
  show List.take 0 (tl z) ++ tl x ++ List.drop z.length (tl z) = _
  rw [List.take_zero, len_tl, List.drop_length, List.append_nil, List.nil_append]
/-- what the law keeps of a text and a book -/
structure St (z rl : Str) (ls : List Ln) (B : Nat) : Prop where
  few : z.length ≤ B
  lt : LT (swOf ls) (tl z)
  wr : BookWr rl ls
  ne : rl ≠ ""
  bk : Bk ls
  len : ls.length ≤ 51
theorem St.now {z rl : Str} {ls : List Ln} {B : Nat} (s : St z rl ls B) (h : B ≤ 6000) : Now z rl ls := ⟨Nat.le_trans s.few h, s.wr, s.bk.good, s.ne, s.lt.ok⟩
theorem St.mono {z rl : Str} {ls : List Ln} {B C : Nat} (s : St z rl ls B) (h : B ≤ C) : St z rl ls C := ⟨Nat.le_trans s.few h, s.lt, s.wr, s.ne, s.bk, s.len⟩
/-- now, at the list a -/
def NowAt (K : PySem.W.Frag) (G : Hp) (a : Addr) (z rl : Str) (ls : List Ln) : Prop := ∃ (L : Addr) (us : List V), SqL K G a [.str z, .str rl, .ref L] ∧ G L = some (.lst us) ∧ LnVs K G ls us
theorem NowAt.keep {K : PySem.W.Frag} {G G' : Hp} {a : Addr} {z rl : Str} {ls : List Ln} (s : Same G G') (h : NowAt K G a z rl ls) : NowAt K G' a z rl ls := let ⟨L, us, h1, h2, h3⟩ := h; ⟨L, us, s.seq h1, s _ _ h2, h3.keep s⟩
theorem EdAt.same {K : PySem.W.Frag} {G G' : Hp} {e : Ed} {v : V} (s : Same G G') (h : EdAt K G e v) : EdAt K G' e v := h.keep (same_tups s)
/-- the pair of an edit and what is then -/
theorem ret3 {K : PySem.W.Frag} {H : Hp} {d t q1 q2 q3 L : Addr} {S : List Addr} {xs us : List V} {z rl : Str} {ls : List Ln} (D : Dr H d t S) (n1 : H q1 = none) (n2 : (upd H q1 (.tup xs)) q2 = none) (n3 : (upd (upd H q1 (.tup xs)) q2 (.lst [.str z, .str rl, .ref L])) q3 = none)
    (hL : hide S H L = some (.lst us)) (hls : LnVs K (hide S H) ls us) :
    Rolls t H (upd (upd (upd H q1 (.tup xs)) q2 (.lst [.str z, .str rl, .ref L])) q3 (.lst [.ref q1, .ref q2])) ∧
    SqL K (hide S (upd (upd (upd H q1 (.tup xs)) q2 (.lst [.str z, .str rl, .ref L])) q3 (.lst [.ref q1, .ref q2]))) q3 [.ref q1, .ref q2] ∧
    SqT K (hide S (upd (upd (upd H q1 (.tup xs)) q2 (.lst [.str z, .str rl, .ref L])) q3 (.lst [.ref q1, .ref q2]))) q1 xs ∧
    NowAt K (hide S (upd (upd (upd H q1 (.tup xs)) q2 (.lst [.str z, .str rl, .ref L])) q3 (.lst [.ref q1, .ref q2]))) q2 z rl ls := by
  have s1 := same_upd (o := .tup xs) n1
  have s2 := same_upd (o := .lst [.str z, .str rl, .ref L]) n2
  have s3 := same_upd (o := .lst [.ref q1, .ref q2]) n3
  have D1 := D.same s1
  have D2 := D1.same s2
  have ss := s1.trans (s2.trans s3)
  exact ⟨.same D ss, .inl (.inl (hnew n3 D2.all)), .inl (.inl (same_hide (s2.trans s3) _ _ (hnew n1 D.all))), L, us, .inl (.inl (same_hide s3 _ _ (hnew n2 D1.all))), same_hide ss _ _ hL, hls.keep (same_hide ss)⟩
/-- names with zz9 among them -/
def withZ (ns : List Str) : List Str := ns.drop 1 ++ [("zz9" : Str)] ++ ns.take 1
theorem nmok_zz9 : NameOk ("zz9" : Str) ∧ ("zz9" : Str).length ≤ 8 := by
  have e : tl ("zz9" : Str) = [122, 122, 57] := zz9_tl
  refine ⟨⟨by decide +kernel, by decide +kernel, ⟨122, [122, 57], e, by decide +kernel⟩, ?_, not_kw (by decide +kernel)⟩, by decide +kernel⟩
  rw [e]
  decide +kernel
theorem withZ_mem {ns : List Str} {y : Str} : y ∈ withZ ns ↔ y = "zz9" ∨ y ∈ ns := by
  unfold withZ
  have e : y ∈ ns ↔ y ∈ ns.take 1 ∨ y ∈ ns.drop 1 := by
    conv => lhs; rw [← List.take_append_drop 1 ns]
    exact List.mem_append
  rw [List.mem_append, List.mem_append, List.mem_singleton, e]
  constructor
  · rintro ((h | h) | h)
    · exact .inr (.inr h)
    · exact .inl h
    · exact .inr (.inl h)
  · rintro (h | h | h)
    · exact .inl (.inr h)
    · exact .inr h
    · exact .inl (.inl h)
theorem noZ_app (a b : List Str) : noZ (a ++ b) = noZ a ++ noZ b := List.filter_append ..
theorem base_sub {a b : List Str} (h : Base (a ++ b)) : Base (b ++ a) := by
  obtain ⟨⟨ok, nd, p, f⟩, f3, zz⟩ := h
  have len : (b ++ a).length = (a ++ b).length := by rw [List.length_append, List.length_append]; omega
  refine ⟨⟨fun n hn => ok n ?_, ?_, by rw [len]; exact p, by rw [len]; exact f⟩, by rw [len]; exact f3, fun m => zz ?_⟩
  · exact List.mem_append.mpr ((List.mem_append.mp hn).symm)
  · exact (List.perm_append_comm.nodup_iff).mp nd
  · exact List.mem_append.mpr ((List.mem_append.mp m).symm)
theorem withZ_ok {ns : List Str} (B : Base ns) : Nms (withZ ns) ∧ Base (noZ (withZ ns)) := by
  have e : ns.take 1 ++ ns.drop 1 = ns := List.take_append_drop 1 ns
  have len : (withZ ns).length = ns.length + 1 := by
    unfold withZ
    rw [List.length_append, List.length_append]
    have := congrArg List.length e
    rw [List.length_append] at this
    show (ns.drop 1).length + 1 + (ns.take 1).length = _
    omega
  have B2 : Base (ns.drop 1 ++ ns.take 1) := base_sub (by rw [e]; exact B)
  constructor
  · refine ⟨fun n hn => ?_, ?_, by rw [len]; omega, by rw [len]; have := B.few; omega⟩
    · rcases withZ_mem.mp hn with rfl | hn
      · exact nmok_zz9
      · exact B.nms.ok n hn
    · unfold withZ
      have p : ((ns.drop 1 ++ [("zz9" : Str)]) ++ ns.take 1).Perm (("zz9" : Str) :: (ns.drop 1 ++ ns.take 1)) := by
        rw [List.append_assoc]
        exact List.perm_middle
      exact p.nodup_iff.mpr (List.nodup_cons.mpr ⟨B2.zz, B2.nms.nd⟩)
  · have e3 : noZ (withZ ns) = ns.drop 1 ++ ns.take 1 := by
      unfold withZ
      rw [noZ_app, noZ_app]
      have h1 : noZ (ns.drop 1 ++ ns.take 1) = ns.drop 1 ++ ns.take 1 := B2.filter
      rw [noZ_app] at h1
      have h2 : noZ [("zz9" : Str)] = [] := by decide +kernel
      rw [h2, List.append_nil]
      exact h1
    rw [e3]
    exact B2
theorem rule_ok {f : Fm} (w : f.wt ≤ 138) : (Ln.rule f).ok := ⟨by omega, by have := f.dep_wt; omega⟩
/-- one rule more -/
theorem bk_more {ls : List Ln} {f : Fm} (b : Bk ls) (w : f.wt ≤ 138) (h : ∀ y ∈ f.names, y ∈ swOf ls) (l : ls.length ≤ 50) : Bk (ls ++ [.rule f]) ∧ swOf (ls ++ [.rule f]) = swOf ls := by
  have e : swOf (ls ++ [.rule f]) = swOf ls := by
    rw [swOf_app]
    exact List.append_nil _
  have ok : ∀ l ∈ ls ++ [Ln.rule f], RowOk l := fun l hl => by
    rcases List.mem_append.mp hl with hl | hl
    · exact b.rows l hl
    · rw [List.mem_singleton.mp hl]
      exact ⟨rule_ok w, fun g eg => by cases eg; exact ⟨w, fun z hz => (b.nms.ok z (h z hz)).1⟩⟩
  refine ⟨⟨⟨fun l hl => (ok l hl).1, ?_, by rw [List.length_append]; show ls.length + 1 ≤ 55; omega, fun e => by simp at e, by rw [e]; exact b.good.sws⟩, by rw [e]; exact b.nms, ok, by rw [e]; exact b.base⟩, e⟩
  have f1 : Fit [] ls := fun i l e => b.good.fits i l e
  have f2 : Fit ([] ++ swOf ls) [Ln.rule f] := fun i l e => by
    cases i with
    | zero =>
      obtain rfl := Option.some.inj e
      exact fun y hy => List.mem_append_left _ (h y hy)
    | succ i => cases e
  exact fun i l e => f1.app f2 i l e
end K77

set_option maxRecDepth 100000
set_option maxHeartbeats 8000000
/-! K8N: _law_edit. -/
namespace K77
open PySem PySem.Spec PyProof.Rows L2 KG TL

theorem iEq {a b : Int} (h : a = b) : V.bl (decide (V.int a = V.int b)) = V.bl true := congrArg V.bl (decide_eq_true (congrArg V.int h))
theorem iNe {a b : Int} (h : a ≠ b) : V.bl (decide (V.int a = V.int b)) = V.bl false := congrArg V.bl (decide_eq_false fun e => h (V.int.inj e))
theorem or_imp {b : Bool} {A B C : Prop} (k : Bool) (hA : k = true → A) (hB : k = false → B) (h1 : b = true → k = true) (h2 : b = false → (if k = true then A else B) → C) : if b = true then (if true = true then A else B) else C := by
  cases b with
  | true => exact (if_pos rfl).mpr ((if_pos rfl).mpr (hA (h1 rfl)))
  | false =>
    refine (if_neg Bool.false_ne_true).mpr (h2 rfl ?_)
    cases k with
    | true => exact (if_pos rfl).mpr (hA rfl)
    | false => exact (if_neg Bool.false_ne_true).mpr (hB rfl)
theorem noZ_snoc (xs : List Str) (x : Str) : noZ (xs ++ [x]) = if x = "zz9" then noZ xs else noZ xs ++ [x] := by
  rw [noZ_app]
  unfold noZ
  by_cases e : x = "zz9"
  · rw [if_pos e]
    simp [e]
  · rw [if_neg e]
    simp [e]
section
variable {P : Program} {w : World} {K : PySem.W.Frag} {mg : Str → Option Value} {base : Heap}
def spEdit (K : PySem.W.Frag) : Sp := fun vs H Q _ => ∃ (d t a : Addr) (S : List Addr) (z rl : Str) (ls : List Ln) (B : Nat), vs = [.ref d, .ref t, .ref a] ∧ Dr H d t S ∧ NowAt K (hide S H) a z rl ls ∧ St z rl ls B ∧ B ≤ 5900 ∧
  ∀ (H' : Hp) (p a' : Addr) (v : V) (ed : Ed) (z' rl' : Str) (ls' : List Ln), Rolls t H H' → SqL K (hide S H') p [v, .ref a'] → EdAt K (hide S H') ed v → NowAt K (hide S H') a' z' rl' ls' → EdOk ed z rl ls z' rl' ls' → St z' rl' ls' (B + 32) → Q (.ref p) H'
theorem ok_law_edit (T : Tx K mg) : FnOk P w K mg base CX0 23 T.a_law_edit T.f_law_edit ["draws", "at", "now"] (spEdit K) := by
  refine T.F_law_edit.ok sc_law_edit (fun vs H Q E h => ?_) (fun cdv A outer s0 H vs Q E hr h => ?_)
  · obtain ⟨d, t, a, S, z, rl, ls, B, rfl, _⟩ := h
    rfl
  · obtain ⟨d, t, a, S, z, rl, ls, B, rfl, D, ⟨L, us, ha, hL, hls⟩, st, hB, q⟩ := h
    have hr1 : Room 1 _ := hr.mono (by decide)
    refine ⟨_, (pss_cons (ps_set (i := 3) sc_law_edit.nd rfl (.inl rfl) (pe_ix ix_list (pv 2) pe_int (fun _ _ => rfl))) 
  (pss_cons (ps_set (i := 4) sc_law_edit.nd rfl (.inl rfl) (pe_ix ix_list (pv 2) pe_int (fun _ _ => rfl))) 
  (pss_cons (ps_setLc (i := 5) (own := [("line", 13)]) (g := gName 13) (by rfl) sc_law_edit.nd rfl rfl (sw_true rfl rfl rfl (by decide +kernel)) (pi_list (pv 4)) (blkOk_by (own := [("line", 13)]) (N := ["draws", "at", "now", "source", "lines", "names", "piece", "choice", "spot", "size", "plain", "rules", "tree", "line", "name"]) (sc := defScope s_law_edit) (by decide +kernel)) (fun _ _ _ _ _ => (pg_name (i := 13) sc_law_edit.nd rfl (.inl rfl) (.inr rfl))) (fun _ _ _ _ _ => (pts_one (pt_cmpR op_eq (pe_ix (ix_list_K (K := K) rfl) (pv 13) pe_int (fun _ _ => rfl)) pe_str (nomark _)))) (fun _ _ _ _ _ => (pe_ix (ix_list_K (K := K) rfl) (pv 13) pe_int (fun _ _ => rfl)))) 
  (pss_cons (ps_set (i := 6) sc_law_edit.nd rfl (.inl rfl) (pe_call (ok_law_piece T) (hr.mono (by decide)) (by rfl) T.m_law_piece T.F_law_piece.kp T.B_law_piece .nil pass0 (pa_cons (pv 0) (pa_cons (pv 1) (pa_cons (pv 5) pa_nil))))) 
  (pss_cons (ps_set (i := 7) sc_law_edit.nd rfl (.inl rfl) (pe_call (ok_law_take T) hr1 (by rfl) T.m_law_take T.F_law_take.kp T.B_law_take .nil pass0 (pa_cons (pv 0) (pa_cons (pv 1) (pa_cons pe_int pa_nil))))) 
  (pss_cons (ps_set (i := 8) sc_law_edit.nd rfl (.inl rfl) (pe_call (ok_law_take T) hr1 (by rfl) T.m_law_take T.F_law_take.kp T.B_law_take .nil pass0 (pa_cons (pv 0) (pa_cons (pv 1) (pa_cons (pe_op op_add (pe_callB call_len_str (by rfl) T.b_len PySem.boot_len (pa_cons (pv 3) pa_nil)) pe_int) pa_nil))))) 
  (pss_cons (ps_set (i := 9) sc_law_edit.nd rfl (.inl rfl) (pe_callB call_len_str (by rfl) T.b_len PySem.boot_len (pa_cons (pv 3) pa_nil))) 
  (pss_cons (ps_if (pt_cmpR op_eq (pv 7) pe_int (nomark _)) (pss_one (ps_ret (pe_lst (pa_cons (pe_tup (pa_cons pe_str (pa_cons pe_int (pa_cons pe_int (pa_cons (pv 6) pa_nil))))) (pa_cons (pe_lst (pa_cons (pe_op op_add_str (pv 6) (pv 3)) (pa_cons (pe_ix ix_list (pv 2) pe_int (fun _ _ => rfl)) (pa_cons (pv 4) pa_nil)))) pa_nil))))) pss_nil) 
  (pss_cons (ps_if (pt_cmpR op_eq (pv 7) pe_int (nomark _)) (pss_one (ps_ret (pe_lst (pa_cons (pe_tup (pa_cons pe_str (pa_cons (pv 9) (pa_cons (pv 9) (pa_cons (pe_op op_add_str pe_str (pv 6)) pa_nil))))) (pa_cons (pe_lst (pa_cons (pe_op op_add_str (pe_op op_add_str (pv 3) pe_str) (pv 6)) (pa_cons (pe_ix ix_list (pv 2) pe_int (fun _ _ => rfl)) (pa_cons (pv 4) pa_nil)))) pa_nil))))) pss_nil) 
  (pss_cons (ps_if (pt_cmpR op_eq (pv 7) pe_int (nomark _)) (pss_one (ps_ret (pe_lst (pa_cons (pe_tup (pa_cons pe_str (pa_cons (pv 8) (pa_cons (pv 8) (pa_cons pe_str pa_nil))))) (pa_cons (pv 2) pa_nil))))) pss_nil) 
  (pss_cons (ps_if (pt_cmpR op_eq (pv 7) pe_int (nomark _)) (pss_one (ps_ret (pe_lst (pa_cons (pe_tup (pa_cons pe_str (pa_cons pe_int (pa_cons (pv 9) (pa_cons (pe_op op_add_str (pv 6) pe_str) pa_nil))))) (pa_cons (pe_lst (pa_cons (pe_op op_add_str (pv 6) pe_str) (pa_cons (pe_ix ix_list (pv 2) pe_int (fun _ _ => rfl)) (pa_cons (pv 4) pa_nil)))) pa_nil))))) pss_nil) 
  (pss_cons (ps_if (PW.pt (pw_or (pt_cmpR op_lt (pv 7) pe_int (nomark _)) (pw_or1 (pt_cmpR op_gt (pe_callB call_len_seq (by rfl) T.b_len (by decide +kernel) (pa_cons (pv 4) pa_nil)) pe_int (nomark _))))) 
    (pss_cons (ps_setLc (i := 10) (own := [("name", 14)]) (g := gName 14) (by rfl) sc_law_edit.nd rfl rfl (sw_true rfl rfl rfl (by decide +kernel)) (pi_list (pv 5)) (blkOk_by (own := [("name", 14)]) (N := ["draws", "at", "now", "source", "lines", "names", "piece", "choice", "spot", "size", "plain", "rules", "tree", "line", "name"]) (sc := defScope s_law_edit) (by decide +kernel)) (fun _ _ _ _ _ => (pg_name (i := 14) sc_law_edit.nd rfl (.inl rfl) (.inr rfl))) (fun _ _ _ _ _ => (pts_one (pt_cmpR op_ne (pv 14) pe_str (nomark _)))) (fun _ _ _ _ _ => (pv 14))) 
    (C8.pss_cut (ps_if (PW.pt (pw_or (pt_cmpR op_in_str pe_str (pv 3) rfl) (pw_or1 (pt_cmpR op_eq (pe_call (ok_law_take T) hr1 (by rfl) T.m_law_take T.F_law_take.kp T.B_law_take .nil pass0 (pa_cons (pv 0) (pa_cons (pv 1) (pa_cons pe_int pa_nil)))) pe_int (nomark _))))) (pss_one (ps_set (i := 10) sc_law_edit.nd rfl (.inl rfl) (pe_op op_cat (pe_op op_cat (pe_slice sl_list (pv 10) (po_some pe_int) po_none) (pe_lst (pa_cons pe_str pa_nil))) (pe_slice sl_list (pv 10) po_none (po_some pe_int))))) pss_nil) 
    (pss_cons (ps_set (i := 4) sc_law_edit.nd rfl (.inl rfl) (pe_op op_cat (pe_lc (own := [("name", 14)]) (g := gName 14) (by rfl) sc_law_edit.nd (pi_list (pv 10)) (blkOk_by (own := [("name", 14)]) (N := ["draws", "at", "now", "source", "lines", "names", "piece", "choice", "spot", "size", "plain", "rules", "tree", "line", "name"]) (sc := defScope s_law_edit) (by decide +kernel)) (fun _ _ _ _ _ => (pg_name (i := 14) sc_law_edit.nd rfl (.inl rfl) (.inr rfl))) (fun _ _ _ _ _ => pts_nil) (fun _ _ _ _ _ => (pe_lst (pa_cons pe_str (pa_cons (pv 14) pa_nil))))) (pe_call (ok_law_some T) (hr.mono (by decide)) (by rfl) T.m_law_some T.F_law_some.kp T.B_law_some .nil pass0 (pa_cons (pv 0) (pa_cons (pv 1) (pa_cons (pv 10) pa_nil)))))) 
    (pss_cons (ps_set (i := 11) sc_law_edit.nd rfl (.inl rfl) (pe_call (ok_law_book T) hr (by rfl) T.m_law_book T.F_law_book.kp T.B_law_book .nil pass0 (pa_cons (pv 4) (pa_cons pe_bl (pa_cons (pv 0) (pa_cons (pv 1) pa_nil)))))) (pss_one (ps_ret (pe_lst (pa_cons (pe_tup (pa_cons pe_str (pa_cons (pv 11) pa_nil))) (pa_cons (pe_lst (pa_cons (pv 3) (pa_cons (pv 11) (pa_cons (pv 4) pa_nil)))) pa_nil))))))))) pss_nil) 
  (pss_cons (ps_set (i := 12) sc_law_edit.nd rfl (.inl rfl) (pe_call (ok_law_tree T) (hr.mono (by decide)) (by rfl) T.m_law_tree T.F_law_tree.kp T.B_law_tree .nil pass0 (pa_cons (pv 0) (pa_cons (pv 1) (pa_cons (pv 5) pa_nil))))) 
  (pss_cons (ps_set (i := 4) sc_law_edit.nd rfl (.inl rfl) (pe_op op_cat (pv 4) (pe_lst (pa_cons (pe_lst (pa_cons pe_str (pa_cons (pv 12) pa_nil))) pa_nil)))) (pss_one (ps_ret (pe_lst (pa_cons (pe_tup (pa_cons pe_str (pa_cons (pe_call (ok_law_loose T 20) (hr.mono (by decide)) (by rfl) T.m_law_loose T.F_law_loose.kp T.B_law_loose .nil pass0 (pa_cons (pv 12) (pa_cons (pv 0) (pa_cons (pv 1) pa_nil)))) pa_nil))) (pa_cons (pe_lst (pa_cons (pv 3) (pa_cons (pe_call (ok_law_book T) hr (by rfl) T.m_law_book T.F_law_book.kp T.B_law_book .nil pass0 (pa_cons (pv 4) (pa_cons pe_bl (pa_cons (pv 0) (pa_cons (pv 1) pa_nil))))) (pa_cons (pv 4) pa_nil)))) pa_nil))))))))))))))))))), ?_⟩
    have one : 1 ≤ sizeLine := by decide
    have two : 2 ≤ sizeLine := by decide
    have three : 3 ≤ sizeLine := by decide
    have four : 4 ≤ sizeLine := by decide
    have zl : z.length ≤ 6000 := by
      have := st.few
      omega
    have zL : z.length ≤ sizeLine := Nat.le_trans zl (by decide)
    have ulen := hls.len
    have lsl := st.len
    have N := st.bk.nms
    have inA : ∀ {H' : Hp}, Same (hide S H) (hide S H') → SqL K H' a [.str z, .str rl, .ref L] := fun s => (hide_same S _).seq (s.seq ha)
    have inL : ∀ {H' : Hp}, Same (hide S H) (hide S H') → H' L = some (.lst us) := fun s => (hide_get (s _ _ hL)).2
    refine ⟨_, rfl, a, _, 0, _, rfl, rfl, inA (Same.refl _), atI_nat (j := 0) rfl, ?_⟩
    refine ⟨_, rfl, a, _, 2, _, rfl, rfl, inA (Same.refl _), atI_nat (j := 2) rfl, ?_⟩
    -- the names
    refine ⟨_, rfl, L, rfl, ⟨_, .inl (.inl (inL (Same.refl _)))⟩, fun Dn nDn => ?_⟩
    refine lc_list (K := K) (a := L) (xs := us) (fun i H' => Same H H' ∧ H' Dn = some (.lst ((swOf (ls.take i)).map V.str))) ⟨same_upd nDn, upd_same⟩
      (fun i H' _ hP => .inl (.inl (inL (same_hide hP.1)))) (fun i v H' hv hP => ?_) fun H1 hP => ?_
    · obtain ⟨sm, hD⟩ := hP
      obtain ⟨l, hl, hlv⟩ := (hls.keep (same_hide sm)).at_ hv
      have lok := (st.bk.rows l (List.mem_of_getElem? hl)).1
      have few : ((swOf (ls.take i)).map V.str).length < sizeLine := by
        rw [List.length_map]
        have := swOf_len (ls.take i)
        rw [List.length_take] at this
        exact small1000 (by omega)
      have esw : ∀ {x : List Str}, swOf [l] = x → swOf (ls.take (i + 1)) = swOf (ls.take i) ++ x := fun e => by rw [take_snoc hl, swOf_app, e]
      cases l with
      | sw s =>
        obtain ⟨q0, rfl, h⟩ := hlv
        have h := (hide_same S _).seq h
        refine ⟨rfl, _, rfl, q0, _, 0, _, rfl, rfl, h, atI_nat (j := 0) rfl, rfl, true, sEq rfl, (if_pos rfl).mpr ?_⟩
        refine ⟨_, rfl, q0, _, 1, _, rfl, rfl, h, atI_nat (j := 1) rfl, _, hD, few, fun b o e => (upd_ne (ne_of_none e nDn)).trans (sm b o e), ?_⟩
        rw [esw (x := [s]) rfl, List.map_append]
        exact upd_same
      | rule f =>
        obtain ⟨q0, u, rfl, h, _⟩ := hlv
        have h := (hide_same S _).seq h
        refine ⟨rfl, _, rfl, q0, _, 0, _, rfl, rfl, h, atI_nat (j := 0) rfl, rfl, false, sNe (by decide +kernel), (if_neg Bool.false_ne_true).mpr ⟨sm, ?_⟩⟩
        rw [esw (x := []) rfl, List.append_nil]
        exact hD
      | grp w ns =>
        obtain ⟨q0, b, rfl, h, _⟩ := hlv
        have h := (hide_same S _).seq h
        refine ⟨rfl, _, rfl, q0, _, 0, _, rfl, rfl, h, atI_nat (j := 0) rfl, rfl, false, sNe (grp_tag lok.1).1, (if_neg Bool.false_ne_true).mpr ⟨sm, ?_⟩⟩
        rw [esw (x := []) rfl, List.append_nil]
        exact hD
    obtain ⟨sm1, hDn⟩ := hP
    rw [ulen, List.take_length] at hDn
    have ro1 := Rolls.same D sm1
    have D1 := D.roll ro1
    have nDnS : Dn ∉ S := fresh_off nDn D.all
    have nDnt := D.ne nDn
    have gDn : hide S H1 Dn = some (.lst ((swOf ls).map V.str)) := (hide_off nDnS).trans hDn
    -- the piece
    refine ⟨_, rfl, _, rfl, _, rfl, d, t, Dn, S, swOf ls, rfl, D1, .inl (.inl gDn), N, fun H2 pz pn neg ps ro2 hpn sok epz => ?_⟩
    have ro2' := ro1.trans ro2
    have D2 := D.roll ro2'
    have pok := N.ok pn hpn
    have pl : pz.length ≤ 30 := by
      rw [len_tl, epz]
      exact pcs_len pok.2 sok.few
    refine ⟨_, rfl, _, rfl, d, t, S, 8, rfl, D2, by decide, fun H3 c ro3 hc => ?_⟩
    have ro3' := ro2'.trans ro3
    have D3 := D.roll ro3'
    refine ⟨_, rfl, _, rfl, _, rfl, z, rfl, zL, _, _, rfl, rfl, d, t, S, z.length + 1, congrArg (fun i : Int => [V.ref d, .ref t, .int i]) (by omega), D3, Nat.le_add_left _ _, fun H4 sp ro4 hsp => ?_⟩
    have ro4' := ro3'.trans ro4
    have D4 := D.roll ro4'
    have g4 : Same (hide S H) (hide S H4) := ro4'.hide D.t_in
    refine ⟨_, rfl, z, rfl, zL, ?_⟩
    have hL4 := g4 _ _ hL
    have hls4 := hls.keep g4
    have lp : LT (swOf ls) (pcs neg pn ps []) := .pre hpn pok.1 sok.no sok.sep (.tail fun m => by cases m)
    have stx : ∀ {z' : Str}, z'.length ≤ B + 32 → LT (swOf ls) (tl z') → St z' rl ls (B + 32) := fun h1 h2 => ⟨h1, h2, st.wr, st.ne, st.bk, st.len⟩
    refine ⟨_, rfl, rfl, decide (c = 0), congrArg V.bl (by simp), ?_⟩
    by_cases c0 : c = 0
    · rw [decide_eq_true c0]
      refine (if_pos rfl).mpr ?_
      refine ⟨_, rfl, four, fun q1 nq1 => ?_⟩
      refine ⟨_, rfl, _, rfl, _, _, rfl, rfl, Nat.le_trans (by omega) (by decide : 7000 ≤ sizeLine), _, rfl, a, _, 1, _, rfl, rfl, inA (g4.trans (same_hide (same_upd nq1))), atI_nat (j := 1) rfl, _, rfl, three, fun q2 nq2 => ⟨two, fun q3 nq3 => ?_⟩⟩
      obtain ⟨r5, f1, f2, f3⟩ := ret3 (K := K) D4 nq1 nq2 nq3 hL4 hls4
      have zl' : (pz ++ z).length ≤ B + 32 := by
        rw [len_app]
        have := st.few
        omega
      have s' : St (pz ++ z) rl ls (B + 32) := stx zl' (by rw [tl_append, epz, pcs_app]; exact .pre hpn pok.1 sok.no sok.sep st.lt)
      refine q _ q3 q2 (.ref q1) (.repl 0 0 pz) (pz ++ z) rl ls (ro4'.trans r5) f1 ⟨q1, rfl, f2⟩ f3 ?_ s'
      have := EdOk.repl (s := 0) (e := 0) (new := pz) (z := z) (rl := rl) (ls := ls) (Nat.le_refl _) (Nat.zero_le _) (by omega) (by rw [repl_pre]; exact s'.now (by omega))
      rw [repl_pre] at this
      exact this
    rw [decide_eq_false c0]
    refine (if_neg Bool.false_ne_true).mpr ?_
    refine ⟨_, rfl, rfl, decide (c = 1), congrArg V.bl (by simp; omega), ?_⟩
    by_cases c1 : c = 1
    · rw [decide_eq_true c1]
      refine (if_pos rfl).mpr ?_
      refine ⟨_, rfl, _, rfl, _, rfl, _, _, rfl, rfl, Nat.le_trans (by rw [nl_len]; omega) (by decide : 7000 ≤ sizeLine), four, fun q1 nq1 => ?_⟩
      refine ⟨_, rfl, _, _, rfl, rfl, Nat.le_trans (by rw [nl_len]; omega) (by decide : 7000 ≤ sizeLine), _, rfl, _, _, rfl, rfl, Nat.le_trans (by rw [len_app, nl_len]; omega) (by decide : 7000 ≤ sizeLine), _, rfl, a, _, 1, _, rfl, rfl, inA (g4.trans (same_hide (same_upd nq1))), atI_nat (j := 1) rfl, _, rfl, three, fun q2 nq2 => ⟨two, fun q3 nq3 => ?_⟩⟩
      obtain ⟨r5, f1, f2, f3⟩ := ret3 (K := K) D4 nq1 nq2 nq3 hL4 hls4
      have zl' : (z ++ "\n" ++ pz : Str).length ≤ B + 32 := by
        rw [len_app, len_app, nl_len]
        have := st.few
        omega
      have e2 : z ++ ("\n" ++ pz) = z ++ "\n" ++ pz := ext_tl (by rw [tl_append, tl_append, tl_append, tl_append, List.append_assoc])
      have s' : St (z ++ "\n" ++ pz) rl ls (B + 32) := stx zl' (by
        rw [tl_append, tl_append, epz, tl_nl, List.append_assoc]
        exact st.lt.app hpn pok.1 sok.no sok.sep (.tail fun m => by cases m))
      refine q _ q3 q2 (.ref q1) (.repl z.length z.length ("\n" ++ pz)) (z ++ "\n" ++ pz) rl ls (ro4'.trans r5) f1 ⟨q1, rfl, f2⟩ f3 ?_ s'
      have := EdOk.repl (s := z.length) (e := z.length) (new := "\n" ++ pz) (z := z) (rl := rl) (ls := ls) (Nat.le_refl _) (Nat.le_refl _) (by rw [len_app, nl_len]; omega) (by rw [repl_post, e2]; exact s'.now (by omega))
      rw [repl_post, e2] at this
      exact this
    rw [decide_eq_false c1]
    refine (if_neg Bool.false_ne_true).mpr ?_
    refine ⟨_, rfl, rfl, decide (c = 2), congrArg V.bl (by simp; omega), ?_⟩
    by_cases c2 : c = 2
    · rw [decide_eq_true c2]
      refine (if_pos rfl).mpr ?_
      refine ⟨_, rfl, _, rfl, four, fun q1 nq1 => ⟨_, rfl, two, fun q3 nq3 => ?_⟩⟩
      have s1 := same_upd (o := .tup [.str "replace", .int (sp : Nat), .int (sp : Nat), .str ""]) nq1
      have s3 := same_upd (o := .lst [.ref q1, .ref a]) nq3
      have ss := s1.trans s3
      refine q _ q3 a (.ref q1) (.repl sp sp "") z rl ls (ro4'.trans (.same D4 ss)) (.inl (.inl (hnew nq3 (D4.same s1).all))) ⟨q1, rfl, .inl (.inl (same_hide s3 _ _ (hnew nq1 D4.all)))⟩ ⟨L, us, (g4.trans (same_hide ss)).seq ha, (g4.trans (same_hide ss)) _ _ hL, hls.keep (g4.trans (same_hide ss))⟩ ?_ (st.mono (by omega))
      have := EdOk.repl (s := sp) (e := sp) (new := "") (z := z) (rl := rl) (ls := ls) (Nat.le_refl _) (by omega) (by decide +kernel) (by rw [repl_none (by omega)]; exact st.now (by omega))
      rw [repl_none (by omega)] at this
      exact this
    rw [decide_eq_false c2]
    refine (if_neg Bool.false_ne_true).mpr ?_
    refine ⟨_, rfl, rfl, decide (c = 3), congrArg V.bl (by simp; omega), ?_⟩
    by_cases c3 : c = 3
    · rw [decide_eq_true c3]
      refine (if_pos rfl).mpr ?_
      have la : ("a" : Str).length = 1 := by decide +kernel
      refine ⟨_, rfl, _, rfl, _, _, rfl, rfl, Nat.le_trans (by rw [la]; omega) (by decide : 7000 ≤ sizeLine), four, fun q1 nq1 => ?_⟩
      refine ⟨_, rfl, _, _, rfl, rfl, Nat.le_trans (by rw [la]; omega) (by decide : 7000 ≤ sizeLine), _, rfl, a, _, 1, _, rfl, rfl, inA (g4.trans (same_hide (same_upd nq1))), atI_nat (j := 1) rfl, _, rfl, three, fun q2 nq2 => ⟨two, fun q3 nq3 => ?_⟩⟩
      obtain ⟨r5, f1, f2, f3⟩ := ret3 (K := K) D4 nq1 nq2 nq3 hL4 hls4
      have zl' : (pz ++ "a" : Str).length ≤ B + 32 := by
        rw [len_app, la]
        omega
      have s' : St (pz ++ "a") rl ls (B + 32) := stx zl' (by
        rw [tl_append, epz, pcs_app]
        exact .pre hpn pok.1 sok.no sok.sep (.tail (by decide +kernel)))
      refine q _ q3 q2 (.ref q1) (.repl 0 z.length (pz ++ "a")) (pz ++ "a") rl ls (ro4'.trans r5) f1 ⟨q1, rfl, f2⟩ f3 ?_ s'
      have := EdOk.repl (s := 0) (e := z.length) (new := pz ++ "a") (z := z) (rl := rl) (ls := ls) (Nat.zero_le _) (Nat.le_refl _) (by omega) (by rw [repl_all]; exact s'.now (by omega))
      rw [repl_all] at this
      exact this
    rw [decide_eq_false c3]
    refine (if_neg Bool.false_ne_true).mpr ?_
    have hDn4 := (ro2.trans (ro3.trans ro4)).keep nDnt hDn
    have gDn4 : hide S H4 Dn = some (.lst ((swOf ls).map V.str)) := (hide_off nDnS).trans hDn4
    refine ⟨_, rfl, _, _, rfl, rfl, decide ((c : Int) < 6), rfl, ?_⟩
    refine or_imp (decide (c < 6 ∨ 50 < ls.length)) (fun hk => ?_) (fun hk => ?_) (fun hb => ?_) (fun hb X => ⟨_, rfl, L, us, rfl, .inl (.inl (.inl (inL g4))), _, _, rfl, rfl, _, ?_, X⟩)
    · -- another book
      refine ⟨_, rfl, Dn, rfl, ⟨_, .inl (.inl hDn4)⟩, fun Dp nDp => ?_⟩
      have mlen : ((swOf ls).map V.str).length = (swOf ls).length := List.length_map ..
      have nfew := N.few
      refine lc_list (K := K) (a := Dn) (xs := (swOf ls).map V.str) (fun i H' => Same H4 H' ∧ H' Dp = some (.lst ((noZ ((swOf ls).take i)).map V.str))) ⟨same_upd nDp, upd_same⟩
        (fun i H' _ hP => .inl (.inl (hP.1 _ _ hDn4))) (fun i v H' hv hP => ?_) fun H5 hP => ?_
      · obtain ⟨sm, hD⟩ := hP
        rw [List.getElem?_map] at hv
        cases en : (swOf ls)[i]? with
        | none => rw [en] at hv; cases hv
        | some n =>
          rw [en] at hv
          obtain rfl : V.str n = v := Option.some.inj hv
          have few : ((noZ ((swOf ls).take i)).map V.str).length < sizeLine := by
            rw [List.length_map]
            have : (noZ ((swOf ls).take i)).length ≤ ((swOf ls).take i).length := List.length_filter_le ..
            rw [List.length_take] at this
            exact small1000 (by omega)
          refine ⟨rfl, _, rfl, rfl, !decide (n = "zz9"), congrArg V.bl (by simp), ?_⟩
          by_cases ez : n = "zz9"
          · rw [decide_eq_true ez]
            refine (if_neg Bool.false_ne_true).mpr ⟨sm, ?_⟩
            rw [take_snoc en, noZ_snoc, if_pos ez]
            exact hD
          · rw [decide_eq_false ez]
            refine (if_pos rfl).mpr ⟨_, rfl, _, hD, few, fun b o e => (upd_ne (ne_of_none e nDp)).trans (sm b o e), ?_⟩
            rw [take_snoc en, noZ_snoc, if_neg ez, List.map_append]
            exact upd_same
      obtain ⟨sm5, hDp⟩ := hP
      rw [mlen, List.take_length] at hDp
      have ro5 := ro4'.trans (Rolls.same D4 sm5)
      have D5 := D.roll ro5
      have nDpS : Dp ∉ S := fresh_off nDp D4.all
      have gDp : hide S H5 Dp = some (.lst ((noZ (swOf ls)).map V.str)) := (hide_off nDpS).trans hDp
      have bz := st.bk.base
      have lz4 : (noZ (swOf ls)).length ≤ 3 := bz.few
      have eC1 : cutV ((noZ (swOf ls)).map V.str) (some 1) none = ((noZ (swOf ls)).drop 1).map V.str := (cutV_from (k := 1) (by rw [List.length_map]; exact bz.nms.pos)).trans List.map_drop.symm
      have eC2 : cutV ((noZ (swOf ls)).map V.str) none (some 1) = ((noZ (swOf ls)).take 1).map V.str := (cutV_to (k := 1) (by rw [List.length_map]; exact bz.nms.pos)).trans List.map_take.symm
      -- perhaps zz9
      refine ⟨fun σ' H' => ∃ (Dq : Addr) (ns : List Str), σ' = [some (.ref d), some (.ref t), some (.ref a), some (.str z), some (.ref L), some (.ref Dn), some (.str pz), some (.int (c : Nat)), some (.int (sp : Nat)), some (.int (z.length : Nat)), some (.ref Dq), none, none, none, none] ∧ Rolls t H H' ∧ hide S H' Dq = some (.lst (ns.map V.str)) ∧ Nms ns ∧ Base (noZ ns) ∧ LT ns (tl z), ?_, fun σ' H6 hM => ?_⟩
      · refine ⟨_, rfl, _, _, rfl, rfl, _, rfl, ?_⟩
        generalize ek : (!(PySem.Builtin.Str.occurrences z "zz9" 0 z.length 1).isEmpty) = k
        cases k with
        | true =>
          refine (if_pos rfl).mpr ((if_pos rfl).mpr ?_)
          have hDpX := hDp
          have roX := ro5
          have DX := D5
          refine ⟨_, rfl, 1, rfl, Dp, _, rfl, .inl (.inl hDpX), fun p1 np1 => ?_⟩
          rw [eC1]
          refine ⟨one, fun p2 np2 => ?_⟩
          have s1 := same_upd (o := .lst (((noZ (swOf ls)).drop 1).map V.str)) np1
          have s2 := same_upd (o := .lst [.str "zz9"]) np2
          have ldr : (((noZ (swOf ls)).drop 1).map V.str).length ≤ 3 := by rw [List.length_map, List.length_drop]; omega
          have ltk : (((noZ (swOf ls)).take 1).map V.str).length ≤ 3 := by rw [List.length_map, List.length_take]; omega
          refine ⟨p1, p2, _, _, rfl, rfl, s2 _ _ upd_same, upd_same, big_str (by show _ + 1 ≤ 2000; omega), fun p3 np3 => ?_⟩
          have s3 := same_upd (o := .lst (((noZ (swOf ls)).drop 1).map V.str ++ [.str "zz9"])) np3
          refine ⟨_, rfl, 1, rfl, Dp, _, rfl, .inl (.inl ((s1.trans (s2.trans s3)) _ _ hDpX)), fun p4 np4 => ?_⟩
          rw [eC2]
          have s4 := same_upd (o := .lst (((noZ (swOf ls)).take 1).map V.str)) np4
          refine ⟨p3, p4, _, _, rfl, rfl, s4 _ _ upd_same, upd_same, big_str (by rw [List.length_append]; show _ + 1 + _ ≤ 2000; omega), fun p5 np5 => ?_⟩
          have s5 := same_upd (o := .lst (((noZ (swOf ls)).drop 1).map V.str ++ [.str "zz9"] ++ ((noZ (swOf ls)).take 1).map V.str)) np5
          have sA := s1.trans (s2.trans (s3.trans s4))
          refine ⟨p5, withZ (noZ (swOf ls)), rfl, roX.trans (.same DX (sA.trans s5)), ?_, (withZ_ok bz).1, (withZ_ok bz).2, st.lt.mono fun y hy => ?_⟩
          · rw [show (withZ (noZ (swOf ls))).map V.str = ((noZ (swOf ls)).drop 1).map V.str ++ [.str "zz9"] ++ ((noZ (swOf ls)).take 1).map V.str by unfold withZ; rw [List.map_append, List.map_append]; rfl]
            exact hnew np5 (DX.same sA).all
          · rw [withZ_mem]
            by_cases ey : y = "zz9"
            · exact .inl ey
            · exact .inr (List.mem_filter.mpr ⟨hy, by rw [bne_iff_ne]; exact ey⟩)
        | false =>
          refine (if_neg Bool.false_ne_true).mpr ?_
          refine ⟨_, rfl, _, rfl, d, t, S, 2, rfl, D5, by decide, fun H6 r6 ro6 hr6 => ?_⟩
          have hDpX : H6 Dp = some (.lst ((noZ (swOf ls)).map V.str)) := ro6.keep (D4.ne nDp) hDp
          have roX := ro5.trans ro6
          have DX := D.roll roX
          refine ⟨rfl, decide ((r6 : Int) = 0), congrArg V.bl (by simp), ?_⟩
          by_cases e6 : (r6 : Int) = 0
          · rw [decide_eq_true e6]
            refine (if_pos rfl).mpr ?_
            refine ⟨_, rfl, 1, rfl, Dp, _, rfl, .inl (.inl hDpX), fun p1 np1 => ?_⟩
            rw [eC1]
            refine ⟨one, fun p2 np2 => ?_⟩
            have s1 := same_upd (o := .lst (((noZ (swOf ls)).drop 1).map V.str)) np1
            have s2 := same_upd (o := .lst [.str "zz9"]) np2
            have ldr : (((noZ (swOf ls)).drop 1).map V.str).length ≤ 3 := by rw [List.length_map, List.length_drop]; omega
            have ltk : (((noZ (swOf ls)).take 1).map V.str).length ≤ 3 := by rw [List.length_map, List.length_take]; omega
            refine ⟨p1, p2, _, _, rfl, rfl, s2 _ _ upd_same, upd_same, big_str (by show _ + 1 ≤ 2000; omega), fun p3 np3 => ?_⟩
            have s3 := same_upd (o := .lst (((noZ (swOf ls)).drop 1).map V.str ++ [.str "zz9"])) np3
            refine ⟨_, rfl, 1, rfl, Dp, _, rfl, .inl (.inl ((s1.trans (s2.trans s3)) _ _ hDpX)), fun p4 np4 => ?_⟩
            rw [eC2]
            have s4 := same_upd (o := .lst (((noZ (swOf ls)).take 1).map V.str)) np4
            refine ⟨p3, p4, _, _, rfl, rfl, s4 _ _ upd_same, upd_same, big_str (by rw [List.length_append]; show _ + 1 + _ ≤ 2000; omega), fun p5 np5 => ?_⟩
            have s5 := same_upd (o := .lst (((noZ (swOf ls)).drop 1).map V.str ++ [.str "zz9"] ++ ((noZ (swOf ls)).take 1).map V.str)) np5
            have sA := s1.trans (s2.trans (s3.trans s4))
            refine ⟨p5, withZ (noZ (swOf ls)), rfl, roX.trans (.same DX (sA.trans s5)), ?_, (withZ_ok bz).1, (withZ_ok bz).2, st.lt.mono fun y hy => ?_⟩
            · rw [show (withZ (noZ (swOf ls))).map V.str = ((noZ (swOf ls)).drop 1).map V.str ++ [.str "zz9"] ++ ((noZ (swOf ls)).take 1).map V.str by unfold withZ; rw [List.map_append, List.map_append]; rfl]
              exact hnew np5 (DX.same sA).all
            · rw [withZ_mem]
              by_cases ey : y = "zz9"
              · exact .inl ey
              · exact .inr (List.mem_filter.mpr ⟨hy, by rw [bne_iff_ne]; exact ey⟩)
          · rw [decide_eq_false e6]
            refine (if_neg Bool.false_ne_true).mpr ?_
            refine ⟨Dp, noZ (swOf ls), rfl, roX, (hide_off nDpS).trans hDpX, bz.nms, by rw [bz.filter]; exact bz, st.lt.drop (z := "zz9") (occ_empty (by simpa using ek))⟩
      · obtain ⟨Dq, ns, rfl, ro6, gDq, N6, B6, lt6⟩ := hM
        have D6 := D.roll ro6
        have nlen : (ns.map V.str).length = ns.length := List.length_map ..
        have n4 := N6.few
        refine ⟨_, rfl, Dq, rfl, ⟨_, .inl (.inl (hide_get gDq).2)⟩, fun Db nDb => ?_⟩
        refine lc_list (K := K) (a := Dq) (xs := ns.map V.str) (fun i H' => Rolls t H6 H' ∧ ∃ us, H' Db = some (.lst us) ∧ LnVs K (hide (Db :: S) H') ((ns.take i).map Ln.sw) us) ⟨.same D6 (same_upd nDb), [], upd_same, trivial⟩
          (fun i H' _ hP => .inl (.inl (hide_get ((hP.1.hide D.t_in) _ _ gDq)).2)) (fun i v H' hv hP => ?_) fun H7 hP => ?_
        · obtain ⟨r', vs, hD, hl⟩ := hP
          obtain ⟨D9, _⟩ := D6.roll1 nDb r' hD
          rw [List.getElem?_map] at hv
          cases en : ns[i]? with
          | none => rw [en] at hv; cases hv
          | some n =>
            rw [en] at hv
            obtain rfl : V.str n = v := Option.some.inj hv
            have ul := hl.len
            rw [List.length_map, List.length_take] at ul
            refine ⟨rfl, _, rfl, two, fun q1 nq1 => ?_⟩
            have s4 := same_upd (o := .lst [.str "switch", .str n]) nq1
            refine ⟨vs, s4 _ _ hD, small1000 (by omega), (r'.trans (.same (D6.roll r') s4)).upd nDb (D6.ne nDb), _, upd_same, ?_⟩
            rw [hide_upd (.head _), take_snoc en, List.map_append]
            exact (hl.keep (same_hide s4)).snoc (l := .sw n) ⟨q1, rfl, .inl (.inl (hnew nq1 D9.all))⟩
        obtain ⟨r7, ub, hDb, hlb⟩ := hP
        rw [nlen, List.take_length] at hlb
        have hlb := hlb.keep (hide_mono fun b h => .tail _ h)
        have ro7 := ro6.trans r7
        have D7 := D.roll ro7
        have nDbt := D6.ne nDb
        have gDq7 := (r7.hide D.t_in) _ _ gDq
        refine ⟨_, rfl, _, rfl, _, rfl, d, t, Dq, S, ns, rfl, D7, .inl (.inl gDq7), N6, fun H8 p8 l1 u1 ro8 n8 h8 hl1 ok1 len1 => ?_⟩
        have ro8' := ro7.trans ro8
        have D8 := D.roll ro8'
        have hlb8 := hlb.keep (ro8.hide D.t_in)
        have lb := hlb.len
        have l1' := hl1.len
        rw [List.length_map] at lb
        refine ⟨Db, p8, ub, u1, rfl, rfl, ro8.keep nDbt hDb, h8, Nat.le_of_lt (small1000 (by omega)), fun L2 nL2 => ?_⟩
        have s9 := same_upd (o := .lst (ub ++ u1)) nL2
        have D9 := D8.same s9
        have hl9 := (LnVs.app hl1 hlb8).keep (same_hide (S := S) s9)
        have gL2 : hide S (upd H8 L2 (.lst (ub ++ u1))) L2 = some (.lst (ub ++ u1)) := hnew nL2 D8.all
        have bko := bk_of (A := ns) (B := []) (s1 := l1) (s2 := []) (by rw [List.append_nil]; exact N6) (by rw [List.append_nil]; exact B6) ok1 (fun l hl => by cases hl) len1 (by simp) (fun e => by
          have := N6.pos
          rw [e] at this
          cases this)
        simp only [List.map_nil, List.append_nil] at bko
        obtain ⟨bk2, esw, len2⟩ := bko
        refine ⟨_, rfl, _, rfl, _, rfl, d, t, L2, true, S, ns.map Ln.sw ++ l1, ub ++ u1, rfl, D9, .inl (.inl gL2), hl9, bk2.rows, bk2.good.ne, by omega, fun H10 rz ro10 wr _ hne => ?_⟩
        have ro9 := ro8'.trans (Rolls.same D8 s9)
        have ro10' := ro9.trans ro10
        have D10 := D.roll ro10'
        have g10 := ro10.hide (S := S) D.t_in
        refine ⟨_, rfl, two, fun q1 nq1 => ⟨_, rfl, _, rfl, _, rfl, three, fun q2 nq2 => ⟨two, fun q3 nq3 => ?_⟩⟩⟩
        obtain ⟨r11, f1, f2, f3⟩ := ret3 (K := K) D10 nq1 nq2 nq3 (g10 _ _ gL2) (hl9.keep g10)
        have s' : St z rz (ns.map Ln.sw ++ l1) (B + 32) := ⟨by have := st.few; omega, by rw [esw]; exact lt6, wr, hne, bk2, by omega⟩
        exact q _ q3 q2 (.ref q1) (.book rz) z rz _ (ro10'.trans r11) f1 ⟨q1, rfl, f2⟩ f3 (.book (s'.now (by omega))) s'
    · -- a rule more
      have hlen : ls.length ≤ 50 := by
        have := of_decide_eq_false hk
        omega
      refine ⟨_, rfl, _, rfl, _, rfl, d, t, Dn, S, swOf ls, rfl, D4, .inl (.inl gDn4), N, fun H5 f v ro5 hf wt nm => ?_⟩
      have ro5' := ro4'.trans ro5
      have D5 := D.roll ro5'
      have g5 : Same (hide S H) (hide S H5) := ro5'.hide D.t_in
      refine ⟨_, rfl, _, rfl, two, fun q1 nq1 => ⟨one, fun q2 nq2 => ?_⟩⟩
      have s1 := same_upd (o := .lst [.str "rule", v]) nq1
      have s2 := same_upd (o := .lst [.ref q1]) nq2
      have D6 := D5.same (s1.trans s2)
      refine ⟨L, q2, us, [.ref q1], rfl, rfl, (s1.trans s2) _ _ (inL g5), upd_same, Nat.le_of_lt (small1000 (by rw [ulen]; show ls.length + 1 ≤ 1000; omega)), fun L2 nL2 => ?_⟩
      have s3 := same_upd (o := .lst (us ++ [.ref q1])) nL2
      have sA := s1.trans (s2.trans s3)
      have D7 := D5.same sA
      have ro7 := ro5'.trans (Rolls.same D5 sA)
      have g57 := same_hide (S := S) sA
      have hf7 := hf.keep (same_tups g57)
      have gL2 : hide S (upd (upd (upd H5 q1 (.lst [.str "rule", v])) q2 (.lst [.ref q1])) L2 (.lst (us ++ [.ref q1]))) L2 = some (.lst (us ++ [.ref q1])) := hnew nL2 D6.all
      have hls7 : LnVs K (hide S (upd (upd (upd H5 q1 (.lst [.str "rule", v])) q2 (.lst [.ref q1])) L2 (.lst (us ++ [.ref q1])))) (ls ++ [.rule f]) (us ++ [.ref q1]) :=
        (hls.keep (g5.trans g57)).snoc (l := .rule f) ⟨q1, v, rfl, .inl (.inl (same_hide (s2.trans s3) _ _ (hnew nq1 D5.all))), hf7⟩
      generalize upd (upd (upd H5 q1 (.lst [.str "rule", v])) q2 (.lst [.ref q1])) L2 (.lst (us ++ [.ref q1])) = H7 at *
      obtain ⟨bk2, esw⟩ := bk_more st.bk wt nm hlen
      have dp : f.dep < 20 := by
        have := f.dep_wt
        omega
      refine ⟨_, rfl, _, rfl, _, rfl, d, t, S, f, v, rfl, D7, hf7, dp, by omega, fun y hy => (N.ok y (nm y hy)).1, fun H8 tz ro8 lz => ⟨two, fun q3 nq3 => ?_⟩⟩
      have ro8' := ro7.trans ro8
      have D8 := D.roll ro8'
      have s4 := same_upd (o := .tup [.str "narrow", .str tz]) nq3
      have D9 := D8.same s4
      have g79 := (ro8.hide D.t_in).trans (same_hide (S := S) s4)
      refine ⟨_, rfl, _, rfl, _, rfl, _, rfl, d, t, L2, false, S, ls ++ [.rule f], us ++ [.ref q1], rfl, D9, .inl (.inl (g79 _ _ gL2)), hls7.keep g79, bk2.rows, bk2.good.ne, by have := bk2.good.few; omega, fun H10 rz ro10 wr hz hne => ⟨_, rfl, three, fun q4 nq4 => ⟨two, fun q5 nq5 => ?_⟩⟩⟩
      have erz := hz rfl
      subst erz
      have ro10' := ro8'.trans ((Rolls.same D8 s4).trans ro10)
      have D10 := D.roll ro10'
      have s5 := same_upd (o := .lst [.str z, .str (bookStd (ls ++ [.rule f])), .ref L2]) nq4
      have s6 := same_upd (o := .lst [.ref q3, .ref q4]) nq5
      have gF := (ro10.hide D.t_in).trans (same_hide (S := S) (s5.trans s6))
      have gF7 := g79.trans gF
      have s' : St z (bookStd (ls ++ [.rule f])) (ls ++ [.rule f]) (B + 32) := ⟨by have := st.few; omega, by rw [esw]; exact st.lt, wr, hne, bk2, by rw [List.length_append]; show ls.length + 1 ≤ 51; omega⟩
      refine q _ q5 q4 (.ref q3) (.narrow tz f) z _ (ls ++ [.rule f]) (ro10'.trans (.same D10 (s5.trans s6))) (.inl (.inl (hnew nq5 (D10.same s5).all))) ⟨q3, rfl, .inl (.inl (gF _ _ (hnew nq3 D8.all)))⟩ ⟨L2, us ++ [.ref q1], .inl (.inl (same_hide s6 _ _ (hnew nq4 D10.all))), gF7 _ _ gL2, hls7.keep gF7⟩ ?_ s'
      exact .narrow (lz.rt (by omega)) (by omega) (rule_ok wt) nm (s'.now (by omega))
    · have := of_decide_eq_true hb
      exact decide_eq_true (.inl (by omega))
    · have h6 : ¬ c < 6 := fun h => of_decide_eq_false hb (by omega)
      refine congrArg V.bl (decide_eq_decide.mpr ?_)
      rw [ulen]
      constructor
      · intro h
        exact .inr (by omega)
      · rintro (h | h)
        · exact absurd h h6
        · omega
end
end K77

set_option maxRecDepth 100000
set_option maxHeartbeats 4000000
/-! K8O: _law_behind. -/
namespace K77
open PySem PySem.Spec PyProof.Rows L2 KG TL

theorem Path.app {K : PySem.W.Frag} {H : Hp} {vs us : List V} {z rl z1 rl1 : Str} {ls ls1 : List Ln} {o : Out} (p : Path K H vs z rl ls (.ok z1 rl1 ls1)) (q : Path K H us z1 rl1 ls1 o) : Path K H (vs ++ us) z rl ls o := by
  generalize e : Out.ok z1 rl1 ls1 = o1 at p
  induction p with
  | nil =>
    cases e
    exact q
  | bad h => cases e
  | unk h n => cases e
  | cons h ok _ ih => exact .cons h ok (ih e)
section
variable {P : Program} {w : World} {K : PySem.W.Frag} {mg : Str → Option Value} {base : Heap}
def spLawBehind (K : PySem.W.Frag) : Sp := fun vs H Q _ => ∃ (d t a : Addr) (S : List Addr) (z rl : Str) (ls : List Ln) (B : Nat), vs = [.ref d, .ref t, .ref a] ∧ Dr H d t S ∧ NowAt K (hide S H) a z rl ls ∧ St z rl ls B ∧ B ≤ 5800 ∧
  ∀ (H' : Hp) (p l a' : Addr) (es : List V) (z' rl' : Str) (ls' : List Ln), Rolls t H H' → SqL K (hide S H') p [.ref l, .ref a'] → hide S H' l = some (.lst es) → es.length ≤ 2 → Path K (hide S H') es z rl ls (.ok z' rl' ls') → NowAt K (hide S H') a' z' rl' ls' → St z' rl' ls' (B + 64) → Q (.ref p) H'
theorem ok_law_behind (T : Tx K mg) : FnOk P w K mg base CX0 24 T.a_law_behind T.f_law_behind ["draws", "at", "now"] (spLawBehind K) := by
  refine T.F_law_behind.ok sc_law_behind (fun vs H Q E h => ?_) (fun cdv A outer s0 H vs Q E hr h => ?_)
  · obtain ⟨d, t, a, S, z, rl, ls, B, rfl, _⟩ := h
    rfl
  · obtain ⟨d, t, a, S, z, rl, ls, B, rfl, D, hn, st, hB, q⟩ := h
    have hr1 : Room 1 _ := hr.mono (by decide)
    refine ⟨_, (pss_cons (ps_set (i := 3) sc_law_behind.nd rfl (.inl rfl) (pe_lst pa_nil)) 
  (pss_cons (ps_for PassesOwn.never rfl (pi_range1 (by rfl) T.b_range (pa_cons (pe_call (ok_law_take T) hr1 (by rfl) T.m_law_take T.F_law_take.kp T.B_law_take .nil pass0 (pa_cons (pv 0) (pa_cons (pv 1) (pa_cons pe_int pa_nil)))) pa_nil)) (pg_name (i := 4) sc_law_behind.nd rfl (.inl rfl)) 
    (pss_cons (ps_set (i := 5) sc_law_behind.nd rfl (.inl rfl) (pe_call (ok_law_edit T) hr (by rfl) T.m_law_edit T.F_law_edit.kp T.B_law_edit .nil pass0 (pa_cons (pv 0) (pa_cons (pv 1) (pa_cons (pv 2) pa_nil))))) 
    (pss_cons (ps_expr (pe_bm PySem.F.plainAttrs_list PySem.F.slot_list_append PySem.F.type_list_append mt_append (pv 3) (pa_cons (pe_ix ix_list (pv 5) pe_int (fun _ _ => rfl)) pa_nil))) (pss_one (ps_set (i := 2) sc_law_behind.nd rfl (.inl rfl) (pe_ix ix_list (pv 5) pe_int (fun _ _ => rfl))))))) (pss_one (ps_ret (pe_lst (pa_cons (pv 3) (pa_cons (pv 2) pa_nil))))))), ?_⟩
    have two : 2 ≤ sizeLine := by decide
    refine ⟨Nat.zero_le _, fun p0 n0 => ?_⟩
    have n0t := D.ne n0
    have rs0 := Rolls.same D (same_upd (o := .lst []) n0)
    obtain ⟨D1, h0⟩ := D.roll1 n0 rs0 upd_same
    have n0S : p0 ∉ S := fresh_off n0 D.all
    refine ⟨_, rfl, _, rfl, d, t, p0 :: S, 3, rfl, D1, by decide, fun H1 r1 ro1 hr1' => ⟨(r1 : Nat), rfl, by omega, by omega, ?_⟩⟩
    refine for_range (lo := 0) (n := r1) (fun i σ H' => ∃ (a1 : Addr) (es : List V) (z1 rl1 : Str) (ls1 : List Ln) (y4 y5 : Option V), σ = [some (.ref d), some (.ref t), some (.ref a1), some (.ref p0), y4, y5] ∧ Rolls t H H' ∧ H' p0 = some (.lst es) ∧ es.length ≤ i ∧
      Path K (hide (p0 :: S) H') es z rl ls (.ok z1 rl1 ls1) ∧ NowAt K (hide (p0 :: S) H') a1 z1 rl1 ls1 ∧ St z1 rl1 ls1 (B + 32 * i)) ⟨a, [], z, rl, ls, none, none, rfl, rs0.trans ro1, ro1.keep n0t upd_same, Nat.zero_le _, .nil, hn.keep (h0.trans (ro1.hide D1.t_in)), st⟩ (fun i σ H2 hi hP => ?_) fun σ H2 hP => ?_
    · obtain ⟨a1, es, z1, rl1, ls1, y4, y5, rfl, ro2, hp2, hlen, hpath, hn2, st2⟩ := hP
      obtain ⟨D2, hs2⟩ := D.roll1 n0 ro2 hp2
      have pin : p0 ∈ p0 :: S := .head _
      refine ⟨_, rfl, _, rfl, _, rfl, d, t, a1, p0 :: S, z1, rl1, ls1, B + 32 * i, rfl, D2, hn2, st2, by omega, fun H3 q3 a2 v ed z2 rl2 ls2 ro3 hq hed hn3 hok st3 => ?_⟩
      have D3 := D2.roll ro3
      have hp3 := ro3.keep n0t hp2
      have ts := same_tups (ro3.hide D2.t_in)
      refine ⟨_, rfl, .inl ⟨rfl, _, .inl (.inl hp3)⟩, _, rfl, q3, _, 0, _, rfl, rfl, (hide_same _ _).seq hq, atI_nat (j := 0) rfl, p0, _, _, rfl, rfl, hp3, small1000 (by omega), ?_⟩
      have eh : hide (p0 :: S) (upd H3 p0 (.lst (es ++ [v]))) = hide (p0 :: S) H3 := hide_upd pin
      have hq4 : SqL K (upd H3 p0 (.lst (es ++ [v]))) q3 [v, .ref a2] := (hide_same (p0 :: S) _).seq (by rw [eh]; exact hq)
      refine ⟨_, rfl, q3, _, 1, _, rfl, rfl, hq4, atI_nat (j := 1) rfl, a2, es ++ [v], z2, rl2, ls2, _, _, rfl, (ro2.trans ro3).upd n0 n0t, upd_same, by rw [List.length_append]; show es.length + 1 ≤ i + 1; omega, ?_, ?_, ?_⟩
      · rw [eh]
        exact (hpath.keep ts).app (.cons hed hok .nil)
      · rw [eh]
        exact hn3
      · exact st3.mono (by omega)
    · obtain ⟨a1, es, z1, rl1, ls1, y4, y5, rfl, ro2, hp2, hlen, hpath, hn2, st2⟩ := hP
      refine ⟨_, rfl, _, rfl, two, fun q3 nq => ?_⟩
      have D2 := D.roll ro2
      have s3 := same_upd (o := .lst [.ref p0, .ref a1]) nq
      have un : Same (hide (p0 :: S) H2) (hide S (upd H2 q3 (.lst [.ref p0, .ref a1]))) := (hide_mono fun b hb => .tail _ hb).trans (same_hide s3)
      exact q _ q3 p0 a1 es z1 rl1 ls1 (ro2.trans (.same D2 s3)) (.inl (.inl (hnew nq D2.all))) ((hide_off n0S).trans (s3 _ _ hp2)) (by omega) (hpath.keep (same_tups un)) (hn2.keep un) (st2.mono (by omega))
end
end K77

set_option maxRecDepth 100000
set_option maxHeartbeats 4000000
/-! K8P: _law_like, _law_now. -/
namespace K77
open PySem PySem.Spec PyProof.Rows L2 KG TL

theorem bt_tuple : bootBuiltins "tuple" = some (.type "tuple") := by decide +kernel
theorem bt_list : bootBuiltins "list" = some (.type "list") := by decide +kernel
theorem bt_bool : bootBuiltins "bool" = some (.type "bool") := by decide +kernel
theorem bt_int : bootBuiltins "int" = some (.type "int") := by decide +kernel
theorem bt_str : bootBuiltins "str" = some (.type "str") := by decide +kernel
/-- a value that the law compares by == -/
inductive Leaf : V → Value → Prop
  | bl (b : Bool) : Leaf (.bl b) (.type "bool")
  | int (i : Int) : Leaf (.int i) (.type "int")
  | str (s : Str) : Leaf (.str s) (.type "str")
section
variable {P : Program} {w : World} {K : PySem.W.Frag} {mg : Str → Option Value} {base : Heap}
def spLike (n : Nat) : Sp := fun vs H Q _ => 1 ≤ n ∧ ((∃ x t, vs = [x, x] ∧ Leaf x t) ∨ (2 ≤ n ∧ ∃ (p q : Addr) (i j : Int), vs = [.ref p, .ref q] ∧ H p = some (.tup [.int i, .int j]) ∧ H q = some (.tup [.int i, .int j]))) ∧ Q (.bl true) H
theorem ok_law_like (T : Tx K mg) : ∀ n, FnOk P w K mg base CX0 (n + 1) T.a_law_like T.f_law_like ["told", "due"] (spLike n)
  | 0 => ⟨fun vs H Q E ⟨l, _⟩ => absurd l (Nat.not_lt_zero _), fun A outer s H args us vs Q E a b c d ⟨l, _⟩ => absurd l (Nat.not_lt_zero _)⟩
  | n + 1 => by
    have IH := ok_law_like T n
    refine T.F_law_like.ok sc_law_like (fun vs H Q E h => ?_) (fun cdv A outer s0 H vs Q E hr h => ?_)
    · rcases h with ⟨_, ⟨x, t, rfl, _⟩ | ⟨_, p, q, i, j, rfl, _⟩, _⟩ <;> rfl
    · refine ⟨_, (pss_cons (ps_if (PW.pt (pw_or (pt_val (pe_callB call_isi (by rfl) T.b_isinstance (by decide +kernel) (pa_cons (pv 1) (pa_cons (pe_bltn (by rfl) T.b_tuple bt_tuple (v := .ty "tuple") rfl) pa_nil)))) (pw_or1 (pt_val (pe_callB call_isi (by rfl) T.b_isinstance (by decide +kernel) (pa_cons (pv 1) (pa_cons (pe_bltn (by rfl) T.b_list bt_list (v := .ty "list") rfl) pa_nil))))))) 
    (pss_cons (ps_if (PW.pt (pw_or (pt_cmpR op_ne (pe_callB call_isi (by rfl) T.b_isinstance (by decide +kernel) (pa_cons (pv 0) (pa_cons (pe_bltn (by rfl) T.b_tuple bt_tuple (v := .ty "tuple") rfl) pa_nil))) (pe_callB call_isi (by rfl) T.b_isinstance (by decide +kernel) (pa_cons (pv 1) (pa_cons (pe_bltn (by rfl) T.b_tuple bt_tuple (v := .ty "tuple") rfl) pa_nil))) (nomark _)) (pw_or1 (pt_cmpR op_ne (pe_callB call_isi (by rfl) T.b_isinstance (by decide +kernel) (pa_cons (pv 0) (pa_cons (pe_bltn (by rfl) T.b_list bt_list (v := .ty "list") rfl) pa_nil))) (pe_callB call_isi (by rfl) T.b_isinstance (by decide +kernel) (pa_cons (pv 1) (pa_cons (pe_bltn (by rfl) T.b_list bt_list (v := .ty "list") rfl) pa_nil))) (nomark _))))) (pss_one (ps_ret pe_bl)) pss_nil) 
    (pss_cons (ps_if (pt_cmpR op_ne (pe_callB call_len_seq (by rfl) T.b_len (by decide +kernel) (pa_cons (pv 0) pa_nil)) (pe_callB call_len_seq (by rfl) T.b_len (by decide +kernel) (pa_cons (pv 1) pa_nil)) (nomark _)) (pss_one (ps_ret pe_bl)) pss_nil) 
    (pss_cons (ps_for PassesOwn.never rfl (pi_range1 (by rfl) T.b_range (pa_cons (pe_callB call_len_seq (by rfl) T.b_len (by decide +kernel) (pa_cons (pv 1) pa_nil)) pa_nil)) (pg_name (i := 2) sc_law_like.nd rfl (.inl rfl)) (pss_one (ps_if (pt_not (pt_val (pe_call IH hr (by rfl) T.m_law_like T.F_law_like.kp T.B_law_like .nil pass0 (pa_cons (pe_ix ix_tup (pv 0) (pv 2) (fun _ _ => rfl)) (pa_cons (pe_ix ix_tup (pv 1) (pv 2) (fun _ _ => rfl)) pa_nil))))) (pss_one (ps_ret pe_bl)) pss_nil))) (pss_one (ps_ret pe_bl))))) pss_nil) 
  (pss_cons (ps_if (PW.pt (pw_or (pt_val (pe_callB call_isi (by rfl) T.b_isinstance (by decide +kernel) (pa_cons (pv 1) (pa_cons (pe_bltn (by rfl) T.b_bool bt_bool (v := .ty "bool") rfl) pa_nil)))) (pw_or1 (pt_val (pe_callB call_isi (by rfl) T.b_isinstance (by decide +kernel) (pa_cons (pv 0) (pa_cons (pe_bltn (by rfl) T.b_bool bt_bool (v := .ty "bool") rfl) pa_nil))))))) (pss_one (ps_ret (pe_and (pe_callB call_isi (by rfl) T.b_isinstance (by decide +kernel) (pa_cons (pv 1) (pa_cons (pe_bltn (by rfl) T.b_bool bt_bool (v := .ty "bool") rfl) pa_nil))) (pe_and (pe_callB call_isi (by rfl) T.b_isinstance (by decide +kernel) (pa_cons (pv 0) (pa_cons (pe_bltn (by rfl) T.b_bool bt_bool (v := .ty "bool") rfl) pa_nil))) (pe_one (pe_cmpR op_eq (pv 0) (pv 1) (nomark _))))))) pss_nil) 
  (pss_cons (ps_if (pt_cmpR op_isN (pv 1) pe_non (nomark _)) (pss_one (ps_ret (pe_cmpR op_isN (pv 0) pe_non (nomark _)))) pss_nil) (pss_one (ps_ret (pe_and (pe_cmpR op_eq (pe_callB call_isi (by rfl) T.b_isinstance (by decide +kernel) (pa_cons (pv 0) (pa_cons (pe_bltn (by rfl) T.b_int bt_int (v := .ty "int") rfl) pa_nil))) (pe_callB call_isi (by rfl) T.b_isinstance (by decide +kernel) (pa_cons (pv 1) (pa_cons (pe_bltn (by rfl) T.b_int bt_int (v := .ty "int") rfl) pa_nil))) (nomark _)) (pe_and (pe_cmpR op_eq (pe_callB call_isi (by rfl) T.b_isinstance (by decide +kernel) (pa_cons (pv 0) (pa_cons (pe_bltn (by rfl) T.b_str bt_str (v := .ty "str") rfl) pa_nil))) (pe_callB call_isi (by rfl) T.b_isinstance (by decide +kernel) (pa_cons (pv 1) (pa_cons (pe_bltn (by rfl) T.b_str bt_str (v := .ty "str") rfl) pa_nil))) (nomark _)) (pe_one (pe_cmpR op_eq (pv 0) (pv 1) (nomark _)))))))))), ?_⟩
      obtain ⟨_, ⟨x, t, rfl, hl⟩ | ⟨h2, p, q, i, j, rfl, hp, hq⟩, fin⟩ := h
      · cases hl with
        | bl b =>
          have ty : TyX K H (.bl b) (.type "bool") := .base (.bl b)
          refine ⟨_, rfl, _, _, _, _, false, rfl, .ty _, ty, kit_ty (by decide +kernel), false, rfl, (if_neg Bool.false_ne_true).mpr ?_⟩
          refine ⟨_, rfl, _, _, _, _, false, rfl, .ty _, ty, kit_ty (by decide +kernel), false, rfl, (if_neg Bool.false_ne_true).mpr ?_⟩
          refine ⟨_, rfl, _, _, _, _, true, rfl, .ty _, ty, kit_ty (by decide +kernel), true, rfl, (if_pos rfl).mpr ((if_pos rfl).mpr ?_)⟩
          refine ⟨_, rfl, _, _, _, _, true, rfl, .ty _, ty, kit_ty (by decide +kernel), true, rfl, (if_pos rfl).mpr ?_⟩
          refine ⟨_, rfl, _, _, _, _, true, rfl, .ty _, ty, kit_ty (by decide +kernel), true, rfl, (if_pos rfl).mpr ?_⟩
          refine ⟨_, rfl, _, rfl, rfl, ?_⟩
          rw [decide_eq_true (rfl : V.bl b = V.bl b)]
          exact fin
        | int k =>
          have ty : TyX K H (.int k) (.type "int") := .base (.int k)
          refine ⟨_, rfl, _, _, _, _, false, rfl, .ty _, ty, kit_ty (by decide +kernel), false, rfl, (if_neg Bool.false_ne_true).mpr ?_⟩
          refine ⟨_, rfl, _, _, _, _, false, rfl, .ty _, ty, kit_ty (by decide +kernel), false, rfl, (if_neg Bool.false_ne_true).mpr ?_⟩
          refine ⟨_, rfl, _, _, _, _, false, rfl, .ty _, ty, kit_ty (by decide +kernel), false, rfl, (if_neg Bool.false_ne_true).mpr ?_⟩
          refine ⟨_, rfl, _, _, _, _, false, rfl, .ty _, ty, kit_ty (by decide +kernel), false, rfl, (if_neg Bool.false_ne_true).mpr ?_⟩
          refine ⟨_, rfl, rfl, false, congrArg V.bl (decide_eq_false (by intro z; cases z)), (if_neg Bool.false_ne_true).mpr ?_⟩
          refine ⟨_, rfl, _, _, _, _, true, rfl, .ty _, ty, kit_ty (by decide +kernel), _, rfl, _, _, _, _, true, rfl, .ty _, ty, kit_ty (by decide +kernel), rfl, true, rfl, (if_pos rfl).mpr ?_⟩
          refine ⟨_, rfl, _, _, _, _, false, rfl, .ty _, ty, kit_ty (by decide +kernel), _, rfl, _, _, _, _, false, rfl, .ty _, ty, kit_ty (by decide +kernel), rfl, true, rfl, (if_pos rfl).mpr ?_⟩
          refine ⟨_, rfl, _, rfl, rfl, ?_⟩
          rw [decide_eq_true (rfl : V.int k = V.int k)]
          exact fin
        | str z =>
          have ty : TyX K H (.str z) (.type "str") := .base (.str z)
          refine ⟨_, rfl, _, _, _, _, false, rfl, .ty _, ty, kit_ty (by decide +kernel), false, rfl, (if_neg Bool.false_ne_true).mpr ?_⟩
          refine ⟨_, rfl, _, _, _, _, false, rfl, .ty _, ty, kit_ty (by decide +kernel), false, rfl, (if_neg Bool.false_ne_true).mpr ?_⟩
          refine ⟨_, rfl, _, _, _, _, false, rfl, .ty _, ty, kit_ty (by decide +kernel), false, rfl, (if_neg Bool.false_ne_true).mpr ?_⟩
          refine ⟨_, rfl, _, _, _, _, false, rfl, .ty _, ty, kit_ty (by decide +kernel), false, rfl, (if_neg Bool.false_ne_true).mpr ?_⟩
          refine ⟨_, rfl, rfl, false, congrArg V.bl (decide_eq_false (by intro z; cases z)), (if_neg Bool.false_ne_true).mpr ?_⟩
          refine ⟨_, rfl, _, _, _, _, false, rfl, .ty _, ty, kit_ty (by decide +kernel), _, rfl, _, _, _, _, false, rfl, .ty _, ty, kit_ty (by decide +kernel), rfl, true, rfl, (if_pos rfl).mpr ?_⟩
          refine ⟨_, rfl, _, _, _, _, true, rfl, .ty _, ty, kit_ty (by decide +kernel), _, rfl, _, _, _, _, true, rfl, .ty _, ty, kit_ty (by decide +kernel), rfl, true, rfl, (if_pos rfl).mpr ?_⟩
          refine ⟨_, rfl, _, rfl, rfl, ?_⟩
          rw [decide_eq_true (rfl : V.str z = V.str z)]
          exact fin
      · have typ : TyX K H (.ref p) (.type "tuple") := .base (.tup hp)
        have tyq : TyX K H (.ref q) (.type "tuple") := .base (.tup hq)
        refine ⟨_, rfl, _, _, _, _, true, rfl, .ty _, tyq, kit_ty (by decide +kernel), true, rfl, (if_pos rfl).mpr ((if_pos rfl).mpr ?_)⟩
        refine ⟨_, rfl, _, _, _, _, true, rfl, .ty _, typ, kit_ty (by decide +kernel), _, rfl, _, _, _, _, true, rfl, .ty _, tyq, kit_ty (by decide +kernel), rfl, false, rfl, (if_neg Bool.false_ne_true).mpr ?_⟩
        refine ⟨_, rfl, _, _, _, _, false, rfl, .ty _, typ, kit_ty (by decide +kernel), _, rfl, _, _, _, _, false, rfl, .ty _, tyq, kit_ty (by decide +kernel), rfl, false, rfl, (if_neg Bool.false_ne_true).mpr ?_⟩
        refine ⟨_, rfl, p, _, rfl, .inr (.inl (.inl hp)), _, rfl, q, _, rfl, .inr (.inl (.inl hq)), rfl, false, rfl, (if_neg Bool.false_ne_true).mpr ?_⟩
        refine ⟨_, rfl, q, _, rfl, .inr (.inl (.inl hq)), (2 : Int), rfl, by omega, by omega, ?_⟩
        refine for_range (lo := 0) (n := 2) (fun c σ H' => H' = H ∧ ∃ y2, σ = [some (.ref p), some (.ref q), y2]) ⟨rfl, none, rfl⟩ (fun c σ H' hc hP => ?_) fun σ H' hP => ?_
        · obtain ⟨rfl, y2, rfl⟩ := hP
          have e : ∀ x : V, [V.int i, .int j][c]? = some x → ∃ m, x = .int m := fun x h => by
            match c, h with
            | 0, h => exact ⟨i, (Option.some.inj h).symm⟩
            | 1, h => exact ⟨j, (Option.some.inj h).symm⟩
          have lt : c < [V.int i, .int j].length := hc
          obtain ⟨m, em⟩ := e _ (List.getElem?_eq_getElem lt)
          have ec : (0 : Int) + ((c : Nat) : Int) = ((c : Nat) : Int) := by omega
          have at_ : atI [V.int i, .int j] ((c : Nat) : Int) = some (.int m) := atI_nat (by rw [List.getElem?_eq_getElem lt, em])
          refine ⟨_, rfl, _, rfl, p, _, ((c : Nat) : Int), .int m, rfl, congrArg V.int ec, .inl (.inl hp), at_, _, rfl, _, rfl, q, _, ((c : Nat) : Int), .int m, rfl, congrArg V.int ec, .inl (.inl hq), at_, by omega, .inl ⟨.int m, _, rfl, .int m⟩, true, rfl, (if_neg Bool.false_ne_true).mpr ⟨rfl, _, rfl⟩⟩
        · obtain ⟨rfl, y2, rfl⟩ := hP
          exact fin
def spNow (K : PySem.W.Frag) (C : Addr) : Sp := fun vs H Q _ => ∃ (x n pa fu a lp lf : Addr) (ps fs us vs1 vs2 : List V) (z rl : Str), vs = [.ref x, .ref a, .ref lp, .ref lf] ∧ DeskAt C H x n pa fu ps fs ∧ SqT K H n [.str z, .str rl] ∧ SqL K H a (.str z :: .str rl :: us) ∧ SqL K H lp vs1 ∧ SqL K H lf vs2 ∧ vs1.length = ps.length ∧ vs2.length = fs.length ∧
  ∀ H', Same H H' → Q (.bl true) H'
theorem ok_law_now (T : Tx K mg) : FnOk P w K mg base CX0 4 T.a_law_now T.f_law_now ["desk", "now", "past", "future"] (spNow K T.A_Desk) := by
  refine T.F_law_now.ok sc_law_now (fun vs H Q E h => ?_) (fun cdv A outer s0 H vs Q E hr h => ?_)
  · obtain ⟨x, n, pa, fu, a, lp, lf, ps, fs, us, vs1, vs2, z, rl, rfl, _⟩ := h
    rfl
  · obtain ⟨x, n, pa, fu, a, lp, lf, ps, fs, us, vs1, vs2, z, rl, rfl, hd, hn, ha, h1, h2, e1, e2, q⟩ := h
    obtain ⟨pA, PA⟩ := T.P_source
    obtain ⟨pB, PB⟩ := T.P_rulebook
    refine ⟨_, (pss_cons (ps_if (PW.pt (pw_or (pt_not (pt_val (pe_call (ok_law_like T 2) hr (by rfl) T.m_law_like T.F_law_like.kp T.B_law_like .nil pass0 (pa_cons (pe_prop (pv 0) T.C_Desk PA (ok_Desk_source T) (hr.mono (by decide)) T.B_Desk_source .nil pass0 rfl) (pa_cons (pe_ix ix_list (pv 1) pe_int (fun _ _ => rfl)) pa_nil))))) (pw_or1 (pt_not (pt_val (pe_call (ok_law_like T 2) hr (by rfl) T.m_law_like T.F_law_like.kp T.B_law_like .nil pass0 (pa_cons (pe_prop (pv 0) T.C_Desk PB (ok_Desk_rulebook T) (hr.mono (by decide)) T.B_Desk_rulebook .nil pass0 rfl) (pa_cons (pe_ix ix_list (pv 1) pe_int (fun _ _ => rfl)) pa_nil)))))))) (pss_one (ps_ret pe_bl)) pss_nil) (pss_one (ps_ret (pe_call (ok_law_like T 2) hr (by rfl) T.m_law_like T.F_law_like.kp T.B_law_like .nil pass0 (pa_cons (pe_meth0 (pv 0) T.C_Desk T.M_Desk_steps (ok_Desk_steps T) (hr.mono (by decide)) T.B_Desk_steps .nil pass0) (pa_cons (pe_tup (pa_cons (pe_callB call_len_seq (by rfl) T.b_len (by decide +kernel) (pa_cons (pv 2) pa_nil)) (pa_cons (pe_callB call_len_seq (by rfl) T.b_len (by decide +kernel) (pa_cons (pv 3) pa_nil)) pa_nil))) pa_nil)))))), ?_⟩
    have two : 2 ≤ sizeLine := by decide
    obtain ⟨dx, hx⟩ := hd.at_
    refine ⟨_, rfl, x, dx, _, rfl, hx, x, n, pa, fu, ps, fs, z, rl, rfl, hd, hn, _, rfl, a, _, 0, _, rfl, rfl, ha, atI_nat (j := 0) rfl, by decide, .inl ⟨_, _, rfl, .str z⟩, true, rfl, (if_neg Bool.false_ne_true).mpr ?_⟩
    refine ⟨_, rfl, x, dx, _, rfl, hx, x, n, pa, fu, ps, fs, z, rl, rfl, hd, hn, _, rfl, a, _, 1, _, rfl, rfl, ha, atI_nat (j := 1) rfl, by decide, .inl ⟨_, _, rfl, .str rl⟩, true, rfl, (if_neg Bool.false_ne_true).mpr ?_⟩
    refine ⟨_, rfl, x, dx, _, rfl, hx, rfl, x, n, pa, fu, ps, fs, rfl, hd, fun p np => ?_⟩
    have s1 := same_upd (o := .tup [.int (ps.length : Nat), .int (fs.length : Nat)]) np
    refine ⟨_, rfl, lp, _, rfl, .inl (s1.seq h1), _, rfl, lf, _, rfl, .inl (s1.seq h2), two, fun p2 np2 => ?_⟩
    rw [e1, e2] at *
    have s2 := same_upd (o := .tup [.int (ps.length : Nat), .int (fs.length : Nat)]) np2
    exact ⟨by decide, .inr ⟨by decide, p, p2, _, _, rfl, s2 _ _ upd_same, upd_same⟩, q _ (s1.trans s2)⟩
end
end K77

set_option maxRecDepth 100000
set_option maxHeartbeats 4000000
/-! K8Q: the desk beside the law's lists; _law_undone, _law_redone, _law_ended. -/
namespace K77
open PySem PySem.Spec PyProof.Rows L2 KG TL

/-- a text and a book: the law's list at a, the desk's tuple at m -/
structure En where
  a : Addr
  m : Addr
  z : Str
  rl : Str
  ls : List Ln
def ras (es : List En) : List V := es.map fun e => V.ref e.a
def rms (es : List En) : List V := es.map fun e => V.ref e.m
theorem ras_snoc (es : List En) (e : En) : ras (es ++ [e]) = ras es ++ [.ref e.a] := List.map_append ..
theorem rms_snoc (es : List En) (e : En) : rms (es ++ [e]) = rms es ++ [.ref e.m] := List.map_append ..
theorem ras_len (es : List En) : (ras es).length = es.length := List.length_map ..
theorem rms_len (es : List En) : (rms es).length = es.length := List.length_map ..
structure En.ok (K : PySem.W.Frag) (G : Hp) (B : Nat) (e : En) : Prop where
  now : NowAt K G e.a e.z e.rl e.ls
  tup : SqT K G e.m [.str e.z, .str e.rl]
  st : St e.z e.rl e.ls B
theorem En.ok.keep {K : PySem.W.Frag} {G G' : Hp} {B : Nat} {e : En} (s : Same G G') (h : e.ok K G B) : e.ok K G' B := ⟨h.now.keep s, (same_tups s).seqT h.tup, h.st⟩
theorem En.ok.mono {K : PySem.W.Frag} {G : Hp} {B C : Nat} {e : En} (h : e.ok K G B) (l : B ≤ C) : e.ok K G C := ⟨h.now, h.tup, h.st.mono l⟩
abbrev five (x pa fu lp lf : Addr) : List Addr := [x, pa, fu, lp, lf]
structure Sys (K : PySem.W.Frag) (C : Addr) (H : Hp) (S : List Addr) (x pa fu lp lf : Addr) (e : En) (ps fs : List En) (B : Nat) : Prop where
  desk : DeskAt C H x e.m pa fu (rms ps) (rms fs)
  past : H lp = some (.lst (ras ps))
  fut : H lf = some (.lst (ras fs))
  now : e.ok K (hide S H) B
  ps_ok : ∀ y ∈ ps, y.ok K (hide S H) B
  fs_ok : ∀ y ∈ fs, y.ok K (hide S H) B
  hid : ∀ b ∈ five x pa fu lp lf, b ∈ S
  nd : (five x pa fu lp lf).Nodup
theorem DeskAt.oth {C : Addr} {H H' : Hp} {L : List Addr} {x n pa fu : Addr} {ps fs : List V} (h : DeskAt C H x n pa fu ps fs) (o : Oth L H H') (h1 : x ∉ L) (h2 : pa ∉ L) (h3 : fu ∉ L) : DeskAt C H' x n pa fu ps fs :=
  ⟨let ⟨dx, e⟩ := h.at_; ⟨dx, o _ _ h1 e⟩, o _ _ h2 h.past, o _ _ h3 h.fut, h.ne⟩
theorem Sys.next {K : PySem.W.Frag} {C : Addr} {H H' : Hp} {S : List Addr} {x pa fu lp lf : Addr} {e e' : En} {ps fs ps' fs' : List En} {B : Nat} (s : Sys K C H S x pa fu lp lf e ps fs B) (o : Oth (five x pa fu lp lf) H H')
    (hd : DeskAt C H' x e'.m pa fu (rms ps') (rms fs')) (h1 : H' lp = some (.lst (ras ps'))) (h2 : H' lf = some (.lst (ras fs'))) (sub : ∀ y ∈ e' :: (ps' ++ fs'), y ∈ e :: (ps ++ fs)) : Sys K C H' S x pa fu lp lf e' ps' fs' B := by
  have sm := oth_hide o s.hid
  have all : ∀ y ∈ e :: (ps ++ fs), y.ok K (hide S H') B := fun y hy => by
    rcases List.mem_cons.mp hy with rfl | hy
    · exact s.now.keep sm
    · rcases List.mem_append.mp hy with hy | hy
      · exact (s.ps_ok y hy).keep sm
      · exact (s.fs_ok y hy).keep sm
  exact ⟨hd, h1, h2, all _ (sub _ (.head _)), fun y hy => all y (sub y (.tail _ (List.mem_append_left _ hy))), fun y hy => all y (sub y (.tail _ (List.mem_append_right _ hy))), s.hid, s.nd⟩
theorem Sys.same {K : PySem.W.Frag} {C : Addr} {H H' : Hp} {S : List Addr} {x pa fu lp lf : Addr} {e : En} {ps fs : List En} {B : Nat} (s : Sys K C H S x pa fu lp lf e ps fs B) (sm : Same H H') : Sys K C H' S x pa fu lp lf e ps fs B :=
  s.next (same_oth sm) (s.desk.oth (L := []) (same_oth sm) (by simp) (by simp) (by simp)) (sm _ _ s.past) (sm _ _ s.fut) fun y hy => hy
section
variable {P : Program} {w : World} {K : PySem.W.Frag} {mg : Str → Option Value} {base : Heap}
/-- undo or redo: what becomes of now, past, future -/
inductive Turn (back : Bool) : En → List En → List En → En → List En → List En → Prop
  | none {e : En} {ps fs : List En} : (if back then ps else fs) = [] → Turn back e ps fs e ps fs
  | back {e e0 : En} {ps fs : List En} : back = true → Turn back e (ps ++ [e0]) fs e0 ps (fs ++ [e])
  | forth {e e0 : En} {ps fs : List En} : back = false → Turn back e ps (fs ++ [e0]) e0 (ps ++ [e]) fs
def spUndone (K : PySem.W.Frag) (C : Addr) (back : Bool) : Sp := fun vs H Q _ => ∃ (x pa fu lp lf : Addr) (S : List Addr) (e e' : En) (ps fs ps' fs' : List En) (B : Nat), vs = [.ref x, .ref e.a, .ref lp, .ref lf] ∧ Sys K C H S x pa fu lp lf e ps fs B ∧ ps.length ≤ 900 ∧ fs.length ≤ 900 ∧ Turn back e ps fs e' ps' fs' ∧
  ∀ H', Oth (five x pa fu lp lf) H H' → Sys K C H' S x pa fu lp lf e' ps' fs' B → Q (.bl true) H'
theorem ok_law_undone (T : Tx K mg) : FnOk P w K mg base CX0 5 T.a_law_undone T.f_law_undone ["desk", "now", "past", "future"] (spUndone K T.A_Desk true) := by
  refine T.F_law_undone.ok sc_law_undone (fun vs H Q E h => ?_) (fun cdv A outer s0 H vs Q E hr h => ?_)
  · obtain ⟨x, pa, fu, lp, lf, S, e, e', ps, fs, ps', fs', B, rfl, _⟩ := h
    rfl
  · obtain ⟨x, pa, fu, lp, lf, S, e, e', ps, fs, ps', fs', B, rfl, sy, l1, l2, hstep, q⟩ := h
    refine ⟨_, (pss_cons (ps_if (pt_cmpR op_eq (pe_callB call_len_seq (by rfl) T.b_len (by decide +kernel) (pa_cons (pv 2) pa_nil)) pe_int (nomark _)) (pss_one (ps_ret (pe_and (pe_call (ok_law_like T 1) (hr.mono (by decide)) (by rfl) T.m_law_like T.F_law_like.kp T.B_law_like .nil pass0 (pa_cons (pe_meth0 (pv 0) T.C_Desk T.M_Desk_undo (ok_Desk_undo T) (hr.mono (by decide)) T.B_Desk_undo .nil pass0) (pa_cons pe_bl pa_nil))) (pe_one (pe_call (ok_law_now T) hr (by rfl) T.m_law_now T.F_law_now.kp T.B_law_now .nil pass0 (pa_cons (pv 0) (pa_cons (pv 1) (pa_cons (pv 2) (pa_cons (pv 3) pa_nil))))))))) pss_nil) 
  (pss_cons (ps_expr (pe_bm PySem.F.plainAttrs_list PySem.F.slot_list_append PySem.F.type_list_append mt_append (pv 3) (pa_cons (pv 1) pa_nil))) 
  (pss_cons (ps_set (i := 4) sc_law_undone.nd rfl (.inl rfl) (pe_bm0 PySem.F.plainAttrs_list PySem.F.slot_list_pop PySem.F.type_list_pop mt_pop (pv 2))) (pss_one (ps_ret (pe_and (pe_call (ok_law_like T 1) (hr.mono (by decide)) (by rfl) T.m_law_like T.F_law_like.kp T.B_law_like .nil pass0 (pa_cons (pe_meth0 (pv 0) T.C_Desk T.M_Desk_undo (ok_Desk_undo T) (hr.mono (by decide)) T.B_Desk_undo .nil pass0) (pa_cons pe_bl pa_nil))) (pe_one (pe_call (ok_law_now T) hr (by rfl) T.m_law_now T.F_law_now.kp T.B_law_now .nil pass0 (pa_cons (pv 0) (pa_cons (pv 4) (pa_cons (pv 2) (pa_cons (pv 3) pa_nil)))))))))))), ?_⟩
    obtain ⟨dx, hx⟩ := sy.desk.at_
    obtain ⟨⟨n1, n2, n3, n4⟩, ⟨n5, n6, n7⟩, ⟨n8, n9⟩, n10⟩ : (x ≠ pa ∧ x ≠ fu ∧ x ≠ lp ∧ x ≠ lf) ∧ (pa ≠ fu ∧ pa ≠ lp ∧ pa ≠ lf) ∧ (fu ≠ lp ∧ fu ≠ lf) ∧ lp ≠ lf := by
      have := sy.nd
      simpa [five] using this
    have outT : ∀ {y : En} {H' : Hp}, y.ok K (hide S H') B → SqT K H' y.m [.str y.z, .str y.rl] := fun h => (same_tups (hide_same S _)).seqT h.tup
    have outL : ∀ {y : En} {H' : Hp}, y.ok K (hide S H') B → ∃ us, SqL K H' y.a (.str y.z :: .str y.rl :: us) := fun h => let ⟨L, us, h1, _⟩ := h.now; ⟨_, (hide_same S _).seq h1⟩
    -- the last step: _law_now
    have fin : ∀ {H' : Hp}, Oth (five x pa fu lp lf) H H' → Sys K T.A_Desk H' S x pa fu lp lf e' ps' fs' B → spNow K T.A_Desk [.ref x, .ref e'.a, .ref lp, .ref lf] H' Q E := fun o s' => by
      obtain ⟨us, hL⟩ := outL s'.now
      refine ⟨x, e'.m, pa, fu, e'.a, lp, lf, _, _, us, _, _, e'.z, e'.rl, rfl, s'.desk, outT s'.now, hL, .inl (.inl s'.past), .inl (.inl s'.fut), ?_, ?_, fun H2 s2 => q H2 (o.trans (same_oth s2)) (s'.same s2)⟩
      · rw [ras_len, rms_len]
      · rw [ras_len, rms_len]
    cases hstep with
    | none h0 =>
      have h0 : ps = [] := h0
      subst h0
      refine ⟨_, rfl, lp, _, rfl, .inl (.inl (.inl sy.past)), rfl, true, iEq rfl, (if_pos rfl).mpr ?_⟩
      refine ⟨_, rfl, x, dx, _, rfl, hx, rfl, x, _, pa, fu, _, _, rfl, sy.desk, Nat.zero_le _, by rw [rms_len]; omega, .inl ⟨rfl, ?_⟩⟩
      exact ⟨by decide, .inl ⟨_, _, rfl, .bl false⟩, true, rfl, (if_pos rfl).mpr ⟨_, rfl, _, rfl, _, rfl, _, rfl, fin (fun _ _ _ e => e) sy⟩⟩
    | forth h => cases h
    | back _ =>
      have hp := sy.past
      rw [ras_snoc] at hp
      refine ⟨_, rfl, lp, _, rfl, .inl (.inl (.inl hp)), rfl, false, iNe (by rw [List.length_append]; show (((ras ps').length + 1 : Nat) : Int) ≠ 0; omega), (if_neg Bool.false_ne_true).mpr ?_⟩
      refine ⟨_, rfl, .inl ⟨rfl, _, .inl (.inl sy.fut)⟩, _, rfl, lf, _, _, rfl, rfl, sy.fut, small1000 (by rw [ras_len]; omega), ?_⟩
      have hp1 : (upd H lf (.lst (ras fs ++ [.ref e.a]))) lp = some (.lst (ras ps' ++ [.ref e'.a])) := (upd_ne n10).trans hp
      refine ⟨_, rfl, .inl ⟨rfl, _, .inl (.inl hp1)⟩, lp, _, _, rfl, rfl, hp1, last_of, ?_⟩
      rw [List.dropLast_concat]
      have o1 : Oth [lp, lf] H (upd (upd H lf (.lst (ras fs ++ [.ref e.a]))) lp (.lst (ras ps'))) := (oth_upd (by simp)).trans (oth_upd (by simp))
      have hd := sy.desk.oth o1 (by simp [n3, n4]) (by simp [n6, n7]) (by simp [n8, n9])
      have g1 : (upd (upd H lf (.lst (ras fs ++ [.ref e.a]))) lp (.lst (ras ps'))) lf = some (.lst (ras fs ++ [.ref e.a])) := (upd_ne n10.symm).trans upd_same
      have g2 : (upd (upd H lf (.lst (ras fs ++ [.ref e.a]))) lp (.lst (ras ps'))) lp = some (.lst (ras ps')) := upd_same
      generalize upd (upd H lf (.lst (ras fs ++ [.ref e.a]))) lp (.lst (ras ps')) = H1 at *
      obtain ⟨dx1, hx1⟩ := hd.at_
      rw [List.length_append] at l1
      have l1 : ps'.length + 1 ≤ 900 := l1
      refine ⟨_, rfl, x, dx1, _, rfl, hx1, rfl, x, _, pa, fu, _, _, rfl, hd, by rw [rms_len, List.length_append]; show ps'.length + 1 ≤ 1000; omega, by rw [rms_len]; omega, .inr ⟨rms ps', e'.m, rms_snoc _ _, fun H2 o2 hd2 => ?_⟩⟩
      refine ⟨by decide, .inl ⟨_, _, rfl, .bl true⟩, true, rfl, (if_pos rfl).mpr ⟨_, rfl, _, rfl, _, rfl, _, rfl, ?_⟩⟩
      have o12 : Oth (five x pa fu lp lf) H H2 := (o1.mono (by simp [five])).trans (o2.mono (by simp [five]))
      rw [← rms_snoc] at hd2
      refine fin o12 (sy.next o12 hd2 ?_ ?_ ?_)
      · exact o2 _ _ (by simp [n3.symm, n6.symm, n8.symm]) g2
      · rw [ras_snoc]
        exact o2 _ _ (by simp [n4.symm, n7.symm, n9.symm]) g1
      · intro y hy
        simp only [List.mem_cons, List.mem_append, List.not_mem_nil, or_false] at hy ⊢
        rcases hy with h | h | h | h <;> simp [h]
theorem ok_law_redone (T : Tx K mg) : FnOk P w K mg base CX0 5 T.a_law_redone T.f_law_redone ["desk", "now", "past", "future"] (spUndone K T.A_Desk false) := by
  refine T.F_law_redone.ok sc_law_redone (fun vs H Q E h => ?_) (fun cdv A outer s0 H vs Q E hr h => ?_)
  · obtain ⟨x, pa, fu, lp, lf, S, e, e', ps, fs, ps', fs', B, rfl, _⟩ := h
    rfl
  · obtain ⟨x, pa, fu, lp, lf, S, e, e', ps, fs, ps', fs', B, rfl, sy, l1, l2, hstep, q⟩ := h
    refine ⟨_, (pss_cons (ps_if (pt_cmpR op_eq (pe_callB call_len_seq (by rfl) T.b_len (by decide +kernel) (pa_cons (pv 3) pa_nil)) pe_int (nomark _)) (pss_one (ps_ret (pe_and (pe_call (ok_law_like T 1) (hr.mono (by decide)) (by rfl) T.m_law_like T.F_law_like.kp T.B_law_like .nil pass0 (pa_cons (pe_meth0 (pv 0) T.C_Desk T.M_Desk_redo (ok_Desk_redo T) (hr.mono (by decide)) T.B_Desk_redo .nil pass0) (pa_cons pe_bl pa_nil))) (pe_one (pe_call (ok_law_now T) hr (by rfl) T.m_law_now T.F_law_now.kp T.B_law_now .nil pass0 (pa_cons (pv 0) (pa_cons (pv 1) (pa_cons (pv 2) (pa_cons (pv 3) pa_nil))))))))) pss_nil) 
  (pss_cons (ps_expr (pe_bm PySem.F.plainAttrs_list PySem.F.slot_list_append PySem.F.type_list_append mt_append (pv 2) (pa_cons (pv 1) pa_nil))) 
  (pss_cons (ps_set (i := 4) sc_law_redone.nd rfl (.inl rfl) (pe_bm0 PySem.F.plainAttrs_list PySem.F.slot_list_pop PySem.F.type_list_pop mt_pop (pv 3))) (pss_one (ps_ret (pe_and (pe_call (ok_law_like T 1) (hr.mono (by decide)) (by rfl) T.m_law_like T.F_law_like.kp T.B_law_like .nil pass0 (pa_cons (pe_meth0 (pv 0) T.C_Desk T.M_Desk_redo (ok_Desk_redo T) (hr.mono (by decide)) T.B_Desk_redo .nil pass0) (pa_cons pe_bl pa_nil))) (pe_one (pe_call (ok_law_now T) hr (by rfl) T.m_law_now T.F_law_now.kp T.B_law_now .nil pass0 (pa_cons (pv 0) (pa_cons (pv 4) (pa_cons (pv 2) (pa_cons (pv 3) pa_nil)))))))))))), ?_⟩
    obtain ⟨dx, hx⟩ := sy.desk.at_
    obtain ⟨⟨n1, n2, n3, n4⟩, ⟨n5, n6, n7⟩, ⟨n8, n9⟩, n10⟩ : (x ≠ pa ∧ x ≠ fu ∧ x ≠ lp ∧ x ≠ lf) ∧ (pa ≠ fu ∧ pa ≠ lp ∧ pa ≠ lf) ∧ (fu ≠ lp ∧ fu ≠ lf) ∧ lp ≠ lf := by
      have := sy.nd
      simpa [five] using this
    have outT : ∀ {y : En} {H' : Hp}, y.ok K (hide S H') B → SqT K H' y.m [.str y.z, .str y.rl] := fun h => (same_tups (hide_same S _)).seqT h.tup
    have outL : ∀ {y : En} {H' : Hp}, y.ok K (hide S H') B → ∃ us, SqL K H' y.a (.str y.z :: .str y.rl :: us) := fun h => let ⟨L, us, h1, _⟩ := h.now; ⟨_, (hide_same S _).seq h1⟩
    -- the last step: _law_now
    have fin : ∀ {H' : Hp}, Oth (five x pa fu lp lf) H H' → Sys K T.A_Desk H' S x pa fu lp lf e' ps' fs' B → spNow K T.A_Desk [.ref x, .ref e'.a, .ref lp, .ref lf] H' Q E := fun o s' => by
      obtain ⟨us, hL⟩ := outL s'.now
      refine ⟨x, e'.m, pa, fu, e'.a, lp, lf, _, _, us, _, _, e'.z, e'.rl, rfl, s'.desk, outT s'.now, hL, .inl (.inl s'.past), .inl (.inl s'.fut), ?_, ?_, fun H2 s2 => q H2 (o.trans (same_oth s2)) (s'.same s2)⟩
      · rw [ras_len, rms_len]
      · rw [ras_len, rms_len]
    cases hstep with
    | none h0 =>
      have h0 : fs = [] := h0
      subst h0
      refine ⟨_, rfl, lf, _, rfl, .inl (.inl (.inl sy.fut)), rfl, true, iEq rfl, (if_pos rfl).mpr ?_⟩
      refine ⟨_, rfl, x, dx, _, rfl, hx, rfl, x, _, pa, fu, _, _, rfl, sy.desk, by rw [rms_len]; omega, Nat.zero_le _, .inl ⟨rfl, ?_⟩⟩
      exact ⟨by decide, .inl ⟨_, _, rfl, .bl false⟩, true, rfl, (if_pos rfl).mpr ⟨_, rfl, _, rfl, _, rfl, _, rfl, fin (fun _ _ _ e => e) sy⟩⟩
    | back h => cases h
    | forth _ =>
      have hp := sy.fut
      rw [ras_snoc] at hp
      refine ⟨_, rfl, lf, _, rfl, .inl (.inl (.inl hp)), rfl, false, iNe (by rw [List.length_append]; show (((ras fs').length + 1 : Nat) : Int) ≠ 0; omega), (if_neg Bool.false_ne_true).mpr ?_⟩
      refine ⟨_, rfl, .inl ⟨rfl, _, .inl (.inl sy.past)⟩, _, rfl, lp, _, _, rfl, rfl, sy.past, small1000 (by rw [ras_len]; omega), ?_⟩
      have hp1 : (upd H lp (.lst (ras ps ++ [.ref e.a]))) lf = some (.lst (ras fs' ++ [.ref e'.a])) := (upd_ne n10.symm).trans hp
      refine ⟨_, rfl, .inl ⟨rfl, _, .inl (.inl hp1)⟩, lf, _, _, rfl, rfl, hp1, last_of, ?_⟩
      rw [List.dropLast_concat]
      have o1 : Oth [lp, lf] H (upd (upd H lp (.lst (ras ps ++ [.ref e.a]))) lf (.lst (ras fs'))) := (oth_upd (by simp)).trans (oth_upd (by simp))
      have hd := sy.desk.oth o1 (by simp [n3, n4]) (by simp [n6, n7]) (by simp [n8, n9])
      have g1 : (upd (upd H lp (.lst (ras ps ++ [.ref e.a]))) lf (.lst (ras fs'))) lp = some (.lst (ras ps ++ [.ref e.a])) := (upd_ne n10).trans upd_same
      have g2 : (upd (upd H lp (.lst (ras ps ++ [.ref e.a]))) lf (.lst (ras fs'))) lf = some (.lst (ras fs')) := upd_same
      generalize upd (upd H lp (.lst (ras ps ++ [.ref e.a]))) lf (.lst (ras fs')) = H1 at *
      obtain ⟨dx1, hx1⟩ := hd.at_
      rw [List.length_append] at l2
      have l2 : fs'.length + 1 ≤ 900 := l2
      refine ⟨_, rfl, x, dx1, _, rfl, hx1, rfl, x, _, pa, fu, _, _, rfl, hd, by rw [rms_len]; omega, by rw [rms_len, List.length_append]; show fs'.length + 1 ≤ 1000; omega, .inr ⟨rms fs', e'.m, rms_snoc _ _, fun H2 o2 hd2 => ?_⟩⟩
      refine ⟨by decide, .inl ⟨_, _, rfl, .bl true⟩, true, rfl, (if_pos rfl).mpr ⟨_, rfl, _, rfl, _, rfl, _, rfl, ?_⟩⟩
      have o12 : Oth (five x pa fu lp lf) H H2 := (o1.mono (by simp [five])).trans (o2.mono (by simp [five]))
      rw [← rms_snoc] at hd2
      refine fin o12 (sy.next o12 hd2 ?_ ?_ ?_)
      · rw [ras_snoc]
        exact o2 _ _ (by simp [n3.symm, n6.symm, n8.symm]) g1
      · exact o2 _ _ (by simp [n4.symm, n7.symm, n9.symm]) g2
      · intro y hy
        simp only [List.mem_cons, List.mem_append, List.not_mem_nil, or_false] at hy ⊢
        rcases hy with h | (h | h) | h <;> simp [h]
def spEnded (K : PySem.W.Frag) (C : Addr) : Sp := fun vs H Q _ => ∃ (x pa fu lp lf : Addr) (S : List Addr) (e : En) (ps fs : List En) (B : Nat), vs = [.ref x, .ref e.a, .ref lp, .ref lf] ∧ Sys K C H S x pa fu lp lf e ps fs B ∧ ps.length + fs.length ≤ 400 ∧
  ∀ H', Oth (five x pa fu lp lf) H H' → Q (.bl true) H'
theorem ok_law_ended (T : Tx K mg) : FnOk P w K mg base CX0 6 T.a_law_ended T.f_law_ended ["desk", "now", "past", "future"] (spEnded K T.A_Desk) := by
  refine T.F_law_ended.ok sc_law_ended (fun vs H Q E h => ?_) (fun cdv A outer s0 H vs Q E hr h => ?_)
  · obtain ⟨x, pa, fu, lp, lf, S, e, ps, fs, B, rfl, _⟩ := h
    rfl
  · obtain ⟨x, pa, fu, lp, lf, S, e, ps, fs, B, rfl, sy, l1, q⟩ := h
    refine ⟨_, (pss_cons (ps_for PassesOwn.never rfl (pi_range1 (by rfl) T.b_range (pa_cons (pe_op op_add (pe_callB call_len_seq (by rfl) T.b_len (by decide +kernel) (pa_cons (pv 2) pa_nil)) pe_int) pa_nil)) (pg_name (i := 4) sc_law_ended.nd rfl (.inl rfl)) 
    (pss_cons (ps_set (i := 5) sc_law_ended.nd rfl (.inl rfl) (pe_ifExp (pt_cmpR op_eq (pe_callB call_len_seq (by rfl) T.b_len (by decide +kernel) (pa_cons (pv 2) pa_nil)) pe_int (nomark _)) (pv 1) (pe_ix ix_list (pv 2) (pe_op op_sub (pe_callB call_len_seq (by rfl) T.b_len (by decide +kernel) (pa_cons (pv 2) pa_nil)) pe_int) (fun _ _ => rfl)))) 
    (pss_cons (ps_if (pt_not (pt_val (pe_call (ok_law_undone T) hr (by rfl) T.m_law_undone T.F_law_undone.kp T.B_law_undone .nil pass0 (pa_cons (pv 0) (pa_cons (pv 1) (pa_cons (pv 2) (pa_cons (pv 3) pa_nil))))))) (pss_one (ps_ret pe_bl)) pss_nil) (pss_one (ps_set (i := 1) sc_law_ended.nd rfl (.inl rfl) (pv 5)))))) 
  (pss_cons (ps_for PassesOwn.never rfl (pi_range1 (by rfl) T.b_range (pa_cons (pe_op op_add (pe_callB call_len_seq (by rfl) T.b_len (by decide +kernel) (pa_cons (pv 3) pa_nil)) pe_int) pa_nil)) (pg_name (i := 4) sc_law_ended.nd rfl (.inl rfl)) 
    (pss_cons (ps_set (i := 6) sc_law_ended.nd rfl (.inl rfl) (pe_ifExp (pt_cmpR op_eq (pe_callB call_len_seq (by rfl) T.b_len (by decide +kernel) (pa_cons (pv 3) pa_nil)) pe_int (nomark _)) (pv 1) (pe_ix ix_list (pv 3) (pe_op op_sub (pe_callB call_len_seq (by rfl) T.b_len (by decide +kernel) (pa_cons (pv 3) pa_nil)) pe_int) (fun _ _ => rfl)))) 
    (pss_cons (ps_if (pt_not (pt_val (pe_call (ok_law_redone T) hr (by rfl) T.m_law_redone T.F_law_redone.kp T.B_law_redone .nil pass0 (pa_cons (pv 0) (pa_cons (pv 1) (pa_cons (pv 2) (pa_cons (pv 3) pa_nil))))))) (pss_one (ps_ret pe_bl)) pss_nil) (pss_one (ps_set (i := 1) sc_law_ended.nd rfl (.inl rfl) (pv 6)))))) (pss_one (ps_ret pe_bl)))), ?_⟩
    have lenE : ∀ (es : List En), (((ras es).length : Nat) : Int) + 1 = ((es.length + 1 : Nat) : Int) := fun es => by rw [ras_len]; omega
    refine ⟨_, rfl, lp, _, rfl, .inl (.inl (.inl sy.past)), _, _, rfl, rfl, ((ps.length + 1 : Nat) : Int), congrArg (fun i : Int => [V.int i]) (lenE ps), by omega, by omega, ?_⟩
    refine for_range (lo := 0) (n := ps.length + 1) (fun i σ H' => ∃ (e1 : En) (ps1 fs1 : List En) (y4 y5 : Option V), σ = [some (.ref x), some (.ref e1.a), some (.ref lp), some (.ref lf), y4, y5, none] ∧ Oth (five x pa fu lp lf) H H' ∧ Sys K T.A_Desk H' S x pa fu lp lf e1 ps1 fs1 B ∧ ps1.length + fs1.length = ps.length + fs.length) ⟨e, ps, fs, none, none, rfl, fun _ _ _ e => e, sy, rfl⟩ (fun i σ H1 hi hP => ?_) fun σ H1 hP => ?_
    · obtain ⟨e1, ps1, fs1, y4, y5, rfl, o1, s1, hl⟩ := hP
      rcases List.eq_nil_or_concat ps1 with rfl | ⟨ps2, e2, rfl⟩
      · refine ⟨_, rfl, lp, _, rfl, .inl (.inl (.inl s1.past)), rfl, true, iEq rfl, (if_pos rfl).mpr ?_⟩
        refine ⟨_, rfl, _, rfl, _, rfl, _, rfl, _, rfl, x, pa, fu, lp, lf, S, e1, e1, [], fs1, [], fs1, B, rfl, s1, Nat.zero_le _, by omega, .none rfl, fun H2 o2 s2 => ⟨true, rfl, (if_neg Bool.false_ne_true).mpr ⟨_, rfl, e1, [], fs1, _, _, rfl, o1.trans o2, s2, hl⟩⟩⟩
      · rw [List.concat_eq_append] at *
        have hp := s1.past
        rw [ras_snoc] at hp
        rw [List.length_append] at hl
        have hl : ps2.length + 1 + fs1.length = ps.length + fs.length := hl
        refine ⟨_, rfl, lp, _, rfl, .inl (.inl (.inl hp)), rfl, false, iNe (by rw [List.length_append]; show (((ras ps2).length + 1 : Nat) : Int) ≠ 0; omega), (if_neg Bool.false_ne_true).mpr ?_⟩
        refine ⟨_, rfl, _, rfl, lp, _, rfl, .inl (.inl (.inl hp)), _, _, rfl, rfl, lp, _, (((ras ps2).length : Nat) : Int), .ref e2.a, rfl, congrArg V.int (by rw [List.length_append]; show (((ras ps2).length + 1 : Nat) : Int) - 1 = _; omega), .inl (.inl hp), atI_nat (by rw [List.getElem?_append_right (Nat.le_refl _), Nat.sub_self]; rfl), ?_⟩
        refine ⟨_, rfl, _, rfl, _, rfl, _, rfl, x, pa, fu, lp, lf, S, e1, e2, ps2 ++ [e2], fs1, ps2, fs1 ++ [e1], B, rfl, s1, by rw [List.length_append]; show ps2.length + 1 ≤ 900; omega, by omega, .back rfl, fun H2 o2 s2 => ⟨true, rfl, (if_neg Bool.false_ne_true).mpr ⟨_, rfl, e2, ps2, fs1 ++ [e1], _, _, rfl, o1.trans o2, s2, ?_⟩⟩⟩
        rw [List.length_append]
        show ps2.length + (fs1.length + 1) = _
        omega
    · obtain ⟨e1, ps1, fs1, y4, y5, rfl, o1, s1, hl⟩ := hP
      refine ⟨_, rfl, lf, _, rfl, .inl (.inl (.inl s1.fut)), _, _, rfl, rfl, ((fs1.length + 1 : Nat) : Int), congrArg (fun i : Int => [V.int i]) (lenE fs1), by omega, by omega, ?_⟩
      refine for_range (lo := 0) (n := fs1.length + 1) (fun i σ H' => ∃ (e1 : En) (ps1 fs1 : List En) (y4 y5 y6 : Option V), σ = [some (.ref x), some (.ref e1.a), some (.ref lp), some (.ref lf), y4, y5, y6] ∧ Oth (five x pa fu lp lf) H H' ∧ Sys K T.A_Desk H' S x pa fu lp lf e1 ps1 fs1 B ∧ ps1.length + fs1.length = ps.length + fs.length) ⟨e1, ps1, fs1, y4, y5, none, rfl, o1, s1, hl⟩ (fun i σ H2 hi hP => ?_) fun σ H2 hP => ?_
      · clear hl
        obtain ⟨e2, ps2, fs2, y4, y5, y6, rfl, o2, s2, hl⟩ := hP
        rcases List.eq_nil_or_concat fs2 with rfl | ⟨fs3, e3, rfl⟩
        · refine ⟨_, rfl, lf, _, rfl, .inl (.inl (.inl s2.fut)), rfl, true, iEq rfl, (if_pos rfl).mpr ?_⟩
          refine ⟨_, rfl, _, rfl, _, rfl, _, rfl, _, rfl, x, pa, fu, lp, lf, S, e2, e2, ps2, [], ps2, [], B, rfl, s2, by omega, Nat.zero_le _, .none rfl, fun H3 o3 s3 => ⟨true, rfl, (if_neg Bool.false_ne_true).mpr ⟨_, rfl, e2, ps2, [], _, _, _, rfl, o2.trans o3, s3, hl⟩⟩⟩
        · rw [List.concat_eq_append] at *
          have hp := s2.fut
          rw [ras_snoc] at hp
          rw [List.length_append] at hl
          have hl : ps2.length + (fs3.length + 1) = ps.length + fs.length := hl
          refine ⟨_, rfl, lf, _, rfl, .inl (.inl (.inl hp)), rfl, false, iNe (by rw [List.length_append]; show (((ras fs3).length + 1 : Nat) : Int) ≠ 0; omega), (if_neg Bool.false_ne_true).mpr ?_⟩
          refine ⟨_, rfl, _, rfl, lf, _, rfl, .inl (.inl (.inl hp)), _, _, rfl, rfl, lf, _, (((ras fs3).length : Nat) : Int), .ref e3.a, rfl, congrArg V.int (by rw [List.length_append]; show (((ras fs3).length + 1 : Nat) : Int) - 1 = _; omega), .inl (.inl hp), atI_nat (by rw [List.getElem?_append_right (Nat.le_refl _), Nat.sub_self]; rfl), ?_⟩
          refine ⟨_, rfl, _, rfl, _, rfl, _, rfl, x, pa, fu, lp, lf, S, e2, e3, ps2, fs3 ++ [e3], ps2 ++ [e2], fs3, B, rfl, s2, by omega, by rw [List.length_append]; show fs3.length + 1 ≤ 900; omega, .forth rfl, fun H3 o3 s3 => ⟨true, rfl, (if_neg Bool.false_ne_true).mpr ⟨_, rfl, e3, ps2 ++ [e2], fs3, _, _, _, rfl, o2.trans o3, s3, ?_⟩⟩⟩
          rw [List.length_append]
          show ps2.length + 1 + fs3.length = _
          omega
      · obtain ⟨e2, ps2, fs2, y4, y5, y6, rfl, o2, s2, hl⟩ := hP
        exact q _ o2
end
end K77

set_option maxRecDepth 100000
set_option maxHeartbeats 4000000
/-! K8R: _law_draws. -/
namespace K77
open PySem PySem.Spec PyProof.Rows L2 KG TL

section
variable {P : Program} {w : World} {K : PySem.W.Frag} {mg : Str → Option Value} {base : Heap}
/-- draws in the making -/
def Draws (ns : List Int) : Prop := ∀ n ∈ ns, 0 ≤ n ∧ n < 1009
theorem Draws.snoc {ns : List Int} {n : Int} (h : Draws ns) (h1 : 0 ≤ n) (h2 : n < 1009) : Draws (ns ++ [n]) := fun x hx => by
  rcases List.mem_append.mp hx with hx | hx
  · exact h x hx
  · rw [List.mem_singleton.mp hx]
    exact ⟨h1, h2⟩
def spDraws (K : PySem.W.Frag) : Sp := fun vs H Q _ => ∃ (a : Addr) (ns : List Int), vs = [.ref a, .int 260] ∧ SqL K H a (ns.map V.int) ∧ ns.length ≤ 150 ∧
  ∀ (H' : Hp) (p : Addr) (ds : List Int), Same H H' → H p = none → H' p = some (.lst (ds.map V.int)) → ds ≠ [] → Draws ds → ds.length ≤ 10000 → Q (.ref p) H'
theorem ok_law_draws (T : Tx K mg) : FnOk P w K mg base CX0 1 T.a_law_draws T.f_law_draws ["script", "count"] (spDraws K) := by
  refine T.F_law_draws.ok sc_law_draws (fun vs H Q E h => ?_) (fun cdv A outer s0 H vs Q E hr h => ?_)
  · obtain ⟨a, ns, rfl, _⟩ := h
    rfl
  · obtain ⟨a, ns, rfl, ha, hl, q⟩ := h
    refine ⟨_, (pss_cons (ps_set (i := 2) sc_law_draws.nd rfl (.inl rfl) (pe_lst pa_nil)) 
  (pss_cons (ps_set (i := 3) sc_law_draws.nd rfl (.inl rfl) pe_int) 
  (pss_cons (ps_for PassesOwn.never rfl (pi_list (pv 0)) (pg_name (i := 4) sc_law_draws.nd rfl (.inl rfl)) 
    (pss_cons (ps_set (i := 5) sc_law_draws.nd rfl (.inl rfl) (pe_callB call_abs (by rfl) T.b_abs (by decide +kernel) (pa_cons (pe_callTy call_int1 (by rfl) T.b_int (by decide +kernel) (pa_cons (pv 4) pa_nil)) pa_nil))) 
    (pss_cons (ps_set (i := 3) sc_law_draws.nd rfl (.inl rfl) (pe_op op_mod (pe_op op_add (pe_op op_add (pe_op op_mul (pv 3) pe_int) (pe_op op_mod (pv 5) pe_int)) pe_int) pe_int)) (pss_one (ps_for PassesOwn.never rfl (pi_range1 (by rfl) T.b_range (pa_cons pe_int pa_nil)) (pg_name (i := 6) sc_law_draws.nd rfl (.inl rfl)) 
      (pss_cons (ps_if (PW.pt (pw_or (PW.pt (pw_and (pt_cmpR op_lt (pv 5) (pe_op op_pow pe_int pe_int) (nomark _)) (pw_and1 (pt_cmpR op_eq (pv 6) pe_int (nomark _))))) (pw_or1 (pt_cmpR op_eq (pv 5) pe_int (nomark _))))) (pss_one ps_break) pss_nil) 
      (pss_cons (ps_expr (pe_bm PySem.F.plainAttrs_list PySem.F.slot_list_append PySem.F.type_list_append mt_append (pv 2) (pa_cons (pe_op op_mod (pv 5) pe_int) pa_nil))) (pss_one (ps_set (i := 5) sc_law_draws.nd rfl (.inl rfl) (pe_op op_fdiv (pv 5) pe_int)))))))))) 
  (pss_cons (ps_for PassesOwn.never rfl (pi_range1 (by rfl) T.b_range (pa_cons (pe_callB (call_max2 rfl) (by rfl) T.b_max (by decide +kernel) (pa_cons pe_int (pa_cons (pe_op op_sub (pv 1) (pe_callB call_len_seq (by rfl) T.b_len (by decide +kernel) (pa_cons (pv 2) pa_nil))) pa_nil))) pa_nil)) (pg_name (i := 6) sc_law_draws.nd rfl (.inl rfl)) 
    (pss_cons (ps_set (i := 3) sc_law_draws.nd rfl (.inl rfl) (pe_op op_mod (pe_op op_add (pe_op op_mul (pv 3) pe_int) pe_int) pe_int)) (pss_one (ps_expr (pe_bm PySem.F.plainAttrs_list PySem.F.slot_list_append PySem.F.type_list_append mt_append (pv 2) (pa_cons (pe_op op_mod (pe_op op_add (pe_op op_fdiv (pv 3) pe_int) (pe_op op_mul (pe_op op_mod (pv 3) pe_int) pe_int)) pe_int) pa_nil)))))) (pss_one (ps_ret (pv 2))))))), ?_⟩
    refine ⟨Nat.zero_le _, fun p np => ?_⟩
    have up : ∀ {H' : Hp} {o : HO}, Same H H' → Same H (upd H' p o) := fun s b x e => (upd_ne (ne_of_none e np)).trans (s b x e)
    refine ⟨_, rfl, a, rfl, ⟨_, (same_upd np).seq ha⟩, ?_⟩
    refine for_list (xs := ns.map V.int) (fun i σ H' => Same H H' ∧ ∃ (ds : List Int) (st : Int) (y4 y5 y6 : Option V), σ = [some (.ref a), some (.int 260), some (.ref p), some (.int st), y4, y5, y6] ∧ H' p = some (.lst (ds.map V.int)) ∧ Draws ds ∧ ds.length ≤ 60 * i ∧ 0 ≤ st ∧ st < 2147483647)
      ⟨same_upd np, [], 77, none, none, none, rfl, upd_same, (fun x h => by cases h), Nat.zero_le _, by decide, by decide⟩ (fun i σ H' _ hP => hP.1.seq ha) (fun i v σ H1 hv hP => ?_) fun σ H1 hP => ?_
    · obtain ⟨sm, ds, st, y4, y5, y6, rfl, hp, hds, hlen, h0, h1⟩ := hP
      rw [List.getElem?_map] at hv
      have hi : i < ns.length := by
        cases e : ns[i]? with
        | none => rw [e] at hv; cases hv
        | some n => exact (List.getElem?_eq_some_iff.mp e).1
      cases e : ns[i]? with
      | none => rw [e] at hv; cases hv
      | some n =>
        rw [e] at hv
        obtain rfl : V.int n = v := Option.some.inj hv
        refine ⟨_, rfl, .inl ⟨n, rfl, n, rfl, ?_⟩⟩
        have nn : 0 ≤ (if n < 0 then -n else n) := by split <;> omega
        generalize (if n < 0 then -n else n) = nu at nn
        refine ⟨_, rfl, _, _, rfl, rfl, .inr ⟨by decide, by decide⟩, _, rfl, _, _, rfl, rfl, by show (0 : Int) < _; decide, _, _, rfl, rfl, _, _, rfl, rfl, _, _, rfl, rfl, by show (0 : Int) < _; decide, ?_⟩
        have st0 : 0 ≤ (st * 48271 + nu % 2147483647 + 1) % 2147483647 := Int.emod_nonneg _ (by decide)
        have st1 : (st * 48271 + nu % 2147483647 + 1) % 2147483647 < 2147483647 := Int.emod_lt_of_pos _ (by decide)
        obtain ⟨st2, e2⟩ : ∃ s : Int, s = (st * 48271 + nu % 2147483647 + 1) % 2147483647 := ⟨_, rfl⟩
        rw [← e2] at st0 st1
        refine ⟨(60 : Int), rfl, by omega, by omega, ?_⟩
        refine for_range (lo := 0) (n := 60) (fun j σ H' => Same H H' ∧ ∃ (ds : List Int) (nu : Int) (y6 : Option V), σ = [some (.ref a), some (.int 260), some (.ref p), some (.int st2), some (.int n), some (.int nu), y6] ∧ H' p = some (.lst (ds.map V.int)) ∧ Draws ds ∧ ds.length ≤ 60 * i + j ∧ 0 ≤ nu)
          ⟨sm, ds, nu, y6, by rw [e2]; rfl, hp, hds, by omega, nn⟩ (fun j σ H2 hj hP => ?_) fun σ H2 hP => ?_
        · obtain ⟨sm2, ds2, nu2, y6, rfl, hp2, hds2, hlen2, nn2⟩ := hP
          have out : ∀ y6 : Option V, Same H H2 ∧ ∃ (ds : List Int) (st : Int) (y4 y5 z6 : Option V), [some (V.ref a), some (.int 260), some (.ref p), some (.int st2), some (.int n), some (.int nu2), y6] = [some (.ref a), some (.int 260), some (.ref p), some (.int st), y4, y5, z6] ∧ H2 p = some (.lst (ds.map V.int)) ∧ Draws ds ∧ ds.length ≤ 60 * (i + 1) ∧ 0 ≤ st ∧ st < 2147483647 := fun y6 => ⟨sm2, ds2, st2, _, _, _, rfl, hp2, hds2, by omega, st0, st1⟩
          refine ⟨_, rfl, _, _, rfl, rfl, ⟨by decide, by decide, by decide⟩, _, _, rfl, rfl, _, rfl, ?_⟩
          have rest : ∀ {b : Bool} {X Y : Prop}, X → Y → (if b = true then X else Y) := fun {b X Y} hx hy => by cases b <;> simp [hx, hy]
          have e0 : (0 : Int) < 1009 := by decide
          have m0 : 0 ≤ nu2 % 1009 := Int.emod_nonneg _ (by decide)
          have m1 : nu2 % 1009 < 1009 := Int.emod_lt_of_pos _ (by decide)
          have few : (ds2.map V.int).length < sizeLine := by
            rw [List.length_map]
            exact Nat.lt_of_lt_of_le (show ds2.length < 10000 by omega) (by decide)
          have cds : CDiv nu2 1009 := ⟨by decide, by decide⟩
          refine rest ⟨_, rfl, rfl, _, rfl, rest ((if_pos rfl).mpr (out _)) ⟨_, rfl, rfl, _, rfl, rest (out _) ?_⟩⟩ ((if_neg Bool.false_ne_true).mpr ⟨_, rfl, rfl, _, rfl, rest (out _) ?_⟩)
          all_goals
            refine ⟨_, rfl, .inl ⟨rfl, _, .inl (.inl hp2)⟩, _, rfl, _, _, rfl, rfl, e0, p, _, _, rfl, rfl, hp2, few, ?_⟩
            refine ⟨_, rfl, _, _, rfl, rfl, cds, up sm2, ds2 ++ [nu2 % 1009], nu2 / 1009, _, rfl, ?_, hds2.snoc m0 m1, by rw [List.length_append]; show ds2.length + 1 ≤ _; omega, Int.ediv_nonneg nn2 (by decide)⟩
            rw [List.map_append]
            exact upd_same
        · obtain ⟨sm2, ds2, nu2, y6, rfl, hp2, hds2, hlen2, nn2⟩ := hP
          exact ⟨sm2, ds2, st2, _, _, _, rfl, hp2, hds2, by omega, st0, st1⟩
    · obtain ⟨sm, ds, st, y4, y5, y6, rfl, hp, hds, hlen, h0, h1⟩ := hP
      rw [List.length_map] at hlen
      have hlen : ds.length ≤ 9000 := by omega
      have lenD : (ds.map V.int).length = ds.length := List.length_map ..
      have em : (if (260 : Int) - ((ds.map V.int).length : Nat) > 1 then (260 : Int) - ((ds.map V.int).length : Nat) else 1) = ((max 1 (260 - ds.length) : Nat) : Int) := by
        rw [lenD]
        split <;> omega
      have few : max 1 (260 - ds.length) ≤ 260 := by omega
      have pos : 1 ≤ max 1 (260 - ds.length) := Nat.le_max_left _ _
      refine ⟨_, rfl, _, rfl, p, _, rfl, .inl (.inl (.inl hp)), _, _, rfl, rfl, 1, _, rfl, ((max 1 (260 - ds.length) : Nat) : Int), congrArg (fun i : Int => [V.int i]) em, by omega, by omega, ?_⟩
      refine for_range (lo := 0) (n := max 1 (260 - ds.length)) (fun j σ H' => Same H H' ∧ ∃ (ds2 : List Int) (st : Int) (y4 y5 y6 : Option V), σ = [some (.ref a), some (.int 260), some (.ref p), some (.int st), y4, y5, y6] ∧ H' p = some (.lst (ds2.map V.int)) ∧ Draws ds2 ∧ ds2.length = ds.length + j ∧ 0 ≤ st ∧ st < 2147483647)
        ⟨sm, ds, st, _, _, _, rfl, hp, hds, rfl, h0, h1⟩ (fun j σ H2 hj hP => ?_) fun σ H2 hP => ?_
      · obtain ⟨sm2, ds2, st2, y4, y5, y6, rfl, hp2, hds2, hlen2, g0, g1⟩ := hP
        have e0 : (0 : Int) < 1009 := by decide
        have e1 : (0 : Int) < 2147483647 := by decide
        have e2 : (0 : Int) < 2039 := by decide
        refine ⟨_, rfl, _, _, rfl, rfl, .inr ⟨by decide, by decide⟩, _, _, rfl, rfl, _, _, rfl, rfl, e1, ?_⟩
        obtain ⟨s3, e3⟩ : ∃ s : Int, s = (st2 * 69621 + 5) % 2147483647 := ⟨_, rfl⟩
        have k0 : 0 ≤ s3 := by rw [e3]; exact Int.emod_nonneg _ (by decide)
        have k1 : s3 < 2147483647 := by rw [e3]; exact Int.emod_lt_of_pos _ (by decide)
        have cd : ∀ i, CDiv i 8 := fun i => ⟨by decide, by decide⟩
        have few2 : (ds2.map V.int).length < sizeLine := by
          rw [List.length_map]
          exact Nat.lt_of_lt_of_le (show ds2.length < 10000 by omega) (by decide)
        refine ⟨_, rfl, .inl ⟨rfl, _, .inl (.inl hp2)⟩, _, rfl, _, _, rfl, rfl, cd _, _, rfl, _, _, rfl, rfl, e2, _, _, rfl, rfl, .inr ⟨by decide, by decide⟩, _, _, rfl, rfl, _, _, rfl, rfl, e0, p, _, _, rfl, rfl, hp2, few2, ?_⟩
        refine ⟨up sm2, ds2 ++ [(s3 / 8 + s3 % 2039 * 7) % 1009], s3, _, _, _, by rw [e3]; rfl, ?_, hds2.snoc (Int.emod_nonneg _ (by decide)) (Int.emod_lt_of_pos _ (by decide)), by rw [List.length_append]; show ds2.length + 1 = _; omega, k0, k1⟩
        rw [List.map_append, e3]
        exact upd_same
      · obtain ⟨sm2, ds2, st2, y4, y5, y6, rfl, hp2, hds2, hlen2, g0, g1⟩ := hP
        exact ⟨_, rfl, q _ p ds2 sm2 np hp2 (fun e => by rw [e] at hlen2; simp at hlen2; omega) hds2 (by omega)⟩
end
end K77

set_option maxRecDepth 100000
set_option maxHeartbeats 4000000
/-! K8S: _law_stays. -/
namespace K77
open PySem PySem.Spec PyProof.Rows L2 KG TL

def rIsC (a : Addr) (cls : Value) : List V → Hp → VK → Prop := fun xs H Q => ∃ D, cls = .ref D ∧ xs = [.ref a, .ref D] ∧ Q (.bl true) H
theorem call_isC {X : Cx} {a : Addr} {cls : Value} {d : Option Addr} {oe : Obj} {pn : List (Addr × Obj)} (hz : Zc cls d oe) : CallR (X.suite a ((a, oe) :: pn)) (.builtin "isinstance") (rIsC a cls) := by
  intro pins s σ H xs us Q I r h
  obtain ⟨D, rfl, e, q⟩ := h
  exact call_isS hz pins s σ H xs us Q I r ⟨e, q⟩
theorem no_if {z rl : Str} {ls : List Ln} {B : Nat} (s : St z rl ls B) : ("if" : Str) ∉ swOf ls := fun m => by
  have k := (s.bk.nms.ok _ m).1.kw
  rw [show inV (.str "if") keywordsV = true by decide +kernel] at k
  cases k
section
variable {P : Program} {w : World} {K : PySem.W.Frag} {mg : Str → Option Value} {base : Heap}
def spStays (K : PySem.W.Frag) (C : Addr) : Sp := fun vs H Q _ => ∃ (x n pa fu l : Addr) (ps fs es : List V) (z rl z' rl' : Str) (ls ls' : List Ln), vs = [.ref x, .ref l] ∧ DeskAt C H x n pa fu ps fs ∧ ps.length ≤ 1000 ∧ SqT K H n [.str z, .str rl] ∧ Now z rl ls ∧
  H l = some (.lst es) ∧ es.length ≤ 10 ∧ Path K H es z rl ls (.ok z' rl' ls') ∧ ("if" : Str) ∉ swOf ls' ∧ ∀ H', Same H H' → Q (.bl true) H'
theorem ok_law_stays (T : Tx K mg) (U : Ux P K mg T) : FnQ P w K mg base (L2.CX P w) 27 T.a_law_stays T.f_law_stays ["desk", "edits"] (spStays K T.A_Desk) := by
  refine okQ T.F_law_stays sc_law_stays (fun vs H Q E h => ?_) (fun cdv A outer s0 H vs Q E hr h => ?_)
  · obtain ⟨x, n, pa, fu, l, ps, fs, es, z, rl, z', rl', ls, ls', rfl, _⟩ := h
    rfl
  · obtain ⟨x, n, pa, fu, l, ps, fs, es, z, rl, z', rl', ls, ls', rfl, hd, lp, hn, N, hl, few, hpath, hif, q⟩ := h
    refine ⟨_, qss_cons (QS.of (ps_set (i := 2) sc_law_stays.nd rfl (.inl rfl) pe_int))
      (qss_cons (qs_try (i := 3) (c := .ref T.A_ProductError) rfl rfl sc_law_stays.nd rfl rfl ⟨by rfl, by decide, .inl T.m_ProductError⟩
        (fun W pn xe tk po => qss_one (qs_expr (qe_methS (pv 0) T.C_Desk T.M_Desk_apply (ok_Desk_apply T U) hr T.B_Desk_apply (fun σ => passAt tk σ) (QA.of (pa_cons (pe_op op_cat (pv 1) (pe_lst (pa_cons (pe_tup (pa_cons pe_str (pa_cons pe_int (pa_cons pe_int (pa_cons pe_str pa_nil))))) pa_nil))) pa_nil)))))
        (fun a oe cls d pn hz _ => pss_one (ps_set (i := 2) sc_law_stays.nd rfl (.inl rfl) (pe_op op_add (pv 2) (pe_callTy call_int1 (by rfl) T.b_int (by decide +kernel) (pa_cons (pe_callB (call_isC hz) (by rfl) T.b_isinstance (by decide +kernel) (pa_cons (pv 3) (pa_cons (pe_gref (by rfl) T.m_BadEdit) pa_nil))) pa_nil))))))
      (qss_cons (qs_try (i := 3) (c := .ref T.A_ProductError) rfl rfl sc_law_stays.nd rfl rfl ⟨by rfl, by decide, .inl T.m_ProductError⟩
        (fun W pn xe tk po => qss_one (qs_expr (qe_methS (pv 0) T.C_Desk T.M_Desk_apply (ok_Desk_apply T U) hr T.B_Desk_apply (fun σ => passAt tk σ) (QA.of (pa_cons (pe_op op_cat (pv 1) (pe_lst (pa_cons (pe_tup (pa_cons pe_str (pa_cons pe_str pa_nil))) pa_nil))) pa_nil)))))
        (fun a oe cls d pn hz _ => pss_one (ps_set (i := 2) sc_law_stays.nd rfl (.inl rfl) (pe_op op_add (pv 2) (pe_callTy call_int1 (by rfl) T.b_int (by decide +kernel) (pa_cons (pe_callB (call_isC hz) (by rfl) T.b_isinstance (by decide +kernel) (pa_cons (pv 3) (pa_cons (pe_gref (by rfl) T.m_UnknownSwitch) pa_nil))) pa_nil))))))
      (qss_one (QS.of (ps_ret (pe_cmpR op_eq (pv 2) pe_int (nomark _))))))), ?_⟩
    have one : 1 ≤ sizeLine := by decide
    have two : 2 ≤ sizeLine := by decide
    have four : 4 ≤ sizeLine := by decide
    obtain ⟨dx, hx⟩ := hd.at_
    refine ⟨_, rfl, x, dx, _, rfl, hx, rfl, _, rfl, four, fun q1 n1 => ⟨one, fun q2 n2 => ⟨l, q2, es, _, rfl, rfl, same_upd n2 _ _ (same_upd n1 _ _ hl), upd_same, by show es.length + 1 ≤ sizeLine; exact Nat.le_trans (by omega) (by decide : 11 ≤ sizeLine), fun p np => ?_⟩⟩⟩
    have e1 := same_upd (o := .tup [.str "replace", .int 1, .int 0, .str ""]) n1
    have e2 := same_upd (o := .lst [.ref q1]) n2
    have e3 := same_upd (o := .lst (es ++ [.ref q1])) np
    have ss := e1.trans (e2.trans e3)
    refine ⟨x, n, pa, fu, p, ps, fs, _, z, rl, ls, .bad, rfl, hd.oth (L := []) (same_oth ss) (by simp) (by simp) (by simp), lp, (same_tups ss).seqT hn, N, .inl (.inl upd_same), (hpath.keep (same_tups ss)).app (.bad ⟨q1, rfl, .inl (.inl (e3 _ _ (e2 _ _ upd_same)))⟩), fun H1 s1 => ⟨U.eB, fun a na => ?_⟩⟩
    refine ⟨_, rfl, _, rfl, T.A_BadEdit, rfl, rfl, .inr ⟨true, rfl, _, _, rfl, rfl, ?_⟩⟩
    have ss1 := ss.trans s1
    clear e1 e2 e3 ss s1 n1 n2 np
    obtain ⟨dx, hx⟩ : ∃ dx, H1 x = some (.ins T.A_Desk dx (dk n pa fu)) := ⟨dx, ss1 _ _ hx⟩
    refine ⟨_, rfl, x, dx, _, rfl, hx, rfl, _, rfl, two, fun q1 n1 => ⟨one, fun q2 n2 => ⟨l, q2, es, _, rfl, rfl, same_upd n2 _ _ (same_upd n1 _ _ (ss1 _ _ hl)), upd_same, by show es.length + 1 ≤ sizeLine; exact Nat.le_trans (by omega) (by decide : 11 ≤ sizeLine), fun p np => ?_⟩⟩⟩
    have e1 := same_upd (o := .tup [.str "turn", .str "if"]) n1
    have e2 := same_upd (o := .lst [.ref q1]) n2
    have e3 := same_upd (o := .lst (es ++ [.ref q1])) np
    have ss := ss1.trans (e1.trans (e2.trans e3))
    refine ⟨x, n, pa, fu, p, ps, fs, _, z, rl, ls, .unk, rfl, hd.oth (L := []) (same_oth ss) (by simp) (by simp) (by simp), lp, (same_tups ss).seqT hn, N, .inl (.inl upd_same), (hpath.keep (same_tups ss)).app (.unk ⟨q1, rfl, .inl (.inl (e3 _ _ (e2 _ _ upd_same)))⟩ hif), fun H2 d2 s2 => ⟨U.eU, fun a na => ?_⟩⟩
    refine ⟨_, rfl, _, rfl, T.A_UnknownSwitch, rfl, rfl, .inr ⟨true, rfl, _, _, rfl, rfl, ?_⟩⟩
    refine ⟨_, rfl, rfl, ?_⟩
    exact q _ (ss.trans s2)
end
end K77

set_option maxRecDepth 100000
set_option maxHeartbeats 4000000
/-! K8T: the law's state. -/
namespace K77
open PySem PySem.Spec PyProof.Rows L2 KG TL

/-- lists and instances -/
def Mt (H : Hp) (s : Addr) : Prop := (∃ xs, H s = some (.lst xs)) ∨ ∃ C dx fs, H s = some (.ins C dx fs)
theorem Mt.has {H : Hp} {s : Addr} (h : Mt H s) : H s ≠ none := by
  rcases h with ⟨xs, e⟩ | ⟨C, dx, fs, e⟩ <;> rw [e] <;> intro z <;> cases z
theorem Mt.oth {H H' : Hp} {L : List Addr} {s : Addr} (h : Mt H s) (o : Oth L H H') (n : s ∉ L) : Mt H' s := by
  rcases h with ⟨xs, e⟩ | ⟨C, dx, fs, e⟩
  · exact .inl ⟨xs, o _ _ n e⟩
  · exact .inr ⟨C, dx, fs, o _ _ n e⟩
theorem tup_out {K : PySem.W.Frag} {H : Hp} {S : List Addr} {p : Addr} {xs : List V} (h : SqT K H p xs) (m : ∀ s ∈ S, Mt H s) : SqT K (hide S H) p xs := by
  rcases h with (h | ⟨o, h⟩) | h
  · refine .inl (.inl ((hide_off fun z => ?_).trans h))
    rcases m p z with ⟨ys, e⟩ | ⟨C, dx, fs, e⟩ <;> rw [e] at h <;> cases h
  · refine .inl (.inr ⟨o, (hide_off fun z => ?_).trans h⟩)
    rcases m p z with ⟨ys, e⟩ | ⟨C, dx, fs, e⟩ <;> rw [e] at h <;> cases h
  · exact .inr h
theorem Dr.step {H H' : Hp} {d t : Addr} {S L N : List Addr} (D : Dr H d t S) (o : Oth L H H') (hL : ∀ b ∈ L, b ∈ S) (ht : t ∉ L) (hN : ∀ b ∈ N, H b = none) (all : ∀ b ∈ N ++ L, H' b ≠ none) : Dr H' d t (N ++ S) ∧ Same (hide S H) (hide (N ++ S) H') := by
  have s : Same (hide S H) (hide (N ++ S) H') := fun b x e => by
    obtain ⟨n, e⟩ := hide_get e
    refine (hide_off fun z => ?_).trans (o b x (fun z => n (hL b z)) e)
    rcases List.mem_append.mp z with z | z
    · rw [hN b z] at e
      cases e
    · exact n z
  obtain ⟨ns, hd, h1⟩ := D.draws
  obtain ⟨k, hk⟩ := D.cell
  refine ⟨⟨⟨k, o _ _ ht hk⟩, List.mem_append_right _ D.t_in, ⟨ns, s _ _ hd, h1⟩, fun x hx => ?_⟩, s⟩
  rcases List.mem_append.mp hx with hx | hx
  · exact all x (List.mem_append_left _ hx)
  · by_cases z : x ∈ L
    · exact all x (List.mem_append_right _ z)
    · exact o.there z (D.all x hx)
theorem Sys.mt {K : PySem.W.Frag} {C : Addr} {H : Hp} {S : List Addr} {x pa fu lp lf : Addr} {e : En} {ps fs : List En} {B : Nat} (s : Sys K C H S x pa fu lp lf e ps fs B) : ∀ b ∈ five x pa fu lp lf, Mt H b := fun b hb => by
  obtain ⟨dx, hx⟩ := s.desk.at_
  simp only [five, List.mem_cons, List.not_mem_nil, or_false] at hb
  rcases hb with rfl | rfl | rfl | rfl | rfl
  · exact .inr ⟨_, _, _, hx⟩
  · exact .inl ⟨_, s.desk.past⟩
  · exact .inl ⟨_, s.desk.fut⟩
  · exact .inl ⟨_, s.past⟩
  · exact .inl ⟨_, s.fut⟩
structure Big (K : PySem.W.Frag) (C : Addr) (H : Hp) (d t : Addr) (S : List Addr) (x pa fu lp lf : Addr) (e : En) (ps fs : List En) (B : Nat) : Prop where
  dr : Dr H d t S
  sys : Sys K C H S x pa fu lp lf e ps fs B
  mt : ∀ s ∈ S, Mt H s
  far : t ∉ five x pa fu lp lf
theorem Sys.mono {K : PySem.W.Frag} {C : Addr} {H : Hp} {S : List Addr} {x pa fu lp lf : Addr} {e : En} {ps fs : List En} {B B' : Nat} (s : Sys K C H S x pa fu lp lf e ps fs B) (l : B ≤ B') : Sys K C H S x pa fu lp lf e ps fs B' :=
  ⟨s.desk, s.past, s.fut, s.now.mono l, fun y h => (s.ps_ok y h).mono l, fun y h => (s.fs_ok y h).mono l, s.hid, s.nd⟩
theorem Big.mono {K : PySem.W.Frag} {C : Addr} {H : Hp} {d t : Addr} {S : List Addr} {x pa fu lp lf : Addr} {e : En} {ps fs : List En} {B B' : Nat} (s : Big K C H d t S x pa fu lp lf e ps fs B) (l : B ≤ B') : Big K C H d t S x pa fu lp lf e ps fs B' := ⟨s.dr, s.sys.mono l, s.mt, s.far⟩
theorem Big.roll {K : PySem.W.Frag} {C : Addr} {H H' : Hp} {d t : Addr} {S : List Addr} {x pa fu lp lf : Addr} {e : En} {ps fs : List En} {B : Nat} (s : Big K C H d t S x pa fu lp lf e ps fs B) (r : Rolls t H H') : Big K C H' d t S x pa fu lp lf e ps fs B := by
  have far := s.far
  have ne : ∀ b ∈ five x pa fu lp lf, b ∉ [t] := fun b hb z => far (List.mem_singleton.mp z ▸ hb)
  have g := r.hide s.dr.t_in
  refine ⟨s.dr.roll r, ⟨s.sys.desk.oth r.1 (ne _ (by simp [five])) (ne _ (by simp [five])) (ne _ (by simp [five])), r.1 _ _ (ne _ (by simp [five])) s.sys.past, r.1 _ _ (ne _ (by simp [five])) s.sys.fut, s.sys.now.keep g, fun y h => (s.sys.ps_ok y h).keep g, fun y h => (s.sys.fs_ok y h).keep g, s.sys.hid, s.sys.nd⟩, fun b hb => ?_, far⟩
  by_cases z : b = t
  · obtain ⟨k, hk⟩ := r.2
    rw [z]
    exact .inl ⟨_, hk⟩
  · exact (s.mt b hb).oth r.1 (fun h => z (List.mem_singleton.mp h))
theorem Big.same {K : PySem.W.Frag} {C : Addr} {H H' : Hp} {d t : Addr} {S : List Addr} {x pa fu lp lf : Addr} {e : En} {ps fs : List En} {B : Nat} (s : Big K C H d t S x pa fu lp lf e ps fs B) (r : Same H H') : Big K C H' d t S x pa fu lp lf e ps fs B := s.roll (.same s.dr r)
theorem Big.turn {K : PySem.W.Frag} {C : Addr} {H H' : Hp} {d t : Addr} {S : List Addr} {x pa fu lp lf : Addr} {e e' : En} {ps fs ps' fs' : List En} {B : Nat} (s : Big K C H d t S x pa fu lp lf e ps fs B) (o : Oth (five x pa fu lp lf) H H') (s' : Sys K C H' S x pa fu lp lf e' ps' fs' B) :
    Big K C H' d t S x pa fu lp lf e' ps' fs' B ∧ Same (hide S H) (hide S H') := by
  obtain ⟨D', sm⟩ := s.dr.step (N := []) o s.sys.hid s.far (fun b h => (by cases h)) (fun b h => (s'.mt b h).has)
  refine ⟨⟨D', s', fun b hb => ?_, s.far⟩, sm⟩
  by_cases z : b ∈ five x pa fu lp lf
  · exact s'.mt b z
  · exact (s.mt b hb).oth o z
theorem Big.deed {K : PySem.W.Frag} {C : Addr} {H H' : Hp} {d t : Addr} {S : List Addr} {x pa fu lp lf fu' lf' a' p : Addr} {e : En} {ps fs : List En} {B B' : Nat} {z rl : Str} {ls : List Ln} (s : Big K C H d t S x pa fu lp lf e ps fs B) (o : Oth [x, pa, lp] H H')
    (n1 : H fu' = none) (n2 : H lf' = none) (n3 : lf' ≠ fu') (hd : DeskAt C H' x p pa fu' (rms ps ++ [.ref e.m]) []) (hp : H' lp = some (.lst (ras ps ++ [.ref e.a]))) (hf : H' lf' = some (.lst []))
    (hn : NowAt K (hide S H) a' z rl ls) (ht : SqT K H' p [.str z, .str rl]) (st : St z rl ls B') (l : B ≤ B') :
    Big K C H' d t (lf' :: fu' :: S) x pa fu' lp lf' ⟨a', p, z, rl, ls⟩ (ps ++ [e]) [] B' ∧ Same (hide S H) (hide (lf' :: fu' :: S) H') := by
  obtain ⟨dx, hx⟩ := hd.at_
  have far := s.far
  have has := s.mt
  have hid := s.sys.hid
  have nd := s.sys.nd
  have nof : ∀ {b : Addr}, b ∈ S → b ≠ fu' ∧ b ≠ lf' := fun hb => ⟨fun z => (has _ hb).has (by rw [z]; exact n1), fun z => (has _ hb).has (by rw [z]; exact n2)⟩
  have hL : ∀ b ∈ [x, pa, lp], b ∈ S := fun b hb => hid b (by simp only [five, List.mem_cons, List.not_mem_nil, or_false] at hb ⊢; rcases hb with h | h | h <;> simp [h])
  have mL : ∀ b ∈ [x, pa, lp], Mt H' b := fun b hb => by
    simp only [List.mem_cons, List.not_mem_nil, or_false] at hb
    rcases hb with rfl | rfl | rfl
    · exact .inr ⟨_, _, _, hx⟩
    · exact .inl ⟨_, hd.past⟩
    · exact .inl ⟨_, hp⟩
  have mN : ∀ b ∈ [lf', fu'], Mt H' b := fun b hb => by
    simp only [List.mem_cons, List.not_mem_nil, or_false] at hb
    rcases hb with rfl | rfl
    · exact .inl ⟨_, hf⟩
    · exact .inl ⟨_, hd.fut⟩
  have tL : t ∉ [x, pa, lp] := fun h => far (by simp only [five, List.mem_cons, List.not_mem_nil, or_false] at h ⊢; rcases h with h | h | h <;> simp [h])
  obtain ⟨D', sm⟩ := s.dr.step (N := [lf', fu']) o hL tL (fun b hb => by
      simp only [List.mem_cons, List.not_mem_nil, or_false] at hb
      rcases hb with rfl | rfl
      · exact n2
      · exact n1) (fun b hb => by
      rcases List.mem_append.mp hb with hb | hb
      · exact (mN b hb).has
      · exact (mL b hb).has)
  have mt : ∀ b ∈ lf' :: fu' :: S, Mt H' b := fun b hb => by
    rcases List.mem_append.mp (show b ∈ [lf', fu'] ++ S from hb) with hb | hb
    · exact mN b hb
    · by_cases z : b ∈ [x, pa, lp]
      · exact mL b z
      · exact (has b hb).oth o z
  have up : ∀ y : En, y.ok K (hide S H) B → y.ok K (hide (lf' :: fu' :: S) H') B' := fun y h => (h.keep sm).mono l
  obtain ⟨⟨m1, m2, m3, m4⟩, ⟨m5, m6, m7⟩, ⟨m8, m9⟩, m10⟩ : (x ≠ pa ∧ x ≠ fu ∧ x ≠ lp ∧ x ≠ lf) ∧ (pa ≠ fu ∧ pa ≠ lp ∧ pa ≠ lf) ∧ (fu ≠ lp ∧ fu ≠ lf) ∧ lp ≠ lf := by
    simpa [five] using nd
  have a1 := nof (hL x (by simp))
  have a2 := nof (hL pa (by simp))
  have a3 := nof (hL lp (by simp))
  have at' := nof s.dr.t_in
  refine ⟨⟨D', ⟨?_, ?_, hf, ⟨hn.keep sm, tup_out ht mt, st⟩, fun y hy => ?_, fun y hy => (by cases hy), fun b hb => ?_, ?_⟩, mt, ?_⟩, sm⟩
  · rw [rms_snoc]
    exact hd
  · rw [ras_snoc]
    exact hp
  · rcases List.mem_append.mp hy with hy | hy
    · exact up y (s.sys.ps_ok y hy)
    · rw [List.mem_singleton.mp hy]
      exact up e s.sys.now
  · simp only [five, List.mem_cons, List.not_mem_nil, or_false] at hb
    rcases hb with rfl | rfl | rfl | rfl | rfl
    · exact .tail _ (.tail _ (hL _ (by simp)))
    · exact .tail _ (.tail _ (hL _ (by simp)))
    · exact .tail _ (.head _)
    · exact .tail _ (.tail _ (hL _ (by simp)))
    · exact .head _
  · simp [five, m1, m3, m6, a1.1, a1.2, a2.1, a2.2, a3.2, a3.1.symm, n3.symm]
  · intro h
    simp only [five, List.mem_cons, List.not_mem_nil, or_false] at h
    rcases h with h | h | h | h | h
    · exact tL (by simp [h])
    · exact tL (by simp [h])
    · exact at'.1 h
    · exact tL (by simp [h])
    · exact at'.2 h
/-- what of the other desk stays -/
structure Rest (K : PySem.W.Frag) (C : Addr) (G : Hp) (x n pa fu a : Addr) (z rl : Str) (us : List V) : Prop where
  desk : DeskAt C G x n pa fu [] []
  tup : SqT K G n [.str z, .str rl]
  first : SqL K G a (.str z :: .str rl :: us)
theorem Rest.keep {K : PySem.W.Frag} {C : Addr} {G G' : Hp} {x n pa fu a : Addr} {z rl : Str} {us : List V} (r : Rest K C G x n pa fu a z rl us) (s : Same G G') : Rest K C G' x n pa fu a z rl us :=
  ⟨r.desk.oth (L := []) (same_oth s) (by simp) (by simp) (by simp), (same_tups s).seqT r.tup, s.seq r.first⟩
end K77

set_option maxRecDepth 100000
set_option maxHeartbeats 8000000
/-! K8U: law. -/
namespace KG
open PySem PySem.Spec PyProof.Rows L2
def tCutQ (t u : TS) : TS := fun D σ H => ∃ Mid : L2.St → Hp → Prop, t { D with nx := Mid } σ H ∧ ∀ σ' H', Mid σ' H' → u D σ' H'
/-- a statement, then the rest, with a word between them -/
theorem qss_cut {X : Cx} {st : Stmt} {rest : List Stmt} {t u : TS} (h1 : QS X st t) (h2 : QSs X rest u) : QSs X (st :: rest) (tCutQ t u) := by
  refine ⟨fun pins s σ H D I h => ?_⟩
  obtain ⟨Mid, hm, hu⟩ := h
  rw [execs_cons]
  refine qbind (qthn (h1.run pins s σ H { D with nx := Mid } I hm) fun f s1 q => ?_)
  cases f with
  | next => exact let ⟨σ', H', I', q'⟩ := q; h2.run pins s1 σ' H' D I' (hu σ' H' q')
  | ret v => exact qpure q
  | brk => exact qpure q
  | cont => exact qpure q
end KG
namespace K77
open PySem PySem.Spec PyProof.Rows L2 KG TL

theorem path_one {K : PySem.W.Frag} {H : Hp} {v : V} {z rl z' rl' : Str} {ls ls' : List Ln} (p : Path K H [v] z rl ls (.ok z' rl' ls')) : ∃ ed, EdAt K H ed v ∧ EdOk ed z rl ls z' rl' ls' := by
  cases p with
  | cons h ok rest =>
    cases rest
    exact ⟨_, h, ok⟩
theorem upd_has {H : Hp} {b c : Addr} {o : HO} (h : H b ≠ none) : upd H c o b ≠ none := by
  by_cases z : b = c
  · rw [z, upd_same]
    intro e
    cases e
  · rw [upd_ne z]
    exact h
section
variable {P : Program} {w : World} {K : PySem.W.Frag} {mg : Str → Option Value} {base : Heap}
def spLaw (K : PySem.W.Frag) : Sp := fun vs H Q _ => ∃ (a : Addr) (ns : List Int), vs = [.ref a] ∧ SqL K H a (ns.map V.int) ∧ ns.length ≤ 150 ∧ ∀ H', Q (.bl true) H'
theorem ok_law (T : Tx K mg) (U : Ux P K mg T) : FnQ P w K mg base (L2.CX P w) 28 T.a_law T.f_law ["script"] (spLaw K) := by
  refine okQ T.F_law sc_law (fun vs H Q E h => ?_) (fun cdv A outer s0 H vs Q E hr h => ?_)
  · obtain ⟨a, ns, rfl, _⟩ := h
    rfl
  · obtain ⟨a, ns, rfl, ha, hl, q⟩ := h
    have hr1 : Room 1 _ := hr.mono (by decide)
    refine ⟨_, (qss_cons (QS.of (ps_set (i := 1) sc_law.nd rfl (.inl rfl) (pe_call (ok_law_draws T) hr1 (by rfl) T.m_law_draws T.F_law_draws.kp T.B_law_draws .nil pass0 (pa_cons (pv 0) (pa_cons pe_int pa_nil)))))
  (qss_cons (QS.of (ps_set (i := 2) sc_law.nd rfl (.inl rfl) (pe_lst (pa_cons pe_int pa_nil))))
  (qss_cons (QS.of (ps_set (i := 3) sc_law.nd rfl (.inl rfl) (pe_call (ok_law_names T) (hr.mono (by decide)) (by rfl) T.m_law_names T.F_law_names.kp T.B_law_names .nil pass0 (pa_cons (pv 1) (pa_cons (pv 2) pa_nil)))))
  (qss_cons (QS.of (ps_set (i := 4) sc_law.nd rfl (.inl rfl) (pe_call (ok_law_lines T) (hr.mono (by decide)) (by rfl) T.m_law_lines T.F_law_lines.kp T.B_law_lines .nil pass0 (pa_cons (pv 1) (pa_cons (pv 2) (pa_cons (pv 3) pa_nil))))))
  (qss_cons (QS.of (ps_set (i := 5) sc_law.nd rfl (.inl rfl) (pe_lst (pa_cons (pe_op op_add_str (pe_op op_add_str (pe_op op_add_str (pe_call (ok_law_piece T) (hr.mono (by decide)) (by rfl) T.m_law_piece T.F_law_piece.kp T.B_law_piece .nil pass0 (pa_cons (pv 1) (pa_cons (pv 2) (pa_cons (pv 3) pa_nil)))) pe_str) (pe_call (ok_law_piece T) (hr.mono (by decide)) (by rfl) T.m_law_piece T.F_law_piece.kp T.B_law_piece .nil pass0 (pa_cons (pv 1) (pa_cons (pv 2) (pa_cons (pv 3) pa_nil))))) pe_str) (pa_cons (pe_call (ok_law_book T) (hr.mono (by decide)) (by rfl) T.m_law_book T.F_law_book.kp T.B_law_book .nil pass0 (pa_cons (pv 4) (pa_cons pe_bl (pa_cons (pv 1) (pa_cons (pv 2) pa_nil))))) (pa_cons (pv 4) pa_nil))))))
  (qss_cons (qs_set (i := 6) sc_law.nd rfl (.inl rfl) (qe_make T.K_Desk (ok_Desk_init T) (hr.mono (by decide)) (by rfl) T.m_Desk T.B_Desk_init .nil passE (QA.of (pa_cons (pe_ix ix_list (pv 5) pe_int (fun _ _ => rfl)) (pa_cons (pe_ix ix_list (pv 5) pe_int (fun _ _ => rfl)) pa_nil)))))
  (qss_cons (qs_set (i := 7) sc_law.nd rfl (.inl rfl) (qe_make T.K_Desk (ok_Desk_init T) (hr.mono (by decide)) (by rfl) T.m_Desk T.B_Desk_init .nil passE (QA.of (pa_cons (pe_ix ix_list (pv 5) pe_int (fun _ _ => rfl)) (pa_cons (pe_ix ix_list (pv 5) pe_int (fun _ _ => rfl)) pa_nil)))))
  (qss_cons (QS.of (ps_set (i := 8) sc_law.nd rfl (.inl rfl) (pv 5)))
  (qss_cons (QS.of (ps_set (i := 9) sc_law.nd rfl (.inl rfl) (pe_lst pa_nil)))
  (qss_cons (QS.of (ps_set (i := 10) sc_law.nd rfl (.inl rfl) (pe_lst pa_nil)))
  (qss_cons (QS.of (ps_set (i := 11) sc_law.nd rfl (.inl rfl) (pe_op op_add pe_int (pe_call (ok_law_take T) hr1 (by rfl) T.m_law_take T.F_law_take.kp T.B_law_take .nil pass0 (pa_cons (pv 1) (pa_cons (pv 2) (pa_cons pe_int pa_nil)))))))
  (qss_cut (QS.of (ps_if (pt_cmpR op_eq (pe_call (ok_law_take T) hr1 (by rfl) T.m_law_take T.F_law_take.kp T.B_law_take .nil pass0 (pa_cons (pv 1) (pa_cons (pv 2) (pa_cons pe_int pa_nil)))) pe_int (nomark _)) (pss_one (ps_set (i := 11) sc_law.nd rfl (.inl rfl) pe_int)) pss_nil))
  (qss_cons (qs_for (passes_of rfl) rfl (pi_range1 (by rfl) T.b_range (pa_cons (pv 11) pa_nil)) (pg_name (i := 12) sc_law.nd rfl (.inl rfl))
    (qss_cons (QS.of (ps_set (i := 13) sc_law.nd rfl (.inl rfl) (pe_call (ok_law_take T) hr1 (by rfl) T.m_law_take T.F_law_take.kp T.B_law_take .nil pass0 (pa_cons (pv 1) (pa_cons (pv 2) (pa_cons pe_int pa_nil))))))
    (qss_cons (QS.of (ps_set (i := 14) sc_law.nd rfl (.inl rfl) (pe_call (ok_law_behind T) (hr.mono (by decide)) (by rfl) T.m_law_behind T.F_law_behind.kp T.B_law_behind .nil pass0 (pa_cons (pv 1) (pa_cons (pv 2) (pa_cons (pv 8) pa_nil))))))
    (qss_cut (qs_if (QT.of (pt_cmpR op_lt (pv 13) pe_int (nomark _)))
      (qss_cons (QS.of (ps_set (i := 15) sc_law.nd rfl (.inl rfl) (pe_callTy call_list_of (by rfl) T.b_list (by decide +kernel) (pa_cons (pe_ix ix_list (pv 14) pe_int (fun _ _ => rfl)) pa_nil))))
      (qss_cut (qs_if (QT.of (PW.pt (pw_and (pt_cmpR op_eq (pe_callB call_len_seq (by rfl) T.b_len (by decide +kernel) (pa_cons (pv 15) pa_nil)) pe_int (nomark _)) (pw_and1 (pt_cmpR op_eq (pe_ix ix_tup (pe_ix ix_list (pv 15) pe_int (fun _ _ => rfl)) pe_int (fun _ _ => rfl)) pe_str (nomark _))))))
          (qss_one (qs_expr (qe_meth (pv 6) T.C_Desk T.M_Desk_change_book (ok_Desk_change_book T U) hr T.B_Desk_change_book .nil passE (QA.of (pa_cons (pe_ix ix_tup (pe_ix ix_list (pv 15) pe_int (fun _ _ => rfl)) pe_int (fun _ _ => rfl)) pa_nil)))))
          (qss_one (qs_if (QT.of (PW.pt (pw_and (pt_cmpR op_eq (pe_callB call_len_seq (by rfl) T.b_len (by decide +kernel) (pa_cons (pv 15) pa_nil)) pe_int (nomark _)) (pw_and1 (pt_cmpR op_eq (pe_ix ix_tup (pe_ix ix_list (pv 15) pe_int (fun _ _ => rfl)) pe_int (fun _ _ => rfl)) pe_str (nomark _))))))
            (qss_one (qs_expr (qe_meth (pv 6) T.C_Desk T.M_Desk_replace (ok_Desk_replace T U) hr T.B_Desk_replace .nil passE (QA.of (pa_cons (pe_ix ix_tup (pe_ix ix_list (pv 15) pe_int (fun _ _ => rfl)) pe_int (fun _ _ => rfl)) (pa_cons (pe_ix ix_tup (pe_ix ix_list (pv 15) pe_int (fun _ _ => rfl)) pe_int (fun _ _ => rfl)) (pa_cons (pe_ix ix_tup (pe_ix ix_list (pv 15) pe_int (fun _ _ => rfl)) pe_int (fun _ _ => rfl)) pa_nil)))))))
            (qss_one (qs_expr (qe_meth (pv 6) T.C_Desk T.M_Desk_apply (ok_Desk_apply T U) (hr.mono (by decide)) T.B_Desk_apply .nil passE (QA.of (pa_cons (pv 15) pa_nil))))))))
      (qss_cons (QS.of (ps_expr (pe_bm PySem.F.plainAttrs_list PySem.F.slot_list_append PySem.F.type_list_append mt_append (pv 15) (pa_cons (pe_tup (pa_cons pe_str (pa_cons pe_int (pa_cons pe_int (pa_cons pe_str pa_nil))))) pa_nil))))
      (qss_cons (QS.of (ps_expr (pe_bm PySem.F.plainAttrs_list PySem.F.slot_list_append PySem.F.type_list_append mt_append (pv 9) (pa_cons (pv 8) pa_nil))))
      (qss_cons (QS.of (ps_set (i := 10) sc_law.nd rfl (.inl rfl) (pe_lst pa_nil)))
      (qss_one (QS.of (ps_set (i := 8) sc_law.nd rfl (.inl rfl) (pe_ix ix_list (pv 14) pe_int (fun _ _ => rfl))))))))))
      (qss_one (qs_if (QT.of (pt_cmpR op_lt (pv 13) pe_int (nomark _)))
        (QSs.of (pss_cons (ps_set (i := 16) sc_law.nd rfl (.inl rfl) (pe_ifExp (pt_cmpR op_eq (pe_callB call_len_seq (by rfl) T.b_len (by decide +kernel) (pa_cons (pv 9) pa_nil)) pe_int (nomark _)) (pv 8) (pe_ix ix_list (pv 9) (pe_op op_sub (pe_callB call_len_seq (by rfl) T.b_len (by decide +kernel) (pa_cons (pv 9) pa_nil)) pe_int) (fun _ _ => rfl))))
          (pss_cons (ps_if (pt_not (pt_val (pe_call (ok_law_undone T) (hr.mono (by decide)) (by rfl) T.m_law_undone T.F_law_undone.kp T.B_law_undone .nil pass0 (pa_cons (pv 6) (pa_cons (pv 8) (pa_cons (pv 9) (pa_cons (pv 10) pa_nil))))))) (pss_one (ps_ret pe_bl)) pss_nil) (pss_one (ps_set (i := 8) sc_law.nd rfl (.inl rfl) (pv 16))))))
        (qss_one (qs_if (QT.of (pt_cmpR op_lt (pv 13) pe_int (nomark _)))
          (QSs.of (pss_cons (ps_set (i := 17) sc_law.nd rfl (.inl rfl) (pe_ifExp (pt_cmpR op_eq (pe_callB call_len_seq (by rfl) T.b_len (by decide +kernel) (pa_cons (pv 10) pa_nil)) pe_int (nomark _)) (pv 8) (pe_ix ix_list (pv 10) (pe_op op_sub (pe_callB call_len_seq (by rfl) T.b_len (by decide +kernel) (pa_cons (pv 10) pa_nil)) pe_int) (fun _ _ => rfl))))
            (pss_cons (ps_if (pt_not (pt_val (pe_call (ok_law_redone T) (hr.mono (by decide)) (by rfl) T.m_law_redone T.F_law_redone.kp T.B_law_redone .nil pass0 (pa_cons (pv 6) (pa_cons (pv 8) (pa_cons (pv 9) (pa_cons (pv 10) pa_nil))))))) (pss_one (ps_ret pe_bl)) pss_nil) (pss_one (ps_set (i := 8) sc_law.nd rfl (.inl rfl) (pv 17))))))
          (qss_one (qs_if (qt_not (qt_val (qe_call (ok_law_stays T U) hr (by rfl) T.m_law_stays T.F_law_stays.kp T.B_law_stays .nil passE (QA.of (pa_cons (pv 6) (pa_cons (pe_ix ix_list (pv 14) pe_int (fun _ _ => rfl)) pa_nil)))))) (QSs.of (pss_one (ps_ret pe_bl))) (QSs.of pss_nil))))))))
    (qss_one (QS.of (ps_if (pt_not (pt_val (pe_call (ok_law_now T) (hr.mono (by decide)) (by rfl) T.m_law_now T.F_law_now.kp T.B_law_now .nil pass0 (pa_cons (pv 6) (pa_cons (pv 8) (pa_cons (pv 9) (pa_cons (pv 10) pa_nil))))))) (pss_one (ps_ret pe_bl)) pss_nil)))))))
  (QSs.of (pss_cons (ps_if (pt_not (pt_val (pe_call (ok_law_ended T) (hr.mono (by decide)) (by rfl) T.m_law_ended T.F_law_ended.kp T.B_law_ended .nil pass0 (pa_cons (pv 6) (pa_cons (pv 8) (pa_cons (pv 9) (pa_cons (pv 10) pa_nil))))))) (pss_one (ps_ret pe_bl)) pss_nil)
    (pss_one (ps_ret (pe_and (pe_call (ok_law_now T) (hr.mono (by decide)) (by rfl) T.m_law_now T.F_law_now.kp T.B_law_now .nil pass0 (pa_cons (pv 7) (pa_cons (pv 5) (pa_cons (pe_lst pa_nil) (pa_cons (pe_lst pa_nil) pa_nil))))) (pe_and (pe_call (ok_law_like T 1) (hr.mono (by decide)) (by rfl) T.m_law_like T.F_law_like.kp T.B_law_like .nil pass0 (pa_cons (pe_meth0 (pv 7) T.C_Desk T.M_Desk_undo (ok_Desk_undo T) (hr.mono (by decide)) T.B_Desk_undo .nil pass0) (pa_cons pe_bl pa_nil))) (pe_one (pe_call (ok_law_like T 1) (hr.mono (by decide)) (by rfl) T.m_law_like T.F_law_like.kp T.B_law_like .nil pass0 (pa_cons (pe_meth0 (pv 7) T.C_Desk T.M_Desk_redo (ok_Desk_redo T) (hr.mono (by decide)) T.B_Desk_redo .nil pass0) (pa_cons pe_bl pa_nil))))))))))))))))))))))), ?_⟩
    have one : 1 ≤ sizeLine := by decide
    have three : 3 ≤ sizeLine := by decide
    refine ⟨_, rfl, a, ns, rfl, ha, hl, fun H1 d ds s1 nd hd hne hds hlen => ⟨one, fun t nt => ?_⟩⟩
    clear ha hl s1
    have ndt : d ≠ t := ne_of_none hd nt
    have D : Dr (upd H1 t (.lst [.int 0])) d t [t] := ⟨⟨0, upd_same⟩, .head _, ⟨ds, (hide_off (by simp [ndt])).trans ((upd_ne ndt).trans hd), hne, hds, hlen⟩, fun s hs => by
      rw [List.mem_singleton.mp hs, upd_same]
      intro z
      cases z⟩
    generalize upd H1 t (.lst [.int 0]) = H2 at *
    clear nt hd hne hds hlen nd
    refine ⟨_, rfl, _, rfl, d, t, [t], rfl, D, fun H3 nm nms ro3 hnm B => ?_⟩
    have D3 := D.roll ro3
    have N := B.nms
    refine ⟨_, rfl, _, rfl, _, rfl, d, t, nm, [t], nms, rfl, D3, hnm, B, fun H4 L ls us ro4 nL hL hls bk esw len8 => ?_⟩
    have D4 := D3.roll ro4
    have tin : t ∈ [t] := .head _
    have hnm4 := (ro4.hide tin).seq hnm
    have nLt : L ≠ t := D3.ne nL
    have hL4 : hide [t] H4 L = some (.lst us) := (hide_off (by simp [nLt])).trans hL
    have hls4 := hls
    clear nL hL hls
    refine ⟨_, rfl, _, rfl, _, rfl, d, t, nm, [t], nms, rfl, D4, hnm4, N, fun H5 z1 n1 g1 t1 ro5 m1 ok1 e1 => ?_⟩
    have D5 := D4.roll ro5
    have len1 : z1.length ≤ 30 := by
      rw [len_tl, e1]
      exact pcs_len (N.ok n1 m1).2 ok1.few
    have lenA : ("a " : Str).length = 2 := by decide +kernel
    have lenB : ("b" : Str).length = 1 := by decide +kernel
    refine ⟨_, _, rfl, rfl, Nat.le_trans (by rw [lenA]; omega) (by decide : 7000 ≤ sizeLine), ?_⟩
    refine ⟨_, rfl, _, rfl, _, rfl, d, t, nm, [t], nms, rfl, D5, (ro5.hide tin).seq hnm4, N, fun H6 z2 n2 g2 t2 ro6 m2 ok2 e2 => ?_⟩
    have D6 := D5.roll ro6
    have len2 : z2.length ≤ 30 := by
      rw [len_tl, e2]
      exact pcs_len (N.ok n2 m2).2 ok2.few
    refine ⟨_, _, rfl, rfl, Nat.le_trans (by rw [len_app, lenA]; omega) (by decide : 7000 ≤ sizeLine), _, _, rfl, rfl, Nat.le_trans (by rw [len_app, len_app, lenA, lenB]; omega) (by decide : 7000 ≤ sizeLine), ?_⟩
    have g46 := (ro5.trans ro6).hide tin
    refine ⟨_, rfl, _, rfl, _, rfl, d, t, L, true, [t], ls, us, rfl, D6, .inl (.inl (g46 _ _ hL4)), hls4.keep g46, bk.rows, bk.good.ne, by omega, fun H7 rl ro7 wr _ hne => ⟨_, rfl, three, fun a0 na0 => ?_⟩⟩
    have zl : (z1 ++ "a " ++ z2 ++ "b" : Str).length ≤ 100 := by
      rw [len_app, len_app, len_app, lenA, lenB]
      omega
    have lt : LT (swOf ls) (tl (z1 ++ "a " ++ z2 ++ "b")) := by
      rw [tl_append, tl_append, tl_append, e1, e2, pcs_app, pcs_app, List.nil_append, esw, pcs_app, List.append_assoc, pcs_app, List.nil_append]
      exact .pre m1 (N.ok n1 m1).1 ok1.no ok1.sep (.blk (by decide +kernel) (.inr ⟨[97], 32, by decide +kernel, .inl rfl⟩) m2 (N.ok n2 m2).1 ok2.no ok2.sep (.tail (by decide +kernel)))
    have st : St (z1 ++ "a " ++ z2 ++ "b") rl ls 100 := ⟨zl, lt, wr, hne, bk, by omega⟩
    generalize (z1 ++ "a " ++ z2 ++ "b" : Str) = z at *
    have D7 := D6.roll ro7
    have s8 := same_upd (o := .lst [.str z, .str rl, .ref L]) na0
    have D8 := D7.same s8
    have g48 := (g46.trans (ro7.hide tin)).trans (same_hide (S := [t]) s8)
    have ha8 := hnew (o := .lst [.str z, .str rl, .ref L]) na0 D7.all
    have hL8 := g48 _ _ hL4
    have hls8 := hls4.keep g48
    generalize upd H7 a0 (.lst [.str z, .str rl, .ref L]) = H8 at *
    clear s8 na0 g48 g46 e1 e2 m1 m2 ok1 ok2 len1 len2 zl lt wr hne hls4 hL4 hnm4 hnm D7 D6 D5 D4 D3 D
    have inA : SqL K H8 a0 [.str z, .str rl, .ref L] := .inl (.inl (hide_get ha8).2)
    -- the desk
    refine ⟨_, rfl, a0, _, 0, _, rfl, rfl, inA, atI_nat (j := 0) rfl, _, rfl, a0, _, 1, _, rfl, rfl, inA, atI_nat (j := 1) rfl, ?_⟩
    intro x dx nx ndx hxd
    have sm := same_made (C := T.A_Desk) nx ndx hxd
    refine ⟨x, dx, z, rl, ls, rfl, upd_same, st.now (by decide), fun H9 n pa fu b9 nn npa nfu hdk hn => ⟨rfl, ?_⟩⟩
    have s9 : Same H8 H9 := same_back sm nx b9
    have npa8 := Same.free sm npa
    have nfu8 := Same.free sm nfu
    clear sm b9 nn npa nfu ndx hxd
    obtain ⟨dx, hx⟩ := hdk.at_
    obtain ⟨D9, g9⟩ := D8.step (L := []) (N := [x, pa, fu]) (same_oth s9) (fun b h => by cases h) (by simp) (fun b h => by
        simp only [List.mem_cons, List.not_mem_nil, or_false] at h
        rcases h with rfl | rfl | rfl
        · exact nx
        · exact npa8
        · exact nfu8) (fun b h => by
        simp only [List.append_nil, List.mem_cons, List.not_mem_nil, or_false] at h
        rcases h with rfl | rfl | rfl
        · rw [hx]; intro z; cases z
        · rw [hdk.past]; intro z; cases z
        · rw [hdk.fut]; intro z; cases z)
    -- the other
    have inA9 := s9.seq inA
    refine ⟨_, rfl, a0, _, 0, _, rfl, rfl, inA9, atI_nat (j := 0) rfl, _, rfl, a0, _, 1, _, rfl, rfl, inA9, atI_nat (j := 1) rfl, ?_⟩
    intro x2 dx2 nx2 ndx2 hxd2
    have sm2 := same_made (C := T.A_Desk) nx2 ndx2 hxd2
    refine ⟨x2, dx2, z, rl, ls, rfl, upd_same, st.now (by decide), fun H10 n2 pa2 fu2 b10 nn2 npa2 nfu2 hdk2 hn2 => ⟨rfl, ?_⟩⟩
    have s10 : Same H9 H10 := same_back sm2 nx2 b10
    have npa9 := Same.free sm2 npa2
    have nfu9 := Same.free sm2 nfu2
    clear sm2 b10 nn2 npa2 nfu2 ndx2 hxd2
    have D10 := D9.same s10
    refine ⟨_, rfl, Nat.zero_le _, fun lp nlp => ⟨Nat.zero_le _, fun lf nlf => ?_⟩⟩
    have s11 := same_upd (o := .lst []) nlp
    have s12 := same_upd (o := .lst []) nlf
    have hlp : (upd (upd H10 lp (.lst [])) lf (.lst [])) lp = some (.lst []) := s12 _ _ upd_same
    have hlf : (upd (upd H10 lp (.lst [])) lf (.lst [])) lf = some (.lst []) := upd_same
    have nlf10 := Same.free s11 nlf
    have nlpf : lp ≠ lf := fun e => by
      rw [e, upd_same] at nlf
      cases nlf
    have s1012 := s11.trans s12
    generalize upd (upd H10 lp (.lst [])) lf (.lst []) = H12 at *
    clear s11 s12 nlf
    obtain ⟨D12, g12⟩ := D10.step (L := []) (N := [lp, lf]) (same_oth s1012) (fun b h => by cases h) (by simp) (fun b h => by
        simp only [List.mem_cons, List.not_mem_nil, or_false] at h
        rcases h with rfl | rfl
        · exact nlp
        · exact nlf10) (fun b h => by
        simp only [List.append_nil, List.mem_cons, List.not_mem_nil, or_false] at h
        rcases h with rfl | rfl
        · rw [hlp]; intro z; cases z
        · rw [hlf]; intro z; cases z)
    have g812 := g9.trans ((same_hide s10).trans g12)
    have s912 := s10.trans s1012
    have hdk12 : DeskAt T.A_Desk H12 x n pa fu [] [] := hdk.oth (L := []) (same_oth s912) (by simp) (by simp) (by simp)
    have hdk12b : DeskAt T.A_Desk H12 x2 n2 pa2 fu2 [] [] := hdk2.oth (L := []) (same_oth s1012) (by simp) (by simp) (by simp)
    obtain ⟨kc, hkc⟩ := D12.cell
    have mt12 : ∀ s ∈ [lp, lf] ++ ([x, pa, fu] ++ [t]), Mt H12 s := fun s hs => by
      simp only [List.mem_append, List.mem_cons, List.not_mem_nil, or_false] at hs
      rcases hs with (rfl | rfl) | (rfl | rfl | rfl) | rfl
      · exact .inl ⟨_, hlp⟩
      · exact .inl ⟨_, hlf⟩
      · exact .inr ⟨_, _, _, s912 _ _ hx⟩
      · exact .inl ⟨_, hdk12.past⟩
      · exact .inl ⟨_, hdk12.fut⟩
      · exact .inl ⟨_, hkc⟩
    have tup1 : SqT K (hide ([lp, lf] ++ ([x, pa, fu] ++ [t])) H12) n [.str z, .str rl] := tup_out ((same_tups s912).seqT hn) mt12
    have tup2 : SqT K (hide ([lp, lf] ++ ([x, pa, fu] ++ [t])) H12) n2 [.str z, .str rl] := tup_out ((same_tups s1012).seqT hn2) mt12
    have big : Big K T.A_Desk H12 d t ([lp, lf] ++ ([x, pa, fu] ++ [t])) x pa fu lp lf ⟨a0, n, z, rl, ls⟩ [] [] 100 := by
      refine ⟨D12, ⟨hdk12, hlp, hlf, ⟨⟨L, us, .inl (.inl (g812 _ _ ha8)), g812 _ _ hL8, hls8.keep g812⟩, tup1, st⟩, fun y h => (by cases h), fun y h => (by cases h), fun b hb => ?_, ?_⟩, mt12, ?_⟩
      · simp only [five, List.mem_append, List.mem_cons, List.not_mem_nil, or_false] at hb ⊢
        rcases hb with h | h | h | h | h <;> simp [h]
      · have c1 : x ≠ pa := ne_of hx hdk.past (by intro z; cases z)
        have c2 : x ≠ fu := ne_of hx hdk.fut (by intro z; cases z)
        have hx10 := s10 _ _ hx
        have hpa10 := s10 _ _ hdk.past
        have hfu10 := s10 _ _ hdk.fut
        simp [five, c1, c2, hdk.ne, nlpf, ne_of_none hx10 nlp, ne_of_none hx10 nlf10, ne_of_none hpa10 nlp, ne_of_none hpa10 nlf10, ne_of_none hfu10 nlp, ne_of_none hfu10 nlf10]
      · obtain ⟨k8, hk8⟩ := D8.cell
        obtain ⟨k10, hk10⟩ := D10.cell
        simp [five, ne_of_none hk8 nx, ne_of_none hk8 npa8, ne_of_none hk8 nfu8, ne_of_none hk10 nlp, ne_of_none hk10 nlf10]
    have rest : Rest K T.A_Desk (hide ([lp, lf] ++ ([x, pa, fu] ++ [t])) H12) x2 n2 pa2 fu2 a0 z rl [.ref L] := by
      have off : ∀ b o, H9 b = none → H10 b = some o → hide ([lp, lf] ++ ([x, pa, fu] ++ [t])) H12 b = some o := fun b o n e => (hide_off fun h => by
        rcases List.mem_append.mp h with h | h
        · simp only [List.mem_cons, List.not_mem_nil, or_false] at h
          rcases h with rfl | rfl
          · exact ne_of_none e nlp rfl
          · exact ne_of_none e nlf10 rfl
        · exact fresh_off n D9.all h).trans (s1012 _ _ e)
      obtain ⟨dy, hy⟩ := hdk2.at_
      exact ⟨⟨⟨dy, off _ _ nx2 hy⟩, off _ _ npa9 hdk2.past, off _ _ nfu9 hdk2.fut, hdk2.ne⟩, tup2, .inl (.inl (g812 _ _ ha8))⟩
    have g12t := big.dr.t_in
    generalize ([lp, lf] ++ ([x, pa, fu] ++ [t])) = S at *
    clear D12 g12 mt12 tup1 tup2 hdk12 hdk12b hlp hlf s912 s1012 g812 g9 s9 s10 D8 D9 D10 nx npa8 nfu8 nx2 npa9 nfu9 nlp nlf10 nlpf hdk hdk2 hn hn2 hx hkc ha8 hL8 hls8 inA inA9
    -- many
    refine ⟨_, rfl, _, rfl, d, t, S, 13, rfl, big.dr, by decide, fun H13 r ro13 hr13 => ⟨6, (r : Nat), rfl, rfl, ?_⟩⟩
    refine ⟨fun σ H' => ∃ m : Nat, m ≤ 40 ∧ σ = [some (.ref a), some (.ref d), some (.ref t), some (.ref nm), some (.ref L), some (.ref a0), some (.ref x), some (.ref x2), some (.ref a0), some (.ref lp), some (.ref lf), some (.int (m : Nat)), none, none, none, none, none, none] ∧ Rolls t H12 H', ?_, fun σ H14 hM => ?_⟩
    · refine ⟨_, rfl, _, rfl, d, t, S, 8, rfl, big.dr.roll ro13, by decide, fun H14 c ro14 hc => ⟨rfl, decide (c = 0), congrArg V.bl (by simp), ?_⟩⟩
      by_cases c0 : c = 0
      · rw [decide_eq_true c0]
        exact (if_pos rfl).mpr ⟨40, Nat.le_refl _, rfl, ro13.trans ro14⟩
      · rw [decide_eq_false c0]
        refine (if_neg Bool.false_ne_true).mpr ⟨6 + r, by omega, ?_, ro13.trans ro14⟩
        rfl
    obtain ⟨m, hm, rfl, ro14⟩ := hM
    refine ⟨_, rfl, (m : Int), rfl, by omega, by omega, ?_⟩
    refine for_range (lo := 0) (n := m) (fun i σ H' => ∃ (S : List Addr) (fu lf : Addr) (e : En) (ps fs : List En) (y12 y13 y14 y15 y16 y17 : Option V), σ = [some (.ref a), some (.ref d), some (.ref t), some (.ref nm), some (.ref L), some (.ref a0), some (.ref x), some (.ref x2), some (.ref e.a), some (.ref lp), some (.ref lf), some (.int (m : Nat)), y12, y13, y14, y15, y16, y17] ∧
        Big K T.A_Desk H' d t S x pa fu lp lf e ps fs (100 + 64 * i) ∧ Rest K T.A_Desk (hide S H') x2 n2 pa2 fu2 a0 z rl [.ref L] ∧ ps.length + fs.length ≤ i)
      ⟨S, fu, lf, _, [], [], none, none, none, none, none, none, rfl, big.roll ro14, rest.keep (ro14.hide g12t), Nat.zero_le _⟩ (fun i σ H15 hi hP => ?_) fun σ H15 hP => ?_
    · obtain ⟨S, fu, lf, e, ps, fs, y12, y13, y14, y15, y16, y17, rfl, big, rest, hlen⟩ := hP
      refine ⟨_, rfl, _, rfl, d, t, S, 9, rfl, big.dr, by decide, fun H16 c ro16 hc => ?_⟩
      have big16 := big.roll ro16
      refine ⟨_, rfl, _, rfl, _, rfl, d, t, e.a, S, e.z, e.rl, e.ls, 100 + 64 * i, rfl, big16.dr, big16.sys.now.now, big16.sys.now.st, by omega, fun H17 p l a' es z' rl' ls' ro17 hp hl hlen2 hpath hn' st' => ?_⟩
      have ro' := ro16.trans ro17
      have rest := rest.keep (ro'.hide big.dr.t_in)
      have big := big.roll ro'
      clear big16 ro' ro16 ro17
      have ends : ∀ {H : Hp} {S : List Addr} {a : Addr} {xs : List V}, SqL K (hide S H) a xs → SqL K H a xs := fun h => (hide_same _ _).seq h
      have endt : ∀ {H : Hp} {S : List Addr} {a : Addr} {xs : List V}, SqT K (hide S H) a xs → SqT K H a xs := fun h => (same_tups (hide_same _ _)).seqT h
      obtain ⟨dx, hx⟩ := big.sys.desk.at_
      have lps : (rms ps).length ≤ 1000 := by rw [rms_len]; omega
      refine ⟨fun σ H' => ∃ (S : List Addr) (fu lf : Addr) (e : En) (ps fs : List En) (y12 y13 y14 y15 y16 y17 : Option V), σ = [some (.ref a), some (.ref d), some (.ref t), some (.ref nm), some (.ref L), some (.ref a0), some (.ref x), some (.ref x2), some (.ref e.a), some (.ref lp), some (.ref lf), some (.int (m : Nat)), y12, y13, y14, y15, y16, y17] ∧
        Big K T.A_Desk H' d t S x pa fu lp lf e ps fs (100 + 64 * (i + 1)) ∧ Rest K T.A_Desk (hide S H') x2 n2 pa2 fu2 a0 z rl [.ref L] ∧ ps.length + fs.length ≤ i + 1, ?_, fun σ H18 hM => ?_⟩
      · refine ⟨_, rfl, _, _, rfl, rfl, decide ((c : Int) < 4), rfl, ?_⟩
        by_cases h4 : (c : Int) < 4
        · rw [decide_eq_true h4]
          refine (if_pos rfl).mpr ?_
          have hl17 := (hide_get hl).2
          have far := big.far
          obtain ⟨⟨m1, m2, m3, m4⟩, ⟨m5, m6, m7⟩, ⟨m8, m9⟩, m10⟩ : (x ≠ pa ∧ x ≠ fu ∧ x ≠ lp ∧ x ≠ lf) ∧ (pa ≠ fu ∧ pa ≠ lp ∧ pa ≠ lf) ∧ (fu ≠ lp ∧ fu ≠ lf) ∧ lp ≠ lf := by
            have := big.sys.nd
            simpa [five] using this
          refine ⟨_, rfl, p, _, 0, _, rfl, rfl, ends hp, atI_nat (j := 0) rfl, l, es, rfl, .inl (.inl (.inl hl17)), fun q0 nq0 => ?_⟩
          have s18 := same_upd (o := .lst es) nq0
          have hq18 : (upd H17 q0 (.lst es)) q0 = some (.lst es) := upd_same
          have x0 : q0 ≠ x := (ne_of_none hx nq0).symm
          have pa0 : q0 ≠ pa := (ne_of_none big.sys.desk.past nq0).symm
          have lp0 : q0 ≠ lp := (ne_of_none big.sys.past nq0).symm
          have o18 : ∀ b o, b ≠ q0 → (upd H17 q0 (.lst es)) b = some o → H17 b = some o := fun b o n e => by rw [upd_ne n] at e; exact e
          generalize upd H17 q0 (.lst es) = H18 at *
          have hd18 : DeskAt T.A_Desk H18 x e.m pa fu (rms ps) (rms fs) := big.sys.desk.oth (L := []) (same_oth s18) (by simp) (by simp) (by simp)
          have hx18 := s18 _ _ hx
          have tup18 := (same_tups s18).seqT (endt big.sys.now.tup)
          have now : Now e.z e.rl e.ls := big.sys.now.st.now (by omega)
          have path18 := hpath.keep (same_tups ((hide_same S H17).trans s18))
          have mkI : ∀ {k : Nat}, ((k : Nat) : Int) = ((k : Nat) : Int) := rfl
          refine ⟨fun σ H' => σ = [some (.ref a), some (.ref d), some (.ref t), some (.ref nm), some (.ref L), some (.ref a0), some (.ref x), some (.ref x2), some (.ref e.a), some (.ref lp), some (.ref lf), some (.int (m : Nat)), some (.int (0 + (i : Nat))), some (.int (c : Nat)), some (.ref p), some (.ref q0), y16, y17] ∧
            ∃ p2 fu', Oth [x, pa] H18 H' ∧ H18 fu' = none ∧ DeskAt T.A_Desk H' x p2 pa fu' (rms ps ++ [.ref e.m]) [] ∧ SqT K H' p2 [.str z', .str rl'], ?_, fun σ H19 hM => ?_⟩
          · rcases es with _ | ⟨v, _ | ⟨v2, more⟩⟩
            · refine ⟨_, rfl, q0, _, rfl, .inl (.inl (.inl hq18)), rfl, false, iNe (by decide), (if_neg Bool.false_ne_true).mpr ?_⟩
              refine (if_neg Bool.false_ne_true).mpr ⟨_, rfl, q0, _, rfl, .inl (.inl (.inl hq18)), rfl, false, iNe (by decide), (if_neg Bool.false_ne_true).mpr ?_⟩
              exact (if_neg Bool.false_ne_true).mpr ⟨_, rfl, x, dx, _, rfl, hx18, rfl, _, rfl, x, e.m, pa, fu, q0, _, _, _, e.z, e.rl, e.ls, .ok z' rl' ls', rfl, hd18, lps, tup18, now, .inl (.inl hq18), path18, fun H' p2 fu' o nf hd' ht' => ⟨rfl, p2, fu', o, nf, hd', ht'⟩⟩
            · obtain ⟨ed, hed, hok⟩ := path_one path18
              have h0 : atI [v] 0 = some v := atI_nat (j := 0) rfl
              have hh : SqL K H18 q0 [v] := .inl (.inl hq18)
              cases ed with
              | book r =>
                obtain ⟨q2, rfl, hq⟩ := hed
                refine ⟨_, rfl, q0, _, rfl, .inl hh, rfl, true, iEq rfl, (if_pos rfl).mpr ⟨_, rfl, q0, _, 0, _, rfl, rfl, hh, h0, q2, _, 0, _, rfl, rfl, hq, atI_nat (j := 0) rfl, rfl, true, sEq rfl, (if_pos rfl).mpr ?_⟩⟩
                exact ⟨_, rfl, x, dx, _, rfl, hx18, rfl, _, rfl, q0, _, 0, _, rfl, rfl, hh, h0, q2, _, 1, _, rfl, rfl, hq, atI_nat (j := 1) rfl, x, e.m, pa, fu, _, _, _, .book r, e.z, e.rl, z', rl', e.ls, ls', rfl, ⟨r, rfl, rfl⟩, hd18, lps, tup18, now, hok, fun H' p2 fu' o nf hd' ht' => ⟨rfl, p2, fu', o, nf, hd', ht'⟩⟩
              | repl s e1 new =>
                obtain ⟨q2, rfl, hq⟩ := hed
                refine ⟨_, rfl, q0, _, rfl, .inl hh, rfl, true, iEq rfl, (if_pos rfl).mpr ⟨_, rfl, q0, _, 0, _, rfl, rfl, hh, h0, q2, _, 0, _, rfl, rfl, hq, atI_nat (j := 0) rfl, rfl, false, sNe (by decide +kernel), (if_neg Bool.false_ne_true).mpr ?_⟩⟩
                refine ⟨_, rfl, q0, _, rfl, .inl hh, rfl, true, iEq rfl, (if_pos rfl).mpr ⟨_, rfl, q0, _, 0, _, rfl, rfl, hh, h0, q2, _, 0, _, rfl, rfl, hq, atI_nat (j := 0) rfl, rfl, true, sEq rfl, (if_pos rfl).mpr ?_⟩⟩
                exact ⟨_, rfl, x, dx, _, rfl, hx18, rfl, _, rfl, q0, _, 0, _, rfl, rfl, hh, h0, q2, _, 1, _, rfl, rfl, hq, atI_nat (j := 1) rfl, _, rfl, q0, _, 0, _, rfl, rfl, hh, h0, q2, _, 2, _, rfl, rfl, hq, atI_nat (j := 2) rfl, _, rfl, q0, _, 0, _, rfl, rfl, hh, h0, q2, _, 3, _, rfl, rfl, hq, atI_nat (j := 3) rfl,
                  x, e.m, pa, fu, _, _, _, .repl s e1 new, e.z, e.rl, z', rl', e.ls, ls', rfl, ⟨s, e1, new, rfl, rfl⟩, hd18, lps, tup18, now, hok, fun H' p2 fu' o nf hd' ht' => ⟨rfl, p2, fu', o, nf, hd', ht'⟩⟩
              | narrow tz f =>
                obtain ⟨q2, rfl, hq⟩ := hed
                refine ⟨_, rfl, q0, _, rfl, .inl hh, rfl, true, iEq rfl, (if_pos rfl).mpr ⟨_, rfl, q0, _, 0, _, rfl, rfl, hh, h0, q2, _, 0, _, rfl, rfl, hq, atI_nat (j := 0) rfl, rfl, false, sNe (by decide +kernel), (if_neg Bool.false_ne_true).mpr ?_⟩⟩
                refine ⟨_, rfl, q0, _, rfl, .inl hh, rfl, true, iEq rfl, (if_pos rfl).mpr ⟨_, rfl, q0, _, 0, _, rfl, rfl, hh, h0, q2, _, 0, _, rfl, rfl, hq, atI_nat (j := 0) rfl, rfl, false, sNe (by decide +kernel), (if_neg Bool.false_ne_true).mpr ?_⟩⟩
                exact ⟨_, rfl, x, dx, _, rfl, hx18, rfl, _, rfl, x, e.m, pa, fu, q0, _, _, _, e.z, e.rl, e.ls, .ok z' rl' ls', rfl, hd18, lps, tup18, now, .inl (.inl hq18), path18, fun H' p2 fu' o nf hd' ht' => ⟨rfl, p2, fu', o, nf, hd', ht'⟩⟩
            · have ne1 : (((v :: v2 :: more).length : Nat) : Int) ≠ 1 := by
                show ((more.length + 1 + 1 : Nat) : Int) ≠ 1
                omega
              refine ⟨_, rfl, q0, _, rfl, .inl (.inl (.inl hq18)), rfl, false, iNe ne1, (if_neg Bool.false_ne_true).mpr ?_⟩
              refine (if_neg Bool.false_ne_true).mpr ⟨_, rfl, q0, _, rfl, .inl (.inl (.inl hq18)), rfl, false, iNe ne1, (if_neg Bool.false_ne_true).mpr ?_⟩
              exact (if_neg Bool.false_ne_true).mpr ⟨_, rfl, x, dx, _, rfl, hx18, rfl, _, rfl, x, e.m, pa, fu, q0, _, _, _, e.z, e.rl, e.ls, .ok z' rl' ls', rfl, hd18, lps, tup18, now, .inl (.inl hq18), path18, fun H' p2 fu' o nf hd' ht' => ⟨rfl, p2, fu', o, nf, hd', ht'⟩⟩
          · obtain ⟨rfl, p2, fu', o19, nf, hd', ht'⟩ := hM
            have four : 4 ≤ sizeLine := by decide
            obtain ⟨dx19, hx19⟩ := hd'.at_
            have hq19 : H19 q0 = some (.lst es) := o19 _ _ (by simp [x0, pa0]) hq18
            have hlp19 : H19 lp = some (.lst (ras ps)) := o19 _ _ (by simp [m3.symm, m6.symm]) (s18 _ _ big.sys.past)
            refine ⟨_, rfl, .inl ⟨rfl, _, .inl (.inl hq19)⟩, four, fun q1 nq1 => ⟨q0, _, _, rfl, rfl, same_upd nq1 _ _ hq19, small1000 (by omega), ?_⟩⟩
            have s20 := same_upd (o := .tup [.str "replace", .int 0, .int 0, .str "x "]) nq1
            have hlp21 : (upd (upd H19 q1 (.tup [.str "replace", .int 0, .int 0, .str "x "])) q0 (.lst (es ++ [.ref q1]))) lp = some (.lst (ras ps)) := (upd_ne lp0.symm).trans (s20 _ _ hlp19)
            refine ⟨_, rfl, .inl ⟨rfl, _, .inl (.inl hlp21)⟩, _, rfl, lp, _, _, rfl, rfl, hlp21, small1000 (by rw [ras_len]; omega), ?_⟩
            refine ⟨Nat.zero_le _, fun lf' nlf => ?_⟩
            have s23 := same_upd (o := .lst []) nlf
            have o1923 : Oth [q0, lp] H19 (upd (upd (upd (upd H19 q1 (.tup [.str "replace", .int 0, .int 0, .str "x "])) q0 (.lst (es ++ [.ref q1]))) lp (.lst (ras ps ++ [.ref e.a]))) lf' (.lst [])) :=
              (same_oth s20).trans ((oth_upd (by simp)).trans ((oth_upd (by simp)).trans (same_oth s23)))
            have hp23 : (upd (upd (upd (upd H19 q1 (.tup [.str "replace", .int 0, .int 0, .str "x "])) q0 (.lst (es ++ [.ref q1]))) lp (.lst (ras ps ++ [.ref e.a]))) lf' (.lst [])) lp = some (.lst (ras ps ++ [.ref e.a])) := s23 _ _ upd_same
            have hf23 : (upd (upd (upd (upd H19 q1 (.tup [.str "replace", .int 0, .int 0, .str "x "])) q0 (.lst (es ++ [.ref q1]))) lp (.lst (ras ps ++ [.ref e.a]))) lf' (.lst [])) lf' = some (.lst []) := upd_same
            -- what was there is there
            have has19 : ∀ b, H18 b ≠ none → H19 b ≠ none := fun b hb => by
              by_cases z : b ∈ [x, pa]
              · simp only [List.mem_cons, List.not_mem_nil, or_false] at z
                rcases z with rfl | rfl
                · rw [hx19]; intro z; cases z
                · rw [hd'.past]; intro z; cases z
              · exact o19.there z hb
            have has22 : ∀ b, H19 b ≠ none → b ≠ lf' := fun b hb z => by
              rw [← z] at nlf
              exact upd_has (upd_has (upd_has hb)) nlf
            have has18 : ∀ b, H17 b ≠ none → H18 b ≠ none := fun b hb => (same_oth (L := []) s18).there (by simp) hb
            generalize upd (upd (upd (upd H19 q1 (.tup [.str "replace", .int 0, .int 0, .str "x "])) q0 (.lst (es ++ [.ref q1]))) lp (.lst (ras ps ++ [.ref e.a]))) lf' (.lst []) = H23 at *
            have fq : fu' ≠ q0 := fun z => by
              rw [z, hq18] at nf
              cases nf
            have fl : fu' ≠ lp := fun z => by
              rw [z, s18 _ _ big.sys.past] at nf
              cases nf
            have n1 : H17 fu' = none := Same.free s18 nf
            have n2 : H17 lf' = none := by
              cases z : H17 lf' with
              | none => rfl
              | some o => exact absurd rfl (has22 lf' (has19 _ (has18 _ (by rw [z]; intro e; cases e))))
            have n3 : lf' ≠ fu' := (has22 fu' (by rw [hd'.fut]; intro z; cases z)).symm
            have hd23 : DeskAt T.A_Desk H23 x p2 pa fu' (rms ps ++ [.ref e.m]) [] := hd'.oth o1923 (by simp [x0.symm, m3]) (by simp [pa0.symm, m6]) (by simp [fq, fl])
            have tup23 : SqT K H23 p2 [.str z', .str rl'] := (o1923.tups fun b hb => by
              simp only [List.mem_cons, List.not_mem_nil, or_false] at hb
              rcases hb with rfl | rfl
              · exact ⟨fun xs z => (by rw [hq19] at z; cases z), fun o xs z => (by rw [hq19] at z; cases z)⟩
              · exact ⟨fun xs z => (by rw [hlp19] at z; cases z), fun o xs z => (by rw [hlp19] at z; cases z)⟩).seqT ht'
            have o1723 : Oth [x, pa, lp] H17 H23 := fun b o nb e => by
              have nq : b ≠ q0 := ne_of_none e nq0
              have nx : b ≠ x := fun z => nb (by simp [z])
              have np : b ≠ pa := fun z => nb (by simp [z])
              have nl : b ≠ lp := fun z => nb (by simp [z])
              exact o1923 _ _ (by simp [nq, nl]) (o19 _ _ (by simp [nx, np]) (s18 _ _ e))
            obtain ⟨big2, g2⟩ := big.deed o1723 n1 n2 n3 hd23 hp23 hf23 hn' tup23 st' (by omega)
            refine ⟨_, rfl, p, _, 1, _, rfl, rfl, ends (g2.seq hp), atI_nat (j := 1) rfl, ?_⟩
            exact ⟨_, fu', lf', _, ps ++ [e], [], _, _, _, _, _, _, rfl, big2.mono (by omega), rest.keep g2, by rw [List.length_append]; show ps.length + 1 + 0 ≤ i + 1; omega⟩
        rw [decide_eq_false h4]
        refine (if_neg Bool.false_ne_true).mpr ?_
        refine ⟨_, rfl, _, _, rfl, rfl, decide ((c : Int) < 6), rfl, ?_⟩
        by_cases h6 : (c : Int) < 6
        · rw [decide_eq_true h6]
          refine (if_pos rfl).mpr ?_
          rcases List.eq_nil_or_concat ps with rfl | ⟨ps2, e2, rfl⟩
          · refine ⟨_, rfl, lp, _, rfl, .inl (.inl (.inl big.sys.past)), rfl, true, iEq rfl, (if_pos rfl).mpr ?_⟩
            refine ⟨_, rfl, _, rfl, _, rfl, _, rfl, _, rfl, x, pa, fu, lp, lf, S, e, e, [], fs, [], fs, _, rfl, big.sys, Nat.zero_le _, by omega, .none rfl, fun H2 o2 s2 => ⟨true, rfl, (if_neg Bool.false_ne_true).mpr ⟨_, rfl, S, fu, lf, e, [], fs, _, _, _, _, _, _, rfl, (big.turn o2 s2).1.mono (by omega), rest.keep (big.turn o2 s2).2, by omega⟩⟩⟩
          · rw [List.concat_eq_append] at *
            have hpp := big.sys.past
            rw [ras_snoc] at hpp
            rw [List.length_append] at hlen
            have hlen : ps2.length + 1 + fs.length ≤ i := hlen
            refine ⟨_, rfl, lp, _, rfl, .inl (.inl (.inl hpp)), rfl, false, iNe (by rw [List.length_append]; show (((ras ps2).length + 1 : Nat) : Int) ≠ 0; omega), (if_neg Bool.false_ne_true).mpr ?_⟩
            refine ⟨_, rfl, _, rfl, lp, _, rfl, .inl (.inl (.inl hpp)), _, _, rfl, rfl, lp, _, (((ras ps2).length : Nat) : Int), .ref e2.a, rfl, congrArg V.int (by rw [List.length_append]; show (((ras ps2).length + 1 : Nat) : Int) - 1 = _; omega), .inl (.inl hpp), atI_nat (by rw [List.getElem?_append_right (Nat.le_refl _), Nat.sub_self]; rfl), ?_⟩
            refine ⟨_, rfl, _, rfl, _, rfl, _, rfl, x, pa, fu, lp, lf, S, e, e2, ps2 ++ [e2], fs, ps2, fs ++ [e], _, rfl, big.sys, by rw [List.length_append]; show ps2.length + 1 ≤ 900; omega, by omega, .back rfl, fun H2 o2 s2 => ⟨true, rfl, (if_neg Bool.false_ne_true).mpr ⟨_, rfl, S, fu, lf, e2, ps2, fs ++ [e], _, _, _, _, _, _, rfl, (big.turn o2 s2).1.mono (by omega), rest.keep (big.turn o2 s2).2, ?_⟩⟩⟩
            rw [List.length_append]
            show ps2.length + (fs.length + 1) ≤ _
            omega
        rw [decide_eq_false h6]
        refine (if_neg Bool.false_ne_true).mpr ?_
        refine ⟨_, rfl, _, _, rfl, rfl, decide ((c : Int) < 8), rfl, ?_⟩
        by_cases h8 : (c : Int) < 8
        · rw [decide_eq_true h8]
          refine (if_pos rfl).mpr ?_
          rcases List.eq_nil_or_concat fs with rfl | ⟨fs2, e2, rfl⟩
          · refine ⟨_, rfl, lf, _, rfl, .inl (.inl (.inl big.sys.fut)), rfl, true, iEq rfl, (if_pos rfl).mpr ?_⟩
            refine ⟨_, rfl, _, rfl, _, rfl, _, rfl, _, rfl, x, pa, fu, lp, lf, S, e, e, ps, [], ps, [], _, rfl, big.sys, by omega, Nat.zero_le _, .none rfl, fun H2 o2 s2 => ⟨true, rfl, (if_neg Bool.false_ne_true).mpr ⟨_, rfl, S, fu, lf, e, ps, [], _, _, _, _, _, _, rfl, (big.turn o2 s2).1.mono (by omega), rest.keep (big.turn o2 s2).2, by omega⟩⟩⟩
          · rw [List.concat_eq_append] at *
            have hpp := big.sys.fut
            rw [ras_snoc] at hpp
            rw [List.length_append] at hlen
            have hlen : ps.length + (fs2.length + 1) ≤ i := hlen
            refine ⟨_, rfl, lf, _, rfl, .inl (.inl (.inl hpp)), rfl, false, iNe (by rw [List.length_append]; show (((ras fs2).length + 1 : Nat) : Int) ≠ 0; omega), (if_neg Bool.false_ne_true).mpr ?_⟩
            refine ⟨_, rfl, _, rfl, lf, _, rfl, .inl (.inl (.inl hpp)), _, _, rfl, rfl, lf, _, (((ras fs2).length : Nat) : Int), .ref e2.a, rfl, congrArg V.int (by rw [List.length_append]; show (((ras fs2).length + 1 : Nat) : Int) - 1 = _; omega), .inl (.inl hpp), atI_nat (by rw [List.getElem?_append_right (Nat.le_refl _), Nat.sub_self]; rfl), ?_⟩
            refine ⟨_, rfl, _, rfl, _, rfl, _, rfl, x, pa, fu, lp, lf, S, e, e2, ps, fs2 ++ [e2], ps ++ [e], fs2, _, rfl, big.sys, by omega, by rw [List.length_append]; show fs2.length + 1 ≤ 900; omega, .forth rfl, fun H2 o2 s2 => ⟨true, rfl, (if_neg Bool.false_ne_true).mpr ⟨_, rfl, S, fu, lf, e2, ps ++ [e], fs2, _, _, _, _, _, _, rfl, (big.turn o2 s2).1.mono (by omega), rest.keep (big.turn o2 s2).2, ?_⟩⟩⟩
            rw [List.length_append]
            show ps.length + 1 + fs2.length ≤ _
            omega
        rw [decide_eq_false h8]
        refine (if_neg Bool.false_ne_true).mpr ?_
        refine ⟨_, rfl, _, rfl, p, _, 0, _, rfl, rfl, ends hp, atI_nat (j := 0) rfl, x, e.m, pa, fu, l, _, _, es, e.z, e.rl, z', rl', e.ls, ls', rfl, big.sys.desk, lps, endt big.sys.now.tup, big.sys.now.st.now (by omega), (hide_get hl).2, by omega, hpath.keep (same_tups (hide_same _ _)), no_if st', fun H18 s18 => ⟨true, rfl, (if_neg Bool.false_ne_true).mpr ?_⟩⟩
        exact ⟨S, fu, lf, e, ps, fs, _, _, _, _, _, _, rfl, (big.same s18).mono (by omega), rest.keep (same_hide s18), by omega⟩
      · obtain ⟨S, fu, lf, e, ps, fs, y12, y13, y14, y15, y16, y17, rfl, big, rest, hlen⟩ := hM
        obtain ⟨L2, us2, hL2, _⟩ := big.sys.now.now
        refine ⟨_, rfl, _, rfl, _, rfl, _, rfl, x, e.m, pa, fu, e.a, lp, lf, _, _, [.ref L2], _, _, e.z, e.rl, rfl, big.sys.desk, endt big.sys.now.tup, ends hL2, .inl (.inl big.sys.past), .inl (.inl big.sys.fut), by rw [ras_len, rms_len], by rw [ras_len, rms_len], fun H2 s2 => ⟨true, rfl, (if_neg Bool.false_ne_true).mpr ?_⟩⟩
        exact ⟨S, fu, lf, e, ps, fs, _, _, _, _, _, _, rfl, big.same s2, rest.keep (same_hide s2), hlen⟩
    · obtain ⟨S, fu, lf, e, ps, fs, y12, y13, y14, y15, y16, y17, rfl, big, rest, hlen⟩ := hP
      refine ⟨_, rfl, _, rfl, _, rfl, _, rfl, x, pa, fu, lp, lf, S, e, ps, fs, _, rfl, big.sys, by omega, fun H16 o16 => ⟨true, rfl, (if_neg Bool.false_ne_true).mpr ?_⟩⟩
      have rest := (rest.keep (oth_hide o16 big.sys.hid)).keep (hide_same S H16)
      clear big
      refine ⟨_, rfl, _, rfl, Nat.zero_le _, fun q1 nq1 => ⟨Nat.zero_le _, fun q2 nq2 => ?_⟩⟩
      have s1 := same_upd (o := .lst []) nq1
      have s2 := same_upd (o := .lst []) nq2
      have rest2 := rest.keep (s1.trans s2)
      refine ⟨x2, n2, pa2, fu2, a0, q1, q2, [], [], [.ref L], [], [], z, rl, rfl, rest2.desk, rest2.tup, rest2.first, .inl (.inl (s2 _ _ upd_same)), .inl (.inl upd_same), rfl, rfl, fun H17 s17 => ⟨true, rfl, (if_pos rfl).mpr ?_⟩⟩
      have rest3 := rest2.keep s17
      obtain ⟨dy, hy⟩ := rest3.desk.at_
      refine ⟨_, rfl, x2, dy, _, rfl, hy, rfl, x2, n2, pa2, fu2, [], [], rfl, rest3.desk, Nat.zero_le _, Nat.zero_le _, .inl ⟨rfl, by decide, .inl ⟨_, _, rfl, .bl false⟩, true, rfl, (if_pos rfl).mpr ?_⟩⟩
      exact ⟨_, rfl, x2, dy, _, rfl, hy, rfl, x2, n2, pa2, fu2, [], [], rfl, rest3.desk, Nat.zero_le _, Nat.zero_le _, .inl ⟨rfl, by decide, .inl ⟨_, _, rfl, .bl false⟩, q _⟩⟩
end
end K77

set_option maxRecDepth 100000
set_option maxHeartbeats 4000000
/-! K9A: the law's call from a loud promise; what is looked at behind the top. -/
namespace KG
open PySem PySem.Spec PyProof.Rows L2

/-- nothing but the script is tracked -/
structure Begin (P : Program) (w : World) (K : PySem.W.Frag) (s : Shared) (a : Addr) (ns : List Int) (H : Hp) : Prop where
  only : Only H
  seq : SqL K H a (ns.map V.int)
  ok : HOk P w H s.heap
  one : ∀ b, H b ≠ none → b = a ∧ K.lookup a = none
theorem begin_is {P : Program} {w : World} {K : PySem.W.Frag} {s : Shared} {a : Addr} {vs : List Value} {ns : List Int} (X : K.In s.heap) (e : s.heap.get? a = some { cls := .type "list", data := .seq vs.toArray }) (i : IntsAre vs ns) (l : ns.length ≤ sizeLine) : ∃ H, Begin P w K s a ns H := by
  have r := vals_ints i
  cases q : K.lookup a with
  | some o =>
    obtain rfl := Option.some.inj ((X a o q).symm.trans e)
    exact ⟨fun _ => none, fun _ => .inl rfl, .inr ⟨_, _, _, q, rfl, rfl, rfl, by rw [List.size_toArray, i.length]; exact l, by simpa using r⟩, fun b u z => (by cases z), fun b z => (z rfl).elim⟩
  | none =>
    obtain ⟨o, ho⟩ : ∃ o : Obj, o = { cls := .type "list", data := .seq vs.toArray } := ⟨_, rfl⟩
    rw [← ho] at e
    refine ⟨upd (fun _ => none) a (.frz o (.lst (ns.map V.int))), fun b => ?_, .inl (.inr ⟨o, upd_same⟩), fun b u z => ?_, fun b z => ⟨?_, q⟩⟩
    · by_cases h : b = a
      · rw [h, upd_same]
        exact .inr ⟨o, _, rfl⟩
      · rw [upd_ne h]
        exact .inl rfl
    · by_cases h : b = a
      · rw [h, upd_same] at z
        obtain rfl := Option.some.inj z
        subst h
        subst ho
        exact ⟨e, (List.length_map (f := V.int) (as := ns)).symm ▸ l, vs, _, r, e⟩
      · rw [upd_ne h] at z
        cases z
    · by_cases h : b = a
      · exact h
      · rw [upd_ne h] at z
        exact (z rfl).elim
theorem Begin.env {P : Program} {w : World} {K : PySem.W.Frag} {mg mb : Str → Option Value} {s : Shared} {a : Addr} {vs : List Value} {ns : List Int} {H : Hp} (B : Begin P w K s a ns H) (X : K.In s.heap) (g1 : s.heap.Ns mainGlobals mg) (g2 : s.heap.Ns builtinsNs mb)
    (g3 : ∀ x : Str, x ≠ "__name__" → mb x = bootBuiltins x) (g4 : s.heap.NoLimit) (g5 : s.gens = #[]) (e : s.heap.get? a = some { cls := .type "list", data := .seq vs.toArray }) : K.In (hidT s.heap H) ∧ (hidT s.heap H).Ns mainGlobals mg ∧ Env0 P w K mg (hidT s.heap H) callerA [] s H := by
  have dict : ∀ {b : Addr} {o : Obj} {es : Array DictEntry} {n : Nat}, s.heap.get? b = some o → o.data = .dict es n → (hidT s.heap H).get? b = some o := fun {b o es n} h d => hidT_get h (by
    cases q : H b with
    | none => rfl
    | some u =>
      obtain ⟨rfl, _⟩ := B.one b (by rw [q]; intro z; cases z)
      obtain rfl := Option.some.inj (h.symm.trans e)
      cases d)
  have space : ∀ {b : Addr} {m : Str → Option Value}, s.heap.Ns b m → (hidT s.heap H).Ns b m := fun ⟨o, es, n, h, d, r⟩ => ⟨o, es, n, dict h d, d, r⟩
  have part : K.In (hidT s.heap H) := fun b o h => hidT_get (X b o h) (by
    cases q : H b with
    | none => rfl
    | some u =>
      obtain ⟨rfl, k⟩ := B.one b (by rw [q]; intro z; cases z)
      rw [k] at h
      cases h)
  obtain ⟨mc, c1, c2⟩ := g4
  exact ⟨part, space g1, rfl, ⟨part, space g1, ⟨mb, space g2, g3⟩, mc, space c1, c2⟩, fun b o h => of_hidT h, Nat.le_of_eq (hidT_size _ _), trivial, fun b h => (by cases h), B.ok, .of_eq g5⟩
theorem callQ {P : Program} {w : World} {K : PySem.W.Frag} {mg mb : Str → Option Value} {k : Nat} {fa a : Addr} {fd : FuncData} {x : Str} {sp : Sp} {s : Shared} {vs : List Value} {ns : List Int} (X : K.In s.heap) (g1 : s.heap.Ns mainGlobals mg) (g2 : s.heap.Ns builtinsNs mb)
    (g3 : ∀ x : Str, x ≠ "__name__" → mb x = bootBuiltins x) (g4 : s.heap.NoLimit) (g5 : s.gens = #[]) (e : s.heap.get? a = some { cls := .type "list", data := .seq vs.toArray }) (i : IntsAre vs ns) (l : ns.length ≤ sizeLine) (room : Room k callerA)
    (F : ∀ base : Heap, K.In base → base.Ns mainGlobals mg → FnQ P w K mg base (L2.CX P w) k fa fd [x] sp) (bind : ∀ (s : Shared) (u : Value), BindsTo s fd ⟨[u], []⟩ [(x, u)])
    (says : ∀ H : Hp, SqL K H a (ns.map V.int) → sp [.ref a] H (fun v _ => v = .bl true) fun _ _ _ => False) :
    codeQ (model P w) callerA (.call (.ref fa) ⟨[.ref a], []⟩) (fun r s' => r = .ok (.ret (.bool true)) ∧ OldK s.heap s'.heap ∧ s'.os = s.os ∧ AllBare s'.gens) s := by
  obtain ⟨H, B⟩ := begin_is (P := P) (w := w) X e i l
  obtain ⟨part, glob, env⟩ := B.env X g1 g2 g3 g4 g5 e
  refine ((F _ part glob).run callerA [] s H ⟨[.ref a], []⟩ [.ref a] [.ref a] _ _ room env (bind s (.ref a)) (.cons rfl .nil) (says H B.seq)).mono fun r s' h => ?_
  match r, h with
  | .error u, ⟨_, _, _, _, _, _, _, _, _, _, _, _, z⟩ => exact z.elim
  | .ok .next, z => exact False.elim z
  | .ok .brk, z => exact False.elim z
  | .ok .cont, z => exact False.elim z
  | .ok (.ret u), ⟨v, H', h1, h2, un, h3, rv, hv⟩ =>
    obtain rfl : v = .bl true := hv
    obtain rfl : u = Value.bool true := rv
    refine ⟨rfl, OldK.of_keep fun b o h => ?_, h1, h2⟩
    rcases B.only b with n | ⟨ob, xs, n⟩
    · exact un.keep b o h n (fun z => (by cases z)) (fun z => (by cases z))
    · have old := (B.ok b _ n).1
      have new := (h3 b _ (un.frzs b ob _ n)).1
      obtain rfl := Option.some.inj (h.symm.trans old)
      exact new
end KG

set_option maxRecDepth 100000
set_option maxHeartbeats 8000000
/-! K9H: Tx and Ux from the facts. (Printed by genH.py.) -/
namespace K77
open PySem PySem.W PySem.Spec PyProof.Rows L2 KG
section
variable {K : PySem.W.Frag} {h : Heap} {mg : Str → Option Value}
noncomputable def tx (X : K.In h) (G : h.Ns mainGlobals mg) (c0 : SaysX K) : Tx K mg :=
  have c := c0.1
  { b_len := He.free_ok X G (c.fact 62 (f := .free "len") rfl)
    b_enumerate := He.free_ok X G (c.fact 63 (f := .free "enumerate") rfl)
    b_all := He.free_ok X G (c.fact 64 (f := .free "all") rfl)
    b_sorted := He.free_ok X G (c.fact 65 (f := .free "sorted") rfl)
    b_isinstance := He.free_ok X G (c.fact 66 (f := .free "isinstance") rfl)
    b_int := He.free_ok X G (c.fact 67 (f := .free "int") rfl)
    b_str := He.free_ok X G (c.fact 68 (f := .free "str") rfl)
    b_list := He.free_ok X G (c.fact 69 (f := .free "list") rfl)
    b_tuple := He.free_ok X G (c.fact 70 (f := .free "tuple") rfl)
    b_set := He.free_ok X G (c.fact 71 (f := .free "set") rfl)
    b_abs := He.free_ok X G (c.fact 72 (f := .free "abs") rfl)
    b_max := He.free_ok X G (c.fact 73 (f := .free "max") rfl)
    b_range := He.free_ok X G (c.fact 74 (f := .free "range") rfl)
    b_bool := He.free_ok X G (c.fact 75 (f := .free "bool") rfl)
    c_NAME_SIGNS := He.int_ok X G (c.fact 77 (f := .int "NAME_SIGNS" 12) rfl)
    c_FORMULA_SIGNS := He.int_ok X G (c.fact 78 (f := .int "FORMULA_SIGNS" 240) rfl)
    c_MOST_SWITCHES := He.int_ok X G (c.fact 79 (f := .int "MOST_SWITCHES" 40) rfl)
    c_MOST_RULES := He.int_ok X G (c.fact 80 (f := .int "MOST_RULES" 60) rfl)
    c_MOST_IN_GROUP := He.int_ok X G (c.fact 81 (f := .int "MOST_IN_GROUP" 12) rfl)
    c_MOST_SIGNS := He.int_ok X G (c.fact 82 (f := .int "MOST_SIGNS" 6000) rfl)
    c_MOST_OPEN := He.int_ok X G (c.fact 83 (f := .int "MOST_OPEN" 12) rfl)
    c_LETTERS := He.str_ok X G (c.fact 84 (f := .str "LETTERS" "abcdefghijklmnopqrstuvwxyz") rfl)
    c_WORD_SIGNS := He.str_ok X G (c.fact 85 (f := .str "WORD_SIGNS" "abcdefghijklmnopqrstuvwxyz0123456789") rfl)
    c_SEPARATORS := He.str_ok X G (c.fact 86 (f := .str "SEPARATORS" " \n#") rfl)
    A_KEYWORDS := He.ga K "KEYWORDS"
    m_KEYWORDS := He.glo_ok X G (c.fact 59 (f := .glo "KEYWORDS") rfl)
    t_KEYWORDS := fun H => He.tupB_ok (c0.more 0 rfl) H
    A_YES := He.ga K "YES"
    m_YES := He.glo_ok X G (c.fact 60 (f := .glo "YES") rfl)
    t_YES := fun H => He.tupB_ok (c0.more 1 rfl) H
    A_NO := He.ga K "NO"
    m_NO := He.glo_ok X G (c.fact 61 (f := .glo "NO") rfl)
    t_NO := fun H => He.tupB_ok (c0.more 2 rfl) H
    A_Book := He.ga K "Book"
    m_Book := He.glo_ok X G (c.fact 48 (f := .glo "Book") rfl)
    A_OpenPiece := He.ga K "OpenPiece"
    m_OpenPiece := He.glo_ok X G (c.fact 49 (f := .glo "OpenPiece") rfl)
    A_Text := He.ga K "Text"
    m_Text := He.glo_ok X G (c.fact 50 (f := .glo "Text") rfl)
    A_Desk := He.ga K "Desk"
    m_Desk := He.glo_ok X G (c.fact 51 (f := .glo "Desk") rfl)
    A_BadFormula := He.ga K "BadFormula"
    m_BadFormula := He.glo_ok X G (c.fact 52 (f := .glo "BadFormula") rfl)
    A_BadBook := He.ga K "BadBook"
    m_BadBook := He.glo_ok X G (c.fact 53 (f := .glo "BadBook") rfl)
    A_BadText := He.ga K "BadText"
    m_BadText := He.glo_ok X G (c.fact 54 (f := .glo "BadText") rfl)
    A_BadEdit := He.ga K "BadEdit"
    m_BadEdit := He.glo_ok X G (c.fact 55 (f := .glo "BadEdit") rfl)
    A_UnknownSwitch := He.ga K "UnknownSwitch"
    m_UnknownSwitch := He.glo_ok X G (c.fact 56 (f := .glo "UnknownSwitch") rfl)
    A_TooMany := He.ga K "TooMany"
    m_TooMany := He.glo_ok X G (c.fact 57 (f := .glo "TooMany") rfl)
    A_ProductError := He.ga K "ProductError"
    m_ProductError := He.glo_ok X G (c.fact 58 (f := .glo "ProductError") rfl)
    C_Book := He.cls_ok (c.fact 87 (f := .cls "Book") rfl)
    C_OpenPiece := He.cls_ok (c.fact 89 (f := .cls "OpenPiece") rfl)
    C_Text := He.cls_ok (c.fact 91 (f := .cls "Text") rfl)
    C_Desk := He.cls_ok (c.fact 93 (f := .cls "Desk") rfl)
    a_is_name := (He.ga K "is_name")
    f_is_name := (c.def_ 0 (d := d_is_name) rfl).choose
    F_is_name := fun_of (c.def_ 0 (d := d_is_name) rfl).choose_spec
    m_is_name := He.glo_ok X G (c.fact 0 (f := .glo "is_name") rfl)
    a_formula_words := (He.ga K "formula_words")
    f_formula_words := (c.def_ 1 (d := d_formula_words) rfl).choose
    F_formula_words := fun_of (c.def_ 1 (d := d_formula_words) rfl).choose_spec
    m_formula_words := He.glo_ok X G (c.fact 1 (f := .glo "formula_words") rfl)
    a_read_atom := (He.ga K "read_atom")
    f_read_atom := (c.def_ 2 (d := d_read_atom) rfl).choose
    F_read_atom := fun_of (c.def_ 2 (d := d_read_atom) rfl).choose_spec
    m_read_atom := He.glo_ok X G (c.fact 2 (f := .glo "read_atom") rfl)
    a_apply_nots := (He.ga K "apply_nots")
    f_apply_nots := (c.def_ 3 (d := d_apply_nots) rfl).choose
    F_apply_nots := fun_of (c.def_ 3 (d := d_apply_nots) rfl).choose_spec
    m_apply_nots := He.glo_ok X G (c.fact 3 (f := .glo "apply_nots") rfl)
    a_apply_operators := (He.ga K "apply_operators")
    f_apply_operators := (c.def_ 4 (d := d_apply_operators) rfl).choose
    F_apply_operators := fun_of (c.def_ 4 (d := d_apply_operators) rfl).choose_spec
    m_apply_operators := He.glo_ok X G (c.fact 4 (f := .glo "apply_operators") rfl)
    a_close_group := (He.ga K "close_group")
    f_close_group := (c.def_ 5 (d := d_close_group) rfl).choose
    F_close_group := fun_of (c.def_ 5 (d := d_close_group) rfl).choose_spec
    m_close_group := He.glo_ok X G (c.fact 5 (f := .glo "close_group") rfl)
    a_read_formula := (He.ga K "read_formula")
    f_read_formula := (c.def_ 6 (d := d_read_formula) rfl).choose
    F_read_formula := (c.def_ 6 (d := d_read_formula) rfl).choose_spec
    m_read_formula := He.glo_ok X G (c.fact 6 (f := .glo "read_formula") rfl)
    a_formula_text := (He.ga K "formula_text")
    f_formula_text := (c.def_ 7 (d := d_formula_text) rfl).choose
    F_formula_text := fun_of (c.def_ 7 (d := d_formula_text) rfl).choose_spec
    m_formula_text := He.glo_ok X G (c.fact 7 (f := .glo "formula_text") rfl)
    a_formula_names := (He.ga K "formula_names")
    f_formula_names := (c.def_ 8 (d := d_formula_names) rfl).choose
    F_formula_names := fun_of (c.def_ 8 (d := d_formula_names) rfl).choose_spec
    m_formula_names := He.glo_ok X G (c.fact 8 (f := .glo "formula_names") rfl)
    a_conjoin := (He.ga K "conjoin")
    f_conjoin := (c.def_ 9 (d := d_conjoin) rfl).choose
    F_conjoin := fun_of (c.def_ 9 (d := d_conjoin) rfl).choose_spec
    m_conjoin := He.glo_ok X G (c.fact 9 (f := .glo "conjoin") rfl)
    a_entry_text := (He.ga K "entry_text")
    f_entry_text := (c.def_ 10 (d := d_entry_text) rfl).choose
    F_entry_text := fun_of (c.def_ 10 (d := d_entry_text) rfl).choose_spec
    m_entry_text := He.glo_ok X G (c.fact 10 (f := .glo "entry_text") rfl)
    a_read_rule := (He.ga K "read_rule")
    f_read_rule := (c.def_ 11 (d := d_read_rule) rfl).choose
    F_read_rule := fun_of (c.def_ 11 (d := d_read_rule) rfl).choose_spec
    m_read_rule := He.glo_ok X G (c.fact 11 (f := .glo "read_rule") rfl)
    a_read_entry := (He.ga K "read_entry")
    f_read_entry := (c.def_ 12 (d := d_read_entry) rfl).choose
    F_read_entry := fun_of (c.def_ 12 (d := d_read_entry) rfl).choose_spec
    m_read_entry := He.glo_ok X G (c.fact 12 (f := .glo "read_entry") rfl)
    a_read_book := (He.ga K "read_book")
    f_read_book := (c.def_ 13 (d := d_read_book) rfl).choose
    F_read_book := fun_of (c.def_ 13 (d := d_read_book) rfl).choose_spec
    m_read_book := He.glo_ok X G (c.fact 13 (f := .glo "read_book") rfl)
    a_add_run := (He.ga K "add_run")
    f_add_run := (c.def_ 14 (d := d_add_run) rfl).choose
    F_add_run := fun_of (c.def_ 14 (d := d_add_run) rfl).choose_spec
    m_add_run := He.glo_ok X G (c.fact 14 (f := .glo "add_run") rfl)
    a_read_condition := (He.ga K "read_condition")
    f_read_condition := (c.def_ 15 (d := d_read_condition) rfl).choose
    F_read_condition := fun_of (c.def_ 15 (d := d_read_condition) rfl).choose_spec
    m_read_condition := He.glo_ok X G (c.fact 15 (f := .glo "read_condition") rfl)
    a_take_directive := (He.ga K "take_directive")
    f_take_directive := (c.def_ 16 (d := d_take_directive) rfl).choose
    F_take_directive := fun_of (c.def_ 16 (d := d_take_directive) rfl).choose_spec
    m_take_directive := He.glo_ok X G (c.fact 16 (f := .glo "take_directive") rfl)
    a_read_parts := (He.ga K "read_parts")
    f_read_parts := (c.def_ 17 (d := d_read_parts) rfl).choose
    F_read_parts := fun_of (c.def_ 17 (d := d_read_parts) rfl).choose_spec
    m_read_parts := He.glo_ok X G (c.fact 17 (f := .glo "read_parts") rfl)
    a_each_run := (He.ga K "each_run")
    f_each_run := (c.def_ 18 (d := d_each_run) rfl).choose
    F_each_run := fun_of (c.def_ 18 (d := d_each_run) rfl).choose_spec
    m_each_run := He.glo_ok X G (c.fact 18 (f := .glo "each_run") rfl)
    a_read_text := (He.ga K "read_text")
    f_read_text := (c.def_ 19 (d := d_read_text) rfl).choose
    F_read_text := fun_of (c.def_ 19 (d := d_read_text) rfl).choose_spec
    m_read_text := He.glo_ok X G (c.fact 19 (f := .glo "read_text") rfl)
    a_check_switch := (He.ga K "check_switch")
    f_check_switch := (c.def_ 20 (d := d_check_switch) rfl).choose
    F_check_switch := fun_of (c.def_ 20 (d := d_check_switch) rfl).choose_spec
    m_check_switch := He.glo_ok X G (c.fact 20 (f := .glo "check_switch") rfl)
    a_turn_switch := (He.ga K "turn_switch")
    f_turn_switch := (c.def_ 21 (d := d_turn_switch) rfl).choose
    F_turn_switch := fun_of (c.def_ 21 (d := d_turn_switch) rfl).choose_spec
    m_turn_switch := He.glo_ok X G (c.fact 21 (f := .glo "turn_switch") rfl)
    a_checked := (He.ga K "checked")
    f_checked := (c.def_ 22 (d := d_checked) rfl).choose
    F_checked := fun_of (c.def_ 22 (d := d_checked) rfl).choose_spec
    m_checked := He.glo_ok X G (c.fact 22 (f := .glo "checked") rfl)
    a_replaced := (He.ga K "replaced")
    f_replaced := (c.def_ 23 (d := d_replaced) rfl).choose
    F_replaced := fun_of (c.def_ 23 (d := d_replaced) rfl).choose_spec
    m_replaced := He.glo_ok X G (c.fact 23 (f := .glo "replaced") rfl)
    a_narrowed := (He.ga K "narrowed")
    f_narrowed := (c.def_ 24 (d := d_narrowed) rfl).choose
    F_narrowed := fun_of (c.def_ 24 (d := d_narrowed) rfl).choose_spec
    m_narrowed := He.glo_ok X G (c.fact 24 (f := .glo "narrowed") rfl)
    a_opened := (He.ga K "opened")
    f_opened := (c.def_ 25 (d := d_opened) rfl).choose
    F_opened := fun_of (c.def_ 25 (d := d_opened) rfl).choose_spec
    m_opened := He.glo_ok X G (c.fact 25 (f := .glo "opened") rfl)
    a_closed := (He.ga K "closed")
    f_closed := (c.def_ 26 (d := d_closed) rfl).choose
    F_closed := fun_of (c.def_ 26 (d := d_closed) rfl).choose_spec
    m_closed := He.glo_ok X G (c.fact 26 (f := .glo "closed") rfl)
    a_edited := (He.ga K "edited")
    f_edited := (c.def_ 27 (d := d_edited) rfl).choose
    F_edited := fun_of (c.def_ 27 (d := d_edited) rfl).choose_spec
    m_edited := He.glo_ok X G (c.fact 27 (f := .glo "edited") rfl)
    a_law_draws := (He.ga K "_law_draws")
    f_law_draws := (c.def_ 28 (d := d_law_draws) rfl).choose
    F_law_draws := fun_of (c.def_ 28 (d := d_law_draws) rfl).choose_spec
    m_law_draws := He.glo_ok X G (c.fact 28 (f := .glo "_law_draws") rfl)
    a_law_take := (He.ga K "_law_take")
    f_law_take := (c.def_ 29 (d := d_law_take) rfl).choose
    F_law_take := fun_of (c.def_ 29 (d := d_law_take) rfl).choose_spec
    m_law_take := He.glo_ok X G (c.fact 29 (f := .glo "_law_take") rfl)
    a_law_names := (He.ga K "_law_names")
    f_law_names := (c.def_ 30 (d := d_law_names) rfl).choose
    F_law_names := fun_of (c.def_ 30 (d := d_law_names) rfl).choose_spec
    m_law_names := He.glo_ok X G (c.fact 30 (f := .glo "_law_names") rfl)
    a_law_tree := (He.ga K "_law_tree")
    f_law_tree := (c.def_ 31 (d := d_law_tree) rfl).choose
    F_law_tree := fun_of (c.def_ 31 (d := d_law_tree) rfl).choose_spec
    m_law_tree := He.glo_ok X G (c.fact 31 (f := .glo "_law_tree") rfl)
    a_law_text := (He.ga K "_law_text")
    f_law_text := (c.def_ 32 (d := d_law_text) rfl).choose
    F_law_text := fun_of (c.def_ 32 (d := d_law_text) rfl).choose_spec
    m_law_text := He.glo_ok X G (c.fact 32 (f := .glo "_law_text") rfl)
    a_law_loose := (He.ga K "_law_loose")
    f_law_loose := (c.def_ 33 (d := d_law_loose) rfl).choose
    F_law_loose := fun_of (c.def_ 33 (d := d_law_loose) rfl).choose_spec
    m_law_loose := He.glo_ok X G (c.fact 33 (f := .glo "_law_loose") rfl)
    a_law_some := (He.ga K "_law_some")
    f_law_some := (c.def_ 34 (d := d_law_some) rfl).choose
    F_law_some := fun_of (c.def_ 34 (d := d_law_some) rfl).choose_spec
    m_law_some := He.glo_ok X G (c.fact 34 (f := .glo "_law_some") rfl)
    a_law_lines := (He.ga K "_law_lines")
    f_law_lines := (c.def_ 35 (d := d_law_lines) rfl).choose
    F_law_lines := fun_of (c.def_ 35 (d := d_law_lines) rfl).choose_spec
    m_law_lines := He.glo_ok X G (c.fact 35 (f := .glo "_law_lines") rfl)
    a_law_book := (He.ga K "_law_book")
    f_law_book := (c.def_ 36 (d := d_law_book) rfl).choose
    F_law_book := fun_of (c.def_ 36 (d := d_law_book) rfl).choose_spec
    m_law_book := He.glo_ok X G (c.fact 36 (f := .glo "_law_book") rfl)
    a_law_like := (He.ga K "_law_like")
    f_law_like := (c.def_ 37 (d := d_law_like) rfl).choose
    F_law_like := fun_of (c.def_ 37 (d := d_law_like) rfl).choose_spec
    m_law_like := He.glo_ok X G (c.fact 37 (f := .glo "_law_like") rfl)
    a_law_string := (He.ga K "_law_string")
    f_law_string := (c.def_ 38 (d := d_law_string) rfl).choose
    F_law_string := fun_of (c.def_ 38 (d := d_law_string) rfl).choose_spec
    m_law_string := He.glo_ok X G (c.fact 38 (f := .glo "_law_string") rfl)
    a_law_piece := (He.ga K "_law_piece")
    f_law_piece := (c.def_ 39 (d := d_law_piece) rfl).choose
    F_law_piece := fun_of (c.def_ 39 (d := d_law_piece) rfl).choose_spec
    m_law_piece := He.glo_ok X G (c.fact 39 (f := .glo "_law_piece") rfl)
    a_law_edit := (He.ga K "_law_edit")
    f_law_edit := (c.def_ 40 (d := d_law_edit) rfl).choose
    F_law_edit := fun_of (c.def_ 40 (d := d_law_edit) rfl).choose_spec
    m_law_edit := He.glo_ok X G (c.fact 40 (f := .glo "_law_edit") rfl)
    a_law_behind := (He.ga K "_law_behind")
    f_law_behind := (c.def_ 41 (d := d_law_behind) rfl).choose
    F_law_behind := fun_of (c.def_ 41 (d := d_law_behind) rfl).choose_spec
    m_law_behind := He.glo_ok X G (c.fact 41 (f := .glo "_law_behind") rfl)
    a_law_stays := (He.ga K "_law_stays")
    f_law_stays := (c.def_ 42 (d := d_law_stays) rfl).choose
    F_law_stays := fun_of (c.def_ 42 (d := d_law_stays) rfl).choose_spec
    m_law_stays := He.glo_ok X G (c.fact 42 (f := .glo "_law_stays") rfl)
    a_law_now := (He.ga K "_law_now")
    f_law_now := (c.def_ 43 (d := d_law_now) rfl).choose
    F_law_now := fun_of (c.def_ 43 (d := d_law_now) rfl).choose_spec
    m_law_now := He.glo_ok X G (c.fact 43 (f := .glo "_law_now") rfl)
    a_law_undone := (He.ga K "_law_undone")
    f_law_undone := (c.def_ 44 (d := d_law_undone) rfl).choose
    F_law_undone := fun_of (c.def_ 44 (d := d_law_undone) rfl).choose_spec
    m_law_undone := He.glo_ok X G (c.fact 44 (f := .glo "_law_undone") rfl)
    a_law_redone := (He.ga K "_law_redone")
    f_law_redone := (c.def_ 45 (d := d_law_redone) rfl).choose
    F_law_redone := fun_of (c.def_ 45 (d := d_law_redone) rfl).choose_spec
    m_law_redone := He.glo_ok X G (c.fact 45 (f := .glo "_law_redone") rfl)
    a_law_ended := (He.ga K "_law_ended")
    f_law_ended := (c.def_ 46 (d := d_law_ended) rfl).choose
    F_law_ended := fun_of (c.def_ 46 (d := d_law_ended) rfl).choose_spec
    m_law_ended := He.glo_ok X G (c.fact 46 (f := .glo "_law_ended") rfl)
    a_law := (He.ga K "law")
    f_law := (c.def_ 47 (d := d_law) rfl).choose
    F_law := fun_of (c.def_ 47 (d := d_law) rfl).choose_spec
    m_law := He.glo_ok X G (c.fact 47 (f := .glo "law") rfl)
    a_Book_init := (He.ma K (He.ga K "Book") "__init__")
    f_Book_init := (c.def_ 48 (d := d_Book_init) rfl).choose
    F_Book_init := fun_of (c.def_ 48 (d := d_Book_init) rfl).choose_spec
    K_Book := He.mkr_ok (c.fact 88 (f := .mkr "Book") rfl)
    a_Book_text := (He.ma K (He.ga K "Book") "text")
    f_Book_text := (c.def_ 49 (d := d_Book_text) rfl).choose
    F_Book_text := fun_of (c.def_ 49 (d := d_Book_text) rfl).choose_spec
    M_Book_text := He.meth_ok (c.fact 106 (f := .meth "Book" "text") rfl)
    a_Book_narrowed := (He.ma K (He.ga K "Book") "narrowed")
    f_Book_narrowed := (c.def_ 50 (d := d_Book_narrowed) rfl).choose
    F_Book_narrowed := fun_of (c.def_ 50 (d := d_Book_narrowed) rfl).choose_spec
    M_Book_narrowed := He.meth_ok (c.fact 107 (f := .meth "Book" "narrowed") rfl)
    a_OpenPiece_init := (He.ma K (He.ga K "OpenPiece") "__init__")
    f_OpenPiece_init := (c.def_ 51 (d := d_OpenPiece_init) rfl).choose
    F_OpenPiece_init := fun_of (c.def_ 51 (d := d_OpenPiece_init) rfl).choose_spec
    K_OpenPiece := He.mkr_ok (c.fact 90 (f := .mkr "OpenPiece") rfl)
    a_OpenPiece_finished := (He.ma K (He.ga K "OpenPiece") "finished")
    f_OpenPiece_finished := (c.def_ 52 (d := d_OpenPiece_finished) rfl).choose
    F_OpenPiece_finished := fun_of (c.def_ 52 (d := d_OpenPiece_finished) rfl).choose_spec
    M_OpenPiece_finished := He.meth_ok (c.fact 108 (f := .meth "OpenPiece" "finished") rfl)
    a_Text_init := (He.ma K (He.ga K "Text") "__init__")
    f_Text_init := (c.def_ 53 (d := d_Text_init) rfl).choose
    F_Text_init := fun_of (c.def_ 53 (d := d_Text_init) rfl).choose_spec
    K_Text := He.mkr_ok (c.fact 92 (f := .mkr "Text") rfl)
    a_Desk_init := (He.ma K (He.ga K "Desk") "__init__")
    f_Desk_init := (c.def_ 54 (d := d_Desk_init) rfl).choose
    F_Desk_init := fun_of (c.def_ 54 (d := d_Desk_init) rfl).choose_spec
    K_Desk := He.mkr_ok (c.fact 94 (f := .mkr "Desk") rfl)
    a_Desk_source := gp K "source"
    f_Desk_source := fdOf K (gp K "source")
    F_Desk_source := fun_at (c0.funs 0 rfl) (c0.more 5 rfl)
    P_source := ⟨pa K "source", prop_ok (c0.more 3 rfl)⟩
    a_Desk_rulebook := gp K "rulebook"
    f_Desk_rulebook := fdOf K (gp K "rulebook")
    F_Desk_rulebook := fun_at (c0.funs 1 rfl) (c0.more 6 rfl)
    P_rulebook := ⟨pa K "rulebook", prop_ok (c0.more 4 rfl)⟩
    a_Desk_behind := (He.ma K (He.ga K "Desk") "_behind")
    f_Desk_behind := (c.def_ 55 (d := d_Desk_behind) rfl).choose
    F_Desk_behind := fun_of (c.def_ 55 (d := d_Desk_behind) rfl).choose_spec
    M_Desk_behind := He.meth_ok (c.fact 109 (f := .meth "Desk" "_behind") rfl)
    a_Desk_turn_to := (He.ma K (He.ga K "Desk") "_turn_to")
    f_Desk_turn_to := (c.def_ 56 (d := d_Desk_turn_to) rfl).choose
    F_Desk_turn_to := fun_of (c.def_ 56 (d := d_Desk_turn_to) rfl).choose_spec
    M_Desk_turn_to := He.meth_ok (c.fact 110 (f := .meth "Desk" "_turn_to") rfl)
    a_Desk_apply := (He.ma K (He.ga K "Desk") "apply")
    f_Desk_apply := (c.def_ 57 (d := d_Desk_apply) rfl).choose
    F_Desk_apply := fun_of (c.def_ 57 (d := d_Desk_apply) rfl).choose_spec
    M_Desk_apply := He.meth_ok (c.fact 111 (f := .meth "Desk" "apply") rfl)
    a_Desk_replace := (He.ma K (He.ga K "Desk") "replace")
    f_Desk_replace := (c.def_ 58 (d := d_Desk_replace) rfl).choose
    F_Desk_replace := fun_of (c.def_ 58 (d := d_Desk_replace) rfl).choose_spec
    M_Desk_replace := He.meth_ok (c.fact 112 (f := .meth "Desk" "replace") rfl)
    a_Desk_change_book := (He.ma K (He.ga K "Desk") "change_book")
    f_Desk_change_book := (c.def_ 59 (d := d_Desk_change_book) rfl).choose
    F_Desk_change_book := fun_of (c.def_ 59 (d := d_Desk_change_book) rfl).choose_spec
    M_Desk_change_book := He.meth_ok (c.fact 113 (f := .meth "Desk" "change_book") rfl)
    a_Desk_undo := (He.ma K (He.ga K "Desk") "undo")
    f_Desk_undo := (c.def_ 60 (d := d_Desk_undo) rfl).choose
    F_Desk_undo := fun_of (c.def_ 60 (d := d_Desk_undo) rfl).choose_spec
    M_Desk_undo := He.meth_ok (c.fact 114 (f := .meth "Desk" "undo") rfl)
    a_Desk_redo := (He.ma K (He.ga K "Desk") "redo")
    f_Desk_redo := (c.def_ 61 (d := d_Desk_redo) rfl).choose
    F_Desk_redo := fun_of (c.def_ 61 (d := d_Desk_redo) rfl).choose_spec
    M_Desk_redo := He.meth_ok (c.fact 115 (f := .meth "Desk" "redo") rfl)
    a_Desk_steps := (He.ma K (He.ga K "Desk") "steps")
    f_Desk_steps := (c.def_ 62 (d := d_Desk_steps) rfl).choose
    F_Desk_steps := fun_of (c.def_ 62 (d := d_Desk_steps) rfl).choose_spec
    M_Desk_steps := He.meth_ok (c.fact 116 (f := .meth "Desk" "steps") rfl)
    N_Book_entries := He.noat_ok (c.fact 95 (f := .noat "Book" "entries") rfl)
    N_Book_switches := He.noat_ok (c.fact 96 (f := .noat "Book" "switches") rfl)
    N_OpenPiece_condition := He.noat_ok (c.fact 97 (f := .noat "OpenPiece" "condition") rfl)
    N_OpenPiece_sides := He.noat_ok (c.fact 98 (f := .noat "OpenPiece" "sides") rfl)
    N_Text_book := He.noat_ok (c.fact 99 (f := .noat "Text" "book") rfl)
    N_Text_parts := He.noat_ok (c.fact 100 (f := .noat "Text" "parts") rfl)
    N_Text_runs := He.noat_ok (c.fact 101 (f := .noat "Text" "_runs") rfl)
    N_Desk_now := He.noat_ok (c.fact 102 (f := .noat "Desk" "_now") rfl)
    N_Desk_past := He.noat_ok (c.fact 103 (f := .noat "Desk" "_past") rfl)
    N_Desk_future := He.noat_ok (c.fact 104 (f := .noat "Desk" "_future") rfl)
    N_Desk_road := He.noat_ok (c.fact 105 (f := .noat "Desk" "_road") rfl) }
noncomputable def ux (X : K.In h) (G : h.Ns mainGlobals mg) (c0 : SaysX K) : Ux R.prog K mg (tx X G c0) :=
  have c := c0.1
  { f0 := UI K
    fd0 := fdOf K (UI K)
    sup := ⟨(by
        obtain ⟨oc, od, kV, doc, pm, an, cda, ct, osl, cc, h1, h2, h3, h4, h5⟩ := us_ok (c0.funs 2 rfl) (c0.more 7 rfl)
        exact ⟨oc, od, kV, doc, pm, an, cda, ct, osl, cc, _, _, h1, h2, h3, h4, h5⟩), ⟨ex_ok (c0.more 8 rfl), He.eqO_ok (c0.more 11 rfl), of_decide_eq_true (c0.more 12 rfl), of_decide_eq_true (c0.more 13 rfl), c0.more 14 rfl⟩,
      He.eqO_ok (c0.more 15 rfl), of_decide_eq_true (c0.more 16 rfl), of_decide_eq_true (c0.more 17 rfl), He.eqO_ok (c0.more 18 rfl), He.eqO_ok (c0.more 19 rfl), He.free_ok X G (c.fact 76 (f := .free "super") rfl), by kernel_rfl⟩
    iC := He.eqO_ok (c0.more 9 rfl)
    tI := of_decide_eq_true (c0.more 10 rfl)
    xB := (He.exc_ok (c.fact 117 (f := .exc "BadEdit") rfl)).1
    kB := (He.exc_ok (c.fact 117 (f := .exc "BadEdit") rfl)).2.1
    bB := (He.exc_ok (c.fact 117 (f := .exc "BadEdit") rfl)).2.2.1
    tB := (He.exc_ok (c.fact 117 (f := .exc "BadEdit") rfl)).2.2.2
    eB := He.exm_ok (c.fact 118 (f := .exm "BadEdit" "ProductError" true) rfl)
    eU := He.exm_ok (c.fact 119 (f := .exm "UnknownSwitch" "ProductError" true) rfl) }
end
end K77

set_option maxRecDepth 100000
set_option maxHeartbeats 4000000
/-! K9D: the statement. -/
namespace K77
open PySem PySem.W PySem.Calls PySem.Spec PyProof.Rows L2 KG

theorem run (w : World) : HandSHeadRun.RunEq R (view R.prog [119]) hkX ob 12000 loose w := fun os => by
  have a := runA w os
  have b := runB w os
  have c := runC w os
  show (theEnd w os).map _ = _
  cases e : theEnd w os with
  | none =>
    rw [e] at a
    cases a
  | some s =>
    rw [e] at a b c
    obtain ⟨a1, a2⟩ := Prod.mk.inj (Option.some.inj a)
    have b1 := Option.some.inj b
    obtain ⟨c1, c2⟩ := Prod.mk.inj (Option.some.inj c)
    refine congrArg some (Prod.ext a1 (Prod.ext a2 ?_))
    exact Prod.ext c1 (Prod.ext b1 c2)
abbrev lawL : OpenLaw := PySem.Challenge.rw_everyproduct_k77_desk_undo_redo
theorem law_is : LawQ lawL 63 (view R.prog [119]) loose (XL (view R.prog [119]) []) hkX.says (HandSHeadRun.topDef R.prog 119) := by
  intro w s₀ s₁ mg mb fa o pm cd doc a vs ns G Y ho hd hcd hmg hobj hints hlen hg
  obtain ⟨K, KX, c⟩ := Y
  have nm : (HandSHeadRun.topDef R.prog 119).name = ("law" : Str) := by kernel_rfl
  rw [nm] at hmg
  have T := tx KX G.T.g c
  obtain rfl : fa = He.ga K "law" := Value.ref.inj (Option.some.inj (hmg.symm.trans (tx KX G.T.g c).m_law))
  have bind := FunD.bindsA (ps := ["script"]) (c.1.def_ 47 (d := d_law) rfl).choose_spec fun _ _ _ _ _ _ us hl => match us, hl with | [_], _ => rfl
  exact callQ (k := 28) (sp := spLaw K) KX G.T.g G.T.b G.T.builtins G.T.nolimit hg hobj hints (Nat.le_trans hlen (by decide)) ⟨rfl, by decide, by decide⟩ (fun base _ _ => ok_law (tx KX G.T.g c) (ux KX G.T.g c)) (fun s u => bind s [u] rfl)
    (fun H hS => ⟨a, ns, rfl, hS, by omega, fun _ => rfl⟩)
theorem left_is : LeftO R.prog (view R.prog [119]) loose (fun s => xlAt (view R.prog [119]) [] s && recOk R.toRowW.records s) hkX.obs hkX.val (12000 + 600) true :=
  HandSHeadRun.left_one (M := 12000) (by kernel_rfl) (by decide +kernel) (fun s => by kernel_rfl) (by decide +kernel) fun w os => by
    have z := run w os
    rw [show ob = fun s => hkX.obs s.abs from funext ob_eq] at z
    simp only [HandSHeadRun.endQ_eq, HandSHeadRun.seenQ_eq]
    exact z
theorem row_is (k1 : R.wellSaid = true) (hw : R.toRowW.promised) : R.Holds :=
  holdsQ (l := lawL) (n := 63) (q := view R.prog [119]) (loose := loose) (XP := XL (view R.prog [119]) []) (Yf := hkX.obs) (Ya := hkX.val) (YP := hkX.says) (d := HandSHeadRun.topDef R.prog 119) rfl (by kernel_rfl) left_is
    hkX.of hkX.keeps (fun s z => xl_of s (Bool.and_eq_true_iff.mp z).1) XL.keeps (by kernel_rfl) (by kernel_rfl) (by kernel_rfl) (fun s z => recFacts_of (Bool.and_eq_true_iff.mp z).2) (by decide +kernel) k1 (by decide +kernel) ⟨rfl, rfl, rfl, rfl, rfl, by decide +kernel⟩ hw law_is
end K77
open PySem PySem.W PySem.Calls PyProof.Rows
theorem PySem.Challenge.cw_everyproduct_k77_desk_undo_redo_holds : PySem.Challenge.rw_everyproduct_k77_desk_undo_redo.Holds := by
  w_on; o_law
  refine K77.row_is (by first | assumption | decide +kernel) ?hw
  case hw => w_witness2
