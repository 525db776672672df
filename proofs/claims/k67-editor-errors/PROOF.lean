import PyProof.Rows.All
import Wide.All
import OpenK.AllK
import Wide.FinOn
import PySem.Challenge.RW_fewmarks_k67_editor_errors
import HandS.Base
import HandS.Call
import HandS.List
import HandS.Comp
import HandS.Ends
import HandS.Dict
import HandS.Iter
import HandS.Text
import HandS.Words
import HandS.WordsList
import HandS.WordsDict
import HandS.Exc
import HandS.TryOnly
import HandS.ExcOwn
import HandS.WordsExc
import HandS.Defaults
import HandS.IsInst
import HandS.Codes
import HandS.Walk
import HandS.Star
import HandS.HeadHook1
import HandS.HeadHook2
import HandS.TryMany
import HandS.Property
import HandS.Lambda
import HandS.EndTab
import HandS.HeadWalk
import HandS.HeadHook4
import HandS.ExcField
import HandS.ExcInit
import KE.KExcInit
import HandS.OwnEq
import HandS.Head0
import HandS.Head1
import HandS.Head2
import KE.GoesEnum
import KE.GoesZip
import KE.GoesMore
import PyProof.RulesMatch
import PyProof.RulesMatchSeq
import PyProof.Rows.MatchSeqLen
import KE.GoesEnumKw
import PyProof.Rows.CallKwBuiltin
import HandS.Style
import PyProof.Rows.StrRev
import HandS.GenYield
import HandS.GenCall
import HandS.GenList
import HandS.More
import HandS.TupAny
import HandS.HotCalls
import KE.KWithOwn
import HandS.Finally
import PyProof.InstNe
import HandS.DeepEq
import PyProof.NeKinds
import HandS.SortRule
import HandS.Conv
import HandS.DictComp
import KE.KDictWalk
import HandS.Zip
import HandS.TupLen
import HandS.SetKeys
import HandS.MakeKw
import HandS.RaiseMore
import PyProof.StrBlock2
section
set_option Elab.async false
set_option linter.all false
set_option maxRecDepth 100000
namespace K67
open PySem PySem.Spec PyProof.Rows L2
def topS (i : Nat) : Stmt := PySem.Challenge.pw_fewmarks_k67_editor_errors.main.body.getD i (.Pass ⟨0, 0, 0, 0⟩)
abbrev FnP (K : PySem.W.Frag) (x qual : Str) (st : Stmt) (f : Addr) (fd : FuncData) : Prop := FunD K x qual (defArgs st) (defBody st) (defScope st) [] [] f fd
abbrev s_is_integer : Stmt := topS 16
theorem sc_is_integer : FnScope ["value"] ["value"] (defScope s_is_integer) := ⟨rfl, rfl, rfl, by decide +kernel, rfl, by decide +kernel, by decide +kernel⟩
abbrev s_is_between : Stmt := topS 17
theorem sc_is_between : FnScope ["value", "low", "high"] ["value", "low", "high"] (defScope s_is_between) := ⟨rfl, rfl, rfl, by decide +kernel, rfl, by decide +kernel, by decide +kernel⟩
abbrev s_is_word : Stmt := topS 18
theorem sc_is_word : FnScope ["value", "sign"] ["value"] (defScope s_is_word) := ⟨rfl, rfl, rfl, by decide +kernel, rfl, by decide +kernel, by decide +kernel⟩
abbrev s_is_text : Stmt := topS 19
theorem sc_is_text : FnScope ["value"] ["value"] (defScope s_is_text) := ⟨rfl, rfl, rfl, by decide +kernel, rfl, by decide +kernel, by decide +kernel⟩
abbrev s_are_ascending : Stmt := topS 20
theorem sc_are_ascending : FnScope ["signs", "one", "other"] ["signs"] (defScope s_are_ascending) := ⟨rfl, rfl, rfl, by decide +kernel, rfl, by decide +kernel, by decide +kernel⟩
abbrev s_are_letters : Stmt := topS 21
theorem sc_are_letters : FnScope ["value"] ["value"] (defScope s_are_letters) := ⟨rfl, rfl, rfl, by decide +kernel, rfl, by decide +kernel, by decide +kernel⟩
abbrev s_shared_letters : Stmt := topS 22
theorem sc_shared_letters : FnScope ["word", "other", "many", "one", "two"] ["word", "other"] (defScope s_shared_letters) := ⟨rfl, rfl, rfl, by decide +kernel, rfl, by decide +kernel, by decide +kernel⟩
abbrev s_require_text : Stmt := topS 82
theorem sc_require_text : FnScope ["value"] ["value"] (defScope s_require_text) := ⟨rfl, rfl, rfl, by decide +kernel, rfl, by decide +kernel, by decide +kernel⟩
abbrev s_require_rest : Stmt := topS 83
theorem sc_require_rest : FnScope ["thing", "value", "letter"] ["thing", "value"] (defScope s_require_rest) := ⟨rfl, rfl, rfl, by decide +kernel, rfl, by decide +kernel, by decide +kernel⟩
abbrev s_keys_from : Stmt := topS 85
theorem sc_keys_from : FnScope ["marks", "state", "mark", "found", "letter", "other"] ["marks", "state", "mark"] (defScope s_keys_from) := ⟨rfl, rfl, rfl, by decide +kernel, rfl, by decide +kernel, by decide +kernel⟩
abbrev s_walk_in : Stmt := topS 86
theorem sc_walk_in : FnScope ["machine", "text", "row", "found", "letter", "mark"] ["machine", "text"] (defScope s_walk_in) := ⟨rfl, rfl, rfl, by decide +kernel, rfl, by decide +kernel, by decide +kernel⟩
abbrev s_is_mark_number : Stmt := topS 92
theorem sc_is_mark_number : FnScope ["value", "total"] ["value", "total"] (defScope s_is_mark_number) := ⟨rfl, rfl, rfl, by decide +kernel, rfl, by decide +kernel, by decide +kernel⟩
abbrev s_is_step_key : Stmt := topS 93
theorem sc_is_step_key : FnScope ["letters", "total", "value"] ["letters", "total", "value"] (defScope s_is_step_key) := ⟨rfl, rfl, rfl, by decide +kernel, rfl, by decide +kernel, by decide +kernel⟩
abbrev s_are_steps : Stmt := topS 94
theorem sc_are_steps : FnScope ["letters", "steps", "total", "key", "mark"] ["letters", "steps"] (defScope s_are_steps) := ⟨rfl, rfl, rfl, by decide +kernel, rfl, by decide +kernel, by decide +kernel⟩
abbrev s_met_order_marks : Stmt := topS 95
theorem sc_met_order_marks : FnScope ["letters", "steps", "found", "known", "at", "letter", "mark"] ["letters", "steps"] (defScope s_met_order_marks) := ⟨rfl, rfl, rfl, by decide +kernel, rfl, by decide +kernel, by decide +kernel⟩
abbrev s_are_good : Stmt := topS 97
theorem sc_are_good : FnScope ["total", "value", "mark", "one", "two"] ["total", "value"] (defScope s_are_good) := ⟨rfl, rfl, rfl, by decide +kernel, rfl, by decide +kernel, by decide +kernel⟩
abbrev s_Marks_init : Stmt := inClass (topS 98) 0
theorem sc_Marks_init : FnScope ["self", "letters", "steps", "good", "key"] ["self", "letters", "steps", "good"] (defScope s_Marks_init) := ⟨rfl, rfl, rfl, by decide +kernel, rfl, by decide +kernel, by decide +kernel⟩
abbrev s_Marks_row_in : Stmt := inClass (topS 98) 4
theorem sc_Marks_row_in : FnScope ["self", "text", "found", "letter"] ["self", "text"] (defScope s_Marks_row_in) := ⟨rfl, rfl, rfl, by decide +kernel, rfl, by decide +kernel, by decide +kernel⟩
abbrev s_Marks_row : Stmt := inClass (topS 98) 5
theorem sc_Marks_row : FnScope ["self", "text"] ["self", "text"] (defScope s_Marks_row) := ⟨rfl, rfl, rfl, by decide +kernel, rfl, by decide +kernel, by decide +kernel⟩
abbrev s_Marks_eq : Stmt := inClass (topS 98) 12
theorem sc_Marks_eq : FnScope ["self", "other"] ["self", "other"] (defScope s_Marks_eq) := ⟨rfl, rfl, rfl, by decide +kernel, rfl, by decide +kernel, by decide +kernel⟩
abbrev s_require_marks : Stmt := topS 99
theorem sc_require_marks : FnScope ["marks"] ["marks"] (defScope s_require_marks) := ⟨rfl, rfl, rfl, by decide +kernel, rfl, by decide +kernel, by decide +kernel⟩
abbrev s_is_target : Stmt := topS 103
theorem sc_is_target : FnScope ["value"] ["value"] (defScope s_is_target) := ⟨rfl, rfl, rfl, by decide +kernel, rfl, by decide +kernel, by decide +kernel⟩
abbrev s_is_key : Stmt := topS 104
theorem sc_is_key : FnScope ["marks", "value"] ["marks", "value"] (defScope s_is_key) := ⟨rfl, rfl, rfl, by decide +kernel, rfl, by decide +kernel, by decide +kernel⟩
abbrev s_have_forms : Stmt := topS 105
theorem sc_have_forms : FnScope ["marks", "begins", "steps", "ends", "mark", "key", "state"] ["marks", "begins", "steps", "ends"] (defScope s_have_forms) := ⟨rfl, rfl, rfl, by decide +kernel, rfl, by decide +kernel, by decide +kernel⟩
abbrev s_met_in : Stmt := topS 106
theorem sc_met_in : FnScope ["marks", "begins", "steps", "found", "line", "mark", "later", "state", "key"] ["marks", "begins", "steps"] (defScope s_met_in) := ⟨rfl, rfl, rfl, by decide +kernel, rfl, by decide +kernel, by decide +kernel⟩
abbrev s_fresh_in : Stmt := topS 107
theorem sc_fresh_in : FnScope ["line", "found", "pair"] ["line"] (defScope s_fresh_in) := ⟨rfl, rfl, rfl, by decide +kernel, rfl, by decide +kernel, by decide +kernel⟩
abbrev s_is_complete : Stmt := topS 108
theorem sc_is_complete : FnScope ["marks", "begins", "steps", "ends", "found", "state", "key"] ["marks", "begins", "steps", "ends"] (defScope s_is_complete) := ⟨rfl, rfl, rfl, by decide +kernel, rfl, by decide +kernel, by decide +kernel⟩
abbrev s_TwoPass_init : Stmt := inClass (topS 111) 0
theorem sc_TwoPass_init : FnScope ["self", "marks", "begins", "steps", "ends", "found", "mark", "key", "state"] ["self", "marks", "begins", "steps", "ends"] (defScope s_TwoPass_init) := ⟨rfl, rfl, rfl, by decide +kernel, rfl, by decide +kernel, by decide +kernel⟩
abbrev s_TwoPass_eq : Stmt := inClass (topS 111) 14
theorem sc_TwoPass_eq : FnScope ["self", "other"] ["self", "other"] (defScope s_TwoPass_eq) := ⟨rfl, rfl, rfl, by decide +kernel, rfl, by decide +kernel, by decide +kernel⟩
abbrev s_require_machine : Stmt := topS 112
theorem sc_require_machine : FnScope ["machine"] ["machine"] (defScope s_require_machine) := ⟨rfl, rfl, rfl, by decide +kernel, rfl, by decide +kernel, by decide +kernel⟩
abbrev s_is_over : Stmt := topS 117
theorem sc_is_over : FnScope ["text", "machine", "letter"] ["text", "machine"] (defScope s_is_over) := ⟨rfl, rfl, rfl, by decide +kernel, rfl, by decide +kernel, by decide +kernel⟩
abbrev s_require_edit : Stmt := topS 118
theorem sc_require_edit : FnScope ["is_one"] ["is_one"] (defScope s_require_edit) := ⟨rfl, rfl, rfl, by decide +kernel, rfl, by decide +kernel, by decide +kernel⟩
abbrev s_put_in : Stmt := topS 119
theorem sc_put_in : FnScope ["version", "at", "letters", "machine", "text"] ["version", "at", "letters"] (defScope s_put_in) := ⟨rfl, rfl, rfl, by decide +kernel, rfl, by decide +kernel, by decide +kernel⟩
abbrev s_cut_out : Stmt := topS 120
theorem sc_cut_out : FnScope ["version", "at", "many", "machine", "text"] ["version", "at", "many"] (defScope s_cut_out) := ⟨rfl, rfl, rfl, by decide +kernel, rfl, by decide +kernel, by decide +kernel⟩
abbrev s_edited : Stmt := topS 121
theorem sc_edited : FnScope ["version", "edit", "word", "at", "letters", "many", "machine"] ["version", "edit"] (defScope s_edited) := ⟨rfl, rfl, rfl, by decide +kernel, rfl, by decide +kernel, by decide +kernel⟩
abbrev s_news_between : Stmt := topS 122
theorem sc_news_between : FnScope ["before", "behind", "old", "new", "begin", "end", "old_marks", "found", "place", "mark", "known"] ["before", "behind"] (defScope s_news_between) := ⟨rfl, rfl, rfl, by decide +kernel, rfl, by decide +kernel, by decide +kernel⟩
abbrev s_Trial_init : Stmt := inClass (topS 123) 0
theorem sc_Trial_init : FnScope ["self", "editor"] ["self", "editor"] (defScope s_Trial_init) := ⟨rfl, rfl, rfl, by decide +kernel, rfl, by decide +kernel, by decide +kernel⟩
abbrev s_Trial_enter : Stmt := inClass (topS 123) 1
theorem sc_Trial_enter : FnScope ["self"] ["self"] (defScope s_Trial_enter) := ⟨rfl, rfl, rfl, by decide +kernel, rfl, by decide +kernel, by decide +kernel⟩
abbrev s_Trial_exit : Stmt := inClass (topS 123) 2
theorem sc_Trial_exit : FnScope ["self", "kind", "error", "place"] ["self", "kind", "error", "place"] (defScope s_Trial_exit) := ⟨rfl, rfl, rfl, by decide +kernel, rfl, by decide +kernel, by decide +kernel⟩
abbrev s_Editor_init : Stmt := inClass (topS 124) 0
theorem sc_Editor_init : FnScope ["self", "machine", "text"] ["self", "machine", "text"] (defScope s_Editor_init) := ⟨rfl, rfl, rfl, by decide +kernel, rfl, by decide +kernel, by decide +kernel⟩
abbrev s_Editor_version : Stmt := inClass (topS 124) 7
theorem sc_Editor_version : FnScope ["self"] ["self"] (defScope s_Editor_version) := ⟨rfl, rfl, rfl, by decide +kernel, rfl, by decide +kernel, by decide +kernel⟩
abbrev s_Editor_show : Stmt := inClass (topS 124) 8
theorem sc_Editor_show : FnScope ["self", "version", "machine", "text", "word", "state"] ["self", "version"] (defScope s_Editor_show) := ⟨rfl, rfl, rfl, by decide +kernel, rfl, by decide +kernel, by decide +kernel⟩
abbrev s_Editor_change_to : Stmt := inClass (topS 124) 9
theorem sc_Editor_change_to : FnScope ["self", "version", "past", "undone"] ["self", "version", "past", "undone"] (defScope s_Editor_change_to) := ⟨rfl, rfl, rfl, by decide +kernel, rfl, by decide +kernel, by decide +kernel⟩
abbrev s_Editor_make : Stmt := inClass (topS 124) 10
theorem sc_Editor_make : FnScope ["self", "edits"] ["self", "edits"] (defScope s_Editor_make) := ⟨rfl, rfl, rfl, by decide +kernel, rfl, by decide +kernel, by decide +kernel⟩
abbrev s_Editor_make_step : Stmt := inClass (topS 124) 11
theorem sc_Editor_make_step : FnScope ["self", "step", "version", "edit"] ["self", "step"] (defScope s_Editor_make_step) := ⟨rfl, rfl, rfl, by decide +kernel, rfl, by decide +kernel, by decide +kernel⟩
abbrev s_Editor_undo : Stmt := inClass (topS 124) 12
theorem sc_Editor_undo : FnScope ["self", "many", "left", "version", "gone", "before", "step"] ["self", "many"] (defScope s_Editor_undo) := ⟨rfl, rfl, rfl, by decide +kernel, rfl, by decide +kernel, by decide +kernel⟩
abbrev s_Editor_redo : Stmt := inClass (topS 124) 13
theorem sc_Editor_redo : FnScope ["self", "many", "version", "past", "step", "edit"] ["self", "many"] (defScope s_Editor_redo) := ⟨rfl, rfl, rfl, by decide +kernel, rfl, by decide +kernel, by decide +kernel⟩
abbrev s_Editor_trial : Stmt := inClass (topS 124) 15
theorem sc_Editor_trial : FnScope ["self"] ["self"] (defScope s_Editor_trial) := ⟨rfl, rfl, rfl, by decide +kernel, rfl, by decide +kernel, by decide +kernel⟩
abbrev s_Editor_attempt : Stmt := inClass (topS 124) 16
theorem sc_Editor_attempt : FnScope ["self", "action", "same"] ["self", "action"] (defScope s_Editor_attempt) := ⟨rfl, rfl, rfl, by decide +kernel, rfl, by decide +kernel, by decide +kernel⟩
abbrev s_Editor_twin : Stmt := inClass (topS 124) 17
theorem sc_Editor_twin : FnScope ["self", "found"] ["self"] (defScope s_Editor_twin) := ⟨rfl, rfl, rfl, by decide +kernel, rfl, by decide +kernel, by decide +kernel⟩
abbrev s_Editor_eq : Stmt := inClass (topS 124) 20
theorem sc_Editor_eq : FnScope ["self", "other"] ["self", "other"] (defScope s_Editor_eq) := ⟨rfl, rfl, rfl, by decide +kernel, rfl, by decide +kernel, by decide +kernel⟩
abbrev s_require_many : Stmt := topS 125
theorem sc_require_many : FnScope ["many", "most"] ["many", "most"] (defScope s_require_many) := ⟨rfl, rfl, rfl, by decide +kernel, rfl, by decide +kernel, by decide +kernel⟩
abbrev s_law_start : Stmt := topS 127
theorem sc_law_start : FnScope ["_law_script", "_law_at", "_law_cell", "_law_great", "_law_mixed"] ["_law_script", "_law_at"] (defScope s_law_start) := ⟨rfl, rfl, rfl, by decide +kernel, rfl, by decide +kernel, by decide +kernel⟩
abbrev s_law_throw : Stmt := topS 128
theorem sc_law_throw : FnScope ["_law_bag", "_law_total", "_law_found", "_law_one", "_law_two"] ["_law_bag", "_law_total"] (defScope s_law_throw) := ⟨rfl, rfl, rfl, by decide +kernel, rfl, by decide +kernel, by decide +kernel⟩
abbrev s_law_pick : Stmt := topS 129
theorem sc_law_pick : FnScope ["_law_bag", "_law_items"] ["_law_bag", "_law_items"] (defScope s_law_pick) := ⟨rfl, rfl, rfl, by decide +kernel, rfl, by decide +kernel, by decide +kernel⟩
abbrev s_law_shuffled : Stmt := topS 130
theorem sc_law_shuffled : FnScope ["_law_bag", "_law_items", "_law_rest_here", "_law_turn"] ["_law_bag", "_law_items"] (defScope s_law_shuffled) := ⟨rfl, rfl, rfl, by decide +kernel, rfl, by decide +kernel, by decide +kernel⟩
abbrev s_law_drawn_word : Stmt := topS 131
theorem sc_law_drawn_word : FnScope ["_law_bag", "_law_signs", "_law_most", "_law_turn"] ["_law_bag", "_law_signs", "_law_most"] (defScope s_law_drawn_word) := ⟨rfl, rfl, rfl, by decide +kernel, rfl, by decide +kernel, by decide +kernel⟩
abbrev s_law_word : Stmt := topS 132
theorem sc_law_word : FnScope ["_law_call", "e"] ["_law_call"] (defScope s_law_word) := ⟨rfl, rfl, rfl, by decide +kernel, rfl, by decide +kernel, by decide +kernel⟩
abbrev s_law_copier : Stmt := topS 133
theorem sc_law_copier : FnScope ["_law_letters_here", "_law_known", "_law_sign", "_law_rows"] ["_law_letters_here"] (defScope s_law_copier) := ⟨rfl, rfl, rfl, by decide +kernel, rfl, by decide +kernel, by decide +kernel⟩
abbrev s_law_wrong_edits : Stmt := topS 134
theorem sc_law_wrong_edits : FnScope ["_law_size", "_law_one", "_law_two", "_law_found"] ["_law_size", "_law_one", "_law_two"] (defScope s_law_wrong_edits) := ⟨rfl, rfl, rfl, by decide +kernel, rfl, by decide +kernel, by decide +kernel⟩
abbrev s_law_fine_edit : Stmt := topS 135
theorem sc_law_fine_edit : FnScope ["_law_bag", "_law_two"] ["_law_bag", "_law_two"] (defScope s_law_fine_edit) := ⟨rfl, rfl, rfl, by decide +kernel, rfl, by decide +kernel, by decide +kernel⟩
abbrev s_law_spoilt : Stmt := topS 136
theorem sc_law_spoilt : FnScope ["_law_same"] ["_law_same"] (defScope s_law_spoilt) := ⟨rfl, rfl, rfl, by decide +kernel, rfl, by decide +kernel, by decide +kernel⟩
abbrev s_law_too_low : Stmt := topS 137
theorem sc_law_too_low : FnScope ["_law_same"] ["_law_same"] (defScope s_law_too_low) := ⟨rfl, rfl, rfl, by decide +kernel, rfl, by decide +kernel, by decide +kernel⟩
abbrev s_law_stays : Stmt := topS 138
theorem sc_law_stays : FnScope ["_law_made", "_law_kept", "_law_news_here"] ["_law_made", "_law_kept", "_law_news_here"] (defScope s_law_stays) := ⟨rfl, rfl, rfl, by decide +kernel, rfl, by decide +kernel, by decide +kernel⟩
abbrev s_law_numbers_right : Stmt := topS 139
theorem sc_law_numbers_right : FnScope ["_law_bag", "_law_made", "_law_news_here", "_law_two", "_law_none", "_law_found", "_law_much", "_law_great", "_law_wrong", "_law_low"] ["_law_bag", "_law_made", "_law_news_here", "_law_two"] (defScope s_law_numbers_right) := ⟨rfl, rfl, rfl, by decide +kernel, rfl, by decide +kernel, by decide +kernel⟩
abbrev s_law_right : Stmt := topS 140
theorem sc_law_right : FnScope ["_law_bag", "_law_one", "_law_two", "_law_text_here", "_law_made", "_law_counts", "_law_kept", "_law_news_here", "_law_row", "_law_edit", "_law_fine", "_law_found", "_law_off", "_law_bad"] ["_law_bag"] (defScope s_law_right) := ⟨rfl, rfl, rfl, by decide +kernel, rfl, by decide +kernel, by decide +kernel⟩
abbrev s_law : Stmt := topS 141
theorem sc_law : FnScope ["_law_script", "_law_at", "_law_one", "_law_two", "_law_made", "_law_found", "_law_narrow", "_law_other"] ["_law_script"] (defScope s_law) := ⟨rfl, rfl, rfl, by decide +kernel, rfl, by decide +kernel, by decide +kernel⟩
end K67
end
section
set_option Elab.async false
set_option linter.all false
set_option maxRecDepth 100000
set_option maxHeartbeats 0
namespace PySem.W
open PySem PySem.Spec PySem.Calls PyProof.Rows
/-- the class at C has an own __eq__, the def at f, and no __ne__ -/
def ownEqIn (K : Frag) (C f : Addr) : Bool := match K.lookup C with
  | some ⟨.type "type", _, .cls cd, sl⟩ => (match cd.mro, sl.toList with
    | .ref C' :: bm, [_, _, _, _, some (.builtin n), _] => C' == C && bm == [.type "object"] && !cd.hasDel && nsOkIn K cd.ns && nsIn K cd.ns "__eq__" == some (some (.ref f)) && nsIn K cd.ns "__ne__" == some none && isFn K (.ref f)
    | _, _ => false)
  | _ => false
end PySem.W
namespace K67
open PySem PySem.Spec PyProof.Rows L2 LamX He
/-- the three classes' addresses -/
structure Cls3 where
  t : Addr
  m : Addr
  e : Addr
def TYS (T : Cls3) : List Value := [.type "NoneType", .type "bool", .type "int", .type "str", .type "list", .type "tuple", .type "dict", .ref T.t, .ref T.m, .ref T.e]
def CLS (T : Cls3) : List Value := [.type "int", .type "str", .type "bool", .type "tuple", .type "dict", .ref T.t, .ref T.m, .ref T.e]
def kitB2 (t c : Value) : Bool := t == c || (t == .type "bool" && c == .type "int")
def FLD : List Str := ["own_letters", "own_steps", "own_good", "own_numbers", "own_number", "own_marks", "own_begins", "own_writes", "own_last", "own_sorts", "own_machine", "own_text", "own_words", "own_result", "own_past", "own_undone", "own_before"]
abbrev s_TwoPass_walk : Stmt := inClass (topS 111) 7
abbrev s_Editor_news : Stmt := inClass (topS 124) 14
abbrev bmIx : List Value := [.type "IndexError", .type "LookupError", .type "Exception", .type "BaseException", .type "object"]
abbrev bmLk : List Value := [.type "LookupError", .type "Exception", .type "BaseException", .type "object"]
abbrev s_InvalidNumber_init : Stmt := inClass (topS 8) 0
abbrev s_NothingToUndo_init : Stmt := inClass (topS 11) 0
/-- the six classes of _law_word -/
structure Cls6 where
  m : Addr
  t : Addr
  o : Addr
  e : Addr
  n : Addr
  u : Addr
def Cls6.all (C : Cls6) : List Addr := [C.m, C.t, C.o, C.e, C.n, C.u]
/-- the tables of the three defs with lambdas: of _law_numbers_right, _law_right, law -/
structure Tab3 where
  pn : Addr
  pr : Addr
  pl : Addr
abbrev s_Editor_text : Stmt := inClass (topS 124) 2
abbrev s_Editor_log : Stmt := inClass (topS 124) 6
abbrev s_TwoPass_marks : Stmt := inClass (topS 111) 1
def getterAt (K : PySem.W.Frag) (C m : Str) : Addr := match PySem.W.recIn K (ma K (ga K C) m) "property" with
  | some (.ref g :: _) => g
  | _ => 0
def fnAt (K : PySem.W.Frag) (a : Addr) : FnW := match K.lookup a with
  | some ⟨_, _, .func fd, _⟩ => some (fd.name, fd.qualname, fd.params, fd.body, fd.scope, fd.globals, fd.closure, fd.builtins)
  | _ => none
def plainB (K : PySem.W.Frag) (q : Str) (a : Addr) : Bool := PySem.W.keepIn K (.ref a) && (match K.lookup a with
  | some ⟨_, _, .func fd, _⟩ => PySem.W.codeIn K fd.code q && (dflB K fd.defaults [] && kwdB K fd.kwdefaults [])
  | _ => false)
def propB (K : PySem.W.Frag) (C m : Str) : Bool := eqO (PySem.W.findIn K (.ref (ga K C)) m) (some (some (.ref (ma K (ga K C) m)))) && (decide (PySem.W.specialIn K (.ref (ma K (ga K C) m)) "__get__" = some (some (.builtin "property.__get__"))) && (decide (PySem.W.takesIn K (.ref (ma K (ga K C) m)) = some true) &&
  (match PySem.W.recIn K (ma K (ga K C) m) "property" with
    | some (.ref _ :: _) => true
    | _ => false)))
def ogB (K : PySem.W.Frag) (C : Addr) (bmB : List Value) (newId : String) : Bool := (match K.lookup C with
    | some ⟨.type t, _, .cls cd, sl⟩ => decide (t = "type") && (cd.hasDict && (!cd.hasDel && ((match cd.mro with
        | .ref C' :: bm => decide (C' = C) && PySem.W.excTail bmB bm
        | _ => false) && (match sl.toList with
        | [_, _, _, _, some (.builtin n), _] => decide (n = newId)
        | _ => false))))
    | _ => false) && (eqO (PySem.W.findIn K (.ref C) "__setattr__") (some (some (.builtin "object.__setattr__"))) && (decide (PySem.W.subIn K (.ref C) (.type "BaseException") = some true) && (decide (PySem.W.typeIn K (.ref C) = some (.type "type")) && PySem.W.keepIn K (.ref C))))
end K67
end
section
set_option Elab.async false
set_option linter.all false
set_option maxRecDepth 100000
set_option maxHeartbeats 0
namespace K67
open PySem PySem.Spec PyProof.Rows L2 LamX He
def d_is_integer : DefD := ⟨("is_integer", none), "is_integer", "is_integer", defArgs s_is_integer, defBody s_is_integer, defScope s_is_integer, [], []⟩
def d_is_between : DefD := ⟨("is_between", none), "is_between", "is_between", defArgs s_is_between, defBody s_is_between, defScope s_is_between, [], []⟩
def d_is_word : DefD := ⟨("is_word", none), "is_word", "is_word", defArgs s_is_word, defBody s_is_word, defScope s_is_word, [], []⟩
def d_is_text : DefD := ⟨("is_text", none), "is_text", "is_text", defArgs s_is_text, defBody s_is_text, defScope s_is_text, [], []⟩
def d_require_edit : DefD := ⟨("require_edit", none), "require_edit", "require_edit", defArgs s_require_edit, defBody s_require_edit, defScope s_require_edit, [], []⟩
def d_require_text : DefD := ⟨("require_text", none), "require_text", "require_text", defArgs s_require_text, defBody s_require_text, defScope s_require_text, [], []⟩
def d_is_over : DefD := ⟨("is_over", none), "is_over", "is_over", defArgs s_is_over, defBody s_is_over, defScope s_is_over, [], []⟩
def d_require_rest : DefD := ⟨("require_rest", none), "require_rest", "require_rest", defArgs s_require_rest, defBody s_require_rest, defScope s_require_rest, [], []⟩
def d_shared_letters : DefD := ⟨("shared_letters", none), "shared_letters", "shared_letters", defArgs s_shared_letters, defBody s_shared_letters, defScope s_shared_letters, [], []⟩
def d_is_mark_number : DefD := ⟨("is_mark_number", none), "is_mark_number", "is_mark_number", defArgs s_is_mark_number, defBody s_is_mark_number, defScope s_is_mark_number, [], []⟩
def d_are_ascending : DefD := ⟨("are_ascending", none), "are_ascending", "are_ascending", defArgs s_are_ascending, defBody s_are_ascending, defScope s_are_ascending, [], []⟩
def d_are_letters : DefD := ⟨("are_letters", none), "are_letters", "are_letters", defArgs s_are_letters, defBody s_are_letters, defScope s_are_letters, [], []⟩
def d_put_in : DefD := ⟨("put_in", none), "put_in", "put_in", defArgs s_put_in, defBody s_put_in, defScope s_put_in, [], []⟩
def d_cut_out : DefD := ⟨("cut_out", none), "cut_out", "cut_out", defArgs s_cut_out, defBody s_cut_out, defScope s_cut_out, [], []⟩
def d_edited : DefD := ⟨("edited", none), "edited", "edited", defArgs s_edited, defBody s_edited, defScope s_edited, [], []⟩
def d_walk_in : DefD := ⟨("walk_in", none), "walk_in", "walk_in", defArgs s_walk_in, defBody s_walk_in, defScope s_walk_in, [], []⟩
def d_require_machine : DefD := ⟨("require_machine", none), "require_machine", "require_machine", defArgs s_require_machine, defBody s_require_machine, defScope s_require_machine, [], []⟩
def d_news_between : DefD := ⟨("news_between", none), "news_between", "news_between", defArgs s_news_between, defBody s_news_between, defScope s_news_between, [], []⟩
def d_require_many : DefD := ⟨("require_many", none), "require_many", "require_many", defArgs s_require_many, defBody s_require_many, defScope s_require_many, [], []⟩
def d_is_step_key : DefD := ⟨("is_step_key", none), "is_step_key", "is_step_key", defArgs s_is_step_key, defBody s_is_step_key, defScope s_is_step_key, [], []⟩
def d_is_target : DefD := ⟨("is_target", none), "is_target", "is_target", defArgs s_is_target, defBody s_is_target, defScope s_is_target, [], []⟩
def d_is_key : DefD := ⟨("is_key", none), "is_key", "is_key", defArgs s_is_key, defBody s_is_key, defScope s_is_key, [], []⟩
def d_met_order_marks : DefD := ⟨("met_order_marks", none), "met_order", "met_order", defArgs s_met_order_marks, defBody s_met_order_marks, defScope s_met_order_marks, [], []⟩
def d_are_good : DefD := ⟨("are_good", none), "are_good", "are_good", defArgs s_are_good, defBody s_are_good, defScope s_are_good, [], []⟩
def d_are_steps : DefD := ⟨("are_steps", none), "are_steps", "are_steps", defArgs s_are_steps, defBody s_are_steps, defScope s_are_steps, [], []⟩
def d_require_marks : DefD := ⟨("require_marks", none), "require_marks", "require_marks", defArgs s_require_marks, defBody s_require_marks, defScope s_require_marks, [], []⟩
def d_keys_from : DefD := ⟨("keys_from", none), "keys_from", "keys_from", defArgs s_keys_from, defBody s_keys_from, defScope s_keys_from, [], []⟩
def d_have_forms : DefD := ⟨("have_forms", none), "have_forms", "have_forms", defArgs s_have_forms, defBody s_have_forms, defScope s_have_forms, [], []⟩
def d_fresh_in : DefD := ⟨("fresh_in", none), "fresh_in", "fresh_in", defArgs s_fresh_in, defBody s_fresh_in, defScope s_fresh_in, [], []⟩
def d_met_in : DefD := ⟨("met_in", none), "met_in", "met_in", defArgs s_met_in, defBody s_met_in, defScope s_met_in, [], []⟩
def d_is_complete : DefD := ⟨("is_complete", none), "is_complete", "is_complete", defArgs s_is_complete, defBody s_is_complete, defScope s_is_complete, [], []⟩
def d_law_start : DefD := ⟨("_law_start", none), "_law_start", "_law_start", defArgs s_law_start, defBody s_law_start, defScope s_law_start, [], []⟩
def d_law_throw : DefD := ⟨("_law_throw", none), "_law_throw", "_law_throw", defArgs s_law_throw, defBody s_law_throw, defScope s_law_throw, [], []⟩
def d_law_pick : DefD := ⟨("_law_pick", none), "_law_pick", "_law_pick", defArgs s_law_pick, defBody s_law_pick, defScope s_law_pick, [], []⟩
def d_law_shuffled : DefD := ⟨("_law_shuffled", none), "_law_shuffled", "_law_shuffled", defArgs s_law_shuffled, defBody s_law_shuffled, defScope s_law_shuffled, [], []⟩
def d_law_drawn_word : DefD := ⟨("_law_drawn_word", none), "_law_drawn_word", "_law_drawn_word", defArgs s_law_drawn_word, defBody s_law_drawn_word, defScope s_law_drawn_word, [], []⟩
def d_law_word : DefD := ⟨("_law_word", none), "_law_word", "_law_word", defArgs s_law_word, defBody s_law_word, defScope s_law_word, [], []⟩
def d_law_copier : DefD := ⟨("_law_copier", none), "_law_copier", "_law_copier", defArgs s_law_copier, defBody s_law_copier, defScope s_law_copier, [], []⟩
def d_law_wrong_edits : DefD := ⟨("_law_wrong_edits", none), "_law_wrong_edits", "_law_wrong_edits", defArgs s_law_wrong_edits, defBody s_law_wrong_edits, defScope s_law_wrong_edits, [], []⟩
def d_law_fine_edit : DefD := ⟨("_law_fine_edit", none), "_law_fine_edit", "_law_fine_edit", defArgs s_law_fine_edit, defBody s_law_fine_edit, defScope s_law_fine_edit, [], []⟩
def d_law_spoilt : DefD := ⟨("_law_spoilt", none), "_law_spoilt", "_law_spoilt", defArgs s_law_spoilt, defBody s_law_spoilt, defScope s_law_spoilt, [], []⟩
def d_law_too_low : DefD := ⟨("_law_too_low", none), "_law_too_low", "_law_too_low", defArgs s_law_too_low, defBody s_law_too_low, defScope s_law_too_low, [], []⟩
def d_law_stays : DefD := ⟨("_law_stays", none), "_law_stays", "_law_stays", defArgs s_law_stays, defBody s_law_stays, defScope s_law_stays, [], []⟩
def d_law_numbers_right : DefD := ⟨("_law_numbers_right", none), "_law_numbers_right", "_law_numbers_right", defArgs s_law_numbers_right, defBody s_law_numbers_right, defScope s_law_numbers_right, [], []⟩
def d_law_right : DefD := ⟨("_law_right", none), "_law_right", "_law_right", defArgs s_law_right, defBody s_law_right, defScope s_law_right, [], []⟩
def d_law : DefD := ⟨("law", none), "law", "law", defArgs s_law, defBody s_law, defScope s_law, [], []⟩
def d_Marks_row_in : DefD := ⟨("Marks", some "row_in"), "row_in", "Marks.row_in", defArgs s_Marks_row_in, defBody s_Marks_row_in, defScope s_Marks_row_in, [], []⟩
def d_Marks_row : DefD := ⟨("Marks", some "row"), "row", "Marks.row", defArgs s_Marks_row, defBody s_Marks_row, defScope s_Marks_row, [], []⟩
def d_Marks_init : DefD := ⟨("Marks", some "__init__"), "__init__", "Marks.__init__", defArgs s_Marks_init, defBody s_Marks_init, defScope s_Marks_init, [], []⟩
def d_Marks_eq : DefD := ⟨("Marks", some "__eq__"), "__eq__", "Marks.__eq__", defArgs s_Marks_eq, defBody s_Marks_eq, defScope s_Marks_eq, [], []⟩
def d_TwoPass_walk : DefD := ⟨("TwoPass", some "walk"), "walk", "TwoPass.walk", defArgs s_TwoPass_walk, defBody s_TwoPass_walk, defScope s_TwoPass_walk, [], []⟩
def d_TwoPass_init : DefD := ⟨("TwoPass", some "__init__"), "__init__", "TwoPass.__init__", defArgs s_TwoPass_init, defBody s_TwoPass_init, defScope s_TwoPass_init, [], []⟩
def d_TwoPass_eq : DefD := ⟨("TwoPass", some "__eq__"), "__eq__", "TwoPass.__eq__", defArgs s_TwoPass_eq, defBody s_TwoPass_eq, defScope s_TwoPass_eq, [], []⟩
def d_Editor_version : DefD := ⟨("Editor", some "version"), "version", "Editor.version", defArgs s_Editor_version, defBody s_Editor_version, defScope s_Editor_version, [], []⟩
def d_Editor_show : DefD := ⟨("Editor", some "show"), "show", "Editor.show", defArgs s_Editor_show, defBody s_Editor_show, defScope s_Editor_show, [], []⟩
def d_Editor_change_to : DefD := ⟨("Editor", some "change_to"), "change_to", "Editor.change_to", defArgs s_Editor_change_to, defBody s_Editor_change_to, defScope s_Editor_change_to, [], []⟩
def d_Editor_init : DefD := ⟨("Editor", some "__init__"), "__init__", "Editor.__init__", defArgs s_Editor_init, defBody s_Editor_init, defScope s_Editor_init, [.str ""], []⟩
def d_Editor_make_step : DefD := ⟨("Editor", some "make_step"), "make_step", "Editor.make_step", defArgs s_Editor_make_step, defBody s_Editor_make_step, defScope s_Editor_make_step, [], []⟩
def d_Editor_make : DefD := ⟨("Editor", some "make"), "make", "Editor.make", defArgs s_Editor_make, defBody s_Editor_make, defScope s_Editor_make, [], []⟩
def d_Editor_twin : DefD := ⟨("Editor", some "twin"), "twin", "Editor.twin", defArgs s_Editor_twin, defBody s_Editor_twin, defScope s_Editor_twin, [], []⟩
def d_Editor_undo : DefD := ⟨("Editor", some "undo"), "undo", "Editor.undo", defArgs s_Editor_undo, defBody s_Editor_undo, defScope s_Editor_undo, [], [("many", .int 1)]⟩
def d_Editor_redo : DefD := ⟨("Editor", some "redo"), "redo", "Editor.redo", defArgs s_Editor_redo, defBody s_Editor_redo, defScope s_Editor_redo, [], [("many", .int 1)]⟩
def d_Editor_news : DefD := ⟨("Editor", some "news"), "news", "Editor.news", defArgs s_Editor_news, defBody s_Editor_news, defScope s_Editor_news, [], []⟩
def d_Editor_trial : DefD := ⟨("Editor", some "trial"), "trial", "Editor.trial", defArgs s_Editor_trial, defBody s_Editor_trial, defScope s_Editor_trial, [], []⟩
def d_Editor_attempt : DefD := ⟨("Editor", some "attempt"), "attempt", "Editor.attempt", defArgs s_Editor_attempt, defBody s_Editor_attempt, defScope s_Editor_attempt, [], []⟩
def d_Editor_eq : DefD := ⟨("Editor", some "__eq__"), "__eq__", "Editor.__eq__", defArgs s_Editor_eq, defBody s_Editor_eq, defScope s_Editor_eq, [], []⟩
def d_Trial_init : DefD := ⟨("Trial", some "__init__"), "__init__", "Trial.__init__", defArgs s_Trial_init, defBody s_Trial_init, defScope s_Trial_init, [], []⟩
def d_Trial_enter : DefD := ⟨("Trial", some "__enter__"), "__enter__", "Trial.__enter__", defArgs s_Trial_enter, defBody s_Trial_enter, defScope s_Trial_enter, [], []⟩
def d_Trial_exit : DefD := ⟨("Trial", some "__exit__"), "__exit__", "Trial.__exit__", defArgs s_Trial_exit, defBody s_Trial_exit, defScope s_Trial_exit, [], []⟩
def d_InvalidNumber_init : DefD := ⟨("InvalidNumber", some "__init__"), "__init__", "InvalidNumber.__init__", defArgs s_InvalidNumber_init, defBody s_InvalidNumber_init, defScope s_InvalidNumber_init, [], []⟩
def d_NothingToUndo_init : DefD := ⟨("NothingToUndo", some "__init__"), "__init__", "NothingToUndo.__init__", defArgs s_NothingToUndo_init, defBody s_NothingToUndo_init, defScope s_NothingToUndo_init, [], []⟩
def fnL : List DefD := [d_is_integer, d_is_between, d_is_word, d_is_text, d_require_edit, d_require_text, d_is_over, d_require_rest, d_shared_letters, d_is_mark_number, d_are_ascending, d_are_letters, d_put_in, d_cut_out, d_edited, d_walk_in, d_require_machine, d_news_between, d_require_many, d_is_step_key, d_is_target, d_is_key, d_met_order_marks, d_are_good, d_are_steps, d_require_marks, d_keys_from, d_have_forms, d_fresh_in, d_met_in, d_is_complete, d_law_start, d_law_throw, d_law_pick, d_law_shuffled, d_law_drawn_word, d_law_word, d_law_copier, d_law_wrong_edits, d_law_fine_edit, d_law_spoilt, d_law_too_low, d_law_stays, d_law_numbers_right, d_law_right, d_law, d_Marks_row_in, d_Marks_row, d_Marks_init, d_Marks_eq, d_TwoPass_walk, d_TwoPass_init, d_TwoPass_eq, d_Editor_version, d_Editor_show, d_Editor_change_to, d_Editor_init, d_Editor_make_step, d_Editor_make, d_Editor_twin, d_Editor_undo, d_Editor_redo, d_Editor_news, d_Editor_trial, d_Editor_attempt, d_Editor_eq, d_Trial_init, d_Trial_enter, d_Trial_exit, d_InvalidNumber_init, d_NothingToUndo_init]
def g_Editor_text : DefD := ⟨("Editor", some "text"), "text", "Editor.text", defArgs s_Editor_text, defBody s_Editor_text, defScope s_Editor_text, [], []⟩
def g_Editor_log : DefD := ⟨("Editor", some "log"), "log", "Editor.log", defArgs s_Editor_log, defBody s_Editor_log, defScope s_Editor_log, [], []⟩
def g_TwoPass_marks : DefD := ⟨("TwoPass", some "marks"), "marks", "TwoPass.marks", defArgs s_TwoPass_marks, defBody s_TwoPass_marks, defScope s_TwoPass_marks, [], []⟩
def gsL : List (Str × Str × DefD) := [("Editor", "text", g_Editor_text), ("Editor", "log", g_Editor_log), ("TwoPass", "marks", g_TwoPass_marks)]
def faL : List Fa := [.glo "is_integer", .glo "is_between", .glo "is_word", .glo "is_text", .glo "require_edit", .glo "require_text", .glo "is_over", .glo "require_rest", .glo "shared_letters", .glo "is_mark_number", .glo "are_ascending", .glo "are_letters", .glo "put_in", .glo "cut_out", .glo "edited", .glo "walk_in", .glo "require_machine", .glo "news_between", .glo "require_many", .glo "is_step_key", .glo "is_target", .glo "is_key", .glo "met_order_marks", .glo "are_good", .glo "are_steps", .glo "require_marks", .glo "keys_from", .glo "have_forms", .glo "fresh_in", .glo "met_in", .glo "is_complete", .glo "_law_start", .glo "_law_throw", .glo "_law_pick", .glo "_law_shuffled", .glo "_law_drawn_word", .glo "_law_word", .glo "_law_copier", .glo "_law_wrong_edits", .glo "_law_fine_edit", .glo "_law_spoilt", .glo "_law_too_low", .glo "_law_stays", .glo "_law_numbers_right", .glo "_law_right", .glo "law", .glo "Marks", .glo "TwoPass", .glo "Editor", .glo "Trial", .glo "InvalidMachine", .glo "InvalidText", .glo "InvalidOperation", .glo "InvalidEdit", .glo "InvalidNumber", .glo "NothingToUndo", .free "isinstance", .free "int", .free "bool", .free "str", .free "tuple", .free "dict", .free "len", .free "all", .free "zip", .free "range", .free "list", .free "sorted", .free "enumerate", .free "max", .free "min", .free "abs", .free "repr", .str "PUT" "put", .str "CUT" "cut", .str "USE" "use", .str "LETTERS" "abcdefghijklmnopqrstuvwxyz", .int "MAX_TEXT" 60, .int "MOST_LETTERS_words" 4, .int "MAX_WRITER" 1000, .int "MAX_MARKS" 256, .cls "Marks", .cls "TwoPass", .cls "Editor", .cls "Trial", .mkr "Marks", .mkr "TwoPass", .mkr "Editor", .mkr "Trial", .meth "Marks" "row_in", .meth "Marks" "row", .meth "Marks" "__init__", .meth "Marks" "__eq__", .meth "TwoPass" "walk", .meth "TwoPass" "__init__", .meth "TwoPass" "__eq__", .meth "Editor" "version", .meth "Editor" "show", .meth "Editor" "change_to", .meth "Editor" "__init__", .meth "Editor" "make_step", .meth "Editor" "make", .meth "Editor" "twin", .meth "Editor" "undo", .meth "Editor" "redo", .meth "Editor" "news", .meth "Editor" "trial", .meth "Editor" "attempt", .meth "Editor" "__eq__", .meth "Trial" "__init__", .meth "Trial" "__enter__", .meth "Trial" "__exit__", .exc "InvalidMachine", .exc "InvalidText", .exc "InvalidOperation", .exc "InvalidEdit", .noat "Trial" "own_editor", .noat "Trial" "own_kept", .noat "InvalidNumber" "value", .noat "NothingToUndo" "many"]
def t3 (K : PySem.W.Frag) : Cls3 := ⟨ga K "TwoPass", ga K "Marks", ga K "Editor"⟩
def c6 (K : PySem.W.Frag) : Cls6 := ⟨ga K "InvalidMachine", ga K "InvalidText", ga K "InvalidOperation", ga K "InvalidEdit", ga K "InvalidNumber", ga K "NothingToUndo"⟩
def insKB (K : PySem.W.Frag) (C : Addr) : Bool := decide (PySem.W.findIn K (.ref C) "__class__" = some (some (.builtin "object.__class__"))) && (decide (PySem.W.specialIn K (.builtin "object.__class__") "__get__" = some (some (.builtin "getset_descriptor.__get__"))) && (decide (PySem.W.takesIn K (.builtin "object.__class__") = some true) && (decide (PySem.W.mroIn K C (.type "object") = some true) && (decide (PySem.W.kitOne K (.ref C) (.ref C) = some true) &&
  FLD.all fun f => decide (PySem.W.findIn K (.ref C) f = some none)))))
def kitsB (K : PySem.W.Frag) (T : Cls3) : Bool := ((TYS T).all fun t => (CLS T).all fun c => decide (PySem.W.kitOne K t c = some (kitB2 t c))) && (decide (T.t ≠ T.m) && (decide (T.t ≠ T.e) && decide (T.m ≠ T.e)))
def eqB (K : PySem.W.Frag) (C : Addr) (f : Addr) : Bool := PySem.W.ownEqIn K C f && (match K.lookup f with
  | some o => decide (o.cls = .type "function")
  | none => false)
def excsB (K : PySem.W.Frag) (C : Cls6) : Bool := (C.all.all fun a => C.all.all fun b => decide (PySem.W.exmOne K (.ref a) (.ref b) = some (decide (a = b)))) && (decide C.all.Nodup && (xfB K C.n && (xfB K C.u && (ogB K C.n bmIx "IndexError.__new__" && (ogB K C.u bmLk "LookupError.__new__" &&
  (decide (PySem.W.findIn K (.ref C.n) "__init__" = some (some (.ref (ma K C.n "__init__")))) && (decide (PySem.W.findIn K (.ref C.u) "__init__" = some (some (.ref (ma K C.u "__init__")))) && (decide (PySem.W.typeIn K (.ref (ma K C.n "__init__")) = some (.type "function")) && decide (PySem.W.typeIn K (.ref (ma K C.u "__init__")) = some (.type "function"))))))))))
def tfL : List Defn := [("_law_numbers_right", none), ("_law_right", none), ("law", none)]
def tb3 (K : PySem.W.Frag) : Tab3 := ⟨(cT K ("_law_numbers_right", none)).2, (cT K ("_law_right", none)).2, (cT K ("law", none)).2⟩
def exL (K : PySem.W.Frag) : Bool := insKB K (t3 K).t && (insKB K (t3 K).m && (insKB K (t3 K).e && (kitsB K (t3 K) && (eqB K (t3 K).t (ma K (t3 K).t "__eq__") && (eqB K (t3 K).m (ma K (t3 K).m "__eq__") && (eqB K (t3 K).e (ma K (t3 K).e "__eq__") && (excsB K (c6 K) && (decide (ga K "Trial" ≠ (t3 K).e) &&
  ((gsL.all fun q => propB K q.1 q.2.1 && plainB K q.2.2.qual (getterAt K q.1 q.2.1)) && (decide ((tb3 K).pn ≠ (tb3 K).pr) && (decide ((tb3 K).pn ≠ (tb3 K).pl) && decide ((tb3 K).pr ≠ (tb3 K).pl))))))))))))
/-! ### the Hook: HeadHook4's facts over a smaller part of the heap, and the getters -/
section
variable {α : Type}
def frcA : List Addr → (List Addr → α) → α
  | [], k => k []
  | a :: r, k => HandSHeadRun.frNat a fun a => frcA r fun r => k (a :: r)
theorem frcA_eq : ∀ (l : List Addr) (k : List Addr → α), frcA l k = k l
  | [], _ => rfl
  | a :: r, k => by
    show HandSHeadRun.frNat a (fun a => frcA r fun r => k (a :: r)) = _
    rw [HandSHeadRun.frNat_eq, frcA_eq r]
def frcK : List (Addr × Obj) → (List (Addr × Obj) → α) → α
  | [], k => k []
  | (a, o) :: r, k => HandSHeadRun.frNat a fun a => frcK r fun r => k ((a, o) :: r)
theorem frcK_eq : ∀ (l : List (Addr × Obj)) (k : List (Addr × Obj) → α), frcK l k = k l
  | [], _ => rfl
  | (a, o) :: r, k => by
    show HandSHeadRun.frNat a (fun a => frcK r fun r => k ((a, o) :: r)) = _
    rw [HandSHeadRun.frNat_eq, frcK_eq r]
end
def clsL : List Str := ["Marks", "TwoPass", "Editor", "Trial", "InvalidMachine", "InvalidText", "InvalidOperation", "InvalidEdit", "InvalidNumber", "NothingToUndo"]
def fnN0 : List Str := ["is_integer", "is_between", "is_word", "is_text", "require_edit", "require_text", "is_over", "require_rest", "shared_letters", "is_mark_number", "are_ascending", "are_letters", "put_in", "cut_out", "edited", "walk_in", "require_machine", "news_between", "require_many", "is_step_key"]
def fnN1 : List Str := ["is_target", "is_key", "met_order_marks", "are_good", "are_steps", "require_marks", "keys_from", "have_forms", "fresh_in", "met_in", "is_complete", "_law_start", "_law_throw", "_law_pick", "_law_shuffled", "_law_drawn_word", "_law_word", "_law_copier", "_law_wrong_edits", "_law_fine_edit"]
def fnN2 : List Str := ["_law_spoilt", "_law_too_low", "_law_stays", "_law_numbers_right", "_law_right", "law"]
def fnN : List Str := fnN0 ++ fnN1 ++ fnN2
abbrev AlK : Type := AlT × Bool × List FnW
def lookK (g : Addr → Option Obj) (K : PySem.W.Frag) : AlK := (obsT faL fnL [] K, exL K && tabsB g tfL K, gsL.map fun q => fnAt K (getterAt K q.1 q.2.1))
def mroA (g : Addr → Option Obj) (C : Addr) : List Addr := match g C with
  | some ⟨_, _, .cls cd, _⟩ => cd.mro.flatMap refV
  | _ => []
def nsA (g : Addr → Option Obj) (C : Addr) : List Addr := match g C with
  | some ⟨_, _, .cls cd, _⟩ => [cd.ns]
  | _ => []
def dictA (g : Addr → Option Obj) (C : Addr) : List Addr := match g C with
  | some ⟨_, _, .dict es _, _⟩ => es.toList.flatMap fun e => refV e.val
  | _ => []
def refA (g : Addr → Option Obj) (f : Addr) : List Addr := match g f with
  | some ⟨_, _, .func fd, _⟩ => refV fd.code ++ (refV fd.defaults ++ refV fd.kwdefaults)
  | some ⟨_, _, .fields vs, _⟩ => vs.toList.flatMap refV
  | _ => []
def withK {α : Type} (g : Addr → Option Obj) (k : PySem.W.Frag → α) : α :=
  frcA (clsL.map (ga (frG g [mainGlobals]))) fun c0 => frcA (fnN.map (ga (frG g [mainGlobals]))) fun f0 => frcA (c0.flatMap (mroA g)) fun c1 => frcA (c1.flatMap (nsA g)) fun n1 => frcA (n1.flatMap (dictA g)) fun m1 => frcA (m1.flatMap (refA g)) fun m2 => frcA ((m2 ++ f0).flatMap (refA g)) fun f1 =>
  frcK (frT g (mainGlobals :: (c1 ++ (n1 ++ (m1 ++ (f0 ++ (m2 ++ f1))))))) k
def obsK (g : Addr → Option Obj) : AlK := withK g fun K => lookK g K
def valK (w : World) : AlK := (valT fnL [] w, true, gsL.map fun q => q.2.2.val)
structure SaysK (w : World) (h : Heap) (K : PySem.W.Frag) : Prop where
  x : SaysX faL fnL [] tfL exL w h K
  g : (gsL.map fun q => fnAt K (getterAt K q.1 q.2.1)) = gsL.map fun q => q.2.2.val
theorem says_at {w : World} {h : Heap} {as : List Addr} (e : lookK h.get? (frT h.get? as) = valK w) : SaysK w h (frT h.get? as) := by
  have e1 : obsT faL fnL [] (frT h.get? as) = valT fnL [] w := congrArg (fun z : AlK => z.1) e
  have e2 : (exL (frT h.get? as) && tabsB h.get? tfL (frT h.get? as)) = true := congrArg (fun z : AlK => z.2.1) e
  have e3 := congrArg (fun z : AlK => z.2.2) e
  obtain ⟨h1, h2⟩ := ba e2
  have key : ∀ p ∈ tfL, PySem.W.codeHdIn (frT h.get? as) (cT (frT h.get? as) p).1 (cT (frT h.get? as) p).2 = true ∧ ∃ o, h.get? (cT (frT h.get? as) p).2 = some o ∧ emptyTab o = true := fun p hp => by
    obtain ⟨h3, h4⟩ := ba (List.all_eq_true.mp h2 p hp)
    refine ⟨h3, ?_⟩
    cases q : h.get? (cT (frT h.get? as) p).2 with
    | none => rw [q] at h4; cases h4
    | some o => rw [q] at h4; exact ⟨o, rfl, h4⟩
  refine ⟨⟨e1, h1, fun p hp => (key p hp).1, fun p hp => ?_, fun p hp => ?_⟩, e3⟩
  · obtain ⟨_, o, q, z⟩ := key p hp
    exact frT_none q z
  · obtain ⟨_, o, q, z⟩ := key p hp
    rw [q, emptyTab_eq z]
theorem says_of {w : World} {h : Heap} (e : obsK h.get? = valK w) : ∃ K : PySem.W.Frag, K.In h ∧ SaysK w h K := by
  unfold obsK withK at e
  simp only [frcA_eq, frcK_eq] at e
  exact ⟨_, frT_in, says_at e⟩
def hookK : PySem.W.Hook where
  α := AlK
  obs := fun s => obsK s.heap.get?
  val := fun w => valK w
  says := fun w h => ∃ K : PySem.W.Frag, K.In h ∧ SaysK w h K
  of := fun _ _ e => says_of e
  keeps := fun _ _ _ ⟨K, hK, c⟩ k => ⟨K, PySem.W.Frag.In.keeps hK k, ⟨⟨c.x.t, c.x.more, c.x.hd, c.x.out, fun p hp => k _ _ (c.x.empty p hp)⟩, c.g⟩⟩
abbrev RR : PySem.W.OpenRow := PySem.W.OpenLaw.row PySem.Challenge.rw_fewmarks_k67_editor_errors
def obK (s : PySem.W.SharedT) : AlK := obsK (HandSHeadRun.getT s)
theorem obK_eq (s : PySem.W.SharedT) : obK s = hookK.obs s.abs := by
  have e : HandSHeadRun.getT s = s.abs.heap.get? := funext (HandSHeadRun.getT_eq s)
  show obsK (HandSHeadRun.getT s) = obsK s.abs.heap.get?
  rw [e]
def nmL0 : List Str := ["_wall", "MarkError", "InvalidText", "InvalidRewriter", "InvalidMachine", "InvalidOperation", "InvalidEdit", "InvalidNumber", "TooMany", "NotSingle", "NothingToUndo", "MAX_TEXT", "MOST_LETTERS_words", "LETTERS", "is_integer", "is_between", "is_word", "is_text", "are_ascending", "are_letters", "shared_letters", "delay_in", "led_on_in", "place_in_order", "ordered"]
def nmL1 : List Str := ["MOST_RESULTS", "sources_in", "lefts_in", "has_result_in", "words_behind", "some_results_in", "results_in", "MOST_STATES", "MOST_EDGES", "MOST_LETTERS_joining", "met_from", "linked", "useful_in", "numbered_in", "turned_in", "moved_by", "chosen_in", "ways_in", "behind_in", "steps_in", "reached_in", "leading_in", "end_pairs", "two_path_in", "way_in"]
def nmL2 : List Str := ["row_to", "edges_of", "SINGLE_single_inner", "TWO", "whole_word", "further_paths", "two_paper", "start_delays", "unlike_ends", "single_paper_in", "MAX_STATES", "MAX_EDGES", "MAX_WORD", "SINGLE_rewriters", "is_short", "is_number", "are_worded", "is_edge", "are_edges", "edges_after", "edges_before", "kept_words", "Rewriter", "require_rewriter", "require_one_result"]
def nmL3 : List Str := ["require_text", "require_rest", "keys_from", "walk_in", "result_of", "met_order", "met_order_running", "MAX_MARKS", "is_mark_number", "is_step_key", "are_steps", "met_order_marks", "are_good", "Marks", "require_marks", "require_mark", "MAX_WRITER", "is_target", "is_key", "have_forms", "met_in", "fresh_in", "is_complete", "renumbered_in", "numbers_of"]
def nmL4 : List Str := ["TwoPass", "require_machine", "PUT", "CUT", "USE", "is_over", "require_edit", "put_in", "cut_out", "edited", "news_between", "Trial", "Editor", "require_many", "_law_start", "_law_throw", "_law_pick", "_law_shuffled", "_law_drawn_word", "_law_word", "_law_copier", "_law_wrong_edits", "_law_fine_edit", "_law_spoilt", "_law_too_low"]
def nmL5 : List Str := ["_law_stays", "_law_numbers_right", "_law_right"]
def nmL : List Str := nmL0 ++ nmL1 ++ nmL2 ++ nmL3 ++ nmL4 ++ nmL5
end K67
end
section
set_option Elab.async false
set_option linter.all false
set_option maxRecDepth 100000
set_option maxHeartbeats 0
namespace K67
open PySem PySem.Spec PyProof.Rows L2 LamX He
/-! ### the top's run, looked at in parts (one look at all takes too much memory) -/
/-- the state behind the top, looked at -/
abbrev LookEq {α : Type} (f : PySem.W.SharedT → α) (v : α) (w : World) : Prop := ∀ os : OsState, (HandSHeadRun.endF (HandSHeadRun.stepQ (HandSHeadRun.denQ HandSHeadRun.tabQ) RR.prog w) 20000 RR.prog w os).map f = some v
abbrev qvw : Program := PySem.W.view RR.prog [141]
def lookA (g : Addr → Option Obj) : Bool × Bool := withK g fun K => (faL.all fun f => f.ok K, (fnL.take 36).all fun d => d.ok K)
def lookB (g : Addr → Option Obj) : Bool × Bool × List FnW × List FnW := withK g fun K => ((fnL.drop 36).all fun d => d.ok K, exL K && tabsB g tfL K, fnL.map (fun d => fnW K d.at_), gsL.map fun q => fnAt K (getterAt K q.1 q.2.1))
theorem run1 (w : World) : LookEq (fun s => HandSHeadRun.looksF RR.prog (PySem.W.boot_heap w.params) s.abs) true w := by
  intro os
  kernel_rfl
theorem run2 (w : World) : LookEq (fun s => HandSHeadRun.seenQ qvw nmL (importedModules RR.prog.main.body) (fun s => PySem.W.xlAt qvw [] s && PySem.W.recOk RR.toRowW.records s) s.abs) (PySem.W.openGood qvw nmL) w := by
  intro os
  kernel_rfl
theorem runA (w : World) : LookEq (fun s => lookA (HandSHeadRun.getT s)) (true, true) w := by
  intro os
  kernel_rfl
theorem runB (w : World) : LookEq (fun s => lookB (HandSHeadRun.getT s)) (true, true, fnL.map DefD.val, gsL.map fun q => q.2.2.val) w := by
  intro os
  kernel_rfl
theorem withK_eq {α : Type} (g : Addr → Option Obj) (k : PySem.W.Frag → α) : withK g k = k (withK g fun K => K) := by
  unfold withK
  simp only [frcA_eq, frcK_eq]
theorem obs_all {w : World} {g : Addr → Option Obj} (a : lookA g = (true, true)) (b : lookB g = (true, true, fnL.map DefD.val, gsL.map fun q => q.2.2.val)) : obsK g = valK w := by
  obtain ⟨K, eK⟩ : ∃ K : PySem.W.Frag, K = withK g fun K => K := ⟨_, rfl⟩
  have hK : ∀ {α : Type} (k : PySem.W.Frag → α), withK g k = k K := fun k => by rw [eK]; exact withK_eq g k
  unfold lookA at a
  unfold lookB at b
  rw [hK] at a b
  unfold obsK
  rw [hK]
  have a1 : (faL.all fun f => f.ok K) = true := congrArg (fun z => z.1) a
  have a2 : ((fnL.take 36).all fun d => d.ok K) = true := congrArg (fun z => z.2) a
  have c : ((fnL.drop 36).all fun d => d.ok K) = true := congrArg (fun z => z.1) b
  have d : (exL K && tabsB g tfL K) = true := congrArg (fun z => z.2.1) b
  have e1 : fnL.map (fun d => fnW K d.at_) = fnL.map DefD.val := congrArg (fun z => z.2.2.1) b
  have e2 : (gsL.map fun q => fnAt K (getterAt K q.1 q.2.1)) = gsL.map fun q => q.2.2.val := congrArg (fun z => z.2.2.2) b
  have bc : (fnL.all fun d => d.ok K) = true := by
    rw [← List.take_append_drop 36 fnL, List.all_append, a2, c]
    rfl
  unfold lookK valK
  rw [d, e2]
  have e3 : obsT faL fnL [] K = valT fnL [] w := by
    unfold obsT valT obsD valD
    rw [a1, bc, e1]
    rfl
  rw [e3]
theorem runK (w : World) : HandSHeadRun.RunEq RR (PySem.W.view RR.prog [141]) hookK obK 20000 nmL w := by
  intro os
  have a := runA w os
  have b := runB w os
  have c := run1 w os
  have d := run2 w os
  cases h : HandSHeadRun.endF (HandSHeadRun.stepQ (HandSHeadRun.denQ HandSHeadRun.tabQ) RR.prog w) 20000 RR.prog w os with
  | none => rw [h] at a; cases a
  | some s =>
    rw [h] at a b c d
    rw [Option.map_some] at a b c d ⊢
    have o := obs_all (w := w) (Option.some.inj a) (Option.some.inj b)
    have o2 : obK s = hookK.val w := o
    exact congrArg some (Prod.ext (Option.some.inj c) (Prod.ext (Option.some.inj d) o2))
end K67
end
section
set_option Elab.async false
set_option linter.all false
set_option maxRecDepth 100000
set_option maxHeartbeats 4000000
namespace K67
open PySem PySem.Spec PyProof.Rows L2
/-! ### what the module's names hold -/
/-- the built-in names that the text does not bind -/
structure BN (mg : Str → Option Value) : Prop where
  isinstance : mg "isinstance" = none
  int : mg "int" = none
  bool : mg "bool" = none
  str : mg "str" = none
  tuple : mg "tuple" = none
  dict : mg "dict" = none
  len : mg "len" = none
  all : mg "all" = none
  zip : mg "zip" = none
  range : mg "range" = none
  list : mg "list" = none
  sorted : mg "sorted" = none
  enumerate : mg "enumerate" = none
  max : mg "max" = none
  min : mg "min" = none
  abs : mg "abs" = none
  repr : mg "repr" = none
/-- a def as a callee: at a level, by a promise -/
structure Cal (P : Program) (w : World) (K : PySem.W.Frag) (mg : Str → Option Value) (base : Heap) (CX : CXT) (k : Nat) (x : Str) (sp : Sp) : Prop where
  ex : ∃ (f : Addr) (fd : FuncData) (ps : List Str), FnOk P w K mg base CX k f fd ps sp ∧ mg x = some (.ref f) ∧ PySem.W.keepIn K (.ref f) = true ∧ Binds K fd ps []
section
variable {X : Cx} {CX : CXT} {k j : Nat} {x : Str} {sp : Sp} {p pos : Pos} {e : Expr} {es : List Expr} {t : TA} {E : XK}
theorem pe_c (c : Cal X.prog X.w X.K X.mg X.base CX k x sp) (hr : Room j X.A) (hk : k ≤ j) (hg : Gl X x) (hx : Passes CX X E) (ha : PA X (e :: es) t)
    (hdb : (x == ("__debug__" : Str)) = false := by decide) (he : starEach (e :: es) X.env = (false, eval e X.env) :: starEach es X.env := by rfl) (hpl : (backTo pos (starEach es X.env)).any (·.1) = false := by rfl) :
    PE X (.Call (.Name x p) (e :: es) [] pos) (tCall sp [] E t) := by
  obtain ⟨f, fd, ps, F, hm, kp, b⟩ := c.ex
  exact pe_call F (hr.mono hk) hg hm kp b .nil hx ha hdb he hpl
end
/-! ### kinds of values -/
/-- an object that is no int, text, bool -/
def RefK (K : PySem.W.Frag) (H : Hp) (a : Addr) : Prop := ∃ t, TyX K H (.ref a) t ∧ PySem.W.kitOne K t (.type "int") = some false ∧ PySem.W.kitOne K t (.type "str") = some false ∧ PySem.W.kitOne K t (.type "bool") = some false
def Nice (K : PySem.W.Frag) (H : Hp) : V → Prop
  | .non => True | .bl _ => True | .int _ => True | .str _ => True
  | .ref a => RefK K H a
  | _ => False
def isI : V → Bool
  | .int _ => true
  | _ => false
def isS : V → Bool
  | .str _ => true
  | _ => false
theorem kit_int {K : PySem.W.Frag} {H : Hp} {v : V} (n : Nice K H v) : ∃ t b, TyX K H v t ∧ PySem.W.kitOne K t (.type "int") = some b ∧ (b = true → (∃ i, v = .int i) ∨ ∃ k, v = .bl k) ∧ (b = false → isI v = false) := by
  cases v with
  | non => exact ⟨_, false, .base .non, kit_ty (by decide +kernel), fun h => (by cases h), fun _ => rfl⟩
  | bl k => exact ⟨_, true, .base (.bl k), kit_ty (by decide +kernel), fun _ => .inr ⟨k, rfl⟩, fun h => (by cases h)⟩
  | int i => exact ⟨_, true, .base (.int i), kit_ty (by decide +kernel), fun _ => .inl ⟨i, rfl⟩, fun h => (by cases h)⟩
  | str x => exact ⟨_, false, .base (.str x), kit_ty (by decide +kernel), fun h => (by cases h), fun _ => rfl⟩
  | ref a =>
    obtain ⟨t, h1, h2, _, _⟩ := n
    exact ⟨t, false, h1, h2, fun h => (by cases h), fun _ => rfl⟩
  | _ => exact n.elim
theorem kit_str {K : PySem.W.Frag} {H : Hp} {v : V} (n : Nice K H v) : ∃ t, TyX K H v t ∧ PySem.W.kitOne K t (.type "str") = some (isS v) := by
  cases v with
  | non => exact ⟨_, .base .non, kit_ty (by decide +kernel)⟩
  | bl k => exact ⟨_, .base (.bl k), kit_ty (r := false) (by decide +kernel)⟩
  | int i => exact ⟨_, .base (.int i), kit_ty (r := false) (by decide +kernel)⟩
  | str x => exact ⟨_, .base (.str x), kit_ty (r := true) (by decide +kernel)⟩
  | ref a =>
    obtain ⟨t, h1, _, h2, _⟩ := n
    exact ⟨t, h1, h2⟩
  | _ => exact n.elim
section
variable {P : Program} {w : World} {K : PySem.W.Frag} {mg : Str → Option Value} {base : Heap}
/-! ### is_integer -/
def spIsInt (K : PySem.W.Frag) : Sp := fun vs H Q _ => ∃ v, vs = [v] ∧ Nice K H v ∧ Q (.bl (isI v)) H
theorem ok_is_integer {f : Addr} {fd : FuncData} (F : FnP K "is_integer" "is_integer" s_is_integer f fd) (B : BN mg) : FnOk P w K mg base CX0 1 f fd ["value"] (spIsInt K) := by
  refine F.ok sc_is_integer (fun vs H Q E h => ?_) (fun cdv A outer s H vs Q E hr h => ?_)
  · obtain ⟨v, rfl, _⟩ := h
    rfl
  · obtain ⟨v, rfl, n, q⟩ := h
    refine ⟨_, pss_one (ps_ret (pe_and (pe_callB call_isi (by rfl) B.isinstance (by decide +kernel) (pa_cons (pv 0) (pa_cons (pe_bltn (v := .ty "int") (by rfl) B.int (by decide +kernel) rfl) pa_nil)))
      (pe_one (pe_not (pe_callB call_isi (by rfl) B.isinstance (by decide +kernel) (pa_cons (pv 0) (pa_cons (pe_bltn (v := .ty "bool") (by rfl) B.bool (by decide +kernel) rfl) pa_nil))))))), ?_⟩
    obtain ⟨t, b, ty, kt, h1, h2⟩ := kit_int n
    refine ⟨v, rfl, v, .ty "int", t, _, b, rfl, .ty "int", ty, kt, b, rfl, ?_⟩
    cases b with
    | false =>
      refine iteF ?_
      rw [h2 rfl] at q
      exact q
    | true =>
      refine iteT ?_
      rcases h1 rfl with ⟨i, rfl⟩ | ⟨k, rfl⟩
      · exact ⟨_, rfl, _, .ty "bool", _, _, false, rfl, .ty "bool", .base (.int i), kit_ty (by decide +kernel), false, rfl, q⟩
      · exact ⟨_, rfl, _, .ty "bool", _, _, true, rfl, .ty "bool", .base (.bl k), kit_ty (by decide +kernel), true, rfl, q⟩
end
end K67
end
section
set_option Elab.async false
set_option linter.all false
set_option maxRecDepth 100000
set_option maxHeartbeats 4000000
namespace K67
open PySem PySem.Spec PyProof.Rows L2
/-! ### comprehensions that keep what stands -/
theorem same_upd {H : Hp} {p : Addr} {o : HO} (h : H p = none) : Same H (upd H p o) := fun b x e => by
  rw [upd_ne (ne_of_none e h)]
  exact e
theorem same_put {H0 H : Hp} {p : Addr} {o : HO} (s : Same H0 H) (h : H0 p = none) : Same H0 (upd H p o) := fun b x e => by
  rw [upd_ne (ne_of_none e h)]
  exact s b x e
theorem take_snoc {xs : List V} {i : Nat} {x : V} (h : xs[i]? = some x) : xs.take (i + 1) = xs.take i ++ [x] := by
  rw [List.take_add_one, h]; rfl
/-- [f x for ..], no test: the new list is ys -/
theorem lc_gen {J : It} {n : Nat} {G : Hp → Prop} {Y : Nat → Hp → V → Hp → Prop} (w : Walk J n G Y) {g : TG} {te : TE} {vs : List Nat} {σ : L2.St} {H1 : Hp} {D : Addr} {Qd : Hp → Prop} (ys : List V) (hn : ys.length = n) (hz : n ≤ sizeLine) (hD : H1 D = none)
    (hG : ∀ H, Same H1 H → G H)
    (hs : ∀ i x H H', i < n → Same H1 H → (∃ o, H D = some o) → Y i H x H' → g x (wipe σ vs) H' fun σ2 H2 => wipe σ2 vs = wipe σ vs ∧ te σ2 H2 fun y H4 => ys[i]? = some y ∧ H4 D = H D ∧ Same H1 H4) (hd : ∀ H, Same H1 H → H D = some (.lst ys) → Qd H)
    (mono : ∀ x σ1 H Q Q', (∀ σ2 H2, Q σ2 H2 → Q' σ2 H2) → g x σ1 H Q → g x σ1 H Q') (mono2 : ∀ σ1 H (Q Q' : VK), (∀ y H2, Q y H2 → Q' y H2) → te σ1 H Q → te σ1 H Q') :
    ∃ W : Nat → Nat → Hp → Prop, (∃ m, W 0 m (upd H1 D (.lst []))) ∧ ∀ i m H, W i m H →
      (J.stop i H ∧ Qd H) ∨ (J.go i H ∧ ∃ Nx : Hp → Prop, (∀ H', Nx H' → ∃ m', m' < m ∧ W (i + 1) m' H') ∧ ∀ x H', J.yld i H x H' → g x (wipe σ vs) H' fun σ2 H2 => wipe σ2 vs = wipe σ vs ∧ tYes σ2 H2 fun b H3 =>
        if b = true then te σ2 H3 fun y H4 => ∃ acc, H4 D = some (.lst acc) ∧ acc.length < sizeLine ∧ Nx (upd H4 D (.lst (acc ++ [y]))) else Nx H3) := by
  refine lc_it w (fun i H => Same H1 H ∧ H D = some (.lst (ys.take i))) ⟨same_upd hD, by rw [upd_same]; rfl⟩ (fun i H _ h => hG H h.1) ?_ ?_
  · rintro i x H H' hi ⟨sm, hl⟩ hy
    refine mono _ _ _ _ _ (fun σ2 H2 q => ⟨q.1, ?_⟩) (hs i x H H' hi sm ⟨_, hl⟩ hy)
    unfold tYes
    refine iteT (mono2 _ _ _ _ (fun y H4 q4 => ?_) q.2)
    obtain ⟨h1, h2, h3⟩ := q4
    refine ⟨ys.take i, by rw [h2]; exact hl, ?_, same_put h3 hD, ?_⟩
    · rw [List.length_take]; omega
    · rw [upd_same, take_snoc h1]
  · rintro H ⟨sm, hl⟩
    refine hd H sm ?_
    rw [hl, List.take_of_length_le (by omega)]
theorem mono_name {i : Nat} : ∀ x σ1 H (Q Q' : L2.St → Hp → Prop), (∀ σ2 H2, Q σ2 H2 → Q' σ2 H2) → gName i x σ1 H Q → gName i x σ1 H Q' := fun _ _ _ _ _ h q => h _ _ q
/-! ### words -/
def LET : List Nat := [97, 98, 99, 100, 101, 102, 103, 104, 105, 106, 107, 108, 109, 110, 111, 112, 113, 114, 115, 116, 117, 118, 119, 120, 121, 122]
def letB (c : Nat) : Bool := decide (c ∈ LET)
def wordB (z : Str) : Bool := z.cps.toList.all letB
def isW : V → Bool
  | .str z => wordB z
  | _ => false
def isT : V → Bool
  | .str z => decide ((z.length : Int) ≤ 60) && wordB z
  | _ => false
/-- a text that is not too long -/
def Short : V → Prop
  | .str z => z.length ≤ sizeLine
  | _ => True
section
variable {P : Program} {w : World} {K : PySem.W.Frag} {mg : Str → Option Value} {base : Heap}
/-! ### is_between -/
def btw (v : V) (lo hi : Int) : Bool := match v with
  | .int i => decide (lo ≤ i) && decide (i ≤ hi)
  | _ => false
def spBtw (K : PySem.W.Frag) : Sp := fun vs H Q _ => ∃ v lo hi, vs = [v, .int lo, .int hi] ∧ Nice K H v ∧ Q (.bl (btw v lo hi)) H
theorem ok_is_between {f : Addr} {fd : FuncData} (F : FnP K "is_between" "is_between" s_is_between f fd) (c1 : Cal P w K mg base CX0 1 "is_integer" (spIsInt K)) : FnOk P w K mg base CX0 2 f fd ["value", "low", "high"] (spBtw K) := by
  have S := sc_is_between
  refine F.ok S (fun vs H Q E h => ?_) (fun cdv A outer s H vs Q E hr h => ?_)
  · obtain ⟨v, lo, hi, rfl, _⟩ := h
    rfl
  · obtain ⟨v, lo, hi, rfl, n, q⟩ := h
    refine ⟨_, (pss_one (ps_ret (pe_and (pe_c c1 hr (by decide) (by rfl) pass0 (pa_cons (pv 0) pa_nil)) (pe_one (pe_chain op_le op_le (pv 1) (pv 0) (pv 2)))))), ?_⟩
    refine ⟨v, rfl, v, rfl, n, _, rfl, ?_⟩
    cases v with
    | int i =>
      refine iteT ⟨_, rfl, _, rfl, lo, i, rfl, rfl, _, rfl, ?_⟩
      by_cases h1 : lo ≤ i
      · rw [decide_eq_true h1]
        refine iteT ⟨_, rfl, i, hi, rfl, rfl, ?_⟩
        have e : btw (.int i) lo hi = decide (i ≤ hi) := by show (decide (lo ≤ i) && decide (i ≤ hi)) = _; rw [decide_eq_true h1, Bool.true_and]
        rw [e] at q
        exact q
      · rw [decide_eq_false h1]
        refine iteF ?_
        have e : btw (.int i) lo hi = false := by show (decide (lo ≤ i) && decide (i ≤ hi)) = _; rw [decide_eq_false h1, Bool.false_and]
        rw [e] at q
        exact q
    | _ => first | exact iteF q | exact n.elim
/-! ### is_word, is_text -/
def spIsWord (K : PySem.W.Frag) : Sp := fun vs H Q _ => ∃ v, vs = [v] ∧ Nice K H v ∧ Short v ∧ ∀ H', Same H H' → Q (.bl (isW v)) H'
theorem all_map {l : List Nat} {p : Nat → Bool} : (l.map p).all id = l.all p := by
  induction l with
  | nil => rfl
  | cons x l ih => rw [List.map_cons, List.all_cons, List.all_cons, ih]; rfl
theorem cps_get {z : Str} {i c : Nat} (h : z.cps[i]? = some c) : z.cps.toList[i]? = some c := by simpa using h
theorem ok_is_word {f : Addr} {fd : FuncData} (F : FnP K "is_word" "is_word" s_is_word f fd) (B : BN mg) (gL : ∃ u, mg "LETTERS" = some u ∧ RelV (.str "abcdefghijklmnopqrstuvwxyz") u) : FnOk P w K mg base CX0 1 f fd ["value"] (spIsWord K) := by
  have S := sc_is_word
  refine F.ok S (fun vs H Q E h => ?_) (fun cdv A outer s H vs Q E hr h => ?_)
  · obtain ⟨v, rfl, _⟩ := h
    rfl
  · obtain ⟨v, rfl, n, hz, q⟩ := h
    refine ⟨_, (pss_one (ps_ret (pe_and (pe_callB call_isi (by rfl) B.isinstance (by decide +kernel) (pa_cons (pv 0) (pa_cons (pe_bltn (v := .ty "str") (by rfl) B.str (by decide +kernel) rfl) pa_nil))) (pe_one (pe_callB (cr_all rfl) (by rfl) B.all (by decide +kernel) (pa_cons (pe_lc (own := [("sign", 1)]) (g := gName 1) (tt := tYes) rfl S.nd (pi_str (pv 0)) (blkOk_by (N := ["value", "sign"]) (sc := defScope s_is_word) (by decide +kernel)) (fun _ _ _ _ _ => (pg_name (i := 1) S.nd rfl (Or.inl rfl))) (fun _ _ _ _ _ => pts_nil) (fun _ _ _ _ _ => (pe_cmpR op_in_sign (pv 1) (C8.pe_gc (by rfl) gL) rfl))) pa_nil)))))), ?_⟩
    obtain ⟨t, ty, kt⟩ := kit_str n
    refine ⟨v, rfl, v, .ty "str", t, _, isS v, rfl, .ty "str", ty, kt, _, rfl, ?_⟩
    cases v with
    | str z =>
      refine iteT ⟨_, rfl, z, rfl, fun D hD => ?_⟩
      refine lc_gen walk_str ((z.cps.toList.map letB).map V.bl) (by simp) hz hD (fun _ _ => True.intro) ?_ ?_ mono_name ?_
      · rintro i x H1 H2 hi sm hl ⟨rfl, c, hc, rfl⟩
        refine ⟨rfl, _, rfl, c, _, rfl, rfl, ?_, rfl, sm⟩
        rw [List.getElem?_map, List.getElem?_map, cps_get hc]
        rfl
      · intro H1 sm hl
        refine ⟨D, z.cps.toList.map letB, rfl, SqL.of hl, ?_⟩
        rw [all_map]
        exact q H1 sm
      · rintro σ1 H1 Q1 Q2 hm ⟨x, hx, c, z', e1, e2, q'⟩
        exact ⟨x, hx, c, z', e1, e2, hm _ _ q'⟩
    | _ => first | exact iteF (q _ (Same.refl _)) | exact n.elim
def spIsText (K : PySem.W.Frag) : Sp := fun vs H Q _ => ∃ v, vs = [v] ∧ Nice K H v ∧ Short v ∧ ∀ H', Same H H' → Q (.bl (isT v)) H'
theorem ok_is_text {f : Addr} {fd : FuncData} (F : FnP K "is_text" "is_text" s_is_text f fd) (B : BN mg) (gM : ∃ u, mg "MAX_TEXT" = some u ∧ RelV (.int 60) u) (c1 : Cal P w K mg base CX0 1 "is_word" (spIsWord K)) : FnOk P w K mg base CX0 2 f fd ["value"] (spIsText K) := by
  have S := sc_is_text
  refine F.ok S (fun vs H Q E h => ?_) (fun cdv A outer s H vs Q E hr h => ?_)
  · obtain ⟨v, rfl, _⟩ := h
    rfl
  · obtain ⟨v, rfl, n, hz, q⟩ := h
    refine ⟨_, (pss_one (ps_ret (pe_and (pe_callB call_isi (by rfl) B.isinstance (by decide +kernel) (pa_cons (pv 0) (pa_cons (pe_bltn (v := .ty "str") (by rfl) B.str (by decide +kernel) rfl) pa_nil))) (pe_and (pe_cmpR op_le (pe_callB call_len (by rfl) B.len (by decide +kernel) (pa_cons (pv 0) pa_nil)) (C8.pe_gc (by rfl) gM) (nomark _)) (pe_one (pe_c c1 hr (by decide) (by rfl) pass0 (pa_cons (pv 0) pa_nil))))))), ?_⟩
    obtain ⟨t, ty, kt⟩ := kit_str n
    refine ⟨v, rfl, v, .ty "str", t, _, isS v, rfl, .ty "str", ty, kt, _, rfl, ?_⟩
    cases v with
    | str z =>
      refine iteT ⟨_, rfl, _, z.length, rfl, ⟨hz, rfl⟩, _, _, rfl, rfl, _, rfl, ?_⟩
      have e : isT (.str z) = (decide ((z.length : Int) ≤ 60) && wordB z) := rfl
      by_cases h1 : (z.length : Int) ≤ 60
      · rw [decide_eq_true h1]
        refine iteT ⟨_, rfl, _, rfl, n, hz, fun H' sm => ?_⟩
        rw [e, decide_eq_true h1, Bool.true_and] at q
        exact q H' sm
      · rw [decide_eq_false h1]
        refine iteF ?_
        rw [e, decide_eq_false h1, Bool.false_and] at q
        exact q _ (Same.refl _)
    | _ => first | exact iteF (q _ (Same.refl _)) | exact n.elim
end
end K67
end
section
set_option Elab.async false
set_option linter.all false
set_option maxRecDepth 100000
set_option maxHeartbeats 4000000
namespace K67
open PySem PySem.Spec PyProof.Rows L2
/-! ### zip of two texts -/
/-- the state of a text's iterator -/
def TIt (x : Str) (t : Tok) (it : Addr) (i : Nat) (h : Heap) : Prop := h.IsStrIter it (strIterType x) x t i
theorem draws_text {prog : Program} {w : World} {A : Around} (hh : A.handled = none) (it : Addr) (x : Str) (t : Tok) :
    Draws prog w A it [it] x.cps.size (fun i v => ∃ c u, x.cps[i]? = some c ∧ v = .str ⟨#[c]⟩ u) (fun i h => TIt x t it i h) := by
  unfold TIt strIterType
  split
  · exact Draws.strAscii hh it x t
  · exact Draws.strWide hh it x t
def Itzs (x y : Str) : It :=
  ⟨fun i _ => i < x.cps.size ∧ i < y.cps.size,
    fun i H v H' => ∃ T c d, v = .ref T ∧ H T = none ∧ H' = upd H T (.tup [.str ⟨#[c]⟩, .str ⟨#[d]⟩]) ∧ x.cps[i]? = some c ∧ y.cps[i]? = some d,
    fun i _ => i = min x.cps.size y.cps.size⟩
theorem turn_zipS {P : Program} {w : World} {K : PySem.W.Frag} {elts : List Expr} {kk : Nat} {tpos : Pos} {z TI TO i1 i2 : Addr} {x y : Str} {t u : Tok} (S : ZipSep2 z TI TO i1 i2 [i1] [i2]) :
    Turn P w K (.Tuple elts kk tpos) (Itzs x y) [z, TI, TO, i1, i2] z (fun i h => IsZip h z TI TO .none ∧ IsTupOf2 h TI (.ref i1) (.ref i2) ∧ (∃ a1 a2, IsTupOf2 h TO a1 a2) ∧ TIt x t i1 i h ∧ TIt y u i2 i h) where
  mem := by simp
  obj := fun i h st c hc => by
    obtain ⟨hz, hTI, ⟨a1, a2, hTO⟩, ⟨o1, e1, _, d1⟩, ⟨o2, e2, _, d2⟩⟩ := st
    have e' : c = z ∨ c = TI ∨ c = TO ∨ c = i1 ∨ c = i2 := by simpa using hc
    rcases e' with q | q | q | q | q
    · rw [q]; exact ⟨_, hz, fun v q => nomatch q⟩
    · rw [q]; exact ⟨_, hTI, fun v q => nomatch q⟩
    · rw [q]; exact ⟨_, hTO, fun v q => nomatch q⟩
    · rw [q]; exact ⟨o1, e1, fun v q => by rw [d1] at q; cases q⟩
    · rw [q]; exact ⟨o2, e2, fun v q => by rw [d2] at q; cases q⟩
  keep := fun i h h' st k => by
    obtain ⟨hz, hTI, ⟨a1, a2, hTO⟩, ⟨o1, e1, r1⟩, ⟨o2, e2, r2⟩⟩ := st
    exact ⟨k z (by simp) _ hz, k TI (by simp) _ hTI, ⟨a1, a2, k TO (by simp) _ hTO⟩, ⟨o1, k i1 (by simp) _ e1, r1⟩, ⟨o2, k i2 (by simp) _ e2, r2⟩⟩
  item := by
    intro X hP hw hK hc i pins s σ H E I hf st hg
    subst hP hw hK
    have hh : X.A.in1.handled = none := I.ok.hd hc
    have W := WalksT.zipD2 (A := X.A) S (draws_text (prog := X.prog) (w := X.w) hh i1 x t) (draws_text (prog := X.prog) (w := X.w) hh i2 y u)
    refine W.item i s _ _ (by have := hg.1; have := hg.2; omega) st fun T vals h' tk hP hT hIs hM hk => ?_
    obtain ⟨x1, x2, ⟨c, t1, hc1, rfl⟩, ⟨d, t2, hd1, rfl⟩, rfl⟩ := hP
    refine ⟨_, rfl, W.go elts kk tpos i T { s with heap := h', toks := tk } _ _ hM fun h'' st'' hk'' => ?_⟩
    have hfw : ∀ b ∈ [z, TO, i1, i2], FpOk X pins H b := fun b hb => hf b (by
      have e : b = z ∨ b = TO ∨ b = i1 ∨ b = i2 := by simpa using hb
      rcases e with q | q | q | q <;> simp [q])
    have hTw : T ∉ [z, TO, i1, i2] := W.apart i T _ hM
    obtain ⟨oT, eT, cT⟩ := hIs
    have hT2 : h''.get? T = some oT := hk'' T oT hTw eT
    have new : ObjOk X.prog X.w (upd H T (.tup [.str ⟨#[c]⟩, .str ⟨#[d]⟩])) h'' T (.tup [.str ⟨#[c]⟩, .str ⟨#[d]⟩]) :=
      ⟨by show 2 ≤ sizeLine; decide, [.str ⟨#[c]⟩ t1, .str ⟨#[d]⟩ t2], .cons ⟨t1, rfl⟩ (.cons ⟨t2, rfl⟩ .nil), ⟨oT, hT2, cT⟩⟩
    have I1 : Inv X pins σ (upd H T (.tup [.str ⟨#[c]⟩, .str ⟨#[d]⟩])) { s with heap := h'', toks := tk } :=
      I.turnedNew (t' := tk) (ch := [z, TO, i1, i2]) (fun b o hb q => hk'' b o hb (hk b o hb q)) hfw hT new
    refine ⟨.ref T, _, I1, rfl, ⟨T, c, d, rfl, I.hok.fresh hT, rfl, hc1, hd1⟩, st'', fun b hb => ?_⟩
    have hne : b ≠ T := by
      have hlt : b < s.heap.objs.size := by
        obtain ⟨hz, hTI, ⟨a1, a2, hTO⟩, ⟨o1, e1, _⟩, ⟨o2, e2, _⟩⟩ := st
        have e' : b = z ∨ b = TI ∨ b = TO ∨ b = i1 ∨ b = i2 := by simpa using hb
        rcases e' with q | q | q | q | q
        · rw [q]; exact Heap.lt_size hz
        · rw [q]; exact Heap.lt_size hTI
        · rw [q]; exact Heap.lt_size hTO
        · rw [q]; exact Heap.lt_size e1
        · rw [q]; exact Heap.lt_size e2
      exact Nat.ne_of_lt (Nat.lt_of_lt_of_le hlt hT)
    rw [upd_ne hne]
    exact (hf b hb).1
  done := by
    intro X hP hw hK hc i pins s σ H E I hf st hg
    subst hP hw hK
    have hh : X.A.in1.handled = none := I.ok.hd hc
    have W := WalksT.zipD2 (A := X.A) S (draws_text (prog := X.prog) (w := X.w) hh i1 x t) (draws_text (prog := X.prog) (w := X.w) hh i2 y u)
    have hfw : ∀ b ∈ [z, TO, i1, i2], FpOk X pins H b := fun b hb => hf b (by
      have e : b = z ∨ b = TO ∨ b = i1 ∨ b = i2 := by simpa using hb
      rcases e with q | q | q | q <;> simp [q])
    have hg' : i = min x.cps.size y.cps.size := hg
    subst hg'
    exact W.done s _ _ st fun h' tk hk => ⟨rfl, I.turnedL (t' := tk) (ch := [z, TO, i1, i2]) hk hfw⟩
  self := fun A i s Q E st h => wpAny_pyIter_zip st.1 h
def iZipS (ta : TA) : TI := fun σ H R => ta σ H fun vs H1 => ∃ x y, vs = [.str x, .str y] ∧ R (Itzs x y) H1
theorem pi_zipS {X : Cx} {e e2 : Expr} {ta : TA} {p pos tpos : Pos} {elts : List Expr} {kk : Nat} (hg : Gl X "zip") (hm : X.mg "zip" = none) (ha : PA X [e, e2] ta)
    (hs : starEach [e, e2] X.env = (false, eval e X.env) :: starEach [e2] X.env := by rfl) (hpl : (backTo pos (starEach [e2] X.env)).any (·.1) = false := by rfl) :
    PI X (.Tuple elts kk tpos) (.Call (.Name "zip" p) [e, e2] [] pos) (iZipS ta) := by
  refine ⟨fun pins s σ H R I h => ?_⟩
  refine Call_ (ld_blt I hg hm PyProof.Rows.boot_zip (PyProof.Rows.callWith_type1 (thn (ha.run pos pins s σ H _ I h) fun us s1 ⟨vs, H1, I1, r1, q1⟩ => ?_) hs hpl))
  obtain ⟨x, y, ex, q1⟩ := q1
  subst ex
  cases r1 with
  | cons r rr =>
    cases rr with
    | cons r' rr =>
      cases rr
      obtain ⟨t, rfl⟩ := r
      obtain ⟨u, rfl⟩ := r'
      refine zip_begins2 (begins_text x t) (begins_text y u) True.intro True.intro fun h' hz hTI hTO h1 h2 hsz hk => wpAny_pyIter_zip hz ?_
      have I2 : Inv X pins σ H1 { s1 with heap := h' } := I1.kept (t' := s1.toks) hk
      refine ⟨s1.heap.objs.size + 4, [s1.heap.objs.size + 4, s1.heap.objs.size + 2, s1.heap.objs.size + 3, s1.heap.objs.size, s1.heap.objs.size + 1], _, _, H1, rfl, I2,
        turn_zipS (t := t) (u := u) (zip_sep2 (N := s1.heap.objs.size) (fp1 := []) (fp2 := []) (fun _ h => nomatch h) (fun _ h => nomatch h)), ⟨hz, hTI, ⟨_, _, hTO⟩, ⟨_, h1, rfl, rfl⟩, ⟨_, h2, rfl, rfl⟩⟩, fun c hcm => ?_, q1⟩
      have e' : c = s1.heap.objs.size + 4 ∨ c = s1.heap.objs.size + 2 ∨ c = s1.heap.objs.size + 3 ∨ c = s1.heap.objs.size ∨ c = s1.heap.objs.size + 1 := by simpa using hcm
      have hle : s1.heap.objs.size ≤ c := by
        rcases e' with z | z | z | z | z
        · rw [z]; exact Nat.le_add_right _ _
        · rw [z]; exact Nat.le_add_right _ _
        · rw [z]; exact Nat.le_add_right _ _
        · rw [z]; exact Nat.le_refl _
        · rw [z]; exact Nat.le_add_right _ _
      exact I1.fpOk hle (I1.hok.fresh hle)
theorem walk_zipS {x y : Str} : Walk (Itzs x y) (min x.cps.size y.cps.size) (fun _ => True) (YPair (fun i => x.cps[i]?.map fun c => .str ⟨#[c]⟩) (fun i => y.cps[i]?.map fun c => .str ⟨#[c]⟩)) := by
  refine ⟨fun i _ hi _ => by constructor <;> omega, fun _ _ => rfl, fun i H v H' _ _ y => ?_⟩
  obtain ⟨T, c, d, h1, h2, h3, h4, h5⟩ := y
  exact ⟨T, .str ⟨#[c]⟩, .str ⟨#[d]⟩, h1, h2, h3, by show Option.map _ _ = _; rw [h4]; rfl, by show Option.map _ _ = _; rw [h5]; rfl⟩
end K67
end
section
set_option Elab.async false
set_option linter.all false
set_option maxRecDepth 100000
set_option maxHeartbeats 4000000
namespace K67
open PySem PySem.Spec PyProof.Rows L2
/-- an error's class of the text: a child of ValueError without an __init__ of its own -/
structure ExC (K : PySem.W.Frag) (mg : Str → Option Value) (x : Str) (C : Addr) : Prop where
  q : PySem.W.excIn K C [.type "ValueError", .type "Exception", .type "BaseException", .type "object"] "ValueError.__new__" = true
  g : mg x = some (.ref C)
  k : PySem.W.keepIn K (.ref C) = true
  b : PySem.W.subIn K (.ref C) (.type "BaseException") = some true
  t : PySem.W.typeIn K (.ref C) = some (.type "type")
theorem pmkC {X : Cx} {x m : Str} {C : Addr} {j : Nat} {p p2 pos : Pos} (e : ExC X.K X.mg x C) (hg : Gl X x) (hdb : (x == ("__debug__" : Str)) = false := by decide) :
    PMk X (.Call (.Name x p) [.Constant (.str m) j p2] [] pos) (fun _ H Q => Q (.ref C) none H) := pmk_own PySem.F.excBase_ValueError e.q e.g e.k (raises_own e.b e.t) hg hdb
theorem pe_fldK {X : Cx} {K : PySem.W.Frag} {e : Expr} {f : Str} {pos : Pos} {ta : TE} (hK : X.K = K) (he : PE X e ta) (hb : attributeBase e f X.env (eval e X.env) = eval e X.env) : PE X (.Attribute e f pos) (tFld K ta f) := by
  subst hK
  exact pe_fld he hb
/-- an object whose own_letters are ls -/
def HasL (K : PySem.W.Frag) (H : Hp) (a : Addr) (ls : Str) : Prop := ∃ C dx fs, H a = some (.ins C dx fs) ∧ Cls K C ∧ NoAttr K C "own_letters" ∧ fs.lookup ("own_letters" : Str) = some (V.str ls)
theorem HasL.same {K : PySem.W.Frag} {H H' : Hp} {a : Addr} {ls : Str} (h : HasL K H a ls) (s : Same H H') : HasL K H' a ls := by
  obtain ⟨C, dx, fs, h1, h2⟩ := h
  exact ⟨C, dx, fs, s _ _ h1, h2⟩
def over (z ls : Str) : Bool := z.cps.toList.all fun c => decide (c ∈ ls.cps.toList)
theorem RefK.same {K : PySem.W.Frag} {H H' : Hp} {a : Addr} (h : RefK K H a) (s : Same H H') (hx : ∀ t, TyX K H (.ref a) t → TyX K H' (.ref a) t) : RefK K H' a := by
  obtain ⟨t, h1, h2⟩ := h
  exact ⟨t, hx t h1, h2⟩
section
variable {P : Program} {w : World} {K : PySem.W.Frag} {mg : Str → Option Value} {base : Heap}
/-! ### require_edit -/
def spReqE (C : Addr) : Sp := fun vs H Q E => ∃ b, vs = [.bl b] ∧ (b = true → Q .non H) ∧ (b = false → E (.ref C) none H)
theorem ok_require_edit {f : Addr} {fd : FuncData} {C : Addr} (F : FnP K "require_edit" "require_edit" s_require_edit f fd) (X1 : ExC K mg "InvalidEdit" C) : FnOk P w K mg base (L2.CX P w) 1 f fd ["is_one"] (spReqE C) := by
  have S := sc_require_edit
  refine F.ok S (fun vs H Q E h => ?_) (fun cdv A outer s H vs Q E hr h => ?_)
  · obtain ⟨b, rfl, _⟩ := h
    rfl
  · obtain ⟨b, rfl, q1, q2⟩ := h
    refine ⟨_, (pss_one (ps_if (pt_not (pt_val (pv 0))) (pss_one (ps_raise rfl (takes_of rfl rfl rfl rfl) (pmkC X1 (by rfl)))) pss_nil)), ?_⟩
    refine ⟨_, rfl, b, rfl, ?_⟩
    cases b with
    | true => exact iteF (q1 rfl)
    | false => exact iteT (q2 rfl)
/-! ### require_text -/
def spReqT (K : PySem.W.Frag) (C : Addr) : Sp := fun vs H Q E => ∃ v, vs = [v] ∧ Nice K H v ∧ Short v ∧ (isT v = true → ∀ H', Same H H' → Q .non H') ∧ (isT v = false → ∀ H', Same H H' → E (.ref C) none H')
theorem ok_require_text {f : Addr} {fd : FuncData} {C : Addr} (F : FnP K "require_text" "require_text" s_require_text f fd) (X1 : ExC K mg "InvalidText" C) (c1 : Cal P w K mg base CX0 2 "is_text" (spIsText K)) : FnOk P w K mg base (L2.CX P w) 3 f fd ["value"] (spReqT K C) := by
  have S := sc_require_text
  refine F.ok S (fun vs H Q E h => ?_) (fun cdv A outer s H vs Q E hr h => ?_)
  · obtain ⟨b, rfl, _⟩ := h
    rfl
  · obtain ⟨v, rfl, n, sh, q1, q2⟩ := h
    refine ⟨_, (pss_one (ps_if (pt_not (pt_val (pe_c c1 hr (by decide) (by rfl) (E := fun _ _ _ => False) pass0 (pa_cons (pv 0) pa_nil)))) (pss_one (ps_raise rfl (takes_of rfl rfl rfl rfl) (pmkC X1 (by rfl)))) pss_nil)), ?_⟩
    refine ⟨v, rfl, v, rfl, n, sh, fun H' sm => ⟨_, rfl, ?_⟩⟩
    cases e : isT v with
    | true => exact iteF (q1 e _ sm)
    | false => exact iteT (q2 e _ sm)
/-! ### is_over -/
def spOver (K : PySem.W.Frag) : Sp := fun vs H Q _ => ∃ z a ls, vs = [.str z, .ref a] ∧ z.length ≤ sizeLine ∧ HasL K H a ls ∧ ∀ H', Same H H' → Q (.bl (over z ls)) H'
theorem ok_is_over {f : Addr} {fd : FuncData} (F : FnP K "is_over" "is_over" s_is_over f fd) (B : BN mg) : FnOk P w K mg base CX0 1 f fd ["text", "machine"] (spOver K) := by
  have S := sc_is_over
  refine F.ok S (fun vs H Q E h => ?_) (fun cdv A outer s H vs Q E hr h => ?_)
  · obtain ⟨z, a, ls, rfl, _⟩ := h
    rfl
  · obtain ⟨z, a, ls, rfl, hz, hl, q⟩ := h
    refine ⟨_, (pss_one (ps_ret (pe_callB (cr_all rfl) (by rfl) B.all (by decide +kernel) (pa_cons (pe_lc (own := [("letter", 2)]) (g := gName 2) (tt := tYes) rfl S.nd (pi_str (pv 0)) (blkOk_by (N := ["text", "machine", "letter"]) (sc := defScope s_is_over) (by decide +kernel)) (fun _ _ _ _ _ => (pg_name (i := 2) S.nd rfl (Or.inl rfl))) (fun _ _ _ _ _ => pts_nil) (fun _ _ _ _ _ => (pe_cmpR op_in_sign (pv 2) (pe_fldK (K := K) rfl (pv 1) rfl) rfl))) pa_nil)))), ?_⟩
    refine ⟨_, rfl, z, rfl, fun D hD => ?_⟩
    refine lc_gen walk_str ((z.cps.toList.map fun c => decide (c ∈ ls.cps.toList)).map V.bl) (by simp) hz hD (fun _ _ => True.intro) ?_ ?_ mono_name ?_
    · rintro i x H1 H2 hi sm hD2 ⟨rfl, c, hc, rfl⟩
      obtain ⟨C, dx, fs, h1, h2, h3, h4⟩ := hl
      refine ⟨rfl, _, rfl, _, rfl, a, C, dx, fs, _, rfl, sm _ _ h1, h2, h3, h4, c, _, rfl, rfl, ?_, rfl, sm⟩
      rw [List.getElem?_map, List.getElem?_map, cps_get hc]
      rfl
    · intro H1 sm hl1
      refine ⟨D, z.cps.toList.map (fun c => decide (c ∈ ls.cps.toList)), rfl, SqL.of hl1, ?_⟩
      rw [all_map]
      exact q H1 sm
    · rintro σ1 H1 Q1 Q2 hm ⟨x, hx, y, hy, a', C, dx, fs, u, e1, e2, e3, e4, e5, c, z', e6, e7, q'⟩
      exact ⟨x, hx, y, hy, a', C, dx, fs, u, e1, e2, e3, e4, e5, c, z', e6, e7, hm _ _ q'⟩
/-! ### require_rest -/
def spRest (K : PySem.W.Frag) (CT CO : Addr) : Sp := fun vs H Q E => ∃ a ls v, vs = [.ref a, v] ∧ HasL K H a ls ∧ Nice K H v ∧ Short v ∧
  (isT v = false → ∀ H', Same H H' → E (.ref CT) none H') ∧ (∀ z, v = .str z → isT v = true → over z ls = false → ∀ H', Same H H' → E (.ref CO) none H') ∧ (∀ z, v = .str z → isT v = true → over z ls = true → ∀ H', Same H H' → Q .non H')
theorem ok_require_rest {f : Addr} {fd : FuncData} {CT CO : Addr} (F : FnP K "require_rest" "require_rest" s_require_rest f fd) (B : BN mg) (X1 : ExC K mg "InvalidOperation" CO) (c1 : Cal P w K mg base (L2.CX P w) 3 "require_text" (spReqT K CT)) : FnOk P w K mg base (L2.CX P w) 4 f fd ["thing", "value"] (spRest K CT CO) := by
  have S := sc_require_rest
  refine F.ok S (fun vs H Q E h => ?_) (fun cdv A outer s H vs Q E hr h => ?_)
  · obtain ⟨a, ls, v, rfl, _⟩ := h
    rfl
  · obtain ⟨a, ls, v, rfl, hl, n, sh, q1, q2, q3⟩ := h
    refine ⟨_, (pss_cons (ps_expr (pe_c c1 hr (by decide) (by rfl) (E := E) (passes_call (takes_of rfl rfl rfl rfl) (fun _ _ _ _ h => h)) (pa_cons (pv 1) pa_nil)))
      (pss_one (ps_if (pt_not (pt_val (pe_callB (cr_all rfl) (by rfl) B.all (by decide +kernel) (pa_cons (pe_lc (own := [("letter", 2)]) (g := gName 2) (tt := tYes) rfl S.nd (pi_str (pv 1)) (blkOk_by (N := ["thing", "value", "letter"]) (sc := defScope s_require_rest) (by decide +kernel)) (fun _ _ _ _ _ => (pg_name (i := 2) S.nd rfl (Or.inl rfl))) (fun _ _ _ _ _ => pts_nil) (fun _ _ _ _ _ => (pe_cmpR op_in_sign (pv 2) (pe_fldK (K := K) rfl (pv 0) rfl) rfl))) pa_nil)))) (pss_one (ps_raise rfl (takes_of rfl rfl rfl rfl) (pmkC X1 (by rfl)))) pss_nil))), ?_⟩
    refine ⟨v, rfl, v, rfl, n, sh, fun ht H0 sm0 => ?_, fun ht H0 sm0 => q1 ht H0 sm0⟩
    cases v with
    | str z =>
      refine ⟨_, rfl, z, rfl, fun D hD => ?_⟩
      refine lc_gen walk_str ((z.cps.toList.map fun c => decide (c ∈ ls.cps.toList)).map V.bl) (by simp) sh hD (fun _ _ => True.intro) ?_ ?_ mono_name ?_
      · rintro i x H1 H2 hi sm hD2 ⟨rfl, c, hc, rfl⟩
        obtain ⟨C, dx, fs, h1, h2, h3, h4⟩ := hl.same (sm0.trans sm)
        refine ⟨rfl, _, rfl, _, rfl, a, C, dx, fs, _, rfl, h1, h2, h3, h4, c, _, rfl, rfl, ?_, rfl, sm⟩
        rw [List.getElem?_map, List.getElem?_map, cps_get hc]
        rfl
      · intro H1 sm hl1
        refine ⟨D, z.cps.toList.map (fun c => decide (c ∈ ls.cps.toList)), rfl, SqL.of hl1, ?_⟩
        rw [all_map]
        refine ⟨_, rfl, ?_⟩
        cases e : over z ls with
        | true =>
          rw [show z.cps.toList.all (fun c => decide (c ∈ ls.cps.toList)) = true from e]
          exact iteF (q3 z rfl ht e _ (sm0.trans sm))
        | false =>
          rw [show z.cps.toList.all (fun c => decide (c ∈ ls.cps.toList)) = false from e]
          exact iteT (q2 z rfl ht e _ (sm0.trans sm))
      · rintro σ1 H1 Q1 Q2 hm ⟨x, hx, y, hy, a', C, dx, fs, u, e1, e2, e3, e4, e5, c, z', e6, e7, q'⟩
        exact ⟨x, hx, y, hy, a', C, dx, fs, u, e1, e2, e3, e4, e5, c, z', e6, e7, hm _ _ q'⟩
    | _ => cases ht
end
end K67
end
section
set_option Elab.async false
set_option linter.all false
set_option maxRecDepth 100000
set_option maxHeartbeats 4000000
namespace K67
open PySem PySem.Spec PyProof.Rows L2
theorem iteF' {b : Bool} {A B : Prop} (e : b = false) (h : B) : if b = true then A else B := by
  subst e
  exact iteF h
theorem iteT' {b : Bool} {A B : Prop} (e : b = true) (h : A) : if b = true then A else B := by
  subst e
  exact iteT h
/-- a comprehension over a Walk with tests: os tells, turn by turn, what is kept -/
theorem lc_genF {J : It} {n : Nat} {G : Hp → Prop} {Y : Nat → Hp → V → Hp → Prop} (w : Walk J n G Y) {g : TG} {tt : TT} {te : TE} {vs : List Nat} {σ : L2.St} {H1 : Hp} {D : Addr} {Qd : Hp → Prop} (os : List (Option V)) (hn : os.length = n) (hz : n ≤ sizeLine) (hD : H1 D = none)
    (hG : ∀ H, Same H1 H → G H)
    (hs : ∀ i x H H' (K1 : VK) (K0 : Hp → Prop), i < n → Same H1 H → (∃ o, H D = some o) → Y i H x H' → (∀ y H4, os[i]? = some (some y) → H4 D = H D → Same H1 H4 → K1 y H4) → (∀ H4, os[i]? = some none → H4 D = H D → Same H1 H4 → K0 H4) →
      g x (wipe σ vs) H' fun σ2 H2 => wipe σ2 vs = wipe σ vs ∧ tt σ2 H2 fun b H3 => if b = true then te σ2 H3 K1 else K0 H3)
    (hd : ∀ H, Same H1 H → H D = some (.lst (os.filterMap id)) → Qd H) :
    ∃ W : Nat → Nat → Hp → Prop, (∃ m, W 0 m (upd H1 D (.lst []))) ∧ ∀ i m H, W i m H →
      (J.stop i H ∧ Qd H) ∨ (J.go i H ∧ ∃ Nx : Hp → Prop, (∀ H', Nx H' → ∃ m', m' < m ∧ W (i + 1) m' H') ∧ ∀ x H', J.yld i H x H' → g x (wipe σ vs) H' fun σ2 H2 => wipe σ2 vs = wipe σ vs ∧ tt σ2 H2 fun b H3 =>
        if b = true then te σ2 H3 fun y H4 => ∃ acc, H4 D = some (.lst acc) ∧ acc.length < sizeLine ∧ Nx (upd H4 D (.lst (acc ++ [y]))) else Nx H3) := by
  refine lc_it w (fun i H => Same H1 H ∧ H D = some (.lst ((os.take i).filterMap id))) ⟨same_upd hD, by rw [upd_same]; rfl⟩ (fun i H _ h => hG H h.1) ?_ ?_
  · rintro i x H H' hi ⟨sm, hl⟩ hy
    refine hs i x H H' _ _ hi sm ⟨_, hl⟩ hy (fun y H4 h1 h2 h3 => ?_) (fun H4 h1 h2 h3 => ?_)
    · refine ⟨(os.take i).filterMap id, by rw [h2]; exact hl, ?_, same_put h3 hD, ?_⟩
      · have h5 := List.length_filterMap_le (id : Option V → Option V) (os.take i)
        rw [List.length_take] at h5
        omega
      · rw [upd_same]
        have e : os.take (i + 1) = os.take i ++ [some y] := by rw [List.take_add_one, h1]; rfl
        rw [e, List.filterMap_append]
        rfl
    · refine ⟨h3, ?_⟩
      rw [h2, hl]
      have e : os.take (i + 1) = os.take i ++ [none] := by rw [List.take_add_one, h1]; rfl
      rw [e, List.filterMap_append]
      simp
  · rintro H ⟨sm, hl⟩
    refine hd H sm ?_
    rw [hl, List.take_of_length_le (by omega)]
/-- .. without a test -/
theorem lc_gen2 {J : It} {n : Nat} {G : Hp → Prop} {Y : Nat → Hp → V → Hp → Prop} (w : Walk J n G Y) {g : TG} {te : TE} {vs : List Nat} {σ : L2.St} {H1 : Hp} {D : Addr} {Qd : Hp → Prop} (ys : List V) (hn : ys.length = n) (hz : n ≤ sizeLine) (hD : H1 D = none)
    (hG : ∀ H, Same H1 H → G H)
    (hs : ∀ i x H H' (K1 : VK), i < n → Same H1 H → (∃ o, H D = some o) → Y i H x H' → (∀ y H4, ys[i]? = some y → H4 D = H D → Same H1 H4 → K1 y H4) → g x (wipe σ vs) H' fun σ2 H2 => wipe σ2 vs = wipe σ vs ∧ te σ2 H2 K1)
    (hd : ∀ H, Same H1 H → H D = some (.lst ys) → Qd H) :
    ∃ W : Nat → Nat → Hp → Prop, (∃ m, W 0 m (upd H1 D (.lst []))) ∧ ∀ i m H, W i m H →
      (J.stop i H ∧ Qd H) ∨ (J.go i H ∧ ∃ Nx : Hp → Prop, (∀ H', Nx H' → ∃ m', m' < m ∧ W (i + 1) m' H') ∧ ∀ x H', J.yld i H x H' → g x (wipe σ vs) H' fun σ2 H2 => wipe σ2 vs = wipe σ vs ∧ tYes σ2 H2 fun b H3 =>
        if b = true then te σ2 H3 fun y H4 => ∃ acc, H4 D = some (.lst acc) ∧ acc.length < sizeLine ∧ Nx (upd H4 D (.lst (acc ++ [y]))) else Nx H3) := by
  refine lc_it w (fun i H => Same H1 H ∧ H D = some (.lst (ys.take i))) ⟨same_upd hD, by rw [upd_same]; rfl⟩ (fun i H _ h => hG H h.1) ?_ ?_
  · rintro i x H H' hi ⟨sm, hl⟩ hy
    refine hs i x H H' (fun y H4 => ∃ acc, H4 D = some (.lst acc) ∧ acc.length < sizeLine ∧ _) hi sm ⟨_, hl⟩ hy (fun y H4 h1 h2 h3 => ?_)
    refine ⟨ys.take i, by rw [h2]; exact hl, ?_, same_put h3 hD, ?_⟩
    · rw [List.length_take]; omega
    · rw [upd_same, take_snoc h1]
  · rintro H ⟨sm, hl⟩
    refine hd H sm ?_
    rw [hl, List.take_of_length_le (by omega)]
/-! ### texts by their codes -/
def cpre : List Nat → List Nat → Nat
  | a :: x, b :: y => if a = b then cpre x y + 1 else 0
  | _, _ => 0
theorem cpre_le_left : ∀ x y : List Nat, cpre x y ≤ x.length
  | [], _ => by simp [cpre]
  | a :: x, [] => by simp [cpre]
  | a :: x, b :: y => by
    unfold cpre
    split
    · have := cpre_le_left x y; simp; omega
    · simp
theorem cpre_le_right : ∀ x y : List Nat, cpre x y ≤ y.length
  | [], _ => by simp [cpre]
  | a :: x, [] => by simp [cpre]
  | a :: x, b :: y => by
    unfold cpre
    split
    · have := cpre_le_right x y; simp; omega
    · simp
theorem cpre_same : ∀ (x y : List Nat) (i : Nat), i < cpre x y → x[i]? = y[i]?
  | a :: x, b :: y, i, h => by
    unfold cpre at h
    split at h
    · rename_i e
      subst e
      cases i with
      | zero => rfl
      | succ i => simpa using cpre_same x y i (by omega)
    · omega
  | [], _, i, h => by simp [cpre] at h
  | a :: x, [], i, h => by simp [cpre] at h
theorem cpre_differ : ∀ (x y : List Nat) (c d : Nat), x[cpre x y]? = some c → y[cpre x y]? = some d → c ≠ d
  | a :: x, b :: y, c, d, h1, h2 => by
    unfold cpre at h1 h2
    by_cases e : a = b
    · rw [if_pos e] at h1 h2
      exact cpre_differ x y c d (by simpa using h1) (by simpa using h2)
    · rw [if_neg e] at h1 h2
      simp at h1 h2
      omega
  | [], _, c, d, h1, _ => by simp at h1
  | a :: x, [], c, d, _, h2 => by simp at h2
/-- the first place where they differ -/
theorem cpre_eq {x y : List Nat} {i : Nat} (h : ∀ j, j < i → x[j]? = y[j]?) (hx : i ≤ x.length) (hy : i ≤ y.length) (hd : ∀ c d, x[i]? = some c → y[i]? = some d → c ≠ d) : cpre x y = i := by
  rcases Nat.lt_trichotomy (cpre x y) i with l | e | g
  · have h1 := h _ l
    have l1 : cpre x y < x.length := by omega
    have l2 : cpre x y < y.length := by omega
    have e1 : x[cpre x y]? = some x[cpre x y] := by simp [l1]
    have e2 : y[cpre x y]? = some y[cpre x y] := by simp [l2]
    have := cpre_differ x y _ _ e1 e2
    rw [e1, e2] at h1
    exact absurd (Option.some.inj h1) this
  · exact e
  · have h1 := cpre_same x y i g
    have l1 := cpre_le_left x y
    have l2 := cpre_le_right x y
    have e1 : x[i]? = some (x[i]'(by omega)) := by simp [show i < x.length by omega]
    have e2 : y[i]? = some (y[i]'(by omega)) := by simp [show i < y.length by omega]
    have := hd _ _ e1 e2
    rw [e1, e2] at h1
    exact absurd (Option.some.inj h1) this
section
variable {P : Program} {w : World} {K : PySem.W.Frag} {mg : Str → Option Value} {base : Heap}
/-- as FunD.ok, for a def that lets nothing out -/
theorem ok0 {x qual : Str} {params : Arguments} {body : List Stmt} {scope : Scope} {dvs : List V} {kws : List (Str × V)} {f : Addr} {fd : FuncData} {N ps : List Str} {k : Nat} {sp : Sp} (F : FunD K x qual params body scope dvs kws f fd) (S : FnScope N ps scope) (len : ∀ vs H Q E, sp vs H Q E → vs.length = ps.length)
    (hbody : ∀ (cdv : Value) (A : Around) (outer : List Env) (s : Shared) (H : Hp) (vs : List V) (Q : VK) (E : XK), Room k (A.deeper (envOfC qual scope s.heap.objs.size f cdv)) → sp vs H Q E →
      ∃ t, PSs (cxOf CX0 P w K mg base N qual scope f cdv A outer s H E).nox body t ∧ t { nx := fun _ H' => Q .non H', rt := Q } (start N vs) H) : FnOk P w K mg base CX0 (k + 1) f fd ps sp :=
  F.ok S len fun cdv A outer s H vs Q E hr h => let ⟨t, p, q⟩ := hbody cdv A outer s H vs Q E hr h; ⟨t, p.nox, q⟩
/-! ### shared_letters -/
def spShared (K : PySem.W.Frag) : Sp := fun vs H Q _ => ∃ x y, vs = [.str x, .str y] ∧ ∀ H', Same H H' → Q (.int (cpre x.cps.toList y.cps.toList : Nat)) H'
theorem ok_shared_letters {f : Addr} {fd : FuncData} (F : FnP K "shared_letters" "shared_letters" s_shared_letters f fd) (B : BN mg) : FnOk P w K mg base CX0 1 f fd ["word", "other"] (spShared K) := by
  have S := sc_shared_letters
  refine ok0 F S (fun vs H Q E h => ?_) (fun cdv A outer s H vs Q E hr h => ?_)
  · obtain ⟨x, y, rfl, _⟩ := h
    rfl
  · obtain ⟨x, y, rfl, q⟩ := h
    refine ⟨_, (pss_cons (ps_set (i := 2) S.nd rfl (.inl rfl) pe_int)
      (pss_cons (ps_for PassesOwn.never rfl (pi_zipS (by rfl) B.zip (pa_cons (pv 0) (pa_cons (pv 1) pa_nil))) (pg_tup rfl (pgs_cons (pg_name (i := 3) S.nd rfl (Or.inl rfl)) (pgs_cons (pg_name (i := 4) S.nd rfl (Or.inl rfl)) pgs_nil))) (pss_cons (ps_if (pt_cmpR op_ne (pv 3) (pv 4) (nomark _)) (pss_one (ps_ret (pv 2))) pss_nil)
      (pss_one (ps_aug (i := 2) S.nd rfl (.inl rfl) pe_int ip_add))))
      (pss_one (ps_ret (pv 2))))), ?_⟩
    refine ⟨_, rfl, _, rfl, x, y, rfl, ?_⟩
    have hmin : cpre x.cps.toList y.cps.toList ≤ min x.cps.size y.cps.size := by
      have h1 := cpre_le_left x.cps.toList y.cps.toList
      have h2 := cpre_le_right x.cps.toList y.cps.toList
      rw [Array.length_toList] at h1 h2
      omega
    refine for_it walk_zipS (fun i σ H' => Same H H' ∧ i ≤ cpre x.cps.toList y.cps.toList ∧ ∃ a b, σ = [some (.str x), some (.str y), some (.int (i : Nat)), a, b]) ⟨Same.refl _, Nat.zero_le _, none, none, rfl⟩ (fun _ _ _ _ _ => True.intro) ?_ ?_
    · rintro i z σ H1 H2 hi ⟨sm, hc, a, b, rfl⟩ ⟨T, u, v, rfl, hT, rfl, hu, hv⟩
      replace hu : x.cps[i]?.map (fun c => V.str ⟨#[c]⟩) = some u := hu
      replace hv : y.cps[i]?.map (fun c => V.str ⟨#[c]⟩) = some v := hv
      obtain ⟨c, hc1, rfl⟩ := Option.map_eq_some_iff.mp hu
      obtain ⟨d, hd1, rfl⟩ := Option.map_eq_some_iff.mp hv
      have hc2 := cps_get hc1
      have hd2 := cps_get hd1
      have sm2 : Same H (upd H1 T (.tup [.str ⟨#[c]⟩, .str ⟨#[d]⟩])) := sm.trans (same_upd hT)
      refine ⟨T, _, rfl, SqT.of upd_same, rfl, _, _, rfl, ?_⟩
      refine ⟨_, _, rfl, ?_⟩
      refine ⟨rfl, ?_⟩
      refine ⟨_, rfl, _, rfl, rfl, _, rfl, ?_⟩
      by_cases e : c = d
      · subst e
        refine iteF' (by simp) ?_
        refine ⟨_, rfl, _, _, rfl, rfl, sm2, ?_, _, _, rfl⟩
        rcases Nat.lt_or_ge i (cpre x.cps.toList y.cps.toList) with h | h
        · exact h
        · have e2 : i = cpre x.cps.toList y.cps.toList := by omega
          exact absurd rfl (cpre_differ x.cps.toList y.cps.toList c c (by rw [← e2]; exact hc2) (by rw [← e2]; exact hd2))
      · refine iteT' (by simp [e]) ?_
        refine ⟨_, rfl, ?_⟩
        have : i = cpre x.cps.toList y.cps.toList := by
          rcases Nat.lt_or_ge i (cpre x.cps.toList y.cps.toList) with h | h
          · have h2 := cpre_same _ _ _ h
            rw [hc2, hd2] at h2
            exact absurd (Option.some.inj h2) e
          · omega
        rw [this]
        exact q _ sm2
    · rintro σ H1 ⟨sm, hc, a, b, rfl⟩
      refine ⟨_, rfl, ?_⟩
      have : min x.cps.size y.cps.size = cpre x.cps.toList y.cps.toList := by omega
      rw [this]
      exact q _ sm
end
end K67
end
section
set_option Elab.async false
set_option linter.all false
set_option maxRecDepth 100000
set_option maxHeartbeats 4000000
namespace K67
open PySem PySem.Spec PyProof.Rows L2
section
variable {P : Program} {w : World} {K : PySem.W.Frag} {mg : Str → Option Value} {base : Heap}
/-! ### is_mark_number -/
def spMarkNo (K : PySem.W.Frag) : Sp := fun vs H Q _ => ∃ v n, vs = [v, .int n] ∧ Nice K H v ∧ Q (.bl (btw v 0 (n - 1))) H
theorem ok_is_mark_number {f : Addr} {fd : FuncData} (F : FnP K "is_mark_number" "is_mark_number" s_is_mark_number f fd) (c1 : Cal P w K mg base CX0 2 "is_between" (spBtw K)) : FnOk P w K mg base CX0 3 f fd ["value", "total"] (spMarkNo K) := by
  have S := sc_is_mark_number
  refine ok0 F S (fun vs H Q E h => ?_) (fun cdv A outer s H vs Q E hr h => ?_)
  · obtain ⟨v, n, rfl, _⟩ := h
    rfl
  · obtain ⟨v, n, rfl, ni, q⟩ := h
    refine ⟨_, (pss_one (ps_ret (pe_c c1 hr (by decide) (by rfl) pass0 (pa_cons (pv 0) (pa_cons pe_int (pa_cons (pe_op op_sub (pv 1) pe_int) pa_nil)))))), ?_⟩
    exact ⟨v, rfl, _, rfl, _, _, rfl, rfl, v, 0, n - 1, rfl, ni, q⟩
/-! ### are_ascending -/
theorem all_mapA {α : Type} {l : List α} {p : α → Bool} : (l.map p).all id = l.all p := by
  induction l with
  | nil => rfl
  | cons x l ih => rw [List.map_cons, List.all_cons, List.all_cons, ih]; rfl
theorem cps_mk (l : List Nat) : (⟨l.toArray⟩ : Str).cps.toList = l := rfl
theorem cutS_tail (z : Str) : (cutS z (some 1) none).cps.toList = z.cps.toList.drop 1 := by
  show ((z.cps.toList.drop (HT.sIx z.length 0 (some ((1 : Nat) : Int)))).take (HT.sIx z.length z.length none - HT.sIx z.length 0 (some ((1 : Nat) : Int)))) = _
  rw [HT.sIx_nat, HT.sIx_none]
  have hz : z.length = z.cps.toList.length := by rw [Array.length_toList] <;> rfl
  rw [hz]
  rcases Nat.lt_or_ge 0 z.cps.toList.length with h | h
  · rw [show min 1 z.cps.toList.length = 1 by omega]
    rw [List.take_of_length_le (by rw [List.length_drop]; omega)]
  · have e : z.cps.toList = [] := List.eq_nil_of_length_eq_zero (by omega)
    rw [e]
    rfl
def ascB (l : List Nat) : Bool := (l.zip (l.drop 1)).all fun p => decide ([p.1] < [p.2])
def spAsc (K : PySem.W.Frag) : Sp := fun vs H Q _ => ∃ z, vs = [.str z] ∧ z.length ≤ sizeLine ∧ ∀ H', Same H H' → Q (.bl (ascB z.cps.toList)) H'
theorem ok_are_ascending {f : Addr} {fd : FuncData} (F : FnP K "are_ascending" "are_ascending" s_are_ascending f fd) (B : BN mg) : FnOk P w K mg base CX0 1 f fd ["signs"] (spAsc K) := by
  have S := sc_are_ascending
  refine ok0 F S (fun vs H Q E h => ?_) (fun cdv A outer s H vs Q E hr h => ?_)
  · obtain ⟨v, rfl, _⟩ := h
    rfl
  · obtain ⟨z, rfl, hz, q⟩ := h
    refine ⟨_, (pss_one (ps_ret (pe_callB (cr_all rfl) (by rfl) B.all (by decide +kernel) (pa_cons (pe_lc (own := [("one", 1), ("other", 2)]) (g := gTup K 2 (gCons (gName 1) (gCons (gName 2) gNil))) (tt := tYes) rfl S.nd (pi_zipS (by rfl) B.zip (pa_cons (pv 0) (pa_cons (pe_slice sl_str (pv 0) (po_some pe_int) po_none) pa_nil))) (blkOk_by (N := ["signs", "one", "other"]) (sc := defScope s_are_ascending) (by decide +kernel)) (fun _ _ _ _ _ => (pg_tup rfl (pgs_cons (pg_name (i := 1) S.nd rfl (Or.inl rfl)) (pgs_cons (pg_name (i := 2) S.nd rfl (Or.inl rfl)) pgs_nil)))) (fun _ _ _ _ _ => pts_nil) (fun _ _ _ _ _ => (pe_cmpR op_lt_str (pv 1) (pv 2) (nomark _)))) pa_nil)))), ?_⟩
    refine ⟨_, rfl, _, rfl, _, rfl, z, rfl, hz, z, _, rfl, fun D hD => ?_⟩
    have hlen : (cutS z (some 1) none).cps.size = (z.cps.toList.drop 1).length := by rw [← cutS_tail, Array.length_toList]
    refine lc_gen2 walk_zipS (((z.cps.toList.zip (z.cps.toList.drop 1)).map fun p => decide ([p.1] < [p.2])).map V.bl) ?_ ?_ hD (fun _ _ => True.intro) ?_ ?_
    · rw [hlen]; simp
    · have : z.cps.size ≤ sizeLine := hz
      omega
    · rintro i x H1 H2 K1 hi sm ⟨o, hD2⟩ ⟨T, u, v, rfl, hT, rfl, hu, hv⟩ k
      replace hu : z.cps[i]?.map (fun c => V.str ⟨#[c]⟩) = some u := hu
      replace hv : (cutS z (some 1) none).cps[i]?.map (fun c => V.str ⟨#[c]⟩) = some v := hv
      obtain ⟨c, hc1, rfl⟩ := Option.map_eq_some_iff.mp hu
      obtain ⟨d, hd1, rfl⟩ := Option.map_eq_some_iff.mp hv
      have hc2 := cps_get hc1
      have hd2 := cps_get hd1
      rw [cutS_tail] at hd2
      refine ⟨T, _, rfl, SqT.of upd_same, rfl, _, _, rfl, ?_⟩
      refine ⟨_, _, rfl, rfl, rfl, ?_⟩
      refine ⟨_, rfl, _, rfl, _, _, rfl, rfl, k _ _ ?_ (by rw [upd_ne (ne_of_none hD2 hT)]) (sm.trans (same_upd hT))⟩
      rw [List.getElem?_map, List.getElem?_map]
      have e : (z.cps.toList.zip (z.cps.toList.drop 1))[i]? = some (c, d) := by
        rw [List.getElem?_zip_eq_some]
        exact ⟨hc2, hd2⟩
      rw [e]
      rfl
    · intro H1 sm hl1
      refine ⟨D, (z.cps.toList.zip (z.cps.toList.drop 1)).map (fun p => decide ([p.1] < [p.2])), rfl, SqL.of hl1, ?_⟩
      rw [all_mapA]
      exact q H1 sm
/-! ### are_letters, for a text -/
def spLetters (K : PySem.W.Frag) : Sp := fun vs H Q _ => ∃ z, vs = [.str z] ∧ z.length ≤ sizeLine ∧ wordB z = true ∧ 1 ≤ z.length ∧ z.length ≤ 4 ∧ ascB z.cps.toList = true ∧ ∀ H', Same H H' → Q (.bl true) H'
theorem ok_are_letters {f : Addr} {fd : FuncData} (F : FnP K "are_letters" "are_letters" s_are_letters f fd) (B : BN mg) (gM : ∃ u, mg "MOST_LETTERS_words" = some u ∧ RelV (.int 4) u) (c1 : Cal P w K mg base CX0 1 "is_word" (spIsWord K)) (c2 : Cal P w K mg base CX0 1 "are_ascending" (spAsc K)) :
    FnOk P w K mg base CX0 2 f fd ["value"] (spLetters K) := by
  have S := sc_are_letters
  refine ok0 F S (fun vs H Q E h => ?_) (fun cdv A outer s H vs Q E hr h => ?_)
  · obtain ⟨v, rfl, _⟩ := h
    rfl
  · obtain ⟨z, rfl, hz, h1, h2, h3, h4, q⟩ := h
    refine ⟨_, (pss_one (ps_ret (pe_and (pe_c c1 hr (by decide) (by rfl) pass0 (pa_cons (pv 0) pa_nil)) (pe_and (pe_chain op_le op_le pe_int (pe_callB call_len (by rfl) B.len (by decide +kernel) (pa_cons (pv 0) pa_nil)) (C8.pe_gc (by rfl) gM)) (pe_one (pe_c c2 hr (by decide) (by rfl) pass0 (pa_cons (pv 0) pa_nil))))))), ?_⟩
    refine ⟨_, rfl, _, rfl, True.intro, hz, fun H1 sm1 => ⟨_, rfl, ?_⟩⟩
    rw [show isW (.str z) = true from h1]
    refine iteT ⟨_, rfl, _, z.length, rfl, ⟨hz, rfl⟩, 1, (z.length : Int), rfl, rfl, _, rfl, ?_⟩
    refine iteT' (decide_eq_true (by omega)) ⟨_, _, rfl, rfl, ?_⟩
    refine ⟨_, rfl, iteT' (decide_eq_true (by omega)) ⟨_, rfl, z, rfl, hz, fun H2 sm2 => ?_⟩⟩
    rw [h4]
    exact q _ (sm1.trans sm2)
/-! ### put_in, cut_out -/
def putS (t z : Str) (i : Int) : Str := cutS t none (some i) ++ z ++ cutS t (some i) none
def cutO (t : Str) (i n : Int) : Str := cutS t none (some i) ++ cutS t (some (i + n)) none
theorem len_add (x y : Str) : (x ++ y).length = x.length + y.length := by
  show (x.cps ++ y.cps).size = _
  rw [Array.size_append] <;> rfl
def intOf : V → Int
  | .int i => i
  | _ => 0
def strOf : V → Str
  | .str z => z
  | _ => Str.empty
def putOk (t ls : Str) (a v : V) : Bool := btw a 0 t.length && isT v && decide (v ≠ .str "") && over (strOf v) ls && decide ((t.length : Int) + (strOf v).length ≤ 60)
theorem isT_short {z : Str} (h : isT (.str z) = true) : z.length ≤ 60 := by
  have h' : (decide ((z.length : Int) ≤ 60) && wordB z) = true := h
  rw [Bool.and_eq_true] at h'
  have := of_decide_eq_true h'.1
  omega
theorem sz60 {n : Nat} (h : n ≤ 1000) : n ≤ sizeLine := Nat.le_trans h (by decide)
def spPut (K : PySem.W.Frag) (C : Addr) : Sp := fun vs H Q E => ∃ ver m t ls a v, vs = [.ref ver, a, v] ∧ SqT K H ver [.ref m, .str t] ∧ t.length ≤ 60 ∧ HasL K H m ls ∧ Nice K H a ∧ Nice K H v ∧ Short v ∧
  (putOk t ls a v = true → ∀ H' p, Same H H' → H p = none → H' p = some (.tup [.ref m, .str (putS t (strOf v) (intOf a))]) → Q (.ref p) H') ∧
  (putOk t ls a v = false → ∀ H', Same H H' → E (.ref C) none H')
theorem short_of {v : V} (h : isT v = true) : ∃ z, v = .str z ∧ z.length ≤ 60 := by
  cases v with
  | str z => exact ⟨z, rfl, isT_short h⟩
  | _ => cases h
theorem ok_put_in {f : Addr} {fd : FuncData} {C : Addr} (F : FnP K "put_in" "put_in" s_put_in f fd) (B : BN mg) (gM : ∃ u, mg "MAX_TEXT" = some u ∧ RelV (.int 60) u) (c1 : Cal P w K mg base (L2.CX P w) 1 "require_edit" (spReqE C)) (c2 : Cal P w K mg base CX0 2 "is_between" (spBtw K))
    (c3 : Cal P w K mg base CX0 2 "is_text" (spIsText K)) (c4 : Cal P w K mg base CX0 1 "is_over" (spOver K)) : FnOk P w K mg base (L2.CX P w) 3 f fd ["version", "at", "letters"] (spPut K C) := by
  have S := sc_put_in
  refine F.ok S (fun vs H Q E h => ?_) (fun cdv A outer s H vs Q E hr h => ?_)
  · obtain ⟨ver, m, t, ls, a, v, rfl, _⟩ := h
    rfl
  · obtain ⟨ver, m, t, ls, a, v, rfl, hv, ht, hl, na, nv, sv, q1, q2⟩ := h
    refine ⟨_, (pss_cons (ps_asg (pv 0) (pg_tup rfl (pgs_cons (pg_name (i := 3) S.nd rfl (Or.inl rfl)) (pgs_cons (pg_name (i := 4) S.nd rfl (Or.inl rfl)) pgs_nil))))
      (pss_cons (ps_expr (pe_c c1 hr (by decide) (by rfl) (E := E) (passes_call (takes_of rfl rfl rfl rfl) (fun _ _ _ _ h => h)) (pa_cons (pe_and (pe_c c2 hr (by decide) (by rfl) (E := E0) pass0 (pa_cons (pv 1) (pa_cons pe_int (pa_cons (pe_callB call_len (by rfl) B.len (by decide +kernel) (pa_cons (pv 4) pa_nil)) pa_nil)))) (pe_and (pe_c c3 hr (by decide) (by rfl) (E := E0) pass0 (pa_cons (pv 2) pa_nil)) (pe_one (pe_cmpR op_ne (pv 2) pe_str (nomark _))))) pa_nil)))
      (pss_cons (ps_expr (pe_c c1 hr (by decide) (by rfl) (E := E) (passes_call (takes_of rfl rfl rfl rfl) (fun _ _ _ _ h => h)) (pa_cons (pe_and (pe_c c4 hr (by decide) (by rfl) (E := E0) pass0 (pa_cons (pv 2) (pa_cons (pv 3) pa_nil))) (pe_one (pe_cmpR op_le (pe_op op_add (pe_callB call_len (by rfl) B.len (by decide +kernel) (pa_cons (pv 4) pa_nil)) (pe_callB call_len (by rfl) B.len (by decide +kernel) (pa_cons (pv 2) pa_nil))) (C8.pe_gc (by rfl) gM) (nomark _)))) pa_nil)))
      (pss_one (ps_ret (pe_tup (pa_cons (pv 3) (pa_cons (pe_op op_add_str (pe_op op_add_str (pe_slice sl_str (pv 4) po_none (po_some (pv 1))) (pv 2)) (pe_slice sl_str (pv 4) (po_some (pv 1)) po_none)) pa_nil)))))))), ?_⟩
    have tz : t.length ≤ sizeLine := sz60 (by omega)
    refine ⟨_, rfl, ver, _, rfl, hv, rfl, _, _, rfl, ?_⟩
    refine ⟨_, _, rfl, ?_⟩
    refine ⟨rfl, ?_⟩
    -- at lies within
    refine ⟨a, rfl, _, rfl, _, t.length, rfl, ⟨tz, rfl⟩, a, 0, t.length, rfl, na, _, rfl, ?_⟩
    cases e1 : btw a 0 t.length with
    | false =>
      refine iteF ⟨false, rfl, fun z => (nomatch z), fun _ => ?_⟩
      exact q2 (by unfold putOk; rw [e1]; rfl) _ (Same.refl _)
    | true =>
      obtain ⟨i, rfl⟩ : ∃ i, a = .int i := by
        cases a with
        | int i => exact ⟨i, rfl⟩
        | _ => cases e1
      refine iteT ⟨v, rfl, v, rfl, nv, sv, fun H1 sm1 => ⟨_, rfl, ?_⟩⟩
      cases e2 : isT v with
      | false =>
        refine iteF ⟨false, rfl, fun z => (nomatch z), fun _ => ?_⟩
        exact q2 (by unfold putOk; rw [e1, e2]; rfl) _ sm1
      | true =>
        obtain ⟨z, rfl, hz⟩ := short_of e2
        have zz : z.length ≤ sizeLine := sz60 (by omega)
        refine iteT ⟨_, rfl, rfl, ?_⟩
        by_cases e3 : V.str z = .str ""
        · refine ⟨_, rfl, fun z => ?_, fun _ => ?_⟩
          · rw [decide_eq_true e3] at z
            cases z
          · exact q2 (by unfold putOk; rw [e1, e2, show decide (V.str z ≠ .str "") = false from decide_eq_false (fun q => q e3)]; rfl) _ sm1
        · refine ⟨_, rfl, fun _ => ?_, fun z => ?_⟩
          rotate_left
          · rw [decide_eq_false e3] at z
            cases z
          refine ⟨_, rfl, _, rfl, z, m, ls, rfl, zz, hl.same sm1, fun H2 sm2 => ⟨_, rfl, ?_⟩⟩
          have e3' : decide (V.str z ≠ .str "") = true := decide_eq_true e3
          cases e4 : over z ls with
          | false =>
            refine iteF ⟨false, rfl, fun z => (nomatch z), fun _ => ?_⟩
            exact q2 (by unfold putOk; rw [e1, e2, e3', show over (strOf (.str z)) ls = false from e4]; rfl) _ (sm1.trans sm2)
          | true =>
            refine iteT ⟨_, rfl, _, t.length, rfl, ⟨tz, rfl⟩, _, rfl, _, z.length, rfl, ⟨zz, rfl⟩, _, _, rfl, rfl, _, _, rfl, rfl, ?_⟩
            by_cases e5 : (t.length : Int) + z.length ≤ 60
            · refine ⟨_, rfl, fun _ => ?_, fun z => absurd (z.symm.trans (decide_eq_true e5)) Bool.false_ne_true⟩
              have q0 := q1 (by unfold putOk; rw [e1, e2, e3', show over (strOf (.str z)) ls = true from e4]; exact decide_eq_true e5)
              have l1 := cutS_length t none (some i)
              have l2 := cutS_length t (some i) none
              refine ⟨_, rfl, _, rfl, _, rfl, i, rfl, t, rfl, tz, _, rfl, _, _, rfl, rfl, ?_, _, rfl, _, rfl, i, rfl, t, rfl, tz, _, _, rfl, rfl, ?_, ?_⟩
              · exact sz60 (by omega)
              · rw [len_add]
                exact sz60 (by omega)
              · refine ⟨by show 2 ≤ sizeLine; decide, fun p hp => ?_⟩
                have sm3 : Same H (upd H2 p (.tup [.ref m, .str (putS t z i)])) := (sm1.trans sm2).trans (same_upd hp)
                refine q0 _ p sm3 ?_ upd_same
                cases e : H p with
                | none => rfl
                | some o => exact absurd ((sm1.trans sm2) _ _ e) (by rw [hp]; exact fun z => nomatch z)
            · refine ⟨_, rfl, fun z => absurd (z.symm.trans (decide_eq_false e5)) (Bool.false_ne_true ∘ Eq.symm), fun _ => ?_⟩
              exact q2 (by unfold putOk; rw [e1, e2, e3', show over (strOf (.str z)) ls = true from e4]; exact decide_eq_false e5) _ (sm1.trans sm2)
end
end K67
end
section
set_option Elab.async false
set_option linter.all false
set_option maxRecDepth 100000
set_option maxHeartbeats 4000000
namespace K67
open PySem PySem.Spec PyProof.Rows L2
theorem btw_int {v : V} {lo hi : Int} (h : btw v lo hi = true) : ∃ i, v = .int i ∧ lo ≤ i ∧ i ≤ hi := by
  cases v with
  | int i =>
    have h' : (decide (lo ≤ i) && decide (i ≤ hi)) = true := h
    rw [Bool.and_eq_true] at h'
    exact ⟨i, rfl, of_decide_eq_true h'.1, of_decide_eq_true h'.2⟩
  | _ => cases h
section
variable {P : Program} {w : World} {K : PySem.W.Frag} {mg : Str → Option Value} {base : Heap}
def cutOk (t : Str) (a n : V) : Bool := btw a 0 t.length && btw n 1 (t.length - intOf a)
theorem fresh_of {H H2 : Hp} {p : Addr} (sm : Same H H2) (hp : H2 p = none) : H p = none := by
  cases e : H p with
  | none => rfl
  | some o =>
    have := sm _ _ e
    rw [hp] at this
    cases this
def spCut (K : PySem.W.Frag) (C : Addr) : Sp := fun vs H Q E => ∃ ver m t a v, vs = [.ref ver, a, v] ∧ SqT K H ver [.ref m, .str t] ∧ t.length ≤ 60 ∧ Nice K H a ∧ Nice K H v ∧
  (cutOk t a v = true → ∀ H' p, Same H H' → H p = none → H' p = some (.tup [.ref m, .str (cutO t (intOf a) (intOf v))]) → Q (.ref p) H') ∧
  (cutOk t a v = false → ∀ H', Same H H' → E (.ref C) none H')
theorem ok_cut_out {f : Addr} {fd : FuncData} {C : Addr} (F : FnP K "cut_out" "cut_out" s_cut_out f fd) (B : BN mg) (c1 : Cal P w K mg base (L2.CX P w) 1 "require_edit" (spReqE C)) (c2 : Cal P w K mg base CX0 2 "is_between" (spBtw K)) :
    FnOk P w K mg base (L2.CX P w) 3 f fd ["version", "at", "many"] (spCut K C) := by
  have S := sc_cut_out
  refine F.ok S (fun vs H Q E h => ?_) (fun cdv A outer s H vs Q E hr h => ?_)
  · obtain ⟨ver, m, t, a, v, rfl, _⟩ := h
    rfl
  · obtain ⟨ver, m, t, a, v, rfl, hv, ht, na, nv, q1, q2⟩ := h
    refine ⟨_, (pss_cons (ps_asg (pv 0) (pg_tup rfl (pgs_cons (pg_name (i := 3) S.nd rfl (Or.inl rfl)) (pgs_cons (pg_name (i := 4) S.nd rfl (Or.inl rfl)) pgs_nil))))
      (pss_cons (ps_expr (pe_c c1 hr (by decide) (by rfl) (E := E) (passes_call (takes_of rfl rfl rfl rfl) (fun _ _ _ _ h => h)) (pa_cons (pe_and (pe_c c2 hr (by decide) (by rfl) (E := E0) pass0 (pa_cons (pv 1) (pa_cons pe_int (pa_cons (pe_callB call_len (by rfl) B.len (by decide +kernel) (pa_cons (pv 4) pa_nil)) pa_nil)))) (pe_one (pe_c c2 hr (by decide) (by rfl) (E := E0) pass0 (pa_cons (pv 2) (pa_cons pe_int (pa_cons (pe_op op_sub (pe_callB call_len (by rfl) B.len (by decide +kernel) (pa_cons (pv 4) pa_nil)) (pv 1)) pa_nil)))))) pa_nil)))
      (pss_one (ps_ret (pe_tup (pa_cons (pv 3) (pa_cons (pe_op op_add_str (pe_slice sl_str (pv 4) po_none (po_some (pv 1))) (pe_slice sl_str (pv 4) (po_some (pe_op op_add (pv 1) (pv 2))) po_none)) pa_nil))))))), ?_⟩
    have tz : t.length ≤ sizeLine := sz60 (by omega)
    refine ⟨_, rfl, ver, _, rfl, hv, rfl, _, _, rfl, ?_⟩
    refine ⟨_, _, rfl, ?_⟩
    refine ⟨rfl, ?_⟩
    refine ⟨a, rfl, _, rfl, _, t.length, rfl, ⟨tz, rfl⟩, a, 0, t.length, rfl, na, _, rfl, ?_⟩
    cases e1 : btw a 0 t.length with
    | false =>
      refine iteF ⟨false, rfl, fun z => (nomatch z), fun _ => ?_⟩
      exact q2 (by unfold cutOk; rw [e1]; rfl) _ (Same.refl _)
    | true =>
      obtain ⟨i, rfl, _, _⟩ := btw_int e1
      refine iteT ⟨v, rfl, _, rfl, _, t.length, rfl, ⟨tz, rfl⟩, _, rfl, _, _, rfl, rfl, v, 1, _, rfl, nv, _, rfl, fun e2 => ?_, fun e2 => ?_⟩
      · obtain ⟨n, rfl, _, _⟩ := btw_int e2
        have q0 := q1 (by unfold cutOk; rw [e1]; exact e2)
        have l1 := cutS_length t none (some i)
        have l2 := cutS_length t (some (i + n)) none
        refine ⟨_, rfl, _, rfl, _, rfl, i, rfl, t, rfl, tz, _, rfl, _, rfl, _, rfl, _, _, rfl, rfl, _, rfl, t, rfl, tz, _, _, rfl, rfl, ?_, ?_⟩
        · exact sz60 (by omega)
        · refine ⟨by show 2 ≤ sizeLine; decide, fun p hp => ?_⟩
          exact q0 _ p (same_upd hp) hp upd_same
      · exact q2 (by unfold cutOk; rw [e1]; exact e2) _ (Same.refl _)
end
end K67
end
section
set_option Elab.async false
set_option linter.all false
set_option maxRecDepth 100000
set_option maxHeartbeats 4000000
namespace K67
open PySem PySem.Spec PyProof.Rows L2
/-! ### match over a tuple, by its length; the items go to names -/
abbrev capP (c : Str × Pos) : Pattern := .MatchAs none (some c.1) c.2
theorem bind_name {X : Cx} {x : Str} {i : Nat} {pins : List (Addr × Obj)} {σ : L2.St} {H : Hp} {s : Shared} {v : V} {u : Value} {Q : Unit → Shared → Prop} (hN : X.N.Nodup) (hi : X.N[i]? = some x) (hx : Loc X.env.scope x) (hf : X.fn x = true ∨ X.env.scope.names.lookup x = some .local)
    (I : Inv X pins σ H s) (r : RelV v u) (h : ∀ s', Inv X pins (σ.set i (some v)) H s' → Q () s') : wpAny (model X.prog X.w) X.A (bindName X.env x u) Q X.xe s := by
  unfold bindName
  refine wpAny_bind (wpAny_holding (wpAny_point ?_))
  refine wpAny_bind (store_ok I hN hi hx r (fun s' I' => ?_) hf)
  exact wpAny_point (h s' I')
inductive NmOk (X : Cx) : List (Str × Pos) → List Nat → Prop
  | nil : NmOk X [] []
  | cons {x : Str} {p : Pos} {i : Nat} {cs : List (Str × Pos)} {is : List Nat} (hi : X.N[i]? = some x) (hx : Loc X.env.scope x) (hf : X.fn x = true ∨ X.env.scope.names.lookup x = some .local) (t : NmOk X cs is) : NmOk X ((x, p) :: cs) (i :: is)
def setAll (σ : L2.St) : List Nat → List V → L2.St
  | i :: is, v :: vs => setAll (σ.set i (some v)) is vs
  | _, _ => σ
theorem each_caps {M : Model} {A : Around} {E : Value → Shared → Prop} {env : Env} : ∀ (cs : List (Str × Pos)) (us : List Value), cs.length = us.length → ∀ (R : Option (List (Str × Value)) → Shared → Prop) (s : Shared), R (some ((cs.map (·.1)).zip us)) s → wpAny M A (matchEach (cs.map capP) env us) R E s
  | [], [], _, R, s, h => wpAny_matchEach_nil h
  | c :: cs, u :: us, hl, R, s, h => by
    refine wpAny_matchEach_cons (wpAny_matchPattern_Capture ?_)
    exact each_caps cs us (by simpa using hl) _ s h
theorem bind_caps {X : Cx} {pins : List (Addr × Obj)} {H : Hp} (hN : X.N.Nodup) : ∀ {cs : List (Str × Pos)} {is : List Nat} (n : NmOk X cs is) {vs : List V} {us : List Value} (r : Vals vs us) (hl : vs.length = cs.length) (σ : L2.St) (s : Shared) (Q : Unit → Shared → Prop), Inv X pins σ H s →
    (∀ s', Inv X pins (setAll σ is vs) H s' → Q () s') →
    wpAny (model X.prog X.w) X.A (assignInOrder ((((cs.map (·.1)).zip us)).map fun (q : Str × Value) => bindName X.env q.1) (((cs.map (·.1)).zip us).map (·.2))) Q X.xe s
  | _, _, .nil, _, _, .nil, _, σ, s, Q, I, h => wpAny_assignInOrder_none (h s I)
  | _, _, .cons hi hx hf t, _, _, .cons r rr, hl, σ, s, Q, I, h => by
    refine wpAny_assignInOrder_more (bind_name hN hi hx hf I r fun s' I' => ?_)
    exact bind_caps hN t rr (by simpa using hl) _ s' Q I' h
/-- what a match's cases ask, the subject the tuple xs at a -/
abbrev TM := Addr → List V → TS
structure PMC (X : Cx) (cases : List MatchCase) (t : TM) : Prop where
  run : ∀ (pins : List (Addr × Obj)) (s : Shared) (σ : L2.St) (H : Hp) (D : Ends) (a : Addr) (xs : List V) (first : Bool), Inv X pins σ H s → SqT X.K H a xs → t a xs D σ H → wpAny (model X.prog X.w) X.A (matchCases cases X.env (.ref a) first) (SP X pins D) X.xe s
def tMNil : TM := fun _ _ D σ H => D.nx σ H
theorem pmc_nil {X : Cx} : PMC X [] tMNil := ⟨fun pins s σ H D a xs first I hq h => wpAny_matchCases_nil ⟨σ, H, I, h⟩⟩
def tMSeq (K : PySem.W.Frag) (n : Nat) (is : List Nat) (tg : TT) (tb : TS) (tr : TM) : TM := fun a xs D σ H => (xs.length ≠ n → tr a xs D σ H) ∧
  (xs.length = n → tg (setAll σ is xs) H fun b H1 => if b = true then tb D (setAll σ is xs) H1 else SqT K H1 a xs ∧ tr a xs D (setAll σ is xs) H1)
theorem pmc_seq {X : Cx} {cs : List (Str × Pos)} {is : List Nat} {c1 : Str × Pos} {cs' : List (Str × Pos)} {g : Expr} {body : List Stmt} {rest : List MatchCase} {pos : Pos} {tg : TT} {tb : TS} {tr : TM} (hc : X.calm = true) (hN : X.N.Nodup) (hcs : cs = c1 :: cs') (nm : NmOk X cs is) (hg : PT X g tg) (hb : PSs X body tb) (hr : PMC X rest tr) :
    PMC X (⟨.MatchSequence (cs.map capP) pos, some g, body⟩ :: rest) (tMSeq X.K cs.length is tg tb tr) := by
  refine ⟨fun pins s σ H D a xs first I hq h => ?_⟩
  obtain ⟨h1, h2⟩ := h
  obtain ⟨its, rv, p, hz⟩ := I.tuple hq
  have hlen := rv.length
  refine wpAny_matchCases_cons (wpAny_matchPattern_Sequence ?_ ?_ ?_)
  · refine wpAny_collectionFlag p.typeIs flag_seq_tuple ?_
    show wpAny _ _ (pyLen (.ref a)) _ _ _
    refine pyLen_tuple p ?_ ?_
    · have : its.toArray.size = xs.length := by simp [hlen]
      rw [this]
      have := hz
      rw [sizeLine_eq] at this
      omega
    · have I1 : Inv X pins σ H { s with toks := s.toks + 1 + 1 } := I.tok _
      by_cases e : xs.length = cs.length
      · rw [if_neg (by simp [← hlen, e])]
        have hsz : (cs.map capP).length = its.toArray.size := by simp [← hlen, e]
        rw [hsz]
        refine unpackItems_tuple (I.ok.hd hc) (s := { s with toks := s.toks + 1 + 1 }) p fun h' hx => ?_
        have I2 : Inv X pins σ H { s with heap := h', toks := s.toks + 1 + 1 } := I1.kept (t' := s.toks + 1 + 1) fun b o q => hx b o (Nat.ne_of_lt (Heap.lt_size q)) q
        have hl2 : cs.length = its.toArray.toList.length := by simp [← hlen, e]
        refine each_caps cs its.toArray.toList hl2 _ _ ?_
        refine bind_caps hN nm (by simpa using rv) e σ _ _ I2 fun s' I3 => ?_
        refine thn (hg.run pins s' _ H _ I3 (h2 e)) fun b s4 ⟨H1, I4, q4⟩ => ?_
        cases b with
        | true => exact hb.run pins s4 _ H1 D I4 q4
        | false => exact hr.run pins s4 _ H1 D a xs false I4 q4.1 q4.2
      · rw [if_pos (by simp [← hlen]; omega)]
        exact hr.run pins _ σ H D a xs false I1 hq (h1 e)
  · have : ∀ l : List (Str × Pos), (l.map capP).findIdx? (·.isStar) = none := by
      intro l
      rw [List.findIdx?_eq_none_iff]
      intro q hq
      obtain ⟨c, _, rfl⟩ := List.mem_map.mp hq
      rfl
    exact this cs
  · rw [hcs]
    rfl
def tMatch (K : PySem.W.Frag) (te : TE) (t : TM) : TS := fun D σ H => te σ H fun v H1 => ∃ a xs, v = .ref a ∧ SqT K H1 a xs ∧ t a xs D σ H1
theorem ps_match {X : Cx} {e : Expr} {cases : List MatchCase} {pos : Pos} {te : TE} {t : TM} (he : PE X e te) (hc : PMC X cases t) : PS X (.Match e cases pos) (tMatch X.K te t) := by
  refine ⟨fun pins s σ H D I h => ?_⟩
  refine wpAny_Match (thn (he.run pins s σ H _ I h) fun v s1 ⟨y, H1, I1, r1, a, xs, ey, hq, q⟩ => ?_)
  subst ey
  cases r1
  exact hc.run pins s1 σ H1 D a xs true I1 hq q
end K67
end
section
set_option Elab.async false
set_option linter.all false
set_option maxRecDepth 100000
set_option maxHeartbeats 4000000
namespace K67
open PySem PySem.Spec PyProof.Rows L2
/-! ### arguments of all kinds, by their types -/
structure Kits (K : PySem.W.Frag) (T : Cls3) : Prop where
  kit : ∀ t ∈ TYS T, ∀ c ∈ CLS T, PySem.W.kitOne K t c = some (kitB2 t c)
  tm : T.t ≠ T.m
  te : T.t ≠ T.e
  me : T.m ≠ T.e
theorem tyOf_same {K : PySem.W.Frag} {H H' : Hp} {v : V} {t : Value} (h : TyOf K H v t) (s : Same H H') : TyOf K H' v t := by
  cases h with
  | non => exact .non
  | bl x => exact .bl x
  | int x => exact .int x
  | str x => exact .str x
  | flt x => exact .flt x
  | lst e => exact .lst (s _ _ e)
  | frz e => exact .frz (s _ _ e)
  | tup e => exact .tup (s _ _ e)
  | dK e => exact .dK (s _ _ e)
  | dT e => exact .dT (s _ _ e)
  | ins e a b c d f => exact .ins (s _ _ e) a b c d f
/-- an argument: of one of the ten types; a text is not too long -/
def Arg (K : PySem.W.Frag) (T : Cls3) (H : Hp) (v : V) : Prop := (∃ t, t ∈ TYS T ∧ TyOf K H v t) ∧ Short v
theorem Arg.same {K : PySem.W.Frag} {T : Cls3} {H H' : Hp} {v : V} (h : Arg K T H v) (s : Same H H') : Arg K T H' v := let ⟨⟨t, h1, h2⟩, h3⟩ := h; ⟨⟨t, h1, tyOf_same h2 s⟩, h3⟩
theorem Arg.nice {K : PySem.W.Frag} {T : Cls3} {H : Hp} {v : V} (k : Kits K T) (h : Arg K T H v) : Nice K H v := by
  obtain ⟨⟨t, h1, h2⟩, h3⟩ := h
  cases v with
  | non => exact True.intro
  | bl _ => exact True.intro
  | int _ => exact True.intro
  | str _ => exact True.intro
  | ref a =>
    refine ⟨t, .base h2, ?_, ?_, ?_⟩
    all_goals
      have z := k.kit t h1
      first
        | rw [z (.type "int") (by simp [CLS])]
        | rw [z (.type "str") (by simp [CLS])]
        | rw [z (.type "bool") (by simp [CLS])]
      cases h2 <;> rfl
  | _ => 
    cases h2
    all_goals (simp [TYS] at h1)
theorem Arg.kit {K : PySem.W.Frag} {T : Cls3} {H : Hp} {v : V} (k : Kits K T) (h : Arg K T H v) {c : Value} (hc : c ∈ CLS T) : ∃ t, TyX K H v t ∧ TyOf K H v t ∧ PySem.W.kitOne K t c = some (kitB2 t c) := by
  obtain ⟨⟨t, h1, h2⟩, h3⟩ := h
  exact ⟨t, .base h2, h2, k.kit t h1 c hc⟩
/-- the letters of the machines -/
def LtOk (K : PySem.W.Frag) (T : Cls3) (H : Hp) (lt : Addr → Option Str) : Prop := ∀ p ls, lt p = some ls → HasL K H p ls ∧ ∀ t, TyOf K H (.ref p) t → t = .ref T.t
/-- an item of an edit: the machines among them are known -/
def ArgL (K : PySem.W.Frag) (T : Cls3) (lt : Addr → Option Str) (H : Hp) (v : V) : Prop := Arg K T H v ∧ ∀ p, v = .ref p → lt p = none → ¬ TyOf K H v (.ref T.t)
theorem tyOf_back {K : PySem.W.Frag} {T : Cls3} {H H' : Hp} {v : V} {t : Value} (h : Arg K T H v) (s : Same H H') (ht : TyOf K H' v t) : TyOf K H v t := by
  obtain ⟨⟨t0, h1, h2⟩, h3⟩ := h
  have key : t = t0 := by
    cases h2 with
    | non => cases ht; rfl
    | bl x => cases ht; rfl
    | int x => cases ht; rfl
    | str x => cases ht; rfl
    | flt x => cases ht; rfl
    | lst e =>
      have e' := s _ _ e
      cases ht with
      | lst q => rfl
      | frz q => rfl
      | tup q => rw [e'] at q; cases q
      | dK q => rw [e'] at q; cases q
      | dT q => rw [e'] at q; cases q
      | ins q => rw [e'] at q; cases q
    | frz e =>
      have e' := s _ _ e
      cases ht with
      | lst q => rfl
      | frz q => rfl
      | tup q => rw [e'] at q; cases q
      | dK q => rw [e'] at q; cases q
      | dT q => rw [e'] at q; cases q
      | ins q => rw [e'] at q; cases q
    | tup e =>
      have e' := s _ _ e
      cases ht with
      | lst q => rw [e'] at q; cases q
      | frz q => rw [e'] at q; cases q
      | tup q => rfl
      | dK q => rw [e'] at q; cases q
      | dT q => rw [e'] at q; cases q
      | ins q => rw [e'] at q; cases q
    | dK e =>
      have e' := s _ _ e
      cases ht with
      | lst q => rw [e'] at q; cases q
      | frz q => rw [e'] at q; cases q
      | tup q => rw [e'] at q; cases q
      | dK q => rfl
      | dT q => rfl
      | ins q => rw [e'] at q; cases q
    | dT e =>
      have e' := s _ _ e
      cases ht with
      | lst q => rw [e'] at q; cases q
      | frz q => rw [e'] at q; cases q
      | tup q => rw [e'] at q; cases q
      | dK q => rfl
      | dT q => rfl
      | ins q => rw [e'] at q; cases q
    | ins e =>
      have e' := s _ _ e
      cases ht with
      | lst q => rw [e'] at q; cases q
      | frz q => rw [e'] at q; cases q
      | tup q => rw [e'] at q; cases q
      | dK q => rw [e'] at q; cases q
      | dT q => rw [e'] at q; cases q
      | ins q => rw [e'] at q; cases q; rfl
  rw [key]
  exact h2
theorem ArgL.same {K : PySem.W.Frag} {T : Cls3} {lt : Addr → Option Str} {H H' : Hp} {v : V} (h : ArgL K T lt H v) (s : Same H H') : ArgL K T lt H' v :=
  ⟨h.1.same s, fun p e n ht => h.2 p e n (tyOf_back h.1 s ht)⟩
/-- what an edit makes of the text t, the machine m with the letters ls -/
def edOut (lt : Addr → Option Str) (ls t : Str) (m : V) (xs : List V) : Option (V × Str) :=
  match xs with
  | [.str w, a, v] => if w = "put" then (if putOk t ls a v = true then some (m, putS t (strOf v) (intOf a)) else none) else if w = "cut" then (if cutOk t a v = true then some (m, cutO t (intOf a) (intOf v)) else none) else none
  | [.str w, .ref p] => if w = "use" then (match lt p with
    | some ls' => if over t ls' = true then some (.ref p, t) else none
    | none => none) else none
  | _ => none
end K67
namespace K67
open PySem PySem.Spec PyProof.Rows L2
theorem tyTup {K : PySem.W.Frag} {H : Hp} {v : V} {t : Value} (h : TyOf K H v t) (et : t = .type "tuple") : ∃ a xs, v = .ref a ∧ H a = some (.tup xs) := by
  cases h with
  | tup e => exact ⟨_, _, rfl, e⟩
  | _ => simp at et
theorem tyStr {K : PySem.W.Frag} {H : Hp} {v : V} {t : Value} (h : TyOf K H v t) (et : t = .type "str") : ∃ z, v = .str z := by
  cases h with
  | str z => exact ⟨z, rfl⟩
  | _ => simp at et
theorem kitB2_tup {T : Cls3} {t : Value} (h : t ∈ TYS T) : kitB2 t (.type "tuple") = true ↔ t = .type "tuple" := by
  simp only [TYS, List.mem_cons, List.mem_nil_iff, or_false] at h
  rcases h with rfl | rfl | rfl | rfl | rfl | rfl | rfl | rfl | rfl | rfl <;> first | (constructor <;> intro h <;> first | rfl | (exact absurd h (by decide +kernel)) | (cases h)) 
theorem kitB2_str {T : Cls3} {t : Value} (h : t ∈ TYS T) : kitB2 t (.type "str") = true ↔ t = .type "str" := by
  simp only [TYS, List.mem_cons, List.mem_nil_iff, or_false] at h
  rcases h with rfl | rfl | rfl | rfl | rfl | rfl | rfl | rfl | rfl | rfl <;> first | (constructor <;> intro h <;> first | rfl | (exact absurd h (by decide +kernel)) | (cases h))
/-- isinstance(v, tuple) -/
theorem Arg.isTup {K : PySem.W.Frag} {T : Cls3} {H : Hp} {v : V} (k : Kits K T) (h : Arg K T H v) : ∃ t b, TyX K H v t ∧ PySem.W.kitOne K t (.type "tuple") = some b ∧ (b = true → ∃ a xs, v = .ref a ∧ H a = some (.tup xs)) ∧ (b = false → ∀ a xs, v = .ref a → H a ≠ some (.tup xs)) := by
  obtain ⟨⟨t, h1, h2⟩, h3⟩ := h
  refine ⟨t, _, .base h2, k.kit t h1 _ (by simp [CLS]), fun e => ?_, fun e a xs ev ea => ?_⟩
  · have e2 := (kitB2_tup h1).mp e
    exact tyTup h2 e2
  · subst ev
    have e2 : t = .type "tuple" := by
      cases h2 <;> first | rfl | (rename_i q; rw [ea] at q; cases q) | (rename_i q _ _ _ _ _; rw [ea] at q; cases q)
    rw [(kitB2_tup h1).mpr e2] at e
    cases e
theorem Arg.isStr {K : PySem.W.Frag} {T : Cls3} {H : Hp} {v : V} (k : Kits K T) (h : Arg K T H v) : ∃ t b, TyX K H v t ∧ PySem.W.kitOne K t (.type "str") = some b ∧ (b = true → ∃ z, v = .str z) ∧ (b = false → ∀ z, v ≠ .str z) := by
  obtain ⟨⟨t, h1, h2⟩, h3⟩ := h
  refine ⟨t, _, .base h2, k.kit t h1 _ (by simp [CLS]), fun e => ?_, fun e z ev => ?_⟩
  · have e2 := (kitB2_str h1).mp e
    exact tyStr h2 e2
  · subst ev
    have e2 : t = .type "str" := by
      cases h2 <;> rfl
    rw [(kitB2_str h1).mpr e2] at e
    cases e
/-- isinstance(v, TwoPass) -/
theorem kitB2_cls {T : Cls3} {t : Value} (n1 : T.t ≠ T.m) (n2 : T.t ≠ T.e) (h : t ∈ TYS T) : kitB2 t (.ref T.t) = true ↔ t = .ref T.t := by
  simp only [TYS, List.mem_cons, List.mem_nil_iff, or_false] at h
  have hrr : ∀ a b : Addr, ((Value.ref a == Value.ref b) = true) ↔ a = b := fun a b => by simp
  rcases h with rfl | rfl | rfl | rfl | rfl | rfl | rfl | rfl | rfl | rfl
  all_goals (unfold kitB2; constructor <;> intro h)
  all_goals first
    | rfl
    | (simp at h; done)
    | (simp; done)
    | (cases h; done)
    | (simp at h; first | exact absurd h.symm n1 | exact absurd h.symm n2 | exact absurd h n1 | exact absurd h n2)
    | (injection h with h; first | exact absurd h.symm n1 | exact absurd h.symm n2)
theorem Arg.isTwo {K : PySem.W.Frag} {T : Cls3} {H : Hp} {v : V} (k : Kits K T) (h : Arg K T H v) : ∃ t b, TyX K H v t ∧ PySem.W.kitOne K t (.ref T.t) = some b ∧ (b = true ↔ TyOf K H v (.ref T.t)) := by
  obtain ⟨⟨t, h1, h2⟩, h3⟩ := h
  refine ⟨t, _, .base h2, k.kit t h1 _ (by simp [CLS]), ⟨fun e => ?_, fun e => ?_⟩⟩
  · have e2 := (kitB2_cls k.tm k.te h1).mp e
    subst e2
    exact h2
  · refine (kitB2_cls k.tm k.te h1).mpr ?_
    cases e with
    | ins e a b c d f =>
      cases h2 with
      | ins e' => rw [e] at e'; cases e'; rfl
      | lst e' => rw [e] at e'; cases e'
      | frz e' => rw [e] at e'; cases e'
      | tup e' => rw [e] at e'; cases e'
      | dK e' => rw [e] at e'; cases e'
      | dT e' => rw [e] at e'; cases e'
end K67
end
section
set_option Elab.async false
set_option linter.all false
set_option maxRecDepth 100000
set_option maxHeartbeats 4000000
namespace K67
open PySem PySem.Spec PyProof.Rows L2
section
variable {P : Program} {w : World} {K : PySem.W.Frag} {mg : Str → Option Value} {base : Heap}
/-- what the caller of edited wants: by edOut -/
def EdWant (H : Hp) (C : Addr) (Q : VK) (E : XK) (r : Option (V × Str)) : Prop := match r with
  | some (m', t') => ∀ H' p, Same H H' → H p = none → H' p = some (.tup [m', .str t']) → Q (.ref p) H'
  | none => ∀ H', Same H H' → E (.ref C) none H'
/-- an edit, as it was handed in: a tuple of arguments, or no tuple -/
def Edt (K : PySem.W.Frag) (T : Cls3) (lt : Addr → Option Str) (H : Hp) (v : V) : Option (List V) → Prop
  | some xs => ∃ a, v = .ref a ∧ H a = some (.tup xs) ∧ xs.length ≤ 1000 ∧ ∀ x ∈ xs, ArgL K T lt H x
  | none => Arg K T H v ∧ ∀ a xs, v = .ref a → H a ≠ some (.tup xs)
theorem seqT {H H' : Hp} {a : Addr} {xs : List V} (e : Same H H') (h : SqT K H a xs) : SqT K H' a xs := by
  rcases h with h | h
  · rcases h with h | ⟨o, h⟩
    · exact .inl (.inl (e _ _ h))
    · exact .inl (.inr ⟨o, e _ _ h⟩)
  · exact .inr h
def edO (lt : Addr → Option Str) (ls t : Str) (m : V) : Option (List V) → Option (V × Str)
  | some xs => edOut lt ls t m xs
  | none => none
theorem Edt.arg {T : Cls3} {lt : Addr → Option Str} {H : Hp} {v : V} {o : Option (List V)} (h : Edt K T lt H v o) : Arg K T H v := by
  cases o with
  | none => exact h.1
  | some xs =>
    obtain ⟨a, rfl, e, _⟩ := h
    exact ⟨⟨_, by simp [TYS], .tup e⟩, True.intro⟩
theorem Edt.same {T : Cls3} {lt : Addr → Option Str} {H H' : Hp} {v : V} {o : Option (List V)} (h : Edt K T lt H v o) (s : Same H H') : Edt K T lt H' v o := by
  cases o with
  | none =>
    refine ⟨h.1.same s, fun a xs e q => ?_⟩
    obtain ⟨⟨t, h1, h2⟩, h3⟩ := h.1
    subst e
    cases h2 with
    | lst e' => rw [s _ _ e'] at q; cases q
    | frz e' => rw [s _ _ e'] at q; cases q
    | tup e' => exact h.2 _ _ rfl e'
    | dK e' => rw [s _ _ e'] at q; cases q
    | dT e' => rw [s _ _ e'] at q; cases q
    | ins e' => rw [s _ _ e'] at q; cases q
  | some xs =>
    obtain ⟨a, rfl, e, l, h⟩ := h
    exact ⟨a, rfl, s _ _ e, l, fun x hx => (h x hx).same s⟩
def spEd (K : PySem.W.Frag) (T : Cls3) (C : Addr) : Sp := fun vs H Q E => ∃ ver m t ls v o lt, vs = [.ref ver, v] ∧ SqT K H ver [.ref m, .str t] ∧ t.length ≤ 60 ∧ HasL K H m ls ∧ LtOk K T H lt ∧ Edt K T lt H v o ∧ EdWant H C Q E (edO lt ls t (.ref m) o)
theorem edOut_no {lt : Addr → Option Str} {ls t : Str} {m : V} {x : V} {r : List V} (h : ∀ z, x ≠ .str z) : edOut lt ls t m (x :: r) = none := by
  unfold edOut
  split
  · rename_i e; injection e with e _; exact absurd e (h _)
  · rename_i e; injection e with e _; exact absurd e (h _)
  · rfl
theorem ok_edited {T : Cls3} {f : Addr} {fd : FuncData} {C : Addr} (kt : Kits K T) (F : FnP K "edited" "edited" s_edited f fd) (B : BN mg) (gP : ∃ u, mg "PUT" = some u ∧ RelV (.str "put") u) (gC : ∃ u, mg "CUT" = some u ∧ RelV (.str "cut") u) (gU : ∃ u, mg "USE" = some u ∧ RelV (.str "use") u)
    (gT : ∃ u, mg "TwoPass" = some u ∧ RelV (.ref T.t) u) (X1 : ExC K mg "InvalidEdit" C)
    (c1 : Cal P w K mg base (L2.CX P w) 1 "require_edit" (spReqE C)) (c2 : Cal P w K mg base (L2.CX P w) 3 "put_in" (spPut K C)) (c3 : Cal P w K mg base (L2.CX P w) 3 "cut_out" (spCut K C)) (c4 : Cal P w K mg base CX0 1 "is_over" (spOver K)) :
    FnOk P w K mg base (L2.CX P w) 4 f fd ["version", "edit"] (spEd K T C) := by
  have S := sc_edited
  refine F.ok S (fun vs H Q E h => ?_) (fun cdv A outer s H vs Q E hr h => ?_)
  · obtain ⟨ver, m, t, ls, v, o, lt, rfl, _⟩ := h
    rfl
  · obtain ⟨ver, m, t, ls, v, o, lt, rfl, hv, ht, hl, hlt, he, q⟩ := h
    have PX : Passes (L2.CX P w) (cxOf (L2.CX P w) P w K mg base ["version", "edit", "word", "at", "letters", "many", "machine"] "edited" (defScope s_edited) f cdv A outer s H E) E := passes_call (takes_of rfl rfl rfl rfl) (fun _ _ _ _ h => h)
    refine ⟨_, (pss_cons (ps_expr (pe_c c1 hr (by decide) (by rfl) (E := E) PX (pa_cons (pe_and (pe_callB call_isi (by rfl) B.isinstance (by decide +kernel) (pa_cons (pv 1) (pa_cons (pe_bltn (v := .ty "tuple") (by rfl) B.tuple (by decide +kernel) rfl) pa_nil))) (pe_and (pe_cmpR op_gt (pe_callB call_len (by rfl) B.len (by decide +kernel) (pa_cons (pv 1) pa_nil)) pe_int (nomark _)) (pe_one (pe_callB call_isi (by rfl) B.isinstance (by decide +kernel) (pa_cons (pe_ix ix_seq (pv 1) pe_int (fun _ _ => rfl)) (pa_cons (pe_bltn (v := .ty "str") (by rfl) B.str (by decide +kernel) rfl) pa_nil)))))) pa_nil)))
      (pss_cons (ps_match (pv 1)
        (pmc_seq (is := [2, 3, 4]) (cs := [("word", _), ("at", _), ("letters", _)]) rfl S.nd rfl (.cons rfl (.inl rfl) (.inr rfl) (.cons rfl (.inl rfl) (.inr rfl) (.cons rfl (.inl rfl) (.inr rfl) .nil))) (pt_cmpR op_eq (pv 2) (C8.pe_gc (by rfl) gP) (nomark _))
          (pss_one (ps_ret (pe_c c2 hr (by decide) (by rfl) (E := E) PX (pa_cons (pv 0) (pa_cons (pv 3) (pa_cons (pv 4) pa_nil))))))
        (pmc_seq (is := [2, 3, 5]) (cs := [("word", _), ("at", _), ("many", _)]) rfl S.nd rfl (.cons rfl (.inl rfl) (.inr rfl) (.cons rfl (.inl rfl) (.inr rfl) (.cons rfl (.inl rfl) (.inr rfl) .nil))) (pt_cmpR op_eq (pv 2) (C8.pe_gc (by rfl) gC) (nomark _))
          (pss_one (ps_ret (pe_c c3 hr (by decide) (by rfl) (E := E) PX (pa_cons (pv 0) (pa_cons (pv 3) (pa_cons (pv 5) pa_nil))))))
        (pmc_seq (is := [2, 6]) (cs := [("word", _), ("machine", _)]) rfl S.nd rfl (.cons rfl (.inl rfl) (.inr rfl) (.cons rfl (.inl rfl) (.inr rfl) .nil)) (PW.pt (pw_and (pt_cmpR op_eq (pv 2) (C8.pe_gc (by rfl) gU) (nomark _)) (pw_and1 (pt_val (pe_callB call_isi (by rfl) B.isinstance (by decide +kernel) (pa_cons (pv 6) (pa_cons (C8.pe_gc (by rfl) gT) pa_nil)))))))
          (pss_cons (ps_expr (pe_c c1 hr (by decide) (by rfl) (E := E) PX (pa_cons (pe_c c4 hr (by decide) (by rfl) (E := E0) pass0 (pa_cons (pe_ix ix_seq (pv 0) pe_int (fun _ _ => rfl)) (pa_cons (pv 6) pa_nil))) pa_nil)))
            (pss_one (ps_ret (pe_tup (pa_cons (pv 6) (pa_cons (pe_ix ix_seq (pv 0) pe_int (fun _ _ => rfl)) pa_nil))))))
        pmc_nil))))
      (pss_one (ps_raise rfl (takes_of rfl rfl rfl rfl) (pmkC X1 (by rfl)))))), ?_⟩
    have no : ∀ (H' : Hp), edO lt ls t (.ref m) o = none → Same H H' → E (.ref C) none H' := fun H' e sm => by
      rw [e] at q
      exact q H' sm
    obtain ⟨ty, b, hty, hk, hb1, hb2⟩ := he.arg.isTup kt
    refine ⟨v, rfl, v, .ty "tuple", ty, _, b, rfl, .ty "tuple", hty, hk, b, rfl, ?_⟩
    cases o with
    | none =>
      have e : b = false := by
        cases b with
        | false => rfl
        | true =>
          obtain ⟨a, xs, ev, ex⟩ := hb1 rfl
          exact absurd ex (he.2 a xs ev)
      subst e
      exact iteF ⟨false, rfl, fun z => (nomatch z), fun _ => no _ rfl (Same.refl _)⟩
    | some xs =>
      obtain ⟨a, rfl, ha, hlen, hxs⟩ := he
      have e : b = true := by
        cases b with
        | true => rfl
        | false => exact absurd ha (hb2 rfl a xs rfl)
      subst e
      have hz : xs.length ≤ sizeLine := sz60 hlen
      refine iteT ⟨_, rfl, _, xs.length, rfl, .inr ⟨_, SqT.of ha, rfl⟩, _, _, rfl, rfl, _, rfl, ?_⟩
      cases xs with
      | nil => exact iteF' (by simp) ⟨false, rfl, fun z => (nomatch z), fun _ => no _ rfl (Same.refl _)⟩
      | cons x r =>
        refine iteT' (decide_eq_true (by simp)) ?_
        obtain ⟨tx, bx, htx, hkx, hx1, hx2⟩ := (hxs x (by simp)).1.isStr kt
        refine ⟨_, rfl, .inr (.inl ⟨a, _, 0, x, rfl, rfl, SqT.of ha, atI_nat (j := 0) rfl, ?_⟩)⟩
        refine ⟨x, .ty "str", tx, _, bx, rfl, .ty "str", htx, hkx, bx, rfl, fun e1 => ?_, fun e1 => no _ (edOut_no (hx2 e1)) (Same.refl _)⟩
        obtain ⟨wd, rfl⟩ := hx1 e1
        refine ⟨_, rfl, a, _, rfl, SqT.of ha, ?_⟩
        -- the three cases
        have short3 : ∀ (y : V), y ∈ (V.str wd :: r) → Nice K H y := fun y hy => (hxs y hy).1.nice kt
        match r, hxs, ha, hlen, q, no with
        | [], hxs, ha, hlen, q, no =>
          exact ⟨fun _ => ⟨fun _ => ⟨fun _ => no _ rfl (Same.refl _), fun z => (nomatch z)⟩, fun z => (nomatch z)⟩, fun z => (nomatch z)⟩
        | [y], hxs, ha, hlen, q, no =>
          refine ⟨fun _ => ⟨fun _ => ⟨fun z => absurd rfl z, fun _ => ?_⟩, fun z => (nomatch z)⟩, fun z => (nomatch z)⟩
          obtain ⟨ty2, b2, hty2, hk2, hb2⟩ := (hxs y (by simp)).1.isTwo kt
          refine ⟨_, rfl, rfl, _, rfl, ?_⟩
          by_cases hw : wd = "use"
          · subst hw
            refine iteT' (by simp) ⟨y, rfl, y, .ref T.t, ty2, _, b2, rfl, .own _, hty2, hk2, b2, rfl, ?_⟩
            cases b2 with
            | false =>
              refine iteF ⟨SqT.of ha, no _ ?_ (Same.refl _)⟩
              cases y with
              | ref p =>
                obtain ⟨t3, h3, h4⟩ := (hxs (.ref p) (by simp)).1.1
                cases e5 : lt p with
                | none => simp [edO, edOut, e5]
                | some ls' =>
                  have := (hlt p ls' e5).2 t3 h4
                  subst this
                  exact absurd (hb2.mpr h4) Bool.false_ne_true
              | _ => rfl
            | true =>
              have hy := hb2.mp rfl
              obtain ⟨p, rfl⟩ : ∃ p, y = .ref p := by
                cases hy with
                | ins e => exact ⟨_, rfl⟩
              cases e5 : lt p with
              | none => exact absurd hy ((hxs (.ref p) (by simp)).2 p rfl e5)
              | some ls' =>
                have hl2 := (hlt p ls' e5).1
                refine iteT ⟨_, rfl, .inr (.inl ⟨ver, _, 1, .str t, rfl, rfl, hv, atI_nat (j := 1) rfl, ?_⟩)⟩
                refine ⟨_, rfl, t, p, ls', rfl, sz60 (by omega), hl2, fun H1 sm1 => ⟨_, rfl, fun e6 => ?_, fun e6 => no _ (by simp [edO, edOut, e5, e6]) sm1⟩⟩
                refine ⟨_, rfl, _, rfl, .inr (.inl ⟨ver, _, 1, .str t, rfl, rfl, seqT sm1 hv, atI_nat (j := 1) rfl, by show 2 ≤ sizeLine; decide, fun p2 hp2 => ?_⟩)⟩
                have e7 : edO lt ls t (.ref m) (some [.str "use", .ref p]) = some (.ref p, t) := by simp [edO, edOut, e5, e6]
                rw [e7] at q
                exact q _ p2 (sm1.trans (same_upd hp2)) (fresh_of sm1 hp2) upd_same
          · refine iteF' (by simp [hw]) (iteF ⟨SqT.of ha, no _ ?_ (Same.refl _)⟩)
            cases y with
            | ref p => simp [edO, edOut, hw]
            | _ => rfl
        | [y, z], hxs, ha, hlen, q, no =>
          refine ⟨fun z => absurd rfl z, fun _ => ?_⟩
          refine ⟨_, rfl, rfl, _, rfl, ?_⟩
          have hy := (hxs y (by simp)).1
          have hz2 := (hxs z (by simp)).1
          by_cases hw : wd = "put"
          · subst hw
            refine iteT' (by simp) ⟨_, rfl, _, rfl, _, rfl, ver, m, t, ls, y, z, rfl, hv, ht, hl, hy.nice kt, hz2.nice kt, hz2.2, fun e6 => ?_, fun e6 => fun H' sm => no H' (by simp [edO, edOut, e6]) sm⟩
            have e7 : edO lt ls t (.ref m) (some [.str "put", y, z]) = some (.ref m, putS t (strOf z) (intOf y)) := by simp [edO, edOut, e6]
            rw [e7] at q
            exact q
          · refine iteF' (by simp [hw]) ⟨SqT.of ha, fun z => absurd rfl z, fun _ => ?_⟩
            refine ⟨_, rfl, rfl, _, rfl, ?_⟩
            by_cases hw2 : wd = "cut"
            · subst hw2
              refine iteT' (by simp) ⟨_, rfl, _, rfl, _, rfl, ver, m, t, y, z, rfl, hv, ht, hy.nice kt, hz2.nice kt, fun e6 => ?_, fun e6 => fun H' sm => no H' (by simp [edO, edOut, e6, hw]) sm⟩
              have e7 : edO lt ls t (.ref m) (some [.str "cut", y, z]) = some (.ref m, cutO t (intOf y) (intOf z)) := by simp [edO, edOut, e6, hw]
              rw [e7] at q
              exact q
            · refine iteF' (by simp [hw2]) ⟨SqT.of ha, fun _ => no _ (by simp [edO, edOut, hw, hw2]) (Same.refl _), fun z => (nomatch z)⟩
        | _ :: _ :: _ :: _, hxs, ha, hlen, q, no => 
          exact ⟨fun _ => ⟨fun _ => ⟨fun _ => no _ rfl (Same.refl _), fun z => (nomatch z)⟩, fun z => (nomatch z)⟩, fun z => (nomatch z)⟩
end
end K67
end
section
set_option Elab.async false
set_option linter.all false
set_option maxRecDepth 100000
set_option maxHeartbeats 4000000
namespace K67
open PySem PySem.Spec PyProof.Rows L2
/-! ### zip(text, list, strict=True) -/
abbrev IsZipS (h : Heap) (z TI TO : Addr) (f0 : Value) : Prop :=
  h.get? z = some { cls := .type "zip", dict := none, data := .fields #[f0, .bool false, .bool true, .ref TI, .ref TO], slots := #[] }
section
variable {prog : Program} {w : World} {A : Around} {E : Value → Shared → Prop} {s : Shared} {z TI TO i1 i2 : Addr} {fp1 fp2 : List Addr} {n1 n2 i : Nat} {P1 P2 : Nat → Value → Prop} {St1 St2 : Nat → Heap → Prop} {a1 a2 : Value}
theorem zipS_next_item {Q : Value → Shared → Prop} (S : ZipSep2 z TI TO i1 i2 fp1 fp2) (D1 : Draws prog w A i1 fp1 n1 P1 St1) (D2 : Draws prog w A i2 fp2 n2 P2 St2)
    (hz : IsZipS s.heap z TI TO .none) (hTI : IsTupOf2 s.heap TI (.ref i1) (.ref i2)) (hTO : IsTupOf2 s.heap TO a1 a2) (st1 : St1 i s.heap) (st2 : St2 i s.heap) (hlt1 : i < n1) (hlt2 : i < n2)
    (hQ : ∀ x1 x2 h' tk, P1 i x1 → P2 i x2 → IsZipS h' z TI TO (rawInt s.heap.objs.size) → IsTupOf2 h' TO x1 x2 → St1 (i + 1) h' → St2 (i + 1) h' → IsTupOf2 h' s.heap.objs.size x1 x2 → h'.objs.size = s.heap.objs.size + 1 →
      (∀ c o, c ≠ z → c ≠ TO → c ≠ i1 → c ≠ i2 → s.heap.get? c = some o → h'.get? c = some o) → Q (.ref s.heap.objs.size) { s with heap := h', toks := tk }) :
    wpAny (model prog w) A (Builtin.«zip.__next__» ⟨[.ref z], []⟩) (fun fin s' => ∃ v, fin = .done (.ret v) ∧ Q v s') E s := by
  obtain ⟨hp, g, d, tk0, os⟩ := s
  show wpAny _ _ (field (.ref z) 2 >>= _) _ _ _
  refine wpAny_bind (wpAny_field hz rfl (x := .bool true) rfl ?_)
  show wpAny _ _ (field (.ref z) 3 >>= _) _ _ _
  refine wpAny_bind (wpAny_field hz rfl (x := .ref TI) rfl ?_)
  refine wpAny_bind (wpAny_seqItems hTI rfl ?_)
  show wpAny _ _ (Builtin.SmallTypes.ownedTupleIsFree (.ref z) >>= _) _ _ _
  refine wpAny_bind ?_
  unfold Builtin.SmallTypes.ownedTupleIsFree
  refine wpAny_bind (wpAny_field hz rfl (x := .none) rfl (wpAny_pure ?_))
  simp only [if_true]
  refine wpAny_bind (wpAny_rule ?_)
  refine wpAny_bind (wpAny_field hz rfl (x := .ref TO) rfl ?_)
  refine wpAny_bind (wpAny_setField_rec hz (by simp) fun g0 hz0 hs0 => ?_)
  replace hz0 : IsZipS g0 z TI TO .ellipsis := hz0
  replace hs0 : Heap.SameBut z hp g0 := hs0
  refine wpAny_bind ?_
  simp only [List.zipIdx_cons, List.zipIdx_nil, List.forIn_cons, List.forIn_nil]
  refine wpAny_bind (wpAny_bind (wpAny_onRaise ?_))
  show wpAny _ _ ((Builtin.SmallTypes.nextOf (.ref i1)).attempt >>= _) _ _ ⟨g0, g, d, tk0, os⟩
  refine wpAny_bind (wpAny_attempt (D1.item i _ _ _ hlt1 (D1.over st1 hs0 S.zf1) fun x1 p1 tk1 hx1 sn1 hp1 => wpAny_pure ?_))
  replace hp1 : Heap.SameBut i1 g0 p1 := hp1
  have hU1 : IsTupOf2 p1 TO a1 a2 := hp1.extBut _ _ S.Ti1 (hs0.extBut _ _ S.TOz hTO)
  refine wpAny_bind (wpAny_seqItems (s := ⟨p1, g, d, tk1, os⟩) hU1 rfl ?_)
  refine wpAny_bind (updateSeq_IsTupOf2 (s := ⟨p1, g, d, tk1, os⟩) hU1 fun g1 hT1 hs1 => ?_)
  replace hT1 : IsTupOf2 g1 TO x1 a2 := hT1
  replace hs1 : Heap.SameBut TO p1 g1 := hs1
  refine wpAny_bind (wpAny_letGo (wpAny_pure ?_))
  refine wpAny_bind (wpAny_bind (wpAny_onRaise ?_))
  show wpAny _ _ ((Builtin.SmallTypes.nextOf (.ref i2)).attempt >>= _) _ _ ⟨g1, g, d, tk1, os⟩
  refine wpAny_bind (wpAny_attempt (D2.item i _ _ _ hlt2 (D2.over (D2.over (D2.over st2 hs0 S.zf2) hp1 S.sep1_2) hs1 S.Tf2) fun x2 p2 tk2 hx2 sn2 hp2 => wpAny_pure ?_))
  replace hp2 : Heap.SameBut i2 g1 p2 := hp2
  have hU2 : IsTupOf2 p2 TO x1 a2 := hp2.extBut _ _ S.Ti2 hT1
  refine wpAny_bind (wpAny_seqItems (s := ⟨p2, g, d, tk2, os⟩) hU2 rfl ?_)
  refine wpAny_bind (updateSeq_IsTupOf2 (s := ⟨p2, g, d, tk2, os⟩) hU2 fun g2 hT2 hs2 => ?_)
  replace hT2 : IsTupOf2 g2 TO x1 x2 := hT2
  replace hs2 : Heap.SameBut TO p2 g2 := hs2
  refine wpAny_bind (wpAny_letGo (wpAny_pure (wpAny_pure ?_)))
  refine wpAny_bind (wpAny_seqItems (s := ⟨g2, g, d, tk2, os⟩) hT2 rfl ?_)
  refine wpAny_bind (wpAny_newTuple ?_)
  have hsz : g2.objs.size = hp.objs.size := by rw [hs2.1, hp2.1, hs1.1, hp1.1, hs0.1]
  have hzz : IsZipS g2 z TI TO .ellipsis := (hs2.extBut _ _ S.TOz.symm (hp2.extBut _ _ S.zi2 (hs1.extBut _ _ S.TOz.symm (hp1.extBut _ _ S.zi1 hz0))))
  have hkk : ∀ c o, c ≠ z → c ≠ TO → c ≠ i1 → c ≠ i2 → hp.get? c = some o → g2.get? c = some o := fun c o cz cT c1 c2 e =>
    (hs2.extBut _ _ cT (hp2.extBut _ _ c2 (hs1.extBut _ _ cT (hp1.extBut _ _ c1 (hs0.extBut _ _ cz e)))))
  have hj1 : St1 (i + 1) g2 := (D1.over (D1.over (D1.over sn1 hs1 S.Tf1) hp2 S.sep2_1) hs2 S.Tf1)
  have hj2 : St2 (i + 1) g2 := (D2.over sn2 hs2 S.Tf2)
  have hzlt : z < g2.objs.size := Heap.lt_size hzz
  show wpAny _ _ (Builtin.SmallTypes.ownedTupleHandOut (.ref z) (.ref g2.objs.size) >>= _) _ _ ⟨g2.push { cls := .type "tuple", data := .seq #[x1, x2] }, g, d, tk2, os⟩
  refine wpAny_bind ?_
  unfold Builtin.SmallTypes.ownedTupleHandOut
  have hz6 : IsZipS (g2.push { cls := .type "tuple", data := .seq #[x1, x2] }) z TI TO .ellipsis := Heap.get?_push_of_some _ hzz
  refine wpAny_bind (wpAny_setField_rec hz6 (by simp) fun h7 hz7 hs7 => ?_)
  replace hz7 : IsZipS h7 z TI TO (rawInt g2.objs.size) := hz7
  refine wpAny_setField_rec hz7 (by simp) fun h8 hz8 hs8 => ?_
  replace hz8 : IsZipS h8 z TI TO (rawInt g2.objs.size) := hz8
  replace hs7 : Heap.SameBut z (g2.push { cls := .type "tuple", data := .seq #[x1, x2] }) h7 := hs7
  replace hs8 : Heap.SameBut z h7 h8 := hs8
  have up : ∀ c o, c ≠ z → g2.get? c = some o → h8.get? c = some o := fun c o c1 e => hs8.extBut _ _ c1 (hs7.extBut _ _ c1 (Heap.get?_push_of_some _ e))
  have hT8 : IsTupOf2 h8 g2.objs.size x1 x2 := hs8.extBut _ _ (Nat.ne_of_gt hzlt) (hs7.extBut _ _ (Nat.ne_of_gt hzlt) (Heap.get?_push_size _ rfl))
  have hz8s : h8.objs.size = g2.objs.size + 1 := by rw [hs8.1, hs7.1, Heap.size_push]
  rw [hsz] at hz8 hT8 hz8s
  refine wpAny_pure ⟨_, rfl, ?_⟩
  show Q (.ref g2.objs.size) ⟨h8, g, d, tk2, os⟩
  rw [hsz]
  exact hQ x1 x2 h8 tk2 hx1 hx2 hz8 (up _ _ S.TOz hT2) (D1.frame _ _ _ hj1 fun b hb o e => up b o (fun q => S.zf1 (q ▸ hb)) e) (D2.frame _ _ _ hj2 fun b hb o e => up b o (fun q => S.zf2 (q ▸ hb)) e) hT8 hz8s fun c o cz cT c1 c2 e => up c o cz (hkk c o cz cT c1 c2 e)
theorem wp_neg {α : Type} {M : Model} {c : Prop} {i : Decidable c} {a b : Sem α} {Q : α → Shared → Prop} (hc : ¬ c) (h : wpAny M A b Q E s) : wpAny M A (@ite _ c i a b) Q E s := by
  rw [if_neg hc]
  exact h
theorem stop_ok {α : Type} {Q : α → Shared → Prop} (hh : A.handled = none)
    (hE : ∀ h' e, (∀ c o, s.heap.get? c = some o → h'.get? c = some o) → (∃ o, h'.get? e = some o ∧ o.cls = .type "StopIteration") → E (.ref e) { s with heap := h' }) : wpAny (model prog w) A (Builtin.SmallTypes.stopIteration (α := α)) Q E s := by
  unfold Builtin.SmallTypes.stopIteration
  refine wpAny_bind ?_
  simp only [newExc, newTuple]
  refine wpAny_bind (wpAny_newObj_type ?_ (by size_fits))
  refine wpAny_bind (m := firstArgMember _ _) (wpAny_of_eq (a := Value.none) (by first | rfl | (simp only [firstArgMember]; rfl)) ?_)
  refine wpAny_newObj_type ?_ (by size_fits)
  simp only [raiseNew]
  refine wpAny_bind (wpAny_handled ?_)
  rw [hh]
  refine wpAny_bind (wpAny_pure (wpAny_throw ?_))
  exact hE _ _ (fun c o e => Heap.get?_push_of_some _ (Heap.get?_push_of_some _ e)) ⟨_, Heap.get?_push_size _ rfl, rfl⟩
theorem zipS_next_end {Q : Fin → Shared → Prop} (hh : A.handled = none) (S : ZipSep2 z TI TO i1 i2 fp1 fp2) (D1 : Draws prog w A i1 fp1 n1 P1 St1) (D2 : Draws prog w A i2 fp2 n2 P2 St2)
    (hz : IsZipS s.heap z TI TO .none) (hTI : IsTupOf2 s.heap TI (.ref i1) (.ref i2)) (hTO : IsTupOf2 s.heap TO a1 a2) (st1 : St1 n1 s.heap) (st2 : St2 n2 s.heap)
    (hE : ∀ h' tk e, (∀ c o, c ≠ z → c ≠ TO → c ≠ i1 → c ≠ i2 → s.heap.get? c = some o → h'.get? c = some o) → (∃ o, h'.get? e = some o ∧ o.cls = .type "StopIteration") → E (.ref e) { s with heap := h', toks := tk }) :
    wpAny (model prog w) A (Builtin.«zip.__next__» ⟨[.ref z], []⟩) Q E s := by
  obtain ⟨hp, g, d, tk0, os⟩ := s
  show wpAny _ _ (field (.ref z) 2 >>= _) _ _ _
  refine wpAny_bind (wpAny_field hz rfl (x := .bool true) rfl ?_)
  show wpAny _ _ (field (.ref z) 3 >>= _) _ _ _
  refine wpAny_bind (wpAny_field hz rfl (x := .ref TI) rfl ?_)
  refine wpAny_bind (wpAny_seqItems hTI rfl ?_)
  show wpAny _ _ (Builtin.SmallTypes.ownedTupleIsFree (.ref z) >>= _) _ _ _
  refine wpAny_bind ?_
  unfold Builtin.SmallTypes.ownedTupleIsFree
  refine wpAny_bind (wpAny_field hz rfl (x := .none) rfl (wpAny_pure ?_))
  simp only [if_true]
  refine wpAny_bind (wpAny_rule ?_)
  refine wpAny_bind (wpAny_field hz rfl (x := .ref TO) rfl ?_)
  refine wpAny_bind (wpAny_setField_rec hz (by simp) fun g0 hz0 hs0 => ?_)
  replace hz0 : IsZipS g0 z TI TO .ellipsis := hz0
  replace hs0 : Heap.SameBut z hp g0 := hs0
  refine wpAny_bind ?_
  simp only [List.zipIdx_cons, List.zipIdx_nil, List.forIn_cons, List.forIn_nil]
  refine wpAny_bind (wpAny_bind (wpAny_onRaise ?_))
  show wpAny _ _ ((Builtin.SmallTypes.nextOf (.ref i1)).attempt >>= _) _ _ ⟨g0, g, d, tk0, os⟩
  refine wpAny_bind (wpAny_attempt (D1.done ⟨g0, g, d, tk0, os⟩ _ _ (D1.over st1 hs0 S.zf1) fun q e hq he => ?_))
  replace hq : Heap.ExtBut i1 g0 q := hq
  obtain ⟨oe, hoe, hce⟩ := he
  refine wpAny_bind (wpAny_isInstance (T := "StopIteration") (b := true) ⟨oe, hoe, hce⟩ isSubtype_stop ?_)
  refine wpAny_pure ?_
  have hzq : IsZipS q z TI TO .ellipsis := hq _ _ S.zi1 hz0
  refine wpAny_bind (wpAny_setField_rec (s := ⟨q, g, d, tk0, os⟩) hzq (by simp) fun q' _ hq' => ?_)
  replace hq' : Heap.SameBut z q q' := hq'
  refine wpAny_bind ?_
  refine wp_neg (c := (0 : Nat) > 0) (a := Builtin.SmallTypes.stopIteration) (by omega) ?_
  rw [if_neg (by omega)]
  refine wpAny_bind ?_
  simp only [List.drop, List.zipIdx_cons, List.zipIdx_nil, List.forIn_cons, List.forIn_nil]
  refine wpAny_bind ?_
  refine wpAny_bind ?_
  unfold Builtin.SmallTypes.nextOrEnd
  refine wpAny_bind (wpAny_attempt (D2.done ⟨q', g, d, tk0, os⟩ _ _ (D2.over (D2.frame _ _ _ (D2.over st2 hs0 S.zf2) fun b hb o e => hq b o (fun w => S.sep1_2 (w ▸ hb)) e) hq' S.zf2) fun p e2 hp2 he2 => ?_))
  replace hp2 : Heap.ExtBut i2 q' p := hp2
  obtain ⟨oe2, hoe2, hce2⟩ := he2
  refine wpAny_bind (wpAny_isInstance (T := "StopIteration") (b := true) ⟨oe2, hoe2, hce2⟩ isSubtype_stop ?_)
  refine wpAny_pure ?_
  rw [if_neg (by simp)]
  refine wpAny_pure (wpAny_pure (wpAny_bind (wpAny_rule (stop_ok (s := ⟨p, g, d, tk0, os⟩) hh fun h3 e3 k3 he3 => ?_))))
  exact hE h3 tk0 e3 (fun c o cz cT c1 c2 x => k3 _ _ (hp2 _ _ c2 (hq'.extBut _ _ cz (hq _ _ c1 (hs0.extBut _ _ cz x))))) he3
theorem pyNext_zipS_item {Q : Option Value → Shared → Prop} (S : ZipSep2 z TI TO i1 i2 fp1 fp2) (D1 : Draws prog w A.in1 i1 fp1 n1 P1 St1) (D2 : Draws prog w A.in1 i2 fp2 n2 P2 St2)
    (hz : IsZipS s.heap z TI TO .none) (hTI : IsTupOf2 s.heap TI (.ref i1) (.ref i2)) (hTO : IsTupOf2 s.heap TO a1 a2) (st1 : St1 i s.heap) (st2 : St2 i s.heap) (hlt1 : i < n1) (hlt2 : i < n2)
    (hQ : ∀ x1 x2 h' tk, P1 i x1 → P2 i x2 → IsZipS h' z TI TO (rawInt s.heap.objs.size) → IsTupOf2 h' TO x1 x2 → St1 (i + 1) h' → St2 (i + 1) h' → IsTupOf2 h' s.heap.objs.size x1 x2 → h'.objs.size = s.heap.objs.size + 1 →
      (∀ c o, c ≠ z → c ≠ TO → c ≠ i1 → c ≠ i2 → s.heap.get? c = some o → h'.get? c = some o) → Q (some (.ref s.heap.objs.size)) { s with heap := h', toks := tk }) :
    wpAny (model prog w) A (pyNext (.ref z)) Q E s := by
  have hT : s.TypeIs (.ref z) "zip" := ⟨_, hz, rfl⟩
  unfold pyNext
  exact wpAny_bind (wpAny_attempt (wpAny_callSpecial?_slot (name := Str.ofString "__next__") hT F.slot_zip_next
    (wpAny_call_entry F.slot_zip_next hT F.entry_zip_next
      (zipS_next_item S D1 D2 hz hTI hTO st1 st2 hlt1 hlt2 fun x1 x2 h' tk y1 y2 b1 b2 d1 d2 b5 b6 b7 => wpAny_pure (hQ x1 x2 h' tk y1 y2 b1 b2 d1 d2 b5 b6 b7)) (F.args_zip_next_1 _))))
theorem pyNext_zipS_end {Q : Option Value → Shared → Prop} (hh : A.in1.handled = none) (S : ZipSep2 z TI TO i1 i2 fp1 fp2) (D1 : Draws prog w A.in1 i1 fp1 n1 P1 St1) (D2 : Draws prog w A.in1 i2 fp2 n2 P2 St2)
    (hz : IsZipS s.heap z TI TO .none) (hTI : IsTupOf2 s.heap TI (.ref i1) (.ref i2)) (hTO : IsTupOf2 s.heap TO a1 a2) (st1 : St1 n1 s.heap) (st2 : St2 n2 s.heap)
    (hQ : ∀ h' tk, (∀ c o, c ≠ z → c ≠ TO → c ≠ i1 → c ≠ i2 → s.heap.get? c = some o → h'.get? c = some o) → Q none { s with heap := h', toks := tk }) : wpAny (model prog w) A (pyNext (.ref z)) Q E s := by
  have hT : s.TypeIs (.ref z) "zip" := ⟨_, hz, rfl⟩
  unfold pyNext
  refine wpAny_bind (wpAny_attempt (wpAny_callSpecial?_slot (name := Str.ofString "__next__") hT F.slot_zip_next
    (wpAny_call_entry F.slot_zip_next hT F.entry_zip_next (zipS_next_end hh S D1 D2 hz hTI hTO st1 st2 fun h' tk e hk he => ?_) (F.args_zip_next_1 _))))
  obtain ⟨o, ho, hc⟩ := he
  refine wpAny_bind (wpAny_isInstance (T := "StopIteration") (b := true) ⟨o, ho, hc⟩ isSubtype_stop ?_)
  exact wpAny_pure (hQ _ _ hk)
theorem goS_ok {elts : List Expr} {x1} {pos : Pos} {T : Addr} {Q : Unit → Shared → Prop} (hz : IsZipS s.heap z TI TO (rawInt T))
    (hQ : ∀ h', IsZipS h' z TI TO .none → Heap.SameBut z s.heap h' → Q () { s with heap := h' }) :
    wpAny (model prog w) A (letOwnedTupleGo (.Tuple elts x1 pos) (.ref z) (.ref T)) Q E s := by
  unfold letOwnedTupleGo
  refine wpAny_bind (wpAny_load hz ?_)
  show wpAny _ _ (if (["enumerate", "zip", "dict_itemiterator", "dict_reverseitemiterator", "odict_iterator", "itertools.zip_longest", "itertools.pairwise"].contains "zip" &&
      (#[rawInt T, .bool false, .bool true, .ref TI, .ref TO] : Array Value)[0]? == some (rawInt T)) = true then _ else _) Q E s
  rw [if_pos (by simp)]
  refine wpAny_bind (wpAny_rule ?_)
  show wpAny _ _ (setField (.ref z) 0 .none) Q E s
  exact wpAny_setField_rec hz (by simp) fun h' hz' hs' => hQ h' hz' hs'
theorem iterS_ok {f0 : Value} {Q : Value → Shared → Prop} (hz : IsZipS s.heap z TI TO f0) (h : Q (.ref z) s) : wpAny (model prog w) A (pyIter (.ref z)) Q E s := by
  have hT : s.TypeIs (.ref z) "zip" := ⟨_, hz, rfl⟩
  refine wpAny_pyIter_slot hT F.slot_zip_iter (wpAny_call_entry F.slot_zip_iter hT F.entry_zip_iter ?_ (F.args_zip_iter_1 _))
  show wpAny _ _ (ret (.ref z)) _ _ s
  exact wpAny_pure ⟨_, rfl, "zip", _, hT, F.slot_zip_next.lookup, h⟩
end
abbrev gzS (h : Heap) (o1 o2 : Obj) : Heap := (gzO2 h o1 o2).push { cls := .type "zip", data := .fields #[.none, .bool false, .bool true, .ref ((h.push o1).push o2).objs.size, .ref (gzT2 h o1 o2).objs.size] }
theorem meets_zip_newS {v1 v2 : Value} {o1 o2 : Obj} {H1 H2 : Heap → Prop} (B1 : Begins v1 o1 H1) (B2 : Begins v2 o2 H2) :
    Meets (Builtin.«zip.__new__» ⟨[.type "zip", v1, v2], [(Str.ofString "strict", .bool true)]⟩) (fun _ R s => (H1 s.heap ∧ H2 s.heap) ∧
      R (.ok (.ret (.ref (gzO2 s.heap o1 o2).objs.size))) { s with heap := gzS s.heap o1 o2 }) :=
  .of_wp fun prog w A R s h => by
    obtain ⟨hp, g, d, tk, os⟩ := s; obtain ⟨⟨h1, h2⟩, h⟩ := h
    have hsub := sub_zip
    have e1 : (Str.ofString "strict" != ("strict" : Str)) = false := by decide +kernel
    have q1 : ∀ {A' : Around} {E : Value → Shared → Prop} {Q : Value → Shared → Prop}, Q (.ref hp.objs.size) ⟨(hp.push o1), g, d, tk, os⟩ → wpAny (model prog w) A' (pyIter v1) Q E ⟨hp, g, d, tk, os⟩ :=
      fun q => B1.iter prog w _ _ ⟨hp, g, d, tk, os⟩ _ (B1.keeps _ _ h1 fun b o' e => e) q
    have q2 : ∀ {A' : Around} {E : Value → Shared → Prop} {Q : Value → Shared → Prop}, Q (.ref (hp.push o1).objs.size) ⟨((hp.push o1).push o2), g, d, tk, os⟩ → wpAny (model prog w) A' (pyIter v2) Q E ⟨(hp.push o1), g, d, tk, os⟩ :=
      fun q => B2.iter prog w _ _ ⟨(hp.push o1), g, d, tk, os⟩ _ (B2.keeps _ _ h2 fun b o' e => (Heap.get?_push_of_some _ e)) q
    wp_walk using q1, q2
    exact ⟨_, rfl, h⟩
namespace FF
theorem typeCall (a b : Value) : checkTypeCall "zip" ⟨[a, b], [(Str.ofString "strict", .bool true)]⟩ = pure () := by kernel_rfl
theorem newCall (a b : Value) : checkBuiltinCall "zip.__new__" ⟨[.type "zip", a, b], [(Str.ofString "strict", .bool true)]⟩ = pure () := by kernel_rfl
theorem argsInit (obj a b : Value) : argsOk "object.__init__" ⟨[obj, a, b], [(Str.ofString "strict", .bool true)]⟩ := by unfold argsOk; kernel_rfl
end FF
section
variable {prog : Program} {w : World} {A : Around} {E : Value → Shared → Prop} {s : Shared}
theorem zipS_begins {v1 v2 : Value} {o1 o2 : Obj} {H1 H2 : Heap → Prop} {Q : Value → Shared → Prop} (B1 : Begins v1 o1 H1) (B2 : Begins v2 o2 H2) (h1 : H1 s.heap) (h2 : H2 s.heap)
    (h : ∀ h', IsZipS h' (s.heap.objs.size + 4) (s.heap.objs.size + 2) (s.heap.objs.size + 3) .none → IsTupOf2 h' (s.heap.objs.size + 2) (.ref s.heap.objs.size) (.ref (s.heap.objs.size + 1)) →
      IsTupOf2 h' (s.heap.objs.size + 3) .none .none → h'.get? s.heap.objs.size = some o1 → h'.get? (s.heap.objs.size + 1) = some o2 → h'.objs.size = s.heap.objs.size + 5 →
      (∀ c o, s.heap.get? c = some o → h'.get? c = some o) → Q (.ref (s.heap.objs.size + 4)) { s with heap := h' }) :
    wpAny (model prog w) A (call (.type "zip") [v1, v2] [(Str.ofString "strict", .bool true)]) Q E s := by
  refine callType_newKw F.called_zip (by decide) (FF.typeCall _ _) (FF.newCall _ _) (fun obj => FF.argsInit obj _ _) F.entry_zip_new
    (meets_zip_newS B1 B2) ⟨⟨h1, h2⟩, ?_⟩
  have z1 : (s.heap.push o1).objs.size = s.heap.objs.size + 1 := by rw [Heap.size_push]
  have z2 : ((s.heap.push o1).push o2).objs.size = s.heap.objs.size + 2 := by rw [Heap.size_push, z1]
  have zT : (gzT2 s.heap o1 o2).objs.size = s.heap.objs.size + 3 := by rw [Heap.size_push, z2]
  have zO : (gzO2 s.heap o1 o2).objs.size = s.heap.objs.size + 4 := by rw [Heap.size_push, zT]
  have zZ : (gzS s.heap o1 o2).objs.size = s.heap.objs.size + 5 := by rw [Heap.size_push, zO]
  have gZ : (gzS s.heap o1 o2).get? (gzO2 s.heap o1 o2).objs.size = some { cls := .type "zip", data := .fields #[.none, .bool false, .bool true, .ref ((s.heap.push o1).push o2).objs.size, .ref (gzT2 s.heap o1 o2).objs.size] } := Heap.get?_push_size _ rfl
  have gO : (gzS s.heap o1 o2).get? (gzT2 s.heap o1 o2).objs.size = some { cls := .type "tuple", data := .seq #[.none, .none] } := Heap.get?_push_of_some _ (Heap.get?_push_size _ rfl)
  have gT : (gzS s.heap o1 o2).get? ((s.heap.push o1).push o2).objs.size = some { cls := .type "tuple", data := .seq #[.ref s.heap.objs.size, .ref (s.heap.push o1).objs.size] } := Heap.get?_push_of_some _ (Heap.get?_push_of_some _ (Heap.get?_push_size _ rfl))
  have g1 : (gzS s.heap o1 o2).get? s.heap.objs.size = some o1 := Heap.get?_push_of_some _ (Heap.get?_push_of_some _ (Heap.get?_push_of_some _ (Heap.get?_push_of_some _ (Heap.get?_push_size _ B1.free))))
  have g2 : (gzS s.heap o1 o2).get? (s.heap.push o1).objs.size = some o2 := Heap.get?_push_of_some _ (Heap.get?_push_of_some _ (Heap.get?_push_of_some _ (Heap.get?_push_size _ B2.free)))
  rw [zO, zT, z2] at gZ
  rw [zT] at gO
  rw [z2, z1] at gT
  rw [z1] at g2
  show _ ∧ _
  rw [zO]
  exact ⟨⟨_, gZ, rfl⟩, h _ gZ gT gO g1 g2 zZ fun c o e => Heap.get?_push_of_some _ (Heap.get?_push_of_some _ (Heap.get?_push_of_some _ (Heap.get?_push_of_some _ (Heap.get?_push_of_some _ e))))⟩
end
end K67
end
section
set_option Elab.async false
set_option linter.all false
set_option maxRecDepth 100000
set_option maxHeartbeats 4000000
namespace K67
open PySem PySem.Spec PyProof.Rows L2
def Itzl (x : Str) (l : Addr) : It :=
  ⟨fun i H => ∃ ys, H l = some (.lst ys) ∧ i < x.cps.size ∧ i < ys.length,
    fun i H v H' => ∃ T c y, v = .ref T ∧ H T = none ∧ H' = upd H T (.tup [.str ⟨#[c]⟩, y]) ∧ x.cps[i]? = some c ∧ ∀ ys, H l = some (.lst ys) → ys[i]? = some y,
    fun i H => ∃ ys, H l = some (.lst ys) ∧ i = x.cps.size ∧ ys.length = x.cps.size⟩
theorem sepL {z TI TO i1 i2 l : Addr} (S : ZipSep2 z TI TO i1 i2 [i1] [i2]) (h1 : z ≠ l) (h2 : TO ≠ l) (h3 : i1 ≠ l) : ZipSep2 z TI TO i1 i2 [i1] [i2, l] where
  TIz := S.TIz
  TOz := S.TOz
  TITO := S.TITO
  TIi1 := S.TIi1
  mem1 := S.mem1
  zf1 := S.zf1
  Tf1 := S.Tf1
  TIi2 := S.TIi2
  mem2 := by simp
  zf2 := fun h => by
    have h' : z = i2 ∨ z = l := by simpa using h
    rcases h' with e | e
    · exact S.zf2 (by simp [e])
    · exact h1 e
  Tf2 := fun h => by
    have h' : TO = i2 ∨ TO = l := by simpa using h
    rcases h' with e | e
    · exact S.Tf2 (by simp [e])
    · exact h2 e
  sep1_2 := fun h => by
    have h' : i1 = i2 ∨ i1 = l := by simpa using h
    rcases h' with e | e
    · exact S.sep1_2 (by simp [e])
    · exact h3 e
  sep2_1 := S.sep2_1
theorem turn_zipL {P : Program} {w : World} {K : PySem.W.Frag} {elts : List Expr} {kk : Nat} {tpos : Pos} {z TI TO i1 i2 l : Addr} {x : Str} {t : Tok} (S : ZipSep2 z TI TO i1 i2 [i1] [i2]) :
    Turn P w K (.Tuple elts kk tpos) (Itzl x l) [z, TI, TO, i1, i2] z (fun i h => IsZipS h z TI TO .none ∧ IsTupOf2 h TI (.ref i1) (.ref i2) ∧ (∃ a1 a2, IsTupOf2 h TO a1 a2) ∧ TIt x t i1 i h ∧ h.IsListIter i2 l i) where
  mem := by simp
  obj := fun i h st c hc => by
    obtain ⟨hz, hTI, ⟨a1, a2, hTO⟩, ⟨o1, e1, _, d1⟩, ⟨o2, e2, _, d2⟩⟩ := st
    have e' : c = z ∨ c = TI ∨ c = TO ∨ c = i1 ∨ c = i2 := by simpa using hc
    rcases e' with q | q | q | q | q
    · rw [q]; exact ⟨_, hz, fun v q => nomatch q⟩
    · rw [q]; exact ⟨_, hTI, fun v q => nomatch q⟩
    · rw [q]; exact ⟨_, hTO, fun v q => nomatch q⟩
    · rw [q]; exact ⟨o1, e1, fun v q => by rw [d1] at q; cases q⟩
    · rw [q]; exact ⟨o2, e2, fun v q => by rw [d2] at q; cases q⟩
  keep := fun i h h' st k => by
    obtain ⟨hz, hTI, ⟨a1, a2, hTO⟩, ⟨o1, e1, r1⟩, h2⟩ := st
    exact ⟨k z (by simp) _ hz, k TI (by simp) _ hTI, ⟨a1, a2, k TO (by simp) _ hTO⟩, ⟨o1, k i1 (by simp) _ e1, r1⟩, h2.at fun o q => k i2 (by simp) o q⟩
  item := by
    intro X hP hw hK hc i pins s σ H E I hf st hg
    subst hP hw hK
    have hh : X.A.in1.handled = none := I.ok.hd hc
    obtain ⟨ys, hly, hi1, hi2⟩ := hg
    obtain ⟨its, rv, pl, _⟩ := I.list (SqL.of hly)
    have ne : ∀ b ∈ [z, TI, TO, i1, i2], b ≠ l := fun b hb e => by
      have := (hf b hb).1
      rw [e, hly] at this
      cases this
    have S2 := sepL S (ne z (by simp)) (ne TO (by simp)) (ne i1 (by simp))
    have hlen := rv.length
    obtain ⟨hz, hTI, ⟨a1, a2, hTO⟩, h1, h2⟩ := st
    have lt : ∀ b ∈ [z, TI, TO, i1, i2], b < s.heap.objs.size := fun b hb => by
      obtain ⟨o1, e1, _⟩ := id h1
      obtain ⟨o2, e2, _⟩ := id h2
      have e' : b = z ∨ b = TI ∨ b = TO ∨ b = i1 ∨ b = i2 := by simpa using hb
      rcases e' with q | q | q | q | q
      · rw [q]; exact Heap.lt_size hz
      · rw [q]; exact Heap.lt_size hTI
      · rw [q]; exact Heap.lt_size hTO
      · rw [q]; exact Heap.lt_size e1
      · rw [q]; exact Heap.lt_size e2
    refine pyNext_zipS_item S2 (draws_text (prog := X.prog) (w := X.w) hh i1 x t) (Draws.list (prog := X.prog) (w := X.w) hh i2 l (fun e => ne i2 (by simp) e.symm) its.toArray) hz hTI hTO h1 ⟨h2, pl.isList⟩ hi1 (by simp [← hlen]; exact hi2) fun x1 x2 h' tk hP1 hP2 hz' hTO' h1' h2' hT hsz hk => ?_
    obtain ⟨c, t1, hc1, rfl⟩ := hP1
    have hx2 : its[i]? = some x2 := by simpa using hP2
    obtain ⟨y, hy⟩ : ∃ y, ys[i]? = some y := ⟨_, List.getElem?_eq_getElem hi2⟩
    obtain ⟨u, hu, ru⟩ := rv.get hy
    have ex : u = x2 := Option.some.inj (hu.symm.trans hx2)
    subst ex
    refine ⟨_, rfl, goS_ok (s := { s with heap := h', toks := tk }) hz' fun h'' hz'' sb => ?_⟩
    have hfw : ∀ b ∈ [z, TO, i1, i2], FpOk X pins H b := fun b hb => hf b (by
      have e : b = z ∨ b = TO ∨ b = i1 ∨ b = i2 := by simpa using hb
      rcases e with q | q | q | q <;> simp [q])
    have hT2 : h''.get? s.heap.objs.size = some { cls := .type "tuple", data := .seq #[.str ⟨#[c]⟩ t1, u] } := sb.extBut _ _ (Nat.ne_of_gt (lt z (by simp))) hT
    have new : ObjOk X.prog X.w (upd H s.heap.objs.size (.tup [.str ⟨#[c]⟩, y])) h'' s.heap.objs.size (.tup [.str ⟨#[c]⟩, y]) :=
      ⟨by show 2 ≤ sizeLine; decide, [.str ⟨#[c]⟩ t1, u], .cons ⟨t1, rfl⟩ (.cons ru .nil), ⟨_, hT2, rfl, _, rfl⟩⟩
    have I1 : Inv X pins σ (upd H s.heap.objs.size (.tup [.str ⟨#[c]⟩, y])) { s with heap := h'', toks := tk } :=
      I.turnedNew (t' := tk) (ch := [z, TO, i1, i2]) (fun b o hb q => sb.extBut _ _ (fun w => hb (by simp [w])) (hk b o (fun w => hb (by simp [w])) (fun w => hb (by simp [w])) (fun w => hb (by simp [w])) (fun w => hb (by simp [w])) q)) hfw (Nat.le_refl _) new
    refine ⟨.ref s.heap.objs.size, _, I1, rfl, ⟨_, c, y, rfl, I.hok.fresh (Nat.le_refl _), rfl, hc1, fun ys' e => by rw [hly] at e; cases e; exact hy⟩, ⟨hz'', ?_, ⟨.str ⟨#[c]⟩ t1, u, ?_⟩, ?_, ?_⟩, fun b hb => ?_⟩
    · exact sb.extBut _ _ S.TIz (hk _ _ S.TIz S.TITO S.TIi1 S.TIi2 hTI)
    · exact sb.extBut _ _ S.TOz hTO'
    · obtain ⟨o1, e1, r1⟩ := h1'
      exact ⟨o1, sb.extBut _ _ (fun e => S.zf1 (by simp [e])) e1, r1⟩
    · exact h2'.1.at fun o q => sb.extBut _ _ (fun e => S.zf2 (by simp [e])) q
    · rw [upd_ne (Nat.ne_of_lt (lt b hb))]
      exact (hf b hb).1
  done := by
    intro X hP hw hK hc i pins s σ H E I hf st hg
    subst hP hw hK
    have hh : X.A.in1.handled = none := I.ok.hd hc
    obtain ⟨ys, hly, hi1, hi2⟩ := hg
    obtain ⟨its, rv, pl, _⟩ := I.list (SqL.of hly)
    have ne : ∀ b ∈ [z, TI, TO, i1, i2], b ≠ l := fun b hb e => by
      have := (hf b hb).1
      rw [e, hly] at this
      cases this
    have S2 := sepL S (ne z (by simp)) (ne TO (by simp)) (ne i1 (by simp))
    have hlen := rv.length
    subst hi1
    obtain ⟨hz, hTI, ⟨a1, a2, hTO⟩, h1, h2⟩ := st
    have hfw : ∀ b ∈ [z, TO, i1, i2], FpOk X pins H b := fun b hb => hf b (by
      have e : b = z ∨ b = TO ∨ b = i1 ∨ b = i2 := by simpa using hb
      rcases e with q | q | q | q <;> simp [q])
    have es : its.toArray.size = x.cps.size := by simp [← hlen, hi2]
    refine pyNext_zipS_end hh S2 (draws_text (prog := X.prog) (w := X.w) hh i1 x t) (Draws.list (prog := X.prog) (w := X.w) hh i2 l (fun e => ne i2 (by simp) e.symm) its.toArray) hz hTI hTO h1 (by rw [es]; exact ⟨h2, pl.isList⟩) fun h' tk hk => ⟨rfl, ?_⟩
    exact I.turnedL (t' := tk) (ch := [z, TO, i1, i2]) (fun b o hb q => hk b o (fun w => hb (by simp [w])) (fun w => hb (by simp [w])) (fun w => hb (by simp [w])) (fun w => hb (by simp [w])) q) hfw
  self := fun A i s Q E st h => iterS_ok st.1 h
def iZipL (ta : TA) : TI := fun σ H R => ta σ H fun vs H1 => ∃ x l ys, vs = [.str x, .ref l] ∧ H1 l = some (.lst ys) ∧ R (Itzl x l) H1
theorem boot_z : bootBuiltins "zip" = some (.type "zip") := PyProof.Rows.boot_zip
theorem callWith_typeKw {M : Model} {A : Around} {E : Value → Shared → Prop} {s : Shared} {env : Env} {pos : Pos} {T : String} {e : Expr} {rest : List Expr} {kws : List Keyword} {Q : Value → Shared → Prop}
    (h : wpAny M A (spliced (backTo pos (starEach (e :: rest) env))) (fun vs s₁ => wpAny M A (evalAll ((backToKw pos (keywordEach kws env)).map (·.2)))
      (fun kvs s₂ => wpAny M A (call (.type T) vs (((backToKw pos (keywordEach kws env)).filterMap (·.1)).zip kvs)) Q E s₂) E s₁) E s)
    (he : backTo pos (starEach (e :: rest) env) = (false, eval e env) :: backTo pos (starEach rest env) := by rfl)
    (hplain : (backTo pos (starEach (e :: rest) env)).any (·.1) = false := by rfl)
    (hall : (backToKw pos (keywordEach kws env)).all (·.1.isSome) = true := by rfl)
    (hkw : (backToKw pos (keywordEach kws env)).any (·.1.isNone) = false := by rfl) :
    wpAny M A (callWith pos (.type T) [] (backTo pos (starEach (e :: rest) env)) (backToKw pos (keywordEach kws env))) Q E s := by
  have h2 : wpAny M A (evalArgs (.type T) true (backTo pos (starEach (e :: rest) env)) (backToKw pos (keywordEach kws env))) (fun a s₁ => wpAny M A (call (.type T) ([] ++ a.pos) a.kw) Q E s₁) E s := by
    rw [he] at h ⊢
    exact evalArgs_kwB hall h
  unfold callWith
  refine wpAny_bind (wpAny_holding (wpAny_mono h2 (fun a s₁ h₁ => wpAny_bind (wpAny_standAt ?_)) fun _ _ x => x))
  simp only [hplain, hkw, Bool.or_false]
  refine wpAny_bind (wpAny_pure ?_)
  exact wpAny_bind (wpAny_mono h₁ (fun r s₂ hr => wpAny_bind (wpAny_holding (wpAny_point (wpAny_pure hr)))) fun _ _ x => x)
theorem pi_zipL {X : Cx} {e e2 : Expr} {ta : TA} {p pos tpos kpos cpos : Pos} {j : Nat} {elts : List Expr} {kk : Nat} (hg : Gl X "zip") (hm : X.mg "zip" = none) (ha : PA X [e, e2] ta)
    (hs : backTo pos (starEach [e, e2] X.env) = (false, eval e X.env) :: backTo pos (starEach [e2] X.env) := by rfl) (hpl : (backTo pos (starEach [e, e2] X.env)).any (·.1) = false := by rfl) :
    PI X (.Tuple elts kk tpos) (.Call (.Name "zip" p) [e, e2] [⟨some "strict", .Constant (.bool true) j cpos, kpos⟩] pos) (iZipL ta) := by
  refine ⟨fun pins s σ H R I h => ?_⟩
  refine wpAny_Call_Name_kw (ld_blt I hg hm boot_z (callWith_typeKw (thn (ha.run pos pins s σ H _ I h) fun us s1 ⟨vs, H1, I1, r1, q1⟩ => ?_) hs hpl))
  obtain ⟨x, l, ys, ex, hl, q1⟩ := q1
  subst ex
  have pk : PK X [⟨some "strict", .Constant (.bool true) j cpos, kpos⟩] (tCons (tC (.bl true)) tNil) := pk_cons pe_bl pk_nil
  refine thn (pk.run pos pins s1 σ H1 (fun ks H2 => ks = [.bl true] ∧ H2 = H1) I1 ⟨rfl, rfl⟩) fun kvs s2 ⟨ks, H2, I2, r2, ek, eH⟩ => ?_
  subst ek eH
  cases r2 with
  | cons rk rr2 =>
  cases rr2
  cases rk
  cases r1 with
  | cons r rr =>
    cases rr with
    | cons r' rr =>
      cases rr
      obtain ⟨t, rfl⟩ := r
      cases r'
      obtain ⟨its, rv, pl, _⟩ := I2.list (SqL.of hl)
      refine zipS_begins (begins_text x t) (begins_list l its.toArray) True.intro pl.isList fun h' hz hTI hTO h1 h2 hsz hk => iterS_ok hz ?_
      have I3 : Inv X pins σ H2 { s2 with heap := h' } := I2.kept (t' := s2.toks) hk
      refine ⟨s2.heap.objs.size + 4, [s2.heap.objs.size + 4, s2.heap.objs.size + 2, s2.heap.objs.size + 3, s2.heap.objs.size, s2.heap.objs.size + 1], _, _, H2, rfl, I3,
        turn_zipL (t := t) (zip_sep2 (N := s2.heap.objs.size) (fp1 := []) (fp2 := []) (fun _ h => nomatch h) (fun _ h => nomatch h)), ⟨hz, hTI, ⟨_, _, hTO⟩, ⟨_, h1, rfl, rfl⟩, ⟨_, h2, rfl, rfl⟩⟩, fun c hcm => ?_, q1⟩
      have e' : c = s2.heap.objs.size + 4 ∨ c = s2.heap.objs.size + 2 ∨ c = s2.heap.objs.size + 3 ∨ c = s2.heap.objs.size ∨ c = s2.heap.objs.size + 1 := by simpa using hcm
      have hle : s2.heap.objs.size ≤ c := by
        rcases e' with z | z | z | z | z
        · rw [z]; exact Nat.le_add_right _ _
        · rw [z]; exact Nat.le_add_right _ _
        · rw [z]; exact Nat.le_add_right _ _
        · rw [z]; exact Nat.le_refl _
        · rw [z]; exact Nat.le_add_right _ _
      exact I2.fpOk hle (I2.hok.fresh hle)
theorem walk_zipL {x : Str} {l : Addr} {ys : List V} (hy : ys.length = x.cps.size) : Walk (Itzl x l) x.cps.size (fun H => H l = some (.lst ys)) (YPair (fun i => x.cps[i]?.map fun c => .str ⟨#[c]⟩) (fun i => ys[i]?)) := by
  refine ⟨fun i _ hi q => ⟨ys, q, hi, by omega⟩, fun _ q => ⟨ys, q, rfl, hy⟩, fun i H v H' _ q y => ?_⟩
  obtain ⟨T, c, d, h1, h2, h3, h4, h5⟩ := y
  exact ⟨T, .str ⟨#[c]⟩, d, h1, h2, h3, by show Option.map _ _ = _; rw [h4]; rfl, h5 _ q⟩
end K67
end
section
set_option Elab.async false
set_option linter.all false
set_option maxRecDepth 100000
set_option maxHeartbeats 4000000
namespace K67
open PySem PySem.Spec PyProof.Rows L2
/-! ### text[::-1] -/
def revS (z : Str) : Str := ⟨z.cps.toList.reverse.toArray⟩
theorem revS_list (z : Str) : (revS z).cps.toList = z.cps.toList.reverse := rfl
theorem revS_len (z : Str) : (revS z).length = z.length := by
  show (z.cps.toList.reverse.toArray).size = z.cps.size
  simp
theorem rev_map (c : Array Nat) : (List.range c.size).map (fun k => c.getD (c.size - 1 - k) 0) = c.toList.reverse := by
  apply List.ext_getElem
  · simp
  · intro i h1 h2
    rw [List.getElem_map, List.getElem_reverse, List.getElem_range]
    have h3 : i < c.size := by simpa using h1
    have h4 : c.size - 1 - i < c.size := by omega
    simp [Array.getD, h4]
theorem sliceMade_rev (z : Str) (t u : Tok) : sliceMade z t none none (some (-1, u)) = .str (revS z) := by
  unfold sliceMade
  rw [if_neg (by simp)]
  congr 1
  have h := step_rev_list z u
  unfold Txt.sliceBy at h
  rw [if_neg (by simp)] at h
  have h2 : ((slicePicked z none none (some ((-1 : Int), u))).filterMap (z.cps[·]?)) = z.cps.toList.reverse := by
    have h3 := h.trans (rev_map z.cps)
    simpa using h3
  show (⟨((slicePicked z none none (some ((-1 : Int), u))).filterMap (z.cps[·]?)).toArray⟩ : Str) = _
  rw [h2]
  rfl
def tRevS (te : TE) : TE := fun σ H Q => te σ H fun x H1 => ∃ z, x = .str z ∧ z.length ≤ sizeLine ∧ Q (.str (revS z)) H1
theorem pe_revS {X : Cx} {e : Expr} {te : TE} {k : Nat} {p1 p2 p3 pos : Pos} (he : PE X e te) : PE X (.Subscript e (.Slice none none (some (.UnaryOp .USub (.Constant (.int 1) k p1) p2)) p3) pos) (tRevS te) := by
  refine ⟨fun pins s σ H Q I h => ?_⟩
  refine Subscript_ (thn (he.run pins s σ H _ I h) fun v s1 ⟨x, H1, I1, r1, q1⟩ => ?_)
  obtain ⟨z, ex, hz, q⟩ := q1
  subst ex
  obtain ⟨t, rfl⟩ := r1
  have hst : PO X (some (.UnaryOp .USub (.Constant (.int 1) k p1) p2)) (tPart (tUn (rU fun i => .int (-i)) (tC (.int 1)))) := po_some (pe_un un_neg pe_int)
  refine wpAny_Slice (thn (po_none.run pins s1 σ H1 (fun o H2 => o = none ∧ H2 = H1) I1 ⟨rfl, rfl⟩) fun vl s2 ⟨l, H2, I2, pl, el, e2⟩ => ?_)
  subst el e2
  refine thn (po_none.run pins s2 σ H2 (fun o H3 => o = none ∧ H3 = H2) I2 ⟨rfl, rfl⟩) fun vu s3 ⟨u, H3, I3, pu, eu, e3⟩ => ?_
  subst eu e3
  refine thn (hst.run pins s3 σ H3 (fun o H4 => o = some (-1) ∧ H4 = H3) I3 ⟨1, rfl, -1, rfl, rfl, rfl⟩) fun vs s4 ⟨o, H4, I4, ps, eo, e4⟩ => ?_
  subst eo e4
  have I5 : Inv X pins σ H4 { s4 with heap := s4.heap.push { cls := .type "slice", data := .fields #[vl, vu, vs] } } := I4.kept (t' := s4.toks) fun b ob q => Heap.get?_push_of_some _ q
  cases pl
  cases pu
  cases ps with
  | int _ u =>
  show wpAny (model X.prog X.w) X.A (subscriptTail e (.Slice none none (some (.UnaryOp .USub (.Constant (.int 1) k p1) p2)) p3) (.str z t) (.ref s4.heap.objs.size)) (EP X pins σ Q) X.xe { s4 with heap := s4.heap.push _ }
  refine tail_any (ops := [.str z t, .ref s4.heap.objs.size]) (typeIs_str _ _ _) (PySem.F.slot_str_getitem.lookup) ?_ (by with_unfolding_all rfl)
  refine wpAny_getItem_str_slice (l := none) (u := none) (st := some (-1, u)) ⟨_, Heap.get?_push_size _ rfl, rfl, rfl⟩ (by simp) ?_
  rw [sliceMade_rev]
  exact ⟨by rw [revS_len]; exact hz, .str _, H4, I5.tok _, ⟨_, rfl⟩, q⟩
end K67
end
section
set_option Elab.async false
set_option linter.all false
set_option maxRecDepth 100000
set_option maxHeartbeats 4000000
namespace K67
open PySem PySem.Spec PyProof.Rows L2
/-- a method as a callee -/
structure Mth (P : Program) (w : World) (K : PySem.W.Frag) (mg : Str → Option Value) (base : Heap) (CX : CXT) (k : Nat) (C : Addr) (m : Str) (sp : Sp) : Prop where
  ex : ∃ (f : Addr) (fd : FuncData) (ps : List Str), FnOk P w K mg base CX k f fd ps sp ∧ Meth K C m f ∧ Cls K C ∧ Binds K fd ps []
section
variable {X : Cx} {CX : CXT} {k j : Nat} {x m : Str} {sp : Sp} {p pos apos : Pos} {e o : Expr} {es : List Expr} {t : TA} {ta : TE} {E : XK} {C : Addr}
theorem pe_m {pl : Sem Bool} (he : PE X o ta) (c : Mth X.prog X.w X.K X.mg X.base CX k C m sp) (hr : Room j X.A) (hk : k ≤ j) (hx : Passes CX X E) (ha : PA X (e :: es) t)
    (hst : starEach (e :: es) X.env = (false, eval e X.env) :: starEach es X.env := by rfl) (hpl : (backTo pos (starEach es X.env)).any (·.1) = false := by rfl)
    (ht : eval (.Call (.Attribute o m apos) (e :: es) [] pos) X.env = (do
      let ov ← eval o X.env
      standAt apos.atName
      let (f, first) ← holding [ov] (getMethod ov m pl)
      callWith pos f first (backTo pos (starEach (e :: es) X.env)) (backToKw pos (keywordEach [] X.env))) := by rfl) :
    PE X (.Call (.Attribute o m apos) (e :: es) [] pos) (tMeth C m sp [] E ta t) := by
  obtain ⟨f, fd, ps, F, hm, cl, b⟩ := c.ex
  exact pe_meth he cl hm F (hr.mono hk) b .nil hx ha hst hpl ht
theorem pe_m0 {pl : Sem Bool} (he : PE X o ta) (c : Mth X.prog X.w X.K X.mg X.base CX k C m sp) (hr : Room j X.A) (hk : k ≤ j) (hx : Passes CX X E)
    (ht : eval (.Call (.Attribute o m apos) [] [] pos) X.env = (do
      let ov ← eval o X.env
      standAt apos.atName
      let (f, first) ← holding [ov] (getMethod ov m pl)
      callWith pos f first (backTo pos (starEach [] X.env)) (backToKw pos (keywordEach [] X.env))) := by rfl) :
    PE X (.Call (.Attribute o m apos) [] [] pos) (tMeth C m sp [] E ta tNil) := by
  obtain ⟨f, fd, ps, F, hm, cl, b⟩ := c.ex
  exact pe_meth0 he cl hm F (hr.mono hk) b .nil hx ht
end
/-! ### the classes' facts -/
structure CF (K : PySem.W.Frag) (T : Cls3) : Prop where
  kits : Kits K T
  it : C8.InsC K T.t
  im : C8.InsC K T.m
  ie : C8.InsC K T.e
  nt : ∀ f ∈ FLD, NoAttr K T.t f
  nm : ∀ f ∈ FLD, NoAttr K T.m f
  ne : ∀ f ∈ FLD, NoAttr K T.e f
/-! ### marks of one mark -/
def mkF (ls : Str) (sd g nl : Addr) : List (Str × V) := [("own_letters", .str ls), ("own_steps", .ref sd), ("own_good", .ref g), ("own_numbers", .ref nl), ("own_number", .int 1)]
def mkS (ls : Str) : List (List Key × V) := ls.cps.toList.map fun c => ([.inr ⟨#[c]⟩, .inl 0], .int 0)
def IsMarks (T : Cls3) (H : Hp) (m : Addr) (ls : Str) : Prop := ∃ dx sd g nl, H m = some (.ins T.m dx (mkF ls sd g nl)) ∧ H sd = some (.dT (mkS ls)) ∧ H g = some (.tup [.int 0]) ∧ H nl = some (.lst [.int 0])
theorem IsMarks.same {T : Cls3} {H H' : Hp} {m : Addr} {ls : Str} (h : IsMarks T H m ls) (s : Same H H') : IsMarks T H' m ls := by
  obtain ⟨dx, sd, g, nl, h1, h2, h3, h4⟩ := h
  exact ⟨dx, sd, g, nl, s _ _ h1, s _ _ h2, s _ _ h3, s _ _ h4⟩
theorem IsMarks.hasL {K : PySem.W.Frag} {T : Cls3} (cf : CF K T) {H : Hp} {m : Addr} {ls : Str} (h : IsMarks T H m ls) : HasL K H m ls := by
  obtain ⟨dx, sd, g, nl, h1, h2, h3, h4⟩ := h
  exact ⟨T.m, dx, _, h1, cf.im.cl, cf.nm _ (by decide +kernel), rfl⟩
theorem mkS_get {ls : Str} {c : Nat} (h : c ∈ ls.cps.toList) : valV (mkS ls) [.inr ⟨#[c]⟩, .inl 0] = some (.int 0) := by
  unfold valV mkS
  rw [List.find?_map]
  have : ∃ d, List.find? ((fun kv : List Key × V => decide (kv.1 = [.inr ⟨#[c]⟩, .inl 0])) ∘ fun c => ([.inr ⟨#[c]⟩, .inl 0], V.int 0)) ls.cps.toList = some d := by
    rw [← Option.isSome_iff_exists, List.find?_isSome]
    exact ⟨c, h, by simp⟩
  obtain ⟨d, hd⟩ := this
  rw [hd]
  rfl
theorem over_mem {z ls : Str} {c : Nat} (h : over z ls = true) (hc : c ∈ z.cps.toList) : c ∈ ls.cps.toList := by
  have := List.all_eq_true.mp h c hc
  exact of_decide_eq_true this
section
variable {P : Program} {w : World} {K : PySem.W.Frag} {mg : Str → Option Value} {base : Heap} {T : Cls3}
/-- the rows of marks of one mark -/
def zeros (n : Nat) : List V := List.replicate n (.int 0)
def spRowIn (T : Cls3) : Sp := fun vs H Q _ => ∃ m z ls, vs = [.ref m, .str z] ∧ IsMarks T H m ls ∧ over z ls = true ∧ z.length ≤ 1000 ∧ ∀ H' p, Same H H' → H p = none → H' p = some (.lst (zeros (z.length + 1))) → Q (.ref p) H'
theorem ok_row_in (cf : CF K T) {f : Addr} {fd : FuncData} (F : FnP K "row_in" "Marks.row_in" s_Marks_row_in f fd) : FnOk P w K mg base CX0 1 f fd ["self", "text"] (spRowIn T) := by
  have S := sc_Marks_row_in
  refine ok0 F S (fun vs H Q E h => ?_) (fun cdv A outer s H vs Q E hr h => ?_)
  · obtain ⟨m, z, ls, rfl, _⟩ := h
    rfl
  · obtain ⟨m, z, ls, rfl, hm, ho, hz, q⟩ := h
    refine ⟨_, (pss_cons (ps_set (i := 2) S.nd rfl (.inl rfl) (pe_lst (pa_cons pe_int pa_nil)))
      (pss_cons (ps_for PassesOwn.never rfl (pi_str (pe_revS (pv 1))) (pg_name (i := 3) S.nd rfl (Or.inl rfl)) (pss_one (ps_set (i := 2) S.nd rfl (.inl rfl) (pe_lst (pa_cons (pe_dget (hu_of hr) (pe_fldK (K := K) rfl (pv 0) rfl) (pe_tup (pa_cons (pv 3) (pa_cons (pe_ix ix_list (pv 2) pe_int (fun _ _ => rfl)) pa_nil))) (fun _ _ => rfl)) (StX.pa_star (pv 2) pa_nil))))))
      (pss_one (ps_ret (pv 2))))), ?_⟩
    refine ⟨by show 1 ≤ sizeLine; decide, fun l hl => ?_⟩
    refine ⟨_, rfl, z, rfl, sz60 hz, _, rfl, ?_⟩
    refine for_it walk_str (fun i σ H' => Same H H' ∧ ∃ p a, σ = [some (.ref m), some (.str z), some (.ref p), a] ∧ H p = none ∧ H' p = some (.lst (zeros (i + 1)))) ?_ (fun _ _ _ _ _ => True.intro) ?_ ?_
    · exact ⟨same_upd hl, l, none, rfl, hl, upd_same⟩
    · rintro i x σ H1 H2 hi ⟨sm, p, a, rfl, hp, hpl⟩ ⟨rfl, c, hc, rfl⟩
      have hmem : c ∈ ls.cps.toList := by
        refine over_mem ho ?_
        have h1 := cps_get hc
        rw [revS_list] at h1
        have h2 := List.mem_of_getElem? h1
        exact List.mem_reverse.mp h2
      obtain ⟨dx, sd, g, nl, h1, h2, h3, h4⟩ := hm.same sm
      refine ⟨_, rfl, m, T.m, dx, _, _, rfl, h1, cf.im.cl, cf.nm _ (by decide +kernel), rfl, ?_⟩
      refine ⟨_, rfl, _, rfl, p, _, 0, .int 0, rfl, rfl, SqL.of hpl, atI_nat (j := 0) rfl, by show 2 ≤ sizeLine; decide, fun t ht => ?_⟩
      refine ⟨sd, .int 0, rfl, ?_, ?_⟩
      · rw [← mkS_get hmem]
        exact DGet.t (by rw [upd_ne (ne_of_none h2 ht)]; exact h2) upd_same
      · have ne : p ≠ t := ne_of_none hpl ht
        refine ⟨_, rfl, p, zeros (i + 1), rfl, .inr (SqL.of (by rw [upd_ne ne]; exact hpl)), ?_, fun l2 hl2 => ?_⟩
        · show (V.int 0 :: (zeros (i + 1) ++ [])).length ≤ sizeLine
          have : i < z.length := by rw [← revS_len]; exact hi
          simp [zeros]
          exact Nat.le_trans (show i + 1 + 1 ≤ 1001 by omega) (by decide)
        · refine ⟨(sm.trans (same_upd ht)).trans (same_upd hl2), l2, _, rfl, fresh_of (sm.trans (same_upd ht)) hl2, ?_⟩
          rw [upd_same]
          simp [zeros, List.replicate_succ]
    · rintro σ H1 ⟨sm, p, a, rfl, hp, hpl⟩
      refine ⟨_, rfl, q _ p sm hp ?_⟩
      rw [hpl]
      have : (revS z).cps.size = z.length := revS_len z
      rw [this]
/-! ### row -/
def spRow (K : PySem.W.Frag) (T : Cls3) : Sp := fun vs H Q _ => ∃ m z ls, vs = [.ref m, .str z] ∧ IsMarks T H m ls ∧ isT (.str z) = true ∧ over z ls = true ∧ ∀ H' p, Same H H' → H p = none → H' p = some (.tup (zeros (z.length + 1))) → Q (.ref p) H'
theorem ok_row (cf : CF K T) {f : Addr} {fd : FuncData} {CT CO : Addr} (F : FnP K "row" "Marks.row" s_Marks_row f fd) (B : BN mg) (c1 : Cal P w K mg base (L2.CX P w) 4 "require_rest" (spRest K CT CO)) (c2 : Mth P w K mg base CX0 1 T.m "row_in" (spRowIn T)) :
    FnOk P w K mg base CX0 5 f fd ["self", "text"] (spRow K T) := by
  have S := sc_Marks_row
  refine ok0 F S (fun vs H Q E h => ?_) (fun cdv A outer s H vs Q E hr h => ?_)
  · obtain ⟨m, z, ls, rfl, _⟩ := h
    rfl
  · obtain ⟨m, z, ls, rfl, hm, ht, ho, q⟩ := h
    refine ⟨_, (pss_cons (ps_expr (pe_c c1 hr (by decide) (by rfl) (E := E0) passL (pa_cons (pv 0) (pa_cons (pv 1) pa_nil))))
      (pss_one (ps_ret (pe_callTy call_tuple_of (by rfl) B.tuple (by decide +kernel) (pa_cons (pe_m (pv 0) c2 hr (by decide) (E := E0) pass0 (pa_cons (pv 1) pa_nil)) pa_nil))))), ?_⟩
    refine ⟨_, rfl, _, rfl, m, ls, .str z, rfl, hm.hasL cf, True.intro, sz60 (by have := isT_short ht; omega), fun e => absurd (e.symm.trans ht) Bool.false_ne_true, fun z' e _ e2 => ?_, fun z' e _ _ H1 sm => ?_⟩
    · cases e
      exact absurd (e2.symm.trans ho) Bool.false_ne_true
    · have hm1 := hm.same sm
      obtain ⟨dx, sd, g, nl, h1, h2, h3, h4⟩ := id hm1
      refine ⟨_, rfl, m, dx, _, rfl, h1, rfl, _, rfl, m, z, ls, rfl, hm1, ho, by have := isT_short ht; omega, fun H2 p sm2 hp hpl => ?_⟩
      refine ⟨p, _, rfl, .inl ⟨SqL.of hpl, fun l hl => ?_⟩⟩
      exact q _ l ((sm.trans sm2).trans (same_upd hl)) (fresh_of (sm.trans sm2) hl) upd_same
end
end K67
end
section
set_option Elab.async false
set_option linter.all false
set_option maxRecDepth 100000
set_option maxHeartbeats 4000000
namespace K67
open PySem PySem.Spec PyProof.Rows L2
/-! ### machines of one mark and one state that copy -/
def twF (m : Addr) (ls : Str) (b wr la so : Addr) : List (Str × V) := [("own_marks", .ref m), ("own_letters", .str ls), ("own_begins", .ref b), ("own_writes", .ref wr), ("own_last", .ref la), ("own_sorts", .ref so)]
def wS (ws : List (Nat × Addr)) : List (List Key × V) := ws.map fun q => ([.inl 0, .inr ⟨#[q.1]⟩, .inl 0], .ref q.2)
structure Parts where
  dx : Addr
  m : Addr
  b : Addr
  wr : Addr
  la : Addr
  so : Addr
  tb : Addr
  ws : List (Nat × Addr)
structure TwoAt (T : Cls3) (H : Hp) (t : Addr) (ls : Str) (p : Parts) : Prop where
  obj : H t = some (.ins T.t p.dx (twF p.m ls p.b p.wr p.la p.so))
  marks : IsMarks T H p.m ls
  begins : H p.b = some (.dK [(.inl 0, .ref p.tb)])
  target : H p.tb = some (.tup [.str "", .int 0])
  writes : H p.wr = some (.dT (wS p.ws))
  names : p.ws.map (·.1) = ls.cps.toList
  goals : ∀ q ∈ p.ws, H q.2 = some (.tup [.str ⟨#[q.1]⟩, .int 0])
  last : H p.la = some (.dK [(.inl 0, .str "")])
  sorts : H p.so = some (.dK [(.inl 0, .int 0)])
def IsTwo (T : Cls3) (H : Hp) (t : Addr) (ls : Str) : Prop := ∃ p, TwoAt T H t ls p
theorem TwoAt.same {T : Cls3} {H H' : Hp} {t : Addr} {ls : Str} {p : Parts} (h : TwoAt T H t ls p) (s : Same H H') : TwoAt T H' t ls p :=
  ⟨s _ _ h.obj, h.marks.same s, s _ _ h.begins, s _ _ h.target, s _ _ h.writes, h.names, fun q hq => s _ _ (h.goals q hq), s _ _ h.last, s _ _ h.sorts⟩
theorem IsTwo.same {T : Cls3} {H H' : Hp} {t : Addr} {ls : Str} (h : IsTwo T H t ls) (s : Same H H') : IsTwo T H' t ls := let ⟨p, q⟩ := h; ⟨p, q.same s⟩
theorem IsTwo.hasL {K : PySem.W.Frag} {T : Cls3} (cf : CF K T) {H : Hp} {t : Addr} {ls : Str} (h : IsTwo T H t ls) : HasL K H t ls := by
  obtain ⟨p, h⟩ := h
  exact ⟨T.t, p.dx, _, h.obj, cf.it.cl, cf.nt _ (by decide +kernel), rfl⟩
theorem wS_get {ws : List (Nat × Addr)} {c : Nat} (h : c ∈ ws.map (·.1)) : ∃ a, (c, a) ∈ ws ∧ valV (wS ws) [.inl 0, .inr ⟨#[c]⟩, .inl 0] = some (.ref a) := by
  unfold valV wS
  rw [List.find?_map]
  have : ∃ d, List.find? ((fun kv : List Key × V => decide (kv.1 = [.inl 0, .inr ⟨#[c]⟩, .inl 0])) ∘ fun q : Nat × Addr => ([.inl 0, .inr ⟨#[q.1]⟩, .inl 0], V.ref q.2)) ws = some d := by
    rw [← Option.isSome_iff_exists, List.find?_isSome]
    obtain ⟨q, hq, rfl⟩ := List.mem_map.mp h
    exact ⟨q, hq, by simp⟩
  obtain ⟨d, hd⟩ := this
  rw [hd]
  have h1 := List.find?_some hd
  have h2 := List.mem_of_find?_eq_some hd
  have h3 : d.1 = c := by simpa using h1
  refine ⟨d.2, ?_, rfl⟩
  rw [← h3]
  exact h2
/-- a pair (word, 0) of what a machine writes -/
def PairZ (H : Hp) (r : V) : Prop := ∃ a z, r = .ref a ∧ H a = some (.tup [.str z, .int 0]) ∧ z.length ≤ 1 ∧ PyData.strOk z = true
def PairW (H : Hp) (r : V) : Prop := ∃ a z y, r = .ref a ∧ H a = some (.tup [.str z, y]) ∧ z.length ≤ 1 ∧ PyData.strOk z = true
theorem let_small {c : Nat} (h : letB c = true) : c < 0x110000 := by
  have h' : c ∈ LET := of_decide_eq_true h
  have all : ∀ x ∈ LET, x < 0x110000 := by decide
  exact all c h'
theorem sign_ok {z : Str} {c : Nat} (h : wordB z = true) (hc : c ∈ z.cps.toList) : PyData.strOk ⟨#[c]⟩ = true := by
  have h1 := let_small (List.all_eq_true.mp h c hc)
  simp [PyData.strOk, h1]
section
variable {P : Program} {w : World} {K : PySem.W.Frag} {mg : Str → Option Value} {base : Heap} {T : Cls3}
def spWalkIn (T : Cls3) : Sp := fun vs H Q _ => ∃ t z ls, vs = [.ref t, .str z] ∧ IsTwo T H t ls ∧ over z ls = true ∧ z.length ≤ 1000 ∧ wordB z = true ∧
  ∀ H' p rs, Same H H' → H p = none → H' p = some (.lst rs) → rs.length ≤ 1002 → (∀ r ∈ rs, PairW H' r) → Q (.ref p) H'
theorem ok_walk_in (cf : CF K T) {f : Addr} {fd : FuncData} (F : FnP K "walk_in" "walk_in" s_walk_in f fd) (B : BN mg) (c2 : Mth P w K mg base CX0 1 T.m "row_in" (spRowIn T)) :
    FnOk P w K mg base CX0 2 f fd ["machine", "text"] (spWalkIn T) := by
  have S := sc_walk_in
  refine ok0 F S (fun vs H Q E h => ?_) (fun cdv A outer s H vs Q E hr h => ?_)
  · obtain ⟨m, z, ls, rfl, _⟩ := h
    rfl
  · obtain ⟨t, z, ls, rfl, ⟨p, ht⟩, ho, hz, hwz, q⟩ := h
    refine ⟨_, (pss_cons (ps_set (i := 2) S.nd rfl (.inl rfl) (pe_m (pe_fldK (K := K) rfl (pv 0) rfl) c2 hr (by decide) (E := E0) pass0 (pa_cons (pv 1) pa_nil)))
      (pss_cons (ps_if (pt_cmp (pc_dnotin (hu_of hr) (pe_ix ix_list (pv 2) pe_int (fun _ _ => rfl)) (pe_fldK (K := K) rfl (pv 0) rfl))) (pss_one (ps_ret (pe_lst pa_nil))) pss_nil)
      (pss_cons (ps_set (i := 3) S.nd rfl (.inl rfl) (pe_lst (pa_cons (pe_dget (hu_of hr) (pe_fldK (K := K) rfl (pv 0) rfl) (pe_ix ix_list (pv 2) pe_int (fun _ _ => rfl)) (fun _ _ => rfl)) pa_nil)))
      (pss_cons (ps_for PassesOwn.never rfl (pi_zipL (by rfl) B.zip (pa_cons (pv 1) (pa_cons (pe_slice sl_list (pv 2) (po_some pe_int) po_none) pa_nil))) (pg_tup rfl (pgs_cons (pg_name (i := 4) S.nd rfl (Or.inl rfl)) (pgs_cons (pg_name (i := 5) S.nd rfl (Or.inl rfl)) pgs_nil))) (pss_one (ps_expr (pe_bm PySem.F.plainAttrs_list PySem.F.slot_list_append PySem.F.type_list_append mt_append (pv 3) (pa_cons (pe_dget (hu_of hr) (pe_fldK (K := K) rfl (pv 0) rfl) (pe_tup (pa_cons (pe_ix ix_tup (pe_ix ix_list (pv 3) (pe_un un_neg pe_int) (fun _ _ => rfl)) pe_int (fun _ _ => rfl)) (pa_cons (pv 4) (pa_cons (pv 5) pa_nil)))) (fun _ _ => rfl)) pa_nil)))))
      (pss_one (ps_ret (pe_lst (StX.pa_star (pv 3) (pa_cons (pe_tup (pa_cons (pe_dget (hu_of hr) (pe_fldK (K := K) rfl (pv 0) rfl) (pe_ix ix_tup (pe_ix ix_list (pv 3) (pe_un un_neg pe_int) (fun _ _ => rfl)) pe_int (fun _ _ => rfl)) (fun _ _ => rfl)) (pa_cons pe_non pa_nil))) pa_nil))))))))), ?_⟩
    refine ⟨_, rfl, t, T.t, p.dx, _, _, rfl, ht.obj, cf.it.cl, cf.nt _ (by decide +kernel), rfl, ?_⟩
    obtain ⟨mdx, msd, mg', mnl, hmo, _⟩ := id ht.marks
    refine ⟨p.m, mdx, _, rfl, hmo, rfl, _, rfl, p.m, z, ls, rfl, ht.marks, ho, hz, fun H2 pr sm2 hpr hrow => ?_⟩
    have ht2 := ht.same sm2
    have r0 : atI (zeros (z.length + 1)) 0 = some (.int 0) := atI_nat (j := 0) rfl
    refine ⟨_, rfl, pr, _, 0, .int 0, rfl, rfl, SqL.of hrow, r0, ?_⟩
    refine ⟨_, rfl, t, T.t, p.dx, _, _, rfl, ht2.obj, cf.it.cl, cf.nt _ (by decide +kernel), rfl, ?_⟩
    refine ⟨p.b, _, rfl, DGet.k (k := Sum.inl 0) ht2.begins, _, rfl, ?_⟩
    refine iteF ?_
    refine ⟨_, rfl, t, T.t, p.dx, _, _, rfl, ht2.obj, cf.it.cl, cf.nt _ (by decide +kernel), rfl, ?_⟩
    refine ⟨_, rfl, pr, _, 0, .int 0, rfl, rfl, SqL.of hrow, r0, ?_⟩
    refine ⟨p.b, .ref p.tb, rfl, DGet.k (k := Sum.inl 0) ht2.begins, by show 1 ≤ sizeLine; decide, fun l hl => ?_⟩
    have hHl : H l = none := fresh_of sm2 hl
    refine ⟨_, rfl, _, rfl, 1, rfl, pr, _, rfl, SqL.of (by rw [upd_ne (ne_of_none hrow hl)]; exact hrow), fun l2 hl2 => ?_⟩
    have cut : cutV (zeros (z.length + 1)) (some 1) none = zeros z.length := by
      unfold cutV zeros
      rw [show HT.sIx (List.replicate (z.length + 1) (V.int 0)).length 0 (some 1) = min 1 (z.length + 1) by rw [show (some (1 : Int)) = some ((1 : Nat) : Int) by rfl, HT.sIx_nat]; simp, HT.sIx_none]
      rw [show min 1 (z.length + 1) = 1 by omega, List.drop_replicate, List.take_replicate]
      simp
    refine ⟨z, l2, zeros z.length, rfl, ?_, ?_⟩
    · rw [upd_same, cut]
    have hne : l ≠ l2 := ne_of_none (upd_same (H := H2) (a := l)) hl2
    refine for_it (walk_zipL (x := z) (l := l2) (ys := zeros z.length) (by simp [zeros] <;> rfl)) (fun i σ Hc => Same H Hc ∧ Hc l2 = some (.lst (zeros z.length)) ∧ ∃ ys r a b, σ = [some (.ref t), some (.str z), some (.ref pr), some (.ref l), a, b] ∧ Hc l = some (.lst (ys ++ [r])) ∧ ys.length = i ∧ ∀ x ∈ ys ++ [r], PairZ H x) ?_ ?_ ?_ ?_
    · refine ⟨(sm2.trans (same_upd hl)).trans (same_upd hl2), by rw [upd_same, cut], [], .ref p.tb, none, none, rfl, ?_, rfl, ?_⟩
      · rw [upd_ne hne, upd_same]
        rfl
      · intro x hx
        have : x = .ref p.tb := by simpa using hx
        subst this
        exact ⟨p.tb, ("" : Str), rfl, ht.target, by decide, by decide +kernel⟩
    · rintro i σ Hc _ ⟨_, h, _⟩
      exact h
    · rintro i x σ H1 H2' hi ⟨sm, hz2, ys, r, a, b, rfl, hlc, hlen, hall⟩ ⟨TT, u, v, rfl, hTT, rfl, hu, hv⟩
      replace hu : z.cps[i]?.map (fun c => V.str ⟨#[c]⟩) = some u := hu
      obtain ⟨c, hc1, rfl⟩ := Option.map_eq_some_iff.mp hu
      have hv0 : v = .int 0 := by
        have hv' : (zeros z.length)[i]? = some v := hv
        have := List.mem_of_getElem? hv'
        exact (List.mem_replicate.mp this).2
      subst hv0
      have hmem : c ∈ ls.cps.toList := over_mem ho (List.mem_of_getElem? (cps_get hc1))
      obtain ⟨ga, hga, hval⟩ := wS_get (ws := p.ws) (c := c) (by rw [ht.names]; exact hmem)
      have smT : Same H (upd H1 TT (.tup [.str ⟨#[c]⟩, .int 0])) := sm.trans (same_upd hTT)
      have lT : l ≠ TT := ne_of_none hlc hTT
      refine ⟨TT, _, rfl, SqT.of upd_same, rfl, _, _, rfl, ?_⟩
      refine ⟨_, _, rfl, rfl, ?_⟩
      have hl3 : upd H1 TT (.tup [.str ⟨#[c]⟩, .int 0]) l = some (.lst (ys ++ [r])) := by rw [upd_ne lT]; exact hlc
      refine ⟨_, rfl, .inl ⟨rfl, _, SqL.of hl3⟩, ?_⟩
      have ht3 := ht.same smT
      refine ⟨_, rfl, t, T.t, p.dx, _, _, rfl, ht3.obj, cf.it.cl, cf.nt _ (by decide +kernel), rfl, ?_⟩
      obtain ⟨ra, rz, rfl, hra, hrz, hrk⟩ := hall r (by simp)
      refine ⟨_, rfl, _, rfl, l, _, -1, .ref ra, rfl, rfl, SqL.of hl3, atI_last _ _, ?_⟩
      refine ⟨ra, _, 1, .int 0, rfl, rfl, SqT.of (smT _ _ hra), atI_nat (j := 1) rfl, _, rfl, _, rfl, by show 3 ≤ sizeLine; decide, fun kt hkt => ?_⟩
      have smK := smT.trans (same_upd (o := .tup [.int 0, .str ⟨#[c]⟩, .int 0]) hkt)
      have ht4 := ht.same smK
      refine ⟨p.wr, .ref ga, rfl, ?_, ?_⟩
      · rw [← hval]
        exact DGet.t ht4.writes upd_same
      have hl4 : upd (upd H1 TT (.tup [.str ⟨#[c]⟩, .int 0])) kt (.tup [.int 0, .str ⟨#[c]⟩, .int 0]) l = some (.lst (ys ++ [.ref ra])) := by rw [upd_ne (ne_of_none hl3 hkt)]; exact hl3
      refine ⟨l, _, _, rfl, rfl, hl4, ?_, ?_⟩
      · have : i < z.length := hi
        simp
        exact Nat.lt_of_lt_of_le (show ys.length + 1 < 2000 by omega) (by decide)
      · refine ⟨same_put smK hHl, ?_, ys ++ [.ref ra], .ref ga, _, _, rfl, by rw [upd_same], by simp [hlen], ?_⟩
        · have h5 : l2 ≠ l := Ne.symm hne
          rw [upd_ne h5, upd_ne (ne_of_none (by rw [upd_ne (ne_of_none hz2 hTT)]; exact hz2) hkt), upd_ne (ne_of_none hz2 hTT)]
          exact hz2
        · intro x hx
          rcases List.mem_append.mp hx with h | h
          · exact hall x h
          · have : x = .ref ga := by simpa using h
            subst this
            exact ⟨ga, _, rfl, ht.goals _ hga, by show (1 : Nat) ≤ 1; decide, sign_ok hwz (List.mem_of_getElem? (cps_get hc1))⟩
    · rintro σ Hc ⟨sm, hz2, ys, r, a, b, rfl, hlc, hlen, hall⟩
      have ht3 := ht.same sm
      obtain ⟨ra, rz, rfl, hra, hrz, hrk⟩ := hall r (by simp)
      refine ⟨_, rfl, l, _, rfl, .inr (SqL.of hlc), ?_⟩
      refine ⟨_, rfl, t, T.t, p.dx, _, _, rfl, ht3.obj, cf.it.cl, cf.nt _ (by decide +kernel), rfl, ?_⟩
      refine ⟨_, rfl, _, rfl, l, _, -1, .ref ra, rfl, rfl, SqL.of hlc, atI_last _ _, ?_⟩
      refine ⟨ra, _, 1, .int 0, rfl, rfl, SqT.of (sm _ _ hra), atI_nat (j := 1) rfl, ?_⟩
      refine ⟨p.la, .str "", rfl, DGet.k (k := Sum.inl 0) ht3.last, by show 2 ≤ sizeLine; decide, fun kt hkt => ?_⟩
      have hlenr : (ys ++ [V.ref ra] ++ [V.ref kt]).length ≤ 1002 := by
        have h6 : z.cps.size = z.length := rfl
        simp
        omega
      refine ⟨Nat.le_trans hlenr (by decide), fun lf hlf => ?_⟩
      refine q _ lf _ ((sm.trans (same_upd hkt)).trans (same_upd hlf)) (fresh_of (sm.trans (same_upd hkt)) hlf) upd_same hlenr ?_
      intro x hx
      rcases List.mem_append.mp hx with h | h
      · obtain ⟨xa, xz, rfl, h7, h8, h9⟩ := hall x h
        exact ⟨xa, xz, _, rfl, ((sm.trans (same_upd hkt)).trans (same_upd hlf)) _ _ h7, h8, h9⟩
      · have : x = .ref kt := by simpa using h
        subst this
        exact ⟨kt, "", .non, rfl, by rw [upd_ne (ne_of_none upd_same hlf), upd_same], by decide, by decide +kernel⟩
end
end K67
end
section
set_option Elab.async false
set_option linter.all false
set_option maxRecDepth 100000
set_option maxHeartbeats 4000000
/-! A generator def that hands out the items of one list («yield from» of a list, last), to a consumer of any kind. -/
namespace L2
open PySem PySem.Spec PyProof.Rows GenW
section
variable {prog : Program} {w : World} {A : Around} {E : Value → Shared → Prop} {s : Shared}
theorem special_lst_item' {it t : Addr} {i : Nat} {items : Array Value} {x : Value} {Q : Option Value → Shared → Prop} (hit : s.heap.IsListIter it t i) (ht : s.heap.IsList t items) (hx : items[i]? = some x)
    (hQ : ∀ h', h'.IsListIter it t (i + 1) → Heap.SameBut it s.heap h' → Q (some x) { s with heap := h' }) : wpAny (model prog w) A (callSpecial? (.ref it) "__next__") Q E s := by
  obtain ⟨o, ho, hc, hd⟩ := id hit
  obtain ⟨ol, hol, _, nl, hdl⟩ := ht
  have hT : s.TypeIs (.ref it) "list_iterator" := ⟨o, ho, hc⟩
  refine wpAny_callSpecial?_slot (name := Str.ofString "__next__") hT slot_listiter_next (wpAny_call_entry slot_listiter_next hT entry_listiter_next ?_ (args_listiter_next _))
  show wpAny _ _ (field (.ref it) 0 >>= _) _ _ s
  refine wpAny_bind (wpAny_field ho hd (x := .ref t) rfl ?_)
  show wpAny _ _ (if (Value.ref t == Value.none) = true then _ else _) _ _ s
  rw [if_neg (show ¬ ((Value.ref t == Value.none) = true) from Bool.false_ne_true)]
  show wpAny _ _ (field (.ref it) 1 >>= _) _ _ s
  refine wpAny_bind (wpAny_field ho hd (x := .int i 0) rfl ?_)
  show wpAny _ _ (seqItems? (.ref t) >>= _) _ _ s
  refine wpAny_bind (wpAny_seqItems hol hdl ?_)
  simp only [Int.toNat_natCast, hx]
  refine wpAny_bind (wpAny_setField ho hd (by simp) (wpAny_pure ⟨x, rfl, hQ _ ?_ (Heap.SameBut.update ..)⟩))
  exact ⟨_, Heap.get?_update_self _ ho (Obj.isFreed_of_fields (Obj.data_mapFields hd _)), (Obj.cls_mapFields ..).trans hc, by
    rw [Obj.data_mapFields hd]; simp [rawInt]⟩
theorem special_lst_end' {it t : Addr} {i : Nat} {items : Array Value} {Q : Option Value → Shared → Prop} (hh : A.handled = none) (hit : s.heap.IsListIter it t i) (ht : s.heap.IsList t items) (hx : items[i]? = none)
    (hE : ∀ e h', StopX e h' → Heap.ExtBut it s.heap h' → E e { s with heap := h' }) : wpAny (model prog w) A (callSpecial? (.ref it) "__next__") Q E s := by
  obtain ⟨o, ho, hc, hd⟩ := id hit
  obtain ⟨ol, hol, _, nl, hdl⟩ := ht
  have hT : s.TypeIs (.ref it) "list_iterator" := ⟨o, ho, hc⟩
  refine wpAny_callSpecial?_slot (name := Str.ofString "__next__") hT slot_listiter_next (wpAny_call_entry slot_listiter_next hT entry_listiter_next ?_ (args_listiter_next _))
  show wpAny _ _ (field (.ref it) 0 >>= _) _ _ s
  refine wpAny_bind (wpAny_field ho hd (x := .ref t) rfl ?_)
  show wpAny _ _ (if (Value.ref t == Value.none) = true then _ else _) _ _ s
  rw [if_neg (show ¬ ((Value.ref t == Value.none) = true) from Bool.false_ne_true)]
  show wpAny _ _ (field (.ref it) 1 >>= _) _ _ s
  refine wpAny_bind (wpAny_field ho hd (x := .int i 0) rfl ?_)
  show wpAny _ _ (seqItems? (.ref t) >>= _) _ _ s
  refine wpAny_bind (wpAny_seqItems hol hdl ?_)
  simp only [Int.toNat_natCast, hx]
  refine wpAny_bind (wpAny_rule (wpAny_bind (wpAny_setField ho hd (by simp) ?_)))
  show wpAny _ _ (newExc (.type "StopIteration") [] >>= _) _ _ _
  refine wpAny_bind ?_
  simp only [newExc, newTuple]
  refine wpAny_bind (wpAny_newObj_type ?_ (by size_fits))
  refine wpAny_bind (m := firstArgMember _ _) (wpAny_of_eq (a := Value.none) (by first | rfl | (simp only [firstArgMember]; rfl)) ?_)
  refine wpAny_newObj_type ?_ (by size_fits)
  simp only [raiseNew]
  refine wpAny_bind (wpAny_handled ?_)
  first | rw [show A.in1.handled = none from hh] | rw [hh]
  refine wpAny_bind (wpAny_pure (wpAny_throw ?_))
  refine hE _ _ ⟨_, _, _, rfl, Heap.get?_push_size _ rfl, rfl, rfl, ?_⟩ (((Heap.SameBut.update ..).extBut.push _).push _)
  first
    | rfl
    | (rw [Array.getElem?_append_left (by decide)]; rfl)
    | kernel_rfl
end
theorem close_lst' : typeLookup (.type "list_iterator") "close" = pure none := by rw [typeLookup_type, builtinLookup_eq_fast]; kernel_rfl

/-- what the generator leaves behind its first turn, of the state s at its call and what is pinned -/
structure First (P : Program) (w : World) (outer : List Env) (H : Hp) (s : Shared) (a : Addr) (g : Nat) (pn : List (Addr × Obj)) (H1 : Hp) (s1 : Shared) : Prop where
  os : s1.os = s.os
  bare : AllBare s1.gens
  lim : s1.heap.NoLimit
  gen : s1.heap.IsGen a g
  un : Un (frs outer) [] H H1 s.heap s1.heap
  hok : HOk P w H1 s1.heap
  pin : ∀ p ∈ pn, s1.heap.get? p.1 = some p.2 ∧ H1 p.1 = none
/-- what the consumer keeps while the generator sleeps: of the items, the heap, how many are out -/
abbrev Gho := List V → Hp → Nat → Shared → Prop
structure LDat (s : Shared) (a : Addr) (pn : List (Addr × Obj)) (Q : List V → Hp → Prop) (xs : List V) (H1 : Hp) (it l : Addr) (its : List Value) : Prop where
  young : s.heap.objs.size ≤ it
  apart : ∀ p ∈ pn, p.1 ≠ it
  na : a ≠ it
  lst : H1 l = some (.lst xs)
  none : H1 it = none
  vals : Vals xs its
  q : Q xs H1
def Bfr (P : Program) (w : World) (outer : List Env) (H : Hp) (s : Shared) (a : Addr) (g : Nat) (pn : List (Addr × Obj)) (Gh : Gho) (xs : List V) (H1 : Hp) (it : Addr) : Nat → Shared → Prop
  | 0, s1 => First P w outer H s a g pn H1 s1
  | j + 1, s1 => ∃ (sb : Shared) (h' : Heap) (tk : Nat), Gh xs H1 (j + 1) sb ∧ s1 = { sb with heap := h', toks := tk } ∧ ∀ b o, b ≠ it → sb.heap.get? b = some o → h'.get? b = some o
def YLs (P : Program) (w : World) (outer : List Env) (H : Hp) (s : Shared) (a : Addr) (g : Nat) (pn : List (Addr × Obj)) (Q : List V → Hp → Prop) (Gh : Gho) : Protocol := fun n s₀ v s1 kap =>
  ∃ (xs : List V) (H1 : Hp) (it l : Addr) (its : List Value) (j : Nat) (x : V), n + 1 + j = sizeLine ∧ LDat s a pn Q xs H1 it l its ∧ xs[j]? = some x ∧ RelV x v ∧ Bfr P w outer H s a g pn Gh xs H1 it j s1 ∧
    s1.heap.IsListIter it l (j + 1) ∧ s1.heap.IsList l its.toArray ∧ ∀ s', Gh xs H1 (j + 1) s' → s'.heap.IsListIter it l (j + 1) → s'.heap.IsList l its.toArray → kap (.send .none) s'
def RLs (P : Program) (w : World) (outer : List Env) (H : Hp) (s : Shared) (a : Addr) (g : Nat) (pn : List (Addr × Obj)) (Q : List V → Hp → Prop) (Gh : Gho) : GenEnd := fun n s₀ r s1 =>
  ((r = .ok (.ret .none) ∨ r = .ok .next) ∧ ∃ (xs : List V) (H1 : Hp) (it l : Addr) (its : List Value), LDat s a pn Q xs H1 it l its ∧ Bfr P w outer H s a g pn Gh xs H1 it xs.length s1) ∨ ∃ e : Value, r = .error e ∧ False
theorem Bfr.turn {P : Program} {w : World} {outer : List Env} {H : Hp} {s : Shared} {a : Addr} {g : Nat} {pn : List (Addr × Obj)} {Gh : Gho} {xs : List V} {H1 : Hp} {it : Addr} {j : Nat} {s1 : Shared} {h' : Heap} {tk : Nat} (b : Bfr P w outer H s a g pn Gh xs H1 it j s1)
    (hk : ∀ b o, b ≠ it → s1.heap.get? b = some o → h'.get? b = some o) (hn : H1 it = none) (hs : ∀ b o, s.heap.get? b = some o → b ≠ it) (hfr : ∀ b ∈ frs outer, b ≠ it) (ha : a ≠ it) (hc : cStatics ≠ it) (hp : ∀ p ∈ pn, p.1 ≠ it) : Bfr P w outer H s a g pn Gh xs H1 it j { s1 with heap := h', toks := tk } := by
  cases j with
  | zero =>
    obtain ⟨os, bare, lim, gen, un, hok, pin⟩ := b
    refine ⟨os, bare, ?_, ?_, ?_, ?_, fun p q => ⟨hk _ _ (hp p q) (pin p q).1, (pin p q).2⟩⟩
    · obtain ⟨mc, hns, hnn⟩ := lim
      exact ⟨mc, hns.at' fun o e => hk _ o hc e, hnn⟩
    · obtain ⟨o, nm, qn, ho, r⟩ := gen
      exact ⟨o, nm, qn, hk a o ha ho, r⟩
    · exact ⟨fun b o e n f x => hk _ _ (hs b o e) (un.keep b o e n f x), fun b o e n f x => by
        obtain ⟨sl, e1⟩ := un.slot b o e n f x
        exact ⟨sl, hk _ _ (hs b o e) e1⟩, un.free, fun b o e x => by
        obtain ⟨o', e1⟩ := un.there b o e x
        exact ⟨o', hk _ _ (hs b o e) e1⟩, un.tups, un.frzs, un.tbls⟩
    · intro b u e
      refine (hok b u e).stay (fun c v h3 y => hk c v (fun z => ?_) y) (fun _ y => y) fun _ _ y => y
      subst z
      rcases h3 with y | y
      · rw [← y, hn] at e; cases e
      · rw [hn] at y; cases y
  | succ j =>
    obtain ⟨sb, h1, t1, hG, rfl, h2⟩ := b
    exact ⟨sb, h', tk, hG, rfl, fun b o hb e => hk b o hb (h2 b o hb e)⟩

section
variable {X : Cx}
/-- the turns -/
theorem seg_yls {P : Program} {w : World} {outer : List Env} {H : Hp} {s : Shared} {a : Addr} {g : Nat} {pn : List (Addr × Obj)} {Q : List V → Hp → Prop} {Gh : Gho} {A : Around} {R : GenEnd} {fs : List Frame} {it l : Addr} {xs : List V} {its : List Value} {H1 : Hp}
    (hX : X.prog = P) (hw : X.w = w)
    (D : LDat s a pn Q xs H1 it l its) (hs : ∀ b o, s.heap.get? b = some o → b ≠ it) (hfr : ∀ b ∈ frs outer, b ≠ it) (hc : cStatics ≠ it) (hli : l ≠ it) (hle : xs.length ≤ sizeLine)
    (ho : (A.over (.builtin "proto.yield_from" ⟨[.ref it, .bool false, .none], []⟩) fs).handled = none) (hsp : splitAtGen fs = none) (hgd : fs.any Frame.guarded = false)
    (hend : ∀ (n : Nat) (s₀ s1 : Shared), Bfr P w outer H s a g pn Gh xs H1 it xs.length s1 → Seg (model P w) A R (YLs P w outer H s a g pn Q Gh) n s₀ (.builtin "proto.yield_from" ⟨[.ref it, .bool false, .none], []⟩) (.pure (.done (.ret .none))) fs s1) :
    ∀ (r j n : Nat) (s₀ s1 : Shared), j + r = xs.length → n + j = sizeLine → Bfr P w outer H s a g pn Gh xs H1 it j s1 → s1.heap.IsListIter it l j → s1.heap.IsList l its.toArray →
      Seg (model P w) A R (YLs P w outer H s a g pn Q Gh) n s₀ (.builtin "proto.yield_from" ⟨[.ref it, .bool false, .none], []⟩) ((model P w).den (.builtin "proto.yield_from" ⟨[.ref it, .bool false, .none], []⟩)) fs s1 := by
  subst hX hw
  intro r
  induction r with
  | zero =>
    intro j n s₀ s1 hj hn hB hit hl
    have hj' : j = xs.length := by omega
    subst hj'
    have hnone : its.toArray[xs.length]? = none := by
      have e := D.vals.length
      have e2 : its[xs.length]? = none := List.getElem?_eq_none_iff.mpr (by omega)
      simpa using e2
    rw [den_yf]
    unfold Builtin.«proto.yield_from»
    try dsimp only
    refine seg_bind (wpAny_pure ?_)
    try dsimp only
    refine seg_bind (wpAny_attempt (wpAny_holding ?_))
    rw [if_neg Bool.false_ne_true, if_pos (show (Value.none == Value.none) = true from rfl)]
    refine wpAny_bind (wpAny_rule (wpAny_bind ?_))
    refine special_lst_end' ho hit hl hnone fun e h' hS hk => ?_
    obtain ⟨a1, o, vs, rfl, hoa, hcls, hdat, h5⟩ := hS
    try dsimp only
    refine seg_bind (wpAny_endsTurn hoa hcls ?_)
    try dsimp only
    rw [if_pos rfl]
    first
      | refine seg_bind (wpAny_rule ?_)
      | (rw [if_neg Bool.false_ne_true]; refine seg_bind (wpAny_rule ?_))
      | (rw [if_neg Bool.false_ne_true]; refine seg_bind (wpAny_pure ?_); refine seg_bind (wpAny_rule ?_))
    refine seg_bind (wpAny_field hoa hdat h5 ?_)
    exact hend n s₀ _ (hB.turn (tk := s1.toks) (fun b o hb eb => hk b o hb eb) D.none hs hfr D.na hc D.apart)
  | succ r ih =>
    intro j n s₀ s1 hj hn hB hit hl
    have hjl : j < xs.length := by omega
    obtain ⟨x, hx⟩ : ∃ x, xs[j]? = some x := ⟨xs[j], List.getElem?_eq_getElem hjl⟩
    obtain ⟨v, hv, rv⟩ := D.vals.get hx
    obtain ⟨n, rfl⟩ : ∃ m, n = m + 1 := ⟨n - 1, by omega⟩
    rw [den_yf]
    unfold Builtin.«proto.yield_from»
    try dsimp only
    refine seg_bind (wpAny_pure ?_)
    try dsimp only
    refine seg_bind (wpAny_attempt (wpAny_holding ?_))
    rw [if_neg Bool.false_ne_true, if_pos (show (Value.none == Value.none) = true from rfl)]
    refine wpAny_bind (wpAny_rule (wpAny_bind ?_))
    refine special_lst_item' hit hl (x := v) (by simpa using hv) fun h' hit' hk => ?_
    have hB' := hB.turn (tk := s1.toks) (fun b o hb eb => hk.extBut b o hb eb) D.none hs hfr D.na hc D.apart
    have hl' : h'.IsList l its.toArray := hl.extBut hk.extBut hli
    obtain ⟨oi, hoi, hoc, _⟩ := id hit'
    refine wpAny_pure ?_
    try dsimp only
    refine seg_bind (wpAny_typeOf (T := "list_iterator") ⟨oi, hoi, hoc⟩ ?_)
    try dsimp only
    first
      | (refine seg_bind (wpAny_of_eq close_lst' ?_); refine seg_bind (wpAny_pure ?_))
      | refine seg_bind (wpAny_bind (wpAny_of_eq close_lst' (wpAny_pure ?_)))
      | refine seg_bind (wpAny_of_eq close_lst' ?_)
    try dsimp only
    refine seg_bind (wpAny_sleptOver hoi hoc (by decide) ?_)
    refine seg_yield hsp rfl hgd ?_
    refine ⟨xs, H1, it, l, its, j, x, hn, D, hx, rv, hB', hit', hl', fun s'' hG hit2 hl2 => ?_⟩
    obtain ⟨oj, hoj, hojc, _⟩ := id hit2
    show Seg _ _ _ _ n s'' _ (Builtin.Generator.sleptOver (.ref it) false >>= fun _ => _) fs s''
    refine seg_bind (wpAny_sleptOver hoj hojc (by decide) ?_)
    try dsimp only
    refine seg_bind (wpAny_pure ?_)
    exact seg_again (plainId_quiet plain_yf _) (ih (j + 1) n s'' s'' (by omega) (by omega) ⟨s'', s''.heap, s''.toks, hG, rfl, fun b o _ e => e⟩ hit2 hl2)
end
end L2
end
section
set_option Elab.async false
set_option linter.all false
set_option maxRecDepth 100000
set_option maxHeartbeats 4000000
namespace L2
open PySem PySem.Spec PyProof.Rows GenW
abbrev SpL := List V → Hp → (List V → Hp → Prop) → Prop
abbrev XNo : XK := fun _ _ _ => False
/-- the generator is made, it has not begun -/
def LMade (P : Program) (w : World) (k : Nat) (outer : List Env) (H : Hp) (s : Shared) (Q : List V → Hp → Prop) (u : Value) (s' : Shared) : Prop :=
  ∃ (a : Addr) (g : Nat) (c : Code), u = .ref a ∧ s.heap.objs.size ≤ a ∧ a < s'.heap.objs.size ∧ s'.heap.IsGen a g ∧ s'.gens[g]? = some (.fresh c) ∧ s'.os = s.os ∧ AllBare s'.gens ∧ s'.heap.NoLimit ∧ (∀ b o, s.heap.get? b = some o → s'.heap.get? b = some o) ∧
    ∀ (A : Around) (Gh : Gho) (pn : List (Addr × Obj)) (s2 : Shared), Room k A → A.frames = some outer → (∀ b o, s'.heap.get? b = some o → s2.heap.get? b = some o) → (∀ p ∈ pn, s2.heap.get? p.1 = some p.2 ∧ s'.heap.objs.size ≤ p.1 ∧ ∀ v, p.2.data ≠ .cell v) → s2.os = s.os → AllBare s2.gens →
      Seg (model P w) A (RLs P w outer H s a g pn Q Gh) (YLs P w outer H s a g pn Q Gh) sizeLine s2 c ((model P w).den c) [] s2
structure LFn (P : Program) (w : World) (K : PySem.W.Frag) (mg : Str → Option Value) (base : Heap) (k : Nat) (f : Addr) (fd : FuncData) (ps : List Str) (sp : SpL) : Prop where
  len : ∀ vs H Q, sp vs H Q → vs.length = ps.length
  run : ∀ (A : Around) (outer : List Env) (s : Shared) (H : Hp) (args : Args) (us : List Value) (vs : List V) (Q : List V → Hp → Prop), Room k A → Env0 P w K mg base A outer s H → BindsTo s fd args (ps.zip us) → Vals vs us → sp vs H Q →
    codeAny (model P w) A (.call (.ref f) args) (fun r s' => match r with | .ok (.ret u) => LMade P w k outer H s Q u s' | _ => False) s
theorem young_of {s s2 : Shared} {it : Addr} (h : s2.heap.objs.size ≤ it) (k : ∀ b o, s.heap.get? b = some o → s2.heap.get? b = some o) : ∀ b o, s.heap.get? b = some o → b ≠ it := fun b o e z => by
  have h1 := Heap.lt_size (k b o e)
  rw [z] at h1
  exact absurd (Nat.lt_of_lt_of_le h1 h) (Nat.lt_irrefl _)
theorem lfn_of {P : Program} {w : World} {K : PySem.W.Frag} {mg : Str → Option Value} {base : Heap} {k : Nat} {f : Addr} {name qual : Str} {params : Arguments} {st : Stmt} {e : Expr} {yp pos : Pos} {scope : Scope} {dV kV doc pm cdv ct oc : Value} {an od : Option Addr}
    {osl : Array (Option Value)} {N ps : List Str} {sp : SpL} (lk : K.lookup f = some ⟨oc, od, .func (PySem.W.fnOf name qual params [st, .Expr (.YieldFrom e yp) pos] scope dV kV doc pm an cdv ct), osl⟩) (hcd : PySem.W.codeIn K cdv qual = true) (S : GScope N ps scope)
    (hi : ∀ n, interactive (envOfC qual scope n f cdv) = false)
    (len : ∀ vs H Q, sp vs H Q → vs.length = ps.length)
    (hbody : ∀ (A : Around) (outer : List Env) (s : Shared) (H : Hp) (vs : List V) (Q : List V → Hp → Prop) (pn : List (Addr × Obj)), Room k (A.deeper (envOfC qual scope s.heap.objs.size f cdv)) → sp vs H Q →
      ∃ t1 te, PS (gcxOf P w K mg base N qual scope f cdv A outer s H XNo pn) st t1 ∧ PE (gcxOf P w K mg base N qual scope f cdv A outer s H XNo pn) e te ∧
        t1 { nx := fun σ1 H1 => te σ1 H1 fun x H2 => ∃ l xs, x = .ref l ∧ H2 l = some (.lst xs) ∧ Q xs H2, rt := fun _ _ => False } (start N vs) H) :
    LFn P w K mg base (k + 1) f (PySem.W.fnOf name qual params [st, .Expr (.YieldFrom e yp) pos] scope dV kV doc pm an cdv ct) ps sp := by
  refine ⟨len, fun A outer s H args us vs Q hr e0 hb r hsp => ?_⟩
  have hl := len _ _ _ hsp
  have KX : K.In s.heap := e0.mod.kin.keeps fun b o e => (e0.bs b o e).1
  have lim : s.heap.NoLimit := e0.mod.nolimit.keeps fun b o e => (e0.bs b o e).1
  have hkind : ∀ y ∈ ps.zip us, scope.names.lookup y.1 = some .local ∨ (scope.names.lookup y.1 = some .cell ∧ ((cellsFrom (s.heap.objs.size + 1) scope.names []).lookup y.1).isSome = true) := fun ⟨n, v⟩ hy => by
    rcases S.par n (List.of_mem_zip hy).1 with q | q
    · exact .inl q
    · exact .inr ⟨q, PySem.W.cellsFrom_some _ _ _ (.inl q)⟩
  refine codeAny_call_generator hr.depth (KX _ _ lk) rfl S.co S.gen rfl (PySem.W.codeRec_of KX hcd) (hb _ _ _ _ ?_)
  refine wpAny_newFunctionEnv_cells S.kind hkind fun env he s1 x => ?_
  subst he
  have lim1 : s1.heap.NoLimit := lim.keeps x.toInCall.keep
  refine ⟨lim1, ?_⟩
  obtain ⟨h1, tk, es1, hk1⟩ := x.done
  have os1 : s1.os = s.os := by rw [es1]
  have gen1 : s1.gens = s.gens := by rw [es1]
  have lt1 : s.heap.objs.size < s1.heap.objs.size := x.toInCall.ns.lt
  have sz1 : s.heap.objs.size ≤ s1.heap.objs.size := Nat.le_of_lt lt1
  have kp1 : ∀ b o, s.heap.get? b = some o → s1.heap.get? b = some o := x.toInCall.keep
  have main : ∀ (go : Obj) (nm qn : Value) (tk2 : Nat), go.cls = .type "generator" → go.data = .fields #[.int s1.gens.size 0, nm, qn] → go.slots = #[] → (∀ h : Heap, (h.push go).get? h.objs.size = some go) →
      LMade P w (k + 1) outer H s Q (.ref s1.heap.objs.size) { s1 with gens := s1.gens.push (.fresh (.func [st, .Expr (.YieldFrom e yp) pos] (envOfC qual scope s.heap.objs.size f cdv))), toks := tk2, heap := s1.heap.push go } := by
    intro go nm qn tk2 hgc hgd0 hgs hgp
    have hgen : ∀ h : Heap, h.get? s1.heap.objs.size = some go → h.IsGen s1.heap.objs.size s1.gens.size := fun h e => ⟨go, nm, qn, e, hgc, hgd0, hgs⟩
    have hpushed : (s1.heap.push go).get? s1.heap.objs.size = some go := hgp _
    refine ⟨s1.heap.objs.size, s1.gens.size, _, rfl, sz1, ?_, hgen _ hpushed, Array.getElem?_push_size .., os1, ?_, lim1.keeps fun b o e => Heap.get?_push_of_some _ e, fun b o e => Heap.get?_push_of_some _ (kp1 b o e), ?_⟩
    · show _ < (s1.heap.push _).objs.size
      rw [Heap.size_push]; exact Nat.lt_succ_self _
    · exact AllBare.push (by rw [gen1]; exact e0.bare) rfl
    intro Aw Gh pn2 s2 hrw hfr hk2 hpn2 hos hba
    have e0w : Env0 P w K mg base Aw outer s H := ⟨hfr, e0.mod, e0.bs, e0.bsz, e0.funs, e0.frf, e0.hok, e0.bare⟩
    obtain ⟨t1, te, ps1, pe1, hq⟩ := hbody Aw outer s H vs Q ((s1.heap.objs.size, go) :: pn2) (hrw.deeper _) hsp
    have I1 : Inv (gcxOf P w K mg base N qual scope f cdv Aw outer s H XNo []) [] (start N vs) H s1 := inv_startG S hrw.hd e0w hl r x
    have kp2 : ∀ b o, s1.heap.get? b = some o → s2.heap.get? b = some o := fun b o e => hk2 b o (Heap.get?_push_of_some _ e)
    have I2 : Inv (gcxOf P w K mg base N qual scope f cdv Aw outer s H XNo []) [] (start N vs) H s2 :=
      I1.call' (ch := []) (hos.trans os1.symm) (Un.kept kp2) (I1.hok.kept kp2) hba fun b z => by simp at z
    have hea : s2.heap.get? s1.heap.objs.size = some go := hk2 s1.heap.objs.size go hpushed
    have hgd : ∀ v, go.data ≠ .cell v := fun v q => by rw [hgd0] at q; cases q
    have young : ∀ b, s1.heap.objs.size ≤ b → H b = none ∧ b ≠ s.heap.objs.size ∧ b ∉ frs outer ∧ s.heap.objs.size ≤ b ∧ ∀ y c, (cellsFrom (s.heap.objs.size + 1) scope.names []).lookup y = some c → c ≠ b := fun b hb => by
      refine ⟨I1.hok.fresh hb, Nat.ne_of_gt (Nat.lt_of_lt_of_le lt1 hb), I1.nofs hb, Nat.le_trans sz1 hb, fun y c e z => ?_⟩
      obtain ⟨v, ob, ho, _⟩ := I1.cell y c e
      have := Heap.lt_size ho
      rw [z] at this
      exact absurd (Nat.lt_of_lt_of_le this hb) (Nat.lt_irrefl _)
    have Ip : Inv (gcxOf P w K mg base N qual scope f cdv Aw outer s H XNo ((s1.heap.objs.size, go) :: pn2)) [] (start N vs) H s2 := by
      refine Inv.pinnedG I2 fun p hp => ?_
      rw [List.append_nil] at hp
      rcases List.mem_cons.mp hp with z | z
      · rw [z]
        obtain ⟨y1, y2, y3, _, _⟩ := young s1.heap.objs.size (Nat.le_refl _)
        exact ⟨hea, y1, y2, y3, hgd⟩
      · obtain ⟨z1, z2, z3⟩ := hpn2 p z
        have z2' : s1.heap.objs.size ≤ p.1 := by
          have : (s1.heap.push go).objs.size ≤ p.1 := z2
          rw [Heap.size_push] at this
          omega
        obtain ⟨y1, y2, y3, _, _⟩ := young p.1 z2'
        exact ⟨z1, y1, y2, y3, z3⟩
    refine seg_func ?_
    -- the first statement
    refine seg_execs_cons ?_
    refine seg_wrap ?_
    rw [show Aw.over (.func [st, .Expr (.YieldFrom e yp) pos] (envOfC qual scope s.heap.objs.size f cdv)) [] = Aw.deeper (envOfC qual scope s.heap.objs.size f cdv) from over_func]
    have noexc : ∀ (x : Value) (s' : Shared) {W : Prop}, (gcxOf P w K mg base N qual scope f cdv Aw outer s H XNo ((s1.heap.objs.size, go) :: pn2)).xe x s' → wpAny (model P w) (Aw.deeper (envOfC qual scope s.heap.objs.size f cdv)) (leaving (envOfC qual scope s.heap.objs.size f cdv) x) (fun _ _ => W) (fun _ _ => W) s' := fun x s' W hx => by
      refine wpAny_mono (show wpAny (model P w) (Aw.deeper (envOfC qual scope s.heap.objs.size f cdv)) (leaving (envOfC qual scope s.heap.objs.size f cdv) x) (fun _ s'' => CX P w outer H s XNo x s'' ∧ ∀ p ∈ (s1.heap.objs.size, go) :: pn2, s''.heap.get? p.1 = some p.2) (fun _ _ => False) s' from hx) (fun _ s'' q => ?_) fun _ s'' q => q.elim
      obtain ⟨⟨_, _, _, _, _, _, _, _, _, _, _, _, q⟩, _⟩ := q
      exact q.elim
    have noexc2 : ∀ (x : Value) (s' : Shared) (n : Nat) (s₀ : Shared), (gcxOf P w K mg base N qual scope f cdv Aw outer s H XNo ((s1.heap.objs.size, go) :: pn2)).xe x s' →
        Seg (model P w) Aw (RLs P w outer H s s1.heap.objs.size s1.gens.size pn2 Q Gh) (YLs P w outer H s s1.heap.objs.size s1.gens.size pn2 Q Gh) n s₀ (.func [st, .Expr (.YieldFrom e yp) pos] (envOfC qual scope s.heap.objs.size f cdv)) ((leaving (envOfC qual scope s.heap.objs.size f cdv) x).wrap (fun _ => .raise x) .raise id id) [] s' := fun x s' n s₀ hx => by
      refine seg_wrap ?_
      rw [show Aw.over (.func [st, .Expr (.YieldFrom e yp) pos] (envOfC qual scope s.heap.objs.size f cdv)) [] = Aw.deeper (envOfC qual scope s.heap.objs.size f cdv) from over_func]
      exact wpAny_mono (noexc x s' hx (W := False)) (fun _ _ q => q.elim) fun _ _ q => q.elim
    refine wpAny_mono (ps1.run [] s2 _ _ _ Ip hq) (fun fl s3 hs => ?_) fun x s' hx => noexc2 x s' _ _ hx
    cases fl with
    | brk => obtain ⟨_, _, _, q⟩ := hs; exact q.elim
    | cont => obtain ⟨_, _, _, q⟩ := hs; exact q.elim
    | ret u => obtain ⟨_, _, _, _, _, q⟩ := hs; exact q.elim
    | next =>
    obtain ⟨σ3, H3, I3, q3⟩ := hs
    refine seg_execs_cons ?_
    rw [exec_Expr _ _ pos (hi _) rfl]
    show Seg _ _ _ _ _ _ _ (.at pos fun _ => ((eval e (envOfC qual scope s.heap.objs.size f cdv) >>= fun v => (standAt yp >>= fun _ => yieldFrom (envOfC qual scope s.heap.objs.size f cdv) v)) >>= fun x => dropValue (.YieldFrom e yp) pos x).wrap _ _ _ _) _ _
    refine seg_at ?_
    refine segw_bind2 ?_
    rw [show Aw.over (.func [st, .Expr (.YieldFrom e yp) pos] (envOfC qual scope s.heap.objs.size f cdv)) [] = Aw.deeper (envOfC qual scope s.heap.objs.size f cdv) from over_func]
    refine wpAny_mono (pe1.run [] s3 _ _ _ I3 q3) (fun v s4 hv => ?_) fun x s' hx => noexc2 x s' _ _ hx
    obtain ⟨x, H4, I4, r4, l, xs, ex, hlst, hQ⟩ := hv
    subst ex
    obtain rfl : v = Value.ref l := r4
    obtain ⟨hlen, its, nc, rits, hget⟩ := I4.hok l _ hlst
    have ht : s4.heap.IsList l its.toArray := ⟨_, hget, rfl, nc, rfl⟩
    have lt : l < s4.heap.objs.size := Heap.lt_size hget
    have hne' : ¬ ((Value.type "list" == Value.type "coroutine") = true) := by decide
    refine seg_at ?_
    show Seg _ _ _ _ _ _ _ ((yieldFrom (envOfC qual scope s.heap.objs.size f cdv) (.ref l)).wrap (fun b => (dropValue (.YieldFrom e yp) pos b).wrap _ _ _ _) _ _ _) _ _
    unfold yieldFrom
    refine seg_bind_wrap (wpAny_typeOf (T := "list") ⟨_, hget, rfl⟩ ?_)
    rw [if_neg hne']
    refine seg_bind_wrap (wpAny_holding ?_)
    refine iter_any ht ?_
    rintro s₂ rfl ⟨hi0, hl0⟩ hne0
    refine seg_call fun p => ?_
    have kp : ∀ b o, s4.heap.get? b = some o → (s4.heap.push { cls := .type "list_iterator", data := .fields #[.ref l, .int 0 0] }).get? b = some o := fun b o e => Heap.get?_push_of_some _ e
    have sz4 : s.heap.objs.size ≤ s4.heap.objs.size := I4.sz
    have pinE : ∀ p ∈ pn2, s4.heap.get? p.1 = some p.2 ∧ H4 p.1 = none := fun p hp => by
      obtain ⟨z1, z2, _⟩ := I4.pin p (List.mem_append_left _ (List.mem_cons_of_mem _ hp))
      exact ⟨z1, z2⟩
    have ea4 : s4.heap.get? s1.heap.objs.size = some go := (I4.pin (s1.heap.objs.size, go) (List.mem_append_left _ List.mem_cons_self)).1
    have nat : ∀ b o, s4.heap.get? b = some o → b ≠ s4.heap.objs.size := fun b o e => Nat.ne_of_lt (Heap.lt_size e)
    have D4 : LDat s s1.heap.objs.size pn2 Q xs H4 s4.heap.objs.size l its := ⟨sz4, fun p hp => nat _ _ (pinE p hp).1, nat _ _ ea4, hlst, I4.hok.fresh (Nat.le_refl _), rits, hQ⟩
    have hsn : ∀ b o, s.heap.get? b = some o → b ≠ s4.heap.objs.size := fun b o e => Nat.ne_of_lt (Nat.lt_of_lt_of_le (Heap.lt_size e) sz4)
    have F4 : First P w outer H s s1.heap.objs.size s1.gens.size pn2 H4 { s4 with heap := s4.heap.push { cls := .type "list_iterator", data := .fields #[.ref l, .int 0 0] } } := by
      refine ⟨I4.os, I4.bare, I4.nolimit.keeps kp, hgen _ (kp _ _ ea4), ?_, I4.hok.kept kp, fun p hp => ⟨kp _ _ (pinE p hp).1, (pinE p hp).2⟩⟩
      exact I4.base.trans (Un.kept kp)
    refine seg_yls (X := gcxOf P w K mg base N qual scope f cdv Aw outer s H XNo ((s1.heap.objs.size, go) :: pn2)) (xs := xs) (its := its) (l := l) rfl rfl D4 hsn (fun b hb => ?_) ?_ (Nat.ne_of_lt lt) hlen ?_ rfl rfl (fun n' s₀' s' hB => ?_) xs.length 0 sizeLine _ _ (Nat.zero_add _) (Nat.add_zero _) F4 hi0 hl0
    · exact fun z => I4.nofs (Nat.le_refl _) (z ▸ hb)
    · obtain ⟨_, hn, _⟩ := I4.nolimit
      exact Nat.ne_of_lt hn.lt
    · exact hrw.hd
    · exact seg_leaf (.ok (.ret .none)) (seg_end (.ok (.ret .none)) (.inl ⟨.inl rfl, xs, H4, _, l, its, D4, hB⟩))
  exact main _ _ _ _ rfl rfl rfl fun h => Heap.get?_push_size _ rfl
end L2
end
section
set_option Elab.async false
set_option linter.all false
set_option maxRecDepth 100000
set_option maxHeartbeats 4000000
namespace L2
open PySem PySem.Spec PyProof.Rows GenW
/-- an expression that gives such a generator -/
structure PL (X : Cx) (k : Nat) (e : Expr) (tg : TGen) : Prop where
  run : ∀ (pins : List (Addr × Obj)) (s : Shared) (σ : L2.St) (H : Hp) (cont : List V → Hp → Prop), Inv X pins σ H s → tg σ H cont → wpAny (model X.prog X.w) X.A (eval e X.env)
    (fun u s' => ∃ H1 sc, Inv X pins σ H1 sc ∧ LMade X.prog X.w k X.stack H1 sc cont u s') X.xe s
/-- of pairs at rs the first ones -/
def Fsts (H : Hp) (rs ws : List V) : Prop := rs.length = ws.length ∧ ∀ (i : Nat) (r : V), rs[i]? = some r → ∃ (a : Addr) (w z : V), r = V.ref a ∧ H a = some (.tup [w, z]) ∧ ws[i]? = some w
def tLcG (tg : TGen) : TE := fun σ H Q => tg σ H fun out H2 => out.length < sizeLine ∧ ∃ ws, Fsts H2 out ws ∧ ∀ p, H2 p = none → Q (.ref p) (upd H2 p (.lst ws))
/-- what the comprehension keeps: the new list at D, the names at L -/
structure GhS (P : Program) (w : World) (st : List Env) (Hc : Hp) (sc : Shared) (a : Addr) (g : Nat) (D L : Addr) (Q : VK) (xs : List V) (H1 : Hp) (j : Nat) (s' : Shared) : Prop where
  fst : First P w st Hc sc a g [] H1 s'
  hD : H1 D = none
  hL : H1 L = none
  ns : ∃ m, s'.heap.Ns L m
  acc : ∃ (acc : Array Value) (c : Nat) (ws : List V), s'.heap.get? D = some (lstObj acc c) ∧ Fsts H1 xs ws ∧ Vals (ws.take j) acc.toList ∧ ∀ p, H1 p = none → Q (.ref p) (upd H1 p (.lst ws))
section
variable {P : Program} {w : World} {st : List Env} {Hc : Hp} {sc : Shared} {a : Addr} {g : Nat} {D L : Addr} {Q : VK} {xs : List V} {H1 : Hp} {j : Nat} {s1 : Shared}
theorem First.turn {h' : Heap} {tk : Nat} {it : Addr} (b : First P w st Hc sc a g [] H1 s1)
    (hk : ∀ b o, b ≠ it → s1.heap.get? b = some o → h'.get? b = some o) (hn : H1 it = none) (hs : ∀ b o, sc.heap.get? b = some o → b ≠ it) (hfr : ∀ b ∈ frs st, b ≠ it) (ha : a ≠ it) (hc : cStatics ≠ it) : First P w st Hc sc a g [] H1 { s1 with heap := h', toks := tk } :=
  Bfr.turn (j := 0) (Gh := fun _ _ _ _ => False) (xs := []) b hk hn hs hfr ha hc (fun p hp => by simp at hp)
theorem First.gens {x : GenState} {g' : Nat} (b : First P w st Hc sc a g [] H1 s1) (hx : x.bare = true) : First P w st Hc sc a g [] H1 (s1.setGen g' x) :=
  ⟨b.os, allBare_setGen b.bare hx, b.lim, b.gen, b.un, b.hok, b.pin⟩
theorem GhS.gens {x : GenState} {g' : Nat} (b : GhS P w st Hc sc a g D L Q xs H1 j s1) (hx : x.bare = true) : GhS P w st Hc sc a g D L Q xs H1 j (s1.setGen g' x) :=
  ⟨b.fst.gens hx, b.hD, b.hL, b.ns, b.acc⟩
theorem GhS.of {pn : List (Addr × Obj)} {it l : Addr} {its : List Value} {oL : Obj} {c0 : Nat} (hpn : pn = [(D, lstObj #[] c0), (L, oL)]) (hoL : ∀ h : Heap, h.get? L = some oL → ∃ m, h.Ns L m) (hfr : ∀ b ∈ frs st, b ≠ it) (hc : cStatics ≠ it) (hs : ∀ b o, sc.heap.get? b = some o → b ≠ it)
    (hDl : LDat sc a pn (fun out H2 => out.length < sizeLine ∧ ∃ ws, Fsts H2 out ws ∧ ∀ p, H2 p = none → Q (.ref p) (upd H2 p (.lst ws))) xs H1 it l its)
    (b : Bfr P w st Hc sc a g pn (GhS P w st Hc sc a g D L Q) xs H1 it j s1) : GhS P w st Hc sc a g D L Q xs H1 j s1 := by
  cases j with
  | zero =>
    obtain ⟨os, bare, lim, gen, un, hok, pin⟩ := b
    obtain ⟨p1, p2⟩ := pin (D, lstObj #[] c0) (by rw [hpn]; simp)
    obtain ⟨p3, p4⟩ := pin (L, oL) (by rw [hpn]; simp)
    obtain ⟨_, ws, h1, h2⟩ := hDl.q
    exact ⟨⟨os, bare, lim, gen, un, hok, fun p hp => by simp at hp⟩, p2, p4, hoL _ p3, #[], c0, ws, p1, h1, .nil, h2⟩
  | succ j =>
    obtain ⟨sb, h', tk, hG, rfl, hk⟩ := b
    obtain ⟨f, hD, hL, ⟨m, hns⟩, acc, c, ws, h1, h2, h3, h4⟩ := hG
    have nD : D ≠ it := hDl.apart (D, lstObj #[] c0) (by rw [hpn]; simp)
    have nL : L ≠ it := hDl.apart (L, oL) (by rw [hpn]; simp)
    exact ⟨f.turn hk hDl.none hs hfr hDl.na hc, hD, hL, ⟨m, hns.at' fun o e => hk _ o nL e⟩, acc, c, ws, hk _ _ nD h1, h2, h3, h4⟩
end
section
variable {X : Cx}
theorem pe_lcG {k j : Nat} {x y : Str} {iter : Expr} {tg : TGen} {scope : Scope} {own : List (Str × Nat)} {pos p1 p2 p3 tp : Pos} {tk : Nat} (hx : PL X k iter tg) (hr : Room j X.A) (hk : k + 3 ≤ j) (hc : X.calm = true) (ok : BlkOk X.N X.env.scope scope own)
    (hs : ∀ x, foldedSetIterable iter X.env x = pure x := by intro _; rfl) (hpc : ∀ h, pushCells h scope.names = h := by intro _; rfl)
    (hkx : ∀ L cl, (compEnvC scope cl L X.env).kindOf x = some .local := by intro _ _; rfl) (hky : ∀ L cl, (compEnvC scope cl L X.env).kindOf y = some .local := by intro _ _; rfl) (hfk : ∀ L cl, (compEnvC scope cl L X.env).scope.kind = .function := by intro _ _; rfl)
    (hxy : x ≠ y := by decide) (hd : (x == ("__debug__" : Str)) = false := by decide) :
    PE X (.ListComp (.Name x p1) [⟨.Tuple [.Name x p2, .Name y p3] tk tp, iter, [], 0⟩] scope pos) (tLcG tg) := by
  refine ⟨fun pins s σ H Q I h => ?_⟩
  rw [eval_ListComp]
  have hfree : ∀ y ∈ scope.names, y.2 = .free → ∃ c, X.env.cells.lookup y.1 = some c := fun y hy e => by
    rcases ok.free y hy e with k | k
    · exact I.ok.has _ (.inl k)
    · exact I.ok.has _ (.inr k)
  refine wpAny_comprehension_free (use := none) rfl hs (closure_ok hfree) ok.kind (fun y hy e => by rw [ok.uniq y hy, e])
    (thn (hx.run pins s σ H _ I h) fun u s1 hu => ?_)
  obtain ⟨Hc, sc, Ic, a, g, c, rfl, ha1, ha2, hgen, hgs, hos, hbare, hlim, hkeep, wake⟩ := hu
  refine wpAny_pyIter_gen hgen ?_
  refine wpAny_newObj_type (newEnv_comp ?_) (by show 0 ≤ sizeLine; decide)
  generalize hD : s1.heap.objs.size = D
  have hsc1 : sc.heap.objs.size ≤ s1.heap.objs.size := Nat.le_trans ha1 (Nat.le_of_lt ha2)
  generalize hs3 : ({ s1 with heap := s1.heap.push { cls := .type "list", data := .seq ([] : List Value).toArray } } : Shared) = s3
  have h3 : s3.heap = s1.heap.push { cls := .type "list", data := .seq ([] : List Value).toArray } := by rw [← hs3]
  have sz3 : s3.heap.objs.size = D + 1 := by rw [h3, Heap.size_push, hD]
  rw [hpc]
  have hL0 : s3.heap.objs.size = s3.heap.objs.size := rfl
  show codeAny _ _ (.compStart (.ListComp (.Name x p1) [⟨.Tuple [.Name x p2, .Name y p3] tk tp, iter, [], 0⟩] scope pos) 0 (.ref a) (.ref D) (compEnvC scope (cellsFrom (s3.heap.objs.size + 1) scope.names (cloFrom X.env.cells scope.names [])) s3.heap.objs.size X.env)) (compPost (model X.prog X.w) X.A X.xe none (EP X pins σ Q) (.ref D) s3.heap.objs.size) { s3 with heap := s3.heap.push { cls := .type "dict", data := .dict #[] } }
  generalize hL : s3.heap.objs.size = L
  have hDL : D < L := by rw [← hL, sz3]; exact Nat.lt_succ_self _
  have hk := hkx L (cellsFrom (L + 1) scope.names (cloFrom X.env.cells scope.names []))
  have hk2 := hky L (cellsFrom (L + 1) scope.names (cloFrom X.env.cells scope.names []))
  have hf := hfk L (cellsFrom (L + 1) scope.names (cloFrom X.env.cells scope.names []))
  generalize hce : compEnvC scope (cellsFrom (L + 1) scope.names (cloFrom X.env.cells scope.names [])) L X.env = ce at hk hk2 hf ⊢
  have cL : ce.locals = L := by subst hce; rfl
  have hcls : (ce.scope.kind == .class || (ce.scope.kind == .module && ce.locals != ce.globals)) = false := by rw [hf]; rfl
  generalize hs4 : ({ s3 with heap := s3.heap.push { cls := .type "dict", data := .dict #[] } } : Shared) = s4
  have k14 : ∀ b o, s1.heap.get? b = some o → s4.heap.get? b = some o := fun b o e => by
    rw [← hs4]
    refine Heap.get?_push_of_some _ ?_
    show s3.heap.get? b = some o
    rw [h3]
    exact Heap.get?_push_of_some _ e
  have hD4 : s4.heap.get? D = some (lstObj #[] 0) := by
    rw [← hs4]
    refine Heap.get?_push_of_some _ ?_
    show s3.heap.get? D = some (lstObj #[] 0)
    rw [h3, ← hD]
    exact Heap.get?_push_size _ rfl
  have hL4 : s4.heap.get? L = some { cls := .type "dict", data := .dict #[] } := by
    rw [← hs4, ← hL]
    exact Heap.get?_push_size _ rfl
  have hoL : ∀ h : Heap, h.get? L = some { cls := .type "dict", data := .dict #[] } → ∃ m, h.Ns L m := fun h e => by
    refine ⟨fun _ => none, ?_⟩
    have n0 := Heap.Ns.new s3.heap (.type "dict")
    rw [hL] at n0
    refine n0.at' fun o eo => ?_
    have : (s3.heap.push { cls := .type "dict", data := .dict #[] }).get? L = some { cls := .type "dict", data := .dict #[] } := by
      rw [← hL]; exact Heap.get?_push_size _ rfl
    rw [this] at eo
    cases eo
    exact e
  have yfr : ∀ q, sc.heap.objs.size ≤ q → ∀ b ∈ frs X.stack, b ≠ q := fun q hq b hb z => by
    rcases List.mem_cons.mp (Ic.stkSub b hb) with e | e
    · have := Ic.lt
      rw [← e, z] at this
      exact absurd (Nat.lt_of_lt_of_le this hq) (Nat.lt_irrefl _)
    · rw [z] at e
      exact Ic.nofs hq e
  have ysc : ∀ q, sc.heap.objs.size ≤ q → ∀ b o, sc.heap.get? b = some o → b ≠ q := fun q hq b o e z => by
    have h1 := Heap.lt_size e
    rw [z] at h1
    exact absurd (Nat.lt_of_lt_of_le h1 hq) (Nat.lt_irrefl _)
  have ycs : ∀ q, sc.heap.objs.size ≤ q → cStatics ≠ q := fun q hq z => by
    obtain ⟨_, hn, _⟩ := Ic.nolimit
    have h1 := hn.lt
    rw [z] at h1
    exact absurd (Nat.lt_of_lt_of_le h1 hq) (Nat.lt_irrefl _)
  have hDs : sc.heap.objs.size ≤ D := by rw [← hD]; exact hsc1
  have hLs : sc.heap.objs.size ≤ L := Nat.le_trans hDs (Nat.le_of_lt hDL)
  have haD : a ≠ D := by rw [← hD]; exact Nat.ne_of_lt ha2
  have haL : a ≠ L := fun z => by
    rw [z] at ha2
    rw [hD] at ha2
    exact absurd (Nat.lt_trans ha2 hDL) (Nat.lt_irrefl _)
  have hLD : L ≠ D := Nat.ne_of_gt hDL
  have hos4 : s4.os = sc.os := by rw [← hs4, ← hs3]; exact hos
  have hb4 : AllBare s4.gens := by rw [← hs4, ← hs3]; exact hbare
  have hg4 : s4.gens[g]? = some (.fresh c) := by rw [← hs4, ← hs3]; exact hgs
  let pn : List (Addr × Obj) := [(D, lstObj #[] 0), (L, { cls := .type "dict", data := .dict #[] })]
  let Gh : Gho := GhS X.prog X.w X.stack Hc sc a g D L Q
  let cont : List V → Hp → Prop := fun out H2 => out.length < sizeLine ∧ ∃ ws, Fsts H2 out ws ∧ ∀ p, H2 p = none → Q (.ref p) (upd H2 p (.lst ws))
  have loop : codeAny (model X.prog X.w) X.A (.compLoop (.ListComp (.Name x p1) [⟨.Tuple [.Name x p2, .Name y p3] tk tp, iter, [], 0⟩] scope pos) 0 (.ref a) (.ref D) ce) (compPost (model X.prog X.w) X.A X.xe none (EP X pins σ Q) (.ref D) L) s4 := by
    refine compLoop_any (fun n s' => ∃ gs, s'.gens[g]? = some gs ∧ gs.Goes (model X.prog X.w) X.A.in1 (RLs X.prog X.w X.stack Hc sc a g pn cont Gh) (YLs X.prog X.w X.stack Hc sc a g pn cont Gh) n (.send .none) (s'.setGen g .running) ∧ s'.heap.IsGen a g ∧ s'.heap.NoLimit) ?_ sizeLine ⟨_, hg4, ⟨rfl, ?_⟩, hgen.keeps k14, hlim.keeps k14⟩
    · rintro n s' ⟨gs, hgs', hgo, hg', hl'⟩
      have hgl : g < s'.gens.size := (Array.getElem?_eq_some_iff.mp hgs').1
      have hroom : X.A.depth < recursionLimit := by have := hr.dp; omega
      refine wpAny_gsz (n := g + 1) hgl (next_genG (A := X.A) hr.hd hl' hroom hg' hgs' (F := fun _ _ s1 => ∃ (xs : List V) (H1 : Hp) (it l : Addr) (its : List Value), LDat sc a pn cont xs H1 it l its ∧ Bfr X.prog X.w X.stack Hc sc a g pn Gh xs H1 it xs.length s1) (Er := fun _ _ => False) hgo (fun v s₁ gs' hbare hv => ?_) (fun s₁ hp h' hk => ?_) (fun e s₁ he => he.elim))
      · intro hsz
        cases n with
        | zero =>
          obtain ⟨xs, H1, it, l, its, j, x0, hn, hDl, hxj, _⟩ := hv
          have q1 := hDl.q.1
          have q2 := (List.getElem?_eq_some_iff.mp hxj).1
          omega
        | succ n =>
          obtain ⟨xs, H1, it, l, its, j, x0, hn, hDl, hxj, rv, hB, hit, hlst, hkap⟩ := hv
          have G : GhS X.prog X.w X.stack Hc sc a g D L Q xs H1 j s₁ := GhS.of (pn := pn) rfl hoL (yfr it hDl.young) (ycs it hDl.young) (ysc it hDl.young) hDl hB
          have hsz1 : g < s₁.gens.size := by
            have q : (s₁.setGen g gs').gens.size = s₁.gens.size := setGen_size _ _ _
            have hsz' : g + 1 ≤ (s₁.setGen g gs').gens.size := hsz
            omega
          have G2 := G.gens (g' := g) hbare
          have hgg : (s₁.setGen g gs').gens[g]? = some gs' := setGen_at hsz1
          have hit2 : (s₁.setGen g gs').heap.IsListIter it l (j + 1) := hit
          have hls2 : (s₁.setGen g gs').heap.IsList l its.toArray := hlst
          generalize s₁.setGen g gs' = T0 at G2 hgg hit2 hls2 ⊢
          obtain ⟨F0, hD1, hL1, ⟨m0, hns0⟩, acc, c0, ws, hDo, hF, hacc, hq⟩ := G2
          obtain ⟨ar, w1, z1, ex, har, hw⟩ := hF.2 j x0 hxj
          subst ex
          obtain rfl : v = Value.ref ar := rv
          obtain ⟨og, nm, qn, hog, hogc, hogd, hogs⟩ := id F0.gen
          refine go_of hog hogc hogd (by decide) ?_
          obtain ⟨hlen2, its2, rits2, ht2⟩ := F0.hok ar _ har
          obtain ⟨u1, u2, rfl, r1, r2⟩ : ∃ u1 u2, its2 = [u1, u2] ∧ RelV w1 u1 ∧ RelV z1 u2 := by
            cases rits2 with
            | cons r1 t1 =>
              cases t1 with
              | cons r2 t2 =>
                cases t2
                exact ⟨_, _, rfl, r1, r2⟩
          refine assign_Tuple_tuple hr.hd ht2 rfl rfl fun h1 hx1 => ?_
          show wpAny _ _ (assignInOrder [assign (.Name x p2) ce, assign (.Name y p3) ce] [u1, u2]) _ _ _
          have kk1 : ∀ b o, T0.heap.get? b = some o → h1.get? b = some o := fun b o e => hx1 b o (Nat.ne_of_lt (Heap.lt_size e)) e
          have hns1 : h1.Ns ce.locals m0 := by rw [cL]; exact hns0.at' fun o e => kk1 _ o e
          refine assignInOrder_cons (wpAny_assign_Name (wpAny_storeName_local hk hns1 (fun h2 hns2 hs2 => ?_) hcls))
          refine assignInOrder_cons (wpAny_assign_Name (wpAny_storeName_local hk2 hns2 (fun h3' hns3 hs3' => assignInOrder_nil ?_) hcls))
          refine wpAny_tests_nil ?_
          rw [if_pos rfl]
          refine wpAny_Name (wpAny_loadName_local hf hk hns3 (v := u1) (by simp [hxy]) ?_) hd
          have kk3 : ∀ b o, b ≠ L → T0.heap.get? b = some o → h3'.get? b = some o := fun b o hb e => by
            have hb' : b ≠ ce.locals := by rw [cL]; exact hb
            exact (hs3'.2 b hb').trans ((hs2.2 b hb').trans (kk1 b o e))
          have hDo3 : h3'.get? D = some (lstObj acc c0) := kk3 D _ (Ne.symm hLD) hDo
          have haz : acc.size < sizeLine := by
            have e1 := hacc.length
            have e2 : acc.toList.length = acc.size := by simp
            have e3 : (ws.take j).length ≤ j := by rw [List.length_take]; exact Nat.min_le_left _ _
            have q1 := hDl.q.1
            have q2 := (List.getElem?_eq_some_iff.mp hxj).1
            omega
          refine append_at hDo3 (fun h5 sb5 ho5 => ?_) (Nat.le_of_lt haz)
          have kk5 : ∀ b o, b ≠ L → b ≠ D → T0.heap.get? b = some o → h5.get? b = some o := fun b o hb hb2 e => (sb5.2 b hb2).trans (kk3 b o hb e)
          have F3 : First X.prog X.w X.stack Hc sc a g [] H1 { T0 with heap := h3', toks := T0.toks + 1 + 1 } := F0.turn (it := L) kk3 hL1 (ysc L hLs) (yfr L hLs) haL (ycs L hLs)
          have F5 : First X.prog X.w X.stack Hc sc a g [] H1 { T0 with heap := h5, toks := T0.toks + 1 + 1 } := First.turn (s1 := { T0 with heap := h3', toks := T0.toks + 1 + 1 }) (it := D) F3 (fun b o hb e => (sb5.2 b hb).trans e) hD1 (ysc D hDs) (yfr D hDs) haD (ycs D hDs)
          have nli : l ≠ D := fun z => by
            have := hDl.lst
            rw [z, hD1] at this; cases this
          have nlL : l ≠ L := fun z => by
            have := hDl.lst
            rw [z, hL1] at this; cases this
          have niD : it ≠ D := Ne.symm (hDl.apart (D, lstObj #[] 0) (by simp [pn]))
          have niL : it ≠ L := Ne.symm (hDl.apart (L, { cls := .type "dict", data := .dict #[] }) (by simp [pn]))
          have hit5 : h5.IsListIter it l (j + 1) := by
            obtain ⟨o, ho, r⟩ := hit2
            exact ⟨o, kk5 _ o niL niD ho, r⟩
          have hls5 : h5.IsList l its.toArray := by
            obtain ⟨o, ho, r⟩ := hls2
            exact ⟨o, kk5 _ o nlL nli ho, r⟩
          have hns5 : ∃ m, h5.Ns L m := ⟨_, (cL ▸ hns3).at' fun o e => (sb5.2 L hLD).trans e⟩
          refine ⟨n, Nat.lt_succ_self n, gs', hgg, hkap _ ?_ hit5 hls5, F5.gen, F5.lim⟩
          refine GhS.gens (s1 := { T0 with heap := h5, toks := T0.toks + 1 + 1 }) ⟨F5, hD1, hL1, hns5, acc.push u1, c0 + 1, ws, ho5, hF, ?_, hq⟩ rfl
          rw [Array.toList_push, List.take_add_one, hw]
          exact hacc.append (.cons r1 .nil)
      · intro hsz
        obtain ⟨xs, H1, it, l, its, hDl, hB⟩ := hp
        have G : GhS X.prog X.w X.stack Hc sc a g D L Q xs H1 xs.length s₁ := GhS.of (pn := pn) rfl hoL (yfr it hDl.young) (ycs it hDl.young) (ysc it hDl.young) hDl hB
        have G2 := G.gens (g' := g) (x := .finished) rfl
        obtain ⟨F0, hD1, hL1, ⟨m0, hns0⟩, acc, c0, ws, hDo, hF, hacc, hq⟩ := G2
        refine ⟨m0, hns0.at' fun o e => hk _ o e, fun h'' sb => ?_⟩
        have F1 : First X.prog X.w X.stack Hc sc a g [] H1 { s₁.setGen g .finished with heap := h'', toks := s₁.toks } := First.turn (it := L) F0 (fun b o hb e => (sb.2 b hb).trans (hk b o e)) hL1 (ysc L hLs) (yfr L hLs) haL (ycs L hLs)
        rw [List.take_of_length_le (Nat.le_of_eq hF.1.symm)] at hacc
        have hl : ws.length ≤ sizeLine := by rw [← hF.1]; exact Nat.le_of_lt hDl.q.1
        exact ⟨.ref D, upd H1 D (.lst ws), Ic.drained hDs hl ((sb.2 D (Ne.symm hLD)).trans (hk _ _ hDo)) hacc ExOk.nil F1.os F1.bare F1.un F1.hok hD1, rfl, hq D hD1⟩
    · refine wake X.A.in1 Gh pn _ ⟨hr.hd, ?_, ?_⟩ Ic.ok.frames k14 (fun p hp => ?_) hos4 (allBare_setGen hb4 rfl)
      · have := hr.dp
        show X.A.depth + 3 * k + 5 < _
        omega
      · have := hr.un
        show X.A.units + 1 + 16 * k + 200 < _
        omega
      · rcases List.mem_cons.mp hp with z | z
        · rw [z]
          exact ⟨hD4, by rw [← hD]; exact Nat.le_refl _, fun v q => by cases q⟩
        · rw [List.mem_singleton.mp z]
          exact ⟨hL4, by rw [hD]; exact Nat.le_of_lt hDL, fun v q => by cases q⟩
  exact codeAny_compStart_list loop (wpAny_pyIter_gen (hgen.keeps k14) loop)
end
end L2
end
section
set_option Elab.async false
set_option linter.all false
set_option maxRecDepth 100000
set_option maxHeartbeats 4000000
namespace L2
open PySem PySem.Spec PyProof.Rows GenW
theorem run_lfn {X : Cx} {k : Nat} {f : Addr} {fd : FuncData} {ps : List Str} {sp : SpL} {pins : List (Addr × Obj)} {σ : L2.St} {H : Hp} {s : Shared} {us : List Value} {vs : List V} {cont : List V → Hp → Prop} {E1 : Value → Shared → Prop} (F : LFn X.prog X.w X.K X.mg X.base k f fd ps sp) (hr : Room k X.A) (hb : Binds X.K fd ps [])
    (I : Inv X pins σ H s) (r : Vals vs us) (h : sp vs H cont) :
    wpAny (model X.prog X.w) X.A (call (.ref f) us) (fun u s' => ∃ H1 sc, Inv X pins σ H1 sc ∧ LMade X.prog X.w k X.stack H1 sc cont u s') E1 s := by
  have hl2 : (us ++ ([] : List Value)).length = ps.length := by rw [List.append_nil, ← r.length]; exact F.len _ _ _ h
  have hb' := hb s us I.kIn hl2
  rw [List.append_nil] at hb'
  refine wpAny_call (codeAny_mono (F.run X.A X.stack s H ⟨us, []⟩ us vs cont hr I.env0 hb' r h) fun r s' hq => ?_)
  cases r with
  | error e => exact False.elim hq
  | ok fl =>
    cases fl with
    | ret u => exact ⟨H, s, I, hq⟩
    | next => exact False.elim hq
    | brk => exact False.elim hq
    | cont => exact False.elim hq
def tMethL (C : Addr) (m : Str) (sp : SpL) (ta : TE) (t : TA) : TGen := fun σ H cont => ta σ H fun x H1 => ∃ a dx fs, x = .ref a ∧ H1 a = some (.ins C dx fs) ∧ fs.lookup m = none ∧
  t σ H1 fun vs H2 => sp (x :: vs) H2 cont
theorem pl_meth {X : Cx} {k : Nat} {f C : Addr} {fd : FuncData} {ps : List Str} {sp : SpL} {m : Str} {pos' apos : Pos} {o e : Expr} {ta : TE} {pl : Sem Bool} {es : List Expr} {t : TA} (he : PE X o ta) (c : Cls X.K C) (hm : Meth X.K C m f) (F : LFn X.prog X.w X.K X.mg X.base k f fd ps sp) (hr : Room k X.A) (hb : Binds X.K fd ps []) (ha : PA X (e :: es) t)
    (hst : starEach (e :: es) X.env = (false, eval e X.env) :: starEach es X.env := by rfl) (hpl : (backTo pos' (starEach es X.env)).any (·.1) = false := by rfl)
    (ht : eval (.Call (.Attribute o m apos) (e :: es) [] pos') X.env = (do
      let ov ← eval o X.env
      standAt apos.atName
      let (f, first) ← holding [ov] (getMethod ov m pl)
      callWith pos' f first (backTo pos' (starEach (e :: es) X.env)) (backToKw pos' (keywordEach [] X.env))) := by rfl) :
    PL X k (.Call (.Attribute o m apos) (e :: es) [] pos') (tMethL C m sp ta t) := by
  refine ⟨fun pins s σ H cont I h => ?_⟩
  refine PySem.W.methodCall_KW (pl := pl) (thn (he.run pins s σ H _ I h) fun u s1 ⟨x, H1, I1, rx, a, dx, fs, ex, ea, l, q⟩ => ?_) ht
  subst ex
  obtain rfl : u = Value.ref a := rx
  refine getmeth_ok I1 ea c hm l ?_
  refine PySem.W.callWith_K (first := [.ref a]) (h₀ := X.base) I.ok.mod.kin hm.kp (thn (ha.run pos' pins s1 σ H1 _ I1 q) fun us s2 ⟨vs, H2, I2, r, q2⟩ => ⟨I2.kIn, ?_⟩) hst hpl
  exact run_lfn (us := .ref a :: us) (vs := .ref a :: vs) F hr hb I2 (.cons rfl r) q2
end L2
namespace K67
open PySem PySem.Spec PyProof.Rows L2
theorem gsc_TwoPass_walk : GScope ["self", "text"] ["self", "text"] (defScope s_TwoPass_walk) := ⟨rfl, rfl, rfl, by decide +kernel, rfl, by decide +kernel, by decide +kernel⟩
def spWalkL (T : Cls3) : SpL := fun vs H Q => ∃ t z ls, vs = [.ref t, .str z] ∧ IsTwo T H t ls ∧ isT (.str z) = true ∧ over z ls = true ∧
  ∀ H' rs, Same H H' → rs.length ≤ 1002 → (∀ r ∈ rs, PairW H' r) → Q rs H'
/-- the method walk as a callee -/
structure WalkCal (P : Program) (w : World) (K : PySem.W.Frag) (mg : Str → Option Value) (base : Heap) (k : Nat) (T : Cls3) : Prop where
  ex : ∃ (f : Addr) (fd : FuncData) (ps : List Str), LFn P w K mg base k f fd ps (spWalkL T) ∧ Meth K T.t "walk" f ∧ Cls K T.t ∧ Binds K fd ps []
section
variable {P : Program} {w : World} {K : PySem.W.Frag} {mg : Str → Option Value} {base : Heap} {T : Cls3}
theorem ok_walk (cf : CF K T) {f : Addr} {fd : FuncData} {CT CO : Addr} (F : FnP K "walk" "TwoPass.walk" s_TwoPass_walk f fd) (c1 : Cal P w K mg base (L2.CX P w) 4 "require_rest" (spRest K CT CO)) (c2 : Cal P w K mg base CX0 2 "walk_in" (spWalkIn T)) :
    LFn P w K mg base 5 f fd ["self", "text"] (spWalkL T) := by
  obtain ⟨oc, od, dV, kV, doc, pm, an, cdv, ct, osl, rfl, lk, hcd, hD, hK⟩ := F.ex
  refine lfn_of lk hcd gsc_TwoPass_walk (fun _ => rfl) (fun vs H Q h => ?_) fun A outer s H vs Q pn hr h => ?_
  · obtain ⟨t, z, ls, rfl, _⟩ := h
    rfl
  · obtain ⟨t, z, ls, rfl, ht, htx, ho, q⟩ := h
    refine ⟨_, _, ps_expr (pe_c c1 hr (by decide) (by rfl) (E := E0) passL (pa_cons (pv 0) (pa_cons (pv 1) pa_nil))), pe_c c2 hr (by decide) (by rfl) (E := E0) pass0 (pa_cons (pv 0) (pa_cons (pv 1) pa_nil)), ?_⟩
    obtain ⟨p, hp⟩ := id ht
    have hl : HasL K H t ls := ⟨T.t, p.dx, _, hp.obj, cf.it.cl, cf.nt _ (by decide +kernel), rfl⟩
    refine ⟨_, rfl, _, rfl, t, ls, .str z, rfl, hl, True.intro, sz60 (by have := isT_short htx; omega), fun e => absurd (e.symm.trans htx) Bool.false_ne_true, fun z' e _ e2 => ?_, fun z' e _ _ H1 sm => ?_⟩
    · cases e
      exact absurd (e2.symm.trans ho) Bool.false_ne_true
    · refine ⟨_, rfl, _, rfl, t, z, ls, rfl, ht.same sm, ho, by have := isT_short htx; omega, (by
        have h' : (decide ((z.length : Int) ≤ 60) && wordB z) = true := htx
        rw [Bool.and_eq_true] at h'
        exact h'.2), fun H2 p2 rs sm2 _ hp2 hl2 hpw => ?_⟩
      exact ⟨p2, rs, rfl, hp2, q H2 rs (sm.trans sm2) hl2 hpw⟩
end
def SPW (T : Cls3) : List V → Hp → VK → Prop := fun vs H Q => ∃ t z ls, vs = [.ref t, .str z] ∧ IsTwo T H t ls ∧ isT (.str z) = true ∧ over z ls = true ∧
  ∀ H' p (ws : List Str), Same H H' → H p = none → H' p = some (.lst (ws.map V.str)) → ws.length ≤ 1002 → (∀ x ∈ ws, x.length ≤ 1 ∧ PyData.strOk x = true) → Q (.ref p) H'
def tLcW (T : Cls3) (ta : TE) (t : TA) : TE := fun σ H Q => ta σ H fun x H1 => ∃ a dx fs, x = .ref a ∧ H1 a = some (.ins T.t dx fs) ∧ fs.lookup ("walk" : Str) = none ∧ t σ H1 fun vs H2 => SPW T (x :: vs) H2 Q
theorem fsts_of {H : Hp} : ∀ {rs : List V}, (∀ r ∈ rs, PairW H r) → ∃ ws : List Str, Fsts H rs (ws.map V.str) ∧ ws.length = rs.length ∧ ∀ x ∈ ws, x.length ≤ 1 ∧ PyData.strOk x = true
  | [], _ => ⟨[], ⟨rfl, fun i r h => by simp at h⟩, rfl, fun x h => by simp at h⟩
  | r :: rs, h => by
    obtain ⟨ws, ⟨h1, h2⟩, h3, h4⟩ := fsts_of (fun x hx => h x (List.mem_cons_of_mem _ hx))
    obtain ⟨a, z, y, e, ha, hz, hs⟩ := h r (List.mem_cons_self ..)
    refine ⟨z :: ws, ⟨by simp [h3], fun i r' hi => ?_⟩, by simp [h3], fun x hx => ?_⟩
    · cases i with
      | zero =>
        have e' : r' = r := by simpa using hi.symm
        subst e'
        exact ⟨a, .str z, y, e, ha, rfl⟩
      | succ i =>
        obtain ⟨a', w', z', e1, e2, e3⟩ := h2 i r' (by simpa using hi)
        exact ⟨a', w', z', e1, e2, by simpa using e3⟩
    · rcases List.mem_cons.mp hx with rfl | hx
      · exact ⟨hz, hs⟩
      · exact h4 x hx
theorem pe_mono {X : Cx} {e : Expr} {t t' : TE} (h : PE X e t) (m : ∀ σ H Q, t' σ H Q → t σ H Q) : PE X e t' := ⟨fun pins s σ H Q I hq => h.run pins s σ H Q I (m σ H Q hq)⟩
/-- an argument list's reading may be weakened -/
def AMono (t : TA) : Prop := ∀ σ H (Q Q' : List V → Hp → Prop), (∀ vs H', Q vs H' → Q' vs H') → t σ H Q → t σ H Q'
def EMono (t : TE) : Prop := ∀ σ H (Q Q' : VK), (∀ v H', Q v H' → Q' v H') → t σ H Q → t σ H Q'
theorem pe_lcWalk {X : Cx} {T : Cls3} {k j : Nat} {o e : Expr} {es : List Expr} {scope : Scope} {own : List (Str × Nat)} {pos p1 p2 p3 tp apos cpos : Pos} {tk : Nat} {ta : TE} {t : TA} {pl : Sem Bool} (c : WalkCal X.prog X.w X.K X.mg X.base k T) (hr : Room j X.A) (hk : k + 3 ≤ j) (hc : X.calm = true) (hN : X.N.Nodup) (ho : PE X o ta) (ha : PA X (e :: es) t)
    (ok : BlkOk X.N X.env.scope scope own) (mo : EMono ta) (ma : AMono t)
    (hs : ∀ x, foldedSetIterable (.Call (.Attribute o "walk" apos) (e :: es) [] cpos) X.env x = pure x := by intro _; rfl) (hpc : ∀ h, pushCells h scope.names = h := by intro _; rfl)
    (hkx : ∀ L cl, (compEnvC scope cl L X.env).kindOf "word" = some .local := by intro _ _; rfl) (hky : ∀ L cl, (compEnvC scope cl L X.env).kindOf "state" = some .local := by intro _ _; rfl) (hfk : ∀ L cl, (compEnvC scope cl L X.env).scope.kind = .function := by intro _ _; rfl)
    (hst : starEach (e :: es) X.env = (false, eval e X.env) :: starEach es X.env := by rfl) (hpl : (backTo cpos (starEach es X.env)).any (·.1) = false := by rfl)
    (ht : eval (.Call (.Attribute o "walk" apos) (e :: es) [] cpos) X.env = (do
      let ov ← eval o X.env
      standAt apos.atName
      let (f, first) ← holding [ov] (getMethod ov "walk" pl)
      callWith cpos f first (backTo cpos (starEach (e :: es) X.env)) (backToKw cpos (keywordEach [] X.env))) := by rfl) : PE X (.ListComp (.Name "word" p1) [⟨.Tuple [.Name "word" p2, .Name "state" p3] tk tp, .Call (.Attribute o "walk" apos) (e :: es) [] cpos, [], 0⟩] scope pos) (tLcW T ta t) := by
  obtain ⟨f, fd, ps, F, hm, cl, b⟩ := c.ex
  refine pe_mono (pe_lcG (pl_meth ho cl hm F (hr.mono (by omega)) b ha hst hpl ht) hr hk hc ok hs hpc hkx hky hfk) fun σ H Q h => ?_
  refine mo _ _ _ _ (fun x H1 h1 => ?_) h
  obtain ⟨a, dx, fs, rfl, h2, h3, h4⟩ := h1
  refine ⟨a, dx, fs, rfl, h2, h3, ma _ _ _ _ (fun vs H2 h5 => ?_) h4⟩
  obtain ⟨t0, z, ls, ev, hm, hz, ho, q⟩ := h5
  refine ⟨t0, z, ls, ev, hm, hz, ho, fun H' rs sm hl hpw => ?_⟩
  obtain ⟨ws, hf, hwl, hw⟩ := fsts_of hpw
  refine ⟨Nat.lt_of_le_of_lt hl (by decide), ws.map V.str, hf, fun p hp => ?_⟩
  exact q _ p ws (sm.trans (same_upd hp)) (fresh_of sm hp) upd_same (by rw [hwl]; exact hl) hw
end K67
end
section
set_option Elab.async false
set_option linter.all false
set_option maxRecDepth 100000
set_option maxHeartbeats 4000000
namespace K67
open PySem PySem.Spec PyProof.Rows L2
/-! ### editors -/
/-- all but the object at e stands -/
def SameE (e : Addr) (H H' : Hp) : Prop := ∀ b o, b ≠ e → H b = some o → H' b = some o
theorem SameE.refl {e : Addr} {H : Hp} : SameE e H H := fun _ _ _ h => h
theorem SameE.trans {e : Addr} {H H1 H2 : Hp} (a : SameE e H H1) (b : SameE e H1 H2) : SameE e H H2 := fun c o n h => b c o n (a c o n h)
theorem SameE.of {e : Addr} {H H' : Hp} (s : Same H H') : SameE e H H' := fun b o _ h => s b o h
theorem SameE.put {e : Addr} {H H' : Hp} {o : HO} (s : SameE e H H') : SameE e H (upd H' e o) := fun b u n h => by
  rw [upd_ne n]
  exact s b u n h
/-- what stands untouched by e's changes -/
structure EdF where
  past : Addr
  undone : Addr
  before : Addr
  m : Addr
  t : Str
  marks : Addr
  words : Addr
  res : V
def edF (s : EdF) : List (Str × V) := [("own_past", .ref s.past), ("own_undone", .ref s.undone), ("own_before", .ref s.before), ("own_machine", .ref s.m), ("own_text", .str s.t), ("own_marks", .ref s.marks), ("own_words", .ref s.words), ("own_result", s.res)]
/-- behind show -/
def shF (m : Addr) (t : Str) (mk wd : Addr) (r : V) (fs : List (Str × V)) : List (Str × V) :=
  putF "own_result" r (putF "own_words" (.ref wd) (putF "own_marks" (.ref mk) (putF "own_text" (.str t) (putF "own_machine" (.ref m) fs))))
theorem two_sameE {T : Cls3} {H H' : Hp} {t e : Addr} {ls : Str} {p : Parts} (h : TwoAt T H t ls p) (s : SameE e H H') {dxe : Addr} {fs : List (Str × V)} (he : H e = some (.ins T.e dxe fs)) (n1 : T.t ≠ T.e) (n2 : T.m ≠ T.e) : TwoAt T H' t ls p := by
  have ne : ∀ b o, H b = some o → (∀ d f, o ≠ .ins T.e d f) → H' b = some o := fun b o hb hn => s b o (fun e1 => by
    rw [e1, he] at hb
    exact hn dxe fs (Option.some.inj hb).symm) hb
  obtain ⟨h1, ⟨dx, sd, g, nl, m1, m2, m3, m4⟩, h3, h4, h5, h6, h7, h8, h9⟩ := h
  have nt : ∀ d f dx2 fs2, (HO.ins T.t dx2 fs2) ≠ .ins T.e d f := fun d f dx2 fs2 q => by
    injection q with q1
    exact n1 q1
  have nm : ∀ d f dx2 fs2, (HO.ins T.m dx2 fs2) ≠ .ins T.e d f := fun d f dx2 fs2 q => by
    injection q with q1
    exact n2 q1
  exact ⟨ne _ _ h1 (fun d f => nt d f _ _), ⟨dx, sd, g, nl, ne _ _ m1 (fun d f => nm d f _ _), ne _ _ m2 (fun _ _ q => by cases q), ne _ _ m3 (fun _ _ q => by cases q), ne _ _ m4 (fun _ _ q => by cases q)⟩, ne _ _ h3 (fun _ _ q => by cases q), ne _ _ h4 (fun _ _ q => by cases q), ne _ _ h5 (fun _ _ q => by cases q), h6, fun q hq => ne _ _ (h7 q hq) (fun _ _ q => by cases q), ne _ _ h8 (fun _ _ q => by cases q), ne _ _ h9 (fun _ _ q => by cases q)⟩
section
variable {P : Program} {w : World} {K : PySem.W.Frag} {mg : Str → Option Value} {base : Heap} {T : Cls3}
/-! ### version -/
def spVersion (T : Cls3) : Sp := fun vs H Q _ => ∃ e dx fs m t, vs = [.ref e] ∧ H e = some (.ins T.e dx fs) ∧ fs.lookup ("own_machine" : Str) = some m ∧ fs.lookup ("own_text" : Str) = some t ∧ ∀ p, H p = none → Q (.ref p) (upd H p (.tup [m, t]))
theorem ok_version (cf : CF K T) {f : Addr} {fd : FuncData} (F : FnP K "version" "Editor.version" s_Editor_version f fd) : FnOk P w K mg base CX0 1 f fd ["self"] (spVersion T) := by
  have S := sc_Editor_version
  refine ok0 F S (fun vs H Q E h => ?_) (fun cdv A outer s H vs Q E hr h => ?_)
  · obtain ⟨e, dx, fs, m, t, rfl, _⟩ := h
    rfl
  · obtain ⟨e, dx, fs, m, t, rfl, he, l1, l2, q⟩ := h
    refine ⟨_, (pss_one (ps_ret (pe_tup (pa_cons (pe_fldK (K := K) rfl (pv 0) rfl) (pa_cons (pe_fldK (K := K) rfl (pv 0) rfl) pa_nil))))), ?_⟩
    refine ⟨_, rfl, e, T.e, dx, fs, m, rfl, he, cf.ie.cl, cf.ne _ (by decide +kernel), l1, ?_⟩
    exact ⟨_, rfl, e, T.e, dx, fs, t, rfl, he, cf.ie.cl, cf.ne _ (by decide +kernel), l2, by show 2 ≤ sizeLine; decide, q⟩
/-! ### show -/
def spShow (T : Cls3) : Sp := fun vs H Q _ => ∃ e dx fs ver m t ls, vs = [.ref e, .ref ver] ∧ H e = some (.ins T.e dx fs) ∧ fs.length ≤ 900 ∧ H ver = some (.tup [.ref m, .str t]) ∧ IsTwo T H m ls ∧ isT (.str t) = true ∧ over t ls = true ∧
  ∀ H' mk wd r, SameE e H H' → H mk = none → H wd = none → H' e = some (.ins T.e dx (shF m t mk wd r fs)) → (r = .non ∨ ∃ z, r = .str z) → Q .non H'
theorem putF_len (f : Str) (v : V) : ∀ fs : List (Str × V), (putF f v fs).length ≤ fs.length + 1
  | [] => by simp [putF]
  | (g, x) :: r => by
    unfold putF
    split
    · simp
    · have := putF_len f v r
      simp
      omega
theorem dpStrs {H : Hp} : ∀ ws : List Str, DpAll K H (ws.map V.str) (ws.map PyData.str)
  | [] => .nil
  | w :: ws => .cons (.str w) (dpStrs ws)
theorem canStrs : ∀ ws : List Str, (∀ x ∈ ws, PyData.strOk x = true) → PyData.canLayAll0 (ws.map PyData.str) = true
  | [], _ => rfl
  | w :: r, h => by simp [PyData.canLayAll0, PyData.canLay0, canStrs r (fun x hx => h x (List.mem_cons_of_mem _ hx)), h w (List.mem_cons_self ..)]
theorem depStrs : ∀ ws : List Str, PyData.depthAll (ws.map PyData.str) = 0
  | [] => rfl
  | _ :: r => by simp [PyData.depthAll, PyData.depth, depStrs r]
theorem shaped_strs (ws : List Str) (h : ∀ x ∈ ws, PyData.strOk x = true) : SeqAt.shaped (.tuple (ws.map PyData.str)) = true := by
  simp [SeqAt.shaped, PyData.canLay0, PyData.depth, canStrs ws h, depStrs]
theorem sum_le : ∀ ws : List Str, (∀ x ∈ ws, x.length ≤ 1) → (ws.map (·.length)).sum ≤ ws.length
  | [], _ => by simp
  | w :: ws, h => by
    have h1 := sum_le ws (fun x hx => h x (List.mem_cons_of_mem _ hx))
    have h2 := h w (List.mem_cons_self ..)
    simp
    omega
theorem ok_show (cf : CF K T) {f : Addr} {fd : FuncData} (F : FnP K "show" "Editor.show" s_Editor_show f fd) (B : BN mg) (c1 : Mth P w K mg base CX0 5 T.m "row" (spRow K T)) (c2 : WalkCal P w K mg base 5 T) : FnOk P w K mg base CX0 12 f fd ["self", "version"] (spShow T) := by
  have S := sc_Editor_show
  refine ok0 F S (fun vs H Q E h => ?_) (fun cdv A outer s H vs Q E hr h => ?_)
  · obtain ⟨e, dx, fs, ver, m, t, ls, rfl, _⟩ := h
    rfl
  · obtain ⟨e, dx, fs, ver, m, t, ls, rfl, he, hfs, hv, hm, ht, ho, q⟩ := h
    refine ⟨_, (pss_cons (ps_asg (pv 1) (pg_tup rfl (pgs_cons (pg_name (i := 2) S.nd rfl (Or.inl rfl)) (pgs_cons (pg_name (i := 3) S.nd rfl (Or.inl rfl)) pgs_nil))))
      (pss_cons (ps_fld (pv 0) (pv 2) rfl)
      (pss_cons (ps_fld (pv 0) (pv 3) rfl)
      (pss_cons (ps_fld (pv 0) (pe_m (pe_fldK (K := K) rfl (pv 2) rfl) c1 hr (by decide) (E := E0) pass0 (pa_cons (pv 3) pa_nil)) rfl)
      (pss_cons (ps_fld (pv 0) (pe_callTy call_tuple_of (by rfl) B.tuple (by decide +kernel) (pa_cons (pe_lcWalk (own := [("word", 4), ("state", 5)]) c2 hr (by decide) rfl S.nd (pv 2) (pa_cons (pv 3) pa_nil) (blkOk_by (N := ["self", "version", "machine", "text", "word", "state"]) (sc := defScope s_Editor_show) (by decide +kernel)) (fun σ H Q Q' m h => by obtain ⟨v, e, q⟩ := h; exact ⟨v, e, m _ _ q⟩) (fun σ H Q Q' m h => by obtain ⟨v, e, q⟩ := h; exact ⟨v, e, m _ _ q⟩)) pa_nil)) rfl)
      (pss_one (ps_fld (pv 0) (pe_ifExp (pt_cmpR (op_neD hr.units) (pe_fldK (K := K) rfl (pv 0) rfl) (pe_tup pa_nil) (nomark _)) (pe_join pe_str (pe_fldK (K := K) rfl (pv 0) rfl)) pe_non) rfl))))))), ?_⟩
    obtain ⟨p, hp⟩ := hm
    have cl := cf.ie.cl
    refine ⟨_, rfl, ver, _, rfl, SqT.of hv, rfl, _, _, rfl, ?_⟩
    refine ⟨_, _, rfl, ?_⟩
    refine ⟨rfl, ?_⟩
    -- the machine, the text
    refine ⟨_, rfl, _, rfl, e, T.e, dx, fs, rfl, he, cl, cf.ne _ (by decide +kernel), by omega, ?_⟩
    refine ⟨_, rfl, _, rfl, e, T.e, dx, _, rfl, upd_same, cl, cf.ne _ (by decide +kernel), by have := putF_len "own_machine" (.ref m) fs; omega, ?_⟩
    rw [upd_upd]
    have s1 : SameE e H (upd H e (.ins T.e dx (putF "own_text" (.str t) (putF "own_machine" (.ref m) fs)))) := SameE.put .refl
    have p1 := two_sameE hp s1 he cf.kits.te cf.kits.me
    obtain ⟨mdx, msd, mg2, mnl, hmo, _⟩ := id p1.marks
    have k1 := putF_len "own_machine" (.ref m) fs
    have k2 := putF_len "own_text" (.str t) (putF "own_machine" (.ref m) fs)
    -- the marks
    refine ⟨_, rfl, m, T.t, p.dx, _, _, rfl, p1.obj, cf.it.cl, cf.nt _ (by decide +kernel), rfl, p.m, mdx, _, rfl, hmo, rfl, _, rfl, p.m, t, ls, rfl, p1.marks, ht, ho, fun H2 mk sm2 hmk hmkl => ?_⟩
    have nmk : H mk = none := by
      have ne : mk ≠ e := fun q => by
        subst q
        rw [upd_same] at hmk
        cases hmk
      rwa [upd_ne ne] at hmk
    refine ⟨_, rfl, e, T.e, dx, _, rfl, sm2 _ _ upd_same, cl, cf.ne _ (by decide +kernel), by omega, ?_⟩
    have s2 : SameE e H (upd H2 e (.ins T.e dx (putF "own_marks" (.ref mk) (putF "own_text" (.str t) (putF "own_machine" (.ref m) fs))))) := SameE.put (s1.trans (.of sm2))
    have p2 := two_sameE hp s2 he cf.kits.te cf.kits.me
    have k3 := putF_len "own_marks" (.ref mk) (putF "own_text" (.str t) (putF "own_machine" (.ref m) fs))
    -- the words
    refine ⟨_, rfl, m, p.dx, _, rfl, p2.obj, rfl, _, rfl, m, t, ls, rfl, ⟨p, p2⟩, ht, ho, fun H3 lw ws sm3 hlw hlwl hln hws => ?_⟩
    refine ⟨lw, _, rfl, .inl ⟨SqL.of hlwl, fun wd hwd => ?_⟩⟩
    have he3 : upd H3 wd (.tup (ws.map V.str)) e = some (.ins T.e dx (putF "own_marks" (.ref mk) (putF "own_text" (.str t) (putF "own_machine" (.ref m) fs)))) := by
      have h3 := sm3 _ _ upd_same
      rw [upd_ne (ne_of_none h3 hwd)]
      exact h3
    have new : ∀ b, b ≠ e → H3 b = none → H b = none := fun b hb h => by
      cases eb : H b with
      | none => rfl
      | some o =>
        have := sm3 _ _ (s2 b o hb eb)
        rw [h] at this
        cases this
    have wde : wd ≠ e := fun q => by
      subst q
      have h3 := sm3 _ _ upd_same
      rw [h3] at hwd
      cases hwd
    refine ⟨_, rfl, e, T.e, dx, _, rfl, he3, cl, cf.ne _ (by decide +kernel), by omega, ?_⟩
    have k4 := putF_len "own_words" (.ref wd) (putF "own_marks" (.ref mk) (putF "own_text" (.str t) (putF "own_machine" (.ref m) fs)))
    have s4 : SameE e H (upd (upd H3 wd (.tup (ws.map V.str))) e (.ins T.e dx (putF "own_words" (.ref wd) (putF "own_marks" (.ref mk) (putF "own_text" (.str t) (putF "own_machine" (.ref m) fs)))))) := SameE.put ((s2.trans (.of sm3)).trans (.of (same_upd hwd)))
    have lw2 : ∀ r, List.lookup ("own_words" : Str) (putF "own_words" (.ref wd) r) = some (V.ref wd) := fun r => by rw [lookup_putF, if_pos rfl]
    have hwd4 : (upd (upd H3 wd (.tup (ws.map V.str))) e (.ins T.e dx (putF "own_words" (.ref wd) (putF "own_marks" (.ref mk) (putF "own_text" (.str t) (putF "own_machine" (.ref m) fs)))))) wd = some (.tup (ws.map V.str)) := by rw [upd_ne wde, upd_same]
    -- the result
    have fin : ∀ (H5 : Hp) (r : V), Same (upd (upd H3 wd (.tup (ws.map V.str))) e (.ins T.e dx (putF "own_words" (.ref wd) (putF "own_marks" (.ref mk) (putF "own_text" (.str t) (putF "own_machine" (.ref m) fs)))))) H5 → (r = .non ∨ ∃ z, r = .str z) →
        ∃ a C dx' fs', V.ref e = .ref a ∧ H5 a = some (.ins C dx' fs') ∧ Cls K C ∧ NoAttr K C "own_result" ∧ fs'.length < 1000 ∧ Q .non (upd H5 a (.ins C dx' (putF "own_result" r fs'))) := fun H5 r sm5 hr5 => by
      refine ⟨e, T.e, dx, _, rfl, sm5 _ _ upd_same, cl, cf.ne _ (by decide +kernel), by omega, ?_⟩
      exact q _ mk wd r (SameE.put (s4.trans (.of sm5))) nmk (new wd wde hwd) upd_same hr5
    refine ⟨_, rfl, e, T.e, dx, _, _, rfl, upd_same, cl, cf.ne _ (by decide +kernel), lw2 _, by show 0 ≤ sizeLine; decide, fun nl hnl => ?_⟩
    refine ⟨.tuple (ws.map PyData.str), .tuple [], .tup (SqT.of (by rw [upd_ne (ne_of_none hwd4 hnl)]; exact hwd4)) (dpStrs ws), .tup (SqT.of upd_same) .nil, shaped_strs ws (fun x hx => (hws x hx).2), by decide +kernel, _, rfl, ?_⟩
    cases eq : (!PyData.eqv (.tuple (ws.map PyData.str)) (.tuple [])) with
    | true =>
      refine iteT ⟨⟨_, rfl⟩, ?_⟩
      refine ⟨_, rfl, e, T.e, dx, _, _, rfl, same_upd hnl _ _ upd_same, cl, cf.ne _ (by decide +kernel), lw2 _, "", wd, ws, rfl, rfl, .inr (SqT.of (same_upd hnl _ _ hwd4)), ?_, ?_⟩
      · have : (ws.map (·.length)).sum ≤ ws.length := sum_le ws (fun x hx => (hws x hx).1)
        have e0 : ("" : Str).length = 0 := rfl
        rw [e0]
        omega
      · exact ⟨_, rfl, fin _ _ (same_upd hnl) (.inr ⟨_, rfl⟩)⟩
    | false => exact iteF ⟨_, rfl, fin _ _ (same_upd hnl) (.inl rfl)⟩
end
end K67
end
section
set_option Elab.async false
set_option linter.all false
set_option maxRecDepth 100000
set_option maxHeartbeats 4000000
namespace K67
open PySem PySem.Spec PyProof.Rows L2
/-- a class as a callee: dvs the defaults that fill up -/
structure Mak (P : Program) (w : World) (K : PySem.W.Frag) (mg : Str → Option Value) (base : Heap) (CX : CXT) (k : Nat) (x : Str) (C : Addr) (sp : Sp) (dvs : List V) : Prop where
  ex : ∃ (f : Addr) (fd : FuncData) (ps : List Str) (ds : List Value), Mk K C f ∧ FnOk P w K mg base CX k f fd ps sp ∧ mg x = some (.ref C) ∧ Binds K fd ps ds ∧ Vals dvs ds
section
variable {X : Cx} {CX : CXT} {k j : Nat} {x : Str} {sp : Sp} {dvs : List V} {p pos : Pos} {e : Expr} {es : List Expr} {t : TA} {E : XK} {C : Addr}
theorem pe_mk (c : Mak X.prog X.w X.K X.mg X.base CX k x C sp dvs) (hr : Room j X.A) (hk : k + 1 ≤ j) (hg : Gl X x) (hx : Passes CX X E) (ha : PA X (e :: es) t)
    (hdb : (x == ("__debug__" : Str)) = false := by decide) (he : starEach (e :: es) X.env = (false, eval e X.env) :: starEach es X.env := by rfl) (hpl : (backTo pos (starEach es X.env)).any (·.1) = false := by rfl) :
    PE X (.Call (.Name x p) (e :: es) [] pos) (tMake C sp dvs E t) := by
  obtain ⟨f, fd, ps, ds, M, F, hm, b, hd⟩ := c.ex
  exact pe_make M F (hr.mono hk) hg hm b hd hx ha hdb he hpl
end
section
variable {P : Program} {w : World} {K : PySem.W.Frag} {mg : Str → Option Value} {base : Heap} {T : Cls3}
/-! ### change_to -/
def spChange (T : Cls3) : Sp := fun vs H Q _ => ∃ e dx, ∃ s : EdF, ∃ ver m t ls pa un, vs = [.ref e, .ref ver, .ref pa, .ref un] ∧ H e = some (.ins T.e dx (edF s)) ∧ H ver = some (.tup [.ref m, .str t]) ∧ IsTwo T H m ls ∧ isT (.str t) = true ∧ over t ls = true ∧
  ∀ H' mk wd bf r, SameE e H H' → H' bf = some (.tup [.ref s.m, .str s.t]) → bf ≠ e → H' e = some (.ins T.e dx (edF ⟨pa, un, bf, m, t, mk, wd, r⟩)) → Q .non H'
theorem ok_change_to (cf : CF K T) {f : Addr} {fd : FuncData} (F : FnP K "change_to" "Editor.change_to" s_Editor_change_to f fd) (c1 : Mth P w K mg base CX0 1 T.e "version" (spVersion T)) (c2 : Mth P w K mg base CX0 12 T.e "show" (spShow T)) : FnOk P w K mg base CX0 13 f fd ["self", "version", "past", "undone"] (spChange T) := by
  have S := sc_Editor_change_to
  refine ok0 F S (fun vs H Q E h => ?_) (fun cdv A outer s H vs Q E hr h => ?_)
  · obtain ⟨e, dx, s, ver, m, t, ls, pa, un, rfl, _⟩ := h
    rfl
  · obtain ⟨e, dx, s, ver, m, t, ls, pa, un, rfl, he, hv, ⟨p, hm⟩, ht, ho, q⟩ := h
    refine ⟨_, (pss_cons (ps_fld (pv 0) (pe_m0 (pv 0) c1 hr (by decide) (E := E0) pass0) rfl)
      (pss_cons (ps_fld (pv 0) (pv 2) rfl)
      (pss_cons (ps_fld (pv 0) (pv 3) rfl)
      (pss_one (ps_expr (pe_m (pv 0) c2 hr (by decide) (E := E0) pass0 (pa_cons (pv 1) pa_nil))))))), ?_⟩
    have cl := cf.ie.cl
    refine ⟨_, rfl, e, dx, _, rfl, he, rfl, e, dx, _, _, _, rfl, he, rfl, rfl, fun bf hbf => ?_⟩
    have nbe : e ≠ bf := ne_of_none he hbf
    have he1 : upd H bf (.tup [.ref s.m, .str s.t]) e = some (.ins T.e dx (edF s)) := by rw [upd_ne nbe]; exact he
    refine ⟨_, rfl, e, T.e, dx, _, rfl, he1, cl, cf.ne _ (by decide +kernel), by show 8 < 1000; decide, ?_⟩
    refine ⟨_, rfl, _, rfl, e, T.e, dx, _, rfl, upd_same, cl, cf.ne _ (by decide +kernel), by show 8 < 1000; decide, ?_⟩
    refine ⟨_, rfl, _, rfl, e, T.e, dx, _, rfl, upd_same, cl, cf.ne _ (by decide +kernel), by show 8 < 1000; decide, ?_⟩
    rw [upd_upd, upd_upd]
    have s1 : SameE e H (upd (upd H bf (.tup [.ref s.m, .str s.t])) e (.ins T.e dx (putF "own_undone" (.ref un) (putF "own_past" (.ref pa) (putF "own_before" (.ref bf) (edF s)))))) := SameE.put (.of (same_upd hbf))
    have ve : ver ≠ e := fun q => by rw [q, he] at hv; cases hv
    refine ⟨_, rfl, e, dx, _, rfl, upd_same, rfl, _, rfl, e, dx, _, ver, m, t, ls, rfl, upd_same, by show 8 ≤ 900; decide, s1 _ _ ve hv, ⟨p, two_sameE hm s1 he cf.kits.te cf.kits.me⟩, ht, ho, fun H' mk wd r sm _ _ hE _ => ?_⟩
    refine q H' mk wd bf r (s1.trans sm) (sm _ _ (Ne.symm nbe) ?_) (Ne.symm nbe) hE
    rw [upd_ne (Ne.symm nbe), upd_same]
/-! ### require_machine, the making -/
def spReqM (K : PySem.W.Frag) (T : Cls3) (C : Addr) : Sp := fun vs H Q E => ∃ v, vs = [v] ∧ Arg K T H v ∧ (TyOf K H v (.ref T.t) → Q .non H) ∧ (¬ TyOf K H v (.ref T.t) → E (.ref C) none H)
theorem ok_require_machine (kt : Kits K T) {f : Addr} {fd : FuncData} {C : Addr} (F : FnP K "require_machine" "require_machine" s_require_machine f fd) (B : BN mg) (gT : ∃ u, mg "TwoPass" = some u ∧ RelV (.ref T.t) u) (X1 : ExC K mg "InvalidMachine" C) : FnOk P w K mg base (L2.CX P w) 1 f fd ["machine"] (spReqM K T C) := by
  have S := sc_require_machine
  refine F.ok S (fun vs H Q E h => ?_) (fun cdv A outer s H vs Q E hr h => ?_)
  · obtain ⟨b, rfl, _⟩ := h
    rfl
  · obtain ⟨v, rfl, av, q1, q2⟩ := h
    refine ⟨_, (pss_one (ps_if (pt_not (pt_val (pe_callB call_isi (by rfl) B.isinstance (by decide +kernel) (pa_cons (pv 0) (pa_cons (C8.pe_gc (by rfl) gT) pa_nil))))) (pss_one (ps_raise rfl (takes_of rfl rfl rfl rfl) (pmkC X1 (by rfl)))) pss_nil)), ?_⟩
    obtain ⟨t, b, ht, hk, hb⟩ := av.isTwo kt
    refine ⟨v, rfl, v, .ref T.t, t, _, b, rfl, .own _, ht, hk, b, rfl, ?_⟩
    cases b with
    | true => exact iteF (q1 (hb.mp rfl))
    | false => exact iteT (q2 (fun z => absurd (hb.mpr z) Bool.false_ne_true))
/-- what Editor(v, tx) comes to -/
def MkWant (K : PySem.W.Frag) (T : Cls3) (CM CT CO : Addr) (H : Hp) (v tx : V) (Q : EdF → Hp → Prop) (E : XK) (S : Hp → Prop) : Prop :=
  (¬ TyOf K H v (.ref T.t) → ∀ H', S H' → E (.ref CM) none H') ∧
  (∀ m ls, v = .ref m → IsTwo T H m ls → (isT tx = false → ∀ H', S H' → E (.ref CT) none H') ∧
    (∀ t, tx = .str t → isT tx = true → over t ls = false → ∀ H', S H' → E (.ref CO) none H') ∧
    (∀ t, tx = .str t → isT tx = true → over t ls = true → ∀ H' (s : EdF), S H' → H' s.past = some (.tup []) → H' s.undone = some (.tup []) → H' s.before = some (.tup [.ref m, .str t]) → s.m = m → s.t = t → Q s H'))
def spMakeE (K : PySem.W.Frag) (T : Cls3) (CM CT CO : Addr) : Sp := fun vs H Q E => ∃ x dx v tx, vs = [.ref x, v, tx] ∧ H x = some (.ins T.e dx []) ∧ Arg K T H v ∧ Arg K T H tx ∧ (TyOf K H v (.ref T.t) → ∃ m ls, v = .ref m ∧ IsTwo T H m ls) ∧
  MkWant K T CM CT CO H v tx (fun s H' => H' x = some (.ins T.e dx (edF s)) → Q .non H') E (SameE x H)
theorem ok_make_editor (cf : CF K T) {f : Addr} {fd : FuncData} {CM CT CO : Addr} (F : FunD K "__init__" "Editor.__init__" (defArgs s_Editor_init) (defBody s_Editor_init) (defScope s_Editor_init) [.str ""] [] f fd)
    (c1 : Cal P w K mg base (L2.CX P w) 1 "require_machine" (spReqM K T CM)) (c2 : Cal P w K mg base (L2.CX P w) 4 "require_rest" (spRest K CT CO)) (c3 : Mth P w K mg base CX0 12 T.e "show" (spShow T)) :
    FnOk P w K mg base (L2.CX P w) 13 f fd ["self", "machine", "text"] (spMakeE K T CM CT CO) := by
  have S := sc_Editor_init
  refine F.ok S (fun vs H Q E h => ?_) (fun cdv A outer s H vs Q E hr h => ?_)
  · obtain ⟨x, dx, v, tx, rfl, _⟩ := h
    rfl
  · obtain ⟨x, dx, v, tx, rfl, hx, av, at', hm, w1, w2⟩ := h
    have PX : Passes (L2.CX P w) (cxOf (L2.CX P w) P w K mg base ["self", "machine", "text"] "Editor.__init__" (defScope s_Editor_init) f cdv A outer s H E) E := passes_call (takes_of rfl rfl rfl rfl) (fun _ _ _ _ h => h)
    refine ⟨_, (pss_cons (ps_expr (pe_c c1 hr (by decide) (by rfl) (E := E) PX (pa_cons (pv 1) pa_nil)))
      (pss_cons (ps_expr (pe_c c2 hr (by decide) (by rfl) (E := E) PX (pa_cons (pv 1) (pa_cons (pv 2) pa_nil))))
      (pss_cons (ps_fld (pv 0) (pe_tup pa_nil) rfl)
      (pss_cons (ps_fld (pv 0) (pe_tup pa_nil) rfl)
      (pss_cons (ps_fld (pv 0) (pe_tup (pa_cons (pv 1) (pa_cons (pv 2) pa_nil))) rfl)
      (pss_one (ps_expr (pe_m (pv 0) c3 hr (by decide) (E := E0) pass0 (pa_cons (pe_tup (pa_cons (pv 1) (pa_cons (pv 2) pa_nil))) pa_nil))))))))), ?_⟩
    have cl := cf.ie.cl
    refine ⟨v, rfl, v, rfl, av, fun hty => ?_, fun hty => w1 hty _ .refl⟩
    obtain ⟨m, ls, rfl, hm2⟩ := hm hty
    obtain ⟨w3, w4, w5⟩ := w2 m ls rfl hm2
    refine ⟨_, rfl, tx, rfl, m, ls, tx, rfl, hm2.hasL cf, at'.nice cf.kits, at'.2, fun e H' sm => w3 e H' (.of sm), fun z e e1 e2 H' sm => w4 z e e1 e2 H' (.of sm), fun t e e1 e2 H1 sm => ?_⟩
    subst e
    obtain ⟨p, hp⟩ := hm2
    have hx1 := sm _ _ hx
    refine ⟨by show 0 ≤ sizeLine; decide, fun p1 hp1 => ?_⟩
    have nx1 : x ≠ p1 := ne_of_none hx1 hp1
    refine ⟨_, rfl, x, T.e, dx, _, rfl, (by rw [upd_ne nx1]; exact hx1), cl, cf.ne _ (by decide +kernel), by show 0 < 1000; decide, ?_⟩
    refine ⟨by show 0 ≤ sizeLine; decide, fun p2 hp2 => ?_⟩
    have nx2 : x ≠ p2 := ne_of_none upd_same hp2
    refine ⟨_, rfl, x, T.e, dx, _, rfl, (by rw [upd_ne nx2, upd_same]), cl, cf.ne _ (by decide +kernel), by show 1 < 1000; decide, ?_⟩
    refine ⟨_, rfl, _, rfl, by show 2 ≤ sizeLine; decide, fun p3 hp3 => ?_⟩
    have nx3 : x ≠ p3 := ne_of_none upd_same hp3
    refine ⟨_, rfl, x, T.e, dx, _, rfl, (by rw [upd_ne nx3, upd_same]), cl, cf.ne _ (by decide +kernel), by show 2 < 1000; decide, ?_⟩
    generalize hHa : upd (upd H1 p1 (.tup [])) x (.ins T.e dx (putF "own_past" (.ref p1) [])) = Ha at hp2 hp3 ⊢
    have sa : SameE x H1 Ha := by rw [← hHa]; exact SameE.put (.of (same_upd hp1))
    generalize hHb : upd (upd Ha p2 (.tup [])) x (.ins T.e dx (putF "own_undone" (.ref p2) (putF "own_past" (.ref p1) []))) = Hb at hp3 ⊢
    have sb : SameE x Ha Hb := by rw [← hHb]; exact SameE.put (.of (same_upd hp2))
    generalize hHc : upd (upd Hb p3 (.tup [.ref m, .str t])) x (.ins T.e dx (putF "own_before" (.ref p3) (putF "own_undone" (.ref p2) (putF "own_past" (.ref p1) [])))) = Hc
    have sc : SameE x Hb Hc := by rw [← hHc]; exact SameE.put (.of (same_upd hp3))
    have hxc : Hc x = some (.ins T.e dx (putF "own_before" (.ref p3) (putF "own_undone" (.ref p2) (putF "own_past" (.ref p1) [])))) := by rw [← hHc, upd_same]
    refine ⟨_, rfl, x, dx, _, rfl, hxc, rfl, _, rfl, _, rfl, by show 2 ≤ sizeLine; decide, fun ver hver => ?_⟩
    have s4 : SameE x H (upd Hc ver (.tup [.ref m, .str t])) := (((SameE.of sm).trans sa).trans (sb.trans sc)).trans (.of (same_upd hver))
    have q1 : Ha p1 = some (.tup []) := by rw [← hHa, upd_ne (Ne.symm nx1), upd_same]
    have q2 : Hb p2 = some (.tup []) := by rw [← hHb, upd_ne (Ne.symm nx2), upd_same]
    have q3 : Hc p3 = some (.tup [.ref m, .str t]) := by rw [← hHc, upd_ne (Ne.symm nx3), upd_same]
    have nxv : x ≠ ver := ne_of_none hxc hver
    have hxv : (upd Hc ver (.tup [.ref m, .str t])) x = some (.ins T.e dx (putF "own_before" (.ref p3) (putF "own_undone" (.ref p2) (putF "own_past" (.ref p1) [])))) := by rw [upd_ne nxv]; exact hxc
    refine ⟨x, dx, _, ver, m, t, ls, rfl, hxv, by show 3 ≤ 900; decide, upd_same, ⟨p, two_sameE hp s4 hx cf.kits.te cf.kits.me⟩, e1, e2, fun H' mk wd r sm2 _ _ hE _ => ?_⟩
    refine w5 t rfl e1 e2 H' ⟨p1, p2, p3, m, t, mk, wd, r⟩ (s4.trans sm2) ?_ ?_ ?_ rfl rfl hE
    · exact sm2 _ _ (Ne.symm nx1) (same_upd hver _ _ (sc _ _ (Ne.symm nx1) (sb _ _ (Ne.symm nx1) q1)))
    · exact sm2 _ _ (Ne.symm nx2) (same_upd hver _ _ (sc _ _ (Ne.symm nx2) q2))
    · exact sm2 _ _ (Ne.symm nx3) (same_upd hver _ _ q3)
end
end K67
end
section
set_option Elab.async false
set_option linter.all false
set_option maxRecDepth 100000
set_option maxHeartbeats 4000000
namespace K67
open PySem PySem.Spec PyProof.Rows L2
/-! ### the plain law of edits -/
theorem sLen (z : Str) : z.length = z.cps.toList.length := by rw [Array.length_toList] <;> rfl
theorem cut_take (t : Str) (k : Nat) : (cutS t none (some (k : Int))).cps.toList = t.cps.toList.take k := by
  show ((t.cps.toList.drop (HT.sIx t.length 0 none)).take (HT.sIx t.length t.length (some (k : Int)) - HT.sIx t.length 0 none)) = _
  rw [HT.sIx_nat, HT.sIx_none, List.drop_zero, sLen]
  rcases Nat.le_total k t.cps.toList.length with h | h
  · rw [Nat.min_eq_left h, Nat.sub_zero]
  · rw [Nat.min_eq_right h, Nat.sub_zero, List.take_of_length_le (Nat.le_refl _), List.take_of_length_le h]
theorem cut_drop (t : Str) (k : Nat) : (cutS t (some (k : Int)) none).cps.toList = t.cps.toList.drop k := by
  show ((t.cps.toList.drop (HT.sIx t.length 0 (some (k : Int)))).take (HT.sIx t.length t.length none - HT.sIx t.length 0 (some (k : Int)))) = _
  rw [HT.sIx_nat, HT.sIx_none, sLen]
  rcases Nat.le_total k t.cps.toList.length with h | h
  · rw [Nat.min_eq_left h, List.take_of_length_le (by rw [List.length_drop]; omega)]
  · rw [Nat.min_eq_right h, Nat.sub_self, List.take_zero, List.drop_of_length_le h]
theorem app_list (x y : Str) : (x ++ y).cps.toList = x.cps.toList ++ y.cps.toList := by
  show (x.cps ++ y.cps).toList = _
  rw [Array.toList_append]
theorem putS_list (t z : Str) (k : Nat) : (putS t z (k : Int)).cps.toList = t.cps.toList.take k ++ z.cps.toList ++ t.cps.toList.drop k := by
  unfold putS
  rw [app_list, app_list, cut_take, cut_drop]
theorem cutO_list (t : Str) (k n : Nat) : (cutO t (k : Int) (n : Int)).cps.toList = t.cps.toList.take k ++ t.cps.toList.drop (k + n) := by
  unfold cutO
  rw [app_list, cut_take, show ((k : Int) + (n : Int)) = ((k + n : Nat) : Int) by omega, cut_drop]
/-- a text over letters, not too long -/
def Fit (ls t : Str) : Prop := isT (.str t) = true ∧ over t ls = true
theorem isT_iff {t : Str} : isT (.str t) = true ↔ t.cps.toList.length ≤ 60 ∧ ∀ c ∈ t.cps.toList, letB c = true := by
  show (decide ((t.length : Int) ≤ 60) && wordB t) = true ↔ _
  rw [Bool.and_eq_true, decide_eq_true_iff, ← sLen]
  unfold wordB
  rw [List.all_eq_true]
  constructor
  · rintro ⟨h1, h2⟩; exact ⟨by omega, h2⟩
  · rintro ⟨h1, h2⟩; exact ⟨by omega, h2⟩
theorem over_iff {t ls : Str} : over t ls = true ↔ ∀ c ∈ t.cps.toList, c ∈ ls.cps.toList := by
  unfold over
  rw [List.all_eq_true]
  constructor
  · intro h c hc; exact of_decide_eq_true (h c hc)
  · intro h c hc; exact decide_eq_true (h c hc)
theorem fit_put {ls t z : Str} {a : V} (f : Fit ls t) (h : putOk t ls a (.str z) = true) : Fit ls (putS t z (intOf a)) := by
  unfold putOk at h
  simp only [Bool.and_eq_true] at h
  obtain ⟨⟨⟨⟨h1, h2⟩, h3⟩, h4⟩, h5⟩ := h
  obtain ⟨i, rfl, i0, i1⟩ := btw_int h1
  obtain ⟨k, rfl⟩ : ∃ k : Nat, i = (k : Int) := ⟨i.toNat, by omega⟩
  have h5' : ((t.length : Int) + z.length ≤ 60) := of_decide_eq_true h5
  obtain ⟨f1, f2⟩ := isT_iff.mp f.1
  have f3 := over_iff.mp f.2
  obtain ⟨g1, g2⟩ := isT_iff.mp h2
  have g3 := over_iff.mp (show over z ls = true from h4)
  have e := putS_list t z k
  rw [sLen, sLen] at h5'
  have mem : ∀ c ∈ (putS t z (k : Int)).cps.toList, c ∈ t.cps.toList ∨ c ∈ z.cps.toList := by
    intro c hc
    rw [e] at hc
    rcases List.mem_append.mp hc with hc | hc
    · rcases List.mem_append.mp hc with hc | hc
      · exact .inl (List.mem_of_mem_take hc)
      · exact .inr hc
    · exact .inl (List.mem_of_mem_drop hc)
  refine ⟨isT_iff.mpr ⟨?_, fun c hc => ?_⟩, over_iff.mpr fun c hc => ?_⟩
  · show (putS t z (k : Int)).cps.toList.length ≤ 60
    rw [e, List.length_append, List.length_append, List.length_take, List.length_drop]
    omega
  · rcases mem c hc with hc | hc
    · exact f2 c hc
    · exact g2 c hc
  · rcases mem c hc with hc | hc
    · exact f3 c hc
    · exact g3 c hc
theorem fit_cut {ls t : Str} {a v : V} (f : Fit ls t) (h : cutOk t a v = true) : Fit ls (cutO t (intOf a) (intOf v)) := by
  unfold cutOk at h
  rw [Bool.and_eq_true] at h
  obtain ⟨h1, h2⟩ := h
  obtain ⟨i, rfl, i0, i1⟩ := btw_int h1
  obtain ⟨n, rfl, n0, n1⟩ := btw_int h2
  obtain ⟨k, rfl⟩ : ∃ k : Nat, i = (k : Int) := ⟨i.toNat, by omega⟩
  obtain ⟨j, rfl⟩ : ∃ k : Nat, n = (k : Int) := ⟨n.toNat, by omega⟩
  obtain ⟨f1, f2⟩ := isT_iff.mp f.1
  have f3 := over_iff.mp f.2
  have e := cutO_list t k j
  have mem : ∀ c ∈ (cutO t (k : Int) (j : Int)).cps.toList, c ∈ t.cps.toList := by
    intro c hc
    rw [e] at hc
    rcases List.mem_append.mp hc with hc | hc
    · exact List.mem_of_mem_take hc
    · exact List.mem_of_mem_drop hc
  refine ⟨isT_iff.mpr ⟨?_, fun c hc => f2 c (mem c hc)⟩, over_iff.mpr fun c hc => f3 c (mem c hc)⟩
  show (cutO t (k : Int) (j : Int)).cps.toList.length ≤ 60
  rw [e, List.length_append, List.length_take, List.length_drop]
  omega
/-- an edit, at a machine and a text -/
def stepO (lt : Addr → Option Str) (v : Addr × Str) (o : Option (List V)) : Option (Addr × Str) := match lt v.1 with
  | some ls => (match edO lt ls v.2 (.ref v.1) o with
    | some (.ref m', t') => some (m', t')
    | _ => none)
  | none => none
def FitV (lt : Addr → Option Str) (v : Addr × Str) : Prop := ∃ ls, lt v.1 = some ls ∧ Fit ls v.2
theorem edO_fit {lt : Addr → Option Str} {ls t : Str} {m : Addr} {o : Option (List V)} (h1 : lt m = some ls) (h2 : Fit ls t) {r : V × Str} (h : edO lt ls t (.ref m) o = some r) : ∃ m', r.1 = .ref m' ∧ FitV lt (m', r.2) := by
  cases o with
  | none => cases h
  | some xs =>
    replace h : edOut lt ls t (.ref m) xs = some r := h
    unfold edOut at h
    split at h
    · rename_i wd a v
      split at h
      · split at h
        · rename_i hp
          cases h
          obtain ⟨z, rfl, _⟩ := short_of (v := v) (by
            unfold putOk at hp
            simp only [Bool.and_eq_true] at hp
            exact hp.1.1.1.2)
          exact ⟨m, rfl, ls, h1, fit_put h2 hp⟩
        · cases h
      · split at h
        · split at h
          · rename_i hp
            cases h
            exact ⟨m, rfl, ls, h1, fit_cut h2 hp⟩
          · cases h
        · cases h
    · rename_i wd p
      split at h
      · split at h
        · rename_i ls' hl
          split at h
          · rename_i ho
            cases h
            exact ⟨p, rfl, ls', hl, h2.1, ho⟩
          · cases h
        · cases h
      · cases h
    · cases h
theorem stepO_fit {lt : Addr → Option Str} {v r : Addr × Str} {o : Option (List V)} (h1 : FitV lt v) (h : stepO lt v o = some r) : FitV lt r := by
  obtain ⟨ls, e1, e2⟩ := h1
  unfold stepO at h
  rw [e1] at h
  dsimp only at h
  cases e : edO lt ls v.2 (.ref v.1) o with
  | none => rw [e] at h; cases h
  | some q =>
    obtain ⟨m', hm, hf⟩ := edO_fit e1 e2 e
    obtain ⟨q1, q2⟩ := q
    replace hm : q1 = .ref m' := hm
    subst hm
    rw [e] at h
    cases h
    exact hf
/-- all edits of a step -/
def runO (lt : Addr → Option Str) : Addr × Str → List (Option (List V)) → Option (Addr × Str)
  | v, [] => some v
  | v, o :: os => match stepO lt v o with
    | some r => runO lt r os
    | none => none
theorem runO_fit {lt : Addr → Option Str} : ∀ (os : List (Option (List V))) {v r : Addr × Str}, FitV lt v → runO lt v os = some r → FitV lt r
  | [], v, r, f, h => by cases h; exact f
  | o :: os, v, r, f, h => by
    unfold runO at h
    cases e : stepO lt v o with
    | none => rw [e] at h; cases h
    | some q =>
      rw [e] at h
      exact runO_fit os (stepO_fit f e) h
end K67
end
section
set_option Elab.async false
set_option linter.all false
set_option maxRecDepth 100000
set_option maxHeartbeats 4000000
namespace K67
open PySem PySem.Spec PyProof.Rows L2
/-- t != () -/
def rNeNil (K : PySem.W.Frag) : R2 := fun x y H Q => ∃ a b xs, x = .ref a ∧ y = .ref b ∧ SqT K H a xs ∧ SqT K H b [] ∧ Q (.bl (!xs.isEmpty)) H
theorem op_neNil {X : Cx} (hu : X.A.units < cLine) : OpR X (compareOp .NotEq) (rNeNil X.K) := by
  intro pins s σ H x y v u Q I rx ry h
  obtain ⟨a, b, xs, rfl, rfl, h1, h2, q⟩ := h
  cases rx
  cases ry
  obtain ⟨its, r1, t1, _⟩ := I.tuple h1
  obtain ⟨its2, r2, t2, _⟩ := I.tuple h2
  have l1 := r1.length
  have l2 := r2.length
  have e2 : its2 = [] := List.eq_nil_of_length_eq_zero (by rw [← l2]; rfl)
  subst e2
  refine SeqAt.RcNeAt.tuples (e := fun _ => true) t1 t2 hu (fun j _ h2 => absurd h2 (by simp)) _ _ _ _ ⟨.bl _, H, I, ?_, q⟩
  show Value.bool _ = Value.bool _
  congr 2
  cases xs with
  | nil =>
    have : its = [] := List.eq_nil_of_length_eq_zero (by rw [← l1]; rfl)
    subst this
    rfl
  | cons x xs =>
    have h3 : its.toArray.size ≠ 0 := by
      rw [List.size_toArray, ← l1]
      simp
    simp
    intro h4
    subst h4
    simp at h3
/-- the known machines stand -/
def LT (T : Cls3) (lt : Addr → Option Str) (H : Hp) : Prop := ∀ p ls, lt p = some ls → IsTwo T H p ls
theorem LT.same {T : Cls3} {lt : Addr → Option Str} {H H' : Hp} (h : LT T lt H) (s : Same H H') : LT T lt H' := fun p ls e => (h p ls e).same s
theorem LT.ok {K : PySem.W.Frag} {T : Cls3} (cf : CF K T) {lt : Addr → Option Str} {H : Hp} (h : LT T lt H) : LtOk K T H lt := fun p ls e => by
  have h1 := h p ls e
  refine ⟨h1.hasL cf, fun t ht => ?_⟩
  obtain ⟨pp, q⟩ := h1
  have ho := q.obj
  cases ht with
  | lst e' => rw [ho] at e'; cases e'
  | frz e' => rw [ho] at e'; cases e'
  | tup e' => rw [ho] at e'; cases e'
  | dK e' => rw [ho] at e'; cases e'
  | dT e' => rw [ho] at e'; cases e'
  | ins e' => rw [ho] at e'; cases e'; rfl
theorem LT.sameE {K : PySem.W.Frag} {T : Cls3} (cf : CF K T) {lt : Addr → Option Str} {H H' : Hp} {e dx : Addr} {fs : List (Str × V)} (h : LT T lt H) (s : SameE e H H') (he : H e = some (.ins T.e dx fs)) : LT T lt H' := fun p ls q => by
  obtain ⟨pp, hp⟩ := h p ls q
  exact ⟨pp, two_sameE hp s he cf.kits.te cf.kits.me⟩
/-- the items of a step, one by one -/
inductive Edts (K : PySem.W.Frag) (T : Cls3) (lt : Addr → Option Str) (H : Hp) : List V → List (Option (List V)) → Prop
  | nil : Edts K T lt H [] []
  | cons {v : V} {o : Option (List V)} {vs : List V} {os : List (Option (List V))} (h : Edt K T lt H v o) (t : Edts K T lt H vs os) : Edts K T lt H (v :: vs) (o :: os)
theorem Edts.same {K : PySem.W.Frag} {T : Cls3} {lt : Addr → Option Str} {H H' : Hp} (s : Same H H') : ∀ {vs : List V} {os : List (Option (List V))}, Edts K T lt H vs os → Edts K T lt H' vs os
  | _, _, .nil => .nil
  | _, _, .cons h t => .cons (h.same s) (Edts.same s t)
theorem Edts.length {K : PySem.W.Frag} {T : Cls3} {lt : Addr → Option Str} {H : Hp} : ∀ {vs : List V} {os : List (Option (List V))}, Edts K T lt H vs os → vs.length = os.length
  | _, _, .nil => rfl
  | _, _, .cons _ t => by simp [Edts.length t]
theorem Edts.get {K : PySem.W.Frag} {T : Cls3} {lt : Addr → Option Str} {H : Hp} : ∀ {vs : List V} {os : List (Option (List V))} {i : Nat} {v : V}, Edts K T lt H vs os → vs[i]? = some v → ∃ o, os[i]? = some o ∧ Edt K T lt H v o
  | _, _, _, _, .nil, e => by simp at e
  | _, _, 0, _, .cons h _, e => by simp at e; subst e; exact ⟨_, rfl, h⟩
  | _, _, i + 1, _, .cons _ t, e => by
    obtain ⟨o, h1, h2⟩ := Edts.get (i := i) t (by simpa using e)
    exact ⟨o, by simpa using h1, h2⟩
theorem runO_take {lt : Addr → Option Str} {v : Addr × Str} : ∀ (os : List (Option (List V))) (i : Nat) {r : Addr × Str} {o : Option (List V)}, runO lt v (os.take i) = some r → os[i]? = some o → runO lt v (os.take (i + 1)) = stepO lt r o := by
  intro os
  induction os generalizing v with
  | nil => intro i r o _ h; simp at h
  | cons a os ih =>
    intro i r o h1 h2
    cases i with
    | zero =>
      simp at h2
      subst h2
      replace h1 : some v = some r := h1
      cases h1
      show (match stepO lt v a with | some r => runO lt r (os.take 0) | none => none) = _
      cases stepO lt v a <;> rfl
    | succ i =>
      replace h1 : (match stepO lt v a with | some r => runO lt r (os.take i) | none => none) = some r := h1
      show (match stepO lt v a with | some r => runO lt r (os.take (i + 1)) | none => none) = _
      cases e : stepO lt v a with
      | none => rw [e] at h1; cases h1
      | some q =>
        rw [e] at h1
        exact ih i h1 (by simpa using h2)
theorem runO_none {lt : Addr → Option Str} {v : Addr × Str} : ∀ (os : List (Option (List V))) (i : Nat), runO lt v (os.take i) = none → runO lt v os = none := by
  intro os
  induction os generalizing v with
  | nil => intro i h; simpa using h
  | cons a os ih =>
    intro i h
    cases i with
    | zero => cases h
    | succ i =>
      replace h : (match stepO lt v a with | some r => runO lt r (os.take i) | none => none) = none := h
      show (match stepO lt v a with | some r => runO lt r os | none => none) = none
      cases e : stepO lt v a with
      | none => rfl
      | some q =>
        rw [e] at h
        exact ih i h
section
variable {P : Program} {w : World} {K : PySem.W.Frag} {mg : Str → Option Value} {base : Heap} {T : Cls3}
/-! ### make_step -/
def spStep (K : PySem.W.Frag) (T : Cls3) (C : Addr) : Sp := fun vs H Q E => ∃ e dx, ∃ s : EdF, ∃ ps v lt, vs = [.ref e, v] ∧ H e = some (.ins T.e dx (edF s)) ∧ SqT K H s.past ps ∧ ps.length ≤ 900 ∧ LT T lt H ∧ FitV lt (s.m, s.t) ∧ Arg K T H v ∧
  ((∀ a xs, v = .ref a → H a = some (.tup xs) → xs = []) → ∀ H', Same H H' → E (.ref C) none H') ∧
  (∀ a xs, v = .ref a → H a = some (.tup xs) → xs ≠ [] → xs.length ≤ 1000 ∧ ∃ os, Edts K T lt H xs os ∧ match runO lt (s.m, s.t) os with
    | none => ∀ H', Same H H' → E (.ref C) none H'
    | some r => ∀ H' mk wd bf res pa un pr vr, SameE e H H' → bf ≠ e → H' bf = some (.tup [.ref s.m, .str s.t]) → H' vr = some (.tup [.ref s.m, .str s.t]) → H' pr = some (.tup [.ref vr, v]) → H' pa = some (.tup (ps ++ [.ref pr])) → H' un = some (.tup []) →
      H' e = some (.ins T.e dx (edF ⟨pa, un, bf, r.1, r.2, mk, wd, res⟩)) → Q (.int ((ps.length + 1 : Nat) : Int)) H')
theorem ok_make_step (cf : CF K T) {f : Addr} {fd : FuncData} {C : Addr} (F : FnP K "make_step" "Editor.make_step" s_Editor_make_step f fd) (B : BN mg) (c1 : Cal P w K mg base (L2.CX P w) 1 "require_edit" (spReqE C)) (c2 : Mth P w K mg base CX0 1 T.e "version" (spVersion T))
    (c3 : Cal P w K mg base (L2.CX P w) 4 "edited" (spEd K T C)) (c4 : Mth P w K mg base CX0 13 T.e "change_to" (spChange T)) : FnOk P w K mg base (L2.CX P w) 14 f fd ["self", "step"] (spStep K T C) := by
  have S := sc_Editor_make_step
  refine F.ok S (fun vs H Q E h => ?_) (fun cdv A outer s H vs Q E hr h => ?_)
  · obtain ⟨e, dx, s, ps, v, lt, rfl, _⟩ := h
    rfl
  · obtain ⟨e, dx, s0, ps, v, lt, rfl, he, hps, hpl, hlt, hfit, av, w1, w2⟩ := h
    have PX : Passes (L2.CX P w) (cxOf (L2.CX P w) P w K mg base ["self", "step", "version", "edit"] "Editor.make_step" (defScope s_Editor_make_step) f cdv A outer s H E) E := passes_call (takes_of rfl rfl rfl rfl) (fun _ _ _ _ h => h)
    refine ⟨_, (pss_cons (ps_expr (pe_c c1 hr (by decide) (by rfl) (E := E) PX (pa_cons (pe_and (pe_callB call_isi (by rfl) B.isinstance (by decide +kernel) (pa_cons (pv 1) (pa_cons (pe_bltn (v := .ty "tuple") (by rfl) B.tuple (by decide +kernel) rfl) pa_nil))) (pe_one (pe_cmpR (op_neNil (Nat.lt_of_succ_lt (hu_of hr))) (pv 1) (pe_tup pa_nil) (nomark _)))) pa_nil)))
      (pss_cons (ps_set (i := 2) S.nd rfl (.inl rfl) (pe_m0 (pv 0) c2 hr (by decide) (E := E0) pass0))
      (pss_cons (ps_for (passes_of rfl) rfl (pi_tup (pv 1)) (pg_name (i := 3) S.nd rfl (Or.inl rfl)) (pss_one (ps_set (i := 2) S.nd rfl (.inl rfl) (pe_c c3 hr (by decide) (by rfl) (E := E) PX (pa_cons (pv 2) (pa_cons (pv 3) pa_nil))))))
      (pss_cons (ps_expr (pe_m (pv 0) c4 hr (by decide) (E := E0) pass0 (pa_cons (pv 2) (pa_cons (pe_tup (StX.pa_star (pe_fldK (K := K) rfl (pv 0) rfl) (pa_cons (pe_tup (pa_cons (pe_m0 (pv 0) c2 hr (by decide) (E := E0) pass0) (pa_cons (pv 1) pa_nil))) pa_nil))) (pa_cons (pe_tup pa_nil) pa_nil)))))
      (pss_one (ps_ret (pe_callB call_len (by rfl) B.len (by decide +kernel) (pa_cons (pe_fldK (K := K) rfl (pv 0) rfl) pa_nil)))))))), ?_⟩
    have cl := cf.ie.cl
    have no : (∀ a xs, v = .ref a → H a = some (.tup xs) → xs = []) → ∀ H', Same H H' → E (.ref C) none H' := w1
    obtain ⟨tt, tb, htt, hkt, hb1, hb2⟩ := av.isTup cf.kits
    refine ⟨v, rfl, v, .ty "tuple", tt, _, tb, rfl, .ty "tuple", htt, hkt, tb, rfl, ?_⟩
    cases tb with
    | false => exact iteF ⟨false, rfl, fun z => (nomatch z), fun _ => no (fun a xs e1 e2 => absurd e2 (hb2 rfl a xs e1)) _ (Same.refl _)⟩
    | true =>
      obtain ⟨a, xs, rfl, ha⟩ := hb1 rfl
      refine iteT ⟨_, rfl, by show 0 ≤ sizeLine; decide, fun nl hnl => ?_⟩
      refine ⟨a, nl, xs, rfl, rfl, SqT.of (by rw [upd_ne (ne_of_none ha hnl)]; exact ha), SqT.of upd_same, _, rfl, ?_⟩
      have sm0 := same_upd (o := .tup []) hnl
      generalize upd H nl (.tup []) = H0 at sm0
      cases hx : xs with
      | nil =>
        refine ⟨fun z => (nomatch z), fun _ => no (fun a' xs' e1 e2 => ?_) _ sm0⟩
        cases e1
        rw [ha] at e2
        cases e2
        exact hx
      | cons x0 r0 =>
        rw [← hx]
        have hne : xs ≠ [] := by rw [hx]; exact fun z => (nomatch z)
        refine ⟨fun _ => ?_, fun z => by rw [hx] at z; exact (nomatch z)⟩
        obtain ⟨hxl, os, hos, w3⟩ := w2 a xs rfl ha hne
        have hlo := hos.length
        have he0 := sm0 _ _ he
        -- version
        refine ⟨_, rfl, e, dx, _, rfl, he0, rfl, e, dx, _, _, _, rfl, he0, rfl, rfl, fun vr hvr => ?_⟩
        have sm1 := sm0.trans (same_upd (o := .tup [.ref s0.m, .str s0.t]) hvr)
        have hv1 : upd H0 vr (.tup [.ref s0.m, .str s0.t]) vr = some (.tup [.ref s0.m, .str s0.t]) := upd_same
        generalize upd H0 vr (.tup [.ref s0.m, .str s0.t]) = H1 at sm1 hv1
        -- the edits, one behind another
        refine ⟨_, rfl, a, rfl, ⟨_, SqT.of (sm1 _ _ ha)⟩, ?_⟩
        refine for_tup (K := K) (a := a) (xs := xs) (fun i σ H' => Same H H' ∧ ∃ vr' m t z, σ = [some (.ref e), some (.ref a), some (.ref vr'), z] ∧ H' vr' = some (.tup [.ref m, .str t]) ∧ runO lt (s0.m, s0.t) (os.take i) = some (m, t)) ?_ ?_ ?_ ?_
        · exact ⟨sm1, vr, s0.m, s0.t, none, rfl, hv1, rfl⟩
        · rintro i σ H' _ ⟨sm, _⟩
          exact SqT.of (sm _ _ ha)
        · rintro i x σ H' hxi ⟨sm, vr', m, t, z, rfl, hvr', hrun⟩
          obtain ⟨o, hoi, hed⟩ := hos.get hxi
          obtain ⟨ls, hl1, hl2⟩ := runO_fit _ hfit hrun
          have hz60 : t.length ≤ 60 := isT_short hl2.1
          have hnext := runO_take os i hrun hoi
          refine ⟨_, rfl, _, rfl, vr', m, t, ls, x, o, lt, rfl, SqT.of hvr', hz60, ((hlt.same sm) m ls hl1).hasL cf, (hlt.same sm).ok cf, hed.same sm, ?_⟩
          unfold EdWant
          have hst : stepO lt (m, t) o = (match edO lt ls t (.ref m) o with | some (.ref m', t') => some (m', t') | _ => none) := by
            unfold stepO
            rw [hl1] <;> rfl
          cases eo : edO lt ls t (.ref m) o with
          | none =>
            intro H2 sm2
            rw [eo] at hst
            have hnone : runO lt (s0.m, s0.t) os = none := runO_none os (i + 1) (by rw [hnext, hst])
            rw [hnone] at w3
            exact w3 H2 (sm.trans sm2)
          | some q =>
            obtain ⟨m', hm', _⟩ := edO_fit hl1 hl2 eo
            obtain ⟨q1, q2⟩ := q
            replace hm' : q1 = .ref m' := hm'
            subst hm'
            rw [eo] at hst
            intro H2 p sm2 _ hp
            exact ⟨sm.trans sm2, p, m', q2, _, rfl, hp, by rw [hnext, hst]⟩
        · rintro σ H' ⟨sm, vr', m, t, z, rfl, hvr', hrun⟩
          rw [hlo, List.take_of_length_le (Nat.le_refl _)] at hrun
          rw [hrun] at w3
          obtain ⟨ls, hl1, hl2⟩ := runO_fit _ hfit hrun
          have he' := sm _ _ he
          refine ⟨_, rfl, e, dx, _, rfl, he', rfl, _, rfl, ?_⟩
          refine ⟨_, rfl, e, T.e, dx, _, _, rfl, he', cl, cf.ne _ (by decide +kernel), rfl, s0.past, ps, rfl, .inl (seqT sm hps), ?_⟩
          refine ⟨_, rfl, e, dx, _, rfl, he', rfl, e, dx, _, _, _, rfl, he', rfl, rfl, fun vn hvn => ?_⟩
          have sm2 := sm.trans (same_upd (o := .tup [.ref s0.m, .str s0.t]) hvn)
          have ha2 : upd H' vn (.tup [.ref s0.m, .str s0.t]) vn = some (.tup [.ref s0.m, .str s0.t]) := upd_same
          have hvr2 : upd H' vn (.tup [.ref s0.m, .str s0.t]) vr' = some (.tup [.ref m, .str t]) := same_upd hvn _ _ hvr'
          generalize upd H' vn (.tup [.ref s0.m, .str s0.t]) = H2 at sm2 ha2 hvr2
          refine ⟨_, rfl, by show 2 ≤ sizeLine; decide, fun pr hpr => ?_⟩
          have sm3 := sm2.trans (same_upd (o := .tup [.ref vn, .ref a]) hpr)
          have hpr3 : upd H2 pr (.tup [.ref vn, .ref a]) pr = some (.tup [.ref vn, .ref a]) := upd_same
          have hvn3 := same_upd (o := .tup [.ref vn, .ref a]) hpr _ _ ha2
          have hvr3 := same_upd (o := .tup [.ref vn, .ref a]) hpr _ _ hvr2
          generalize upd H2 pr (.tup [.ref vn, .ref a]) = H3 at sm3 hpr3 hvn3 hvr3
          refine ⟨?_, fun pa hpa => ?_⟩
          · rw [List.length_append]
            exact Nat.le_trans (show ps.length + 1 ≤ 901 by omega) (by decide)
          have sm4 := sm3.trans (same_upd (o := .tup (ps ++ [.ref pr])) hpa)
          have hpa4 : upd H3 pa (.tup (ps ++ [.ref pr])) pa = some (.tup (ps ++ [.ref pr])) := upd_same
          have hpr4 := same_upd (o := .tup (ps ++ [.ref pr])) hpa _ _ hpr3
          have hvn4 := same_upd (o := .tup (ps ++ [.ref pr])) hpa _ _ hvn3
          have hvr4 := same_upd (o := .tup (ps ++ [.ref pr])) hpa _ _ hvr3
          generalize upd H3 pa (.tup (ps ++ [.ref pr])) = H4 at sm4 hpa4 hpr4 hvn4 hvr4
          refine ⟨by show 0 ≤ sizeLine; decide, fun un hun => ?_⟩
          have sm5 := sm4.trans (same_upd (o := .tup []) hun)
          have hun5 : upd H4 un (.tup []) un = some (.tup []) := upd_same
          have hpa5 := same_upd (o := .tup []) hun _ _ hpa4
          have hpr5 := same_upd (o := .tup []) hun _ _ hpr4
          have hvn5 := same_upd (o := .tup []) hun _ _ hvn4
          have hvr5 := same_upd (o := .tup []) hun _ _ hvr4
          generalize upd H4 un (.tup []) = H5 at sm5 hun5 hpa5 hpr5 hvn5 hvr5
          have he5 := sm5 _ _ he
          have nt : ∀ {b : Addr} {l : List V}, H5 b = some (.tup l) → b ≠ e := fun {b l} h z => by
            rw [z, he5] at h
            cases h
          refine ⟨e, dx, s0, vr', m, t, ls, pa, un, rfl, he5, hvr5, (hlt.same sm5) m ls hl1, hl2.1, hl2.2, fun H' mk wd bf r sE hbf hbe hE => ?_⟩
          refine ⟨_, rfl, e, T.e, dx, _, _, rfl, hE, cl, cf.ne _ (by decide +kernel), rfl, _, (ps ++ [V.ref pr]).length, rfl, .inr ⟨_, SqT.of (sE _ _ (nt hpa5) hpa5), rfl⟩, ?_⟩
          rw [List.length_append]
          exact w3 H' mk wd bf r pa un pr vn ((SameE.of sm5).trans sE) hbe hbf (sE _ _ (nt hvn5) hvn5) (sE _ _ (nt hpr5) hpr5) (sE _ _ (nt hpa5) hpa5) (sE _ _ (nt hun5) hun5) hE
end
end K67
end
section
set_option Elab.async false
set_option linter.all false
set_option maxRecDepth 100000
set_option maxHeartbeats 4000000
namespace K67
open PySem PySem.Spec PyProof.Rows L2
/-! ### methods with a star parameter, with keyword-only parameters -/
structure MthR (P : Program) (w : World) (K : PySem.W.Frag) (mg : Str → Option Value) (base : Heap) (CX : CXT) (k : Nat) (C : Addr) (m : Str) (sp : Sp) : Prop where
  ex : ∃ f : Addr, FnR P w K mg base CX k f sp ∧ Meth K C m f ∧ Cls K C
structure MthD (P : Program) (w : World) (K : PySem.W.Frag) (mg : Str → Option Value) (base : Heap) (CX : CXT) (k : Nat) (C : Addr) (m : Str) (sp : Sp) (dvs : List V) : Prop where
  ex : ∃ (f : Addr) (fd : FuncData) (ps : List Str) (ds : List Value), FnOk P w K mg base CX k f fd ps sp ∧ Meth K C m f ∧ Cls K C ∧ Binds K fd ps ds ∧ Vals dvs ds
structure MthK (P : Program) (w : World) (K : PySem.W.Frag) (mg : Str → Option Value) (base : Heap) (CX : CXT) (k : Nat) (C : Addr) (m : Str) (sp : Sp) (n : Nat) (ks : List Str) (gV : List V → List V → List V) : Prop where
  ex : ∃ (f : Addr) (fd : FuncData) (ps : List Str) (g : List Value → List Value → List Value), FnOk P w K mg base CX k f fd ps sp ∧ Meth K C m f ∧ Cls K C ∧ KBn K fd ps n ks g gV
section
variable {X : Cx} {CX : CXT} {k j : Nat} {m : Str} {sp : Sp} {dvs : List V} {p pos apos : Pos} {e o : Expr} {es : List Expr} {t tk : TA} {ta : TE} {E : XK} {C : Addr} {kws : List Keyword} {ks : List Str} {gV : List V → List V → List V}
theorem pe_mR {pl : Sem Bool} (he : PE X o ta) (c : MthR X.prog X.w X.K X.mg X.base CX k C m sp) (hr : Room j X.A) (hk : k ≤ j) (hx : Passes CX X E) (ha : PA X (e :: es) t)
    (hst : starEach (e :: es) X.env = (false, eval e X.env) :: starEach es X.env := by rfl) (hpl : (backTo pos (starEach es X.env)).any (·.1) = false := by rfl)
    (ht : eval (.Call (.Attribute o m apos) (e :: es) [] pos) X.env = (do
      let ov ← eval o X.env
      standAt apos.atName
      let (f, first) ← holding [ov] (getMethod ov m pl)
      callWith pos f first (backTo pos (starEach (e :: es) X.env)) (backToKw pos (keywordEach [] X.env))) := by rfl) :
    PE X (.Call (.Attribute o m apos) (e :: es) [] pos) (tMethR C m sp E ta t) := by
  obtain ⟨f, F, hm, cl⟩ := c.ex
  exact pe_methR he cl hm F (hr.mono hk) hx ha hst hpl ht
theorem pe_mR0 {pl : Sem Bool} (he : PE X o ta) (c : MthR X.prog X.w X.K X.mg X.base CX k C m sp) (hr : Room j X.A) (hk : k ≤ j) (hx : Passes CX X E)
    (ht : eval (.Call (.Attribute o m apos) [] [] pos) X.env = (do
      let ov ← eval o X.env
      standAt apos.atName
      let (f, first) ← holding [ov] (getMethod ov m pl)
      callWith pos f first (backTo pos (starEach [] X.env)) (backToKw pos (keywordEach [] X.env))) := by rfl) :
    PE X (.Call (.Attribute o m apos) [] [] pos) (tMethR C m sp E ta tNil) := by
  obtain ⟨f, F, hm, cl⟩ := c.ex
  refine ⟨fun pins s σ H Q I h => ?_⟩
  refine PySem.W.methodCall_KW (pl := pl) (thn (he.run pins s σ H _ I h) fun u s1 ⟨x, H1, I1, rx, a, dx, fs, ex, ea, l, q⟩ => ?_) ht
  subst ex
  obtain rfl : u = Value.ref a := rx
  refine getmeth_ok I1 ea cl hm l ?_
  exact PySem.W.callWith_K0 (first := [.ref a]) I1.kIn hm.kp (wpAny_call (run_fnR (us := [.ref a]) (vs := [.ref a]) F (hr.mono hk) hx I1 (.cons rfl .nil) q))
theorem pe_md0 {pl : Sem Bool} (he : PE X o ta) (c : MthD X.prog X.w X.K X.mg X.base CX k C m sp dvs) (hr : Room j X.A) (hk : k ≤ j) (hx : Passes CX X E)
    (ht : eval (.Call (.Attribute o m apos) [] [] pos) X.env = (do
      let ov ← eval o X.env
      standAt apos.atName
      let (f, first) ← holding [ov] (getMethod ov m pl)
      callWith pos f first (backTo pos (starEach [] X.env)) (backToKw pos (keywordEach [] X.env))) := by rfl) :
    PE X (.Call (.Attribute o m apos) [] [] pos) (tMeth C m sp dvs E ta tNil) := by
  obtain ⟨f, fd, ps, ds, F, hm, cl, b, hd⟩ := c.ex
  exact pe_meth0 he cl hm F (hr.mono hk) b hd hx ht
def tMethKw (C : Addr) (m : Str) (sp : Sp) (l : Nat) (gV : List V → List V → List V) (E : XK) (ta : TE) (tk : TA) : TE := fun σ H Q => ta σ H fun x H1 => ∃ a dx fs, x = .ref a ∧ H1 a = some (.ins C dx fs) ∧ fs.lookup m = none ∧
  tk σ H1 fun zs H2 => zs.length = l ∧ sp (gV [x] zs) H2 Q E
theorem pe_mKw0 {pl : Sem Bool} (he : PE X o ta) (c : MthK X.prog X.w X.K X.mg X.base CX k C m sp 1 ks gV) (hr : Room j X.A) (hk : k ≤ j) (hx : Passes CX X E) (hkw : PK X kws tk)
    (hall : (backToKw pos (keywordEach kws X.env)).all (·.1.isSome) = true := by rfl) (hks : (backToKw pos (keywordEach kws X.env)).filterMap (·.1) = ks := by rfl)
    (hpl : ((backTo pos (starEach [] X.env)).any (·.1) || (backToKw pos (keywordEach kws X.env)).any (·.1.isNone)) = false := by rfl)
    (ht : eval (.Call (.Attribute o m apos) [] kws pos) X.env = (do
      let ov ← eval o X.env
      standAt apos.atName
      let (f, first) ← holding [ov] (getMethod ov m pl)
      callWith pos f first (backTo pos (starEach [] X.env)) (backToKw pos (keywordEach kws X.env))) := by rfl) :
    PE X (.Call (.Attribute o m apos) [] kws pos) (tMethKw C m sp ks.length gV E ta tk) := by
  obtain ⟨f, fd, ps, g, F, hm, cl, b⟩ := c.ex
  refine ⟨fun pins s σ H Q I h => ?_⟩
  refine PySem.W.methodCall_KW (pl := pl) (thn (he.run pins s σ H _ I h) fun u s1 ⟨x, H1, I1, rx, a, dx, fs, ex, ea, l, q⟩ => ?_) ht
  subst ex
  obtain rfl : u = Value.ref a := rx
  refine getmeth_ok I1 ea cl hm l ?_
  refine PySem.W.callWith_KW0 (first := [.ref a]) (h₀ := X.base) I.ok.mod.kin hm.kp hall (thn (hkw.run pos pins s1 σ H1 _ I1 q) fun ws s2 ⟨zs, H2, I2, rz, l2, q2⟩ => ⟨I2.kIn, ?_⟩) hpl
  rw [hks]
  exact run_fnN F (hr.mono hk) b hx I2 (us := [.ref a]) (vs := [.ref a]) (.cons rfl .nil) rz rfl l2 q2
end
section
variable {P : Program} {w : World} {K : PySem.W.Frag} {mg : Str → Option Value} {base : Heap} {T : Cls3}
/-! ### make -/
theorem ok_make (cf : CF K T) {f : Addr} {fd : FuncData} {C : Addr} (F : FnP K "make" "Editor.make" s_Editor_make f fd) (c1 : Mth P w K mg base (L2.CX P w) 14 T.e "make_step" (spStep K T C)) :
    FnR P w K mg base (L2.CX P w) 15 f (fun vs H Q E => ∃ ws rest, vs = ws ++ rest ∧ ws.length = (["self"] : List Str).length ∧ rest.length ≤ sizeLine ∧ ∀ p, H p = Option.none → spStep K T C (ws ++ [V.ref p]) (upd H p (.tup rest)) Q E) := by
  obtain ⟨oc, od, dV, kV, doc, pm, an, cdv, ct, osl, rfl, lk, hcd, hD, hK⟩ := F.ex
  rcases hD with ⟨_, rfl⟩ | ⟨e, _⟩
  rotate_left
  · exact absurd rfl e
  have S := sc_Editor_make
  refine StX.fn_star (ps := ["self"]) (pv := "edits") (N := ["self", "edits"]) lk hcd S StX.cxUp (StX.bind_star1 (B := fun us => bindArgs (PySem.W.fnOf "make" "Editor.make" (defArgs s_Editor_make) (defBody s_Editor_make) (defScope s_Editor_make) .none kV doc pm an cdv ct) ⟨us, []⟩) (p1 := "self") (pv := "edits") (fun a => rfl) (fun a r rs => rfl)) fun A outer s H vs Q E hr h => ?_
  refine ⟨_, (pss_one (ps_ret (pe_m (pv 0) c1 hr (by decide) (E := E) (passes_call (takes_of rfl rfl rfl rfl) (fun _ _ _ _ h => h)) (pa_cons (pv 1) pa_nil)))), ?_⟩
  obtain ⟨e, dx, s0, ps, v, lt, rfl, he, r⟩ := id h
  exact ⟨_, rfl, e, dx, _, rfl, he, rfl, _, rfl, h⟩
end
end K67
end
section
set_option Elab.async false
set_option linter.all false
set_option maxRecDepth 100000
set_option maxHeartbeats 4000000
namespace K67
open PySem PySem.Spec PyProof.Rows L2
theorem IsTwo.arg {K : PySem.W.Frag} {T : Cls3} (cf : CF K T) {H : Hp} {m : Addr} {ls : Str} (h : IsTwo T H m ls) : Arg K T H (.ref m) ∧ TyOf K H (.ref m) (.ref T.t) := by
  obtain ⟨p, q⟩ := h
  have ty : TyOf K H (.ref m) (.ref T.t) := TyOf.ins q.obj cf.it.cl cf.it.ha cf.it.hn cf.it.htk cf.it.hm
  exact ⟨⟨⟨_, by simp [TYS], ty⟩, True.intro⟩, ty⟩
theorem arg_str {K : PySem.W.Frag} {T : Cls3} {H : Hp} {z : Str} (h : z.length ≤ 1000) : Arg K T H (.str z) := ⟨⟨_, by simp [TYS], .str z⟩, sz60 h⟩
theorem IsTwo.uniq {T : Cls3} {H : Hp} {m : Addr} {l1 l2 : Str} (h1 : IsTwo T H m l1) (h2 : IsTwo T H m l2) : l1 = l2 := by
  obtain ⟨p, a⟩ := h1
  obtain ⟨q, b⟩ := h2
  have e := a.obj.symm.trans b.obj
  injection e with e
  injection e with _ _ e
  unfold twF at e
  injection e with _ e
  injection e with e _
  injection e with _ e
  injection e
section
variable {P : Program} {w : World} {K : PySem.W.Frag} {mg : Str → Option Value} {base : Heap} {T : Cls3}
/-! ### twin -/
def spTwin (T : Cls3) : Sp := fun vs H Q _ => ∃ e dx, ∃ s : EdF, ∃ ls, vs = [.ref e] ∧ H e = some (.ins T.e dx (edF s)) ∧ IsTwo T H s.m ls ∧ Fit ls s.t ∧
  ∀ H' x dx' mk wd r, Same H H' → H x = none → H' x = some (.ins T.e dx' (edF ⟨s.past, s.undone, s.before, s.m, s.t, mk, wd, r⟩)) → Q (.ref x) H'
theorem ok_twin (cf : CF K T) {f : Addr} {fd : FuncData} {CM CT CO : Addr} (F : FnP K "twin" "Editor.twin" s_Editor_twin f fd) (c1 : Mak P w K mg base (L2.CX P w) 13 "Editor" T.e (spMakeE K T CM CT CO) []) : FnOk P w K mg base CX0 15 f fd ["self"] (spTwin T) := by
  have S := sc_Editor_twin
  refine ok0 F S (fun vs H Q E h => ?_) (fun cdv A outer s H vs Q E hr h => ?_)
  · obtain ⟨e, dx, s0, ls, rfl, _⟩ := h
    rfl
  · obtain ⟨e, dx, s0, ls, rfl, he, hm, hf, q⟩ := h
    refine ⟨_, (pss_cons (ps_set (i := 1) S.nd rfl (.inl rfl) (pe_mk c1 hr (by decide) (by rfl) (E := E0) passL (pa_cons (pe_fldK (K := K) rfl (pv 0) rfl) (pa_cons (pe_fldK (K := K) rfl (pv 0) rfl) pa_nil))))
      (pss_cons (ps_fld (pv 1) (pe_fldK (K := K) rfl (pv 0) rfl) rfl)
      (pss_cons (ps_fld (pv 1) (pe_fldK (K := K) rfl (pv 0) rfl) rfl)
      (pss_cons (ps_fld (pv 1) (pe_fldK (K := K) rfl (pv 0) rfl) rfl)
      (pss_one (ps_ret (pv 1))))))), ?_⟩
    have cl := cf.ie.cl
    have t60 := isT_short hf.1
    refine ⟨_, rfl, e, T.e, dx, _, _, rfl, he, cl, cf.ne _ (by decide +kernel), rfl, _, rfl, e, T.e, dx, _, _, rfl, he, cl, cf.ne _ (by decide +kernel), rfl, fun x dx' hx hdx hne => ?_⟩
    have smm : Same H (upd (upd H dx' (.own x)) x (.ins T.e dx' [])) := by
      intro b o hb
      rw [upd_ne (ne_of_none hb hx), upd_ne (ne_of_none hb hdx)]
      exact hb
    have hm1 := hm.same smm
    have hae := hm1.arg cf
    refine ⟨x, dx', .ref s0.m, .str s0.t, rfl, upd_same, hae.1, arg_str (by omega), fun _ => ⟨s0.m, ls, rfl, hm1⟩, fun z => absurd hae.2 z, fun m ls' em hm' => ?_⟩
    cases em
    have el := hm1.uniq hm'
    subst el
    refine ⟨fun z => absurd (z.symm.trans hf.1) Bool.false_ne_true, fun t et _ e2 => ?_, fun t et _ _ H1 s1 sE hpa hun hbf em1 et1 hxe => ?_⟩
    · cases et
      exact absurd (e2.symm.trans hf.2) Bool.false_ne_true
    cases et
    have sm1 : Same H H1 := by
      intro b o hb
      exact sE b o (ne_of_none hb hx) (smm b o hb)
    have ne : e ≠ x := ne_of_none he hx
    refine ⟨rfl, ?_⟩
    obtain ⟨pa1, un1, bf1, m1, t1, mk1, wd1, r1⟩ := s1
    replace em1 : m1 = s0.m := em1
    replace et1 : t1 = s0.t := et1
    subst em1 et1
    have he1 := sm1 _ _ he
    refine ⟨_, rfl, e, T.e, dx, _, _, rfl, he1, cl, cf.ne _ (by decide +kernel), rfl, _, rfl, x, T.e, dx', _, rfl, hxe, cl, cf.ne _ (by decide +kernel), by show 8 < 1000; decide, ?_⟩
    refine ⟨_, rfl, e, T.e, dx, _, _, rfl, (by rw [upd_ne ne]; exact he1), cl, cf.ne _ (by decide +kernel), rfl, _, rfl, x, T.e, dx', _, rfl, upd_same, cl, cf.ne _ (by decide +kernel), by show 8 < 1000; decide, ?_⟩
    rw [upd_upd]
    refine ⟨_, rfl, e, T.e, dx, _, _, rfl, (by rw [upd_ne ne]; exact he1), cl, cf.ne _ (by decide +kernel), rfl, _, rfl, x, T.e, dx', _, rfl, upd_same, cl, cf.ne _ (by decide +kernel), by show 8 < 1000; decide, ?_⟩
    rw [upd_upd]
    refine ⟨_, rfl, q _ x dx' mk1 wd1 r1 ?_ hx upd_same⟩
    intro b o hb
    rw [upd_ne (ne_of_none hb hx)]
    exact sm1 b o hb
/-! ### undo -/
def spReqN (K : PySem.W.Frag) (CN CU : Addr) : Sp := fun vs H Q E => ∃ v n, vs = [v, .int n] ∧ Nice K H v ∧
  (((isI v = false ∨ ∃ i, v = .int i ∧ i < 0) ∧ ∀ H' d, Same H H' → H d = none → H' d = some (.xd [(("value" : Str), v)]) → E (.ref CN) (some d) H') ∨
   (∃ i, v = .int i ∧ 0 ≤ i ∧ n < i ∧ ∀ H' d, Same H H' → H d = none → H' d = some (.xd [(("many" : Str), v)]) → E (.ref CU) (some d) H') ∨
   (∃ i, v = .int i ∧ 0 ≤ i ∧ i ≤ n ∧ Q .non H))
theorem cutV_drop (xs : List V) (k : Nat) : cutV xs (some (k : Int)) none = xs.drop k := by
  unfold cutV
  rw [HT.sIx_nat, HT.sIx_none]
  rcases Nat.le_total k xs.length with h | h
  · rw [Nat.min_eq_left h, List.take_of_length_le (by rw [List.length_drop]; omega)]
  · rw [Nat.min_eq_right h, Nat.sub_self, List.take_zero, List.drop_of_length_le h]
theorem cutV_take (xs : List V) (k : Nat) : cutV xs none (some (k : Int)) = xs.take k := by
  unfold cutV
  rw [HT.sIx_nat, HT.sIx_none, List.drop_zero, Nat.sub_zero]
  rcases Nat.le_total k xs.length with h | h
  · rw [Nat.min_eq_left h]
  · rw [Nat.min_eq_right h, List.take_of_length_le (Nat.le_refl _), List.take_of_length_le h]
/-- a tuple's slice, at any heap that grows -/
theorem slA {H : Hp} {a : Addr} {xs ys : List V} {lo hi : Option Int} {Q : VK} (ha : SqT K H a xs) (e : cutV xs lo hi = ys) (q : ∀ p H', Same H H' → SqT K H' p ys → Q (.ref p) H') : rSlA K (.ref a) lo hi H Q := by
  refine ⟨a, xs, rfl, ha, fun hw => q a H (Same.refl _) ?_, fun _ p hp => q p _ (same_upd hp) (SqT.of (by rw [upd_same, e]))⟩
  have : cutV xs lo hi = xs := by
    unfold cutV
    rw [hw.1, hw.2, List.drop_zero, Nat.sub_zero, List.take_of_length_le (Nat.le_refl _)]
  rw [this] at e
  rw [← e]
  exact ha
theorem slA_lo {σ : L2.St} {H : Hp} {a : Addr} {xs ys : List V} {lo : Option Int} {Q : VK} (ha : SqT K H a xs) (e : cutV xs lo none = ys) (q : ∀ p H', Same H H' → SqT K H' p ys → Q (.ref p) H') : tNoPart σ H (fun u H3 => rSlA K (.ref a) lo u H3 Q) := slA ha e q
theorem sqE {e dx C : Addr} {fs : List (Str × V)} {H H' : Hp} {a : Addr} {xs : List V} (s : SameE e H H') (he : H e = some (.ins C dx fs)) (h : SqT K H a xs) : SqT K H' a xs := by
  rcases h with h | h
  · rcases h with h | ⟨o, h⟩
    · exact .inl (.inl (s _ _ (fun z => by rw [z, he] at h; cases h) h))
    · exact .inl (.inr ⟨o, s _ _ (fun z => by rw [z, he] at h; cases h) h⟩)
  · exact .inr h
def spUndo (K : PySem.W.Frag) (T : Cls3) (CN CU : Addr) : Sp := fun vs H Q E => ∃ e dx, ∃ s : EdF, ∃ ps us v lt, vs = [.ref e, v] ∧ H e = some (.ins T.e dx (edF s)) ∧ SqT K H s.past ps ∧ ps.length ≤ 900 ∧ SqT K H s.undone us ∧ us.length ≤ 900 ∧ LT T lt H ∧ Nice K H v ∧
  (((isI v = false ∨ ∃ i, v = .int i ∧ i < 0) ∧ ∀ H' d, Same H H' → H d = none → H' d = some (.xd [(("value" : Str), v)]) → E (.ref CN) (some d) H') ∨
   (∃ i, v = .int i ∧ 0 ≤ i ∧ (ps.length : Int) < i ∧ ∀ H' d, Same H H' → H d = none → H' d = some (.xd [(("many" : Str), v)]) → E (.ref CU) (some d) H') ∨
   (v = .int 1 ∧ ∃ ps0 pr ver m t st, ps = ps0 ++ [.ref pr] ∧ H pr = some (.tup [.ref ver, st]) ∧ H ver = some (.tup [.ref m, .str t]) ∧ FitV lt (m, t) ∧
     ∀ H' mk wd bf res pa un, SameE e H H' → bf ≠ e → H' bf = some (.tup [.ref s.m, .str s.t]) → SqT K H' pa ps0 → SqT K H' un (st :: us) → H' e = some (.ins T.e dx (edF ⟨pa, un, bf, m, t, mk, wd, res⟩)) → Q (.int (ps0.length : Nat)) H'))
theorem ok_undo (cf : CF K T) {f : Addr} {fd : FuncData} {CN CU : Addr} (F : FunD K "undo" "Editor.undo" (defArgs s_Editor_undo) (defBody s_Editor_undo) (defScope s_Editor_undo) [] [("many", .int 1)] f fd) (B : BN mg) (c1 : Cal P w K mg base (L2.CX P w) 4 "require_many" (spReqN K CN CU))
    (c2 : Mth P w K mg base CX0 1 T.e "version" (spVersion T)) (c3 : Mth P w K mg base CX0 13 T.e "change_to" (spChange T)) : FnOk P w K mg base (L2.CX P w) 14 f fd ["self", "many"] (spUndo K T CN CU) := by
  have S := sc_Editor_undo
  refine F.ok S (fun vs H Q E h => ?_) (fun cdv A outer s H vs Q E hr h => ?_)
  · obtain ⟨e, dx, s, ps, us, v, lt, rfl, _⟩ := h
    rfl
  · obtain ⟨e, dx, s0, ps, us, v, lt, rfl, he, hps, hpl, hus, hul, hlt, nv, hw⟩ := h
    have PX : Passes (L2.CX P w) (cxOf (L2.CX P w) P w K mg base ["self", "many", "left", "version", "gone", "before", "step"] "Editor.undo" (defScope s_Editor_undo) f cdv A outer s H E) E := passes_call (takes_of rfl rfl rfl rfl) (fun _ _ _ _ h => h)
    refine ⟨_, (pss_cons (ps_expr (pe_c c1 hr (by decide) (by rfl) (E := E) PX (pa_cons (pv 1) (pa_cons (pe_callB call_len (by rfl) B.len (by decide +kernel) (pa_cons (pe_fldK (K := K) rfl (pv 0) rfl) pa_nil)) pa_nil))))
      (pss_cons (ps_set (i := 2) S.nd rfl (.inl rfl) (pe_op op_sub (pe_callB call_len (by rfl) B.len (by decide +kernel) (pa_cons (pe_fldK (K := K) rfl (pv 0) rfl) pa_nil)) (pv 1)))
      (pss_cons (ps_set (i := 3) S.nd rfl (.inl rfl) (pe_ifExp (pt_cmpR op_gt (pv 1) pe_int (nomark _)) (pe_ix ix_tup (pe_ix ix_tup (pe_fldK (K := K) rfl (pv 0) rfl) (pv 2) (fun _ _ => rfl)) pe_int (fun _ _ => rfl)) (pe_m0 (pv 0) c2 hr (by decide) (E := E0) pass0)))
      (pss_cons (ps_setLc (i := 4) (own := [("before", 5), ("step", 6)]) (g := gTup K 2 (gCons (gName 5) (gCons (gName 6) gNil))) (tt := tYes) rfl S.nd rfl rfl (sw_true rfl rfl rfl (by decide +kernel)) (pi_tup (pe_slice sl_tupA (pe_fldK (K := K) rfl (pv 0) rfl) (po_some (pv 2)) po_none)) (blkOk_by (N := ["self", "many", "left", "version", "gone", "before", "step"]) (sc := defScope s_Editor_undo) (by decide +kernel)) (fun _ _ _ _ _ => (pg_tup rfl (pgs_cons (pg_name (i := 5) S.nd rfl (Or.inl rfl)) (pgs_cons (pg_name (i := 6) S.nd rfl (Or.inl rfl)) pgs_nil)))) (fun _ _ _ _ _ => pts_nil) (fun _ _ _ _ _ => (pv 6)))
      (pss_cons (ps_expr (pe_m (pv 0) c3 hr (by decide) (E := E0) pass0 (pa_cons (pv 3) (pa_cons (pe_slice sl_tupA (pe_fldK (K := K) rfl (pv 0) rfl) po_none (po_some (pv 2))) (pa_cons (pe_tup (StX.pa_star (pv 4) (StX.pa_star (pe_fldK (K := K) rfl (pv 0) rfl) pa_nil))) pa_nil)))))
      (pss_one (ps_ret (pv 2)))))))), ?_⟩
    have cl := cf.ie.cl
    have cn := cf.ne
    refine ⟨v, rfl, _, rfl, e, T.e, dx, _, _, rfl, he, cl, cn _ (by decide +kernel), rfl, _, ps.length, rfl, .inr ⟨_, hps, rfl⟩, v, _, rfl, nv, ?_⟩
    rcases hw with hA | ⟨i, rfl, h0, h1, hB⟩ | ⟨rfl, ps0, pr, ver, m, t, st, rfl, hpr, hver, hfit, q⟩
    · exact .inl hA
    · exact .inr (.inl ⟨i, rfl, h0, h1, hB⟩)
    have hlen : (ps0 ++ [V.ref pr]).length = ps0.length + 1 := by simp
    refine .inr (.inr ⟨1, rfl, by decide, by rw [hlen]; omega, ?_⟩)
    refine ⟨_, rfl, e, T.e, dx, _, _, rfl, he, cl, cn _ (by decide +kernel), rfl, _, _, rfl, .inr ⟨_, hps, rfl⟩, _, rfl, _, _, rfl, rfl, ?_⟩
    have hleft : (((ps0 ++ [V.ref pr]).length : Nat) : Int) - 1 = (ps0.length : Nat) := by rw [hlen]; omega
    have eL : ∀ (G : V → Prop), G (.int (ps0.length : Nat)) → G (.int ((((ps0 ++ [V.ref pr]).length : Nat) : Int) - 1)) := fun G h => by
      rw [hleft]
      exact h
    refine eL (fun L => gName 2 L _ H _) ?_
    refine ⟨_, rfl, _, _, rfl, rfl, _, rfl, iteT' (by decide) ?_⟩
    refine ⟨_, rfl, e, T.e, dx, _, _, rfl, he, cl, cn _ (by decide +kernel), rfl, _, rfl, s0.past, _, (ps0.length : Nat), .ref pr, rfl, rfl, hps, atI_nat (by simp), ?_⟩
    refine ⟨pr, _, 0, .ref ver, rfl, rfl, SqT.of hpr, atI_nat (j := 0) rfl, ?_⟩
    -- what is undone
    refine ⟨_, rfl, e, T.e, dx, _, _, rfl, he, cl, cn _ (by decide +kernel), rfl, _, rfl, (ps0.length : Nat), rfl, ?_⟩
    refine slA_lo hps (ys := [.ref pr]) (by rw [cutV_drop]; exact List.drop_left) (fun g0 H1 sm1 hg0 => ?_)
    refine ⟨g0, rfl, ⟨_, hg0⟩, fun D hD => ?_⟩
    refine lc_gen2 (walk_tup (K := K) (a := g0) (xs := [.ref pr])) [st] rfl (by show 1 ≤ sizeLine; decide) hD (fun Hx s => seqT s hg0) ?_ ?_
    · rintro i x Ha Hb K1 hi sm ⟨o, hDo⟩ ⟨rfl, hx⟩ k
      have hi0 : i = 0 := by simpa using hi
      subst hi0
      have hx' : x = .ref pr := by
        have : [V.ref pr][0]? = some x := hx
        simpa using this.symm
      subst hx'
      refine ⟨pr, _, rfl, SqT.of (sm _ _ (sm1 _ _ hpr)), rfl, _, _, rfl, ?_⟩
      refine ⟨_, _, rfl, rfl, rfl, ?_⟩
      exact ⟨_, rfl, k _ _ rfl rfl sm⟩
    · intro H2 sm2 hD2
      have sm := sm1.trans sm2
      have he2 := sm _ _ he
      -- the change
      refine ⟨_, rfl, e, dx, _, rfl, he2, rfl, _, rfl, _, rfl, e, T.e, dx, _, _, rfl, he2, cl, cn _ (by decide +kernel), rfl, _, rfl, (ps0.length : Nat), rfl, ?_⟩
      refine slA (seqT sm hps) (ys := ps0) (by rw [cutV_take]; exact List.take_left) (fun pa H3 sm3 hpa => ?_)
      refine ⟨_, rfl, D, [st], rfl, .inr (SqL.of (sm3 _ _ hD2)), ?_⟩
      refine ⟨_, rfl, e, T.e, dx, _, _, rfl, sm3 _ _ he2, cl, cn _ (by decide +kernel), rfl, s0.undone, us, rfl, .inl (seqT (sm.trans sm3) hus), ?_⟩
      refine ⟨?_, fun un hun => ?_⟩
      · simp
        exact Nat.le_trans (show us.length + 1 ≤ 901 by omega) (by decide)
      have sm4 := (sm.trans sm3).trans (same_upd (o := .tup ([st] ++ (us ++ []))) hun)
      have hpa4 := seqT (same_upd (o := .tup ([st] ++ (us ++ []))) hun) hpa
      have hun4 : upd H3 un (.tup ([st] ++ (us ++ []))) un = some (.tup (st :: us)) := by rw [upd_same]; simp
      have he4 := sm4 _ _ he
      have hver4 := sm4 _ _ hver
      generalize upd H3 un (.tup ([st] ++ (us ++ []))) = H4 at sm4 hpa4 hun4 he4 hver4
      have nt : ∀ {b : Addr} {l : List V}, H4 b = some (.tup l) → b ≠ e := fun {b l} h z => by
        rw [z, he4] at h
        cases h
      obtain ⟨ls, hl1, hl2⟩ := hfit
      refine ⟨e, dx, s0, ver, m, t, ls, pa, un, rfl, he4, hver4, (hlt.same sm4) m ls hl1, hl2.1, hl2.2, fun H' mk wd bf r sE hbf hbe hE => ?_⟩
      refine ⟨_, rfl, q H' mk wd bf r pa un ((SameE.of sm4).trans sE) hbe hbf (sqE sE he4 hpa4) (SqT.of (sE _ _ (nt hun4) hun4)) hE⟩
end
end K67
end
section
set_option Elab.async false
set_option linter.all false
set_option maxRecDepth 100000
set_option maxHeartbeats 4000000
namespace K67
open PySem PySem.Spec PyProof.Rows L2
section
variable {P : Program} {w : World} {K : PySem.W.Frag} {mg : Str → Option Value} {base : Heap} {T : Cls3}
def spRedo (K : PySem.W.Frag) (T : Cls3) (CN CU : Addr) : Sp := fun vs H Q E => ∃ e dx, ∃ s : EdF, ∃ ps us v lt, vs = [.ref e, v] ∧ H e = some (.ins T.e dx (edF s)) ∧ SqT K H s.past ps ∧ ps.length ≤ 900 ∧ SqT K H s.undone us ∧ us.length ≤ 900 ∧ LT T lt H ∧ Nice K H v ∧
  (((isI v = false ∨ ∃ i, v = .int i ∧ i < 0) ∧ ∀ H' d, Same H H' → H d = none → H' d = some (.xd [(("value" : Str), v)]) → E (.ref CN) (some d) H') ∨
   (∃ i, v = .int i ∧ 0 ≤ i ∧ (us.length : Int) < i ∧ ∀ H' d, Same H H' → H d = none → H' d = some (.xd [(("many" : Str), v)]) → E (.ref CU) (some d) H') ∨
   (v = .int 1 ∧ FitV lt (s.m, s.t) ∧ ∃ a xs os us0 r, us = .ref a :: us0 ∧ H a = some (.tup xs) ∧ Edts K T lt H xs os ∧ runO lt (s.m, s.t) os = some r ∧
     ∀ H' mk wd bf res pa un pr vr, SameE e H H' → bf ≠ e → H' bf = some (.tup [.ref s.m, .str s.t]) → H' vr = some (.tup [.ref s.m, .str s.t]) → H' pr = some (.tup [.ref vr, .ref a]) → SqT K H' pa (ps ++ [.ref pr]) → SqT K H' un us0 → H' e = some (.ins T.e dx (edF ⟨pa, un, bf, r.1, r.2, mk, wd, res⟩)) → Q (.int ((ps.length + 1 : Nat) : Int)) H'))
theorem ok_redo (cf : CF K T) {f : Addr} {fd : FuncData} {CN CU C : Addr} (F : FunD K "redo" "Editor.redo" (defArgs s_Editor_redo) (defBody s_Editor_redo) (defScope s_Editor_redo) [] [("many", .int 1)] f fd) (B : BN mg) (c1 : Cal P w K mg base (L2.CX P w) 4 "require_many" (spReqN K CN CU))
    (c2 : Mth P w K mg base CX0 1 T.e "version" (spVersion T)) (c3 : Mth P w K mg base CX0 13 T.e "change_to" (spChange T)) (c4 : Cal P w K mg base (L2.CX P w) 4 "edited" (spEd K T C)) : FnOk P w K mg base (L2.CX P w) 14 f fd ["self", "many"] (spRedo K T CN CU) := by
  have S := sc_Editor_redo
  refine F.ok S (fun vs H Q E h => ?_) (fun cdv A outer s H vs Q E hr h => ?_)
  · obtain ⟨e, dx, s, ps, us, v, lt, rfl, _⟩ := h
    rfl
  · obtain ⟨e, dx, s0, ps, us, v, lt, rfl, he, hps, hpl, hus, hul, hlt, nv, hw⟩ := h
    have PX : Passes (L2.CX P w) (cxOf (L2.CX P w) P w K mg base ["self", "many", "version", "past", "step", "edit"] "Editor.redo" (defScope s_Editor_redo) f cdv A outer s H E) E := passes_call (takes_of rfl rfl rfl rfl) (fun _ _ _ _ h => h)
    refine ⟨_, (pss_cons (ps_expr (pe_c c1 hr (by decide) (by rfl) (E := E) PX (pa_cons (pv 1) (pa_cons (pe_callB call_len (by rfl) B.len (by decide +kernel) (pa_cons (pe_fldK (K := K) rfl (pv 0) rfl) pa_nil)) pa_nil))))
      (pss_cons (ps_par (i := 2) (j := 3) rfl S.nd rfl rfl (by decide) rfl rfl (pa_cons (pe_m0 (pv 0) c2 hr (by decide) (E := E0) pass0) (pa_cons (pe_callTy call_list_of (by rfl) B.list (by decide +kernel) (pa_cons (pe_fldK (K := K) rfl (pv 0) rfl) pa_nil)) pa_nil)) (by rfl))
      (pss_cons (ps_for (passes_of rfl) rfl (pi_tup (pe_slice sl_tupA (pe_fldK (K := K) rfl (pv 0) rfl) po_none (po_some (pv 1)))) (pg_name (i := 4) S.nd rfl (Or.inl rfl)) (pss_cons (ps_expr (pe_bm PySem.F.plainAttrs_list PySem.F.slot_list_append PySem.F.type_list_append mt_append (pv 3) (pa_cons (pe_tup (pa_cons (pv 2) (pa_cons (pv 4) pa_nil))) pa_nil)))
      (pss_one (ps_for (passes_of rfl) rfl (pi_tup (pv 4)) (pg_name (i := 5) S.nd rfl (Or.inl rfl)) (pss_one (ps_set (i := 2) S.nd rfl (.inl rfl) (pe_c c4 hr (by decide) (by rfl) (E := E) PX (pa_cons (pv 2) (pa_cons (pv 5) pa_nil)))))))))
      (pss_cons (ps_expr (pe_m (pv 0) c3 hr (by decide) (E := E0) pass0 (pa_cons (pv 2) (pa_cons (pe_callTy call_tuple_of (by rfl) B.tuple (by decide +kernel) (pa_cons (pv 3) pa_nil)) (pa_cons (pe_slice sl_tupA (pe_fldK (K := K) rfl (pv 0) rfl) (po_some (pv 1)) po_none) pa_nil)))))
      (pss_one (ps_ret (pe_callB call_len (by rfl) B.len (by decide +kernel) (pa_cons (pv 3) pa_nil)))))))), ?_⟩
    have cl := cf.ie.cl
    have cn := cf.ne
    refine ⟨v, rfl, _, rfl, e, T.e, dx, _, _, rfl, he, cl, cn _ (by decide +kernel), rfl, _, us.length, rfl, .inr ⟨_, hus, rfl⟩, v, _, rfl, nv, ?_⟩
    rcases hw with hA | ⟨i, rfl, h0, h1, hB⟩ | ⟨rfl, hfit, a, xs, os, us0, r, rfl, ha, hos, hrun, q⟩
    · exact .inl hA
    · exact .inr (.inl ⟨i, rfl, h0, h1, hB⟩)
    refine .inr (.inr ⟨1, rfl, by decide, by simp; omega, ?_⟩)
    -- version, past
    refine ⟨_, rfl, e, dx, _, rfl, he, rfl, e, dx, _, _, _, rfl, he, rfl, rfl, fun vr hvr => ?_⟩
    have sm0 := same_upd (o := .tup [.ref s0.m, .str s0.t]) hvr
    have hv0 : upd H vr (.tup [.ref s0.m, .str s0.t]) vr = some (.tup [.ref s0.m, .str s0.t]) := upd_same
    generalize upd H vr (.tup [.ref s0.m, .str s0.t]) = H0 at sm0 hv0
    refine ⟨_, rfl, e, T.e, dx, _, _, rfl, sm0 _ _ he, cl, cn _ (by decide +kernel), rfl, _, _, rfl, .inr (seqT sm0 hps), fun l hl => ?_⟩
    have hHl : H l = none := fresh_of sm0 hl
    have sm1 := sm0.trans (same_upd (o := .lst ps) hl)
    have hl1 : upd H0 l (.lst ps) l = some (.lst ps) := upd_same
    have hv1 := same_upd (o := .lst ps) hl _ _ hv0
    generalize upd H0 l (.lst ps) = H1 at sm1 hl1 hv1
    refine ⟨_, _, rfl, ?_⟩
    refine ⟨_, rfl, e, T.e, dx, _, _, rfl, sm1 _ _ he, cl, cn _ (by decide +kernel), rfl, _, rfl, 1, rfl, ?_⟩
    refine slA (seqT sm1 hus) (ys := [.ref a]) (by rw [show (1 : Int) = ((1 : Nat) : Int) from rfl, cutV_take]; rfl) (fun g0 H2 sm2 hg0 => ?_)
    refine ⟨g0, rfl, ⟨_, hg0⟩, ?_⟩
    have smx := sm1.trans sm2
    refine for_it (walk_tup (K := K) (a := g0) (xs := [.ref a])) (fun i σ Hc => Same H Hc ∧ SqT K Hc g0 [.ref a] ∧ ((i = 0 ∧ ∃ z1 z2, σ = [some (.ref e), some (.int 1), some (.ref vr), some (.ref l), z1, z2] ∧ Hc l = some (.lst ps) ∧ Hc vr = some (.tup [.ref s0.m, .str s0.t])) ∨
      (i = 1 ∧ ∃ z1 z2 vx pr, σ = [some (.ref e), some (.int 1), some (.ref vx), some (.ref l), z1, z2] ∧ Hc l = some (.lst (ps ++ [.ref pr])) ∧ Hc vr = some (.tup [.ref s0.m, .str s0.t]) ∧ Hc pr = some (.tup [.ref vr, .ref a]) ∧ Hc vx = some (.tup [.ref r.1, .str r.2])))) ?_ ?_ ?_ ?_
    · exact ⟨smx, hg0, .inl ⟨rfl, none, none, rfl, sm2 _ _ hl1, sm2 _ _ hv1⟩⟩
    · rintro i σ Hc _ ⟨_, h, _⟩
      exact h
    · rintro i x σ Ha Hb hi ⟨sm, hg, hst⟩ ⟨rfl, hx⟩
      have hi0 : i = 0 := by simpa using hi
      subst hi0
      have hx' : x = .ref a := by
        have : [V.ref a][0]? = some x := hx
        simpa using this.symm
      subst hx'
      rcases hst with ⟨_, z1, z2, rfl, hlc, hvc⟩ | ⟨h, _⟩
      rotate_left
      · cases h
      -- past.append((version, step))
      refine ⟨_, rfl, .inl ⟨rfl, _, SqL.of hlc⟩, _, rfl, _, rfl, by show 2 ≤ sizeLine; decide, fun pr hpr => ?_⟩
      have smp := sm.trans (same_upd (o := .tup [.ref vr, .ref a]) hpr)
      have hlp := same_upd (o := .tup [.ref vr, .ref a]) hpr _ _ hlc
      have hprp : upd Hb pr (.tup [.ref vr, .ref a]) pr = some (.tup [.ref vr, .ref a]) := upd_same
      have hvp := same_upd (o := .tup [.ref vr, .ref a]) hpr _ _ hvc
      have hgp := seqT (same_upd (o := .tup [.ref vr, .ref a]) hpr) hg
      generalize upd Hb pr (.tup [.ref vr, .ref a]) = Hp1 at smp hlp hprp hvp hgp
      refine ⟨l, _, _, rfl, rfl, hlp, Nat.lt_of_le_of_lt hpl (by decide), ?_⟩
      have sm2' : Same H (upd Hp1 l (.lst (ps ++ [.ref pr]))) := same_put smp hHl
      have ne : ∀ {b : Addr} {o : HO}, Hp1 b = some o → o ≠ .lst ps → b ≠ l := fun {b o} h hn z => by
        rw [z, hlp] at h
        exact hn (Option.some.inj h).symm
      have hl3 : upd Hp1 l (.lst (ps ++ [.ref pr])) l = some (.lst (ps ++ [.ref pr])) := upd_same
      have hpr3 : upd Hp1 l (.lst (ps ++ [.ref pr])) pr = some (.tup [.ref vr, .ref a]) := by rw [upd_ne (ne hprp (fun z => by cases z))]; exact hprp
      have hv3 : upd Hp1 l (.lst (ps ++ [.ref pr])) vr = some (.tup [.ref s0.m, .str s0.t]) := by rw [upd_ne (ne hvp (fun z => by cases z))]; exact hvp
      have hg3 : SqT K (upd Hp1 l (.lst (ps ++ [.ref pr]))) g0 [.ref a] := by
        rcases hgp with h | h
        · rcases h with h | ⟨o, h⟩
          · exact .inl (.inl (by rw [upd_ne (ne h (fun z => by cases z))]; exact h))
          · exact .inl (.inr ⟨o, by rw [upd_ne (ne h (fun z => by cases z))]; exact h⟩)
        · exact .inr h
      generalize upd Hp1 l (.lst (ps ++ [.ref pr])) = H3 at sm2' hl3 hpr3 hv3 hg3
      -- the edits
      refine ⟨_, rfl, a, rfl, ⟨_, SqT.of (sm2' _ _ ha)⟩, ?_⟩
      refine for_tup (K := K) (a := a) (xs := xs) (fun i σ H' => Same H3 H' ∧ ∃ vr' m t z, σ = [some (.ref e), some (.int 1), some (.ref vr'), some (.ref l), some (.ref a), z] ∧ H' vr' = some (.tup [.ref m, .str t]) ∧ runO lt (s0.m, s0.t) (os.take i) = some (m, t)) ?_ ?_ ?_ ?_
      · exact ⟨Same.refl _, vr, s0.m, s0.t, _, rfl, hv3, rfl⟩
      · rintro i σ H' _ ⟨s3, _⟩
        exact SqT.of (s3 _ _ (sm2' _ _ ha))
      · rintro i x σ H' hxi ⟨s3, vr', m, t, z, rfl, hvr', hrn⟩
        obtain ⟨o, hoi, hed⟩ := hos.get hxi
        obtain ⟨ls, hf1, hf2⟩ := runO_fit _ hfit hrn
        have hz60 : t.length ≤ 60 := isT_short hf2.1
        have hnext := runO_take os i hrn hoi
        have smf := sm2'.trans s3
        refine ⟨_, rfl, _, rfl, vr', m, t, ls, x, o, lt, rfl, SqT.of hvr', hz60, ((hlt.same smf) m ls hf1).hasL cf, (hlt.same smf).ok cf, hed.same smf, ?_⟩
        unfold EdWant
        have hst : stepO lt (m, t) o = (match edO lt ls t (.ref m) o with | some (.ref m', t') => some (m', t') | _ => none) := by
          unfold stepO
          rw [hf1] <;> rfl
        cases eo : edO lt ls t (.ref m) o with
        | none =>
          rw [eo] at hst
          have hnone : runO lt (s0.m, s0.t) os = none := runO_none os (i + 1) (by rw [hnext, hst])
          rw [hrun] at hnone
          cases hnone
        | some q =>
          obtain ⟨m', hm', _⟩ := edO_fit hf1 hf2 eo
          obtain ⟨q1, q2⟩ := q
          replace hm' : q1 = .ref m' := hm'
          subst hm'
          rw [eo] at hst
          intro H2 p sm2 _ hp
          exact ⟨s3.trans sm2, p, m', q2, _, rfl, hp, by rw [hnext, hst]⟩
      · rintro σ H' ⟨s3, vr', m, t, z, rfl, hvr', hrn⟩
        rw [hos.length, List.take_of_length_le (Nat.le_refl _), hrun] at hrn
        cases hrn
        exact ⟨sm2'.trans s3, seqT s3 hg3, .inr ⟨rfl, _, _, vr', pr, rfl, s3 _ _ hl3, s3 _ _ hv3, s3 _ _ hpr3, hvr'⟩⟩
    · rintro σ Hc ⟨sm, hg, hst⟩
      rcases hst with ⟨h, _⟩ | ⟨_, z1, z2, vx, pr, rfl, hlc, hvc, hprc, hvxc⟩
      · cases h
      have he2 := sm _ _ he
      refine ⟨_, rfl, e, dx, _, rfl, he2, rfl, _, rfl, _, rfl, l, _, rfl, .inl ⟨SqL.of hlc, fun pa hpa => ?_⟩⟩
      have sm3 := same_upd (o := .tup (ps ++ [.ref pr])) hpa
      have hpa3 : upd Hc pa (.tup (ps ++ [.ref pr])) pa = some (.tup (ps ++ [.ref pr])) := upd_same
      generalize upd Hc pa (.tup (ps ++ [.ref pr])) = H3 at sm3 hpa3
      refine ⟨_, rfl, e, T.e, dx, _, _, rfl, sm3 _ _ he2, cl, cn _ (by decide +kernel), rfl, _, rfl, 1, rfl, ?_⟩
      refine slA_lo (seqT (sm.trans sm3) hus) (ys := us0) (by rw [show (1 : Int) = ((1 : Nat) : Int) from rfl, cutV_drop]; rfl) (fun un H4 sm4 hun => ?_)
      have smA := (sm.trans sm3).trans sm4
      have sm34 := sm3.trans sm4
      have he4 := smA _ _ he
      have nt : ∀ {b : Addr} {o : HO}, H4 b = some o → (∀ d f, o ≠ .ins T.e d f) → b ≠ e := fun {b o} h hn z => by
        rw [z, he4] at h
        exact hn _ _ (Option.some.inj h).symm
      have tn : ∀ (l : List V) d f, (HO.tup l) ≠ .ins T.e d f := fun _ _ _ z => by cases z
      have hpa4 := sm4 _ _ hpa3
      obtain ⟨ls, hl1', hl2⟩ := runO_fit _ hfit hrun
      refine ⟨e, dx, s0, vx, r.1, r.2, ls, pa, un, rfl, he4, sm34 _ _ hvxc, (hlt.same smA) r.1 ls hl1', hl2.1, hl2.2, fun H' mk wd bf res sE hbf hbe hE => ?_⟩
      have hl4 := sm34 _ _ hlc
      refine ⟨_, rfl, _, (ps ++ [V.ref pr]).length, rfl, .inl ⟨_, SqL.of (sE _ _ (nt hl4 (fun _ _ z => by cases z)) hl4), rfl⟩, ?_⟩
      rw [List.length_append]
      exact q H' mk wd bf res pa un pr vr ((SameE.of smA).trans sE) hbe hbf (sE _ _ (nt (sm34 _ _ hvc) (tn _)) (sm34 _ _ hvc)) (sE _ _ (nt (sm34 _ _ hprc) (tn _)) (sm34 _ _ hprc)) (SqT.of (sE _ _ (nt hpa4 (tn _)) hpa4)) (sqE sE he4 hun) hE
end
end K67
end
section
set_option Elab.async false
set_option linter.all false
set_option maxRecDepth 100000
set_option maxHeartbeats 4000000
namespace K67
open PySem PySem.Spec PyProof.Rows L2
/-! ### enumerate(tuple) -/
theorem meets_enum1 {v : Value} {o : Obj} {H : Heap → Prop} (B : Begins v o H) :
    Meets (Builtin.«enumerate.__new__» ⟨[.type "enumerate", v], []⟩) (fun _ R s => H s.heap ∧
      R (.ok (.ret (.ref (s.heap.push o).objs.size))) { s with heap := (s.heap.push o).push { cls := .type "enumerate", data := .fields #[.none, .bool false, .ref s.heap.objs.size, rawInt 0, .none, .none] } }) :=
  .of_wp fun prog w A R s h => by
    obtain ⟨hp, g, d, tk, os⟩ := s; obtain ⟨h1, h⟩ := h
    have hsub := sub_enumerate
    have q1 : ∀ {A' : Around} {E : Value → Shared → Prop} {Q : Value → Shared → Prop}, Q (.ref hp.objs.size) ⟨hp.push o, g, d, tk, os⟩ → wpAny (model prog w) A' (pyIter v) Q E ⟨hp, g, d, tk, os⟩ :=
      fun q => B.iter prog w _ _ ⟨hp, g, d, tk, os⟩ _ h1 q
    wp_walk using q1
    all_goals first
      | exact ⟨_, rfl, h⟩
      | (refine wpAny_stack_any fun st => wpAny_pure ?_
         split
         · rename_i c _ _ _ _ _
           cases (c == Value.type "enumerate")
           · wp_walk using q1
             exact ⟨_, rfl, h⟩
           · wp_walk using q1
             exact ⟨_, rfl, h⟩
         · wp_walk using q1
           exact ⟨_, rfl, h⟩)
section
variable {prog : Program} {w : World} {A : Around} {E : Value → Shared → Prop} {s : Shared}
theorem enum1_begins {v : Value} {o : Obj} {H : Heap → Prop} {Q : Value → Shared → Prop} (B : Begins v o H) (h1 : H s.heap)
    (h : ∀ h', IsEnum h' (s.heap.objs.size + 1) s.heap.objs.size 0 .none → h'.get? s.heap.objs.size = some o → h'.objs.size = s.heap.objs.size + 2 →
      (∀ b o, s.heap.get? b = some o → h'.get? b = some o) → Q (.ref (s.heap.objs.size + 1)) { s with heap := h' }) :
    wpAny (model prog w) A (call (.type "enumerate") [v]) Q E s := by
  refine callType_new F.called_enumerate (by decide) (F.typeCall_enumerate_1 _) (F.newCall_enumerate_1 _) (fun obj => F.args_object_init_2 obj _) F.entry_enumerate_new
    (meets_enum1 B) ⟨h1, ?_⟩
  have hz : (s.heap.push o).objs.size = s.heap.objs.size + 1 := Heap.size_push ..
  show _ ∧ _
  rw [hz]
  have he : IsEnum ((s.heap.push o).push { cls := .type "enumerate", data := .fields #[.none, .bool false, .ref s.heap.objs.size, rawInt 0, .none, .none] }) (s.heap.objs.size + 1) s.heap.objs.size 0 .none := by
    have := Heap.get?_push_size (s.heap.push o) (o := { cls := .type "enumerate", data := .fields #[.none, .bool false, .ref s.heap.objs.size, rawInt 0, .none, .none] }) rfl
    rw [hz] at this; exact this
  refine ⟨⟨_, he, rfl⟩, h _ he (Heap.get?_push_of_some _ (Heap.get?_push_size _ B.free)) (by rw [Heap.size_push, hz]) fun b o x => Heap.get?_push_of_some _ (Heap.get?_push_of_some _ x)⟩
end
def Itet (a : Addr) : It :=
  ⟨fun i H => ∃ (xs : List V) (x : V), H a = some (.tup xs) ∧ xs[i]? = some x, fun i H v H' => ∃ T x, v = .ref T ∧ H T = none ∧ H' = upd H T (.tup [.int (i : Nat), x]) ∧ ∀ xs, H a = some (.tup xs) → xs[i]? = some x, fun i H => ∃ xs : List V, H a = some (.tup xs) ∧ xs.length = i⟩
theorem turn_enumT {P : Program} {w : World} {K : PySem.W.Frag} {elts : List Expr} {kk : Nat} {tpos : Pos} (a e it : Addr) :
    Turn P w K (.Tuple elts kk tpos) (Itet a) [e, it] e (fun i h => (∃ old, IsEnum h e it ((i : Nat) : Int) old) ∧ h.IsTupleIter it a i ∧ e ≠ it) where
  mem := by simp
  obj := fun i h st b hb => by
    obtain ⟨⟨old, he⟩, ⟨o, ho, hc, hd⟩, _⟩ := st
    have e' : b = e ∨ b = it := by simpa using hb
    rcases e' with z | z
    · rw [z]; exact ⟨_, he, fun v q => nomatch q⟩
    · rw [z]; exact ⟨o, ho, fun v q => by rw [hd] at q; cases q⟩
  keep := fun i h h' st k => let ⟨⟨old, he⟩, hi, hne⟩ := st; ⟨⟨old, k e (by simp) _ he⟩, hi.at fun o q => k it (by simp) o q, hne⟩
  item := by
    intro X hP hw hK hc i pins s σ H E I hf st hg
    subst hP hw hK
    have hh : X.A.in1.handled = none := I.ok.hd hc
    obtain ⟨⟨old, he⟩, hit, hne⟩ := st
    obtain ⟨xs, x, hq, hx⟩ := hg
    obtain ⟨its, rv, p, hz⟩ := I.tuple (SqT.of hq)
    obtain ⟨u, hu, ru⟩ := rv.get hx
    have hlen := rv.length
    have hel : e < s.heap.objs.size := Heap.lt_size he
    have hil : it < s.heap.objs.size := by obtain ⟨_, q, _⟩ := hit; exact Heap.lt_size q
    have ne : ∀ b ∈ [e, it], b ≠ a := fun b hb z => by
      have := (hf b hb).1
      rw [z, hq] at this
      cases this
    have hi : i < xs.length := (List.getElem?_eq_some_iff.mp hx).1
    refine wpAny_pyNext_enum_itemD (Draws.tuple (prog := X.prog) (w := X.w) hh it a (fun z => ne it (by simp) z.symm) its.toArray) he ⟨hit, p⟩ (by simp [← hlen]; exact hi) hne (by simp [hne]; exact ne e (by simp)) fun x2 h' tk hP ho hit' hT hsz hk => ?_
    have hx2 : its[i]? = some x2 := by simpa using hP
    have ex : u = x2 := Option.some.inj (hu.symm.trans hx2)
    subst ex
    refine ⟨_, rfl, wpAny_letOwnedTupleGo_enum (s := { s with heap := h', toks := tk + 1 }) ho fun h'' he' sb => ?_⟩
    have hT2 : h''.get? s.heap.objs.size = some { cls := .type "tuple", data := .seq #[.int i tk, u] } := (sb.2 _ (Nat.ne_of_gt hel)).trans hT
    have new : ObjOk X.prog X.w (upd H s.heap.objs.size (.tup [.int (i : Nat), x])) h'' s.heap.objs.size (.tup [.int (i : Nat), x]) :=
      ⟨by show 2 ≤ sizeLine; decide, [.int i tk, u], .cons ⟨_, rfl⟩ (.cons ru .nil), ⟨_, hT2, rfl, _, rfl⟩⟩
    have I1 : Inv X pins σ (upd H s.heap.objs.size (.tup [.int (i : Nat), x])) { s with heap := h'', toks := tk + 1 } :=
      I.turnedNew (ch := [e, it]) (fun b ob hb q => (sb.2 b (fun z => hb (by simp [z]))).trans (hk b ob (fun z => hb (by simp [z])) (fun z => hb (by simp [z])) q)) hf (Nat.le_refl _) new
    refine ⟨.ref s.heap.objs.size, _, I1, rfl, ⟨_, x, rfl, I.hok.fresh (Nat.le_refl _), rfl, fun ys hy => by rw [hq] at hy; cases hy; exact hx⟩, ⟨⟨u, ?_⟩, hit'.1.at fun o q => (sb.2 it (Ne.symm hne)).trans q, hne⟩, fun b hb => ?_⟩
    · have e1 : ((i + 1 : Nat) : Int) = (i : Int) + 1 := by omega
      rw [e1]; exact he'
    · have hb' : b < s.heap.objs.size := by
        have e' : b = e ∨ b = it := by simpa using hb
        rcases e' with z | z
        · rw [z]; exact hel
        · rw [z]; exact hil
      rw [upd_ne (Nat.ne_of_lt hb')]
      exact (hf b hb).1
  done := by
    intro X hP hw hK hc i pins s σ H E I hf st hg
    subst hP hw hK
    have hh : X.A.in1.handled = none := I.ok.hd hc
    obtain ⟨⟨old, he⟩, hit, hne⟩ := st
    obtain ⟨xs, hq, hx⟩ := hg
    obtain ⟨its, rv, p, hz⟩ := I.tuple (SqT.of hq)
    obtain ⟨f0, f1, f2, f3, f4, f5⟩ := hf it (by simp)
    have hl := rv.length
    have ne : it ≠ a := fun z => by
      rw [z, hq] at f0
      cases f0
    have es : its.toArray.size = i := by simp [← hl, hx]
    exact wpAny_pyNext_enum_endD (Draws.tuple (prog := X.prog) (w := X.w) hh it a (fun z => ne z.symm) its.toArray) he (by rw [es]; exact ⟨hit, p⟩) fun h' eb => ⟨rfl, I.turned (t' := s.toks) (fun b o hb q => eb b o hb q) f0 f1 f3 f4 f5⟩
  self := fun A i s Q E st h => let ⟨⟨_, he⟩, _⟩ := st; wpAny_pyIter_enum he h
def iEnumT (ta : TA) : TI := fun σ H R => ta σ H fun vs H1 => ∃ a xs, vs = [.ref a] ∧ H1 a = some (.tup xs) ∧ R (Itet a) H1
theorem pi_enumT {X : Cx} {e : Expr} {ta : TA} {p pos tpos : Pos} {elts : List Expr} {kk : Nat} (hg : Gl X "enumerate") (hm : X.mg "enumerate" = none) (ha : PA X [e] ta) (hs : starEach [e] X.env = [(false, eval e X.env)] := by rfl) :
    PI X (.Tuple elts kk tpos) (.Call (.Name "enumerate" p) [e] [] pos) (iEnumT ta) := by
  refine ⟨fun pins s σ H R I h => ?_⟩
  refine Call_ (ld_blt I hg hm boot_enumerate (PyProof.Rows.callWith_type1 (thn (ha.run pos pins s σ H _ I h) fun us s1 ⟨vs, H1, I1, r1, q1⟩ => ?_) hs rfl))
  obtain ⟨a, xs, ex, hq, q⟩ := q1
  subst ex
  cases r1 with
  | cons r rr =>
    cases rr
    cases r
    obtain ⟨its, rv, p', hz⟩ := I1.tuple (SqT.of hq)
    refine enum1_begins (begins_tuple a its.toArray) p' fun h' he hit hsz hk => wpAny_pyIter_enum he ?_
    have I2 : Inv X pins σ H1 { s1 with heap := h' } := I1.kept (t' := s1.toks) hk
    refine ⟨s1.heap.objs.size + 1, [s1.heap.objs.size + 1, s1.heap.objs.size], _, _, H1, rfl, I2, turn_enumT a (s1.heap.objs.size + 1) s1.heap.objs.size, ⟨⟨.none, he⟩, ⟨_, hit, rfl, rfl⟩, Nat.succ_ne_self _⟩, fun b hb => ?_, q⟩
    have e' : b = s1.heap.objs.size + 1 ∨ b = s1.heap.objs.size := by simpa using hb
    have hle : s1.heap.objs.size ≤ b := by
      rcases e' with z | z
      · rw [z]; exact Nat.le_add_right _ _
      · rw [z]; exact Nat.le_refl _
    exact I1.fpOk hle (I1.hok.fresh hle)
theorem walk_enumT {a : Addr} {xs : List V} : Walk (Itet a) xs.length (fun H => H a = some (.tup xs)) (YPair (fun i => some (.int (i : Nat))) (fun i => xs[i]?)) := by
  refine ⟨fun i _ hi q => ⟨xs, xs[i], q, by simp [hi]⟩, fun _ q => ⟨xs, q, rfl⟩, fun i H v H' _ q y => ?_⟩
  obtain ⟨T, x, h1, h2, h3, h4⟩ := y
  exact ⟨T, .int (i : Nat), x, h1, h2, h3, rfl, h4 xs q⟩
end K67
end
section
set_option Elab.async false
set_option linter.all false
set_option maxRecDepth 100000
set_option maxHeartbeats 4000000
namespace K67
open PySem PySem.Spec PyProof.Rows L2
/-! ### news -/
def bgn (x y : Str) : Nat := cpre x.cps.toList y.cps.toList
def enn (x y : Str) : Nat := cpre (x.cps.toList.drop (bgn x y)).reverse (y.cps.toList.drop (bgn x y)).reverse
/-- a place whose mark is new -/
def isNew (x y : Str) (p : Nat) : Bool := decide (bgn x y < p) && decide (p + enn x y < y.length)
theorem enn_le (x y : Str) : enn x y + bgn x y ≤ x.length ∧ enn x y + bgn x y ≤ y.length := by
  have h1 := cpre_le_left (x.cps.toList.drop (bgn x y)).reverse (y.cps.toList.drop (bgn x y)).reverse
  have h2 := cpre_le_right (x.cps.toList.drop (bgn x y)).reverse (y.cps.toList.drop (bgn x y)).reverse
  have h3 := cpre_le_left x.cps.toList y.cps.toList
  have h4 := cpre_le_right x.cps.toList y.cps.toList
  rw [List.length_reverse, List.length_drop] at h1 h2
  rw [sLen, sLen]
  unfold enn
  have e : bgn x y = cpre x.cps.toList y.cps.toList := rfl
  omega
/-- the entries (p, None, 0) -/
def NewsAt (H : Hp) (rs : List V) (ps : List Nat) : Prop := Paired (fun (r : V) (p : Nat) => ∃ a, r = .ref a ∧ H a = some (.tup [.int (p : Nat), .non, .int 0])) rs ps
theorem Paired.same {H H' : Hp} (s : Same H H') : ∀ {rs : List V} {ps : List Nat}, NewsAt H rs ps → NewsAt H' rs ps
  | _, _, .nil => .nil
  | _, _, .cons ⟨a, e, h⟩ t => .cons ⟨a, e, s _ _ h⟩ (Paired.same s t)
theorem news_snoc {H : Hp} : ∀ {rs : List V} {ps : List Nat} {r : V} {p : Nat}, NewsAt H rs ps → (∃ a, r = .ref a ∧ H a = some (.tup [.int (p : Nat), .non, .int 0])) → NewsAt H (rs ++ [r]) (ps ++ [p])
  | _, _, _, _, .nil, h => .cons h .nil
  | _, _, _, _, .cons g t, h => .cons g (news_snoc t h)
theorem zeros_get {n i : Nat} (h : i ≤ n) : (zeros (n + 1))[i]? = some (.int 0) := by
  unfold zeros
  rw [List.getElem?_replicate, if_pos (by omega)]
theorem news_up {H H' : Hp} (s : ∀ b xs, H b = some (.tup xs) → H' b = some (.tup xs)) : ∀ {rs : List V} {ps : List Nat}, NewsAt H rs ps → NewsAt H' rs ps
  | _, _, .nil => .nil
  | _, _, .cons ⟨a, e, h⟩ t => .cons ⟨a, e, s _ _ h⟩ (news_up s t)
theorem news_len {H : Hp} {rs : List V} {ps : List Nat} (h : NewsAt H rs ps) : rs.length = ps.length := Paired.length h
def newsP (x y : Str) (n : Nat) : List Nat := (List.range n).filter (isNew x y)
theorem newsP_succ (x y : Str) (n : Nat) : newsP x y (n + 1) = newsP x y n ++ (if isNew x y n = true then [n] else []) := by
  unfold newsP
  rw [List.range_succ, List.filter_append]
  by_cases h : isNew x y n = true
  · rw [if_pos h]; simp [h]
  · rw [if_neg h]; simp [h]
section
variable {P : Program} {w : World} {K : PySem.W.Frag} {mg : Str → Option Value} {base : Heap} {T : Cls3}
def spNewsB (T : Cls3) : Sp := fun vs H Q _ => ∃ a b m n x y lx ly, vs = [.ref a, .ref b] ∧ H a = some (.tup [.ref m, .str x]) ∧ H b = some (.tup [.ref n, .str y]) ∧ IsTwo T H m lx ∧ IsTwo T H n ly ∧ Fit lx x ∧ Fit ly y ∧
  ∀ H' p rs, Same H H' → H p = none → H' p = some (.lst rs) → NewsAt H' rs (newsP x y (y.length + 1)) → Q (.ref p) H'
theorem ok_news_between (cf : CF K T) {f : Addr} {fd : FuncData} (F : FnP K "news_between" "news_between" s_news_between f fd) (B : BN mg) (c1 : Cal P w K mg base CX0 1 "shared_letters" (spShared K)) (c2 : Mth P w K mg base CX0 5 T.m "row" (spRow K T)) :
    FnOk P w K mg base CX0 6 f fd ["before", "behind"] (spNewsB T) := by
  have S := sc_news_between
  refine ok0 F S (fun vs H Q E h => ?_) (fun cdv A outer s H vs Q E hr h => ?_)
  · obtain ⟨a, b, m, n, x, y, lx, ly, rfl, _⟩ := h
    rfl
  · obtain ⟨a, b, m, n, x, y, lx, ly, rfl, ha, hb, hm, hn, fx, fy, q⟩ := h
    refine ⟨_, (pss_cons (ps_par (i := 2) (j := 3) rfl S.nd rfl rfl (by decide) rfl rfl (pa_cons (pe_ix ix_tup (pv 0) pe_int (fun _ _ => rfl)) (pa_cons (pe_ix ix_tup (pv 1) pe_int (fun _ _ => rfl)) pa_nil)) (by rfl))
      (pss_cons (ps_set (i := 4) S.nd rfl (.inl rfl) (pe_c c1 hr (by decide) (by rfl) (E := E0) pass0 (pa_cons (pv 2) (pa_cons (pv 3) pa_nil))))
      (pss_cons (ps_set (i := 5) S.nd rfl (.inl rfl) (pe_c c1 hr (by decide) (by rfl) (E := E0) pass0 (pa_cons (pe_revS (pe_slice sl_str (pv 2) (po_some (pv 4)) po_none)) (pa_cons (pe_revS (pe_slice sl_str (pv 3) (po_some (pv 4)) po_none)) pa_nil))))
      (pss_cons (ps_par (i := 6) (j := 7) rfl S.nd rfl rfl (by decide) rfl rfl (pa_cons (pe_m (pe_fldK (K := K) rfl (pe_ix ix_tup (pv 0) pe_int (fun _ _ => rfl)) rfl) c2 hr (by decide) (E := E0) pass0 (pa_cons (pv 2) pa_nil)) (pa_cons (pe_lst pa_nil) pa_nil)) (by rfl))
      (pss_cons (ps_for PassesOwn.never rfl (pi_enumT (by rfl) B.enumerate (pa_cons (pe_m (pe_fldK (K := K) rfl (pe_ix ix_tup (pv 1) pe_int (fun _ _ => rfl)) rfl) c2 hr (by decide) (E := E0) pass0 (pa_cons (pv 3) pa_nil)) pa_nil)) (pg_tup rfl (pgs_cons (pg_name (i := 8) S.nd rfl (Or.inl rfl)) (pgs_cons (pg_name (i := 9) S.nd rfl (Or.inl rfl)) pgs_nil))) (pss_cons (ps_set (i := 10) S.nd rfl (.inl rfl) pe_non)
      (pss_cons (ps_if (pt_cmpR op_le (pv 8) (pv 4) (nomark _)) (pss_one (ps_set (i := 10) S.nd rfl (.inl rfl) (pe_ix ix_tup (pv 6) (pv 8) (fun _ _ => rfl)))) (pss_one (ps_if (pt_cmpR op_ge (pv 8) (pe_op op_sub (pe_callB call_len (by rfl) B.len (by decide +kernel) (pa_cons (pv 3) pa_nil)) (pv 5)) (nomark _)) (pss_one (ps_set (i := 10) S.nd rfl (.inl rfl) (pe_ix ix_tup (pv 6) (pe_op op_add (pe_op op_sub (pe_callB call_len (by rfl) B.len (by decide +kernel) (pa_cons (pv 2) pa_nil)) (pe_callB call_len (by rfl) B.len (by decide +kernel) (pa_cons (pv 3) pa_nil))) (pv 8)) (fun _ _ => rfl)))) pss_nil)))
      (pss_one (ps_if (pt_cmpR op_ne (pv 10) (pv 9) (nomark _)) (pss_one (ps_expr (pe_bm PySem.F.plainAttrs_list PySem.F.slot_list_append PySem.F.type_list_append mt_append (pv 7) (pa_cons (pe_tup (pa_cons (pv 8) (pa_cons (pv 10) (pa_cons (pv 9) pa_nil)))) pa_nil)))) pss_nil)))))
      (pss_one (ps_ret (pv 7)))))))), ?_⟩
    obtain ⟨px, hpx⟩ := hm
    obtain ⟨py, hpy⟩ := hn
    have xl := isT_short fx.1
    have yl := isT_short fy.1
    have xz : x.length ≤ sizeLine := sz60 (by omega)
    have yz : y.length ≤ sizeLine := sz60 (by omega)
    have een : cpre (revS (cutS x (some ((bgn x y : Nat) : Int)) none)).cps.toList (revS (cutS y (some ((bgn x y : Nat) : Int)) none)).cps.toList = enn x y := by
      rw [revS_list, revS_list, cut_drop, cut_drop]
      rfl
    obtain ⟨en1, en2⟩ := enn_le x y
    have cl := cf.it.cl
    have cn := cf.nt
    refine ⟨_, rfl, a, _, 1, .str x, rfl, rfl, SqT.of ha, atI_nat (j := 1) rfl, _, rfl, b, _, 1, .str y, rfl, rfl, SqT.of hb, atI_nat (j := 1) rfl, _, _, rfl, ?_⟩
    refine ⟨_, rfl, _, rfl, x, y, rfl, fun H1 sm1 => ?_⟩
    refine ⟨_, rfl, _, rfl, (bgn x y : Nat), rfl, x, rfl, xz, _, rfl, Nat.le_trans (cutS_length _ _ _) xz, _, rfl, _, rfl, (bgn x y : Nat), rfl, y, rfl, yz, _, rfl, Nat.le_trans (cutS_length _ _ _) yz, _, _, rfl, fun H2 sm2 => ?_⟩
    have eL : ∀ (G : V → Prop), G (.int (enn x y : Nat)) → G (.int (cpre (revS (cutS x (some ((bgn x y : Nat) : Int)) none)).cps.toList (revS (cutS y (some ((bgn x y : Nat) : Int)) none)).cps.toList : Nat)) := fun G h => by
      rw [een]
      exact h
    refine eL (fun L => gName 5 L _ H2 _) ?_
    have sm12 := sm1.trans sm2
    have p2 := hpx.same sm12
    obtain ⟨mdx, msd, mgx, mnl, hmo, _⟩ := id p2.marks
    refine ⟨_, rfl, a, _, 0, .ref m, rfl, rfl, SqT.of (sm12 _ _ ha), atI_nat (j := 0) rfl, m, T.t, px.dx, _, _, rfl, p2.obj, cl, cn _ (by decide +kernel), rfl, px.m, mdx, _, rfl, hmo, rfl, _, rfl, px.m, x, lx, rfl, p2.marks, fx.1, fx.2, fun H3 ro sm3 hro hrol => ?_⟩
    refine ⟨by show 0 ≤ sizeLine; decide, fun l hl => ?_⟩
    have sm4 : Same H (upd H3 l (.lst [])) := (sm12.trans sm3).trans (same_upd hl)
    have hHl : H l = none := fresh_of (sm12.trans sm3) hl
    have hl4 : upd H3 l (.lst []) l = some (.lst []) := upd_same
    have hro4 := same_upd (o := .lst []) hl _ _ hrol
    generalize upd H3 l (.lst []) = H4 at sm4 hl4 hro4
    refine ⟨_, _, rfl, ?_⟩
    have p4 := hpy.same sm4
    obtain ⟨ndx, nsd, ngx, nnl, hno, _⟩ := id p4.marks
    refine ⟨_, rfl, b, _, 0, .ref n, rfl, rfl, SqT.of (sm4 _ _ hb), atI_nat (j := 0) rfl, n, T.t, py.dx, _, _, rfl, p4.obj, cl, cn _ (by decide +kernel), rfl, py.m, ndx, _, rfl, hno, rfl, _, rfl, py.m, y, ly, rfl, p4.marks, fy.1, fy.2, fun H5 rp sm5 hrp hrpl => ?_⟩
    refine ⟨rp, _, rfl, hrpl, ?_⟩
    have hzl : (zeros (y.length + 1)).length = y.length + 1 := by simp [zeros]
    refine for_it (walk_enumT (a := rp) (xs := zeros (y.length + 1))) (fun i σ Hc => Same H Hc ∧ Hc rp = some (.tup (zeros (y.length + 1))) ∧ Hc ro = some (.tup (zeros (x.length + 1))) ∧ ∃ z8 z9 z10 rs, σ = [some (.ref a), some (.ref b), some (.str x), some (.str y), some (.int (bgn x y : Nat)), some (.int (enn x y : Nat)), some (.ref ro), some (.ref l), z8, z9, z10] ∧
      Hc l = some (.lst rs) ∧ NewsAt Hc rs (newsP x y i)) ?_ ?_ ?_ ?_
    · exact ⟨sm4.trans sm5, hrpl, sm5 _ _ hro4, none, none, none, [], rfl, sm5 _ _ hl4, .nil⟩
    · rintro i σ Hc _ ⟨_, h, _⟩
      exact h
    · rintro i v σ Ha Hb hi ⟨sm, hrc, hoc, z8, z9, z10, rs, rfl, hlc, hnews⟩ ⟨TT, u, w2, rfl, hTT, rfl, hu, hv⟩
      have hu' : u = .int (i : Nat) := (Option.some.inj hu).symm
      subst hu'
      have hw0 : w2 = .int 0 := by
        have hv' : (zeros (y.length + 1))[i]? = some w2 := hv
        exact (List.mem_replicate.mp (List.mem_of_getElem? hv')).2
      subst hw0
      rw [hzl] at hi
      have smT := sm.trans (same_upd (o := .tup [.int (i : Nat), .int 0]) hTT)
      have hrc1 := same_upd (o := .tup [.int (i : Nat), .int 0]) hTT _ _ hrc
      have hoc1 := same_upd (o := .tup [.int (i : Nat), .int 0]) hTT _ _ hoc
      have hlc1 := same_upd (o := .tup [.int (i : Nat), .int 0]) hTT _ _ hlc
      have hnews1 : NewsAt (upd Ha TT (.tup [.int (i : Nat), .int 0])) rs (newsP x y i) := Paired.same (same_upd hTT) hnews
      have hT1 : upd Ha TT (.tup [.int (i : Nat), .int 0]) TT = some (.tup [.int (i : Nat), .int 0]) := upd_same
      generalize upd Ha TT (.tup [.int (i : Nat), .int 0]) = H6 at smT hrc1 hoc1 hlc1 hnews1 hT1
      refine ⟨TT, _, rfl, SqT.of hT1, rfl, _, _, rfl, ?_⟩
      refine ⟨_, _, rfl, rfl, ?_⟩
      refine ⟨_, rfl, _, rfl, _, _, rfl, rfl, _, rfl, ?_⟩
      by_cases h1 : i ≤ bgn x y
      · have hno : isNew x y i = false := by unfold isNew; rw [decide_eq_false (by omega)]; rfl
        refine iteT' (decide_eq_true (by omega)) ?_
        refine ⟨_, rfl, _, rfl, ro, _, (i : Nat), .int 0, rfl, rfl, SqT.of hoc1, atI_nat (zeros_get (by omega)), ?_⟩
        exact ⟨_, rfl, _, rfl, rfl, _, rfl, iteF' (by simp) ⟨smT, hrc1, hoc1, _, _, _, rs, rfl, hlc1, by rw [newsP_succ, hno, if_neg Bool.false_ne_true, List.append_nil]; exact hnews1⟩⟩
      · refine iteF' (decide_eq_false (by omega)) ?_
        refine ⟨_, rfl, _, rfl, _, y.length, rfl, ⟨yz, rfl⟩, _, rfl, _, _, rfl, rfl, _, _, rfl, rfl, _, rfl, ?_⟩
        by_cases h2 : y.length ≤ i + enn x y
        · have hno : isNew x y i = false := by unfold isNew; rw [decide_eq_false (show ¬ (i + enn x y < y.length) by omega), Bool.and_false]
          refine iteT' (decide_eq_true (by omega)) ?_
          refine ⟨_, rfl, _, rfl, _, x.length, rfl, ⟨xz, rfl⟩, _, rfl, _, y.length, rfl, ⟨yz, rfl⟩, _, _, rfl, rfl, _, rfl, _, _, rfl, rfl, ro, _, _, .int 0, rfl, rfl, SqT.of hoc1, ?_, ?_⟩
          · rw [show ((x.length : Nat) : Int) - (y.length : Nat) + (i : Nat) = ((x.length + i - y.length : Nat) : Int) by omega]
            exact atI_nat (zeros_get (by omega))
          · exact ⟨_, rfl, _, rfl, rfl, _, rfl, iteF' (by simp) ⟨smT, hrc1, hoc1, _, _, _, rs, rfl, hlc1, by rw [newsP_succ, hno, if_neg Bool.false_ne_true, List.append_nil]; exact hnews1⟩⟩
        · have hyes : isNew x y i = true := by unfold isNew; rw [decide_eq_true (by omega), decide_eq_true (by omega)]; rfl
          refine iteF' (decide_eq_false (by omega)) ?_
          refine ⟨_, rfl, _, rfl, rfl, _, rfl, iteT' (by simp) ?_⟩
          refine ⟨_, rfl, .inl ⟨rfl, _, SqL.of hlc1⟩, _, rfl, _, rfl, _, rfl, by show 3 ≤ sizeLine; decide, fun t ht => ?_⟩
          have smt := smT.trans (same_upd (o := .tup [.int (i : Nat), .non, .int 0]) ht)
          have hrl := news_len hnews
          have hnl : (newsP x y i).length ≤ i := by
            unfold newsP
            have := List.length_filter_le (isNew x y) (List.range i)
            rw [List.length_range] at this
            exact this
          refine ⟨l, _, _, rfl, rfl, same_upd ht _ _ hlc1, ?_, ?_⟩
          · rw [hrl]
            exact Nat.lt_of_le_of_lt (show (newsP x y i).length ≤ 1000 by omega) (by decide)
          · have ne1 : ∀ {b : Addr} {xs : List V}, upd H6 t (.tup [.int (i : Nat), .non, .int 0]) b = some (.tup xs) → b ≠ l := fun {b xs} h z => by
              rw [z, same_upd ht _ _ hlc1] at h
              cases h
            have up : ∀ {b : Addr} {xs : List V} {o : HO}, upd H6 t (.tup [.int (i : Nat), .non, .int 0]) b = some (.tup xs) → upd (upd H6 t (.tup [.int (i : Nat), .non, .int 0])) l o b = some (.tup xs) := fun {b xs o} h => by
              rw [upd_ne (ne1 h)]
              exact h
            refine ⟨same_put smt hHl, up (same_upd ht _ _ hrc1), up (same_upd ht _ _ hoc1), _, _, _, rs ++ [.ref t], rfl, upd_same, ?_⟩
            rw [newsP_succ, if_pos hyes]
            refine news_snoc ?_ ⟨t, rfl, up upd_same⟩
            exact news_up (fun b xs h => up (same_upd ht _ _ h)) hnews1
    · rintro σ Hc ⟨sm, hrc, hoc, z8, z9, z10, rs, rfl, hlc, hnews⟩
      rw [hzl] at hnews
      exact ⟨_, rfl, q Hc l rs sm hHl hlc hnews⟩
end
end K67
end
section
set_option Elab.async false
set_option linter.all false
set_option maxRecDepth 100000
set_option maxHeartbeats 4000000
namespace L2
open PySem PySem.Spec PyProof.Rows
section
variable {prog : Program} {w : World} {A : Around} {E : Value → Shared → Prop} {s : Shared}
theorem special_lst_item {it t : Addr} {i : Nat} {items : Array Value} {x : Value} {Q : Option Value → Shared → Prop} (hit : s.heap.IsListIter it t i) (ht : s.heap.IsList t items) (hx : items[i]? = some x)
    (hQ : ∀ h', h'.IsListIter it t (i + 1) → Heap.SameBut it s.heap h' → Q (some x) { s with heap := h' }) : wpAny (model prog w) A (callSpecial? (.ref it) "__next__") Q E s := by
  obtain ⟨o, ho, hc, hd⟩ := id hit
  obtain ⟨ol, hol, _, nl, hdl⟩ := ht
  have hT : s.TypeIs (.ref it) "list_iterator" := ⟨o, ho, hc⟩
  refine wpAny_callSpecial?_slot (name := Str.ofString "__next__") hT slot_listiter_next (wpAny_call_entry slot_listiter_next hT entry_listiter_next ?_ (args_listiter_next _))
  show wpAny _ _ (field (.ref it) 0 >>= _) _ _ s
  refine wpAny_bind (wpAny_field ho hd (x := .ref t) rfl ?_)
  show wpAny _ _ (if (Value.ref t == Value.none) = true then _ else _) _ _ s
  rw [if_neg (show ¬ ((Value.ref t == Value.none) = true) from Bool.false_ne_true)]
  show wpAny _ _ (field (.ref it) 1 >>= _) _ _ s
  refine wpAny_bind (wpAny_field ho hd (x := .int i 0) rfl ?_)
  show wpAny _ _ (seqItems? (.ref t) >>= _) _ _ s
  refine wpAny_bind (wpAny_seqItems hol hdl ?_)
  simp only [Int.toNat_natCast, hx]
  refine wpAny_bind (wpAny_setField ho hd (by simp) (wpAny_pure ⟨x, rfl, hQ _ ?_ (Heap.SameBut.update ..)⟩))
  exact ⟨_, Heap.get?_update_self _ ho (Obj.isFreed_of_fields (Obj.data_mapFields hd _)), (Obj.cls_mapFields ..).trans hc, by
    rw [Obj.data_mapFields hd]; simp [rawInt]⟩
theorem special_lst_end {it t : Addr} {i : Nat} {items : Array Value} {Q : Option Value → Shared → Prop} (hh : A.handled = none) (hit : s.heap.IsListIter it t i) (ht : s.heap.IsList t items) (hx : items[i]? = none)
    (hE : ∀ e h', StopX e h' → Heap.ExtBut it s.heap h' → E e { s with heap := h' }) : wpAny (model prog w) A (callSpecial? (.ref it) "__next__") Q E s := by
  obtain ⟨o, ho, hc, hd⟩ := id hit
  obtain ⟨ol, hol, _, nl, hdl⟩ := ht
  have hT : s.TypeIs (.ref it) "list_iterator" := ⟨o, ho, hc⟩
  refine wpAny_callSpecial?_slot (name := Str.ofString "__next__") hT slot_listiter_next (wpAny_call_entry slot_listiter_next hT entry_listiter_next ?_ (args_listiter_next _))
  show wpAny _ _ (field (.ref it) 0 >>= _) _ _ s
  refine wpAny_bind (wpAny_field ho hd (x := .ref t) rfl ?_)
  show wpAny _ _ (if (Value.ref t == Value.none) = true then _ else _) _ _ s
  rw [if_neg (show ¬ ((Value.ref t == Value.none) = true) from Bool.false_ne_true)]
  show wpAny _ _ (field (.ref it) 1 >>= _) _ _ s
  refine wpAny_bind (wpAny_field ho hd (x := .int i 0) rfl ?_)
  show wpAny _ _ (seqItems? (.ref t) >>= _) _ _ s
  refine wpAny_bind (wpAny_seqItems hol hdl ?_)
  simp only [Int.toNat_natCast, hx]
  refine wpAny_bind (wpAny_rule (wpAny_bind (wpAny_setField ho hd (by simp) ?_)))
  show wpAny _ _ (newExc (.type "StopIteration") [] >>= _) _ _ _
  refine wpAny_bind ?_
  simp only [newExc, newTuple]
  refine wpAny_bind (wpAny_newObj_type ?_ (by size_fits))
  refine wpAny_bind (m := firstArgMember _ _) (wpAny_of_eq (a := Value.none) (by first | rfl | (simp only [firstArgMember]; rfl)) ?_)
  refine wpAny_newObj_type ?_ (by size_fits)
  simp only [raiseNew]
  refine wpAny_bind (wpAny_handled ?_)
  first | rw [show A.in1.handled = none from hh] | rw [hh]
  refine wpAny_bind (wpAny_pure (wpAny_throw ?_))
  refine hE _ _ ⟨_, _, _, rfl, Heap.get?_push_size _ rfl, rfl, rfl, ?_⟩ (((Heap.SameBut.update ..).extBut.push _).push _)
  first
    | rfl
    | (rw [Array.getElem?_append_left (by decide)]; rfl)
    | kernel_rfl
end
section
variable {X : Cx} {e : Expr} {te : TE}
def tYfLst (te : TE) : TYf := fun σ H Q => te σ H fun x H1 => ∃ a xs, x = .ref a ∧ H1 a = some (.lst xs) ∧ Q xs H1
theorem close_lst : typeLookup (.type "list_iterator") "close" = pure none := by rw [typeLookup_type, builtinLookup_eq_fast]; kernel_rfl
theorem yf_lst (he : PE X e te) : YfE X e (tYfLst te) := by
  refine ⟨fun pins s σ H Q I h => ?_⟩
  refine thn (he.run pins s σ H _ I h) fun v s1 ⟨x, H1, I1, r1, a, xs, ex, ha, hq⟩ => ?_
  subst ex
  obtain rfl : v = Value.ref a := r1
  obtain ⟨hlen, its, nc, rits, hget⟩ := I1.hok a _ ha
  have ht : s1.heap.IsList a its.toArray := ⟨_, hget, rfl, nc, rfl⟩
  have lt : a < s1.heap.objs.size := Heap.lt_size hget
  refine ⟨"list", ⟨_, hget, rfl⟩, by decide, iter_any ht ?_⟩
  rintro s₂ rfl ⟨hi0, hl0⟩ hne0
  have ksz : ∀ b o, s1.heap.get? b = some o → b ≠ s1.heap.objs.size := fun b o e => Nat.ne_of_lt (Heap.lt_size e)
  have kp : ∀ b o, s1.heap.get? b = some o → (s1.heap.push { cls := .type "list_iterator", data := .fields #[.ref a, .int 0 0] }).get? b = some o := fun b o e => Heap.get?_push_of_some _ e
  refine ⟨s1.heap.objs.size, H1, xs, fun j h => h.IsListIter s1.heap.objs.size a j ∧ h.IsList a its.toArray, rfl, I1.kept (t' := s1.toks) kp, .inr I1.sz, Nat.ne_of_gt I1.lt, fun y c hy => ?_, I1.hok.fresh (Nat.le_refl _), fun p hp => ?_,
    ⟨hi0, hl0⟩, ⟨⟨"list_iterator", fun j h q => ?_, close_lst, by decide⟩, fun j h h' q hk => ?_, fun A' j x s2 Q' E' hA hx q hQ => ?_, fun A' s2 Q' E' hA q hE => ?_⟩, hq⟩
  · obtain ⟨v, o, ho, _⟩ := I1.cell y c hy
    exact ksz c o ho
  · exact ksz p.1 _ (I1.pin p hp).1
  · obtain ⟨⟨o, ho, hc, _⟩, _⟩ := q
    exact ⟨o, ho, hc⟩
  · obtain ⟨⟨o, ho, r⟩, o2, ho2, r2⟩ := q
    exact ⟨⟨o, hk _ o (.inl rfl) ho, r⟩, o2, hk _ o2 (.inr (by rw [ha]; exact fun z => by cases z)) ho2, r2⟩
  · obtain ⟨q1, q2⟩ := q
    obtain ⟨u, hu, ru⟩ := rits.get hx
    have hne : a ≠ s1.heap.objs.size := Nat.ne_of_lt lt
    exact special_lst_item q1 q2 (x := u) (by simpa using hu) fun h' q1' hs => hQ u h' s2.toks ru ⟨q1', q2.extBut hs.extBut hne⟩ fun b o hb eb => hs.extBut b o hb eb
  · obtain ⟨q1, q2⟩ := q
    have hnone : its.toArray[xs.length]? = none := by
      have e := rits.length
      have e2 : its[xs.length]? = none := List.getElem?_eq_none_iff.mpr (by omega)
      simpa using e2
    exact special_lst_end hA q1 q2 hnone fun e h' hS hk => hE e h' s2.toks hS fun b o hb eb => hk b o hb eb
end
end L2
end
section
set_option Elab.async false
set_option linter.all false
set_option maxRecDepth 100000
set_option maxHeartbeats 4000000
namespace K67
open PySem PySem.Spec PyProof.Rows L2
theorem gsc_Editor_news : GScope ["self"] ["self"] (defScope s_Editor_news) := ⟨rfl, rfl, rfl, by decide +kernel, rfl, by decide +kernel, by decide +kernel⟩
section
variable {P : Program} {w : World} {K : PySem.W.Frag} {mg : Str → Option Value} {base : Heap} {T : Cls3}
def spNews (T : Cls3) : SpG := fun vs H Q _ => ∃ e dx, ∃ s : EdF, ∃ m x lx ly, vs = [.ref e] ∧ H e = some (.ins T.e dx (edF s)) ∧ H s.before = some (.tup [.ref m, .str x]) ∧ IsTwo T H m lx ∧ IsTwo T H s.m ly ∧ Fit lx x ∧ Fit ly s.t ∧
  ∀ H' rs, Same H H' → NewsAt H' rs (newsP x s.t (s.t.length + 1)) → Q rs H'
theorem ok_news (cf : CF K T) {f : Addr} {fd : FuncData} (F : FnP K "news" "Editor.news" s_Editor_news f fd) (c1 : Cal P w K mg base CX0 6 "news_between" (spNewsB T)) (c2 : Mth P w K mg base CX0 1 T.e "version" (spVersion T)) :
    GFn P w K mg base 7 f fd ["self"] (spNews T) := by
  obtain ⟨oc, od, dV, kV, doc, pm, an, cdv, ct, osl, rfl, lk, hcd, hD, hK⟩ := F.ex
  refine gfn_of lk hcd gsc_Editor_news (fun vs H Q E h => ?_) fun A outer s H vs Q E pn hr h => ?_
  · obtain ⟨e, dx, s0, m, x, lx, ly, rfl, _⟩ := h
    rfl
  · obtain ⟨e, dx, s0, m, x, lx, ly, rfl, he, hb, hm, hn, fx, fy, q⟩ := h
    refine ⟨_, gss_cons (gs_yieldFrom (yf_lst (pe_c c1 hr (by decide) (by rfl) (E := E0) pass0 (pa_cons (pe_fldK (K := K) rfl (pv 0) rfl) (pa_cons (pe_m0 (pv 0) c2 hr (by decide) (E := E0) pass0) pa_nil)))) hr.hd) gss_nil, ?_⟩
    have cl := cf.ie.cl
    refine ⟨_, rfl, e, T.e, dx, _, _, rfl, he, cl, cf.ne _ (by decide +kernel), rfl, ?_⟩
    refine ⟨_, rfl, e, dx, _, rfl, he, rfl, e, dx, _, .ref s0.m, .str s0.t, rfl, he, rfl, rfl, fun p hp => ?_⟩
    have sm := same_upd (o := .tup [.ref s0.m, .str s0.t]) hp
    refine ⟨s0.before, p, m, s0.m, x, s0.t, lx, ly, rfl, sm _ _ hb, upd_same, hm.same sm, hn.same sm, fx, fy, fun H' p2 rs sm2 hp2 hH hN => ?_⟩
    refine ⟨p2, rs, rfl, hH, ?_⟩
    have el := news_len hN
    have tl := isT_short fy.1
    have nl : (newsP x s0.t (s0.t.length + 1)).length ≤ s0.t.length + 1 := by
      unfold newsP
      exact Nat.le_trans (List.length_filter_le _ _) (by rw [List.length_range]; exact Nat.le_refl _)
    refine ⟨?_, ?_⟩
    · rw [List.length_nil, Nat.zero_add, el]
      exact Nat.le_trans nl (sz60 (by omega))
    · rw [List.nil_append]
      exact q H' rs (sm.trans sm2) hN
end
end K67
end
section
set_option Elab.async false
set_option linter.all false
set_option maxRecDepth 100000
set_option maxHeartbeats 4000000
/-! an own exception over any built-in one whose __init__ stores one field -/
namespace PySem
namespace OEG
open PySem.W PySem.Calls PyProof.Rows PySem.HandSPX
section
open Builtin Builtin.ObjectAttr
variable {prog : Program} {w : World} {A : Around} {E : Value → Shared → Prop} {R : Result → Shared → Prop} {hp : Heap} {g : Array GenState} {d : Drawn} {t : Nat} {os : OsState}
theorem osa_g {K : W.Frag} {name : Str} {tk : Tok} {v : Value} {x C : Addr} {fv : Array Value} {cd : ClassData} {bmB : List Value}
    (X : K.In hp) (hx : hp.get? x = some { cls := .ref C, data := .fields fv }) (hcd : W.clsIn K C = some cd) (hm : W.excTail bmB cd.mro = true) (hp2 : ∀ self : Value, refuseLoop self "__setattr__" bmB = pure ()) (hob2 : bmB.contains (.type "object") = true) (ne : cd.mro.isEmpty = false) (hh : cd.hasDict = true) (ha : W.findIn K (.ref C) name = some none)
    (hq : ∀ h' tk' dx, (∀ b o, b ≠ x → hp.get? b = some o → h'.get? b = some o) → hp.objs.size ≤ dx → dx ≠ x → h'.get? x = some { cls := .ref C, dict := some dx, data := .fields fv } →
      h'.Ns1 dx (fun y => if y = name then some v else none) → R (.ok (.ret .none)) ⟨h', g, d, tk', os⟩) :
    codeAny (model prog w) A (.call (.builtin "object.__setattr__") ⟨[.ref x, .str name tk, v], []⟩) R ⟨hp, g, d, t, os⟩ := by
  have I : W.InstAt hp x { cls := .ref C, data := .fields fv } C none := ⟨hx, rfl, rfl, trivial⟩
  have SF := F.store_object
  have hob : cd.mro.contains (.type "object") = true := (W.excTail_contains "object" _ hm).trans hob2
  have hxs : x ≠ hp.objs.size := Nat.ne_of_lt (Heap.lt_size hx)
  have sub : W.Looks (model prog w) hp (isInstance (.ref x) (.type "object")) true := I.type.andThen (W.looks_mroIn X (by unfold W.mroIn; rw [hcd, Option.bind_some, if_neg (by rw [ne]; decide), hob]))
  refine codeAny_call_builtin SF.slot.plain SF.entry (@W.check_slot (model prog w) _ _ ⟨hp, g, d, t, os⟩ "object.__setattr__" "object" "__setattr__" (.ref x) [.str name tk, v] [] _ SF.kind SF.split sub (SF.args (.ref x) (.str name tk) v) ?_)
  have hmr : W.Looks (model prog w) hp (mroOf (.ref C)) cd.mro := (W.looks_clsIn X hcd).andThen .now
  have L3 : W.Looks (model prog w) hp (storeTaker? none) none := .now
  have hcls : W.Looks (model prog w) hp (classData C) cd := W.looks_clsIn X hcd
  rw [W.osa_eq, refuse_eq]
  refine wpAny_bind (wpAny_bind (I.type.at (wpAny_bind (hmr.at ?_))))
  rw [W.excTail_pass _ (hp2 _) _ hm]
  refine wpAny_pure (wpAny_bind (I.type.at (wpAny_bind ((W.looks_findIn X ha).at (wpAny_bind (L3.at ?_))))))
  show wpAny _ _ (storeInOwnDict (.ref x) (.ref C) (.str name tk) name v false) _ _ _
  obtain ⟨nm, bs, mro, ns, qn, hd, sn, sb, ab, col, del⟩ := cd
  dsimp only at hh
  subst hh
  unfold storeInOwnDict ownDictForStores
  repeat (first | with_reducible refine store_in_new ?_ ?_ | with_reducible refine wpAny_loadPart_at hx ?_ | with_reducible refine hcls.at ?_ | wp_step)
  · exact ⟨_, #[], _, (Heap.get?_update_ne _ _ _ _ hxs.symm).trans (Heap.get?_push_at rfl rfl), rfl, fun e he => absurd he (by simp), fun _ => rfl⟩
  · intro h' tk' hn' hs
    have hx₁ : (hp.push { cls := .type "dict", data := .dict #[] }).get? x = some { cls := .ref C, data := .fields fv } := Heap.get?_push_of_some _ hx
    refine hq h' tk' hp.objs.size (fun b o hb ho => ?_) (Nat.le_refl _) hxs.symm ?_ hn'
    · exact (hs.2 b (Nat.ne_of_lt (Heap.lt_size ho))).trans ((Heap.get?_update_ne _ _ _ _ hb).trans (Heap.get?_push_of_some _ ho))
    · exact (hs.2 x hxs).trans (Heap.get?_update_self _ hx₁ rfl)
end
end OEG
end PySem
namespace L2
open PySem PySem.Spec PyProof.Rows
/-- what the written part says of the class -/
structure OgC (K : PySem.W.Frag) (C : Addr) (bmB : List Value) (newId : String) : Prop where
  cls : ∃ nm q N bs bm sn sub ab col dd k0 k1 k2 k3 k5, K.lookup C = some (excClassObj nm q C N bs bm true sn sub ab col dd k0 k1 k2 k3 k5 newId) ∧ PySem.W.excTail bmB bm = true
  pass : ∀ self : Value, refuseLoop self "__setattr__" bmB = pure ()
  obj : bmB.contains (.type "object") = true
  sa : PySem.W.findIn K (.ref C) "__setattr__" = some (some (.builtin "object.__setattr__"))
  exC : PySem.W.subIn K (.ref C) (.type "BaseException") = some true
  tyC : PySem.W.typeIn K (.ref C) = some (.type "type")
  kC : PySem.W.keepIn K (.ref C) = true
section
variable {X : Cx} {pins : List (Addr × Obj)} {σ : St} {H : Hp} {s : Shared} {a C dx : Addr} {f : Str} {y : V} {u : Value} {fs : List (Str × V)} {Q : Unit → Shared → Prop} {E : Value → Shared → Prop} {A : Around} {bmB : List Value} {newId B initId : String}
/-- self.f = y, the first one -/
theorem ost_newG (T : OgC X.K C bmB newId) (I : Inv X pins σ H s) (e : H a = some (exo a C none)) (hno : PySem.W.findIn X.K (.ref C) f = some none) (ry : RelV y u)
    (h : ∀ dx s', H dx = none → dx ≠ a → Inv X pins σ (upd (upd H dx (exd dx [(f, y)])) a (exo a C (some dx))) s' → Q () s') : wpAny (model X.prog X.w) A (setAttr (.ref a) f u) Q E s := by
  obtain ⟨nm, q, N, bs, bm, sn, sub, ab, col, dd, k0, k1, k2, k3, k5, hC, hbm⟩ := T.cls
  have hcl : PySem.W.clsIn X.K C = some { name := nm, bases := bs, mro := .ref C :: bm, ns := N, qualname := q, hasDict := true, slotNames := sn, subclasses := sub, abstract := ab, collection := col, hasDel := false } := by unfold PySem.W.clsIn; rw [hC] <;> rfl
  obtain ⟨t1, ho⟩ := exo_at I.hok e
  obtain ⟨hp, g, d, t, os⟩ := s
  refine PySem.W.set_plain I.kIn (ox := { cls := .ref C, dict := none, data := .fields #[.ref t1, .none, .none, .none, .bool false, .none] }) (od := none) ⟨ho, rfl, rfl, trivial⟩ T.sa ?_
  refine PySem.OEG.osa_g I.kIn ho hcl (show PySem.W.excTail bmB (.ref C :: bm) = true from hbm) T.pass T.obj rfl rfl hno (fun h' tk' dx k dn dne hx hn => ?_)
  have hnd : H dx = none := I.hok.fresh dn
  have nd : ∀ {b : Addr} {o : Obj}, hp.get? b = some o → b ≠ dx := fun {b o} q => Nat.ne_of_lt (Nat.lt_of_lt_of_le (Heap.lt_size q) dn)
  have na : ∀ {b : Addr}, H b = none → b ≠ a := fun {b} n z => by
    rw [z, e] at n
    cases n
  have Un1 : Un X.fs [] H (upd (upd H dx (exd dx [(f, y)])) a (exo a C (some dx))) hp h' := {
    keep := fun b o q n _ _ => k b o (na n) q
    slot := fun b o q n _ _ => ⟨o.slots, k b o (na n) q⟩
    free := fun b o q n _ => by rw [upd_ne (na n), upd_ne (nd q)]; exact n
    there := fun b o q _ => by
      by_cases hb : b = a
      · exact ⟨_, by rw [hb]; exact hx⟩
      · exact ⟨o, k b o hb q⟩
    tups := fun b xs q => by rw [upd_ne (at_ne e q exo_tup), upd_ne (ne_of_none q hnd)]; exact q
    frzs := fun b o v q => by rw [upd_ne (at_ne e q exo_frz), upd_ne (ne_of_none q hnd)]; exact q
    tbls := fun b ps q => ⟨#[], by rw [upd_ne (at_ne e q exo_tbl), upd_ne (ne_of_none q hnd), q]; simp⟩ }
  refine h dx _ hnd dne (I.un (t' := tk') Un1 fun b o q => ?_)
  by_cases hb : b = a
  · subst hb
    rw [upd_same] at q
    cases q
    exact exo_ok hx
  · rw [upd_ne hb] at q
    by_cases hd : b = dx
    · subst hd
      rw [upd_same] at q
      cases q
      exact exd_ok hn (relO_put (fs := []) ry fun g => True.intro)
    · rw [upd_ne hd] at q
      exact (I.hok b o q).stay (fun c v hc z => k c v (by
          rcases hc with hc | hc
          · rw [hc]
            exact hb
          · exact at_ne e hc exo_own) z)
        (fun c hc => by rw [upd_ne (at_ne e hc exo_own), upd_ne (ne_of_none hc hnd)]; exact hc) (fun c xs hc => by rw [upd_ne (at_ne e hc exo_tup), upd_ne (ne_of_none hc hnd)]; exact hc)
end
/-- self.f = e, the first one -/
def tOsG (K : PySem.W.Frag) (bmB : List Value) (newId : String) (f : Str) (to te : TE) : TS := fun D σ H => te σ H fun y H1 => to σ H1 fun x H2 => ∃ a C : Addr, x = .ref a ∧ OgC K C bmB newId ∧ PySem.W.findIn K (.ref C) f = some none ∧
  H2 a = some (exo a C none) ∧ ∀ dx, H2 dx = none → dx ≠ a → D.nx σ (upd (upd H2 dx (exd dx [(f, y)])) a (exo a C (some dx)))
section
variable {X : Cx} {o e : Expr} {es : List Expr} {to te : TE} {ta : TA} {f : Str} {p p' p1 p2 pos : Pos} {bmB : List Value} {newId B initId : String}
theorem ps_osG (ho : PE X o to) (he : PE X e te) (hs : swapsWith e (some (.Attribute o f p')) pos.line X.env = pure false := by rfl) : PS X (.Assign [.Attribute o f p'] e pos) (tOsG X.K bmB newId f to te) := by
  refine ⟨fun pins s σ H D I h => ?_⟩
  refine plainObj_wpAny_Assign_Attribute (thn (he.run pins s σ H _ I h) fun v s1 ⟨y, H1, I1, r1, q1⟩ => thn (ho.run pins s1 σ H1 _ I1 q1) fun u s2 ⟨x, H2, I2, r2, a, C, ex, T, hno, ea, q⟩ => ?_) hs
  subst ex
  obtain rfl : u = Value.ref a := r2
  exact ost_newG T I2 ea hno r1 fun dx s' n ne J => ⟨σ, _, J, q dx n ne⟩
theorem pmk_og {CX : CXT} {x : Str} {C fI : Addr} {k : Nat} {fd : FuncData} {ps : List Str} {sp : Sp} {ds : List Value} {dvs : List V} (FB : ExcBaseFacts B newId initId bmB) (T : OgC X.K C bmB newId) (iC : PySem.W.findIn X.K (.ref C) "__init__" = some (some (.ref fI))) (tI : PySem.W.typeIn X.K (.ref fI) = some (.type "function"))
    (F1 : FnOk X.prog X.w X.K X.mg X.base CX k fI fd ps sp) (hr : Room (k + 1) X.A) (hb : Binds X.K fd ps ds) (hd : Vals dvs ds) (hx : Passes CX X (fun _ _ _ => False)) (hg : Gl X x) (hm : X.mg x = some (.ref C)) (ha : PA X (e :: es) ta)
    (hdb : (x == ("__debug__" : Str)) = false := by decide) (he : starEach (e :: es) X.env = (false, eval e X.env) :: starEach es X.env := by rfl) (hpl : (backTo pos (starEach es X.env)).any (·.1) = false := by rfl) :
    PMk X (.Call (.Name x p) (e :: es) [] pos) (tMkO C sp dvs ta) := by
  intro pins s σ H Q I h
  obtain ⟨nm, q, N, bs, bm, sn, sub, ab, col, dd, k0, k1, k2, k3, k5, hC, hbm⟩ := T.cls
  refine wpAny_Call_Name_kw (ld_glob I hg hm ?_ hdb)
  refine PySem.W.callWith_K (h₀ := X.base) I.ok.mod.kin T.kC (thn (ha.run pos pins s σ H _ I h) fun us s1 ⟨vs, H1, I1, r1, hz, q1⟩ => ⟨I1.kIn, ?_⟩) he hpl
  show wpAny _ _ (call (.ref C) us) _ _ _
  obtain ⟨hp, g, dr, tk, os⟩ := s1
  have hsz : hp.objs.size ≤ hp.objs.size + 1 := Nat.le_succ _
  have hn : H1 (hp.objs.size + 1) = none := I1.hok.fresh hsz
  have hq := q1 (hp.objs.size + 1) hn
  have kk : ∀ b o, hp.get? b = some o → ((hp.push (PySem.W.kdv_tup us)).push (PySem.HandSPX.excO C hp.objs.size)).get? b = some o := fun b o e => Heap.get?_push_of_some _ (Heap.get?_push_of_some _ e)
  have hget : ((hp.push (PySem.W.kdv_tup us)).push (PySem.HandSPX.excO C hp.objs.size)).get? (hp.objs.size + 1) = some (PySem.HandSPX.excO C hp.objs.size) := by heap_get
  have I2 : Inv X pins σ (upd H1 (hp.objs.size + 1) (exo (hp.objs.size + 1) C none)) ⟨(hp.push (PySem.W.kdv_tup us)).push (PySem.HandSPX.excO C hp.objs.size), g, dr, tk, os⟩ :=
    I1.laid (t' := tk) (a := hp.objs.size + 1) (o := exo (hp.objs.size + 1) C none) (h' := (hp.push (PySem.W.kdv_tup us)).push (PySem.HandSPX.excO C hp.objs.size)) kk hsz (exo_ok hget)
  have r2 : Vals (V.ref (hp.objs.size + 1) :: (vs ++ dvs)) (Value.ref (hp.objs.size + 1) :: (us ++ ds)) := .cons rfl (r1.append hd)
  have hl : (Value.ref (hp.objs.size + 1) :: us ++ ds).length = ps.length := by
    have e := r2.length
    rw [F1.len _ _ _ _ hq] at e
    exact e.symm
  have hus : us.length ≤ sizeLine := by
    rw [← Paired.length r1, sizeLine_eq]
    omega
  refine wpAny_call (PySem.HandSPX.call_own FB (fun Y => PySem.W.excTail_contains Y bm hbm) (I1.kIn _ _ hC) (PySem.W.looks_findIn I1.kIn iC) (fun self => PySem.W.bind_fn I1.kIn self tI) hus
    (codeAny_mono (F1.run _ X.stack _ _ ⟨Value.ref (hp.objs.size + 1) :: us, []⟩ (Value.ref (hp.objs.size + 1) :: (us ++ ds)) _ _ (fun _ _ _ => False) (hr.make C us []) (I2.env0.make C us []) (hb _ (Value.ref (hp.objs.size + 1) :: us) I2.kIn hl) r2 hq) fun r s' hq' => ?_))
  cases r with
  | error er => exact hx pins σ _ _ er s' I2 hq'
  | ok fl =>
    cases fl with
    | ret u =>
      obtain ⟨v, H2, os2, bare2, un2, hok2, rv, ev, d, fs, ea, ed, hd1, q2⟩ := hq'
      subst ev
      obtain ⟨h2, g2, d2, t2, os'⟩ := s'
      exact ⟨rv, mk_end (raises_own T.exC T.tyC) I1 hsz kk un2 hok2 os2 bare2 ea ed hd1 q2⟩
    | next => exact False.elim hq'
    | brk => exact False.elim hq'
    | cont => exact False.elim hq'
end
end L2
end
section
set_option Elab.async false
set_option linter.all false
set_option maxRecDepth 100000
set_option maxHeartbeats 4000000
namespace K67
open PySem PySem.Spec PyProof.Rows L2
theorem sc_InvalidNumber_init : FnScope ["self", "value"] ["self", "value"] (defScope s_InvalidNumber_init) := ⟨rfl, rfl, rfl, by decide +kernel, rfl, by decide +kernel, by decide +kernel⟩
theorem sc_NothingToUndo_init : FnScope ["self", "many"] ["self", "many"] (defScope s_NothingToUndo_init) := ⟨rfl, rfl, rfl, by decide +kernel, rfl, by decide +kernel, by decide +kernel⟩
/-- an __init__ that stores its argument under one name -/
def spIniG (C : Addr) (f : Str) : Sp := fun vs H Q _ => ∃ a v, vs = [.ref a, v] ∧ H a = some (exo a C none) ∧ ∀ dx, H dx = none → dx ≠ a → Q .non (upd (upd H dx (exd dx [(f, v)])) a (exo a C (some dx)))
structure ExG (P : Program) (w : World) (K : PySem.W.Frag) (mg : Str → Option Value) (base : Heap) (x f B newId initId : String) (bmB : List Value) (C : Addr) : Prop where
  og : OgC K C bmB newId
  fb : ExcBaseFacts B newId initId bmB
  g : mg (Str.ofString x) = some (.ref C)
  no : PySem.W.findIn K (.ref C) (Str.ofString f) = some none
  ini : ∃ (fI : Addr) (fd : FuncData) (ps : List Str), PySem.W.findIn K (.ref C) "__init__" = some (some (.ref fI)) ∧ PySem.W.typeIn K (.ref fI) = some (.type "function") ∧ FnOk P w K mg base CX0 1 fI fd ps (spIniG C (Str.ofString f)) ∧ Binds K fd ps []
section
variable {P : Program} {w : World} {K : PySem.W.Frag} {mg : Str → Option Value} {base : Heap}
theorem ok_InvalidNumber_init {C : Addr} (T : OgC K C bmIx "IndexError.__new__") (no : PySem.W.findIn K (.ref C) "value" = some none) {f : Addr} {fd : FuncData} (F : FnP K "__init__" "InvalidNumber.__init__" s_InvalidNumber_init f fd) : FnOk P w K mg base CX0 1 f fd ["self", "value"] (spIniG C "value") := by
  have S := sc_InvalidNumber_init
  refine ok0 F S (fun vs H Q E h => ?_) (fun cdv A outer s H vs Q E hr h => ?_)
  · obtain ⟨a, v, rfl, _⟩ := h
    rfl
  · obtain ⟨a, v, rfl, ha, q⟩ := h
    refine ⟨_, pss_one (ps_osG (bmB := bmIx) (newId := "IndexError.__new__") (pv 0) (pv 1)), ?_⟩
    exact ⟨_, rfl, _, rfl, a, C, rfl, T, no, ha, fun dx n ne => q dx n ne⟩
theorem ok_NothingToUndo_init {C : Addr} (T : OgC K C bmLk "LookupError.__new__") (no : PySem.W.findIn K (.ref C) "many" = some none) {f : Addr} {fd : FuncData} (F : FnP K "__init__" "NothingToUndo.__init__" s_NothingToUndo_init f fd) : FnOk P w K mg base CX0 1 f fd ["self", "many"] (spIniG C "many") := by
  have S := sc_NothingToUndo_init
  refine ok0 F S (fun vs H Q E h => ?_) (fun cdv A outer s H vs Q E hr h => ?_)
  · obtain ⟨a, v, rfl, _⟩ := h
    rfl
  · obtain ⟨a, v, rfl, ha, q⟩ := h
    refine ⟨_, pss_one (ps_osG (bmB := bmLk) (newId := "LookupError.__new__") (pv 0) (pv 1)), ?_⟩
    exact ⟨_, rfl, _, rfl, a, C, rfl, T, no, ha, fun dx n ne => q dx n ne⟩
/-- C(v) as the thing raised -/
def tMkG (C : Addr) (f : Str) (ta : TE) : L2.St → Hp → XK → Prop := fun σ H Q => ta σ H fun v H1 => ∀ H' d, Same H1 H' → H1 d = none → H' d = some (.xd [(f, v)]) → Q (.ref C) (some d) H'
theorem pmkG {X : Cx} {x f B newId initId : String} {bmB : List Value} {C : Addr} {e : Expr} {te : TE} {p pos : Pos} {j : Nat} (T : ExG X.prog X.w X.K X.mg X.base x f B newId initId bmB C) (hr : Room j X.A) (hj : 2 ≤ j) (hg : Gl X (Str.ofString x)) (ha : PE X e te) (hm : EMono te)
    (hdb : (Str.ofString x == ("__debug__" : Str)) = false := by decide) (he : starEach [e] X.env = (false, eval e X.env) :: starEach [] X.env := by rfl) :
    PMk X (.Call (.Name (Str.ofString x) p) [e] [] pos) (tMkG C (Str.ofString f) te) := by
  obtain ⟨fI, fd, ps, h1, h2, h3, h4⟩ := T.ini
  intro pins s σ H Q I h
  refine (pmk_og (dvs := []) T.fb T.og h1 h2 h3 (hr.mono hj) h4 .nil pass0 hg T.g (pa_cons ha pa_nil (hs := he)) hdb he rfl) pins s σ H Q I ?_
  refine hm _ _ _ _ (fun v H1 q => ?_) h
  refine ⟨by show 1 ≤ 1000; decide, fun a na => ⟨a, v, rfl, upd_same, fun dx hdx ne => ⟨rfl, dx, [(Str.ofString f, v)], upd_same, ?_, ?_, ?_⟩⟩⟩
  · rw [upd_ne ne, upd_same]
  · rw [upd_ne ne] at hdx
    exact hdx
  · have hd1 : H1 dx = none := by
      rw [upd_ne ne] at hdx
      exact hdx
    refine q _ dx (fun b o hb => ?_) hd1 upd_same
    have nb : b ≠ dx := ne_of_none hb hd1
    have nb2 : b ≠ a := ne_of_none hb na
    rw [upd_ne nb, del_ne nb2, upd_ne nb2, upd_ne nb, upd_ne nb2]
    exact hb
/-! ### require_many -/
theorem ok_require_many {f : Addr} {fd : FuncData} {CN CU : Addr} (F : FnP K "require_many" "require_many" s_require_many f fd) (c1 : Cal P w K mg base CX0 1 "is_integer" (spIsInt K))
    (T1 : ExG P w K mg base "InvalidNumber" "value" "IndexError" "IndexError.__new__" "IndexError.__init__" bmIx CN) (T2 : ExG P w K mg base "NothingToUndo" "many" "LookupError" "LookupError.__new__" "LookupError.__init__" bmLk CU) :
    FnOk P w K mg base (L2.CX P w) 4 f fd ["many", "most"] (spReqN K CN CU) := by
  have S := sc_require_many
  have mv : ∀ i, EMono (tVar i) := fun i σ H Q Q' m h => by
    obtain ⟨v, e, q⟩ := h
    exact ⟨v, e, m _ _ q⟩
  refine F.ok S (fun vs H Q E h => ?_) (fun cdv A outer s H vs Q E hr h => ?_)
  · obtain ⟨v, n, rfl, _⟩ := h
    rfl
  · obtain ⟨v, n, rfl, nv, hw⟩ := h
    refine ⟨_, (pss_cons (ps_if (PW.pt (pw_or (pt_not (pt_val (pe_c c1 hr (by decide) (by rfl) (E := E0) pass0 (pa_cons (pv 0) pa_nil)))) (pw_or1 (pt_cmpR op_lt (pv 0) pe_int (nomark _))))) (pss_one (ps_raise rfl (takes_of rfl rfl rfl rfl) (pmkG T1 hr (by decide) (by rfl) (pv 0) (mv 0)))) pss_nil)
      (pss_one (ps_if (pt_cmpR op_gt (pv 0) (pv 1) (nomark _)) (pss_one (ps_raise rfl (takes_of rfl rfl rfl rfl) (pmkG T2 hr (by decide) (by rfl) (pv 0) (mv 0)))) pss_nil))), ?_⟩
    refine ⟨v, rfl, v, rfl, nv, _, rfl, ?_⟩
    by_cases hv : isI v = true
    · obtain ⟨i, rfl⟩ : ∃ i, v = .int i := by
        cases v with
        | int i => exact ⟨i, rfl⟩
        | _ => cases hv
      refine iteF' rfl ?_
      rcases hw with ⟨hA | ⟨i', e, hneg⟩, q⟩ | ⟨i', e, h0, h1, q⟩ | ⟨i', e, h0, h1, q⟩
      · cases hA
      · cases e
        refine ⟨_, rfl, _, _, rfl, rfl, _, rfl, iteT' (by simpa using hneg) ?_⟩
        exact ⟨_, rfl, q⟩
      · cases e
        refine ⟨_, rfl, _, _, rfl, rfl, _, rfl, iteF' (by simpa using h0) ?_⟩
        refine ⟨_, rfl, _, rfl, _, _, rfl, rfl, _, rfl, iteT' (by simpa using h1) ?_⟩
        exact ⟨_, rfl, q⟩
      · cases e
        refine ⟨_, rfl, _, _, rfl, rfl, _, rfl, iteF' (by simpa using h0) ?_⟩
        refine ⟨_, rfl, _, rfl, _, _, rfl, rfl, _, rfl, iteF' (by simpa using h1) ?_⟩
        exact q
    · have hv' : isI v = false := by simpa using hv
      rcases hw with ⟨_, q⟩ | ⟨i, rfl, _⟩ | ⟨i, rfl, _⟩
      · refine iteT' (by rw [hv']; rfl) ?_
        exact iteT' rfl ⟨_, rfl, q⟩
      · cases hv'
      · cases hv'
end
end K67
end
section
set_option Elab.async false
set_option linter.all false
set_option maxRecDepth 100000
set_option maxHeartbeats 4000000
/-! `with o as y: return e`, o an own object; what e raises goes on behind __exit__ -/
namespace L2
open PySem PySem.Spec PyProof.Rows L2H
/-- a def that raises nothing, whatever is handled -/
structure FnW (P : Program) (w : World) (K : PySem.W.Frag) (mg : Str → Option Value) (base : Heap) (k : Nat) (f : Addr) (fd : FuncData) (ps : List Str) (sp : Sp) : Prop where
  len : ∀ vs H Q E, sp vs H Q E → vs.length = ps.length
  run : ∀ (A : Around) (outer : List Env) (s : Shared) (H : Hp) (args : Args) (us : List Value) (vs : List V) (Q : VK), RoomH k A → Env0 P w K mg base A outer s H → BindsTo s fd args (ps.zip us) → Vals vs us → sp vs H Q (fun _ _ _ => False) →
    codeAny (model P w) A (.call (.ref f) args) (fun r s' => match r with | .ok (.ret u) => CE outer P w H s Q u s' | _ => False) s
def cxW (P : Program) (w : World) (K : PySem.W.Frag) (mg : Str → Option Value) (base : Heap) (N : List Str) (qual : Str) (scope : Scope) (f : Addr) (cd : Value) (A : Around) (outer : List Env) (s : Shared) (H : Hp) : Cx :=
  { cxOf CX0 P w K mg base N qual scope f cd A outer s H (fun _ _ _ => False) with calm := false, xe := fun _ _ => False }
theorem inv_startW {P : Program} {w : World} {K : PySem.W.Frag} {mg : Str → Option Value} {base : Heap} {N ps : List Str} {qual : Str} {scope : Scope} {f : Addr} {cd : Value} {A : Around} {outer : List Env} {s s1 : Shared} {H : Hp} {us : List Value} {vs : List V}
    (S : FnScope N ps scope) (e0 : Env0 P w K mg base A outer s H) (hl : vs.length = ps.length) (r : Vals vs us)
    (x : InCallC s s.heap.objs.size (bindL (envOfC qual scope s.heap.objs.size f cd).kindOf (ps.zip us) fun _ => none) (cellsFrom (s.heap.objs.size + 1) scope.names []) (bindC (envOfC qual scope s.heap.objs.size f cd).kindOf (ps.zip us) fun _ => none) s1) :
    Inv (cxW P w K mg base N qual scope f cd A outer s H) [] (L2.start N vs) H s1 := by
  have hpl : ps.length ≤ N.length := by have := congrArg List.length S.pre; rw [List.length_take] at this; omega
  obtain ⟨h1, tk, rfl, hk⟩ := x.done
  have noA : ∀ b : Addr, b ∉ (cxW P w K mg base N qual scope f cd A outer s H).ex := fun b z => absurd (show b ∈ ([] : List Addr) from z) (by simp)
  refine ⟨⟨e0.mod, S.kind, rfl, rfl, Nat.le_refl _, fun y z c h1 h2 => ?_, fun y hy => ?_, fun y c _ h => ?_, (fun z => Bool.noConfusion (show false = true from z)), Around.frames_deeper e0.frames, .inr ⟨rfl, rfl⟩, fun b z => absurd z (noA b), e0.bs, e0.bsz, fun b _ _ => noA b, fun b z => absurd z (noA b), e0.funs, e0.frf⟩,
    rfl, e0.bare, Un.kept hk, ⟨_, x.toInCall.ns, fun i y v h1 h2 h3 => ?_⟩, fun y c h => ⟨_, x.cell y c h⟩, e0.hok.fresh (Nat.le_refl _), fun y c h => ?_, fun q hq => absurd (show q ∈ ([] : List (Addr × Obj)) from hq) (by simp), e0.hok.kept hk, ?_⟩
  · exact name_of_addr x.apart (PySem.mem_of_lookup h1) (PySem.mem_of_lookup h2)
  · have hy : scope.names.lookup y = some .cell ∨ scope.names.lookup y = some .free := hy
    rcases hy with hy | hy
    · exact cell_has hy
    · exact absurd rfl (S.nofree _ (PySem.mem_of_lookup hy))
  · exact Nat.le_of_lt (x.above y c (PySem.mem_of_lookup h))
  · have hi : i < vs.length := by
      unfold L2.start at h2
      by_cases hi : i < vs.length
      · exact hi
      · rw [List.getElem?_append_right (by simpa using hi)] at h2
        rw [List.getElem?_replicate] at h2
        split at h2 <;> cases h2
    have ha : vs[i]? = some v := by
      unfold L2.start at h2
      rw [List.getElem?_append_left (by simpa using hi), List.getElem?_map] at h2
      cases e : vs[i]? with
      | none => rw [e] at h2; cases h2
      | some a => rw [e] at h2; cases h2; rfl
    obtain ⟨u, hu, rv⟩ := r.get ha
    have hp : ps[i]? = some y := by
      rw [← S.pre, List.getElem?_take_of_lt (by omega)]; exact h1
    have ndP : ps.Nodup := by rw [← S.pre]; exact S.nd.sublist (List.take_sublist _ _)
    refine ⟨u, rv, ?_⟩
    rcases S.par y (List.mem_of_getElem? hp) with k | k
    · exact .inl ⟨k, bindL_get ndP hp hu k⟩
    · obtain ⟨c, e⟩ := cell_has (n := s.heap.objs.size + 1) k
      refine .inr ⟨.inl k, c, e, ?_⟩
      have q := x.cell y c e
      rw [bindC_get ndP hp hu (by show scope.names.lookup y ≠ _; rw [k]; decide)] at q
      exact q
  · exact e0.hok.fresh (Nat.le_of_lt (x.above y c (PySem.mem_of_lookup h)))
  · unfold L2.start
    show _ = N.length
    rw [List.length_append, List.length_map, List.length_replicate]
    omega
theorem fn_ofW {P : Program} {w : World} {K : PySem.W.Frag} {mg : Str → Option Value} {base : Heap} {k : Nat} {f : Addr} {name qual : Str} {params : Arguments} {body : List Stmt} {scope : Scope} {dV kV doc pm cdv ct oc : Value} {an od : Option Addr}
    {osl : Array (Option Value)} {N ps : List Str} {sp : Sp} (lk : K.lookup f = some ⟨oc, od, .func (PySem.W.fnOf name qual params body scope dV kV doc pm an cdv ct), osl⟩) (hcd : PySem.W.codeIn K cdv qual = true) (S : FnScope N ps scope)
    (len : ∀ vs H Q E, sp vs H Q E → vs.length = ps.length)
    (hbody : ∀ (A : Around) (outer : List Env) (s : Shared) (H : Hp) (vs : List V) (Q : VK), RoomH k (A.deeper (envOfC qual scope s.heap.objs.size f cdv)) → sp vs H Q (fun _ _ _ => False) →
      ∃ t, PSs (cxW P w K mg base N qual scope f cdv A outer s H) body t ∧ t { nx := fun _ H' => Q .non H', rt := Q } (L2.start N vs) H) :
    FnW P w K mg base (k + 1) f (PySem.W.fnOf name qual params body scope dV kV doc pm an cdv ct) ps sp := by
  refine ⟨len, fun A outer s H args us vs Q hr e0 hb r hsp => ?_⟩
  have hl := len _ _ _ _ hsp
  have KX : K.In s.heap := e0.mod.kin.keeps fun b o e => (e0.bs b o e).1
  have lim : s.heap.NoLimit := e0.mod.nolimit.keeps fun b o e => (e0.bs b o e).1
  have hkind : ∀ y ∈ ps.zip us, scope.names.lookup y.1 = some .local ∨ (scope.names.lookup y.1 = some .cell ∧ ((cellsFrom (s.heap.objs.size + 1) scope.names []).lookup y.1).isSome = true) := fun ⟨n, v⟩ hy => by
    rcases S.par n (List.of_mem_zip hy).1 with q | q
    · exact .inl q
    · exact .inr ⟨q, PySem.W.cellsFrom_some _ _ _ (.inl q)⟩
  refine codeAny_call_function hr.depth (KX _ _ lk) rfl S.co S.gen rfl (PySem.W.codeRec_of KX hcd) (hb _ _ _ _ ?_)
  refine wpAny_newFunctionEnv_cells S.kind hkind fun env he s1 x => ?_
  subst he
  refine ⟨lim.keeps x.toInCall.keep, codeAny_func ?_⟩
  obtain ⟨t, ht, hq⟩ := hbody A outer s H vs Q (hr.deeper _) hsp
  have I : Inv (cxW P w K mg base N qual scope f cdv A outer s H) [] (L2.start N vs) H s1 := inv_startW S e0 hl r x
  refine wpAny_mono (ht.run [] s1 (L2.start N vs) H _ I hq) (fun fl s' hs => ?_) fun e s' hs => hs.elim
  have fin : ∀ {σ' : L2.St} {H' : Hp} {v : V} {u : Value}, Inv (cxW P w K mg base N qual scope f cdv A outer s H) [] σ' H' s' → RelV v u → Q v H' → CE outer P w H s Q u s' :=
    fun {σ' H' v u} J rv q => ⟨v, H', J.os, J.bare, J.base, J.hok, rv, q⟩
  cases fl with
  | ret u =>
    obtain ⟨v, σ', H', J, rv, q⟩ := hs
    exact fin J rv q
  | next =>
    obtain ⟨σ', H', J, q⟩ := hs
    exact fin (v := V.non) (u := Value.none) J rfl q
  | brk =>
    obtain ⟨_, _, _, q⟩ := hs
    exact False.elim q
  | cont =>
    obtain ⟨_, _, _, q⟩ := hs
    exact False.elim q
end L2
namespace PySem.W
open PySem PySem.Calls PyProof.Rows
section
variable {prog : Program} {w : World} {M : Model} {A : Around} {E : Value → Shared → Prop} {s : Shared} {env : Env} {K : Frag} {x C L fe fx : Addr} {h₀ : Heap} {m : Str → Option Value} {ox : Obj} {od : Option Obj} {pos : Pos}
/-- what raises in the block: noted, __exit__ is called, it goes on -/
def WithRaised (prog : Program) (w : World) (A : Around) (E : Value → Shared → Prop) (env : Env) (x fx : Addr) (Q : Flow → Shared → Prop) (e : Value) (s : Shared) : Prop := ∃ a : Addr, e = .ref a ∧
  wpAny (model prog w) A (noteFrame e env) (fun _ s1 => wpAny (model prog w) A (setFlight e none) (fun _ s2 =>
    ∃ (oe : Obj) (vs : Array Value) (T : Addr) (oT : Obj) (ts : Array Value) (t1 : Value), s2.heap.get? a = some oe ∧ oe.data = .fields vs ∧ vs[1]? = some (.ref T) ∧ s2.heap.get? T = some oT ∧ oT.data = .fields ts ∧ ts[1]? = some t1 ∧
      ∀ tb : Value, (tb = .none ∨ tb = .ref T) → codeAny (model prog w) (A.mark (some e)) (.call (.ref fx) ⟨[.ref x, oe.cls, .ref a, tb], []⟩) (fun r s3 => r = .ok (.ret .none) ∧ wpAny (model prog w) A (passOn "with" e env) Q E s3) s2) E s1) E s
theorem kwx_core {b : Value → Sem Unit} {bdy : Sem Flow} {Q : Flow → Shared → Prop} (X : K.In s.heap) (I : InstAt s.heap x ox C od) (he : findIn K (.ref C) "__enter__" = some (some (.ref fe))) (hfe : isFn K (.ref fe) = true) (hx : findIn K (.ref C) "__exit__" = some (some (.ref fx))) (hfx : isFn K (.ref fx) = true)
    (h : wpAny (model prog w) A (call (.ref fe) [.ref x]) (fun v s₂ => wpAny (model prog w) A (b v >>= fun _ => bdy) (fun f s₄ => wpAny (model prog w) A (call (.ref fx) [.ref x, .none, .none, .none]) (fun _ s₅ => Q f s₅) E s₄) (WithRaised prog w A E env x fx Q) s₂) E s) :
    wpAny (model prog w) A (withItem false pos env (pure (.ref x)) (some b) bdy) Q E s := by
  obtain ⟨cd, hcd, ae⟩ := kw_along he
  obtain ⟨cd', hcd', ax⟩ := kw_along hx
  cases hcd.symm.trans hcd'
  obtain ⟨hh, g, d, tt, os⟩ := s
  have L1 : Looks (model prog w) hh (specialOnItsLine (.ref x) "__enter__") (some (.ref fe), cd.mro) := kw_special X I hcd ae
  have L2 : Looks (model prog w) hh (specialOnItsLine (.ref x) "__exit__") (some (.ref fx), cd.mro) := kw_special X I hcd ax
  have L3 : Looks (model prog w) hh (bindSpecial (.ref fe) (.ref x)) (.ref fe, [.ref x]) := bind_fn X _ (beq_iff_eq.mp hfe)
  have L4 : Looks (model prog w) hh (bindSpecial (.ref fx) (.ref x)) (.ref fx, [.ref x]) := bind_fn X _ (beq_iff_eq.mp hfx)
  have L5 : Looks (model prog w) hh (aMethodOfAnotherBuiltinTypeStops (.ref fe) cd.mro) () := Looks.of_pure rfl
  have L6 : Looks (model prog w) hh (aMethodOfAnotherBuiltinTypeStops (.ref fx) cd.mro) () := Looks.of_pure rfl
  unfold withItem
  refine wpAny_bind (wpAny_pure ?_)
  refine wpAny_bind (wpAny_standAt ?_)
  simp only [Bool.false_eq_true, if_false]
  kw_lk
  refine wpAny_mono h (fun v s₂ h₂ => ?_) fun _ _ z => z
  kw_lk
  refine wpAny_attempt (kw_held ?_)
  show wpAny _ _ (b v >>= fun _ => bdy) _ _ _
  refine wpAny_mono h₂ (fun f s₄ h₄ => ?_) fun e s₄ h₄ => ?_
  · kw_lk
    refine wpAny_mono h₄ (fun _ s₅ h₅ => ?_) fun _ _ z => z
    kw_lk
    exact h₅
  · obtain ⟨a, rfl, h4⟩ := h₄
    show wpAny _ A (noteFrame (.ref a) env >>= _) _ _ _
    refine wpAny_bind (wpAny_mono h4 (fun _ s5 h5 => wpAny_bind (wpAny_mono h5 (fun _ s6 h6 => ?_) fun _ _ z => z)) fun _ _ z => z)
    obtain ⟨oe, vs, T, oT, ts, t1, g1, g2, g3, g4, g5, g6, hc⟩ := h6
    refine wpAny_bind (wpAny_standAt ?_)
    refine wpAny_holding ?_
    refine wpAny_bind (wpAny_typeOf_ref (o := oe) g1 ?_)
    have tbk : ∀ (Q' : Value → Shared → Prop) (E' : Value → Shared → Prop), (∀ tb, (tb = .none ∨ tb = .ref T) → Q' tb s6) → wpAny (model prog w) A (tracebackOf (.ref a)) Q' E' s6 := fun Q' E' hq => by
      unfold tracebackOf
      refine wpAny_bind (wpAny_field g1 g2 g3 ?_)
      show wpAny _ A (field (.ref T) 1 >>= _) _ _ _
      refine wpAny_bind (wpAny_field g4 g5 g6 ?_)
      by_cases ht : (t1 == Value.none) = true
      · rw [if_pos ht]
        exact wpAny_pure (hq _ (.inl rfl))
      · rw [if_neg ht]
        exact wpAny_pure (hq _ (.inr rfl))
    refine wpAny_bind (tbk _ _ fun tb htb => ?_)
    refine wpAny_bind ?_
    unfold withItem.marked
    refine wpAny_bind (wpAny_run (codeAny_mono (hc tb htb) fun r s7 h7 => ?_))
    obtain ⟨rfl, h7⟩ := h7
    refine wpAny_pure ?_
    refine wpAny_bind (wpAny_pure ?_)
    refine wpAny_bind (wpAny_pure ?_)
    exact h7
end
end PySem.W
end
section
set_option Elab.async false
set_option linter.all false
set_option maxRecDepth 100000
set_option maxHeartbeats 4000000
namespace L2
open PySem PySem.Spec PyProof.Rows L2H
def wWith (spX : Sp) (t : Addr) (Wout : WX) : WX := fun cls d σ H => (∃ C : Addr, cls = .ref C) ∧ ∀ vc ve vt : V, spX [.ref t, vc, ve, vt] H (fun u H2 => u = .non ∧ Wout cls d σ H2) (fun _ _ _ => False)
def tWithR (C : Addr) (spE spX : Sp) (te : WX → TE) (Wout : WX) (tc : TE) (i : Nat) : TS := fun D σ H => tc σ H fun x H1 => ∃ t dx fs, x = .ref t ∧ H1 t = some (.ins C dx fs) ∧
  spE [.ref t] H1 (fun v H2 => te (wWith spX t Wout) (σ.set i (some v)) H2 fun r H3 => spX [.ref t, .non, .non, .non] H3 (fun _ H4 => D.rt r H4) (fun _ _ _ => False)) (fun _ _ _ => False)
section
variable {X : Cx} {ctx e : Expr} {rp pos py : Pos} {y : Str} {te : WX → TE} {tc : TE} {Wout : WX} {C fe fx : Addr} {fde fdx : FuncData} {pse psx : List Str} {spE spX : Sp} {k i : Nat}
theorem with_exc {pins : List (Addr × Obj)} {D : Ends} {u : Value} {s' : Shared} {t : Addr} (hs : X.stack = X.env :: X.outer) (hf : X.env.frame = some X.env.locals) (hex : X.ex = []) (ok : X.Ok) (tk : Takes X Wout)
    (FW : FnW X.prog X.w X.K X.mg X.base k fx fdx psx spX) (bX : Binds X.K fdx psx []) (hr : RoomH k X.A)
    (xx : XE (X.tr (X.pn ++ pins) (PySem.W.WithRaised X.prog X.w X.A X.xe X.env t fx (SP X pins D))) (wWith spX t Wout) u s') :
    PySem.W.WithRaised X.prog X.w X.A X.xe X.env t fx (SP X pins D) u s' := by
  have hfr : X.A.frames = some (X.env :: X.outer) := by rw [ok.frames, hs]
  obtain ⟨a, B, sI, pins', σ', H', cls, d, rfl, J', nb, up, sky, na, os, ag, hw⟩ := xx
  have J : Inv X pins σ' H' sI := J'.ofTry ok
  have sky' : Sky B (X.env :: X.outer) a (Zc cls d) X.env.locals s'.heap := by rw [← hs]; exact sky
  refine ⟨a, rfl, Sky.land Zc.steady hfr hf sky' fun h3 fl3 up3 => ?_⟩
  have J3 : Inv X pins σ' H' { s' with heap := h3 } := J.landed nb fl3.1 (up.trans up3) os ag
  obtain ⟨k1, k2, k3, oe, vs, T, oT, ts, he3, hz, hd, hv1, hnT, hTe, hT, hdT, ht3⟩ := id fl3
  have nT : H' T = none := (J.inGround nb).gone hnT
  have notFr : ∀ (b : Addr) (o : Obj) (fv : Array Value), h3.get? b = some o → o.data = .fields fv → b ∉ frs (X.env :: X.outer) := fun b o fv e dd hm => by
    obtain ⟨_, o', e', hnf⟩ := k3.mem hm
    have eo : o = o' := Option.some.inj (e.symm.trans e')
    rw [← eo] at hnf
    exact hnf _ dd
  have locF : X.env.locals ∈ frs (X.env :: X.outer) := List.mem_filterMap.mpr ⟨X.env, List.mem_cons_self, hf⟩
  have fsF : ∀ b, b ∈ X.fs → b ∈ frs (X.env :: X.outer) := fun b hm => by
    obtain ⟨e, he, q⟩ := List.mem_filterMap.mp hm
    exact List.mem_filterMap.mpr ⟨e, List.mem_cons_of_mem _ he, q⟩
  have fa := notFr a oe vs he3 hd
  have fT := notFr T oT ts hT hdT
  have S3 : Inv (X.suite a ((a, oe) :: (T, oT) :: (X.pn ++ pins))) [] σ' H' { s' with heap := h3 } :=
    ⟨J3.ok.suite _ _, J3.os, J3.bare, J3.base, J3.loc, J3.cell, J3.free, J3.freeC, fun p hp => by
      rw [List.append_nil] at hp
      rcases List.mem_cons.mp hp with z | hp
      · rw [z]
        exact ⟨he3, na, fun z2 => fa (by rw [show a = X.env.locals from z2]; exact locF), fun z2 => fa (fsF _ z2), fun v z2 => by
          have z3 : oe.data = .cell v := z2
          rw [hd] at z3
          cases z3⟩
      · rcases List.mem_cons.mp hp with z | hp
        · rw [z]
          exact ⟨hT, nT, fun z2 => fT (by rw [show T = X.env.locals from z2]; exact locF), fun z2 => fT (fsF _ z2), fun v z2 => by
            have z3 : oT.data = .cell v := z2
            rw [hdT] at z3
            cases z3⟩
        · exact J3.pin p hp, J3.hok, J3.len⟩
  obtain ⟨t1, ht1⟩ : ∃ t1, ts[1]? = some t1 := by
    have h4 := (Array.getElem?_eq_some_iff.mp ht3).1
    exact ⟨ts[1], Array.getElem?_eq_getElem (by omega)⟩
  refine ⟨oe, vs, T, oT, ts, t1, he3, hd, hv1, hT, hdT, ht1, fun tb htb => ?_⟩
  obtain ⟨⟨C', hcls⟩, hw2⟩ := hw
  obtain ⟨vt, rvt⟩ : ∃ vt : V, RelV vt tb := by
    rcases htb with z | z
    · exact ⟨.non, z⟩
    · exact ⟨.ref T, z⟩
  have rcl : RelV (.ref C') oe.cls := hz.1.trans hcls
  have hw3 := hw2 (.ref C') (.ref a) vt
  have rv : Vals [V.ref t, .ref C', .ref a, vt] [Value.ref t, oe.cls, .ref a, tb] := .cons rfl (.cons rcl (.cons rfl (.cons rvt .nil)))
  have hlen : [Value.ref t, oe.cls, .ref a, tb].length = psx.length := by rw [← FW.len _ _ _ _ hw3]; rfl
  have hb := bX { s' with heap := h3 } [Value.ref t, oe.cls, .ref a, tb] S3.kIn (by rw [List.append_nil]; exact hlen)
  rw [List.append_nil] at hb
  refine codeAny_mono (FW.run (X.A.mark (some (.ref a))) X.stack { s' with heap := h3 } H' ⟨[.ref t, oe.cls, .ref a, tb], []⟩ _ _ _ ⟨hr.dp, hr.un⟩ S3.env0 hb rv hw3) fun r s6 hq => ?_
  cases r with
  | error er => exact False.elim hq
  | ok fl =>
    cases fl with
    | next => exact False.elim hq
    | brk => exact False.elim hq
    | cont => exact False.elim hq
    | ret u6 =>
    obtain ⟨v6, H6, S6, r6, ev6, q6⟩ := S3.after hq
    subst ev6
    obtain rfl : u6 = Value.none := r6
    refine ⟨rfl, ?_⟩
    have J6 : Inv X pins σ' H6 s6 := ⟨ok, S6.os, S6.bare, S6.base, S6.loc, S6.cell, S6.free, S6.freeC, fun p hp => S6.pin p (List.mem_append_left _ (List.mem_cons_of_mem _ (List.mem_cons_of_mem _ hp))), S6.hok, S6.len⟩
    have pa := S6.pin (a, oe) (List.mem_append_left _ List.mem_cons_self)
    have pT := S6.pin (T, oT) (List.mem_append_left _ (List.mem_cons_of_mem _ List.mem_cons_self))
    have ga : s6.heap.get? a = some oe := pa.1
    have gT : s6.heap.get? T = some oT := pT.1
    have na6 : H6 a = none := pa.2.1
    have nT6 : H6 T = none := pT.2.1
    -- what is not the exception's
    have far : ∀ b o, sI.heap.get? b = some o → b ≠ a ∧ b ≠ T := fun b o e => by
      by_cases hb : b ∈ frs X.stack
      · rw [hs] at hb
        exact ⟨fun z => fa (by rw [← z]; exact hb), fun z => fT (by rw [← z]; exact hb)⟩
      · have q := nb b o e hb
        exact ⟨fun z => by
          rw [z, k2] at q
          exact (nomatch q), fun z => by
          rw [z, hnT] at q
          cases q⟩
    have far0 : ∀ b o, X.s_0.heap.get? b = some o → b ≠ a ∧ b ≠ T := fun b o e => by
      obtain ⟨o', q⟩ := J.base.there b o e (by rw [hex]; simp)
      exact far b o' q
    have farP : ∀ p ∈ X.pn ++ pins, p.1 ≠ a ∧ p.1 ≠ T := fun p hp => far p.1 p.2 (J.pin p hp).1
    obtain ⟨G, g1, g2⟩ := restrict s6.heap fun b => !(decide (b = a) || decide (b = T))
    have gIn : ∀ b o, G.get? b = some o → s6.heap.get? b = some o ∧ b ≠ a ∧ b ≠ T := fun b o e => by
      cases q : (!(decide (b = a) || decide (b = T))) with
      | false =>
        rw [g2 b q] at e
        cases e
      | true =>
        rw [g1 b q] at e
        simp only [Bool.not_eq_true', Bool.or_eq_false_iff, decide_eq_false_iff_not] at q
        exact ⟨e, q.1, q.2⟩
    have gOf : ∀ b o, b ≠ a → b ≠ T → s6.heap.get? b = some o → G.get? b = some o := fun b o h1 h2 e => by
      rw [g1 b (by simp [h1, h2])]
      exact e
    have I6 : Inv X pins σ' H6 { s6 with heap := G } := J6.less (fun b o e => (gIn b o e).1) gOf ⟨oe, vs, ga, hd⟩ ⟨oT, ts, gT, hdT⟩ na6 nT6 far0 farP
    -- the ground behind the suite
    have B6in : ∀ b o, (PySem.W.hideAll G (frs X.stack)).get? b = some o → s6.heap.get? b = some o := fun b o e => (gIn b o (PySem.W.of_hideAll _ e)).1
    have Bno : ∀ b, (b = a ∨ b = T) → (PySem.W.hideAll G (frs X.stack)).get? b = none := fun b hb => by
      cases q : (PySem.W.hideAll G (frs X.stack)).get? b with
      | none => rfl
      | some o =>
        obtain ⟨_, n1, n2⟩ := gIn b o (PySem.W.of_hideAll _ q)
        rcases hb with z | z
        · exact absurd z n1
        · exact absurd z n2
    have fl6 : HandSPX.FlyingZ (PySem.W.hideAll G (frs X.stack)) (X.env :: X.outer) a (Zc cls d) s6.heap := by
      refine ⟨B6in, Bno a (.inl rfl), ?_, oe, vs, T, oT, ts, ga, hz, hd, hv1, Bno T (.inr rfl), hTe, gT, hdT, ht3⟩
      have ff := funFrames_none (B := PySem.W.hideAll G (frs X.stack)) J6.stack fun b hb => PySem.W.hideAll_none _ hb
      rw [← hs]
      exact ff
    show wpAny (model X.prog X.w) X.A (PySem.passOn "with" (.ref a) X.env) (SP X pins D) X.xe s6
    unfold PySem.passOn
    refine wpAny_bind (wpAny_field ga hd hv1 ?_)
    rw [if_neg (show ¬ ((Value.ref T == Value.none) = true) from by simp)]
    have goOn : wpAny (model X.prog X.w) X.A (setFlight (.ref a) X.env.frame) (fun _ s7 => wpAny (model X.prog X.w) X.A (throw (.ref a) : Sem Flow) (SP X pins D) X.xe s7) X.xe s6 := by
      rw [hf]
      refine HandSPX.setFlight_upZ fl6 fun h7 hh7 up7 => wpAny_throw (tk _ _ ?_)
      refine ⟨a, PySem.W.hideAll G (frs X.stack), { s6 with heap := G }, pins, σ', H6, cls, d, rfl, I6, fun b o e hb => PySem.W.hideAll_get _ e hb, ?_, .inr (.inr (by rw [← hs] at hh7; exact hh7)), na6, rfl, J6.bare, q6⟩
      exact Heap.UpToSlots.trans (Heap.UpToSlots.of_keeps fun b o e => (gIn b o e).1) up7
    first
      | exact wpAny_bind (wpAny_pure (wpAny_bind goOn))
      | exact wpAny_bind goOn
theorem ps_withRet (hs : X.stack = X.env :: X.outer) (hf : X.env.frame = some X.env.locals) (hex : X.ex = []) (tk : Takes X Wout) (hN : X.N.Nodup) (hy : X.N[i]? = some y) (hyl : X.env.scope.names.lookup y = some .local)
    (hctx : PE X ctx tc) (FE : FnOk X.prog X.w X.K X.mg X.base CX0 k fe fde pse spE) (bE : Binds X.K fde pse []) (FX : FnOk X.prog X.w X.K X.mg X.base CX0 k fx fdx psx spX) (FW : FnW X.prog X.w X.K X.mg X.base k fx fdx psx spX) (bX : Binds X.K fdx psx [])
    (ce : PySem.W.findIn X.K (.ref C) "__enter__" = some (some (.ref fe))) (hfe : PySem.W.isFn X.K (.ref fe) = true) (cx : PySem.W.findIn X.K (.ref C) "__exit__" = some (some (.ref fx))) (hfx : PySem.W.isFn X.K (.ref fx) = true) (hr : Room k X.A)
    (he : ∀ (W : WX) (pn : List (Addr × Obj)) (xe : Value → Shared → Prop), Takes (X.tr pn xe) W → PE (X.tr pn xe) e (te W)) :
    PS X (.With [⟨ctx, some (.Name y py)⟩] [.Return (some e) rp] pos) (tWithR C spE spX te Wout tc i) := by
  refine ⟨fun pins s σ H D I h => ?_⟩
  refine PySem.W.kw_execN (thn (hctx.run pins s σ H _ I h) fun u s1 ⟨x, H1, I1, r1, t, dx, fs, ex, ht, h1⟩ => ?_)
  subst ex
  obtain rfl : u = Value.ref t := r1
  obtain ⟨mA, O, _⟩ := ins_get I1.hok ht
  obtain ⟨od, J, _⟩ := O.look
  refine PySem.W.kwx_core (b := assign (.Name y py) X.env) I1.kIn J ce hfe cx hfx ?_
  refine thn (run_fn (E := fun _ _ _ => False) (dvs := []) (ds := []) FE hr bE .nil pass0 I1 (us := [.ref t]) (vs := [.ref t]) (.cons rfl .nil) h1) fun v s2 ⟨v2, H2, I2, r2, q2⟩ => ?_
  refine wpAny_bind (wpAny_assign_Name (store_ok I2 hN hy (.inl hyl) r2 (fun s3 I3 => ?_) (.inr hyl)))
  refine wpAny_execs_cons (wpAny_Return_some ?_)
  refine wpAny_mono ((he (wWith spX t Wout) (X.pn ++ pins) (PySem.W.WithRaised X.prog X.w X.A X.xe X.env t fx (SP X pins D)) (fun u s' xx => with_exc hs hf hex I.ok tk FW bX (roomH_of hr) xx)).run [] s3 _ H2 _ (I3.toTry _) q2) (fun u s4 z => ?_) (fun x s1 hx => hx)
  obtain ⟨r, H4, I4, r4, q4⟩ := z
  have I5 := I4.ofTry I.ok
  refine thn (run_fn (E := fun _ _ _ => False) (dvs := []) (ds := []) FX hr bX .nil pass0 I5 (us := [.ref t, .none, .none, .none]) (vs := [.ref t, .non, .non, .non]) (.cons rfl (.cons rfl (.cons rfl (.cons rfl .nil)))) q4) fun _ s5 ⟨_, H5, I6, _, q5⟩ => ?_
  exact ⟨r, _, H5, I6, r4, q5⟩
end
end L2
end
section
set_option Elab.async false
set_option linter.all false
set_option maxRecDepth 100000
set_option maxHeartbeats 4000000
namespace L2
open PySem PySem.Spec PyProof.Rows L2H
section
variable {X : Cx} {CX : CXT} {k i : Nat} {f : Addr} {fd : FuncData} {ps : List Str} {sp : Sp} {E : L2.St → XK} {x : Str} {p pos : Pos} {e : Expr} {es : List Expr} {t : TA}
/-- x(e, ..), x a local name that holds a def -/
def tCallL (i : Nat) (f : Addr) (sp : Sp) (E : L2.St → XK) (t : TA) : TE := fun σ H Q => σ[i]? = some (some (.ref f)) ∧ t σ H fun vs H1 => sp vs H1 Q (E σ)
theorem pe_callL (hN : X.N[i]? = some x) (hv : Vis X.env.scope x) (F : FnOk X.prog X.w X.K X.mg X.base CX k f fd ps sp) (hr : Room k X.A) (hk : PySem.W.keepIn X.K (.ref f) = true) (hb : Binds X.K fd ps []) (hx : ∀ σ, PassesAt CX X σ (E σ))
    (ha : PA X (e :: es) t) (hdb : (x == ("__debug__" : Str)) = false := by decide) (hcd : (x == ("__classdict__" : Str)) = false := by decide) (he : starEach (e :: es) X.env = (false, eval e X.env) :: starEach es X.env := by rfl) (hpl : (backTo pos (starEach es X.env)).any (·.1) = false := by rfl) :
    PE X (.Call (.Name x p) (e :: es) [] pos) (tCallL i f sp E t) := by
  refine ⟨fun pins s σ H Q I h => ?_⟩
  obtain ⟨hs, h⟩ := h
  refine wpAny_Call_Name_kw (thn ((pe_var (pos := p) (i := i) hN hv hdb hcd).run pins s σ H (fun v H1 => v = .ref f ∧ t σ H1 fun vs H1 => sp vs H1 Q (E σ)) I ⟨.ref f, hs, rfl, h⟩) fun u s0 ⟨v, H0, I0, r0, ev, h0⟩ => ?_)
  subst ev
  obtain rfl : u = Value.ref f := r0
  refine PySem.W.callWith_K (h₀ := X.base) I0.ok.mod.kin hk (thn (ha.run pos pins s0 σ H0 _ I0 h0) fun us s1 ⟨vs, H1, I1, r, q⟩ => ⟨I1.kIn, ?_⟩) he hpl
  exact run_fnS F hr hb (hx σ) I1 r q
end
end L2
namespace K67
open PySem PySem.Spec PyProof.Rows L2 L2H
def trF (e : Addr) (k : V) : List (Str × V) := [("own_editor", .ref e), ("own_kept", k)]
/-- the facts of the class Trial -/
structure CR (K : PySem.W.Frag) (TR : Addr) : Prop where
  cl : Cls K TR
  ne : NoAttr K TR "own_editor"
  nk : NoAttr K TR "own_kept"
section
variable {P : Program} {w : World} {K : PySem.W.Frag} {mg : Str → Option Value} {base : Heap} {T : Cls3} {TR : Addr}
def spTrIni (TR : Addr) : Sp := fun vs H Q _ => ∃ t dx e, vs = [.ref t, .ref e] ∧ H t = some (.ins TR dx []) ∧ Q .non (upd H t (.ins TR dx (trF e .non)))
theorem ok_Trial_init (cr : CR K TR) {f : Addr} {fd : FuncData} (F : FnP K "__init__" "Trial.__init__" s_Trial_init f fd) : FnOk P w K mg base CX0 1 f fd ["self", "editor"] (spTrIni TR) := by
  have S := sc_Trial_init
  refine ok0 F S (fun vs H Q E h => ?_) (fun cdv A outer s H vs Q E hr h => ?_)
  · obtain ⟨t, dx, e, rfl, _⟩ := h
    rfl
  · obtain ⟨t, dx, e, rfl, ht, q⟩ := h
    refine ⟨_, (pss_cons (ps_fld (pv 0) (pv 1) rfl) (pss_one (ps_fld (pv 0) pe_non rfl))), ?_⟩
    refine ⟨_, rfl, _, rfl, t, TR, dx, _, rfl, ht, cr.cl, cr.ne, by show 0 < 1000; decide, ?_⟩
    refine ⟨_, rfl, t, TR, dx, _, rfl, upd_same, cr.cl, cr.nk, by show 1 < 1000; decide, ?_⟩
    rw [upd_upd]
    exact q
def spTrEn (T : Cls3) (TR : Addr) : Sp := fun vs H Q _ => ∃ t dx e dxe, ∃ s : EdF, ∃ ls, vs = [.ref t] ∧ H t = some (.ins TR dx (trF e .non)) ∧ H e = some (.ins T.e dxe (edF s)) ∧ IsTwo T H s.m ls ∧ Fit ls s.t ∧
  ∀ H' k dxk mk wd r, SameE t H H' → H k = none → H' k = some (.ins T.e dxk (edF ⟨s.past, s.undone, s.before, s.m, s.t, mk, wd, r⟩)) → H' t = some (.ins TR dx (trF e (.ref k))) → Q (.ref e) H'
theorem ok_Trial_enter (cf : CF K T) (cr : CR K TR) (nT : TR ≠ T.e) {f : Addr} {fd : FuncData} (F : FnP K "__enter__" "Trial.__enter__" s_Trial_enter f fd) (c1 : Mth P w K mg base CX0 15 T.e "twin" (spTwin T)) : FnOk P w K mg base CX0 16 f fd ["self"] (spTrEn T TR) := by
  have S := sc_Trial_enter
  refine ok0 F S (fun vs H Q E h => ?_) (fun cdv A outer s H vs Q E hr h => ?_)
  · obtain ⟨t, dx, e, dxe, s0, ls, rfl, _⟩ := h
    rfl
  · obtain ⟨t, dx, e, dxe, s0, ls, rfl, ht, he, hm, hf, q⟩ := h
    refine ⟨_, (pss_cons (ps_fld (pv 0) (pe_m0 (pe_fldK (K := K) rfl (pv 0) rfl) c1 hr (by decide) (E := E0) pass0) rfl) (pss_one (ps_ret (pe_fldK (K := K) rfl (pv 0) rfl)))), ?_⟩
    refine ⟨_, rfl, t, TR, dx, _, _, rfl, ht, cr.cl, cr.ne, rfl, e, dxe, _, rfl, he, rfl, e, dxe, s0, ls, rfl, he, hm, hf, fun H1 k dxk mk wd r sm hk hke => ?_⟩
    have nkt : k ≠ t := fun z => by rw [z, ht] at hk; cases hk
    refine ⟨_, rfl, t, TR, dx, _, rfl, sm _ _ ht, cr.cl, cr.nk, by show 2 < 1000; decide, ?_⟩
    refine ⟨_, rfl, t, TR, dx, _, _, rfl, upd_same, cr.cl, cr.ne, rfl, ?_⟩
    exact q _ k dxk mk wd r (SameE.put (.of sm)) hk (by rw [upd_ne nkt]; exact hke) upd_same
def spTrEx (T : Cls3) (TR : Addr) : Sp := fun vs H Q _ => ∃ t dxt e dxe k dxk, ∃ s s2 : EdF, ∃ x y z, vs = [.ref t, x, y, z] ∧ H t = some (.ins TR dxt (trF e (.ref k))) ∧ H e = some (.ins T.e dxe (edF s)) ∧ H k = some (.ins T.e dxk (edF s2)) ∧ t ≠ e ∧ k ≠ e ∧
  Q .non (upd H e (.ins T.e dxe (edF s2)))
theorem ok_Trial_exit {f : Addr} {fd : FuncData} (F : FnP K "__exit__" "Trial.__exit__" s_Trial_exit f fd) (cf : CF K T) (cr : CR K TR) : FnOk P w K mg base CX0 1 f fd ["self", "kind", "error", "place"] (spTrEx T TR) := by
  have S := sc_Trial_exit
  refine ok0 F S (fun vs H Q E h => ?_) (fun cdv A outer s H vs Q E hr h => ?_)
  · obtain ⟨t, dxt, e, dxe, k, dxk, s1, s2, x, y, z, rfl, _⟩ := h
    rfl
  · obtain ⟨t, dxt, e, dxe, k, dxk, s1, s2, x, y, z, rfl, ht, he, hk, net, nek, q⟩ := h
    have cl := cf.ie.cl
    have clR := cr.cl
    have nre := cr.ne
    have nrk := cr.nk
    refine ⟨_, (pss_cons (ps_fld (pe_fldK (K := K) rfl (pv 0) rfl) (pe_fldK (K := K) rfl (pe_fldK (K := K) rfl (pv 0) rfl) rfl) rfl)
      (pss_cons (ps_fld (pe_fldK (K := K) rfl (pv 0) rfl) (pe_fldK (K := K) rfl (pe_fldK (K := K) rfl (pv 0) rfl) rfl) rfl)
      (pss_cons (ps_fld (pe_fldK (K := K) rfl (pv 0) rfl) (pe_fldK (K := K) rfl (pe_fldK (K := K) rfl (pv 0) rfl) rfl) rfl)
      (pss_cons (ps_fld (pe_fldK (K := K) rfl (pv 0) rfl) (pe_fldK (K := K) rfl (pe_fldK (K := K) rfl (pv 0) rfl) rfl) rfl)
      (pss_cons (ps_fld (pe_fldK (K := K) rfl (pv 0) rfl) (pe_fldK (K := K) rfl (pe_fldK (K := K) rfl (pv 0) rfl) rfl) rfl)
      (pss_cons (ps_fld (pe_fldK (K := K) rfl (pv 0) rfl) (pe_fldK (K := K) rfl (pe_fldK (K := K) rfl (pv 0) rfl) rfl) rfl)
      (pss_cons (ps_fld (pe_fldK (K := K) rfl (pv 0) rfl) (pe_fldK (K := K) rfl (pe_fldK (K := K) rfl (pv 0) rfl) rfl) rfl)
      (pss_one (ps_fld (pe_fldK (K := K) rfl (pv 0) rfl) (pe_fldK (K := K) rfl (pe_fldK (K := K) rfl (pv 0) rfl) rfl) rfl))))))))), ?_⟩
    refine ⟨_, rfl, t, TR, dxt, _, _, rfl, ht, clR, nrk, rfl, k, T.e, dxk, _, _, rfl, hk, cl, cf.ne _ (by decide +kernel), rfl, ?_⟩
    refine ⟨_, rfl, t, TR, dxt, _, _, rfl, ht, clR, nre, rfl, e, T.e, dxe, _, rfl, he, cl, cf.ne _ (by decide +kernel), by show 8 < 1000; decide, ?_⟩
    refine ⟨_, rfl, t, TR, dxt, _, _, rfl, (by rw [upd_ne net]; exact ht), clR, nrk, rfl, k, T.e, dxk, _, _, rfl, (by rw [upd_ne nek]; exact hk), cl, cf.ne _ (by decide +kernel), rfl, ?_⟩
    refine ⟨_, rfl, t, TR, dxt, _, _, rfl, (by rw [upd_ne net]; exact ht), clR, nre, rfl, e, T.e, dxe, _, rfl, upd_same, cl, cf.ne _ (by decide +kernel), by show 8 < 1000; decide, ?_⟩
    rw [upd_upd]
    refine ⟨_, rfl, t, TR, dxt, _, _, rfl, (by rw [upd_ne net]; exact ht), clR, nrk, rfl, k, T.e, dxk, _, _, rfl, (by rw [upd_ne nek]; exact hk), cl, cf.ne _ (by decide +kernel), rfl, ?_⟩
    refine ⟨_, rfl, t, TR, dxt, _, _, rfl, (by rw [upd_ne net]; exact ht), clR, nre, rfl, e, T.e, dxe, _, rfl, upd_same, cl, cf.ne _ (by decide +kernel), by show 8 < 1000; decide, ?_⟩
    rw [upd_upd]
    refine ⟨_, rfl, t, TR, dxt, _, _, rfl, (by rw [upd_ne net]; exact ht), clR, nrk, rfl, k, T.e, dxk, _, _, rfl, (by rw [upd_ne nek]; exact hk), cl, cf.ne _ (by decide +kernel), rfl, ?_⟩
    refine ⟨_, rfl, t, TR, dxt, _, _, rfl, (by rw [upd_ne net]; exact ht), clR, nre, rfl, e, T.e, dxe, _, rfl, upd_same, cl, cf.ne _ (by decide +kernel), by show 8 < 1000; decide, ?_⟩
    rw [upd_upd]
    refine ⟨_, rfl, t, TR, dxt, _, _, rfl, (by rw [upd_ne net]; exact ht), clR, nrk, rfl, k, T.e, dxk, _, _, rfl, (by rw [upd_ne nek]; exact hk), cl, cf.ne _ (by decide +kernel), rfl, ?_⟩
    refine ⟨_, rfl, t, TR, dxt, _, _, rfl, (by rw [upd_ne net]; exact ht), clR, nre, rfl, e, T.e, dxe, _, rfl, upd_same, cl, cf.ne _ (by decide +kernel), by show 8 < 1000; decide, ?_⟩
    rw [upd_upd]
    refine ⟨_, rfl, t, TR, dxt, _, _, rfl, (by rw [upd_ne net]; exact ht), clR, nrk, rfl, k, T.e, dxk, _, _, rfl, (by rw [upd_ne nek]; exact hk), cl, cf.ne _ (by decide +kernel), rfl, ?_⟩
    refine ⟨_, rfl, t, TR, dxt, _, _, rfl, (by rw [upd_ne net]; exact ht), clR, nre, rfl, e, T.e, dxe, _, rfl, upd_same, cl, cf.ne _ (by decide +kernel), by show 8 < 1000; decide, ?_⟩
    rw [upd_upd]
    refine ⟨_, rfl, t, TR, dxt, _, _, rfl, (by rw [upd_ne net]; exact ht), clR, nrk, rfl, k, T.e, dxk, _, _, rfl, (by rw [upd_ne nek]; exact hk), cl, cf.ne _ (by decide +kernel), rfl, ?_⟩
    refine ⟨_, rfl, t, TR, dxt, _, _, rfl, (by rw [upd_ne net]; exact ht), clR, nre, rfl, e, T.e, dxe, _, rfl, upd_same, cl, cf.ne _ (by decide +kernel), by show 8 < 1000; decide, ?_⟩
    rw [upd_upd]
    refine ⟨_, rfl, t, TR, dxt, _, _, rfl, (by rw [upd_ne net]; exact ht), clR, nrk, rfl, k, T.e, dxk, _, _, rfl, (by rw [upd_ne nek]; exact hk), cl, cf.ne _ (by decide +kernel), rfl, ?_⟩
    refine ⟨_, rfl, t, TR, dxt, _, _, rfl, (by rw [upd_ne net]; exact ht), clR, nre, rfl, e, T.e, dxe, _, rfl, upd_same, cl, cf.ne _ (by decide +kernel), by show 8 < 1000; decide, ?_⟩
    rw [upd_upd]
    exact q
theorem ok_Trial_exitW {f : Addr} {fd : FuncData} (F : FnP K "__exit__" "Trial.__exit__" s_Trial_exit f fd) (cf : CF K T) (cr : CR K TR) : FnW P w K mg base 1 f fd ["self", "kind", "error", "place"] (spTrEx T TR) := by
  have S := sc_Trial_exit
  obtain ⟨oc, od, dV, kV, doc, pm, an, cdv, ct, osl, rfl, lk, hcd, hD, hK⟩ := F.ex
  refine fn_ofW lk hcd S (fun vs H Q E h => ?_) (fun A outer s H vs Q hr h => ?_)
  · obtain ⟨t, dxt, e, dxe, k, dxk, s1, s2, x, y, z, rfl, _⟩ := h
    rfl
  · obtain ⟨t, dxt, e, dxe, k, dxk, s1, s2, x, y, z, rfl, ht, he, hk, net, nek, q⟩ := h
    have cl := cf.ie.cl
    have clR := cr.cl
    have nre := cr.ne
    have nrk := cr.nk
    refine ⟨_, (pss_cons (ps_fld (pe_fldK (K := K) rfl (pv 0) rfl) (pe_fldK (K := K) rfl (pe_fldK (K := K) rfl (pv 0) rfl) rfl) rfl)
      (pss_cons (ps_fld (pe_fldK (K := K) rfl (pv 0) rfl) (pe_fldK (K := K) rfl (pe_fldK (K := K) rfl (pv 0) rfl) rfl) rfl)
      (pss_cons (ps_fld (pe_fldK (K := K) rfl (pv 0) rfl) (pe_fldK (K := K) rfl (pe_fldK (K := K) rfl (pv 0) rfl) rfl) rfl)
      (pss_cons (ps_fld (pe_fldK (K := K) rfl (pv 0) rfl) (pe_fldK (K := K) rfl (pe_fldK (K := K) rfl (pv 0) rfl) rfl) rfl)
      (pss_cons (ps_fld (pe_fldK (K := K) rfl (pv 0) rfl) (pe_fldK (K := K) rfl (pe_fldK (K := K) rfl (pv 0) rfl) rfl) rfl)
      (pss_cons (ps_fld (pe_fldK (K := K) rfl (pv 0) rfl) (pe_fldK (K := K) rfl (pe_fldK (K := K) rfl (pv 0) rfl) rfl) rfl)
      (pss_cons (ps_fld (pe_fldK (K := K) rfl (pv 0) rfl) (pe_fldK (K := K) rfl (pe_fldK (K := K) rfl (pv 0) rfl) rfl) rfl)
      (pss_one (ps_fld (pe_fldK (K := K) rfl (pv 0) rfl) (pe_fldK (K := K) rfl (pe_fldK (K := K) rfl (pv 0) rfl) rfl) rfl))))))))), ?_⟩
    refine ⟨_, rfl, t, TR, dxt, _, _, rfl, ht, clR, nrk, rfl, k, T.e, dxk, _, _, rfl, hk, cl, cf.ne _ (by decide +kernel), rfl, ?_⟩
    refine ⟨_, rfl, t, TR, dxt, _, _, rfl, ht, clR, nre, rfl, e, T.e, dxe, _, rfl, he, cl, cf.ne _ (by decide +kernel), by show 8 < 1000; decide, ?_⟩
    refine ⟨_, rfl, t, TR, dxt, _, _, rfl, (by rw [upd_ne net]; exact ht), clR, nrk, rfl, k, T.e, dxk, _, _, rfl, (by rw [upd_ne nek]; exact hk), cl, cf.ne _ (by decide +kernel), rfl, ?_⟩
    refine ⟨_, rfl, t, TR, dxt, _, _, rfl, (by rw [upd_ne net]; exact ht), clR, nre, rfl, e, T.e, dxe, _, rfl, upd_same, cl, cf.ne _ (by decide +kernel), by show 8 < 1000; decide, ?_⟩
    rw [upd_upd]
    refine ⟨_, rfl, t, TR, dxt, _, _, rfl, (by rw [upd_ne net]; exact ht), clR, nrk, rfl, k, T.e, dxk, _, _, rfl, (by rw [upd_ne nek]; exact hk), cl, cf.ne _ (by decide +kernel), rfl, ?_⟩
    refine ⟨_, rfl, t, TR, dxt, _, _, rfl, (by rw [upd_ne net]; exact ht), clR, nre, rfl, e, T.e, dxe, _, rfl, upd_same, cl, cf.ne _ (by decide +kernel), by show 8 < 1000; decide, ?_⟩
    rw [upd_upd]
    refine ⟨_, rfl, t, TR, dxt, _, _, rfl, (by rw [upd_ne net]; exact ht), clR, nrk, rfl, k, T.e, dxk, _, _, rfl, (by rw [upd_ne nek]; exact hk), cl, cf.ne _ (by decide +kernel), rfl, ?_⟩
    refine ⟨_, rfl, t, TR, dxt, _, _, rfl, (by rw [upd_ne net]; exact ht), clR, nre, rfl, e, T.e, dxe, _, rfl, upd_same, cl, cf.ne _ (by decide +kernel), by show 8 < 1000; decide, ?_⟩
    rw [upd_upd]
    refine ⟨_, rfl, t, TR, dxt, _, _, rfl, (by rw [upd_ne net]; exact ht), clR, nrk, rfl, k, T.e, dxk, _, _, rfl, (by rw [upd_ne nek]; exact hk), cl, cf.ne _ (by decide +kernel), rfl, ?_⟩
    refine ⟨_, rfl, t, TR, dxt, _, _, rfl, (by rw [upd_ne net]; exact ht), clR, nre, rfl, e, T.e, dxe, _, rfl, upd_same, cl, cf.ne _ (by decide +kernel), by show 8 < 1000; decide, ?_⟩
    rw [upd_upd]
    refine ⟨_, rfl, t, TR, dxt, _, _, rfl, (by rw [upd_ne net]; exact ht), clR, nrk, rfl, k, T.e, dxk, _, _, rfl, (by rw [upd_ne nek]; exact hk), cl, cf.ne _ (by decide +kernel), rfl, ?_⟩
    refine ⟨_, rfl, t, TR, dxt, _, _, rfl, (by rw [upd_ne net]; exact ht), clR, nre, rfl, e, T.e, dxe, _, rfl, upd_same, cl, cf.ne _ (by decide +kernel), by show 8 < 1000; decide, ?_⟩
    rw [upd_upd]
    refine ⟨_, rfl, t, TR, dxt, _, _, rfl, (by rw [upd_ne net]; exact ht), clR, nrk, rfl, k, T.e, dxk, _, _, rfl, (by rw [upd_ne nek]; exact hk), cl, cf.ne _ (by decide +kernel), rfl, ?_⟩
    refine ⟨_, rfl, t, TR, dxt, _, _, rfl, (by rw [upd_ne net]; exact ht), clR, nre, rfl, e, T.e, dxe, _, rfl, upd_same, cl, cf.ne _ (by decide +kernel), by show 8 < 1000; decide, ?_⟩
    rw [upd_upd]
    refine ⟨_, rfl, t, TR, dxt, _, _, rfl, (by rw [upd_ne net]; exact ht), clR, nrk, rfl, k, T.e, dxk, _, _, rfl, (by rw [upd_ne nek]; exact hk), cl, cf.ne _ (by decide +kernel), rfl, ?_⟩
    refine ⟨_, rfl, t, TR, dxt, _, _, rfl, (by rw [upd_ne net]; exact ht), clR, nre, rfl, e, T.e, dxe, _, rfl, upd_same, cl, cf.ne _ (by decide +kernel), by show 8 < 1000; decide, ?_⟩
    rw [upd_upd]
    exact q
end
end K67
end
section
set_option Elab.async false
set_option linter.all false
set_option maxRecDepth 100000
set_option maxHeartbeats 4000000
namespace K67
open PySem PySem.Spec PyProof.Rows L2 L2H
theorem FnW.mono {P : Program} {w : World} {K : PySem.W.Frag} {mg : Str → Option Value} {base : Heap} {j k : Nat} {f : Addr} {fd : FuncData} {ps : List Str} {sp : Sp} (F : FnW P w K mg base j f fd ps sp) (h : j ≤ k) : FnW P w K mg base k f fd ps sp :=
  ⟨F.len, fun A outer s H args us vs Q hr => F.run A outer s H args us vs Q (hr.mono h)⟩
section
variable {P : Program} {w : World} {K : PySem.W.Frag} {mg : Str → Option Value} {base : Heap} {T : Cls3} {TR : Addr}
structure TrC (P : Program) (w : World) (K : PySem.W.Frag) (mg : Str → Option Value) (base : Heap) (T : Cls3) (TR : Addr) : Prop where
  cr : CR K TR
  en : ∃ (fe : Addr) (fde : FuncData) (pse : List Str), PySem.W.findIn K (.ref TR) "__enter__" = some (some (.ref fe)) ∧ PySem.W.isFn K (.ref fe) = true ∧ FnOk P w K mg base CX0 16 fe fde pse (spTrEn T TR) ∧ Binds K fde pse []
  ex : ∃ (fx : Addr) (fdx : FuncData) (psx : List Str), PySem.W.findIn K (.ref TR) "__exit__" = some (some (.ref fx)) ∧ PySem.W.isFn K (.ref fx) = true ∧ FnOk P w K mg base CX0 1 fx fdx psx (spTrEx T TR) ∧ FnW P w K mg base 1 fx fdx psx (spTrEx T TR) ∧ Binds K fdx psx []
/-! ### trial, attempt -/
def spTrial (TR : Addr) : Sp := fun vs H Q _ => ∃ e, vs = [.ref e] ∧ ∀ H' t dx, Same H H' → H t = none → H' t = some (.ins TR dx (trF e .non)) → Q (.ref t) H'
theorem ok_trial {f : Addr} {fd : FuncData} (F : FnP K "trial" "Editor.trial" s_Editor_trial f fd) (c1 : Mak P w K mg base CX0 1 "Trial" TR (spTrIni TR) []) : FnOk P w K mg base CX0 3 f fd ["self"] (spTrial TR) := by
  have S := sc_Editor_trial
  refine ok0 F S (fun vs H Q E h => ?_) (fun cdv A outer s H vs Q E hr h => ?_)
  · obtain ⟨e, rfl, _⟩ := h
    rfl
  · obtain ⟨e, rfl, q⟩ := h
    refine ⟨_, (pss_one (ps_ret (pe_mk c1 hr (by decide) (by rfl) (E := E0) pass0 (pa_cons (pv 0) pa_nil)))), ?_⟩
    refine ⟨_, rfl, fun t dx ht hdx hne => ?_⟩
    refine ⟨t, dx, e, rfl, upd_same, rfl, ?_⟩
    refine q _ t dx (fun b o hb => ?_) ht upd_same
    rw [upd_ne (ne_of_none hb ht), upd_ne (ne_of_none hb ht), upd_ne (ne_of_none hb hdx)]
    exact hb
def spAtt (T : Cls3) (fA : Addr) (spA : Sp) : Sp := fun vs H Q E => ∃ e dxe, ∃ s : EdF, ∃ ls, vs = [.ref e, .ref fA] ∧ H e = some (.ins T.e dxe (edF s)) ∧ IsTwo T H s.m ls ∧ Fit ls s.t ∧
  ∀ H1, Same H H1 → spA [.ref e] H1 (fun _ _ => False) (fun cls d H2 => (∃ C : Addr, cls = .ref C) ∧ SameE e H1 H2 ∧ (∃ s', H2 e = some (.ins T.e dxe (edF s'))) ∧
    ∀ H3 mk wd r, SameE e H2 H3 → H3 e = some (.ins T.e dxe (edF ⟨s.past, s.undone, s.before, s.m, s.t, mk, wd, r⟩)) → E cls d H3)
/-- a contract whose way out may be weakened -/
def SpMono (sp : Sp) : Prop := ∀ vs H Q Q' (E E' : XK), (∀ v H', Q v H' → Q' v H') → (∀ c d H', E c d H' → E' c d H') → sp vs H Q E → sp vs H Q' E'
theorem ok_attempt (cf : CF K T) (tr : TrC P w K mg base T TR) (nT : TR ≠ T.e) {f : Addr} {fd : FuncData} (F : FnP K "attempt" "Editor.attempt" s_Editor_attempt f fd) (c1 : Mth P w K mg base CX0 3 T.e "trial" (spTrial TR)) {fA : Addr} {fdA : FuncData} {psA : List Str} {spA : Sp} (FA : FnOk P w K mg base (L2.CX P w) 16 fA fdA psA spA) (hk : PySem.W.keepIn K (.ref fA) = true) (hb : Binds K fdA psA []) (mo : SpMono spA) :
    FnOk P w K mg base (L2.CX P w) 17 f fd ["self", "action"] (spAtt T fA spA) := by
  have S := sc_Editor_attempt
  obtain ⟨fe, fde, pse, ce, hfe, FE, bE⟩ := tr.en
  obtain ⟨fx, fdx, psx, cx, hfx, FX, FW, bX⟩ := tr.ex
  refine F.ok S (fun vs H Q E h => ?_) (fun cdv A outer s H vs Q E hr h => ?_)
  · obtain ⟨e, dxe, s0, ls, rfl, _⟩ := h
    rfl
  · obtain ⟨e, dxe, s0, ls, rfl, he, hm, hf, q⟩ := h
    refine ⟨_, (pss_one (ps_withRet (C := TR) (Wout := fun cls d _ H' => E cls d H') rfl rfl rfl (takes_of rfl rfl rfl rfl) S.nd (i := 2) rfl rfl (pe_m0 (pv 0) c1 hr (by decide) (E := E0) pass0) FE bE (FX.mono (by decide)) (K67.FnW.mono FW (by decide)) bX ce hfe cx hfx hr (fun W pn xe tk => pe_callL (i := 1) rfl (.inl rfl) FA hr hk hb (fun σ => passAt tk σ) (pa_cons (pv 2) pa_nil)))), ?_⟩
    refine ⟨_, rfl, e, dxe, _, rfl, he, rfl, e, rfl, fun H1 t dx sm1 ht hto => ?_⟩
    refine ⟨t, dx, _, rfl, hto, ?_⟩
    refine ⟨t, dx, e, dxe, s0, ls, rfl, hto, sm1 _ _ he, hm.same sm1, hf, fun H2 k dxk mk wd r sE hk2 hke ht2 => ?_⟩
    have net : e ≠ t := ne_of_none he ht
    have sm2 : Same H H2 := fun b o hb => sE b o (ne_of_none hb ht) (sm1 _ _ hb)
    refine ⟨rfl, _, rfl, ?_⟩
    refine mo _ _ _ _ _ _ (fun _ _ z => z.elim) (fun cls d H3 z => ?_) (q H2 sm2)
    obtain ⟨hC, sE3, ⟨s', he3⟩, q3⟩ := z
    refine ⟨hC, fun vc ve vt => ?_⟩
    have nke : k ≠ e := fun z => by
      rw [z, sm1 _ _ he] at hk2
      cases hk2
    refine ⟨t, dx, e, dxe, k, dxk, s', _, vc, ve, vt, rfl, sE3 _ _ (Ne.symm net) ht2, he3, sE3 _ _ nke hke, Ne.symm net, nke, ?_⟩
    exact ⟨rfl, q3 _ mk wd r (SameE.put .refl) upd_same⟩
end
end K67
end
section
set_option Elab.async false
set_option linter.all false
set_option maxRecDepth 100000
set_option maxHeartbeats 4000000
/-! == and != by an own __eq__, whatever it says -/
namespace PySem.W
open PySem PySem.Spec PySem.Calls PyProof.Rows
theorem ns_some_of {K : Frag} {h : Heap} {N : Addr} {mg : Str → Option Value} {n : Str} {v : Value} (X : K.In h) (G : h.Ns N mg) (e : nsIn K N n = some (some v)) : mg n = some v := by
  obtain ⟨o, es, ep, ho, hd, _, hf⟩ := G
  unfold nsIn at e
  split at e
  · rename_i c d es' n' sl q
    have := X _ _ q
    rw [ho] at this
    cases this
    cases hd
    split at e
    · rename_i z he
      rw [← hf]
      unfold nsFind findBy
      rw [← Array.find?_toList, he]
      cases e
      rfl
    · split at e <;> cases e
  · cases e
theorem ownEq_of {K : Frag} {h : Heap} {C f x : Addr} {o of : Obj} (X : K.In h) (q : ownEqIn K C f = true) (hx : h.get? x = some o) (hc : o.cls = .ref C) (hf : h.get? f = some of) (hfc : of.cls = .type "function") : h.OwnEqNoNe x C f "object" [.type "object"] := by
  unfold ownEqIn at q
  split at q
  · rename_i dd cd sl ho
    split at q
    · rename_i C' bm k0 k1 k2 k3 n k5 hm hs
      simp only [Bool.and_eq_true, beq_iff_eq, Bool.not_eq_true'] at q
      obtain ⟨⟨⟨⟨⟨⟨rfl, rfl⟩, hdel⟩, hok⟩, he⟩, hne⟩, hfn⟩ := q
      obtain ⟨nm, bs, mro, ns, qn, hd, sn, sub, ab, col, del⟩ := cd
      dsimp only at hm hdel hok he hne
      subst hm hdel
      have hsl : sl = #[k0, k1, k2, k3, some (.builtin n), k5] := by
        obtain ⟨l⟩ := sl
        simp only at hs
        rw [hs]
      subst hsl
      have G := Heap.Ns.of_isNs (isNs_of_in X hok)
      exact ⟨o, of, nm, qn, ns, bs, hd, sn, sub, ab, col, dd, k0, k1, k2, k3, k5, n, h.nsMap ns, _, hx, hc, X _ _ ho, G, ns_some_of X G he, hf, hfc, F.cmp_object.mro, F.cmp_object.eq.lookup, ns_none_of X G hne⟩
    · cases q
  · cases q
end PySem.W
namespace L2
open PySem PySem.Spec PyProof.Rows
section
variable {X : Cx} {n : Nat} {C f : Addr} {fd : FuncData} {ps : List Str} {sp : Sp} {of : Obj}
/-- == by the own __eq__ -/
def rEqI (C : Addr) (sp : Sp) : R2 := fun x y H Q => ∃ a b dx dy fs gs, x = .ref a ∧ y = .ref b ∧ H a = some (.ins C dx fs) ∧ H b = some (.ins C dy gs) ∧ sp [.ref a, .ref b] H (fun v H' => ∃ t, v = .bl t ∧ Q (.bl t) H') (fun _ _ _ => False)
def rNeI (C : Addr) (sp : Sp) : R2 := fun x y H Q => ∃ a b dx dy fs gs, x = .ref a ∧ y = .ref b ∧ H a = some (.ins C dx fs) ∧ H b = some (.ins C dy gs) ∧ sp [.ref a, .ref b] H (fun v H' => ∃ t, v = .bl t ∧ Q (.bl (!t)) H') (fun _ _ _ => False)
theorem op_eqI (F : FnOk X.prog X.w X.K X.mg X.base CX0 n f fd ps sp) (hs : PySem.W.findIn X.K (.ref C) "__eq__" = some (some (.ref f))) (hf : PySem.W.isFn X.K (.ref f) = true) (hb : Binds X.K fd ps []) (hr : Room n X.A) : OpR X (compareOp .Eq) (rEqI C sp) := by
  intro pins s σ H x y v u Q I rx ry hq
  obtain ⟨a, b, dx, dy, fs, gs, rfl, rfl, ha, hb', q⟩ := hq
  cases rx
  cases ry
  obtain ⟨mA, J, _⟩ := ins_get I.hok ha
  obtain ⟨mB, J', _⟩ := ins_get I.hok hb'
  obtain ⟨od, J, _⟩ := J.look
  obtain ⟨od', J', _⟩ := J'.look
  obtain ⟨m, hF⟩ := I.fr
  show wpAny (model X.prog X.w) X.A (richCompare .Eq (.ref a) (.ref b)) (EP X pins σ Q) X.xe s
  refine PySem.W.cmp_K (op := .Eq) (tb := .ref C) hr.units0 hF I.ok.mod.kin J J'.type (by simp [PySem.W.notFirst]) hs hf ?_
  refine thn (run_fn (E := fun _ _ _ => False) (dvs := []) (ds := []) F hr hb .nil pass0 I (us := [.ref a, .ref b]) (vs := [.ref a, .ref b]) (.cons rfl (.cons rfl .nil)) q) fun v s2 ⟨v2, H2, I2, r2, t, et, q2⟩ => ?_
  subst et
  obtain rfl : v = Value.bool t := r2
  exact ⟨.bl t, H2, I2, rfl, q2⟩
theorem op_neI (F : FnOk X.prog X.w X.K X.mg X.base CX0 n f fd ps sp) (hs : PySem.W.ownEqIn X.K C f = true) (hof : X.K.lookup f = some of) (hfc : of.cls = .type "function") (hb : Binds X.K fd ps []) (hr : Room (n + 1) X.A) : OpR X (compareOp .NotEq) (rNeI C sp) := by
  intro pins s σ H x y v u Q I rx ry hq
  obtain ⟨a, b, dx, dy, fs, gs, rfl, rfl, ha, hb', q⟩ := hq
  cases rx
  cases ry
  obtain ⟨mA, J, _⟩ := ins_get I.hok ha
  obtain ⟨mB, J', _⟩ := ins_get I.hok hb'
  have hl := F.len _ _ _ _ q
  have hbd := hb s [.ref a, .ref b] I.kIn (by simpa using hl)
  have hu := hr.un
  have G := PySem.W.ownEq_of I.kIn hs J.obj rfl (I.kIn _ _ hof) hfc
  have e0 : Env0 X.prog X.w X.K X.mg X.base X.A.in1 X.stack s H := by
    have e := I.env0
    exact ⟨e.frames, e.mod, e.bs, e.bsz, e.funs, e.frf, e.hok, e.bare⟩
  have r2 : Vals [V.ref a, V.ref b] [Value.ref a, Value.ref b] := .cons rfl (.cons rfl .nil)
  have run := F.run X.A.in1 X.stack s H ⟨[.ref a, .ref b], []⟩ [.ref a, .ref b] [.ref a, .ref b] _ (fun _ _ _ => False) hr.in1 e0 (by simpa using hbd) r2 q
  obtain ⟨hp, g, d, t, os⟩ := s
  refine compareOp_ne_ownEq PySem.F.cmp_object G J'.obj rfl (by omega) (wpAny_call (codeAny_mono run fun r s' hq => ?_))
  cases r with
  | error e => exact (show False from hq).elim
  | ok fl =>
    cases fl with
    | ret w =>
      obtain ⟨z, H', I', rz, t, ez, q2⟩ := I.after hq
      subst ez
      obtain rfl : w = Value.bool t := rz
      exact ⟨t, rfl, .bl (!t), H', I', rfl, q2⟩
    | next => exact False.elim hq
    | brk => exact False.elim hq
    | cont => exact False.elim hq
end
end L2
end
section
set_option Elab.async false
set_option linter.all false
set_option maxRecDepth 100000
set_option maxHeartbeats 4000000
/-! == and != of dicts that are equal: keys int or text, or tuples of those; values that are seen to be equal -/
namespace PySem.W
open PySem PySem.Calls PyProof.Rows PyProof.V PySem.Spec
section
variable {prog : Program} {w : World} {K : Type} [DecidableEq K] {knd : HeapKind prog w K} {A : Around} {E : Value → Shared → Prop} {s : Shared}
def HitsH (prog : Program) (w : World) (A : Around) (s : Shared) (kb ka : List (K × Addr × Value)) : Prop := ∀ x ∈ ka, ∃ p, atKey kb x.1 = some p ∧ SeqAt.EqP prog w A s x.2.2 p.2 true
theorem samePairsH {nm : String} {a b : Addr} {ka kb : List (K × Addr × Value)} {Q : Bool → Shared → Prop} (hr : knd.room A) (ha : (a == sysModules) = false) (hb : (b == sysModules) = false)
    (da : s.heap.DictOfH knd a ka) (db : s.heap.DictOfH knd b kb) (hl : ka.length = kb.length) (hits : HitsH prog w A s kb ka) (h : Q true s) :
    wpAny (model prog w) A (Builtin.Dict.samePairs nm a b) Q E s := by
  obtain ⟨oa, es, ep, hoa, _, hda, hea, hia, _⟩ := da
  obtain ⟨ob, es', ep', hob, _, hdb, heb, hib, hnb⟩ := db
  have hla : es.size = ka.length := size_of_entries hea
  have hlb : es'.size = kb.length := size_of_entries heb
  have hsz : es.size = es'.size := by rw [hla, hlb, hl]
  unfold Builtin.Dict.samePairs Builtin.Dict.showsAll
  rw [if_neg (show ¬ (a == sysModules) = true by rw [ha]; exact Bool.false_ne_true), if_neg (show ¬ (b == sysModules) = true by rw [hb]; exact Bool.false_ne_true)]
  refine wpAny_bind (wpAny_pure (wpAny_bind (wpAny_pure ?_)))
  refine wpAny_bind (wpAny_dictEntries hoa hda ?_)
  dsimp only
  refine wpAny_bind (wpAny_dictEntries hob hdb ?_)
  rw [if_neg (by rw [hsz]; simp)]
  refine wpAny_bind (wpAny_dictEpoch hoa hda ?_)
  refine wpAny_bind ?_
  rw [Std.Legacy.Range.forIn_eq_forIn_range']
  simp only [Std.Legacy.Range.size, Nat.sub_zero, Nat.add_sub_cancel, Nat.div_one]
  refine wpAny_forIn_list _
    (fun rest q s' => s' = s ∧ q = (none, ()) ∧ ∃ i, rest = List.range' i (es.size - i) ∧ i ≤ es.size)
    _ ?_ ?_ _ _ ⟨rfl, rfl, 0, by simp, Nat.zero_le _⟩
  · rintro x rest q s' ⟨rfl, rfl, i, hr', hi⟩
    have hlt : i < es.size := by
      rcases Nat.lt_or_ge i es.size with h | h
      · exact h
      · rw [Nat.sub_eq_zero_of_le h] at hr'; simp at hr'
    obtain ⟨rfl, hrest⟩ : x = i ∧ rest = List.range' (i + 1) (es.size - (i + 1)) := by
      have e : es.size - i = (es.size - (i + 1)) + 1 := by omega
      rw [e, List.range'_succ] at hr'
      injection hr' with h1 h2
      exact ⟨h1, h2⟩
    refine wpAny_bind (wpAny_dictEntries hoa hda ?_)
    have hlt' : x < ka.length := by rw [← hla]; exact hlt
    have hej : es[x]? = some (entryOfKey knd ka[x]) := by rw [entry_at hea x, List.getElem?_eq_getElem hlt']; rfl
    rw [hej]
    have hmem : ka[x] ∈ ka := List.getElem_mem hlt'
    obtain ⟨p, hp, heq⟩ := hits _ hmem
    generalize ka[x] = kv at hmem hp heq
    obtain ⟨k, ad, v⟩ := kv
    show wpAny _ _ (holding [Value.ref ad, v] _ >>= _) _ _ _
    refine wpAny_bind (wpAny_holding (wpAny_bind (wpAny_dictFind_heap hr (hia _ hmem) hob hdb heb hib hnb (fun hno => ?_) (fun j p' hj => ?_))))
    · have := atKey_none_of_get hno
      rw [this] at hp
      cases hp
    · have e1 := atKey_of_get hnb hj
      have ep : p' = p := Option.some.inj (e1.symm.trans hp)
      subst ep
      refine wpAny_bind (wpAny_dictEntries hob hdb ?_)
      have hej2 : es'[j]? = some (entryOfKey knd (k, p')) := by rw [entry_at heb j, hj]; rfl
      rw [hej2]
      refine wpAny_holding (heq _ _ ?_)
      show wpAny _ _ (if (!true) = true then _ else _) _ _ _
      rw [if_neg (by decide)]
      refine wpAny_bind (wpAny_dictEpoch hoa hda ?_)
      rw [if_neg (by simp)]
      exact wpAny_pure ⟨rfl, rfl, x + 1, hrest, hlt⟩
  · rintro q s' ⟨rfl, rfl, _⟩
    exact wpAny_pure h
theorem rcH {a b : Addr} {ka kb : List (K × Addr × Value)} (hr : knd.room A.in1) (ha : (a == sysModules) = false) (hb : (b == sysModules) = false)
    (da : s.heap.DictOfH knd a ka) (db : s.heap.DictOfH knd b kb) (hl : ka.length = kb.length) (hu : A.units < cLine) (hits : HitsH prog w A.in1 s kb ka) (E Q : Value → Shared → Prop) (h : Q (.bool true) s) : wpAny (model prog w) A (richCompare .Eq (.ref a) (.ref b)) Q E s := by
  refine wpAny_richCompare_same_room (op := .Eq) da.typeIs db.typeIs PySem.F.slot_dict_eq (wpAny_call_entry PySem.F.slot_dict_eq da.typeIs PySem.F.entry_dict_eq ?_ (PySem.F.args_dict_eq_2 _ _)) hu
  show wpAny _ _ (Builtin.Dict.dictSlotArgs "__eq__" ⟨[.ref a, .ref b], []⟩ >>= _) _ _ s
  refine wpAny_bind ?_
  unfold Builtin.Dict.dictSlotArgs
  refine wpAny_bind (wpAny_notOrdered_dict da.typeIs ?_)
  show wpAny _ _ (pure (Value.ref a, Value.ref b)) _ _ s
  refine wpAny_pure ?_
  refine wpAny_bind (wpAny_isInstance (T := "dict") db.typeIs PySem.F.sub_dict_dict ?_)
  simp only [Bool.not_true, Bool.false_eq_true, if_false]
  refine wpAny_bind (wpAny_pure (wpAny_bind (wpAny_pure ?_)))
  refine wpAny_bind (samePairsH hr ha hb da db hl hits ?_)
  refine wpAny_pure ⟨_, rfl, ?_, ?_⟩
  · exact fun x => nomatch x
  · simpa using h
theorem rcneH {a b : Addr} {ka kb : List (K × Addr × Value)} (hr : knd.room A.in1) (ha : (a == sysModules) = false) (hb : (b == sysModules) = false)
    (da : s.heap.DictOfH knd a ka) (db : s.heap.DictOfH knd b kb) (hl : ka.length = kb.length) (hu : A.units < cLine) (hits : HitsH prog w A.in1 s kb ka) (E Q : Value → Shared → Prop) (h : Q (.bool false) s) : wpAny (model prog w) A (richCompare .NotEq (.ref a) (.ref b)) Q E s := by
  refine wpAny_richCompare_same_room (op := .NotEq) da.typeIs db.typeIs PySem.F.slot_dict_ne (wpAny_call_entry PySem.F.slot_dict_ne da.typeIs PySem.F.entry_dict_ne ?_ (PySem.F.args_dict_ne_2 _ _)) hu
  show wpAny _ _ (Builtin.Dict.dictSlotArgs "__ne__" ⟨[.ref a, .ref b], []⟩ >>= _) _ _ s
  refine wpAny_bind ?_
  unfold Builtin.Dict.dictSlotArgs
  refine wpAny_bind (wpAny_notOrdered_dict da.typeIs ?_)
  show wpAny _ _ (pure (Value.ref a, Value.ref b)) _ _ s
  refine wpAny_pure ?_
  refine wpAny_bind (wpAny_isInstance (T := "dict") db.typeIs PySem.F.sub_dict_dict ?_)
  simp only [Bool.not_true, Bool.false_eq_true, if_false]
  refine wpAny_bind (wpAny_pure (wpAny_bind (wpAny_pure ?_)))
  refine wpAny_bind (samePairsH hr ha hb da db hl hits ?_)
  refine wpAny_pure ⟨_, rfl, ?_, ?_⟩
  · exact fun x => nomatch x
  · simpa using h
end
section
variable {prog : Program} {w : World} {K : Type} [DecidableEq K] {knd : KeyKind prog w K} {A : Around} {E : Value → Shared → Prop} {s : Shared}
theorem rcneP_dicts {a b : Addr} {ka kb : List (K × Value)} {r : Bool} (ha : (a == sysModules) = false) (hb : (b == sysModules) = false)
    (da : s.heap.DictOf knd a ka) (db : s.heap.DictOf knd b kb) (hu : A.units < cLine) (hits : ka.length = kb.length → KeqHitsP prog w A.in1 s kb ka r) (E Q : Value → Shared → Prop) (h : Q (.bool (!(ka.length == kb.length && r))) s) : wpAny (model prog w) A (richCompare .NotEq (.ref a) (.ref b)) Q E s := by
  refine wpAny_richCompare_same_room (op := .NotEq) da.typeIs db.typeIs PySem.F.slot_dict_ne (wpAny_call_entry PySem.F.slot_dict_ne da.typeIs PySem.F.entry_dict_ne ?_ (PySem.F.args_dict_ne_2 _ _)) hu
  show wpAny _ _ (Builtin.Dict.dictSlotArgs "__ne__" ⟨[.ref a, .ref b], []⟩ >>= _) _ _ s
  refine wpAny_bind ?_
  unfold Builtin.Dict.dictSlotArgs
  refine wpAny_bind (wpAny_notOrdered_dict da.typeIs ?_)
  show wpAny _ _ (pure (Value.ref a, Value.ref b)) _ _ s
  refine wpAny_pure ?_
  refine wpAny_bind (wpAny_isInstance (T := "dict") db.typeIs PySem.F.sub_dict_dict ?_)
  simp only [Bool.not_true, Bool.false_eq_true, if_false]
  refine wpAny_bind (wpAny_pure (wpAny_bind (wpAny_pure ?_)))
  refine wpAny_bind (samePairsP ha hb da db hits ?_)
  refine wpAny_pure ⟨_, rfl, ?_, ?_⟩
  · exact fun x => nomatch x
  · simpa using h
end
end PySem.W
end
section
set_option Elab.async false
set_option linter.all false
set_option maxRecDepth 100000
set_option maxHeartbeats 4000000
namespace L2
open PySem PySem.Spec PyProof.Rows
/-- an item that is equal to itself -/
def selfB : V → Bool := fun v => flatB v || (match v with | .ref _ => true | _ => false)
/-- values that are seen to be equal: the same; or tuples of the same items -/
def EqF (H : Hp) (x y : V) : Prop := (x = y ∧ selfB x = true) ∨ ∃ a b xs, x = .ref a ∧ y = .ref b ∧ H a = some (.tup xs) ∧ H b = some (.tup xs) ∧ ∀ z ∈ xs, selfB z = true
theorem self_run {A : Around} {s : Shared} {x : V} {v u : Value} (h : selfB x = true) (rx : RelV x v) (ry : RelV x u) : SeqAt.EqAt A s v u true := by
  by_cases hf : flatB x = true
  · exact eqAt_same rx ry hf
  · cases x with
    | ref a =>
      cases (show v = Value.ref a from rx)
      cases (show u = Value.ref a from ry)
      exact SeqAt.EqAt.same _
    | _ => simp [selfB, hf] at h
section
variable {X : Cx} {pins : List (Addr × Obj)} {σ : St} {H : Hp} {s : Shared}
theorem rcT_run (I : Inv X pins σ H s) {A : Around} (hu : A.units < cLine) {a b : Addr} {xs : List V} (ha : H a = some (.tup xs)) (hb : H b = some (.tup xs)) (hx : ∀ z ∈ xs, selfB z = true) : SeqAt.RcAt A s (.ref a) (.ref b) true := by
  obtain ⟨_, its, r1, t1⟩ := (show ObjOk X.prog X.w H s.heap a (.tup xs) from I.hok a _ ha)
  obtain ⟨_, its2, r2, t2⟩ := (show ObjOk X.prog X.w H s.heap b (.tup xs) from I.hok b _ hb)
  have q := SeqAt.RcAt.tuples (A := A) (items := its.toArray) (items2 := its2.toArray) (e := fun _ => true) (show s.heap.IsTuple a its.toArray from t1) (show s.heap.IsTuple b its2.toArray from t2) hu (fun j h1 h2 => by
    have k1 : j < xs.length := by rw [r1.length]; simpa using h1
    obtain ⟨v, hv, rv⟩ := r1.get (List.getElem?_eq_getElem k1)
    obtain ⟨u, hu2, ru⟩ := r2.get (List.getElem?_eq_getElem k1)
    have e1 : its.toArray[j] = v := by
      have h1' : j < its.length := by simpa using h1
      rw [List.getElem?_eq_getElem h1'] at hv
      simpa using hv
    have e2 : its2.toArray[j] = u := by
      have h2' : j < its2.length := by simpa using h2
      rw [List.getElem?_eq_getElem h2'] at hu2
      simpa using hu2
    rw [e1, e2]
    exact self_run (hx _ (List.getElem_mem k1)) rv ru)
  have e : ((List.range (min its.toArray.size its2.toArray.size)).all (fun _ => true) && its.toArray.size == its2.toArray.size) = true := by
    have e1 : its.toArray.size = its2.toArray.size := by rw [List.size_toArray, List.size_toArray, ← r1.length, ← r2.length]
    rw [e1]
    simp
  rw [e] at q
  exact q
theorem rcneT_run (I : Inv X pins σ H s) {A : Around} (hu : A.units < cLine) {a b : Addr} {xs : List V} (ha : H a = some (.tup xs)) (hb : H b = some (.tup xs)) (hx : ∀ z ∈ xs, selfB z = true) : SeqAt.RcNeAt A s (.ref a) (.ref b) false := by
  obtain ⟨_, its, r1, t1⟩ := (show ObjOk X.prog X.w H s.heap a (.tup xs) from I.hok a _ ha)
  obtain ⟨_, its2, r2, t2⟩ := (show ObjOk X.prog X.w H s.heap b (.tup xs) from I.hok b _ hb)
  have q := SeqAt.RcNeAt.tuples (A := A) (items := its.toArray) (items2 := its2.toArray) (e := fun _ => true) (show s.heap.IsTuple a its.toArray from t1) (show s.heap.IsTuple b its2.toArray from t2) hu (fun j h1 h2 => by
    have k1 : j < xs.length := by rw [r1.length]; simpa using h1
    obtain ⟨v, hv, rv⟩ := r1.get (List.getElem?_eq_getElem k1)
    obtain ⟨u, hu2, ru⟩ := r2.get (List.getElem?_eq_getElem k1)
    have e1 : its.toArray[j] = v := by
      have h1' : j < its.length := by simpa using h1
      rw [List.getElem?_eq_getElem h1'] at hv
      simpa using hv
    have e2 : its2.toArray[j] = u := by
      have h2' : j < its2.length := by simpa using h2
      rw [List.getElem?_eq_getElem h2'] at hu2
      simpa using hu2
    rw [e1, e2]
    exact self_run (hx _ (List.getElem_mem k1)) rv ru)
  have e : (!((List.range (min its.toArray.size its2.toArray.size)).all (fun _ => true) && its.toArray.size == its2.toArray.size)) = false := by
    have e1 : its.toArray.size = its2.toArray.size := by rw [List.size_toArray, List.size_toArray, ← r1.length, ← r2.length]
    rw [e1]
    simp
  rw [e] at q
  exact q
theorem eqF_run (I : Inv X pins σ H s) {A : Around} (hu : A.units < cLine) {x y : V} {v u : Value} (h : EqF H x y) (rx : RelV x v) (ry : RelV y u) : SeqAt.EqP X.prog X.w A s v u true := by
  rcases h with ⟨rfl, h⟩ | ⟨a, b, xs, rfl, rfl, ha, hb, hx⟩
  · exact (self_run h rx ry).eqP
  · cases (show v = Value.ref a from rx)
    cases (show u = Value.ref b from ry)
    by_cases e : a = b
    · subst e
      exact (SeqAt.EqAt.same _).eqP
    · exact SeqAt.eqP_refs e fun E Q hq => rcT_run I hu ha hb hx X.prog X.w E Q hq
theorem hitsT {A : Around} (I : Inv X pins σ H s) (hu : A.units < cLine) {ks ls : List (List Key × V)} {xs ys : List (List Key × Addr × Value)} (ra : KT H ks xs) (rb : KT H ls ys) (hp : ∀ p ∈ ks, ∃ u, valV ls p.1 = some u ∧ EqF H p.2 u) : PySem.W.HitsH X.prog X.w A s ys xs := by
  intro x hx
  have key : ∀ {l : List (List Key × V)} {m : List (List Key × Addr × Value)}, KT H l m → x ∈ m → ∃ p ∈ l, p.1 = x.1 ∧ RelV p.2 x.2.2 := by
    intro l m r
    induction r with
    | nil => intro h; exact nomatch h
    | @cons p q ps qs hq t ih =>
      intro h
      rcases List.mem_cons.mp h with e | h
      · subst e
        exact ⟨p, List.mem_cons_self .., hq.1, hq.2.2⟩
      · obtain ⟨p', h1, h2⟩ := ih h
        exact ⟨p', List.mem_cons_of_mem _ h1, h2⟩
  obtain ⟨p, hm, e1, rv⟩ := key ra hx
  obtain ⟨u, hu1, hu2⟩ := hp p hm
  have rr : RelO (some u) ((atKey ys x.1).map (·.2)) := by rw [← hu1, e1]; exact rb.val x.1
  obtain ⟨y, hy, ry⟩ := rr.some_of
  cases hk : atKey ys x.1 with
  | none => rw [hk] at hy; cases hy
  | some p2 =>
    rw [hk] at hy
    have : p2.2 = y := by simpa using hy
    rw [← this] at ry
    exact ⟨p2, rfl, eqF_run I hu hu2 rv ry⟩
theorem hitsK {A : Around} (I : Inv X pins σ H s) (hu : A.units < cLine) {ls : List (Key × V)} {vb : List (Key × Value)} (rb : KV ls vb) {ks : List (Key × V)} {va : List (Key × Value)} (ra : KV ks va) : (∀ p ∈ ks, ∃ u, valV ls p.1 = some u ∧ EqF H p.2 u) → PySem.W.KeqHitsP X.prog X.w A s vb va true :=
  hits_run (F := EqF H) (fun x y v u h rx ry => eqF_run I hu h rx ry) rb ra
end
section
variable {X : Cx}
/-- two equal dicts -/
def EqD (H : Hp) (x y : V) : Prop := (∃ a b ks ls, x = .ref a ∧ y = .ref b ∧ H a = some (.dT ks) ∧ H b = some (.dT ls) ∧ ks.length = ls.length ∧ ∀ p ∈ ks, ∃ u, valV ls p.1 = some u ∧ EqF H p.2 u) ∨
  (∃ a b ks ls, x = .ref a ∧ y = .ref b ∧ H a = some (.dK ks) ∧ H b = some (.dK ls) ∧ ks.length = ls.length ∧ ∀ p ∈ ks, ∃ u, valV ls p.1 = some u ∧ EqF H p.2 u) ∨
  (∃ a b xs, x = .ref a ∧ y = .ref b ∧ H a = some (.tup xs) ∧ H b = some (.tup xs) ∧ ∀ z ∈ xs, selfB z = true)
def rEqW : R2 := fun x y H Q => EqD H x y ∧ Q (.bl true) H
def rNeW : R2 := fun x y H Q => EqD H x y ∧ Q (.bl false) H
theorem op_eqW (hu : X.A.units + 64 < cLine) : OpR X (compareOp .Eq) rEqW := by
  intro pins s σ H x y v u Q I rx ry h
  obtain ⟨h, q⟩ := h
  have fin : EP X pins σ Q (.bool true) s := ⟨.bl true, H, I, rfl, q⟩
  show wpAny (model X.prog X.w) X.A (richCompare .Eq v u) (EP X pins σ Q) X.xe s
  rcases h with ⟨a, b, ks, ls, rfl, rfl, ha, hb, hl, hp⟩ | ⟨a, b, ks, ls, rfl, rfl, ha, hb, hl, hp⟩ | ⟨a, b, xs, rfl, rfl, ha, hb, hx⟩
  · cases (show v = Value.ref a from rx)
    cases (show u = Value.ref b from ry)
    obtain ⟨_, ya, xa, ra, da⟩ := dt_of I.hok ha
    obtain ⟨_, yb, xb, rb, db⟩ := dt_of I.hok hb
    exact PySem.W.rcH (tupleKind_room_in1 (by omega)) ya yb da db (by rw [← ra.length, ← rb.length]; exact hl) (by omega) (hitsT I (by show X.A.units + 1 < cLine; omega) ra rb hp) _ _ fin
  · cases (show v = Value.ref a from rx)
    cases (show u = Value.ref b from ry)
    obtain ⟨_, ya, va, ra, da⟩ := dk_of I.hok ha
    obtain ⟨_, yb, vb, rb, db⟩ := dk_of I.hok hb
    refine PySem.W.rcP_dicts (knd := mixKind X.prog X.w) (r := true) ya yb da db (by omega) (fun _ => hitsK I (by show X.A.units + 1 < cLine; omega) rb ra hp) _ _ ?_
    have e : va.length = vb.length := by rw [← ra.length, ← rb.length]; exact hl
    rw [show (va.length == vb.length && true) = true from by rw [e]; simp]
    exact fin
  · cases (show v = Value.ref a from rx)
    cases (show u = Value.ref b from ry)
    exact rcT_run I (by omega) ha hb hx X.prog X.w _ _ fin
theorem op_neW (hu : X.A.units + 64 < cLine) : OpR X (compareOp .NotEq) rNeW := by
  intro pins s σ H x y v u Q I rx ry h
  obtain ⟨h, q⟩ := h
  have fin : EP X pins σ Q (.bool false) s := ⟨.bl false, H, I, rfl, q⟩
  show wpAny (model X.prog X.w) X.A (richCompare .NotEq v u) (EP X pins σ Q) X.xe s
  rcases h with ⟨a, b, ks, ls, rfl, rfl, ha, hb, hl, hp⟩ | ⟨a, b, ks, ls, rfl, rfl, ha, hb, hl, hp⟩ | ⟨a, b, xs, rfl, rfl, ha, hb, hx⟩
  · cases (show v = Value.ref a from rx)
    cases (show u = Value.ref b from ry)
    obtain ⟨_, ya, xa, ra, da⟩ := dt_of I.hok ha
    obtain ⟨_, yb, xb, rb, db⟩ := dt_of I.hok hb
    exact PySem.W.rcneH (tupleKind_room_in1 (by omega)) ya yb da db (by rw [← ra.length, ← rb.length]; exact hl) (by omega) (hitsT I (by show X.A.units + 1 < cLine; omega) ra rb hp) _ _ fin
  · cases (show v = Value.ref a from rx)
    cases (show u = Value.ref b from ry)
    obtain ⟨_, ya, va, ra, da⟩ := dk_of I.hok ha
    obtain ⟨_, yb, vb, rb, db⟩ := dk_of I.hok hb
    refine PySem.W.rcneP_dicts (knd := mixKind X.prog X.w) (r := true) ya yb da db (by omega) (fun _ => hitsK I (by show X.A.units + 1 < cLine; omega) rb ra hp) _ _ ?_
    have e : va.length = vb.length := by rw [← ra.length, ← rb.length]; exact hl
    rw [show (!(va.length == vb.length && true)) = false from by rw [e]; simp]
    exact fin
  · cases (show v = Value.ref a from rx)
    cases (show u = Value.ref b from ry)
    exact rcneT_run I (by omega) ha hb hx X.prog X.w _ _ fin
end
end L2
end
section
set_option Elab.async false
set_option linter.all false
set_option maxRecDepth 100000
set_option maxHeartbeats 4000000
namespace K67
open PySem PySem.Spec PyProof.Rows L2
/-- a class with an own __eq__ -/
structure OwnE (P : Program) (w : World) (K : PySem.W.Frag) (mg : Str → Option Value) (base : Heap) (C : Addr) (k : Nat) (sp : Sp) : Prop where
  ex : ∃ (f : Addr) (fd : FuncData) (ps : List Str) (of : Obj), FnOk P w K mg base CX0 k f fd ps sp ∧ PySem.W.findIn K (.ref C) "__eq__" = some (some (.ref f)) ∧ PySem.W.isFn K (.ref f) = true ∧ PySem.W.ownEqIn K C f = true ∧ K.lookup f = some of ∧ of.cls = .type "function" ∧ Binds K fd ps []
section
variable {X : Cx} {C : Addr} {k j : Nat} {sp : Sp}
theorem op_eqO (c : OwnE X.prog X.w X.K X.mg X.base C k sp) (hr : Room j X.A) (hk : k ≤ j) : OpR X (compareOp .Eq) (rEqI C sp) := by
  obtain ⟨f, fd, ps, of, F, h1, h2, h3, h4, h5, b⟩ := c.ex
  exact op_eqI F h1 h2 b (hr.mono hk)
theorem op_neO (c : OwnE X.prog X.w X.K X.mg X.base C k sp) (hr : Room j X.A) (hk : k + 1 ≤ j) : OpR X (compareOp .NotEq) (rNeI C sp) := by
  obtain ⟨f, fd, ps, of, F, h1, h2, h3, h4, h5, b⟩ := c.ex
  exact op_neI F h3 h4 h5 b (hr.mono hk)
end
section
variable {P : Program} {w : World} {K : PySem.W.Frag} {mg : Str → Option Value} {base : Heap} {T : Cls3}
theorem hu_of' {j : Nat} {A : Around} (hr : Room j A) : A.units + 64 < cLine := by have := hr.un; omega
/-! ### Marks -/
def spMkEq (T : Cls3) : Sp := fun vs H Q _ => ∃ a b l1 l2, vs = [.ref a, .ref b] ∧ IsMarks T H a l1 ∧ IsMarks T H b l2 ∧ Q (.bl (decide (l1 = l2))) H
theorem eqF_self {H : Hp} {x : V} (h : selfB x = true) : EqF H x x := .inl ⟨rfl, h⟩
theorem mkS_eq {H : Hp} (l : Str) : ∀ p ∈ mkS l, ∃ u, valV (mkS l) p.1 = some u ∧ EqF H p.2 u := fun p hp => by
  obtain ⟨c, hc, rfl⟩ := List.mem_map.mp (show p ∈ l.cps.toList.map _ from hp)
  exact ⟨.int 0, mkS_get hc, eqF_self rfl⟩
theorem ok_Marks_eq (cf : CF K T) {f : Addr} {fd : FuncData} (F : FnP K "__eq__" "Marks.__eq__" s_Marks_eq f fd) (B : BN mg) (gM : ∃ u, mg "Marks" = some u ∧ RelV (.ref T.m) u) : FnOk P w K mg base CX0 1 f fd ["self", "other"] (spMkEq T) := by
  have S := sc_Marks_eq
  refine ok0 F S (fun vs H Q E h => ?_) (fun cdv A outer s H vs Q E hr h => ?_)
  · obtain ⟨a, b, l1, l2, rfl, _⟩ := h
    rfl
  · obtain ⟨a, b, l1, l2, rfl, ha, hb, q⟩ := h
    refine ⟨_, (pss_cons (ps_if (PW.pt (pw_or (pt_not (pt_val (pe_callB call_isi (by rfl) B.isinstance (by decide +kernel) (pa_cons (pv 1) (pa_cons (C8.pe_gc (by rfl) gM) pa_nil))))) (pw_or1 (pt_cmpR op_ne (pe_fldK (K := K) rfl (pv 0) rfl) (pe_fldK (K := K) rfl (pv 1) rfl) (nomark _))))) (pss_one (ps_ret pe_bl)) pss_nil)
      (pss_one (ps_ret (pe_and (pe_cmpR (op_eqW (hu_of' hr)) (pe_fldK (K := K) rfl (pv 0) rfl) (pe_fldK (K := K) rfl (pv 1) rfl) (nomark _)) (pe_one (pe_cmpR (op_eqW (hu_of' hr)) (pe_fldK (K := K) rfl (pv 0) rfl) (pe_fldK (K := K) rfl (pv 1) rfl) (nomark _))))))), ?_⟩
    obtain ⟨dx1, sd1, g1, n1, h1, h2, h3, h4⟩ := ha
    obtain ⟨dx2, sd2, g2, n2, k1, k2, k3, k4⟩ := hb
    have cl := cf.im.cl
    have ty : TyOf K H (.ref b) (.ref T.m) := TyOf.ins k1 cf.im.cl cf.im.ha cf.im.hn cf.im.htk cf.im.hm
    have hk := cf.kits.kit (.ref T.m) (by simp [TYS]) (.ref T.m) (by simp [CLS])
    refine ⟨_, rfl, _, .ref T.m, .ref T.m, _, _, rfl, .own _, .base ty, hk, _, rfl, iteF' (by simp [kitB2]) ?_⟩
    refine ⟨_, rfl, a, T.m, dx1, _, _, rfl, h1, cl, cf.nm _ (by decide +kernel), rfl, _, rfl, b, T.m, dx2, _, _, rfl, k1, cl, cf.nm _ (by decide +kernel), rfl, ?_⟩
    by_cases e : l1 = l2
    · subst e
      have e0 : (!decide (V.str l1 = V.str l1)) = false := by simp
      refine ⟨rfl, _, rfl, ?_⟩
      rw [e0]
      refine iteF' rfl ?_
      refine ⟨_, rfl, a, T.m, dx1, _, _, rfl, h1, cl, cf.nm _ (by decide +kernel), rfl, _, rfl, b, T.m, dx2, _, _, rfl, k1, cl, cf.nm _ (by decide +kernel), rfl, ?_⟩
      refine ⟨.inl ⟨sd1, sd2, _, _, rfl, rfl, h2, k2, rfl, mkS_eq l1⟩, true, rfl, iteT' rfl ?_⟩
      refine ⟨_, rfl, a, T.m, dx1, _, _, rfl, h1, cl, cf.nm _ (by decide +kernel), rfl, _, rfl, b, T.m, dx2, _, _, rfl, k1, cl, cf.nm _ (by decide +kernel), rfl, ?_⟩
      refine ⟨.inr (.inr ⟨g1, g2, _, rfl, rfl, h3, k3, fun z hz => by simp at hz; subst hz; rfl⟩), ?_⟩
      rw [show decide (l1 = l1) = true from by simp] at q
      exact q
    · have e0 : (!decide (V.str l1 = V.str l2)) = true := by simp [e]
      refine ⟨rfl, _, rfl, ?_⟩
      rw [e0]
      refine iteT' rfl ?_
      rw [show decide (l1 = l2) = false from by simp [e]] at q
      exact q
/-! ### TwoPass -/
def spTwEq (T : Cls3) : Sp := fun vs H Q _ => ∃ a b l1 l2, vs = [.ref a, .ref b] ∧ IsTwo T H a l1 ∧ IsTwo T H b l2 ∧ Q (.bl (decide (l1 = l2))) H
theorem wS_eq {H : Hp} {w1 w2 : List (Nat × Addr)} (h : w1.map (·.1) = w2.map (·.1)) (g1 : ∀ q ∈ w1, H q.2 = some (.tup [.str ⟨#[q.1]⟩, .int 0])) (g2 : ∀ q ∈ w2, H q.2 = some (.tup [.str ⟨#[q.1]⟩, .int 0])) : (wS w1).length = (wS w2).length ∧ ∀ p ∈ wS w1, ∃ u, valV (wS w2) p.1 = some u ∧ EqF H p.2 u := by
  refine ⟨?_, fun p hp => ?_⟩
  · have := congrArg List.length h
    simpa [wS] using this
  · obtain ⟨q, hq, rfl⟩ := List.mem_map.mp (show p ∈ w1.map _ from hp)
    have hc : q.1 ∈ w2.map (·.1) := by rw [← h]; exact List.mem_map.mpr ⟨q, hq, rfl⟩
    obtain ⟨a, ha, hv⟩ := wS_get hc
    exact ⟨.ref a, hv, .inr ⟨q.2, a, _, rfl, rfl, g1 q hq, g2 _ ha, fun z hz => by simp at hz; rcases hz with rfl | rfl <;> rfl⟩⟩
theorem ok_TwoPass_eq (cf : CF K T) {f : Addr} {fd : FuncData} (F : FnP K "__eq__" "TwoPass.__eq__" s_TwoPass_eq f fd) (B : BN mg) (gT : ∃ u, mg "TwoPass" = some u ∧ RelV (.ref T.t) u) (c1 : OwnE P w K mg base T.m 1 (spMkEq T)) : FnOk P w K mg base CX0 3 f fd ["self", "other"] (spTwEq T) := by
  have S := sc_TwoPass_eq
  refine ok0 F S (fun vs H Q E h => ?_) (fun cdv A outer s H vs Q E hr h => ?_)
  · obtain ⟨a, b, l1, l2, rfl, _⟩ := h
    rfl
  · obtain ⟨a, b, l1, l2, rfl, ⟨p1, ha⟩, ⟨p2, hb⟩, q⟩ := h
    refine ⟨_, (pss_cons (ps_if (PW.pt (pw_or (pt_not (pt_val (pe_callB call_isi (by rfl) B.isinstance (by decide +kernel) (pa_cons (pv 1) (pa_cons (C8.pe_gc (by rfl) gT) pa_nil))))) (pw_or1 (pt_not (pt_cmpR (op_eqO c1 hr (by decide)) (pe_fldK (K := K) rfl (pv 0) rfl) (pe_fldK (K := K) rfl (pv 1) rfl) (nomark _)))))) (pss_one (ps_ret pe_bl)) pss_nil)
      (pss_cons (ps_if (PW.pt (pw_or (pt_cmpR (op_neW (hu_of' hr)) (pe_fldK (K := K) rfl (pv 0) rfl) (pe_fldK (K := K) rfl (pv 1) rfl) (nomark _)) (pw_or1 (pt_cmpR (op_neW (hu_of' hr)) (pe_fldK (K := K) rfl (pv 0) rfl) (pe_fldK (K := K) rfl (pv 1) rfl) (nomark _))))) (pss_one (ps_ret pe_bl)) pss_nil)
      (pss_one (ps_ret (pe_cmpR (op_eqW (hu_of' hr)) (pe_fldK (K := K) rfl (pv 0) rfl) (pe_fldK (K := K) rfl (pv 1) rfl) (nomark _)))))), ?_⟩
    have cl := cf.it.cl
    have h1 := ha.obj
    have k1 := hb.obj
    have ty : TyOf K H (.ref b) (.ref T.t) := TyOf.ins k1 cf.it.cl cf.it.ha cf.it.hn cf.it.htk cf.it.hm
    have hk := cf.kits.kit (.ref T.t) (by simp [TYS]) (.ref T.t) (by simp [CLS])
    refine ⟨_, rfl, _, .ref T.t, .ref T.t, _, _, rfl, .own _, .base ty, hk, _, rfl, iteF' (by simp [kitB2]) ?_⟩
    refine ⟨_, rfl, a, T.t, p1.dx, _, _, rfl, h1, cl, cf.nt _ (by decide +kernel), rfl, _, rfl, b, T.t, p2.dx, _, _, rfl, k1, cl, cf.nt _ (by decide +kernel), rfl, ?_⟩
    obtain ⟨d1, sd1, g1, n1, m1, m2, m3, m4⟩ := id ha.marks
    obtain ⟨d2, sd2, g2, n2, u1, u2, u3, u4⟩ := id hb.marks
    refine ⟨p1.m, p2.m, d1, d2, _, _, rfl, rfl, m1, u1, p1.m, p2.m, l1, l2, rfl, ha.marks, hb.marks, _, rfl, ?_⟩
    by_cases e : l1 = l2
    · subst e
      refine ⟨_, rfl, ?_⟩
      rw [show decide (l1 = l1) = true from by simp]
      refine iteF' rfl ?_
      refine ⟨_, rfl, a, T.t, p1.dx, _, _, rfl, h1, cl, cf.nt _ (by decide +kernel), rfl, _, rfl, b, T.t, p2.dx, _, _, rfl, k1, cl, cf.nt _ (by decide +kernel), rfl, ?_⟩
      refine ⟨.inr (.inl ⟨p1.b, p2.b, _, _, rfl, rfl, ha.begins, hb.begins, rfl, fun p hp => ?_⟩), _, rfl, iteF' rfl ?_⟩
      · have ep : p = (.inl 0, .ref p1.tb) := by simpa using hp
        subst ep
        exact ⟨.ref p2.tb, rfl, .inr ⟨p1.tb, p2.tb, _, rfl, rfl, ha.target, hb.target, fun z hz => by simp at hz; rcases hz with rfl | rfl <;> rfl⟩⟩
      refine ⟨_, rfl, a, T.t, p1.dx, _, _, rfl, h1, cl, cf.nt _ (by decide +kernel), rfl, _, rfl, b, T.t, p2.dx, _, _, rfl, k1, cl, cf.nt _ (by decide +kernel), rfl, ?_⟩
      obtain ⟨w1, w2⟩ := wS_eq (by rw [ha.names, hb.names]) ha.goals hb.goals
      refine ⟨.inl ⟨p1.wr, p2.wr, _, _, rfl, rfl, ha.writes, hb.writes, w1, w2⟩, _, rfl, iteF' rfl ?_⟩
      refine ⟨_, rfl, a, T.t, p1.dx, _, _, rfl, h1, cl, cf.nt _ (by decide +kernel), rfl, _, rfl, b, T.t, p2.dx, _, _, rfl, k1, cl, cf.nt _ (by decide +kernel), rfl, ?_⟩
      refine ⟨.inr (.inl ⟨p1.la, p2.la, _, _, rfl, rfl, ha.last, hb.last, rfl, fun p hp => ?_⟩), ?_⟩
      · have ep : p = (.inl 0, .str "") := by simpa using hp
        subst ep
        exact ⟨.str "", rfl, eqF_self rfl⟩
      rw [show decide (l1 = l1) = true from by simp] at q
      exact q
    · refine ⟨_, rfl, ?_⟩
      rw [show decide (l1 = l2) = false from by simp [e]] at q ⊢
      exact iteT' rfl q
/-! ### Editor -/
def spEdEq (T : Cls3) : Sp := fun vs H Q _ => ∃ a b da db, ∃ s1 s2 : EdF, ∃ l1 l2, vs = [.ref a, .ref b] ∧ H a = some (.ins T.e da (edF s1)) ∧ H b = some (.ins T.e db (edF s2)) ∧ IsTwo T H s1.m l1 ∧ IsTwo T H s2.m l2 ∧ Q (.bl (decide (l1 = l2) && decide (s1.t = s2.t))) H
theorem ok_Editor_eq (cf : CF K T) {f : Addr} {fd : FuncData} (F : FnP K "__eq__" "Editor.__eq__" s_Editor_eq f fd) (B : BN mg) (gE : ∃ u, mg "Editor" = some u ∧ RelV (.ref T.e) u) (c1 : OwnE P w K mg base T.t 3 (spTwEq T)) : FnOk P w K mg base CX0 5 f fd ["self", "other"] (spEdEq T) := by
  have S := sc_Editor_eq
  refine ok0 F S (fun vs H Q E h => ?_) (fun cdv A outer s H vs Q E hr h => ?_)
  · obtain ⟨a, b, da, db, s1, s2, l1, l2, rfl, _⟩ := h
    rfl
  · obtain ⟨a, b, da, db, s1, s2, l1, l2, rfl, ha, hb, m1, m2, q⟩ := h
    refine ⟨_, (pss_one (ps_ret (pe_and (pe_callB call_isi (by rfl) B.isinstance (by decide +kernel) (pa_cons (pv 1) (pa_cons (C8.pe_gc (by rfl) gE) pa_nil))) (pe_and (pe_cmpR (op_eqO c1 hr (by decide)) (pe_fldK (K := K) rfl (pv 0) rfl) (pe_fldK (K := K) rfl (pv 1) rfl) (nomark _)) (pe_one (pe_cmpR op_eq (pe_fldK (K := K) rfl (pv 0) rfl) (pe_fldK (K := K) rfl (pv 1) rfl) (nomark _))))))), ?_⟩
    have cl := cf.ie.cl
    have ty : TyOf K H (.ref b) (.ref T.e) := TyOf.ins hb cf.ie.cl cf.ie.ha cf.ie.hn cf.ie.htk cf.ie.hm
    have hk := cf.kits.kit (.ref T.e) (by simp [TYS]) (.ref T.e) (by simp [CLS])
    refine ⟨_, rfl, _, .ref T.e, .ref T.e, _, _, rfl, .own _, .base ty, hk, _, rfl, iteT' (by simp [kitB2]) ?_⟩
    refine ⟨_, rfl, a, T.e, da, _, _, rfl, ha, cl, cf.ne _ (by decide +kernel), rfl, _, rfl, b, T.e, db, _, _, rfl, hb, cl, cf.ne _ (by decide +kernel), rfl, ?_⟩
    obtain ⟨p1, hp1⟩ := id m1
    obtain ⟨p2, hp2⟩ := id m2
    refine ⟨s1.m, s2.m, p1.dx, p2.dx, _, _, rfl, rfl, hp1.obj, hp2.obj, s1.m, s2.m, l1, l2, rfl, m1, m2, _, rfl, _, rfl, ?_⟩
    by_cases e : l1 = l2
    · rw [show decide (l1 = l2) = true from by simp [e]] at q ⊢
      refine iteT' rfl ?_
      refine ⟨_, rfl, a, T.e, da, _, _, rfl, ha, cl, cf.ne _ (by decide +kernel), rfl, _, rfl, b, T.e, db, _, _, rfl, hb, cl, cf.ne _ (by decide +kernel), rfl, rfl, ?_⟩
      have e1 : decide (V.str s1.t = V.str s2.t) = (true && decide (s1.t = s2.t)) := by simp
      rw [e1]
      exact q
    · rw [show decide (l1 = l2) = false from by simp [e]] at q ⊢
      exact iteF' (by decide) q
end
end K67
end
section
set_option Elab.async false
set_option linter.all false
set_option maxRecDepth 100000
set_option maxHeartbeats 4000000
namespace K67
open PySem PySem.Spec PyProof.Rows L2
/-! ### sorted of the keys of steps -/
/-- keys of the steps of marks of one mark (b false), of a writer of one state (b true) -/
def kS (b : Bool) (c : Nat) : List Key := if b then [.inl 0, .inr ⟨#[c]⟩, .inl 0] else [.inr ⟨#[c]⟩, .inl 0]
def IsKS (b : Bool) (h : Heap) (v : Value) (c : Nat) : Prop := ∃ a o t u r n, v = .ref a ∧ h.get? a = some o ∧ o.cls = .type "tuple" ∧ o.data = .seq (if b then #[.int 0 r, .str ⟨#[c]⟩ t, .int 0 u] else #[.str ⟨#[c]⟩ t, .int 0 u]) n
theorem IsKS.keeps {b : Bool} {h h' : Heap} {v : Value} {c : Nat} (x : IsKS b h v c) (k : ∀ b o, h.get? b = some o → o.cls = .type "tuple" → h'.get? b = some o) : IsKS b h' v c := by
  obtain ⟨a, o, t, u, r, n, e, ho, hc, hd⟩ := x
  exact ⟨a, o, t, u, r, n, e, k _ _ ho hc, hc, hd⟩
theorem one_lt (c d : Nat) : decide ((⟨#[c]⟩ : Str).cps.toList < (⟨#[d]⟩ : Str).cps.toList) = decide (c < d) := by
  show decide ([c] < [d]) = decide (c < d)
  have e : ([c] < [d]) ↔ c < d := by
    rw [List.cons_lt_cons_iff]
    constructor
    · rintro (h | ⟨_, h⟩)
      · exact h
      · exact absurd h (by simp)
    · exact .inl
  simp only [e]
theorem one_eq (c d : Nat) : ((⟨#[c]⟩ : Str) == (⟨#[d]⟩ : Str)) = decide (c = d) := by
  by_cases e : c = d
  · subst e; simp
  · simp [e]
section
variable {prog : Program} {w : World} {A : Around} {s : Shared}
theorem firsts_ks {b : Bool} {h : Heap} : ∀ {vs : List Value} {k : Value → Nat}, (∀ v ∈ vs, IsKS b h v (k v)) → ∃ fs : List Value, PySem.W.KatTups h vs fs ∧ fs.length = vs.length ∧ ∀ f ∈ fs, if b then ∃ r, f = Value.int 0 r else ∃ c t, f = Value.str c t
  | [], _, _ => ⟨[], PySem.W.KatTups.nil, rfl, fun f hf => by simp at hf⟩
  | v :: vs, k, x => by
    obtain ⟨fs, kk, hl, hi⟩ := firsts_ks (vs := vs) (k := k) fun u hu => x u (List.mem_cons_of_mem _ hu)
    obtain ⟨a, o, t, u, r, n, e, ho, hc, hd⟩ := x v (List.mem_cons_self ..)
    subst e
    cases b with
    | true =>
      refine ⟨.int 0 r :: fs, PySem.W.KatTups.cons ho hc hd rfl kk, by rw [List.length_cons, List.length_cons, hl], fun f hf => ?_⟩
      rcases List.mem_cons.mp hf with rfl | hf
      · exact ⟨r, rfl⟩
      · exact hi f hf
    | false =>
      refine ⟨.str _ t :: fs, PySem.W.KatTups.cons ho hc hd rfl kk, by rw [List.length_cons, List.length_cons, hl], fun f hf => ?_⟩
      rcases List.mem_cons.mp hf with rfl | hf
      · exact ⟨_, t, rfl⟩
      · exact hi f hf
theorem cmp_ks {b : Bool} {vs : List Value} {k : Value → Nat} (hp : ∀ v ∈ vs, IsKS b s.heap v (k v)) : SrtO.Cmp prog w A s (tuples' true) (fun p => p.1 ∈ vs) (SrtO.lt2 fun v u => decide (k v < k u)) := by
  intro p q hm hm'
  have h1 := hp _ hm
  have h2 := hp _ hm'
  show wpAny (model prog w) A (keyLt' (tuples' true) p.1 q.1) (fun r s' => s' = s ∧ r = decide (k p.1 < k q.1)) (fun _ _ => False) s
  generalize k p.1 = x at h1 ⊢
  generalize k q.1 = y at h2 ⊢
  obtain ⟨a, o, t, u, r, n, e, ho, hc, hd⟩ := h1
  obtain ⟨a', o', t', u', r', n', e', ho', hc', hd'⟩ := h2
  rw [e, e']
  refine PySem.W.kat_lt ho hd ho' hd' ?_
  cases b with
  | false =>
    show PySem.W.KatLex prog w A true (decide (2 < 2)) _ [(.str ⟨#[x]⟩ t, .str ⟨#[y]⟩ t'), (.int 0 u, .int 0 u')] 0 s
    refine PySem.W.kat_cons (SeqAt.EqAt.str_str ⟨#[x]⟩ t ⟨#[y]⟩ t' prog w _ _ ?_)
    refine PySem.W.kat_go (fun e1 => ?_) (fun e1 => ?_)
    · have ex : x = y := by
        rw [one_eq] at e1
        exact of_decide_eq_true e1
      refine PySem.W.kat_yes (PySem.W.kat_cons (SeqAt.EqAt.int_int 0 u 0 u' prog w _ _ ?_))
      refine PySem.W.kat_go (fun e2 => ?_) (fun e2 => ?_)
      · exact PySem.W.kat_yes (PySem.W.kat_nil ⟨rfl, by rw [ex]; simp⟩)
      · exact absurd e2 (by simp)
    · refine PySem.W.kat_no (oneLt_str ?_)
      exact ⟨rfl, one_lt x y⟩
  | true =>
    show PySem.W.KatLex prog w A true (decide (3 < 3)) _ [(.int 0 r, .int 0 r'), (.str ⟨#[x]⟩ t, .str ⟨#[y]⟩ t'), (.int 0 u, .int 0 u')] 0 s
    refine PySem.W.kat_cons (SeqAt.EqAt.int_int 0 r 0 r' prog w _ _ ?_)
    refine PySem.W.kat_go (fun _ => ?_) (fun e2 => absurd e2 (by simp))
    refine PySem.W.kat_yes (PySem.W.kat_cons (SeqAt.EqAt.str_str ⟨#[x]⟩ t ⟨#[y]⟩ t' prog w _ _ ?_))
    refine PySem.W.kat_go (fun e1 => ?_) (fun e1 => ?_)
    · have ex : x = y := by
        rw [one_eq] at e1
        exact of_decide_eq_true e1
      refine PySem.W.kat_yes (PySem.W.kat_cons (SeqAt.EqAt.int_int 0 u 0 u' prog w _ _ ?_))
      refine PySem.W.kat_go (fun e2 => ?_) (fun e2 => ?_)
      · exact PySem.W.kat_yes (PySem.W.kat_nil ⟨rfl, by rw [ex]; simp⟩)
      · exact absurd e2 (by simp)
    · refine PySem.W.kat_no (PySem.W.kat_one _ _ (PyProof.Rows.lt_str ?_))
      exact (show s = s ∧ decide ((⟨#[x]⟩ : Str).cps.toList < (⟨#[y]⟩ : Str).cps.toList) = decide (x < y) from ⟨rfl, one_lt x y⟩)
theorem swo_ks {α : Type} (k : α → Nat) : SrtO.Swo fun v u => decide (k v < k u) := by
  refine ⟨fun x y h => ?_, fun x y z h1 h2 => ?_⟩
  · have a := of_decide_eq_true h
    exact decide_eq_false (by omega)
  · have a := of_decide_eq_false h1
    have b := of_decide_eq_false h2
    exact decide_eq_false (by omega)
theorem sortable_ks {b : Bool} {a : Addr} {vs : List Value} {k : Value → Nat} (h0 : 0 < vs.length) (hp : ∀ v ∈ vs, IsKS b s.heap v (k v)) (ha : ∀ o, s.heap.get? a = some o → o.cls ≠ .type "tuple") : SrtO.SortableO prog w A s a vs fun v u => decide (k v < k u) := by
  intro h' keep
  have hp' : ∀ v ∈ vs, IsKS b h' v (k v) := fun v hm => (hp v hm).keeps fun b o e c => keep b o (fun z => by subst z; exact ha o e c) e
  obtain ⟨fs, h1, h2, h3⟩ := firsts_ks hp'
  refine ⟨tuples' true, fun Q E hq => ?_, cmp_ks hp'⟩
  cases b with
  | true =>
    refine PySem.W.kat_kind (T := .type "int") h1 (by omega) (fun f hm => ?_) (by rfl) ?_
    · obtain ⟨t, rfl⟩ := h3 f hm
      exact PySem.W.Looks.now
    · have e : (Value.type "int" != Value.type "tuple") = true := by first | decide +kernel | rfl | decide
      rw [e]
      exact hq
  | false =>
    refine PySem.W.kat_kind (T := .type "str") h1 (by omega) (fun f hm => ?_) (by rfl) ?_
    · obtain ⟨c, t, rfl⟩ := h3 f hm
      exact PySem.W.Looks.now
    · have e : (Value.type "str" != Value.type "tuple") = true := by first | decide +kernel | rfl | decide
      rw [e]
      exact hq
end
/-- sorted(l) of keys of steps that stand ascending: a copy -/
def rSortKS (K : PySem.W.Frag) : List V → Hp → VK → Prop := fun vs H Q => ∃ (a : Addr) (b : Bool) (ps : List (Nat × Addr)), vs = [V.ref a] ∧ SqL K H a (ps.map fun q => V.ref q.2) ∧ (∀ q ∈ ps, H q.2 = some (.tup ((kS b q.1).map kV))) ∧ ps.Pairwise (fun q r => q.1 < r.1) ∧
  ∀ p, H p = none → Q (.ref p) (upd H p (.lst (ps.map fun q => V.ref q.2)))
theorem kS_inj {b : Bool} {c d : Nat} (h : (kS b c).map kV = (kS b d).map kV) : c = d := by
  have := kVs_inj h
  cases b <;> simpa [kS] using this
theorem cr_sortedKS {X : Cx} : CallR X (.builtin "sorted") (rSortKS X.K) := by
  intro pins s σ H vs us Q I r h
  obtain ⟨a, b, ps, rfl, hs, hx, hasc, q⟩ := h
  obtain ⟨its, rv, hl, hz⟩ := I.list hs
  obtain ⟨u, rfl, ru⟩ := vals1 r
  obtain rfl : u = Value.ref a := ru
  have rv' : Vals ((ps.map (·.2)).map V.ref) its := by rw [List.map_map]; exact rv
  have ei := refs_at rv'
  rw [List.map_map] at ei
  have ei' : its = ps.map fun q => Value.ref q.2 := ei
  -- the rank of a value
  let k : Value → Nat := fun v => match v with
    | .ref x => ((ps.find? fun q => decide (q.2 = x)).map (·.1)).getD 0
    | _ => 0
  have hk : ∀ q ∈ ps, k (.ref q.2) = q.1 := by
    intro q hq
    show ((ps.find? fun r => decide (r.2 = q.2)).map (·.1)).getD 0 = q.1
    obtain ⟨r, hr⟩ : ∃ r, ps.find? (fun r => decide (r.2 = q.2)) = some r := by
      rw [← Option.isSome_iff_exists, List.find?_isSome]
      exact ⟨q, hq, by simp⟩
    rw [hr]
    have h1 := List.find?_some hr
    have h2 := List.mem_of_find?_eq_some hr
    have h3 : r.2 = q.2 := by simpa using h1
    have h4 := hx r h2
    rw [h3, hx q hq] at h4
    have h5 := Option.some.inj h4
    have h6 : (kS b q.1).map kV = (kS b r.1).map kV := by injection h5
    show r.1 = q.1
    exact (kS_inj h6).symm
  have hks : ∀ v ∈ its, IsKS b s.heap v (k v) := by
    intro v hv
    rw [ei'] at hv
    obtain ⟨q, hq, rfl⟩ := List.mem_map.mp hv
    rw [hk q hq]
    obtain ⟨_, its2, r2, o, ho, hc, n, hd⟩ := I.hok _ _ (hx q hq)
    cases b with
    | false =>
      obtain ⟨u1, u2, rfl, ri, rj⟩ := vals2 (show Vals [V.str ⟨#[q.1]⟩, V.int 0] its2 from r2)
      obtain ⟨t1, rfl⟩ := ri
      obtain ⟨t2, rfl⟩ := rj
      exact ⟨q.2, o, t1, t2, 0, n, rfl, ho, hc, hd⟩
    | true =>
      have r3 : Vals [V.int 0, V.str ⟨#[q.1]⟩, V.int 0] its2 := r2
      cases r3 with
      | cons ra rb =>
        obtain ⟨u1, u2, rfl, ri, rj⟩ := vals2 rb
        obtain ⟨t0, rfl⟩ := ra
        obtain ⟨t1, rfl⟩ := ri
        obtain ⟨t2, rfl⟩ := rj
        exact ⟨q.2, o, t1, t2, t0, n, rfl, ho, hc, hd⟩
  have hlen : its.length = ps.length := by rw [ei', List.length_map]
  refine SrtO.sorted_ord (swo_ks k) hl.isList (by rw [← rv.length]; exact hz) (fun h2 h₁ a₁ ha kk => ?_) fun out h1 h2 => ?_
  · refine sortable_ks (s := { s with heap := h₁ }) (b := b) (by omega) (fun v hm => (hks v hm).keeps fun c o e _ => (kk c o e).2) fun o e => ?_
    have e' : some o = some (seqObj "list" its.toArray 0) := e.symm.trans ha
    cases e'
    intro c
    exact absurd (Value.type.inj c) (by decide)
  · have hsr : SrtO.Srtd (fun v u => decide (k v < k u)) its := by
      rw [ei']
      refine List.pairwise_map.mpr (List.Pairwise.imp_of_mem (fun {x y} hx' hy' h => ?_) hasc)
      show decide (k (.ref y.2) < k (.ref x.2)) = false
      rw [hk _ hx', hk _ hy']
      exact decide_eq_false (by omega)
    have eo : out = its := SrtO.stb_uniq (swo_ks k) h1 hsr h2
    subst eo
    obtain ⟨n, hn⟩ := PyProof.Rows.sortedAll_at s.heap out out.toArray
    exact ⟨.ref (s.heap.objs.size + 1), upd H (s.heap.objs.size + 1) (.lst (ps.map fun q => V.ref q.2)), I.laid (t' := s.toks) (fun b o e => PyProof.Rows.sortedAll_old e) (Nat.le_succ _) ⟨hz, out, n, rv, hn⟩, rfl, q _ (I.hok.fresh (Nat.le_succ _))⟩
end K67
end
section
set_option Elab.async false
set_option linter.all false
set_option maxRecDepth 100000
set_option maxHeartbeats 4000000
namespace K67
open PySem PySem.Spec PyProof.Rows L2
/-! ### a dict comprehension whose keys are tuples -/
def DPutT (H : Hp) (a : Addr) (y v : V) (H' : Hp) : Prop := ∃ kvs k b, H a = some (.dT kvs) ∧ y = .ref b ∧ H b = some (.tup (k.map kV)) ∧ kvs.length < sizeLine ∧ H' = upd H a (.dT (putK kvs k v))
theorem d_dictSetT {X : Cx} {pins : List (Addr × Obj)} {σ : L2.St} {H H' : Hp} {s : Shared} {E : Value → Shared → Prop} {D : Addr} {y v : V} {u r : Value} {A : Around} {Q : Unit → Shared → Prop} (hu : A.units < cLine) (I : Inv X pins σ H s) (g : DPutT H D y v H') (ry : RelV y u) (rv : RelV v r)
    (h : ∀ s', Heap.SameBut D s.heap s'.heap → Inv X pins σ H' s' → Q () s') : wpAny (model X.prog X.w) A (dictSet D u r) Q E s := by
  obtain ⟨kvs, k, b, e, rfl, eb, l, rfl⟩ := g
  cases (show u = Value.ref b from ry)
  obtain ⟨z, hd, xs, rel, dd⟩ := dt_of I.hok e
  have hz : xs.length ≤ sizeLine := by rw [← Paired.length rel]; exact z
  have hl : (putK kvs k v).length ≤ sizeLine := by have := length_putK kvs k v; omega
  refine wpAny_dictSet_heap (hsz := hz) (show (tupleKind (mixKind X.prog X.w)).room A from hu) (key_of I.hok eb) dd fun h' dd' hs => h _ hs ?_
  obtain ⟨q, es, ep, hq, h2, h3, h4, _, h5⟩ := dd'
  refine d_write I (by rw [e]; exact True.intro) hs ⟨q, hq⟩ ⟨hl, hd, _, (rel.put k eb rv).keeps fun c ys ec => ?_, q, es, ep, hq, h2, h3, h4, h5⟩
  rw [upd_ne (ne_of ec e (fun z => nomatch z))]
  exact ec
section
variable {X : Cx}
def tDcT (wi : TI) (g : TG) (tt : TT) (tk tv : TE) (vs : List Nat) : TE := fun σ H Q => wi σ H fun J H1 => ∀ D, H1 D = none → ∃ W : Nat → Nat → Hp → Prop, (∃ m, W 0 m (upd H1 D (.dT []))) ∧ ∀ i m H, W i m H →
  (J.stop i H ∧ Q (.ref D) H) ∨ (J.go i H ∧ ∃ Nx : Hp → Prop, (∀ H', Nx H' → ∃ m', m' < m ∧ W (i + 1) m' H') ∧ ∀ x H', J.yld i H x H' → g x (wipe σ vs) H' fun σ2 H2 => wipe σ2 vs = wipe σ vs ∧ tt σ2 H2 fun b H3 =>
    if b = true then tk σ2 H3 fun y H4 => tv σ2 H4 fun z H5 => ∃ H6, DPutT H5 D y z H6 ∧ Nx H6 else Nx H3)
theorem dc_coreT {pins : List (Addr × Obj)} {s : Shared} {σ : L2.St} {H : Hp} {Q : VK} {kx vx tg iter : Expr} {ifs : List Expr} {scope : Scope} {own : List (Str × Nat)} {pos pos' : Pos} {wi : TI} {g : TG} {tt : TT} {tk tv : TE} {use : Option (Value → Sem Unit)} {Qf : Value → Shared → Prop}
    (hu : X.A.units < cLine) (hc : X.calm = true) (hN : X.N.Nodup) (I : Inv X pins σ H s) (hi : PI X tg iter wi) (ok : BlkOk X.N X.env.scope scope own)
    (hg : ∀ (s : Shared) (H : Hp) (C : Addr) (cl : List (Str × Addr)) (fp : List Addr), PG (X.blk s H scope (compEnvC scope cl C X.env) fp) tg g) (ht : ∀ (s : Shared) (H : Hp) (C : Addr) (cl : List (Str × Addr)) (fp : List Addr), PTs (X.blk s H scope (compEnvC scope cl C X.env) fp) ifs tt)
    (hk : ∀ (s : Shared) (H : Hp) (C : Addr) (cl : List (Str × Addr)) (fp : List Addr), PE (X.blk s H scope (compEnvC scope cl C X.env) fp) kx tk)
    (he : ∀ (s : Shared) (H : Hp) (C : Addr) (cl : List (Str × Addr)) (fp : List Addr), PE (X.blk s H scope (compEnvC scope cl C X.env) fp) vx tv) (hs : ∀ x, foldedSetIterable iter X.env x = pure x)
    (h : tDcT wi g tt tk tv (own.map (·.2)) σ H Q)
    (hRR : ∀ D C s' m H', Inv X pins σ H' s' → Q (.ref D) H' → s'.heap.Ns C m → FpOk X pins H' C → compPost (model X.prog X.w) X.A X.xe use Qf (.ref D) C (.ok .next) s') :
    wpAny (model X.prog X.w) X.A (comprehension (.DictComp kx vx [⟨tg, iter, ifs, 0⟩] scope pos) scope X.env pos' newDict false (eval iter X.env) use) Qf X.xe s := by
  have hfree : ∀ y ∈ scope.names, y.2 = .free → ∃ c, X.env.cells.lookup y.1 = some c := fun y hy e => by
    rcases ok.free y hy e with k | k
    · exact I.ok.has _ (.inl k)
    · exact I.ok.has _ (.inr k)
  refine wpAny_comprehension_free (use := use) rfl hs (closure_ok hfree) ok.kind (fun y hy e => by rw [ok.uniq y hy, e])
    (thn (hi.run pins s σ H _ I h) fun xv s1 hx => thn hx fun itv s2 h2 => ?_)
  obtain ⟨it, fp, tn, J, H2, e, I2, T, st2, f2, q⟩ := h2
  subst e
  refine wpAny_newObj_type (newEnv_comp ?_)
  generalize hD : s2.heap.objs.size = D
  have hDn : H2 D = none := I2.hok.fresh (Nat.le_of_eq hD)
  obtain ⟨W, ⟨m0, w0⟩, turn⟩ := q D hDn
  -- the new list
  generalize hs3 : ({ s2 with heap := s2.heap.push { cls := .type "dict", data := .dict #[] } } : Shared) = s3
  have I3 : Inv X pins σ (upd H2 D (.dT [])) s3 := by
    rw [← hs3]
    refine I2.laid (t' := s2.toks) (fun b o e => Heap.get?_push_of_some _ e) (Nat.le_of_eq hD) ?_
    rw [← hD]
    exact dt_empty s2.heap I2.big
  have h3 : s3.heap = s2.heap.push { cls := .type "dict", data := .dict #[] } := by rw [← hs3]
  have sz : ∀ b ∈ fp, b < s2.heap.objs.size := fun b hb => by
    obtain ⟨o, e, _⟩ := T.obj _ _ st2 b hb
    exact Heap.lt_size e
  have f3 : ∀ b ∈ fp, FpOk X pins (upd H2 D (.dT [])) b ∧ b < s3.heap.objs.size := fun b hb => by
    have hlt := sz b hb
    refine ⟨⟨?_, (f2 b hb).2⟩, by rw [h3, Heap.size_push]; exact Nat.lt_succ_of_lt hlt⟩
    rw [upd_ne (by rw [← hD]; exact Nat.ne_of_lt hlt)]
    exact (f2 b hb).1
  have st3 : tn 0 s3.heap := T.keep _ _ _ st2 fun b _ o e => by rw [h3]; exact Heap.get?_push_of_some _ e
  have I4 := block_start I3 ok hN f3
  have pg := hg s3 (upd H2 D (.dT [])) s3.heap.objs.size (cellsFrom (s3.heap.objs.size + 1) scope.names (cloFrom X.env.cells scope.names [])) fp
  have pt := ht s3 (upd H2 D (.dT [])) s3.heap.objs.size (cellsFrom (s3.heap.objs.size + 1) scope.names (cloFrom X.env.cells scope.names [])) fp
  have pk := hk s3 (upd H2 D (.dT [])) s3.heap.objs.size (cellsFrom (s3.heap.objs.size + 1) scope.names (cloFrom X.env.cells scope.names [])) fp
  have pe := he s3 (upd H2 D (.dT [])) s3.heap.objs.size (cellsFrom (s3.heap.objs.size + 1) scope.names (cloFrom X.env.cells scope.names [])) fp
  show codeAny _ _ (.compStart (.DictComp kx vx [⟨tg, iter, ifs, 0⟩] scope pos) 0 (.ref it) (.ref D) (compEnvC scope (cellsFrom (s3.heap.objs.size + 1) scope.names (cloFrom X.env.cells scope.names [])) s3.heap.objs.size X.env)) (compPost (model X.prog X.w) X.A X.xe use Qf (.ref D) s3.heap.objs.size) { s3 with heap := pushCells (s3.heap.push { cls := .type "dict", data := .dict #[] }) scope.names }
  have nfp : ∀ b ∈ fp, (upd H2 D (.dT [])) b = none := fun b hb => (f3 b hb).1.1
  generalize hce : compEnvC scope (cellsFrom (s3.heap.objs.size + 1) scope.names (cloFrom X.env.cells scope.names [])) s3.heap.objs.size X.env = ce at I4 pg pt pk pe ⊢
  have cL : ce.locals = s3.heap.objs.size := by subst hce; rfl
  generalize hH3 : upd H2 D (.dT []) = H3 at I3 I4 pg pt pk pe w0 nfp f3
  generalize hs4 : ({ s3 with heap := pushCells (s3.heap.push { cls := .type "dict", data := .dict #[] }) scope.names } : Shared) = s4 at I4 ⊢
  have st4 : tn 0 s4.heap := T.keep _ _ _ st3 fun b _ o e => by rw [← hs4]; exact pushCells_keeps _ _ _ _ (Heap.get?_push_of_some _ e)
  have stat : ∀ {σ' : L2.St} {H' : Hp} {s' : Shared}, Inv (X.blk s3 H3 scope ce fp) [] σ' H' s' → (∀ b ∈ fp, H' b = none) → ∀ b ∈ fp, FpOk (X.blk s3 H3 scope ce fp) [] H' b := fun {σ' H' s'} I' hn b hb =>
    ⟨hn b hb, (I'.ok.exf b hb).1, I'.ok.exfs b hb, .inl hb, fun x c e => (I'.ok.exf b hb).2 x c e, fun p hp => absurd (show p ∈ ([] : List (Addr × Obj)) ++ [] from hp) (by simp)⟩
  have loop : codeAny (model X.prog X.w) X.A (.compLoop (.DictComp kx vx [⟨tg, iter, ifs, 0⟩] scope pos) 0 (.ref it) (.ref D) ce) (compPost (model X.prog X.w) X.A X.xe use Qf (.ref D) s3.heap.objs.size) s4 := by
    refine compLoop_anyD (fun n s' => ∃ i H', Inv (X.blk s3 H3 scope ce fp) [] (wipe σ (own.map (·.2))) H' s' ∧ tn i s'.heap ∧ (∀ b ∈ fp, H' b = none) ∧ W i n H') ?_ m0 ⟨0, H3, I4, st4, nfp, w0⟩
    rintro n s5 ⟨i, H5, I5, st5, n5, w5⟩
    rcases turn i n H5 w5 with ⟨stop, qq⟩ | ⟨go, Nx, hNx, step⟩
    · have td := T.done (X.blk s3 H3 scope ce fp) rfl rfl rfl hc i [] s5 _ H5 (fun _ _ => False) I5 (stat I5 n5) st5 stop
      refine thnF td fun r s6 ⟨hr, I6⟩ => ?_
      subst hr
      -- back in the def's context
      have I7 : Inv X pins σ H5 s6 := I3.call' (ch := fp) I6.os I6.base I6.hok I6.bare fun b hb => ⟨(f3 b hb).1.2.2.2.1, (f3 b hb).1.2.1, (f3 b hb).1.2.2.2.2.1, (f3 b hb).1.2.2.2.2.2⟩
      have nC : H5 s3.heap.objs.size = none := by
        have z : H5 ce.locals = none := I6.free
        rw [cL] at z
        exact z
      obtain ⟨m, hn, _⟩ := I6.loc
      have hn : s6.heap.Ns ce.locals m := hn
      rw [cL] at hn
      exact hRR D s3.heap.objs.size s6 m H5 I7 qq hn (I3.fpOk (Nat.le_refl _) nC)
    · have ti := T.item (X.blk s3 H3 scope ce fp) rfl rfl rfl hc i [] s5 _ H5 (fun _ _ => False) I5 (stat I5 n5) st5 go
      refine thnF ti fun r s6 ⟨u, hr, h6⟩ => ?_
      subst hr
      refine thnF h6 fun _ s7 ⟨x, H7, I7, r7, y7, st7, n7⟩ => ?_
      have I7' := I7.pinned (stat I7 n7) (T.obj _ _ st7)
      refine thnF (pg.run _ s7 _ H7 x u _ I7' r7 (step x H7 y7)) fun _ s8 ⟨σ8, H8, I8, hw8, q8⟩ => ?_
      refine thnF (pt.run _ s8 σ8 H8 _ I8 q8) fun b s9 ⟨H9, I9, q9⟩ => ?_
      -- the turn's end
      have fin : ∀ {s' : Shared} {H' : Hp}, Inv (X.blk s3 H3 scope ce fp) ([] ++ pinsAt fp s7.heap) σ8 H' s' → Nx H' → ∃ m, m < n ∧ ∃ i H', Inv (X.blk s3 H3 scope ce fp) [] (wipe σ (own.map (·.2))) H' s' ∧ tn i s'.heap ∧ (∀ b ∈ fp, H' b = none) ∧ W i m H' := fun {s' H'} I' nx => by
        obtain ⟨m', hm, w'⟩ := hNx H' nx
        have pin' : ∀ b ∈ fp, ∀ o, s7.heap.get? b = some o → s'.heap.get? b = some o ∧ H' b = none := fun b hb o e =>
          let z := I'.pin (b, o) (List.mem_append_right _ (List.mem_append_right _ (mem_pinsAt hb e)))
          ⟨z.1, z.2.1⟩
        have hl : (wipe σ (own.map (·.2))).length = σ8.length := by rw [← hw8, wipe_length]
        refine ⟨m', hm, i + 1, H', (I'.unpinned (pins := [])).weak hl (fun j v e => ?_), T.keep _ _ _ st7 fun b hb o e => (pin' b hb o e).1, fun b hb => ?_, w'⟩
        · rw [← hw8] at e
          exact (wipe_some e).1
        · obtain ⟨o, e, _⟩ := T.obj _ _ st7 b hb
          exact (pin' b hb o e).2
      cases b with
      | false =>
        simp only [Bool.false_eq_true, if_false] at q9 ⊢
        exact fin I9 q9
      | true =>
        simp only [if_true] at q9 ⊢
        refine thnF (pk.run _ s9 σ8 H9 _ I9 q9) fun z s10 ⟨yk, H10, I10, r10, q10⟩ => ?_
        refine thnF (pe.run _ s10 σ8 H10 _ I10 q10) fun z2 s11 ⟨yv, H11, I11, r11, H12, put, nx⟩ => ?_
        exact d_dictSetT (X := X.blk s3 H3 scope ce fp) hu I11 put r10 r11 fun s12 _ I12 => fin I12 nx
  exact codeAny_compStart_dict loop (T.self X.A 0 _ _ _ st4 loop)
/-- as a value -/
theorem pe_dcT {kx vx tg iter : Expr} {ifs : List Expr} {scope : Scope} {own : List (Str × Nat)} {pos : Pos} {wi : TI} {g : TG} {tt : TT} {tk tv : TE} (hu : X.A.units < cLine) (hc : X.calm = true) (hN : X.N.Nodup) (hi : PI X tg iter wi) (ok : BlkOk X.N X.env.scope scope own)
    (hg : ∀ (s : Shared) (H : Hp) (C : Addr) (cl : List (Str × Addr)) (fp : List Addr), PG (X.blk s H scope (compEnvC scope cl C X.env) fp) tg g) (ht : ∀ (s : Shared) (H : Hp) (C : Addr) (cl : List (Str × Addr)) (fp : List Addr), PTs (X.blk s H scope (compEnvC scope cl C X.env) fp) ifs tt)
    (hk : ∀ (s : Shared) (H : Hp) (C : Addr) (cl : List (Str × Addr)) (fp : List Addr), PE (X.blk s H scope (compEnvC scope cl C X.env) fp) kx tk)
    (he : ∀ (s : Shared) (H : Hp) (C : Addr) (cl : List (Str × Addr)) (fp : List Addr), PE (X.blk s H scope (compEnvC scope cl C X.env) fp) vx tv) (hs : ∀ x, foldedSetIterable iter X.env x = pure x := by intro _; rfl) :
    PE X (.DictComp kx vx [⟨tg, iter, ifs, 0⟩] scope pos) (tDcT wi g tt tk tv (own.map (·.2))) := by
  refine ⟨fun pins s σ H Q I h => ?_⟩
  rw [arm_eval_DictComp]
  refine dc_coreT hu hc hN I hi ok hg ht hk he hs h fun D C s' m H' I' q hn f => ⟨m, hn, fun h'' sb => ?_⟩
  obtain ⟨f0, f1, f2, f3, f4, f5⟩ := f
  exact ⟨.ref D, H', I'.turned (t' := s'.toks) (fun b o hb e => (sb.2 b hb).trans e) f0 f1 f3 f4 f5, rfl, q⟩
end
end K67
end
section
set_option Elab.async false
set_option linter.all false
set_option maxRecDepth 100000
set_option maxHeartbeats 4000000
namespace K67
open PySem PySem.Spec PyProof.Rows L2
/-! ### dict(l) of a list of pairs whose keys are tuples -/
def mergeT (kvs more : List (List Key × V)) : List (List Key × V) := more.foldl (fun acc kv => putK acc kv.1 kv.2) kvs
/-- a pair: its tuple, its key's tuple, the key, the value -/
structure PrT where
  p : Addr
  b : Addr
  k : List Key
  v : V
def PrT.ok (H : Hp) (q : PrT) : Prop := H q.p = some (.tup [.ref q.b, q.v]) ∧ H q.b = some (.tup (q.k.map kV))
theorem updT_loop {X : Cx} {A : Around} {pins : List (Addr × Obj)} {σ : L2.St} {R : PySem.Result → Shared → Prop} {S I l : Addr} {res : Value} (hh : A.handled = none) (hu : A.units + 1 < cLine) (hSI : S ≠ I) (hSl : S ≠ l) (hlI : l ≠ I) {all : List Addr} :
    ∀ (rest : List PrT) (i : Nat) (acc : List (List Key × V)) (ix : Int) (t : Tok) (s : Shared) (H : Hp), (∀ (j : Nat) (q : PrT), rest[j]? = some q → all[i + j]? = some q.p) → all.length = i + rest.length → acc.length + rest.length ≤ sizeLine → (∀ q ∈ rest, q.ok H) →
      Inv X pins σ H s → FpOk X pins H I → s.heap.IsListIter I l i → H l = some (.lst (all.map V.ref)) → H S = some (.dT acc) →
      (∀ (s' : Shared), Inv X pins σ (upd H S (.dT (mergeT acc (rest.map fun q => (q.k, q.v))))) s' → R (.ok (.ret res)) s') →
      codeAny (model X.prog X.w) A (.builtin "dict.update.loop" ⟨[.ref S, .ref I, .int ix t, res], []⟩) R s
  | [], i, acc, ix, t, s, H, hat, hsz, hln, hok, J, fp, hit, hl, hS, hR => by
    obtain ⟨its, rv, pl, hz⟩ := J.list (SqL.of hl)
    have ei := refs_at rv
    subst ei
    obtain ⟨f0, f1, f2, f3, f4, f5⟩ := fp
    refine codeAny_builtin ud_entry ?_
    rw [Around.under_plainId ud_plain _]
    show wpAny _ A.in1 (pyNext (.ref I) >>= _) _ _ s
    refine wpAny_bind (wpAny_pyNext_list_end (A := A.in1) hh hit pl.isList (by simp at hsz; simp; omega) fun h' he => ?_)
    show wpAny _ A.in1 (Builtin.Dict.addKeywords S [] >>= _) _ _ _
    refine wpAny_bind (wpAny_pure (wpAny_pure ?_))
    refine hR _ ?_
    have e : upd H S (.dT (mergeT acc (([] : List PrT).map fun q => (q.k, q.v)))) = H := by
      funext b
      by_cases hb : b = S
      · rw [hb, upd_same]
        exact hS.symm
      · rw [upd_ne hb]
    rw [e]
    exact J.turned (t' := s.toks) (fun b ob hb e => he b ob hb e) f0 f1 f3 f4 f5
  | q :: rest, i, acc, ix, t, s, H, hat, hsz, hln, hok, J, fp, hit, hl, hS, hR => by
    obtain ⟨its, rv, pl, hz⟩ := J.list (SqL.of hl)
    have ei := refs_at rv
    subst ei
    obtain ⟨f0, f1, f2, f3, f4, f5⟩ := id fp
    obtain ⟨hp, hb⟩ := hok q (List.mem_cons_self ..)
    have hq0 := hat 0 q rfl
    rw [List.length_cons] at hsz hln
    refine codeAny_builtin ud_entry ?_
    rw [Around.under_plainId ud_plain _]
    show wpAny _ A.in1 (pyNext (.ref I) >>= _) _ _ s
    refine wpAny_bind (wpAny_pyNext_list_item (x := .ref q.p) hit pl.isList (by simpa using hq0) fun h1 hit1 hs1 => ?_)
    have J1 : Inv X pins σ H { s with heap := h1 } := J.turned (t' := s.toks) (fun b ob hb e => (hs1.2 b hb).trans e) f0 f1 f3 f4 f5
    obtain ⟨its1, rv1, ht1, _⟩ := J1.tuple (SqT.of (K := X.K) hp)
    obtain ⟨u1, u2, rfl, ri, rj⟩ := vals2 rv1
    obtain ⟨o, ho, hc, n, hd⟩ := id ht1
    show wpAny _ A.in1 (holding [Value.ref q.p] _ >>= _) _ _ _
    refine wpAny_bind (wpAny_holding ?_)
    refine wpAny_bind (wpAny_tryCatch ?_)
    unfold Builtin.Dict.pairItems
    refine wpAny_bind (wpAny_typeOf (T := "tuple") ⟨o, ho, hc⟩ ?_)
    rw [if_pos (by first | decide | rfl | simp)]
    refine wpAny_bind (wpAny_seqItems ho hd (wpAny_pure ?_))
    show wpAny _ A.in1 (holding [u1, u2] (dictSet S u1 u2)) _ _ _
    refine wpAny_holding (d_dictSetT (A := A.in1) hu J1 ⟨acc, q.k, q.b, hS, rfl, hb, by omega, rfl⟩ ri rj fun s2 sb2 J2 => ?_)
    have hit2 : s2.heap.IsListIter I l (i + 1) := hit1.at fun o' e => (sb2.2 I (Ne.symm hSI)).trans e
    refine wpAny_pure ⟨plainId_quiet ud_plain _, ?_⟩
    have nS : ∀ b ob, H b = some ob → ob ≠ .dT acc → b ≠ S := fun b ob e hne z => by
      rw [z, hS] at e
      exact hne (Option.some.inj e).symm
    refine updT_loop (all := all) hh hu hSI hSl hlI rest (i + 1) (putK acc q.k q.v) (ix + 1) 0 s2 (upd H S (.dT (putK acc q.k q.v))) (fun j q' e => ?_) (by omega) ?_ (fun q' hq' => ?_) J2 ⟨by rw [upd_ne (Ne.symm hSI)]; exact f0, f1, f2, f3, f4, f5⟩ hit2 (by rw [upd_ne (Ne.symm hSl)]; exact hl) upd_same fun s3 J3 => hR s3 ?_
    · have := hat (j + 1) q' (by simpa using e)
      rw [show i + 1 + j = i + (j + 1) by omega]
      exact this
    · have := length_putK acc q.k q.v
      omega
    · obtain ⟨a1, a2⟩ := hok q' (List.mem_cons_of_mem _ hq')
      exact ⟨by rw [upd_ne (nS _ _ a1 (fun z => nomatch z))]; exact a1, by rw [upd_ne (nS _ _ a2 (fun z => nomatch z))]; exact a2⟩
    · rw [upd_upd] at J3
      exact J3
/-- dict(l), l a list of pairs whose keys are tuples -/
def rDictPT : List V → Hp → VK → Prop := fun xs H Q => ∃ (a : Addr) (ps : List PrT), xs = [.ref a] ∧ H a = some (.lst (ps.map fun q => V.ref q.p)) ∧ (∀ q ∈ ps, q.ok H) ∧ ∀ p, H p = none → Q (.ref p) (upd H p (.dT (mergeT [] (ps.map fun q => (q.k, q.v)))))
theorem call_dictPT {X : Cx} (hcalm : X.calm = true) (hu : X.A.units + 3 < cLine) : CallR X (.type "dict") rDictPT := by
  intro pins s σ H xs us Q J r q
  obtain ⟨a, ps, rfl, hl, hp, q⟩ := q
  obtain ⟨u, rfl, rx⟩ := vals1 r
  cases rx
  obtain ⟨its, rv, pl, hz⟩ := J.list (SqL.of hl)
  have hh : X.A.handled = none := J.ok.hd hcalm
  refine callType_codes (Q₁ := fun obj s₁ => obj = .ref s.heap.objs.size ∧ s₁ = { s with heap := s.heap.push { cls := .type "dict", data := .dict #[] } }) PySem.F.kt_called_dict (PySem.F.kt_typeCall_dict_1 _) PySem.F.entry_dict_init (kt_code_dict_new _ ⟨rfl, rfl⟩) ?_
  rintro obj s₁ ⟨rfl, rfl⟩
  have hn : H s.heap.objs.size = none := J.hok.fresh (Nat.le_refl _)
  have J1 := J.laid (a := s.heap.objs.size) (o := .dT []) (h' := s.heap.push { cls := .type "dict", data := .dict #[] }) (t' := s.toks) (fun _ _ q => Heap.get?_push_of_some _ q) (Nat.le_refl _) (dt_empty s.heap J.big)
  have hnew : (s.heap.push { cls := .type "dict", data := .dict #[] }).DictOf (mixKind X.prog X.w) s.heap.objs.size [] := Heap.DictOf.new s.heap
  have nla : a ≠ s.heap.objs.size := ne_of_none hl hn
  have hl1 : (upd H s.heap.objs.size (.dT [])) a = some (.lst (ps.map fun q => V.ref q.p)) := by rw [upd_ne nla]; exact hl
  refine ⟨hnew.typeIs, PySem.F.args_dict_init_2 _ _, ?_⟩
  unfold Builtin.«dict.__init__»
  refine wpAny_bind ?_
  unfold Builtin.Dict.selfAndRest
  refine wpAny_bind (wpAny_notOrdered_dict hnew.typeIs ?_)
  show wpAny _ _ (pure (s.heap.objs.size, [Value.ref a])) _ _ _
  refine wpAny_pure ?_
  show wpAny _ _ (Builtin.Dict.updateFrom "dict.__init__" s.heap.objs.size (.ref a) [] .none) _ _ _
  unfold Builtin.Dict.updateFrom
  obtain ⟨its1, rv1, pl1, _⟩ := J1.list (SqL.of (K := X.K) hl1)
  obtain ⟨ol, nl, hol, hc, hd, hdat⟩ := id pl1
  refine wpAny_bind (wpAny_typeOf (T := "list") ⟨ol, hol, hc⟩ ?_)
  rw [if_pos (by first | decide | rfl | simp)]
  refine wpAny_bind (miss_list hol hc hdat hd hh fun h1 tk1 hk1 => ?_)
  rw [if_pos (show (none : Option Value).isNone = true from rfl)]
  refine wpAny_bind (wpAny_rule ?_)
  have J2 : Inv X pins σ (upd H s.heap.objs.size (.dT [])) { s with heap := h1, toks := tk1 } := J1.kept (t' := tk1) hk1
  have hl2 : h1.IsList a its1.toArray := ⟨ol, hk1 _ _ hol, hc, nl, hdat⟩
  refine wpAny_bind (wpAny_pyIter_list hl2 ?_)
  have fp := J2.fpOk (Nat.le_refl h1.objs.size) (J2.hok.fresh (Nat.le_refl _))
  have J3 : Inv X pins σ (upd H s.heap.objs.size (.dT [])) { s with heap := h1.push { cls := .type "list_iterator", data := .fields #[.ref a, .int 0 0] }, toks := tk1 } := J2.kept (t' := tk1) fun b o e => Heap.get?_push_of_some _ e
  have hS1 : s.heap.objs.size < h1.objs.size := by
    have e : (s.heap.push { cls := .type "dict", data := .dict #[] }).get? s.heap.objs.size = some { cls := .type "dict", data := .dict #[] } := Heap.get?_push_size _ rfl
    exact Heap.lt_size (hk1 _ _ e)
  have hal : a < h1.objs.size := Heap.lt_size (hk1 _ _ hol)
  have key : ∀ {E : Value → Shared → Prop}, codeAny (model X.prog X.w) X.A.in1 (.builtin "dict.update.loop" ⟨[.ref s.heap.objs.size, .ref h1.objs.size, .int 0 0, .none], []⟩) (wants (fun r s₂ => r = .none ∧ EP X pins σ Q (.ref s.heap.objs.size) s₂) E) { s with heap := h1.push { cls := .type "list_iterator", data := .fields #[.ref a, .int 0 0] }, toks := tk1 } := fun {E} => updT_loop (X := X) (A := X.A.in1) (S := s.heap.objs.size) (I := h1.objs.size) (l := a) (res := Value.none) (all := ps.map (·.p)) hh
    (show X.A.in1.units + 1 < cLine from by show X.A.units + 1 + 1 < cLine; omega) (Nat.ne_of_lt hS1) (Ne.symm nla) (Nat.ne_of_lt hal) ps 0 [] 0 0 _ (upd H s.heap.objs.size (.dT []))
    (fun j q e => by rw [Nat.zero_add, List.getElem?_map, e]; rfl) (by simp) (by rw [List.length_nil, Nat.zero_add]; simpa using hz)
    (fun q hq => by
      obtain ⟨a1, a2⟩ := hp q hq
      exact ⟨by rw [upd_ne (ne_of_none a1 hn)]; exact a1, by rw [upd_ne (ne_of_none a2 hn)]; exact a2⟩)
    J3 fp ⟨_, Heap.get?_push_size _ rfl, rfl, rfl⟩ (by rw [List.map_map]; exact hl1) upd_same
    (fun s' J4 => ⟨rfl, .ref s.heap.objs.size, _, by rw [upd_upd] at J4; exact J4, rfl, q _ hn⟩)
  first
    | exact wpAny_pure ⟨plainId_quiet ud_plain _, key⟩
    | exact wpAny_bind (wpAny_pure (wpAny_pure ⟨plainId_quiet ud_plain _, key⟩))
/-! ### d.values() of a dict whose keys are tuples -/
theorem noDictT {s : Shared} {d : Addr} {es : Array DictEntry} {ep : Nat} (raw : s.heap.DictRaw d es ep) : ∀ b, Value.ref d = .ref b → ∃ ob, s.heap.get? b = some ob ∧ ob.dict = none := fun b q => by
  cases q
  obtain ⟨o', ho, hx, _⟩ := raw
  exact ⟨o', ho, hx.2.1⟩
def ItdT (d : Addr) (o : Obj) (kvs : List (List Key × V)) : It :=
  ⟨fun i H => H d = some (.frz o (.dT kvs)) ∧ i < kvs.length, fun i H x H' => H' = H ∧ ∃ k, kvs[i]? = some (k, x), fun i H => H d = some (.frz o (.dT kvs)) ∧ kvs.length ≤ i⟩
theorem valsT {X : Cx} {pins : List (Addr × Obj)} {σ : L2.St} {H : Hp} {s : Shared} {d : Addr} {o : Obj} {kvs : List (List Key × V)} (J : Inv X pins σ H s) (h : H d = some (.frz o (.dT kvs))) :
    (d == sysModules) = false ∧ ∃ (es : Array DictEntry) (ep : Nat), o.data = .dict es ep ∧ s.heap.DictRaw d es ep ∧ es.size = kvs.length ∧ ∀ (i : Nat) (k : List Key) (v : V), kvs[i]? = some (k, v) → ∃ en : DictEntry, es[i]? = some en ∧ RelV v en.val := by
  obtain ⟨hd, z, hs, xs, pr, o', es, ep, ho, hx, hdt, he, _⟩ := J.hok d _ h
  rw [hd] at ho
  cases ho
  refine ⟨hs, es, ep, hdt, ⟨o, hd, hx, hdt⟩, ?_, fun i k v e => ?_⟩
  · have l1 : es.size = xs.length := size_of_entries he
    have l2 : kvs.length = xs.length := Paired.length pr
    omega
  · obtain ⟨b, hb, e1, e2, e3⟩ := paired_get pr e
    have q := entry_at he i
    rw [hb] at q
    exact ⟨_, q, e3⟩
theorem turn_valsT {P : Program} {w : World} {K : PySem.W.Frag} {tg : Expr} {d : Addr} {o : Obj} {es : Array DictEntry} {ep : Nat} {kvs : List (List Key × V)} (it : Addr) (hod : o.data = .dict es ep) : Turn P w K tg (ItdT d o kvs) [it] it (fun i h => h.IsValIter it d i kvs.length ep) where
  mem := by simp
  obj := fun i h st b hb => by
    have e : b = it := by simpa using hb
    subst e
    obtain ⟨oi, e, c, dd⟩ := st
    exact ⟨oi, e, fun v z => by rw [dd] at z; cases z⟩
  keep := fun i h h' st k => st.at fun oi e => k it (by simp) oi e
  item := by
    intro X hP hw hK hc i pins s σ H E J hf st hg
    subst hP hw hK
    obtain ⟨hd, hi⟩ := hg
    obtain ⟨f0, f1, f2, f3, f4, f5⟩ := hf it (by simp)
    obtain ⟨hs, es', ep', hdt, raw, hsz, ent⟩ := valsT J hd
    obtain ⟨rfl, rfl⟩ := dict_ep hod hdt
    obtain ⟨⟨k, v⟩, hkv⟩ : ∃ p, kvs[i]? = some p := ⟨kvs[i], List.getElem?_eq_getElem hi⟩
    obtain ⟨en, hen, ren⟩ := ent i k v hkv
    rw [← hsz] at st
    have hie : i < es'.size := by omega
    have een : es'[i] = en := by
      rw [Array.getElem?_eq_getElem hie] at hen
      exact Option.some.inj hen
    refine wpAny_pyNext_values_item_raw st raw hie fun h' st' sb => ?_
    have J1 : Inv X pins σ H { s with heap := h' } := J.turned (t' := s.toks) (fun b ob hb e => (sb.2 b hb).trans e) f0 f1 f3 f4 f5
    obtain ⟨oi, e, c, dd⟩ := id st'
    refine ⟨_, rfl, go_of (s := { s with heap := h' }) e c dd (by decide) ⟨v, H, J1, by rw [een]; exact ren, ⟨rfl, k, hkv⟩, ?_, fun b hb => (hf b hb).1⟩⟩
    rw [← hsz]
    exact st'
  done := by
    intro X hP hw hK hc i pins s σ H E J hf st hg
    subst hP hw hK
    obtain ⟨hd, hi⟩ := hg
    obtain ⟨f0, f1, f2, f3, f4, f5⟩ := hf it (by simp)
    obtain ⟨hs, es', ep', hdt, raw, hsz, ent⟩ := valsT J hd
    obtain ⟨rfl, rfl⟩ := dict_ep hod hdt
    rw [← hsz] at st
    exact wpAny_pyNext_values_end_raw (J.ok.hd hc) st raw (by omega) fun h' eb => ⟨rfl, J.turned (t' := s.toks) (fun b ob hb e => eb b ob hb e) f0 f1 f3 f4 f5⟩
  self := fun A i s Q E st h => wpAny_pyIter_valiter st h
/-- the dict is locked -/
def iValsT (td : TE) : TI := fun σ H R => td σ H fun x H1 => ∃ d o kvs, x = .ref d ∧ H1 d = some (.frz o (.dT kvs)) ∧ R (ItdT d o kvs) H1
theorem pi_valuesT {X : Cx} {tg e : Expr} {td : TE} {apos cpos : Pos} (he : PE X e td) (hbase : attributeBase e "values" X.env (eval e X.env) = eval e X.env := by rfl) (hline : (apos.endLine == cpos.line) = true := by rfl) : PI X tg (.Call (.Attribute e "values" apos) [] [] cpos) (iValsT td) := by
  refine ⟨fun pins s σ H R J h => ?_⟩
  refine wpAny_Call_method (T := "dict") (id := "dict.values") hbase rfl hline F.plainAttrs_dict F.slot_dict_values F.type_dict_values (thn (he.run pins s σ H _ J h) fun u s1 ⟨x, H1, J1, rx, d, o, kvs, ex, hd, q⟩ => ?_)
  subst ex
  obtain rfl : u = Value.ref d := rx
  obtain ⟨hs, es, ep, hdt, raw, hsz, ent⟩ := valsT J1 hd
  refine ⟨raw.typeIs, noDictT raw, ?_⟩
  have J2 : Inv X pins σ H1 { s1 with heap := s1.heap.push { cls := .type "dict_values", data := .fields #[.ref d] } } := J1.kept (t' := s1.toks) fun b ob q => Heap.get?_push_of_some _ q
  have fin : wpAny (model X.prog X.w) X.A (pyIter (.ref s1.heap.objs.size)) (PIE X pins σ tg R) X.xe { s1 with heap := s1.heap.push { cls := .type "dict_values", data := .fields #[.ref d] } } := by
    refine wpAny_pyIter_values_raw (d := d) ⟨_, Heap.get?_push_size _ rfl, rfl, rfl⟩ (raw.at fun o e => Heap.get?_push_of_some _ e) (pi_one (tk := s1.toks) J2 _ (turn_valsT _ hdt) ⟨_, Heap.get?_push_size _ rfl, rfl, ?_⟩ q)
    rw [hsz] <;> rfl
  show wpAny _ _ (callWith cpos (.builtin "dict.values") [.ref d] [] []) _ X.xe s1
  exact method_meetsIn F.slot_dict_values F.entry_dict_values rfl (PySem.evalArgs_none ⟨rfl, raw.typeIs, F.args_dict_values_1 _, _, meets_dict_values_raw d hs, ⟨es, ep, raw⟩, fin⟩)
end K67
end
section
set_option Elab.async false
set_option linter.all false
set_option maxRecDepth 100000
set_option maxHeartbeats 4000000
/-! == of dicts of different lengths -/
namespace PySem.W
open PySem PySem.Calls PyProof.Rows PyProof.V PySem.Spec
section
variable {prog : Program} {w : World} {K : Type} [DecidableEq K] {knd : HeapKind prog w K} {A : Around} {E : Value → Shared → Prop} {s : Shared}
theorem samePairsL {nm : String} {a b : Addr} {ka kb : List (K × Addr × Value)} {Q : Bool → Shared → Prop} (ha : (a == sysModules) = false) (hb : (b == sysModules) = false)
    (da : s.heap.DictOfH knd a ka) (db : s.heap.DictOfH knd b kb) (hl : ka.length ≠ kb.length) (h : Q false s) :
    wpAny (model prog w) A (Builtin.Dict.samePairs nm a b) Q E s := by
  obtain ⟨oa, es, ep, hoa, _, hda, hea, hia, _⟩ := da
  obtain ⟨ob, es', ep', hob, _, hdb, heb, hib, hnb⟩ := db
  have hla : es.size = ka.length := size_of_entries hea
  have hlb : es'.size = kb.length := size_of_entries heb
  have hsz : es.size ≠ es'.size := by rw [hla, hlb]; exact hl
  unfold Builtin.Dict.samePairs Builtin.Dict.showsAll
  rw [if_neg (show ¬ (a == sysModules) = true by rw [ha]; exact Bool.false_ne_true), if_neg (show ¬ (b == sysModules) = true by rw [hb]; exact Bool.false_ne_true)]
  refine wpAny_bind (wpAny_pure (wpAny_bind (wpAny_pure ?_)))
  refine wpAny_bind (wpAny_dictEntries hoa hda ?_)
  dsimp only
  refine wpAny_bind (wpAny_dictEntries hob hdb ?_)
  rw [if_pos (show (es.size != es'.size) = true by simpa using hsz)]
  exact wpAny_bind (wpAny_rule (wpAny_pure h))
theorem rcL {a b : Addr} {ka kb : List (K × Addr × Value)} (ha : (a == sysModules) = false) (hb : (b == sysModules) = false)
    (da : s.heap.DictOfH knd a ka) (db : s.heap.DictOfH knd b kb) (hl : ka.length ≠ kb.length) (hu : A.units < cLine) (E Q : Value → Shared → Prop) (h : Q (.bool false) s) : wpAny (model prog w) A (richCompare .Eq (.ref a) (.ref b)) Q E s := by
  refine wpAny_richCompare_same_room (op := .Eq) da.typeIs db.typeIs PySem.F.slot_dict_eq (wpAny_call_entry PySem.F.slot_dict_eq da.typeIs PySem.F.entry_dict_eq ?_ (PySem.F.args_dict_eq_2 _ _)) hu
  show wpAny _ _ (Builtin.Dict.dictSlotArgs "__eq__" ⟨[.ref a, .ref b], []⟩ >>= _) _ _ s
  refine wpAny_bind ?_
  unfold Builtin.Dict.dictSlotArgs
  refine wpAny_bind (wpAny_notOrdered_dict da.typeIs ?_)
  show wpAny _ _ (pure (Value.ref a, Value.ref b)) _ _ s
  refine wpAny_pure ?_
  refine wpAny_bind (wpAny_isInstance (T := "dict") db.typeIs PySem.F.sub_dict_dict ?_)
  simp only [Bool.not_true, Bool.false_eq_true, if_false]
  refine wpAny_bind (wpAny_pure (wpAny_bind (wpAny_pure ?_)))
  refine wpAny_bind (samePairsL ha hb da db hl ?_)
  refine wpAny_pure ⟨_, rfl, ?_, ?_⟩
  · exact fun x => nomatch x
  · simpa using h
end
end PySem.W
namespace K67
open PySem PySem.Spec PyProof.Rows L2
def rEqLen : R2 := fun x y H Q => ∃ a b ks ls, x = .ref a ∧ y = .ref b ∧ H a = some (.dT ks) ∧ H b = some (.dT ls) ∧ ks.length ≠ ls.length ∧ Q (.bl false) H
theorem op_eqLen {X : Cx} (hu : X.A.units < cLine) : OpR X (compareOp .Eq) rEqLen := by
  intro pins s σ H x y v u Q J rx ry h
  obtain ⟨a, b, ks, ls, rfl, rfl, ea, eb, hlen, q⟩ := h
  obtain rfl : v = Value.ref a := rx
  obtain rfl : u = Value.ref b := ry
  obtain ⟨_, ya, va, ra, da⟩ := dt_of J.hok ea
  obtain ⟨_, yb, vb, rb, db⟩ := dt_of J.hok eb
  have la : ks.length = va.length := Paired.length ra
  have lb : ls.length = vb.length := Paired.length rb
  exact PySem.W.rcL (knd := tupleKind (mixKind X.prog X.w)) ya yb da db (by omega) hu _ _ ⟨.bl false, H, J, rfl, q⟩
/-- the lock taken away -/
theorem same_unlock {H H' : Hp} {d : Addr} {od : Obj} {u : HO} (h : H d = some u) (s : Same (upd H d (.frz od u)) H') : Same H (upd H' d u) := by
  intro b o e
  by_cases hb : b = d
  · subst hb
    rw [h] at e
    rw [upd_same]
    exact e
  · rw [upd_ne hb]
    exact s _ _ (by rw [upd_ne hb]; exact e)
theorem same_lock {H H' : Hp} {d : Addr} {od : Obj} {u : HO} (s : Same (upd H d (.frz od u)) H') : H' d = some (.frz od u) := s _ _ upd_same
end K67
end
section
set_option Elab.async false
set_option linter.all false
set_option maxRecDepth 100000
set_option maxHeartbeats 4000000
namespace K67
open PySem PySem.Spec PyProof.Rows L2
section
variable {P : Program} {w : World} {K : PySem.W.Frag} {mg : Str → Option Value} {base : Heap} {T : Cls3}
/-! ### is_step_key, is_target, is_key: of what can be made -/
def spStepKey : Sp := fun vs H Q _ => ∃ a ls c, vs = [.str ls, .int 1, .ref a] ∧ H a = some (.tup [.str ⟨#[c]⟩, .int 0]) ∧ c ∈ ls.cps.toList ∧ Q (.bl true) H
theorem ok_is_step_key (kt : Kits K T) {f : Addr} {fd : FuncData} (F : FnP K "is_step_key" "is_step_key" s_is_step_key f fd) (B : BN mg) (c1 : Cal P w K mg base CX0 3 "is_mark_number" (spMarkNo K)) : FnOk P w K mg base CX0 4 f fd ["letters", "total", "value"] spStepKey := by
  have S := sc_is_step_key
  refine ok0 F S (fun vs H Q E h => ?_) (fun cdv A outer s H vs Q E hr h => ?_)
  · obtain ⟨a, ls, c, rfl, _⟩ := h
    rfl
  · obtain ⟨a, ls, c, rfl, ha, hc, q⟩ := h
    refine ⟨_, (pss_cons (ps_if (PW.pt (pw_or (pt_not (pt_val (pe_callB call_isi (by rfl) B.isinstance (by decide +kernel) (pa_cons (pv 2) (pa_cons (pe_bltn (v := .ty "tuple") (by rfl) B.tuple (by decide +kernel) rfl) pa_nil))))) (pw_or (pt_cmpR op_ne (pe_callB call_len (by rfl) B.len (by decide +kernel) (pa_cons (pv 2) pa_nil)) pe_int (nomark _)) (pw_or1 (pt_not (pt_val (pe_callB call_isi (by rfl) B.isinstance (by decide +kernel) (pa_cons (pe_ix ix_tup (pv 2) pe_int (fun _ _ => rfl)) (pa_cons (pe_bltn (v := .ty "str") (by rfl) B.str (by decide +kernel) rfl) pa_nil))))))))) (pss_one (ps_ret pe_bl)) pss_nil)
      (pss_one (ps_ret (pe_and (pe_cmpR op_eq (pe_callB call_len (by rfl) B.len (by decide +kernel) (pa_cons (pe_ix ix_tup (pv 2) pe_int (fun _ _ => rfl)) pa_nil)) pe_int (nomark _)) (pe_and (pe_cmpR op_in_sign (pe_ix ix_tup (pv 2) pe_int (fun _ _ => rfl)) (pv 0) rfl) (pe_one (pe_c c1 hr (by decide) (by rfl) (E := E0) pass0 (pa_cons (pe_ix ix_tup (pv 2) pe_int (fun _ _ => rfl)) (pa_cons (pv 1) pa_nil))))))))), ?_⟩
    have k1 := kt.kit (.type "tuple") (by simp [TYS]) (.type "tuple") (by simp [CLS])
    have k2 := kt.kit (.type "str") (by simp [TYS]) (.type "str") (by simp [CLS])
    refine ⟨_, rfl, _, .ty "tuple", .type "tuple", _, _, rfl, .ty "tuple", .base (TyOf.tup ha), k1, _, rfl, iteF' (by decide +kernel) ?_⟩
    refine ⟨_, rfl, _, 2, rfl, .inr ⟨_, SqT.of ha, rfl⟩, rfl, _, rfl, iteF' (by decide +kernel) ?_⟩
    refine ⟨_, rfl, a, _, 0, .str ⟨#[c]⟩, rfl, rfl, SqT.of ha, atI_nat (j := 0) rfl, ?_⟩
    refine ⟨_, .ty "str", .type "str", _, _, rfl, .ty "str", .base (TyOf.str _), k2, _, rfl, iteF' (by decide +kernel) ?_⟩
    refine ⟨_, rfl, a, _, 0, .str ⟨#[c]⟩, rfl, rfl, SqT.of ha, atI_nat (j := 0) rfl, ?_⟩
    refine ⟨_, 1, rfl, ⟨by show (1 : Nat) ≤ sizeLine; decide, rfl⟩, rfl, true, rfl, iteT' rfl ?_⟩
    refine ⟨_, rfl, a, _, 0, .str ⟨#[c]⟩, rfl, rfl, SqT.of ha, atI_nat (j := 0) rfl, ?_⟩
    refine ⟨_, rfl, c, ls, rfl, rfl, _, rfl, iteT' (by simp [hc]) ?_⟩
    refine ⟨_, rfl, a, _, 1, .int 0, rfl, rfl, SqT.of ha, atI_nat (j := 1) rfl, ?_⟩
    exact ⟨_, rfl, .int 0, 1, rfl, True.intro, q⟩
def spTarget : Sp := fun vs H Q _ => ∃ a z, vs = [.ref a] ∧ H a = some (.tup [.str z, .int 0]) ∧ z.length ≤ sizeLine ∧ wordB z = true ∧ ∀ H', Same H H' → Q (.bl true) H'
theorem ok_is_target (kt : Kits K T) {f : Addr} {fd : FuncData} (F : FnP K "is_target" "is_target" s_is_target f fd) (B : BN mg) (gW : ∃ u, mg "MAX_WRITER" = some u ∧ RelV (.int 1000) u) (c1 : Cal P w K mg base CX0 1 "is_word" (spIsWord K)) (c2 : Cal P w K mg base CX0 2 "is_between" (spBtw K)) : FnOk P w K mg base CX0 3 f fd ["value"] spTarget := by
  have S := sc_is_target
  refine ok0 F S (fun vs H Q E h => ?_) (fun cdv A outer s H vs Q E hr h => ?_)
  · obtain ⟨a, z, rfl, _⟩ := h
    rfl
  · obtain ⟨a, z, rfl, ha, hz, hw, q⟩ := h
    refine ⟨_, (pss_cons (ps_if (PW.pt (pw_or (pt_not (pt_val (pe_callB call_isi (by rfl) B.isinstance (by decide +kernel) (pa_cons (pv 0) (pa_cons (pe_bltn (v := .ty "tuple") (by rfl) B.tuple (by decide +kernel) rfl) pa_nil))))) (pw_or1 (pt_cmpR op_ne (pe_callB call_len (by rfl) B.len (by decide +kernel) (pa_cons (pv 0) pa_nil)) pe_int (nomark _))))) (pss_one (ps_ret pe_bl)) pss_nil)
      (pss_one (ps_ret (pe_and (pe_c c1 hr (by decide) (by rfl) (E := E0) pass0 (pa_cons (pe_ix ix_tup (pv 0) pe_int (fun _ _ => rfl)) pa_nil)) (pe_one (pe_c c2 hr (by decide) (by rfl) (E := E0) pass0 (pa_cons (pe_ix ix_tup (pv 0) pe_int (fun _ _ => rfl)) (pa_cons pe_int (pa_cons (pe_op op_sub (C8.pe_gc (by rfl) gW) pe_int) pa_nil))))))))), ?_⟩
    have k1 := kt.kit (.type "tuple") (by simp [TYS]) (.type "tuple") (by simp [CLS])
    refine ⟨_, rfl, _, .ty "tuple", .type "tuple", _, _, rfl, .ty "tuple", .base (TyOf.tup ha), k1, _, rfl, iteF' (by decide +kernel) ?_⟩
    refine ⟨_, rfl, _, 2, rfl, .inr ⟨_, SqT.of ha, rfl⟩, rfl, _, rfl, iteF' (by decide +kernel) ?_⟩
    refine ⟨_, rfl, a, _, 0, .str z, rfl, rfl, SqT.of ha, atI_nat (j := 0) rfl, ?_⟩
    refine ⟨.str z, rfl, True.intro, hz, fun H1 sm1 => ⟨_, rfl, ?_⟩⟩
    rw [show isW (.str z) = true from hw]
    refine iteT' rfl ?_
    refine ⟨_, rfl, a, _, 1, .int 0, rfl, rfl, SqT.of (sm1 _ _ ha), atI_nat (j := 1) rfl, ?_⟩
    exact ⟨_, _, rfl, rfl, .int 0, 0, _, rfl, True.intro, q _ sm1⟩
def spKey (T : Cls3) : Sp := fun vs H Q _ => ∃ m ls a c, vs = [.ref m, .ref a] ∧ IsMarks T H m ls ∧ H a = some (.tup [.int 0, .str ⟨#[c]⟩, .int 0]) ∧ c ∈ ls.cps.toList ∧ Q (.bl true) H
theorem ok_is_key (cf : CF K T) {f : Addr} {fd : FuncData} (F : FnP K "is_key" "is_key" s_is_key f fd) (B : BN mg) (gW : ∃ u, mg "MAX_WRITER" = some u ∧ RelV (.int 1000) u) (c2 : Cal P w K mg base CX0 2 "is_between" (spBtw K)) : FnOk P w K mg base CX0 3 f fd ["marks", "value"] (spKey T) := by
  have S := sc_is_key
  refine ok0 F S (fun vs H Q E h => ?_) (fun cdv A outer s H vs Q E hr h => ?_)
  · obtain ⟨m, ls, a, c, rfl, _⟩ := h
    rfl
  · obtain ⟨m, ls, a, c, rfl, hm, ha, hc, q⟩ := h
    refine ⟨_, (pss_cons (ps_if (PW.pt (pw_or (pt_not (pt_val (pe_callB call_isi (by rfl) B.isinstance (by decide +kernel) (pa_cons (pv 1) (pa_cons (pe_bltn (v := .ty "tuple") (by rfl) B.tuple (by decide +kernel) rfl) pa_nil))))) (pw_or (pt_cmpR op_ne (pe_callB call_len (by rfl) B.len (by decide +kernel) (pa_cons (pv 1) pa_nil)) pe_int (nomark _)) (pw_or1 (pt_not (pt_val (pe_c c2 hr (by decide) (by rfl) (E := E0) pass0 (pa_cons (pe_ix ix_tup (pv 1) pe_int (fun _ _ => rfl)) (pa_cons pe_int (pa_cons (pe_op op_sub (C8.pe_gc (by rfl) gW) pe_int) pa_nil)))))))))) (pss_one (ps_ret pe_bl)) pss_nil)
      (pss_cons (ps_if (PW.pt (pw_or (pt_not (pt_val (pe_callB call_isi (by rfl) B.isinstance (by decide +kernel) (pa_cons (pe_ix ix_tup (pv 1) pe_int (fun _ _ => rfl)) (pa_cons (pe_bltn (v := .ty "str") (by rfl) B.str (by decide +kernel) rfl) pa_nil))))) (pw_or (pt_cmpR op_ne (pe_callB call_len (by rfl) B.len (by decide +kernel) (pa_cons (pe_ix ix_tup (pv 1) pe_int (fun _ _ => rfl)) pa_nil)) pe_int (nomark _)) (pw_or1 (pt_cmpR op_notIn_sign (pe_ix ix_tup (pv 1) pe_int (fun _ _ => rfl)) (pe_fldK (K := K) rfl (pv 0) rfl) rfl))))) (pss_one (ps_ret pe_bl)) pss_nil)
      (pss_one (ps_ret (pe_c c2 hr (by decide) (by rfl) (E := E0) pass0 (pa_cons (pe_ix ix_tup (pv 1) pe_int (fun _ _ => rfl)) (pa_cons pe_int (pa_cons (pe_op op_sub (pe_fldK (K := K) rfl (pv 0) rfl) pe_int) pa_nil)))))))), ?_⟩
    have k1 := cf.kits.kit (.type "tuple") (by simp [TYS]) (.type "tuple") (by simp [CLS])
    have k2 := cf.kits.kit (.type "str") (by simp [TYS]) (.type "str") (by simp [CLS])
    obtain ⟨dx, sd, g, nl, h1, h2, h3, h4⟩ := hm
    refine ⟨_, rfl, _, .ty "tuple", .type "tuple", _, _, rfl, .ty "tuple", .base (TyOf.tup ha), k1, _, rfl, iteF' (by decide +kernel) ?_⟩
    refine ⟨_, rfl, _, 3, rfl, .inr ⟨_, SqT.of ha, rfl⟩, rfl, _, rfl, iteF' (by decide +kernel) ?_⟩
    refine ⟨_, rfl, a, _, 0, .int 0, rfl, rfl, SqT.of ha, atI_nat (j := 0) rfl, ?_⟩
    refine ⟨_, _, rfl, rfl, .int 0, 0, _, rfl, True.intro, _, rfl, iteF' (by decide +kernel) ?_⟩
    refine ⟨_, rfl, a, _, 1, .str ⟨#[c]⟩, rfl, rfl, SqT.of ha, atI_nat (j := 1) rfl, ?_⟩
    refine ⟨_, .ty "str", .type "str", _, _, rfl, .ty "str", .base (TyOf.str _), k2, _, rfl, iteF' (by decide +kernel) ?_⟩
    refine ⟨_, rfl, a, _, 1, .str ⟨#[c]⟩, rfl, rfl, SqT.of ha, atI_nat (j := 1) rfl, ?_⟩
    refine ⟨_, 1, rfl, ⟨by show (1 : Nat) ≤ sizeLine; decide, rfl⟩, rfl, _, rfl, iteF' rfl ?_⟩
    refine ⟨_, rfl, a, _, 1, .str ⟨#[c]⟩, rfl, rfl, SqT.of ha, atI_nat (j := 1) rfl, ?_⟩
    refine ⟨_, rfl, m, T.m, dx, _, _, rfl, h1, cf.im.cl, cf.nm _ (by decide +kernel), rfl, c, ls, rfl, rfl, _, rfl, iteF' (by simp [hc]) ?_⟩
    refine ⟨_, rfl, a, _, 2, .int 0, rfl, rfl, SqT.of ha, atI_nat (j := 2) rfl, ?_⟩
    exact ⟨_, rfl, m, T.m, dx, _, _, rfl, h1, cf.im.cl, cf.nm _ (by decide +kernel), rfl, _, _, rfl, rfl, .int 0, 0, _, rfl, True.intro, q⟩
end
end K67
end
section
set_option Elab.async false
set_option linter.all false
set_option maxRecDepth 100000
set_option maxHeartbeats 4000000
namespace K67
open PySem PySem.Spec PyProof.Rows L2
/-! ### dict comprehensions over a Walk -/
theorem dcT_it {J : It} {n : Nat} {G : Hp → Prop} {Y : Nat → Hp → V → Hp → Prop} (w : Walk J n G Y) {g : TG} {tt : TT} {tk tv : TE} {vs : List Nat} {σ : L2.St} {H1 : Hp} {D : Addr} {Qd : Hp → Prop} (Pv : Nat → Hp → Prop) (h0 : Pv 0 (upd H1 D (.dT []))) (hG : ∀ i H, i ≤ n → Pv i H → G H)
    (hs : ∀ i x H H', i < n → Pv i H → Y i H x H' → g x (wipe σ vs) H' fun σ2 H2 => wipe σ2 vs = wipe σ vs ∧ tt σ2 H2 fun b H3 =>
      if b = true then tk σ2 H3 fun y H4 => tv σ2 H4 fun z H5 => ∃ H6, DPutT H5 D y z H6 ∧ Pv (i + 1) H6 else Pv (i + 1) H3) (hd : ∀ H, Pv n H → Qd H) :
    ∃ W : Nat → Nat → Hp → Prop, (∃ m, W 0 m (upd H1 D (.dT []))) ∧ ∀ i m H, W i m H →
      (J.stop i H ∧ Qd H) ∨ (J.go i H ∧ ∃ Nx : Hp → Prop, (∀ H', Nx H' → ∃ m', m' < m ∧ W (i + 1) m' H') ∧ ∀ x H', J.yld i H x H' → g x (wipe σ vs) H' fun σ2 H2 => wipe σ2 vs = wipe σ vs ∧ tt σ2 H2 fun b H3 =>
        if b = true then tk σ2 H3 fun y H4 => tv σ2 H4 fun z H5 => ∃ H6, DPutT H5 D y z H6 ∧ Nx H6 else Nx H3) := by
  refine ⟨fun i m H => m = n - i ∧ i ≤ n ∧ Pv i H, ⟨n, by simp, Nat.zero_le _, h0⟩, ?_⟩
  rintro i m H ⟨rfl, hi, p⟩
  have q := hG i H hi p
  by_cases hlt : i < n
  · exact .inr ⟨w.goes i H hlt q, Pv (i + 1), fun H' p' => ⟨n - (i + 1), by omega, rfl, hlt, p'⟩, fun x H' y => hs i x H H' hlt p (w.yields i H x H' hlt q y)⟩
  · have e : i = n := by omega
    subst e
    exact .inl ⟨w.stops H q, hd H p⟩
theorem dcK_it {J : It} {n : Nat} {G : Hp → Prop} {Y : Nat → Hp → V → Hp → Prop} (w : Walk J n G Y) {g : TG} {tt : TT} {tk tv : TE} {vs : List Nat} {σ : L2.St} {H1 : Hp} {D : Addr} {Qd : Hp → Prop} (Pv : Nat → Hp → Prop) (h0 : Pv 0 (upd H1 D (.dK []))) (hG : ∀ i H, i ≤ n → Pv i H → G H)
    (hs : ∀ i x H H', i < n → Pv i H → Y i H x H' → g x (wipe σ vs) H' fun σ2 H2 => wipe σ2 vs = wipe σ vs ∧ tt σ2 H2 fun b H3 =>
      if b = true then tk σ2 H3 fun y H4 => tv σ2 H4 fun z H5 => ∃ kvs k, y = kV k ∧ H5 D = some (.dK kvs) ∧ kvs.length < sizeLine ∧ Pv (i + 1) (upd H5 D (.dK (putK kvs k z))) else Pv (i + 1) H3) (hd : ∀ H, Pv n H → Qd H) :
    ∃ W : Nat → Nat → Hp → Prop, (∃ m, W 0 m (upd H1 D (.dK []))) ∧ ∀ i m H, W i m H →
      (J.stop i H ∧ Qd H) ∨ (J.go i H ∧ ∃ Nx : Hp → Prop, (∀ H', Nx H' → ∃ m', m' < m ∧ W (i + 1) m' H') ∧ ∀ x H', J.yld i H x H' → g x (wipe σ vs) H' fun σ2 H2 => wipe σ2 vs = wipe σ vs ∧ tt σ2 H2 fun b H3 =>
        if b = true then tk σ2 H3 fun y H4 => tv σ2 H4 fun z H5 => ∃ kvs k, y = kV k ∧ H5 D = some (.dK kvs) ∧ kvs.length < sizeLine ∧ Nx (upd H5 D (.dK (putK kvs k z))) else Nx H3) := by
  refine ⟨fun i m H => m = n - i ∧ i ≤ n ∧ Pv i H, ⟨n, by simp, Nat.zero_le _, h0⟩, ?_⟩
  rintro i m H ⟨rfl, hi, p⟩
  have q := hG i H hi p
  by_cases hlt : i < n
  · exact .inr ⟨w.goes i H hlt q, Pv (i + 1), fun H' p' => ⟨n - (i + 1), by omega, rfl, hlt, p'⟩, fun x H' y => hs i x H H' hlt p (w.yields i H x H' hlt q y)⟩
  · have e : i = n := by omega
    subst e
    exact .inl ⟨w.stops H q, hd H p⟩
theorem walk_valuesT {d : Addr} {o : Obj} {kvs : List (List Key × V)} : Walk (ItdT d o kvs) kvs.length (fun H => H d = some (.frz o (.dT kvs))) (fun i H x H' => H' = H ∧ ∃ k, kvs[i]? = some (k, x)) :=
  ⟨fun _ _ hi q => ⟨q, hi⟩, fun _ q => ⟨q, Nat.le_refl _⟩, fun _ _ _ _ _ _ y => y⟩
theorem walk_zipT0 {K : PySem.W.Frag} {a b : Addr} {xs : List V} {Y : Nat → Hp → V → Hp → Prop} : Walk (RZ.ItzT K a b) 0 (fun H => SqT K H a xs ∧ SqT K H b []) Y :=
  ⟨fun _ _ hi _ => absurd hi (Nat.not_lt_zero _), fun H h => ⟨xs, [], h.1, h.2, .inr (Nat.le_refl _)⟩, fun _ _ _ _ hi _ _ => absurd hi (Nat.not_lt_zero _)⟩
section
variable {P : Program} {w : World} {K : PySem.W.Frag} {mg : Str → Option Value} {base : Heap} {T : Cls3}
/-! ### met_order of marks of one mark -/
def spMetOrd : Sp := fun vs H Q _ => ∃ d ls, vs = [.str ls, .ref d] ∧ H d = some (.dT (mkS ls)) ∧ ls.length ≤ 1000 ∧ ∀ H' p, Same H H' → H p = none → H' p = some (.lst [.int 0]) → Q (.ref p) H'
theorem ok_met_order_marks {f : Addr} {fd : FuncData} (F : FnP K "met_order" "met_order" s_met_order_marks f fd) (B : BN mg) : FnOk P w K mg base CX0 1 f fd ["letters", "steps"] spMetOrd := by
  have S := sc_met_order_marks
  refine ok0 F S (fun vs H Q E h => ?_) (fun cdv A outer s H vs Q E hr h => ?_)
  · obtain ⟨d, ls, rfl, _⟩ := h
    rfl
  · obtain ⟨d, ls, rfl, hd, hz, q⟩ := h
    refine ⟨_, (pss_cons (ps_par (i := 2) (j := 3) rfl S.nd rfl rfl (by decide) rfl rfl (pa_cons (pe_lst (pa_cons pe_int pa_nil)) (pa_cons (pe_disp (pps_cons pe_int pe_bl pps_nil) rfl rfl (by simp) (by decide)) pa_nil)) (by rfl))
      (pss_cons (ps_set (i := 4) S.nd rfl (.inl rfl) pe_int)
      (pss_cons (ps_while PassesOwn.never (pt_cmpR op_lt (pv 4) (pe_callB call_len (by rfl) B.len (by decide +kernel) (pa_cons (pv 2) pa_nil)) (nomark _)) (pss_cons (ps_for PassesOwn.never rfl (pi_str (pv 0)) (pg_name (i := 5) S.nd rfl (Or.inl rfl)) (pss_cons (ps_set (i := 6) S.nd rfl (.inl rfl) (pe_dget (hu_of hr) (pv 1) (pe_tup (pa_cons (pv 5) (pa_cons (pe_ix ix_list (pv 2) (pv 4) (fun _ _ => rfl)) pa_nil))) (fun _ _ => rfl)))
      (pss_one (ps_if (pt_cmp (pc_dnotin (hu_of hr) (pv 6) (pv 3))) (pss_cons (ps_asg pe_bl (pg_sub (pv 3) (pv 6) set_list))
      (pss_one (ps_expr (pe_bm PySem.F.plainAttrs_list PySem.F.slot_list_append PySem.F.type_list_append mt_append (pv 2) (pa_cons (pv 6) pa_nil))))) pss_nil))))
      (pss_one (ps_aug (i := 4) S.nd rfl (.inl rfl) pe_int ip_add))))
      (pss_one (ps_ret (pv 2)))))), ?_⟩
    refine ⟨by show 1 ≤ sizeLine; decide, fun l hl => ?_⟩
    intro kd hkd
    refine ⟨upd_same, [(.inl 0, .bl true)], rfl, by decide, ?_⟩
    have nlk : l ≠ kd := ne_of_none (upd_same (H := H) (a := l)) hkd
    rw [upd_upd]
    refine ⟨_, _, rfl, ?_⟩
    generalize hHk : upd (upd H l (.lst [.int 0])) kd (.dK (mergeK [] [(.inl 0, .bl true)])) = Hk
    have sk : Same H Hk := by
      rw [← hHk]
      exact (same_upd hl).trans (same_upd hkd)
    have hlk : Hk l = some (.lst [.int 0]) := by rw [← hHk, upd_ne nlk, upd_same]
    have hkk : Hk kd = some (.dK [(.inl 0, .bl true)]) := by
      rw [← hHk, upd_same]
      rfl
    refine ⟨fun m σ H' => ∃ i x5 x6, m = 1 - i ∧ i ≤ 1 ∧ Same Hk H' ∧ σ = [some (.str ls), some (.ref d), some (.ref l), some (.ref kd), some (.int (i : Nat)), x5, x6], ⟨1, 0, none, none, rfl, by decide, .refl _, rfl⟩, ?_⟩
    rintro m σ H1 ⟨i, x5, x6, rfl, hi, sm, rfl⟩
    have hl1 := sm _ _ hlk
    refine ⟨_, rfl, _, rfl, _, 1, rfl, .inl ⟨_, SqL.of hl1, rfl⟩, _, _, rfl, rfl, _, rfl, ?_⟩
    rcases Nat.lt_or_ge i 1 with h | h
    · have ei : i = 0 := by omega
      subst ei
      refine iteT' rfl ⟨fun σ H' => ∃ x5 x6, Same Hk H' ∧ σ = [some (.str ls), some (.ref d), some (.ref l), some (.ref kd), some (.int 1), x5, x6], ?_, ?_⟩
      · rintro σ' H' ⟨y5, y6, sm', rfl⟩
        exact ⟨0, by omega, 1, y5, y6, rfl, Nat.le_refl _, sm', rfl⟩
      refine ⟨_, rfl, ls, rfl, ?_⟩
      refine for_it walk_str (fun j σ H' => Same Hk H' ∧ ∃ y5 y6, σ = [some (.str ls), some (.ref d), some (.ref l), some (.ref kd), some (.int 0), y5, y6]) ⟨sm, x5, x6, rfl⟩ (fun _ _ _ _ _ => True.intro) ?_ ?_
      · rintro j x σ H2 H3 hj ⟨sm2, y5, y6, rfl⟩ ⟨rfl, c, hc, rfl⟩
        have hmem : c ∈ ls.cps.toList := List.mem_of_getElem? (cps_get hc)
        have hl2 := sm2 _ _ hlk
        refine ⟨_, rfl, _, rfl, _, rfl, _, rfl, l, _, 0, .int 0, rfl, rfl, SqL.of hl2, atI_nat (j := 0) rfl, by show 2 ≤ sizeLine; decide, fun t ht => ?_⟩
        refine ⟨d, .int 0, rfl, ?_, ?_⟩
        · rw [← mkS_get hmem]
          exact DGet.t (by rw [upd_ne (ne_of_none (sm2 _ _ (sk _ _ hd)) ht)]; exact sm2 _ _ (sk _ _ hd)) upd_same
        have sm3 := sm2.trans (same_upd (o := .tup [.str ⟨#[c]⟩, .int 0]) ht)
        refine ⟨_, rfl, _, rfl, kd, _, rfl, DGet.k (k := Sum.inl 0) (sm3 _ _ hkk), _, rfl, ?_⟩
        refine iteF' rfl ?_
        exact ⟨sm3, _, _, rfl⟩
      · rintro σ H2 ⟨sm2, y5, y6, rfl⟩
        exact ⟨_, rfl, _, _, rfl, rfl, _, _, sm2, rfl⟩
    · have ei : i = 1 := by omega
      subst ei
      refine iteF' rfl ⟨_, rfl, q _ _ (sk.trans sm) hl hl1⟩
/-! ### are_good, of one mark -/
def spGood : Sp := fun vs H Q _ => ∃ g, vs = [.int 1, .ref g] ∧ H g = some (.tup [.int 0]) ∧ ∀ H', Same H H' → Q (.bl true) H'
theorem ok_are_good (kt : Kits K T) {f : Addr} {fd : FuncData} (F : FnP K "are_good" "are_good" s_are_good f fd) (B : BN mg) (c1 : Cal P w K mg base CX0 3 "is_mark_number" (spMarkNo K)) : FnOk P w K mg base CX0 4 f fd ["total", "value"] spGood := by
  have S := sc_are_good
  refine ok0 F S (fun vs H Q E h => ?_) (fun cdv A outer s H vs Q E hr h => ?_)
  · obtain ⟨g, rfl, _⟩ := h
    rfl
  · obtain ⟨g, rfl, hg, q⟩ := h
    refine ⟨_, (pss_cons (ps_if (PW.pt (pw_or (pt_not (pt_val (pe_callB call_isi (by rfl) B.isinstance (by decide +kernel) (pa_cons (pv 1) (pa_cons (pe_bltn (v := .ty "tuple") (by rfl) B.tuple (by decide +kernel) rfl) pa_nil))))) (pw_or1 (pt_not (pt_val (pe_callB (cr_all rfl) (by rfl) B.all (by decide +kernel) (pa_cons (pe_lc (own := [("mark", 2)]) (g := gName 2) (tt := tYes) rfl S.nd (pi_tup (pv 1)) (blkOk_by (N := ["total", "value", "mark", "one", "two"]) (sc := defScope s_are_good) (by decide +kernel)) (fun _ _ _ _ _ => (pg_name (i := 2) S.nd rfl (Or.inl rfl))) (fun _ _ _ _ _ => pts_nil) (fun _ _ _ _ _ => (pe_c c1 hr (by decide) (by rfl) (E := E0) pass0 (pa_cons (pv 2) (pa_cons (pv 0) pa_nil))))) pa_nil))))))) (pss_one (ps_ret pe_bl)) pss_nil)
      (pss_one (ps_ret (pe_callB (cr_all rfl) (by rfl) B.all (by decide +kernel) (pa_cons (pe_lc (own := [("one", 3), ("two", 4)]) (g := gTup K 2 (gCons (gName 3) (gCons (gName 4) gNil))) (tt := tYes) rfl S.nd (RZ.pi_zipA (by rfl) B.zip (pa_cons (pv 1) (pa_cons (pe_slice sl_tupA (pv 1) (po_some pe_int) po_none) pa_nil))) (blkOk_by (N := ["total", "value", "mark", "one", "two"]) (sc := defScope s_are_good) (by decide +kernel)) (fun _ _ _ _ _ => (pg_tup rfl (pgs_cons (pg_name (i := 3) S.nd rfl (Or.inl rfl)) (pgs_cons (pg_name (i := 4) S.nd rfl (Or.inl rfl)) pgs_nil)))) (fun _ _ _ _ _ => pts_nil) (fun _ _ _ _ _ => (pe_cmpR op_lt (pv 3) (pv 4) (nomark _)))) pa_nil))))), ?_⟩
    have k1 := kt.kit (.type "tuple") (by simp [TYS]) (.type "tuple") (by simp [CLS])
    refine ⟨_, rfl, _, .ty "tuple", .type "tuple", _, _, rfl, .ty "tuple", .base (TyOf.tup hg), k1, _, rfl, iteF' (by decide +kernel) ?_⟩
    refine ⟨_, rfl, g, rfl, ⟨_, SqT.of hg⟩, fun D hD => ?_⟩
    refine lc_gen2 (walk_tup (xs := [V.int 0])) [V.bl true] rfl (by decide) hD (fun H1 sm => SqT.of (sm _ _ hg)) ?_ ?_
    · rintro i x H1 H2 K1 hi sm hD2 ⟨rfl, hx⟩ k
      have ei : i = 0 := by simpa using hi
      subst ei
      obtain rfl : V.int 0 = x := Option.some.inj hx
      exact ⟨rfl, _, rfl, _, rfl, .int 0, 1, rfl, True.intro, k _ _ rfl rfl sm⟩
    · intro H1 sm hl1
      refine ⟨D, [true], rfl, SqL.of hl1, _, rfl, iteF' rfl ?_⟩
      have hg1 := sm _ _ hg
      refine ⟨_, rfl, _, rfl, _, rfl, g, _, rfl, SqT.of hg1, fun z => absurd z.1 (by decide), fun _ p hp => ?_⟩
      have hp2 : upd H1 p (.tup (cutV [V.int 0] (some 1) none)) p = some (.tup []) := upd_same
      have hg2 : upd H1 p (.tup (cutV [V.int 0] (some 1) none)) g = some (.tup [.int 0]) := by rw [upd_ne (ne_of_none hg1 hp)]; exact hg1
      refine ⟨g, p, _, _, rfl, .inr ⟨SqT.of hg2, SqT.of hp2, fun D2 hD2 => ?_⟩⟩
      refine lc_gen2 (walk_zipT0 (K := K) (Y := fun _ _ _ _ => True)) [] rfl (by decide) hD2 (fun H1 sm => ⟨SqT.of (sm _ _ hg2), SqT.of (sm _ _ hp2)⟩) (fun i _ _ _ _ hi => absurd hi (Nat.not_lt_zero _)) (fun H3 sm3 hl3 => ?_)
      exact ⟨D2, [], rfl, SqL.of hl3, q _ ((sm.trans (same_upd hp)).trans sm3)⟩
theorem op_eqLen' {X : Cx} (hu : X.A.units + 64 < cLine) : OpR X (compareOp .Eq) rEqLen := op_eqLen (by omega)
/-! ### are_steps, of one mark -/
theorem mkS_len (ls : Str) : (mkS ls).length = ls.length := by
  unfold mkS
  rw [List.length_map, Array.length_toList]
  rfl
theorem mkS_at {ls : Str} {i : Nat} {k : List Key} {v : V} (h : (mkS ls)[i]? = some (k, v)) : ∃ c, c ∈ ls.cps.toList ∧ k = [.inr ⟨#[c]⟩, .inl 0] ∧ v = .int 0 := by
  unfold mkS at h
  rw [List.getElem?_map] at h
  obtain ⟨c, hc, e⟩ := Option.map_eq_some_iff.mp h
  cases e
  exact ⟨c, List.mem_of_getElem? hc, rfl, rfl⟩
def spAreSteps : Sp := fun vs H Q _ => ∃ d ls, vs = [.str ls, .ref d] ∧ H d = some (.dT (mkS ls)) ∧ 1 ≤ ls.length ∧ ls.length ≤ 200 ∧ ∀ H', Same H H' → Q (.bl true) H'
theorem ok_are_steps (kt : Kits K T) {f : Addr} {fd : FuncData} (F : FnP K "are_steps" "are_steps" s_are_steps f fd) (B : BN mg) (gM : ∃ u, mg "MAX_MARKS" = some u ∧ RelV (.int 256) u) (c1 : Cal P w K mg base CX0 4 "is_step_key" spStepKey) (c2 : Cal P w K mg base CX0 3 "is_mark_number" (spMarkNo K)) (c3 : Cal P w K mg base CX0 1 "met_order_marks" spMetOrd) : FnOk P w K mg base CX0 5 f fd ["letters", "steps"] spAreSteps := by
  have S := sc_are_steps
  refine ok0 F S (fun vs H Q E h => ?_) (fun cdv A outer s H vs Q E hr h => ?_)
  · obtain ⟨d, ls, rfl, _⟩ := h
    rfl
  · obtain ⟨d, ls, rfl, hd, hz1, hz2, q⟩ := h
    refine ⟨_, (pss_cons (ps_if (PW.pt (pw_or (pt_not (pt_val (pe_callB call_isi (by rfl) B.isinstance (by decide +kernel) (pa_cons (pv 1) (pa_cons (pe_bltn (v := .ty "dict") (by rfl) B.dict (by decide +kernel) rfl) pa_nil))))) (pw_or (pt_cmpR (op_eqLen' (hu_of' hr)) (pv 1) pe_dnewT (nomark _)) (pw_or1 (pt_cmpR op_ne (pe_op op_mod (pe_callB L2.call_len_dT (by rfl) B.len (by decide +kernel) (pa_cons (pv 1) pa_nil)) (pe_callB call_len (by rfl) B.len (by decide +kernel) (pa_cons (pv 0) pa_nil))) pe_int (nomark _)))))) (pss_one (ps_ret pe_bl)) pss_nil)
      (pss_cons (ps_set (i := 2) S.nd rfl (.inr rfl) (pe_op op_fdiv (pe_callB L2.call_len_dT (by rfl) B.len (by decide +kernel) (pa_cons (pv 1) pa_nil)) (pe_callB call_len (by rfl) B.len (by decide +kernel) (pa_cons (pv 0) pa_nil))))
      (pss_cons (ps_if (PW.pt (pw_or (pt_cmpR op_gt (pv 2) (C8.pe_gc (by rfl) gM) (nomark _)) (pw_or1 (pt_not (pt_val (pe_lock (pe_callB (cr_all rfl) (by rfl) B.all (by decide +kernel) (pa_cons (pe_lc (own := [("key", 3)]) (g := gName 3) (tt := tYes) rfl S.nd (pi_keys (pv 1)) (blkOk_by (N := ["letters", "steps", "total", "key", "mark"]) (sc := defScope s_are_steps) (by decide +kernel)) (fun _ _ _ _ _ => (pg_name (i := 3) S.nd rfl (Or.inl rfl))) (fun _ _ _ _ _ => pts_nil) (fun _ _ _ _ _ => (pe_c c1 hr (by decide) (by rfl) (E := E0) pass0 (pa_cons (pv 0) (pa_cons (pv 2) (pa_cons (pv 3) pa_nil)))))) pa_nil)))))))) (pss_one (ps_ret pe_bl)) pss_nil)
      (pss_cons (ps_if (pt_not (pt_val (pe_lock (pe_callB (cr_all rfl) (by rfl) B.all (by decide +kernel) (pa_cons (pe_lc (own := [("mark", 4)]) (g := gName 4) (tt := tYes) rfl S.nd (pi_valuesT (pv 1)) (blkOk_by (N := ["letters", "steps", "total", "key", "mark"]) (sc := defScope s_are_steps) (by decide +kernel)) (fun _ _ _ _ _ => (pg_name (i := 4) S.nd rfl (Or.inl rfl))) (fun _ _ _ _ _ => pts_nil) (fun _ _ _ _ _ => (pe_c c2 hr (by decide) (by rfl) (E := E0) pass0 (pa_cons (pv 4) (pa_cons (pv 2) pa_nil))))) pa_nil))))) (pss_one (ps_ret pe_bl)) pss_nil)
      (pss_one (ps_ret (pe_cmpR op_eq (pe_callB call_len (by rfl) B.len (by decide +kernel) (pa_cons (pe_c c3 hr (by decide) (by rfl) (E := E0) pass0 (pa_cons (pv 0) (pa_cons (pv 1) pa_nil))) pa_nil)) (pv 2) (nomark _)))))))), ?_⟩
    have k1 := kt.kit (.type "dict") (by simp [TYS]) (.type "dict") (by simp [CLS])
    refine ⟨_, rfl, _, .ty "dict", .type "dict", _, _, rfl, .ty "dict", .base (TyOf.dT hd), k1, _, rfl, iteF' (by decide +kernel) ?_⟩
    refine ⟨_, rfl, fun e he => ?_⟩
    have hd1 : upd H e (.dT []) d = some (.dT (mkS ls)) := by rw [upd_ne (ne_of_none hd he)]; exact hd
    refine ⟨d, e, _, _, rfl, rfl, hd1, upd_same, by rw [mkS_len]; simp; omega, _, rfl, iteF' rfl ?_⟩
    have s1 : Same H (upd H e (.dT [])) := same_upd he
    generalize upd H e (.dT []) = H1 at s1 hd1
    have len := mkS_len ls
    have hz : ls.length ≤ sizeLine := sz60 (by omega)
    have em : ((mkS ls).length : Int) % (ls.length : Int) = 0 := by rw [len]; exact Int.emod_self
    have ed : ((mkS ls).length : Int) / (ls.length : Int) = 1 := by rw [len]; exact Int.ediv_self (by omega)
    have bt : ∀ n : Nat, ((List.replicate n true).map V.bl) = List.replicate n (V.bl true) := fun n => by rw [List.map_replicate]
    have al : ∀ n : Nat, (List.replicate n true).all id = true := fun n => by simp
    refine ⟨_, rfl, d, _, rfl, hd1, _, rfl, _, ls.length, rfl, ⟨hz, rfl⟩, _, _, rfl, rfl, by show (0 : Int) < _; omega, ?_⟩
    dsimp only
    rw [em]
    refine ⟨rfl, _, rfl, iteF' rfl ?_⟩
    refine ⟨_, rfl, d, _, rfl, hd1, _, rfl, _, ls.length, rfl, ⟨hz, rfl⟩, _, _, rfl, rfl, ⟨by omega, by omega⟩, ?_⟩
    dsimp only
    rw [ed]
    refine ⟨_, rfl, 1, 256, rfl, rfl, _, rfl, iteF' rfl ?_⟩
    refine ⟨d, .dT (mkS ls), hd1, True.intro, fun od => ?_⟩
    refine ⟨_, rfl, d, od, rfl, .inr ⟨_, upd_same, fun D hD => ?_⟩⟩
    refine lc_gen2 walk_keysT ((List.replicate (mkS ls).length true).map V.bl) (by simp) (by rw [len]; exact hz) hD (fun H2 sm => sm _ _ upd_same) ?_ ?_
    · rintro i x H2 H3 K1 hi sm ⟨o, hD2⟩ ⟨rfl, kk, v, qa, hk, rfl, hqa⟩ k
      obtain ⟨c, hc, rfl, rfl⟩ := mkS_at hk
      refine ⟨rfl, _, rfl, _, rfl, _, rfl, qa, ls, c, rfl, hqa, hc, k _ _ ?_ rfl sm⟩
      rw [bt, List.getElem?_replicate, if_pos hi]
    · intro H2 sm hl2
      refine ⟨D, _, rfl, SqL.of hl2, same_lock sm, _, rfl, ?_⟩
      rw [al]
      refine iteF' rfl ?_
      have s2 := s1.trans (same_unlock hd1 sm)
      have hd2 : upd H2 d (.dT (mkS ls)) d = some (.dT (mkS ls)) := upd_same
      generalize upd H2 d (.dT (mkS ls)) = H4 at s2 hd2
      refine ⟨d, .dT (mkS ls), hd2, True.intro, fun od => ?_⟩
      refine ⟨_, rfl, d, od, _, rfl, upd_same, fun D2 hD2 => ?_⟩
      refine lc_gen2 walk_valuesT ((List.replicate (mkS ls).length true).map V.bl) (by simp) (by rw [len]; exact hz) hD2 (fun H2 sm => sm _ _ upd_same) ?_ ?_
      · rintro i x H5 H6 K1 hi sm2 ⟨o, hD3⟩ ⟨rfl, kk, hk⟩ k
        obtain ⟨c, hc, rfl, rfl⟩ := mkS_at hk
        refine ⟨rfl, _, rfl, _, rfl, .int 0, 1, rfl, True.intro, k _ _ ?_ rfl sm2⟩
        rw [bt, List.getElem?_replicate, if_pos hi]
        rfl
      · intro H5 sm2 hl5
        refine ⟨D2, _, rfl, SqL.of hl5, same_lock sm2, _, rfl, ?_⟩
        rw [al]
        refine iteF' rfl ?_
        have s3 := s2.trans (same_unlock hd2 sm2)
        have hd3 : upd H5 d (.dT (mkS ls)) d = some (.dT (mkS ls)) := upd_same
        generalize upd H5 d (.dT (mkS ls)) = H7 at s3 hd3
        refine ⟨_, rfl, _, rfl, d, ls, rfl, hd3, by omega, fun H8 p sm8 hp hp8 => ?_⟩
        refine ⟨_, 1, rfl, .inl ⟨_, SqL.of hp8, rfl⟩, _, rfl, rfl, q _ (s3.trans sm8)⟩
end
end K67
end
section
set_option Elab.async false
set_option linter.all false
set_option maxRecDepth 100000
set_option maxHeartbeats 4000000
namespace K67
open PySem PySem.Spec PyProof.Rows L2
/-- a statement, a value that is not reached -/
def tNo : TS := fun _ _ _ => False
theorem ps_no {X : Cx} {st : Stmt} : PS X st tNo := ⟨fun _ _ _ _ _ _ h => h.elim⟩
theorem putK_take {κ : Type} [DecidableEq κ] {kvs : List (κ × V)} {i : Nat} {k : κ} {v : V} (nd : (kvs.map (·.1)).Nodup) (h : kvs[i]? = some (k, v)) : putK (kvs.take i) k v = kvs.take (i + 1) := by
  have hn : valV (kvs.take i) k = none := by
    unfold valV
    rw [Option.map_eq_none_iff, List.find?_eq_none]
    intro p hp e
    have e' : p.1 = k := of_decide_eq_true e
    obtain ⟨j, hj⟩ := List.mem_iff_getElem?.mp hp
    rw [List.getElem?_take] at hj
    split at hj
    · rename_i hji
      have h1 : (kvs.map (·.1))[j]? = some k := by rw [List.getElem?_map, hj, ← e']; rfl
      have h2 : (kvs.map (·.1))[i]? = some k := by rw [List.getElem?_map, h]; rfl
      have hjl : j < (kvs.map (·.1)).length := (List.getElem?_eq_some_iff.mp h1).1
      have := (List.getElem?_inj hjl nd).mp (h1.trans h2.symm)
      omega
    · cases hj
  rw [putK_new v hn, List.take_add_one, h]
  rfl
structure LsOk (ls : Str) : Prop where
  w : wordB ls = true
  l1 : 1 ≤ ls.length
  l2 : ls.length ≤ 4
  a : ascB ls.cps.toList = true
  p : ls.cps.toList.Pairwise (· < ·)
theorem mkS_kS (ls : Str) : mkS ls = ls.cps.toList.map fun c => (kS false c, V.int 0) := rfl
theorem wS_kS (ws : List (Nat × Addr)) : wS ws = ws.map fun q => (kS true q.1, V.ref q.2) := rfl
theorem nodup_kS {b : Bool} {α : Type} {l : List α} {key : α → Nat} {val : α → V} (h : (l.map key).Pairwise (· < ·)) : ((l.map fun x => (kS b (key x), val x)).map (·.1)).Nodup := by
  rw [List.map_map]
  have e : l.map ((fun x : List Key × V => x.1) ∘ fun x => (kS b (key x), val x)) = (l.map key).map (kS b) := by rw [List.map_map]; rfl
  rw [e]
  refine List.pairwise_map.mpr (h.imp fun {x y} hxy e => ?_)
  have := kS_inj (b := b) (congrArg (List.map kV) e)
  omega
theorem keys_ps {b : Bool} {α : Type} {H : Hp} {key : α → Nat} {val : α → V} : ∀ {l : List α} {bs : List Addr}, IsKeys H (l.map fun x => (kS b (key x), val x)) bs →
    ∃ ps : List (Nat × Addr), ps.map (·.1) = l.map key ∧ bs = ps.map (·.2) ∧ ∀ q ∈ ps, H q.2 = some (.tup ((kS b q.1).map kV))
  | [], bs, h => by
    rw [List.map_nil] at h
    cases h
    exact ⟨[], rfl, rfl, fun q hq => by cases hq⟩
  | x :: l, bs, h => by
    rw [List.map_cons] at h
    cases h with
    | @cons _ a _ bs' h1 h2 =>
      obtain ⟨ps, e1, e2, e3⟩ := keys_ps (l := l) h2
      refine ⟨(key x, a) :: ps, by rw [List.map_cons, List.map_cons, e1], by rw [List.map_cons, e2], fun q hq => ?_⟩
      rcases List.mem_cons.mp hq with rfl | hq
      · exact h1
      · exact e3 q hq
section
variable {X : Cx}
theorem pe_dcT' {kx vx tg iter : Expr} {ifs : List Expr} {scope : Scope} {own : List (Str × Nat)} {pos : Pos} {wi : TI} {g : TG} {tt : TT} {tk tv : TE} (hu : X.A.units + 64 < cLine) (hc : X.calm = true) (hN : X.N.Nodup) (hi : PI X tg iter wi) (ok : BlkOk X.N X.env.scope scope own)
    (hg : ∀ (s : Shared) (H : Hp) (C : Addr) (cl : List (Str × Addr)) (fp : List Addr), PG (X.blk s H scope (compEnvC scope cl C X.env) fp) tg g) (ht : ∀ (s : Shared) (H : Hp) (C : Addr) (cl : List (Str × Addr)) (fp : List Addr), PTs (X.blk s H scope (compEnvC scope cl C X.env) fp) ifs tt)
    (hk : ∀ (s : Shared) (H : Hp) (C : Addr) (cl : List (Str × Addr)) (fp : List Addr), PE (X.blk s H scope (compEnvC scope cl C X.env) fp) kx tk)
    (he : ∀ (s : Shared) (H : Hp) (C : Addr) (cl : List (Str × Addr)) (fp : List Addr), PE (X.blk s H scope (compEnvC scope cl C X.env) fp) vx tv) (hs : ∀ x, foldedSetIterable iter X.env x = pure x := by intro _; rfl) :
    PE X (.DictComp kx vx [⟨tg, iter, ifs, 0⟩] scope pos) (tDcT wi g tt tk tv (own.map (·.2))) := pe_dcT (by omega) hc hN hi ok hg ht hk he hs
end
section
variable {P : Program} {w : World} {K : PySem.W.Frag} {mg : Str → Option Value} {base : Heap} {T : Cls3}
/-! ### Marks(letters, steps, good) of one mark -/
def spMakeM (T : Cls3) : Sp := fun vs H Q _ => ∃ x dx ls d g, vs = [.ref x, .str ls, .ref d, .ref g] ∧ H x = some (.ins T.m dx []) ∧ LsOk ls ∧ H d = some (.dT (mkS ls)) ∧ H g = some (.tup [.int 0]) ∧
  ∀ H', SameE x H H' → IsMarks T H' x ls → Q .non H'
theorem ok_make_marks (cf : CF K T) {f : Addr} {fd : FuncData} (F : FnP K "__init__" "Marks.__init__" s_Marks_init f fd) (B : BN mg) (c1 : Cal P w K mg base CX0 2 "are_letters" (spLetters K)) (c2 : Cal P w K mg base CX0 5 "are_steps" spAreSteps) (c3 : Cal P w K mg base CX0 4 "are_good" spGood) :
    FnOk P w K mg base CX0 6 f fd ["self", "letters", "steps", "good"] (spMakeM T) := by
  have S := sc_Marks_init
  refine ok0 F S (fun vs H Q E h => ?_) (fun cdv A outer s H vs Q E hr h => ?_)
  · obtain ⟨x, dx, ls, d, g, rfl, _⟩ := h
    rfl
  · obtain ⟨x, dx, ls, d, g, rfl, hx, lo, hd, hg, q⟩ := h
    refine ⟨_, (pss_cons (ps_if (PW.pt (pw_or (pt_not (pt_val (pe_c c1 hr (by decide) (by rfl) (E := E0) pass0 (pa_cons (pv 1) pa_nil)))) (pw_or1 (pt_not (pt_val (pe_c c2 hr (by decide) (by rfl) (E := E0) pass0 (pa_cons (pv 1) (pa_cons (pv 2) pa_nil)))))))) (pss_one ps_no) pss_nil)
      (pss_cons (ps_if (pt_not (pt_val (pe_c c3 hr (by decide) (by rfl) (E := E0) pass0 (pa_cons (pe_op op_fdiv (pe_callB L2.call_len_dT (by rfl) B.len (by decide +kernel) (pa_cons (pv 2) pa_nil)) (pe_callB call_len (by rfl) B.len (by decide +kernel) (pa_cons (pv 1) pa_nil))) (pa_cons (pv 3) pa_nil))))) (pss_one ps_no) pss_nil)
      (pss_cons (ps_fld (pv 0) (pv 1) rfl)
      (pss_cons (ps_fld (pv 0) (pe_dcT' (own := [("key", 4)]) (g := gName 4) (tt := tYes) (hu_of' hr) rfl S.nd (pi_list (pe_callB cr_sortedKS (by rfl) B.sorted (by decide +kernel) (pa_cons (pe_callTy (call_list_dT rfl) (by rfl) B.list (by decide +kernel) (pa_cons (pv 2) pa_nil)) pa_nil))) (blkOk_by (N := ["self", "letters", "steps", "good", "key"]) (sc := defScope s_Marks_init) (by decide +kernel)) (fun _ _ _ _ _ => (pg_name (i := 4) S.nd rfl (Or.inl rfl))) (fun _ _ _ _ _ => pts_nil) (fun _ _ _ _ _ => pv 4) (fun _ _ _ _ _ => pe_dget (hu_of hr) (pv 2) (pv 4) (fun _ _ => rfl))) rfl)
      (pss_cons (ps_fld (pv 0) (pv 3) rfl)
      (pss_cons (ps_fld (pv 0) (pe_listRg rfl (by rfl) B.list (prg_1 (by rfl) B.range (pe_op op_fdiv (pe_callB L2.call_len_dT (by rfl) B.len (by decide +kernel) (pa_cons (pv 2) pa_nil)) (pe_callB call_len (by rfl) B.len (by decide +kernel) (pa_cons (pv 1) pa_nil))))) rfl)
      (pss_one (ps_fld (pv 0) (pe_callB call_len (by rfl) B.len (by decide +kernel) (pa_cons (pe_fldK (K := K) rfl (pv 0) rfl) pa_nil)) rfl)))))))), ?_⟩
    have cl := cf.im.cl
    have hz : ls.length ≤ sizeLine := sz60 (by have := lo.l2; omega)
    have len := mkS_len ls
    have h1 := lo.l1
    have h4 := lo.l2
    refine ⟨_, rfl, ls, rfl, hz, lo.w, h1, h4, lo.a, fun H1 s1 => ⟨_, rfl, iteF' rfl ?_⟩⟩
    refine ⟨_, rfl, _, rfl, d, ls, rfl, s1 _ _ hd, h1, by omega, fun H2 s2 => ⟨_, rfl, iteF' rfl ?_⟩⟩
    have s12 := s1.trans s2
    have ed : ((mkS ls).length : Int) / (ls.length : Int) = 1 := by rw [len]; exact Int.ediv_self (by omega)
    refine ⟨_, rfl, d, _, rfl, s12 _ _ hd, _, rfl, _, ls.length, rfl, ⟨hz, rfl⟩, _, _, rfl, rfl, ⟨by omega, by omega⟩, ?_⟩
    dsimp only
    rw [ed]
    refine ⟨_, rfl, g, rfl, s12 _ _ hg, fun H3 s3 => ⟨_, rfl, iteF' rfl ?_⟩⟩
    have s13 := s12.trans s3
    refine ⟨_, rfl, _, rfl, x, T.m, dx, _, rfl, s13 _ _ hx, cl, cf.nm _ (by decide +kernel), by show 0 < 1000; decide, ?_⟩
    generalize hF1 : putF "own_letters" (.str ls) [] = F1
    have sx1 : SameE x H (upd H3 x (.ins T.m dx F1)) := SameE.put (.of s13)
    have hx1 : upd H3 x (.ins T.m dx F1) x = some (.ins T.m dx F1) := upd_same
    have xd : d ≠ x := fun z => by rw [z, hx] at hd; cases hd
    have xg : g ≠ x := fun z => by rw [z, hx] at hg; cases hg
    generalize upd H3 x (.ins T.m dx F1) = H4 at sx1 hx1
    refine ⟨_, rfl, d, _, rfl, .inl (sx1 _ _ xd hd), fun p bs hp isk => ?_⟩
    rw [mkS_kS] at isk
    obtain ⟨ps, e1, rfl, e3⟩ := keys_ps (key := fun c => c) (val := fun _ => V.int 0) isk
    rw [List.map_id'] at e1
    have sp : Same H4 (upd H4 p (.lst ((ps.map (·.2)).map V.ref))) := same_upd hp
    refine ⟨p, false, ps, rfl, SqL.of (by rw [upd_same, List.map_map]; rfl), fun q hq => sp _ _ (e3 q hq), ?_, fun p2 hp2 => ?_⟩
    · refine List.pairwise_map.mp ?_
      show (ps.map (·.1)).Pairwise (· < ·)
      rw [e1]
      exact lo.p
    have sp2 := sp.trans (same_upd (o := .lst (ps.map fun q => V.ref q.2)) hp2)
    have hl2 : upd (upd H4 p (.lst ((ps.map (·.2)).map V.ref))) p2 (.lst (ps.map fun q => V.ref q.2)) p2 = some (.lst (ps.map fun q => V.ref q.2)) := upd_same
    generalize upd (upd H4 p (.lst ((ps.map (·.2)).map V.ref))) p2 (.lst (ps.map fun q => V.ref q.2)) = H6 at sp2 hl2
    refine ⟨p2, rfl, ⟨_, SqL.of hl2⟩, fun D hD => ?_⟩
    have nd : ((mkS ls).map (·.1)).Nodup := nodup_kS (b := false) (key := fun c => c) (val := fun _ => V.int 0) (by rw [List.map_id']; exact lo.p)
    have plen : ps.length = ls.length := by
      have := congrArg List.length e1
      rw [List.length_map, Array.length_toList] at this
      exact this
    refine dcT_it (walk_list (xs := ps.map fun q => V.ref q.2)) (fun i H' => Same H6 H' ∧ H' D = some (.dT ((mkS ls).take i))) ⟨same_upd hD, upd_same⟩ (fun i H' _ h => SqL.of (h.1 _ _ hl2)) ?_ ?_
    · rintro i y H7 H8 hi ⟨sm, hDi⟩ ⟨rfl, hy⟩
      rw [List.getElem?_map] at hy
      obtain ⟨q0, hq0, rfl⟩ := Option.map_eq_some_iff.mp hy
      have hqm := List.mem_of_getElem? hq0
      have hc : ls.cps.toList[i]? = some q0.1 := by
        rw [← e1, List.getElem?_map, hq0]
        rfl
      have hk : H8 q0.2 = some (.tup ((kS false q0.1).map kV)) := sm _ _ (sp2 _ _ (e3 _ hqm))
      have hmk : (mkS ls)[i]? = some (kS false q0.1, V.int 0) := by
        rw [mkS_kS, List.getElem?_map, hc]
        rfl
      refine ⟨rfl, _, rfl, _, rfl, _, rfl, d, .int 0, rfl, ?_, ?_⟩
      · rw [← mkS_get (List.mem_of_getElem? hc)]
        exact DGet.t (k := kS false q0.1) (sm _ _ (sp2 _ _ (sx1 _ _ xd hd))) hk
      · refine ⟨_, ⟨_, kS false q0.1, q0.2, hDi, rfl, hk, ?_, rfl⟩, same_put sm hD, ?_⟩
        · rw [List.length_take, len]
          exact Nat.lt_of_le_of_lt (Nat.min_le_left _ _) (Nat.lt_of_lt_of_le hi (by simp [plen]; exact hz))
        · rw [upd_same, putK_take nd hmk]
    · rintro H7 ⟨sm, hDn⟩
      have e7 : (mkS ls).take (ps.map fun q => V.ref q.2).length = mkS ls := List.take_of_length_le (by rw [List.length_map, plen, len]; exact Nat.le_refl _)
      rw [e7] at hDn
      have s47 : Same H4 H7 := sp2.trans sm
      have hx7 := s47 _ _ hx1
      have xD : D ≠ x := fun z => by
        rw [z] at hD
        rw [sp2 _ _ hx1] at hD
        cases hD
      subst hF1
      refine ⟨_, rfl, x, T.m, dx, _, rfl, hx7, cl, cf.nm _ (by decide +kernel), by show 1 < 1000; decide, ?_⟩
      have t8 : SameE x H (upd H7 x (.ins T.m dx (putF "own_steps" (.ref D) (putF "own_letters" (.str ls) [])))) := SameE.put (sx1.trans (.of s47))
      have hD8 : upd H7 x (.ins T.m dx (putF "own_steps" (.ref D) (putF "own_letters" (.str ls) []))) D = some (.dT (mkS ls)) := by rw [upd_ne xD]; exact hDn
      have hx8 : upd H7 x (.ins T.m dx (putF "own_steps" (.ref D) (putF "own_letters" (.str ls) []))) x = some (.ins T.m dx (putF "own_steps" (.ref D) (putF "own_letters" (.str ls) []))) := upd_same
      generalize upd H7 x (.ins T.m dx (putF "own_steps" (.ref D) (putF "own_letters" (.str ls) []))) = H8 at t8 hD8 hx8
      refine ⟨_, rfl, _, rfl, x, T.m, dx, _, rfl, hx8, cl, cf.nm _ (by decide +kernel), by show 2 < 1000; decide, ?_⟩
      have t9 : SameE x H (upd H8 x (.ins T.m dx (putF "own_good" (.ref g) (putF "own_steps" (.ref D) (putF "own_letters" (.str ls) []))))) := SameE.put t8
      have hD9 : upd H8 x (.ins T.m dx (putF "own_good" (.ref g) (putF "own_steps" (.ref D) (putF "own_letters" (.str ls) [])))) D = some (.dT (mkS ls)) := by rw [upd_ne xD]; exact hD8
      have hx9 : upd H8 x (.ins T.m dx (putF "own_good" (.ref g) (putF "own_steps" (.ref D) (putF "own_letters" (.str ls) [])))) x = some (.ins T.m dx (putF "own_good" (.ref g) (putF "own_steps" (.ref D) (putF "own_letters" (.str ls) [])))) := upd_same
      generalize upd H8 x (.ins T.m dx (putF "own_good" (.ref g) (putF "own_steps" (.ref D) (putF "own_letters" (.str ls) [])))) = H9 at t9 hD9 hx9
      refine ⟨_, rfl, d, _, rfl, t9 _ _ xd hd, _, rfl, _, ls.length, rfl, ⟨hz, rfl⟩, _, _, rfl, rfl, ⟨by omega, by omega⟩, ?_⟩
      dsimp only
      rw [ed]
      refine ⟨1, rfl, RgOk.of_le (by decide) (by decide) (by decide) (by decide), fun nl hnl => ?_⟩
      have xnl : x ≠ nl := ne_of_none hx9 hnl
      have hnl2 : upd H9 nl (.lst (rgV 0 1)) nl = some (.lst [.int 0]) := upd_same
      refine ⟨_, rfl, x, T.m, dx, _, rfl, by rw [upd_ne xnl]; exact hx9, cl, cf.nm _ (by decide +kernel), by show 3 < 1000; decide, ?_⟩
      refine ⟨_, rfl, x, T.m, dx, _, _, rfl, upd_same, cl, cf.nm _ (by decide +kernel), rfl, _, 1, rfl, .inl ⟨_, SqL.of (by rw [upd_ne (Ne.symm xnl)]; exact hnl2), rfl⟩, ?_⟩
      refine ⟨_, rfl, x, T.m, dx, _, rfl, upd_same, cl, cf.nm _ (by decide +kernel), by show 4 < 1000; decide, ?_⟩
      rw [upd_upd]
      refine q _ (SameE.put (t9.trans (.of (same_upd hnl)))) ⟨dx, D, g, nl, upd_same, ?_, ?_, ?_⟩
      · rw [upd_ne xD, upd_ne (ne_of_none hD9 hnl)]
        exact hD9
      · have hg9 := t9 _ _ xg hg
        rw [upd_ne xg, upd_ne (ne_of_none hg9 hnl)]
        exact hg9
      · rw [upd_ne (Ne.symm xnl)]
        exact hnl2
end
end K67
end
section
set_option Elab.async false
set_option linter.all false
set_option maxRecDepth 100000
set_option maxHeartbeats 4000000
namespace K67
open PySem PySem.Spec PyProof.Rows L2
section
variable {P : Program} {w : World} {K : PySem.W.Frag} {mg : Str → Option Value} {base : Heap} {T : Cls3}
/-! ### require_marks, of marks -/
def spReqMk (T : Cls3) : Sp := fun vs H Q _ => ∃ m ls, vs = [.ref m] ∧ IsMarks T H m ls ∧ Q .non H
theorem ok_require_marks (cf : CF K T) {f : Addr} {fd : FuncData} (F : FnP K "require_marks" "require_marks" s_require_marks f fd) (B : BN mg) (gM : ∃ u, mg "Marks" = some u ∧ RelV (.ref T.m) u) : FnOk P w K mg base CX0 1 f fd ["marks"] (spReqMk T) := by
  have S := sc_require_marks
  refine ok0 F S (fun vs H Q E h => ?_) (fun cdv A outer s H vs Q E hr h => ?_)
  · obtain ⟨m, ls, rfl, _⟩ := h
    rfl
  · obtain ⟨m, ls, rfl, ⟨dx, sd, g, nl, h1, h2, h3, h4⟩, q⟩ := h
    refine ⟨_, (pss_one (ps_if (pt_not (pt_val (pe_callB call_isi (by rfl) B.isinstance (by decide +kernel) (pa_cons (pv 0) (pa_cons (C8.pe_gc (by rfl) gM) pa_nil))))) (pss_one ps_no) pss_nil)), ?_⟩
    have ty : TyOf K H (.ref m) (.ref T.m) := TyOf.ins h1 cf.im.cl cf.im.ha cf.im.hn cf.im.htk cf.im.hm
    have hk := cf.kits.kit (.ref T.m) (by simp [TYS]) (.ref T.m) (by simp [CLS])
    exact ⟨_, rfl, _, .ref T.m, .ref T.m, _, _, rfl, .own _, .base ty, hk, _, rfl, iteF' (by simp [kitB2]) q⟩
/-! ### keys_from, of one state and one mark -/
def spKeysFrom (T : Cls3) : Sp := fun vs H Q _ => ∃ m ls, vs = [.ref m, .int 0, .int 0] ∧ IsMarks T H m ls ∧ ls.length ≤ 100 ∧
  ∀ (H' : Hp) (p : Addr) (ps : List (Nat × Addr)), Same H H' → H p = none → H' p = some (.lst (ps.map fun q : Nat × Addr => V.ref q.2)) → ps.map (·.1) = ls.cps.toList → (∀ q ∈ ps, H' q.2 = some (.tup ((kS true q.1).map kV))) → Q (.ref p) H'
theorem ok_keys_from (cf : CF K T) {f : Addr} {fd : FuncData} (F : FnP K "keys_from" "keys_from" s_keys_from f fd) (B : BN mg) : FnOk P w K mg base CX0 1 f fd ["marks", "state", "mark"] (spKeysFrom T) := by
  have S := sc_keys_from
  refine ok0 F S (fun vs H Q E h => ?_) (fun cdv A outer s H vs Q E hr h => ?_)
  · obtain ⟨m, ls, rfl, _⟩ := h
    rfl
  · obtain ⟨m, ls, rfl, hm, hz, q⟩ := h
    refine ⟨_, (pss_cons (ps_set (i := 3) S.nd rfl (.inl rfl) (pe_lst pa_nil))
      (pss_cons (ps_for PassesOwn.never rfl (pi_str (pe_fldK (K := K) rfl (pv 0) rfl)) (pg_name (i := 4) S.nd rfl (Or.inl rfl)) (pss_one (ps_for PassesOwn.never rfl (pi_range1 (by rfl) B.range (pa_cons (pe_fldK (K := K) rfl (pv 0) rfl) pa_nil)) (pg_name (i := 5) S.nd rfl (Or.inl rfl)) (pss_one (ps_if (pt_cmpR op_eq (pe_dget (hu_of hr) (pe_fldK (K := K) rfl (pv 0) rfl) (pe_tup (pa_cons (pv 4) (pa_cons (pv 5) pa_nil))) (fun _ _ => rfl)) (pv 2) (nomark _)) (pss_one (ps_expr (pe_bm PySem.F.plainAttrs_list PySem.F.slot_list_append PySem.F.type_list_append mt_append (pv 3) (pa_cons (pe_tup (pa_cons (pv 1) (pa_cons (pv 4) (pa_cons (pv 5) pa_nil)))) pa_nil)))) pss_nil)))))
      (pss_one (ps_ret (pv 3))))), ?_⟩
    have cl := cf.im.cl
    refine ⟨by show 0 ≤ sizeLine; decide, fun l hl => ?_⟩
    obtain ⟨dx, sd, g, nl, h1, h2, h3, h4⟩ := id hm
    have hl0 : upd H l (.lst []) l = some (.lst []) := upd_same
    have s0 : Same H (upd H l (.lst [])) := same_upd hl
    generalize upd H l (.lst []) = H0 at hl0 s0
    refine ⟨_, rfl, m, T.m, dx, _, _, rfl, s0 _ _ h1, cl, cf.nm _ (by decide +kernel), rfl, ls, rfl, ?_⟩
    have hzc : ls.cps.toList.length = ls.length := Array.length_toList
    refine for_it walk_str (fun i σ H' => Same H H' ∧ ∃ (ps : List (Nat × Addr)) (x4 x5 : Option V), σ = [some (.ref m), some (.int 0), some (.int 0), some (.ref l), x4, x5] ∧ H' l = some (.lst (ps.map fun q : Nat × Addr => V.ref q.2)) ∧ ps.map (·.1) = ls.cps.toList.take i ∧ ∀ q ∈ ps, H' q.2 = some (.tup ((kS true q.1).map kV))) ?_ (fun _ _ _ _ _ => True.intro) ?_ ?_
    · exact ⟨s0, [], none, none, rfl, hl0, by simp, fun q hq => by cases hq⟩
    · rintro i x σ H1 H2 hi ⟨sm, ps, x4, x5, rfl, hl1, e1, e2⟩ ⟨rfl, c, hc, rfl⟩
      have hmem : c ∈ ls.cps.toList := List.mem_of_getElem? (cps_get hc)
      have hm1 := hm.same sm
      obtain ⟨dx, sd, g, nl, h1, h2, h3, h4⟩ := hm1
      refine ⟨_, rfl, m, T.m, dx, _, _, rfl, h1, cl, cf.nm _ (by decide +kernel), rfl, ?_⟩
      refine ⟨1, rfl, by decide, by decide, ?_⟩
      have plen : ps.length = i := by
        have := congrArg List.length e1
        rw [List.length_map, List.length_take, hzc] at this
        have hi' : i < ls.length := hi
        omega
      refine for_it walk_range (fun j σ H' => Same H H' ∧ ((j = 0 ∧ H' = H2 ∧ ∃ x5, σ = [some (.ref m), some (.int 0), some (.int 0), some (.ref l), some (.str ⟨#[c]⟩), x5]) ∨ (j = 1 ∧ ∃ t x5, σ = [some (.ref m), some (.int 0), some (.int 0), some (.ref l), some (.str ⟨#[c]⟩), x5] ∧ H' l = some (.lst ((ps ++ [(c, t)]).map fun q : Nat × Addr => V.ref q.2)) ∧ ∀ q ∈ ps ++ [(c, t)], H' q.2 = some (.tup ((kS true q.1).map kV))))) ⟨sm, .inl ⟨rfl, rfl, x5, rfl⟩⟩ (fun _ _ _ _ _ => True.intro) ?_ ?_
      · rintro j y σ H3 H4 hj ⟨sm3, hh⟩ ⟨rfl, rfl⟩
        have ej : j = 0 := by
          have : j < (1 : Int).toNat := hj
          simpa using this
        subst ej
        rcases hh with ⟨_, rfl, y5, rfl⟩ | ⟨h, _⟩
        · refine ⟨_, rfl, m, T.m, dx, _, _, rfl, h1, cl, cf.nm _ (by decide +kernel), rfl, ?_⟩
          refine ⟨_, rfl, _, rfl, by show 2 ≤ sizeLine; decide, fun t ht => ?_⟩
          refine ⟨sd, .int 0, rfl, ?_, ?_⟩
          · rw [← mkS_get hmem]
            exact DGet.t (by rw [upd_ne (ne_of_none h2 ht)]; exact h2) upd_same
          refine ⟨_, rfl, rfl, _, rfl, iteT' (by decide) ?_⟩
          have sm4 : Same H (upd H4 t (.tup [.str ⟨#[c]⟩, .int (0 + ((0 : Nat) : Int))])) := sm3.trans (same_upd ht)
          have hl4 : upd H4 t (.tup [.str ⟨#[c]⟩, .int (0 + ((0 : Nat) : Int))]) l = some (.lst (ps.map fun q : Nat × Addr => V.ref q.2)) := by rw [upd_ne (ne_of_none hl1 ht)]; exact hl1
          have e24 : ∀ q ∈ ps, upd H4 t (.tup [.str ⟨#[c]⟩, .int (0 + ((0 : Nat) : Int))]) q.2 = some (.tup ((kS true q.1).map kV)) := fun q hq => same_upd ht _ _ (e2 q hq)
          generalize upd H4 t (.tup [.str ⟨#[c]⟩, .int (0 + ((0 : Nat) : Int))]) = H5 at sm4 hl4 e24
          refine ⟨_, rfl, .inl ⟨rfl, _, SqL.of hl4⟩, ?_⟩
          refine ⟨_, rfl, _, rfl, _, rfl, by show 3 ≤ sizeLine; decide, fun t2 ht2 => ?_⟩
          have nl2 : l ≠ t2 := ne_of_none hl4 ht2
          refine ⟨l, _, _, rfl, rfl, by rw [upd_ne nl2]; exact hl4, by rw [List.length_map, plen]; have hi' : i < ls.length := hi; exact Nat.lt_of_lt_of_le (show i < 100 by omega) (by decide), ?_⟩
          refine ⟨same_put (sm4.trans (same_upd ht2)) hl, .inr ⟨rfl, t2, _, rfl, ?_, fun q hq => ?_⟩⟩
          · rw [upd_same, List.map_append]
            rfl
          · rcases List.mem_append.mp hq with hq | hq
            · have z := e24 q hq
              have z1 : q.2 ≠ l := fun e => by rw [e, hl4] at z; cases z
              rw [upd_ne z1, upd_ne (ne_of_none z ht2)]
              exact z
            · have eq : q = (c, t2) := by simpa using hq
              subst eq
              rw [upd_ne (Ne.symm nl2), upd_same]
              rfl
        · omega
      · rintro σ H3 ⟨sm3, hh⟩
        rcases hh with ⟨h, _⟩ | ⟨_, t, y5, rfl, e3, e4⟩
        · exact absurd h (by decide)
        · refine ⟨sm3, ps ++ [(c, t)], _, _, rfl, e3, ?_, e4⟩
          rw [List.map_append, e1, List.take_add_one, cps_get hc]
          rfl
    · rintro σ H1 ⟨sm, ps, x4, x5, rfl, hl1, e1, e2⟩
      refine ⟨_, rfl, q _ _ ps sm hl hl1 ?_ e2⟩
      rw [e1]
      exact List.take_of_length_le (Nat.le_refl _)
end
end K67
end
section
set_option Elab.async false
set_option linter.all false
set_option maxRecDepth 100000
set_option maxHeartbeats 4000000
namespace K67
open PySem PySem.Spec PyProof.Rows L2
/-- the dicts of a writer of one state that copies -/
structure RawTwo (H : Hp) (ls : Str) (b wr la tb : Addr) (ws : List (Nat × Addr)) : Prop where
  begins : H b = some (.dK [(.inl 0, .ref tb)])
  target : H tb = some (.tup [.str "", .int 0])
  writes : H wr = some (.dT (wS ws))
  names : ws.map (·.1) = ls.cps.toList
  goals : ∀ q ∈ ws, H q.2 = some (.tup [.str ⟨#[q.1]⟩, .int 0])
  last : H la = some (.dK [(.inl 0, .str "")])
theorem RawTwo.same {H H' : Hp} {ls : Str} {b wr la tb : Addr} {ws : List (Nat × Addr)} (h : RawTwo H ls b wr la tb ws) (s : Same H H') : RawTwo H' ls b wr la tb ws :=
  ⟨s _ _ h.begins, s _ _ h.target, s _ _ h.writes, h.names, fun q hq => s _ _ (h.goals q hq), s _ _ h.last⟩
theorem isMarks_upd {T : Cls3} {H : Hp} {m a : Addr} {ls : Str} {o o' : HO} (h : IsMarks T H m ls) (ha : H a = some o') (h1 : ∀ dx fs, o' ≠ .ins T.m dx fs) (h2 : o' ≠ .dT (mkS ls)) (h3 : ∀ xs, o' ≠ .tup xs) (h4 : ∀ xs, o' ≠ .lst xs) : IsMarks T (upd H a o) m ls := by
  obtain ⟨dx, sd, g, nl, e1, e2, e3, e4⟩ := h
  have ne : ∀ b ob, H b = some ob → ob ≠ o' → b ≠ a := fun b ob e hne z => by
    rw [z, ha] at e
    exact hne (Option.some.inj e).symm
  exact ⟨dx, sd, g, nl, by rw [upd_ne (ne _ _ e1 (fun z => h1 _ _ z.symm))]; exact e1, by rw [upd_ne (ne _ _ e2 (fun z => h2 z.symm))]; exact e2, by rw [upd_ne (ne _ _ e3 (fun z => h3 _ z.symm))]; exact e3, by rw [upd_ne (ne _ _ e4 (fun z => h4 _ z.symm))]; exact e4⟩
theorem wS_len (ws : List (Nat × Addr)) : (wS ws).length = ws.length := by
  unfold wS
  rw [List.length_map]
theorem wS_ne {ws : List (Nat × Addr)} {ls : Str} (h : ws ≠ []) : (HO.dT (wS ws) : HO) ≠ .dT (mkS ls) := fun z => by
  have e : wS ws = mkS ls := by injection z
  cases ws with
  | nil => exact h rfl
  | cons q ws =>
    have e2 := congrArg (fun l => l.head?.map (fun p => p.1.length)) e
    unfold wS mkS at e2
    cases hl : ls.cps.toList with
    | nil => rw [hl] at e2; simp at e2
    | cons c cs => rw [hl] at e2; simp at e2
theorem wS_at {ws : List (Nat × Addr)} {i : Nat} {k : List Key} {v : V} (h : (wS ws)[i]? = some (k, v)) : ∃ q, ws[i]? = some q ∧ k = kS true q.1 ∧ v = .ref q.2 := by
  unfold wS at h
  rw [List.getElem?_map] at h
  obtain ⟨q, hq, e⟩ := Option.map_eq_some_iff.mp h
  cases e
  exact ⟨q, hq, rfl, rfl⟩
theorem RawTwo.ne {H : Hp} {ls : Str} {b wr la tb : Addr} {ws : List (Nat × Addr)} (h : RawTwo H ls b wr la tb ws) (h1 : 1 ≤ ls.length) : ws ≠ [] := fun e => by
  have := congrArg List.length h.names
  rw [e, List.map_nil, Array.length_toList] at this
  have h2 : ls.length = 0 := this.symm
  omega
theorem valV_nodup {κ : Type} [DecidableEq κ] {kvs : List (κ × V)} {i : Nat} {k : κ} {v : V} (nd : (kvs.map (·.1)).Nodup) (h : kvs[i]? = some (k, v)) : valV kvs k = some v := by
  unfold valV
  obtain ⟨p, hp⟩ : ∃ p, kvs.find? (fun kv => decide (kv.1 = k)) = some p := by
    rw [← Option.isSome_iff_exists, List.find?_isSome]
    exact ⟨(k, v), List.mem_of_getElem? h, by simp⟩
  rw [hp]
  have h1 : p.1 = k := of_decide_eq_true (by simpa using List.find?_some hp)
  obtain ⟨j, hj⟩ := List.mem_iff_getElem?.mp (List.mem_of_find?_eq_some hp)
  have e1 : (kvs.map (·.1))[j]? = some k := by rw [List.getElem?_map, hj, ← h1]; rfl
  have e2 : (kvs.map (·.1))[i]? = some k := by rw [List.getElem?_map, h]; rfl
  have hjl : j < (kvs.map (·.1)).length := (List.getElem?_eq_some_iff.mp e1).1
  have ej := (List.getElem?_inj hjl nd).mp (e1.trans e2.symm)
  subst ej
  rw [h] at hj
  cases hj
  rfl
section
variable {P : Program} {w : World} {K : PySem.W.Frag} {mg : Str → Option Value} {base : Heap} {T : Cls3}
/-! ### have_forms -/
def spForms (T : Cls3) : Sp := fun vs H Q _ => ∃ m ls b wr la tb ws, vs = [.ref m, .ref b, .ref wr, .ref la] ∧ IsMarks T H m ls ∧ LsOk ls ∧ RawTwo H ls b wr la tb ws ∧ ∀ H', Same H H' → Q (.bl true) H'
theorem ok_have_forms (cf : CF K T) {f : Addr} {fd : FuncData} (F : FnP K "have_forms" "have_forms" s_have_forms f fd) (B : BN mg) (gW : ∃ u, mg "MAX_WRITER" = some u ∧ RelV (.int 1000) u) (c1 : Cal P w K mg base CX0 1 "is_word" (spIsWord K)) (c2 : Cal P w K mg base CX0 2 "is_between" (spBtw K)) (c3 : Cal P w K mg base CX0 3 "is_target" spTarget) (c4 : Cal P w K mg base CX0 3 "is_key" (spKey T)) :
    FnOk P w K mg base CX0 4 f fd ["marks", "begins", "steps", "ends"] (spForms T) := by
  have S := sc_have_forms
  refine ok0 F S (fun vs H Q E h => ?_) (fun cdv A outer s H vs Q E hr h => ?_)
  · obtain ⟨m, ls, b, wr, la, tb, ws, rfl, _⟩ := h
    rfl
  · obtain ⟨m, ls, b, wr, la, tb, ws, rfl, hm, lo, rt, q⟩ := h
    refine ⟨_, (pss_cons (ps_if (PW.pt (pw_or (pt_not (pt_val (pe_callB call_isi (by rfl) B.isinstance (by decide +kernel) (pa_cons (pv 1) (pa_cons (pe_bltn (v := .ty "dict") (by rfl) B.dict (by decide +kernel) rfl) pa_nil))))) (pw_or (pt_not (pt_val (pe_callB call_isi (by rfl) B.isinstance (by decide +kernel) (pa_cons (pv 2) (pa_cons (pe_bltn (v := .ty "dict") (by rfl) B.dict (by decide +kernel) rfl) pa_nil))))) (pw_or1 (pt_not (pt_val (pe_callB call_isi (by rfl) B.isinstance (by decide +kernel) (pa_cons (pv 3) (pa_cons (pe_bltn (v := .ty "dict") (by rfl) B.dict (by decide +kernel) rfl) pa_nil))))))))) (pss_one (ps_ret pe_bl)) pss_nil)
      (pss_cons (ps_if (pt_not (pt_val (pe_lock (pe_callB (cr_all rfl) (by rfl) B.all (by decide +kernel) (pa_cons (pe_lc (own := [("mark", 4)]) (g := gName 4) (tt := tYes) rfl S.nd (pi_keys (pv 1)) (blkOk_by (N := ["marks", "begins", "steps", "ends", "mark", "key", "state"]) (sc := defScope s_have_forms) (by decide +kernel)) (fun _ _ _ _ _ => (pg_name (i := 4) S.nd rfl (Or.inl rfl))) (fun _ _ _ _ _ => pts_nil) (fun _ _ _ _ _ => (pe_and (pe_c c2 hr (by decide) (by rfl) (E := E0) pass0 (pa_cons (pv 4) (pa_cons pe_int (pa_cons (C8.pe_gc (by rfl) gW) pa_nil)))) (pe_one (pe_c c3 hr (by decide) (by rfl) (E := E0) pass0 (pa_cons (pe_dget (hu_of hr) (pv 1) (pv 4) (fun _ _ => rfl)) pa_nil)))))) pa_nil))))) (pss_one (ps_ret pe_bl)) pss_nil)
      (pss_cons (ps_if (pt_cmpR (op_neD (hu_of' hr)) (pe_callB cr_sorted (by rfl) B.sorted (by decide +kernel) (pa_cons (pe_callTy (call_list_dK rfl) (by rfl) B.list (by decide +kernel) (pa_cons (pv 1) pa_nil)) pa_nil)) (pe_callTy call_list_of (by rfl) B.list (by decide +kernel) (pa_cons (pe_fldK (K := K) rfl (pv 0) rfl) pa_nil)) (nomark _)) (pss_one (ps_ret pe_bl)) pss_nil)
      (pss_cons (ps_if (pt_not (pt_val (pe_lock (pe_callB (cr_all rfl) (by rfl) B.all (by decide +kernel) (pa_cons (pe_lc (own := [("key", 5)]) (g := gName 5) (tt := tYes) rfl S.nd (pi_keys (pv 2)) (blkOk_by (N := ["marks", "begins", "steps", "ends", "mark", "key", "state"]) (sc := defScope s_have_forms) (by decide +kernel)) (fun _ _ _ _ _ => (pg_name (i := 5) S.nd rfl (Or.inl rfl))) (fun _ _ _ _ _ => pts_nil) (fun _ _ _ _ _ => (pe_and (pe_c c4 hr (by decide) (by rfl) (E := E0) pass0 (pa_cons (pv 0) (pa_cons (pv 5) pa_nil))) (pe_one (pe_c c3 hr (by decide) (by rfl) (E := E0) pass0 (pa_cons (pe_dget (hu_of hr) (pv 2) (pv 5) (fun _ _ => rfl)) pa_nil)))))) pa_nil))))) (pss_one (ps_ret pe_bl)) pss_nil)
      (pss_one (ps_ret (pe_lock (pe_callB (cr_all rfl) (by rfl) B.all (by decide +kernel) (pa_cons (pe_lc (own := [("state", 6)]) (g := gName 6) (tt := tYes) rfl S.nd (pi_keys (pv 3)) (blkOk_by (N := ["marks", "begins", "steps", "ends", "mark", "key", "state"]) (sc := defScope s_have_forms) (by decide +kernel)) (fun _ _ _ _ _ => (pg_name (i := 6) S.nd rfl (Or.inl rfl))) (fun _ _ _ _ _ => pts_nil) (fun _ _ _ _ _ => (pe_and (pe_c c2 hr (by decide) (by rfl) (E := E0) pass0 (pa_cons (pv 6) (pa_cons pe_int (pa_cons (pe_op op_sub (C8.pe_gc (by rfl) gW) pe_int) pa_nil)))) (pe_one (pe_c c1 hr (by decide) (by rfl) (E := E0) pass0 (pa_cons (pe_dget (hu_of hr) (pv 3) (pv 6) (fun _ _ => rfl)) pa_nil)))))) pa_nil))))))))), ?_⟩
    have k1 := cf.kits.kit (.type "dict") (by simp [TYS]) (.type "dict") (by simp [CLS])
    refine ⟨_, rfl, _, .ty "dict", .type "dict", _, _, rfl, .ty "dict", .base (TyOf.dK rt.begins), k1, _, rfl, iteF' (by decide +kernel) ?_⟩
    refine ⟨_, rfl, _, .ty "dict", .type "dict", _, _, rfl, .ty "dict", .base (TyOf.dT rt.writes), k1, _, rfl, iteF' (by decide +kernel) ?_⟩
    refine ⟨_, rfl, _, .ty "dict", .type "dict", _, _, rfl, .ty "dict", .base (TyOf.dK rt.last), k1, _, rfl, iteF' (by decide +kernel) ?_⟩
    refine ⟨b, _, rt.begins, True.intro, fun od => ?_⟩
    have sizes : ∀ {H0 H2 : Hp} {a : Addr} {od : Obj} {u u' : HO} {x : Addr}, Same (upd H0 a (.frz od u)) H2 → H0 a = some u → u' ≠ u → H0 x = some u' → H2 x = some u' := fun {H0 H2 a od u u' x} sm ha hne hx => sm _ _ (by rw [upd_ne (fun z => hne (by rw [z, ha] at hx; exact (Option.some.inj hx).symm))]; exact hx)
    refine ⟨_, rfl, b, od, rfl, .inl ⟨_, upd_same, fun D hD => ?_⟩⟩
    refine lc_gen2 (walk_keys (kvs := [(Sum.inl 0, V.ref tb)])) [.bl true] rfl (by show 1 ≤ sizeLine; decide) hD (fun H2 sm => sm _ _ upd_same) ?_ ?_
    · rintro i x H2 H3 K1 hi sm ⟨o, hD2⟩ ⟨rfl, kk, v, hk, rfl⟩ k
      have ei : i = 0 := by simpa using hi
      subst ei
      cases hk
      refine ⟨rfl, _, rfl, .int 0, 0, 1000, rfl, True.intro, _, rfl, iteT' (by decide) ?_⟩
      have fz : H3 b = some (.frz od (.dK [(.inl 0, .ref tb)])) := sm _ _ upd_same
      refine ⟨_, rfl, _, rfl, b, .ref tb, rfl, .inl ⟨_, .inl 0, .inr ⟨od, fz⟩, rfl, rfl⟩, tb, "", rfl, sizes sm rt.begins (fun z => nomatch z) rt.target, by decide, by decide, fun H4 s4 => k _ _ rfl ?_ (sm.trans s4)⟩
      exact (s4 _ _ hD2).trans hD2.symm
    · intro H2 sm hl2
      refine ⟨D, [true], rfl, SqL.of hl2, same_lock sm, _, rfl, iteF' rfl ?_⟩
      have s2 := same_unlock rt.begins sm
      generalize upd H2 b (.dK [(.inl 0, .ref tb)]) = H3 at s2
      have rt3 := rt.same s2
      refine ⟨_, rfl, b, _, rfl, rt3.begins, fun l1 hl1 => ⟨l1, [0], rfl, SqL.of upd_same, by decide, fun ns' p2 hp _ hp2 => ?_⟩⟩
      obtain rfl : ns' = [0] := List.perm_singleton.mp hp
      have s4 : Same H3 (upd (upd H3 l1 (.lst (List.map (fun kv : Key × V => kV kv.1) [(Sum.inl 0, V.ref tb)]))) p2 (.lst (List.map V.int [0]))) := (same_upd hl1).trans (same_upd hp2)
      have hp4 : upd (upd H3 l1 (.lst (List.map (fun kv : Key × V => kV kv.1) [(Sum.inl 0, V.ref tb)]))) p2 (.lst (List.map V.int [0])) p2 = some (.lst [.int 0]) := upd_same
      have rt4 := rt3.same s4
      have hm4 := (hm.same s2).same s4
      generalize upd (upd H3 l1 (.lst (List.map (fun kv : Key × V => kV kv.1) [(Sum.inl 0, V.ref tb)]))) p2 (.lst (List.map V.int [0])) = H4 at s4 hp4 rt4 hm4
      obtain ⟨dx, sd, g, nl, h1, h2, h3, h4⟩ := id hm4
      refine ⟨_, rfl, m, T.m, dx, _, _, rfl, h1, cf.im.cl, cf.nm _ (by decide +kernel), rfl, g, _, rfl, .inr (SqT.of h3), fun l2 hl2 => ?_⟩
      have s5 : Same H4 (upd H4 l2 (.lst [.int 0])) := same_upd hl2
      refine ⟨.list [.int 0], .list [.int 0], .lst (SqL.of (s5 _ _ hp4)) (.cons (.int 0) .nil), .lst (SqL.of upd_same) (.cons (.int 0) .nil), by decide +kernel, by decide +kernel, _, rfl, iteF' (by decide +kernel) ?_⟩
      have rt5 := rt4.same s5
      have hm5 := hm4.same s5
      have sA := (s2.trans s4).trans s5
      generalize upd H4 l2 (.lst [.int 0]) = H5 at rt5 hm5 sA
      have hne := rt5.ne lo.l1
      have len := wS_len ws
      have wl : ws.length = ls.length := by
        have := congrArg List.length rt5.names
        rw [List.length_map, Array.length_toList] at this
        exact this
      have hz4 := lo.l2
      have bt : ∀ n : Nat, ((List.replicate n true).map V.bl) = List.replicate n (V.bl true) := fun n => by rw [List.map_replicate]
      have al : ∀ n : Nat, (List.replicate n true).all id = true := fun n => by simp
      refine ⟨wr, .dT (wS ws), rt5.writes, True.intro, fun od => ?_⟩
      refine ⟨_, rfl, wr, od, rfl, .inr ⟨_, upd_same, fun D hD => ?_⟩⟩
      have hmL : IsMarks T (upd H5 wr (.frz od (.dT (wS ws)))) m ls := isMarks_upd hm5 rt5.writes (fun _ _ z => nomatch z) (wS_ne hne) (fun _ z => nomatch z) (fun _ z => nomatch z)
      refine lc_gen2 walk_keysT ((List.replicate (wS ws).length true).map V.bl) (by simp) (by rw [len]; exact sz60 (by omega)) hD (fun H2 sm => sm _ _ upd_same) ?_ ?_
      · rintro i x H6 H7 K1 hi sm ⟨o, hD2⟩ ⟨rfl, kk, v, qa, hk, rfl, hqa⟩ k
        obtain ⟨q0, hq0, rfl, rfl⟩ := wS_at hk
        have hqm := List.mem_of_getElem? hq0
        have hc : q0.1 ∈ ls.cps.toList := by
          rw [← rt5.names]
          exact List.mem_map.mpr ⟨q0, hqm, rfl⟩
        refine ⟨rfl, _, rfl, _, rfl, m, ls, qa, q0.1, rfl, hmL.same sm, hqa, hc, _, rfl, iteT' rfl ?_⟩
        have fz : H7 wr = some (.frz od (.dT (wS ws))) := sm _ _ upd_same
        have hg7 : H7 q0.2 = some (.tup [.str ⟨#[q0.1]⟩, .int 0]) := sizes sm rt5.writes (fun z => nomatch z) (rt5.goals _ hqm)
        have hv : valV (wS ws) (kS true q0.1) = some (.ref q0.2) := by
          have nd : ((wS ws).map (·.1)).Nodup := by
            rw [wS_kS]
            exact nodup_kS (b := true) (key := fun q : Nat × Addr => q.1) (val := fun q => V.ref q.2) (by rw [rt5.names]; exact lo.p)
          exact valV_nodup nd hk
        refine ⟨_, rfl, _, rfl, wr, .ref q0.2, rfl, .inr ⟨_, kS true q0.1, qa, .inr ⟨od, fz⟩, rfl, hqa, hv.symm⟩, q0.2, ⟨#[q0.1]⟩, rfl, hg7, by show 1 ≤ sizeLine; decide, ?_, fun H8 s8 => k _ _ ?_ ((s8 _ _ hD2).trans hD2.symm) (sm.trans s8)⟩
        · have hw := List.all_eq_true.mp lo.w _ hc
          show ([q0.1] : List Nat).all letB = true
          simp [hw]
        · rw [bt, List.getElem?_replicate, if_pos hi]
      · intro H6 sm hl6
        refine ⟨D, _, rfl, SqL.of hl6, same_lock sm, _, rfl, ?_⟩
        rw [al]
        refine iteF' rfl ?_
        have sB := sA.trans (same_unlock rt5.writes sm)
        have rt6 := rt.same sB
        generalize upd H6 wr (.dT (wS ws)) = H7 at sB rt6
        refine ⟨la, _, rt6.last, True.intro, fun od => ?_⟩
        refine ⟨_, rfl, la, od, rfl, .inl ⟨_, upd_same, fun D2 hD2 => ?_⟩⟩
        refine lc_gen2 (walk_keys (kvs := [(Sum.inl 0, V.str "")])) [.bl true] rfl (by show 1 ≤ sizeLine; decide) hD2 (fun H2 sm => sm _ _ upd_same) ?_ ?_
        · rintro i x H2 H3 K1 hi sm ⟨o, hD2⟩ ⟨rfl, kk, v, hk, rfl⟩ k
          have ei : i = 0 := by simpa using hi
          subst ei
          cases hk
          refine ⟨rfl, _, rfl, _, _, rfl, rfl, .int 0, 0, _, rfl, True.intro, _, rfl, iteT' (by decide) ?_⟩
          have fz : H3 la = some (.frz od (.dK [(.inl 0, .str "")])) := sm _ _ upd_same
          refine ⟨_, rfl, _, rfl, la, .str "", rfl, .inl ⟨_, .inl 0, .inr ⟨od, fz⟩, rfl, rfl⟩, .str "", rfl, True.intro, by show 0 ≤ sizeLine; decide, fun H4 s4 => k _ _ rfl ((s4 _ _ hD2).trans hD2.symm) (sm.trans s4)⟩
        · intro H2 sm hl2
          exact ⟨D2, [true], rfl, SqL.of hl2, same_lock sm, q _ (sB.trans (same_unlock rt6.last sm))⟩
end
end K67
end
section
set_option Elab.async false
set_option linter.all false
set_option maxRecDepth 100000
set_option maxHeartbeats 4000000
namespace K67
open PySem PySem.Spec PyProof.Rows L2
/-- l != [] -/
def rNeNilL (K : PySem.W.Frag) : R2 := fun x y H Q => ∃ a b xs, x = .ref a ∧ y = .ref b ∧ SqL K H a xs ∧ SqL K H b [] ∧ Q (.bl (!xs.isEmpty)) H
theorem op_neNilL {X : Cx} (hu : X.A.units + 64 < cLine) : OpR X (compareOp .NotEq) (rNeNilL X.K) := by
  intro pins s σ H x y v u Q I rx ry h
  obtain ⟨a, b, xs, rfl, rfl, h1, h2, q⟩ := h
  cases rx
  cases ry
  obtain ⟨its, r1, t1, _⟩ := I.list h1
  obtain ⟨its2, r2, t2, _⟩ := I.list h2
  have l1 := r1.length
  have l2 := r2.length
  have e2 : its2 = [] := List.eq_nil_of_length_eq_zero (by rw [← l2]; rfl)
  subst e2
  cases xs with
  | nil =>
    have e1 : its = [] := List.eq_nil_of_length_eq_zero (by rw [← l1]; rfl)
    subst e1
    exact SeqAt.RcNeAt.lists (e := fun _ => true) t1.isList t2.isList rfl (by omega) (fun j h1 _ => absurd h1 (by simp)) _ _ _ _ ⟨.bl false, H, I, rfl, q⟩
  | cons x xs =>
    refine SeqAt.RcNeAt.lists_lengths t1.isList t2.isList ?_ (by omega) _ _ _ _ ⟨.bl true, H, I, rfl, q⟩
    have : its.toArray.size = xs.length + 1 := by
      rw [List.size_toArray, ← l1]
      rfl
    rw [this]
    simp
section
variable {P : Program} {w : World} {K : PySem.W.Frag} {mg : Str → Option Value} {base : Heap} {T : Cls3}
/-! ### fresh_in, of the one pair (0, 0) -/
def spFresh : Sp := fun vs H Q _ => ∃ l t, vs = [.ref l] ∧ H l = some (.lst [.ref t]) ∧ H t = some (.tup [.int 0, .int 0]) ∧ ∀ H' p t', Same H H' → H p = none → H' p = some (.lst [.ref t']) → H' t' = some (.tup [.int 0, .int 0]) → Q (.ref p) H'
theorem ok_fresh_in {f : Addr} {fd : FuncData} (F : FnP K "fresh_in" "fresh_in" s_fresh_in f fd) (B : BN mg) : FnOk P w K mg base CX0 1 f fd ["line"] spFresh := by
  have S := sc_fresh_in
  refine ok0 F S (fun vs H Q E h => ?_) (fun cdv A outer s H vs Q E hr h => ?_)
  · obtain ⟨l, t, rfl, _⟩ := h
    rfl
  · obtain ⟨l, t, rfl, hl, ht, q⟩ := h
    refine ⟨_, (pss_cons (ps_set (i := 1) S.nd rfl (.inl rfl) pe_dnewT)
      (pss_cons (ps_for PassesOwn.never rfl (pi_list (pv 0)) (pg_name (i := 2) S.nd rfl (Or.inl rfl)) (pss_one (ps_dput (hu_of hr) (pv 1) (pv 2) pe_bl (by rfl))))
      (pss_one (ps_ret (pe_callTy (call_list_dT rfl) (by rfl) B.list (by decide +kernel) (pa_cons (pv 1) pa_nil)))))), ?_⟩
    intro d hd
    have s1 : Same H (upd H d (.dT [])) := same_upd hd
    refine ⟨_, rfl, l, rfl, ⟨_, SqL.of (s1 _ _ hl)⟩, ?_⟩
    refine for_it (walk_list (xs := [V.ref t])) (fun i σ H' => Same H H' ∧ ((i = 0 ∧ ∃ x2, σ = [some (.ref l), some (.ref d), x2] ∧ H' d = some (.dT [])) ∨ (i = 1 ∧ ∃ x2, σ = [some (.ref l), some (.ref d), x2] ∧ H' d = some (.dT [([.inl 0, .inl 0], .bl true)])))) ⟨s1, .inl ⟨rfl, none, rfl, upd_same⟩⟩ (fun i σ H' _ h => SqL.of (h.1 _ _ hl)) ?_ ?_
    · rintro i x σ H1 H2 hi ⟨sm, hh⟩ ⟨rfl, hx⟩
      have ei : i = 0 := by simpa using hi
      subst ei
      obtain rfl : V.ref t = x := Option.some.inj hx
      rcases hh with ⟨_, x2, rfl, hd1⟩ | ⟨h, _⟩
      · refine ⟨_, rfl, _, rfl, d, _, rfl, DPut.t (k := [.inl 0, .inl 0]) hd1 (sm _ _ ht) (by decide), ?_⟩
        refine ⟨same_put sm hd, .inr ⟨rfl, _, rfl, ?_⟩⟩
        rw [upd_same]
        rfl
      · cases h
    · rintro σ H1 ⟨sm, hh⟩
      rcases hh with ⟨h, _⟩ | ⟨_, x2, rfl, hd1⟩
      · cases h
      · refine ⟨_, rfl, d, _, rfl, .inl hd1, fun p bs hp isk => ?_⟩
        cases isk with
        | @cons _ a _ _ h1 h2 =>
          cases h2
          exact q _ p a (sm.trans (same_upd hp)) (fresh_of sm hp) upd_same (by rw [upd_ne (ne_of_none h1 hp)]; exact h1)
/-! ### met_in, of one state -/
def spMetIn (T : Cls3) : Sp := fun vs H Q _ => ∃ m ls b wr la tb ws, vs = [.ref m, .ref b, .ref wr] ∧ IsMarks T H m ls ∧ LsOk ls ∧ RawTwo H ls b wr la tb ws ∧ ∀ H' p, Same H H' → H p = none → H' p = some (.dK [(.inl 0, .int 0)]) → Q (.ref p) H'
theorem ok_met_in (cf : CF K T) {f : Addr} {fd : FuncData} (F : FnP K "met_in" "met_in" s_met_in f fd) (B : BN mg) (c1 : Cal P w K mg base CX0 1 "fresh_in" spFresh) (c2 : Cal P w K mg base CX0 1 "keys_from" (spKeysFrom T)) : FnOk P w K mg base CX0 2 f fd ["marks", "begins", "steps"] (spMetIn T) := by
  have S := sc_met_in
  refine ok0 F S (fun vs H Q E h => ?_) (fun cdv A outer s H vs Q E hr h => ?_)
  · obtain ⟨m, ls, b, wr, la, tb, ws, rfl, _⟩ := h
    rfl
  · obtain ⟨m, ls, b, wr, la, tb, ws, rfl, hm, lo, rt, q⟩ := h
    refine ⟨_, (pss_cons (ps_asg (pe_tup (pa_cons pe_dnewK (pa_cons (pe_lst pa_nil) pa_nil))) (pg_tup rfl (pgs_cons (pg_name (i := 3) S.nd rfl (Or.inr rfl)) (pgs_cons (pg_name (i := 4) S.nd rfl (Or.inl rfl)) pgs_nil))))
      (pss_cons (ps_for PassesOwn.never rfl (pi_tup (pe_fldK (K := K) rfl (pv 0) rfl)) (pg_name (i := 5) S.nd rfl (Or.inl rfl)) (pss_one (ps_expr (pe_bm PySem.F.plainAttrs_list PySem.F.slot_list_append PySem.F.type_list_append mt_append (pv 4) (pa_cons (pe_tup (pa_cons (pe_ix ix_tup (pe_dget (hu_of hr) (pv 1) (pv 5) (fun _ _ => rfl)) pe_int (fun _ _ => rfl)) (pa_cons (pv 5) pa_nil))) pa_nil)))))
      (pss_cons (ps_while PassesOwn.never (pt_cmpR (op_neNilL (hu_of' hr)) (pv 4) (pe_lst pa_nil) (nomark _)) (pss_cons (ps_set (i := 6) S.nd rfl (.inl rfl) (pe_lst pa_nil))
      (pss_cons (ps_for PassesOwn.never rfl (pi_list (pv 4)) (pg_tup rfl (pgs_cons (pg_name (i := 7) S.nd rfl (Or.inl rfl)) (pgs_cons (pg_name (i := 5) S.nd rfl (Or.inl rfl)) pgs_nil))) (pss_one (ps_if (pt_cmpR op_ne (pe_dsetd (pv 3) (pv 7) (pv 5) ⟨rfl, rfl, rfl, rfl⟩) (pv 5) (nomark _)) (pss_one (ps_ret pe_non)) pss_nil)))
      (pss_cons (ps_for PassesOwn.never rfl (pi_list (pe_c c1 hr (by decide) (by rfl) (E := E0) pass0 (pa_cons (pv 4) pa_nil))) (pg_tup rfl (pgs_cons (pg_name (i := 7) S.nd rfl (Or.inl rfl)) (pgs_cons (pg_name (i := 5) S.nd rfl (Or.inl rfl)) pgs_nil))) (pss_one (ps_for PassesOwn.never rfl (pi_list (pe_c c2 hr (by decide) (by rfl) (E := E0) pass0 (pa_cons (pv 0) (pa_cons (pv 7) (pa_cons (pv 5) pa_nil))))) (pg_name (i := 8) S.nd rfl (Or.inl rfl)) (pss_cons (ps_if (pt_cmp (pc_dnotin (hu_of hr) (pv 8) (pv 2))) (pss_one (ps_ret pe_non)) pss_nil)
      (pss_one (ps_expr (pe_bm PySem.F.plainAttrs_list PySem.F.slot_list_append PySem.F.type_list_append mt_append (pv 6) (pa_cons (pe_tup (pa_cons (pe_ix ix_tup (pe_dget (hu_of hr) (pv 2) (pv 8) (fun _ _ => rfl)) pe_int (fun _ _ => rfl)) (pa_cons (pe_ix ix_tup (pv 8) pe_int (fun _ _ => rfl)) pa_nil))) pa_nil))))))))
      (pss_one (ps_setLc (i := 4) (own := [("state", 7), ("mark", 5)]) (g := gTup K 2 (gCons (gName 7) (gCons (gName 5) gNil))) rfl S.nd rfl rfl (sw_true rfl rfl rfl (by decide +kernel)) (pi_list (pv 6)) (blkOk_by (N := ["marks", "begins", "steps", "found", "line", "mark", "later", "state", "key"]) (sc := defScope s_met_in) (by decide +kernel)) (fun _ _ _ _ _ => (pg_tup rfl (pgs_cons (pg_name (i := 7) S.nd rfl (Or.inl rfl)) (pgs_cons (pg_name (i := 5) S.nd rfl (Or.inl rfl)) pgs_nil)))) (fun _ _ _ _ _ => (pts_one (pt_cmpR op_ne (pe_dget1 (hu_of hr) (pv 3) (pv 7) ⟨rfl, rfl, rfl, rfl⟩) (pv 5) (nomark _)))) (fun _ _ _ _ _ => (pe_tup (pa_cons (pv 7) (pa_cons (pv 5) pa_nil))))))))))
      (pss_one (ps_ret (pv 3)))))), ?_⟩
    intro fd0 hfd0
    refine ⟨by show 0 ≤ sizeLine; decide, fun l0 hl0 => ?_⟩
    have nfl : fd0 ≠ l0 := ne_of_none (upd_same (H := H) (a := fd0)) hl0
    refine ⟨by show 2 ≤ sizeLine; decide, fun tp htp => ?_⟩
    have s0 : Same H (upd (upd (upd H fd0 (.dK [])) l0 (.lst [])) tp (.tup [.ref fd0, .ref l0])) := ((same_upd hfd0).trans (same_upd hl0)).trans (same_upd htp)
    have hl1 : (upd (upd H fd0 (.dK [])) l0 (.lst [])) l0 = some (.lst []) := upd_same
    have hf1 : (upd (upd H fd0 (.dK [])) l0 (.lst [])) fd0 = some (.dK []) := by rw [upd_ne nfl, upd_same]
    have hl2 : upd (upd (upd H fd0 (.dK [])) l0 (.lst [])) tp (.tup [.ref fd0, .ref l0]) l0 = some (.lst []) := by rw [upd_ne (ne_of_none hl1 htp)]; exact hl1
    have hf2 : upd (upd (upd H fd0 (.dK [])) l0 (.lst [])) tp (.tup [.ref fd0, .ref l0]) fd0 = some (.dK []) := by rw [upd_ne (ne_of_none hf1 htp)]; exact hf1
    refine ⟨tp, _, rfl, SqT.of upd_same, rfl, _, _, rfl, _, _, rfl, rfl, ?_⟩
    have hl0H : H l0 = none := fresh_of (same_upd (o := .dK []) hfd0) hl0
    generalize upd (upd (upd H fd0 (.dK [])) l0 (.lst [])) tp (.tup [.ref fd0, .ref l0]) = H0 at s0 hl2 hf2
    have cl := cf.im.cl
    obtain ⟨dx, sd, g, nl, h1, h2, h3, h4⟩ := id (hm.same s0)
    refine ⟨_, rfl, m, T.m, dx, _, _, rfl, h1, cl, cf.nm _ (by decide +kernel), rfl, g, rfl, ⟨_, SqT.of h3⟩, ?_⟩
    refine for_it (walk_tup (xs := [V.int 0])) (fun i σ H' => Same H H' ∧ H' g = some (.tup [.int 0]) ∧ H' fd0 = some (.dK []) ∧ ∃ x5 x6 x7 x8, σ = [some (.ref m), some (.ref b), some (.ref wr), some (.ref fd0), some (.ref l0), x5, x6, x7, x8] ∧ ((i = 0 ∧ H' l0 = some (.lst [])) ∨ (i = 1 ∧ ∃ t, H' l0 = some (.lst [.ref t]) ∧ H' t = some (.tup [.int 0, .int 0])))) ⟨s0, h3, hf2, _, _, _, _, rfl, .inl ⟨rfl, hl2⟩⟩ (fun i σ H' _ h => SqT.of h.2.1) ?_ ?_
    · rintro i x σ H1 H2 hi ⟨sm, hg1, hf, x5, x6, x7, x8, rfl, hh⟩ ⟨rfl, hx⟩
      have ei : i = 0 := by simpa using hi
      subst ei
      obtain rfl : V.int 0 = x := Option.some.inj hx
      rcases hh with ⟨_, hl⟩ | ⟨h, _⟩
      · have rt1 := rt.same sm
        refine ⟨_, rfl, .inl ⟨rfl, _, SqL.of hl⟩, ?_⟩
        refine ⟨_, rfl, _, rfl, b, .ref tb, rfl, DGet.k (k := Sum.inl 0) rt1.begins, tb, _, 1, .int 0, rfl, rfl, SqT.of rt1.target, atI_nat (j := 1) rfl, _, rfl, by show 2 ≤ sizeLine; decide, fun t ht => ?_⟩
        have nlt : l0 ≠ t := ne_of_none hl ht
        have nft : fd0 ≠ t := ne_of_none hf ht
        refine ⟨l0, _, _, rfl, rfl, by rw [upd_ne nlt]; exact hl, by show 0 < sizeLine; decide, ?_⟩
        refine ⟨same_put (sm.trans (same_upd ht)) hl0H, ?_, ?_, _, _, _, _, rfl, .inr ⟨rfl, t, upd_same, ?_⟩⟩
        · rw [upd_ne (fun z => by rw [z, hl] at hg1; cases hg1), upd_ne (ne_of_none hg1 ht)]
          exact hg1
        · rw [upd_ne nfl, upd_ne nft]
          exact hf
        · rw [upd_ne (Ne.symm nlt), upd_same]
      · cases h
    rintro σ H1 ⟨sm, _, hf, x5, x6, x7, x8, rfl, hh⟩
    rcases hh with ⟨h, _⟩ | ⟨_, t, hl, ht⟩
    · cases h
    refine ⟨fun mm σ H' => Same H H' ∧ ∃ ln x5 x6 x7 x8, σ = [some (.ref m), some (.ref b), some (.ref wr), some (.ref fd0), some (.ref ln), x5, x6, x7, x8] ∧ ((mm = 1 ∧ H' fd0 = some (.dK []) ∧ ∃ t, H' ln = some (.lst [.ref t]) ∧ H' t = some (.tup [.int 0, .int 0])) ∨ (mm = 0 ∧ H' ln = some (.lst []) ∧ H' fd0 = some (.dK [(.inl 0, .int 0)]))), ⟨1, sm, l0, _, _, _, _, rfl, .inl ⟨rfl, hf, t, hl, ht⟩⟩, ?_⟩
    rintro mm σ H2 ⟨sm2, ln, y5, y6, y7, y8, rfl, hh⟩
    refine ⟨_, rfl, by show 0 ≤ sizeLine; decide, fun e he => ?_⟩
    rcases hh with ⟨rfl, hf2, t2, hl2, ht2⟩ | ⟨rfl, hl2, hf2⟩
    · have s3 : Same H2 (upd H2 e (.lst [])) := same_upd he
      refine ⟨ln, e, _, rfl, rfl, SqL.of (s3 _ _ hl2), SqL.of upd_same, _, rfl, iteT' rfl ?_⟩
      have sA := sm2.trans s3
      have hfA := s3 _ _ hf2
      have hlA := s3 _ _ hl2
      have htA := s3 _ _ ht2
      generalize upd H2 e (.lst []) = H3 at sA hfA hlA htA
      refine ⟨fun σ H' => Same H H' ∧ ∃ ln x5 x6 x7 x8, σ = [some (.ref m), some (.ref b), some (.ref wr), some (.ref fd0), some (.ref ln), x5, x6, x7, x8] ∧ H' ln = some (.lst []) ∧ H' fd0 = some (.dK [(.inl 0, .int 0)]), fun σ' H' h => ⟨0, by decide, h.1, ?_⟩, ?_⟩
      · obtain ⟨_, ln, z5, z6, z7, z8, e1, e2, e3⟩ := h
        exact ⟨ln, z5, z6, z7, z8, e1, .inr ⟨rfl, e2, e3⟩⟩
      refine ⟨by show 0 ≤ sizeLine; decide, fun lt hlt => ?_⟩
      have hltH : H lt = none := fresh_of sA hlt
      have s4 : Same H3 (upd H3 lt (.lst [])) := same_upd hlt
      have nfl2 : fd0 ≠ lt := ne_of_none hfA hlt
      have nll : ln ≠ lt := ne_of_none hlA hlt
      have sB := sA.trans s4
      have hfB := s4 _ _ hfA
      have hlB := s4 _ _ hlA
      have htB := s4 _ _ htA
      have hltB : upd H3 lt (.lst []) lt = some (.lst []) := upd_same
      generalize upd H3 lt (.lst []) = H4 at sB hfB hlB htB hltB
      refine ⟨_, rfl, ln, rfl, ⟨_, SqL.of hlB⟩, ?_⟩
      refine for_it (walk_list (xs := [V.ref t2])) (fun i σ H' => Same H H' ∧ H' ln = some (.lst [.ref t2]) ∧ H' t2 = some (.tup [.int 0, .int 0]) ∧ H' lt = some (.lst []) ∧ ∃ x5 x7 x8, σ = [some (.ref m), some (.ref b), some (.ref wr), some (.ref fd0), some (.ref ln), x5, some (.ref lt), x7, x8] ∧ ((i = 0 ∧ H' fd0 = some (.dK [])) ∨ (i = 1 ∧ H' fd0 = some (.dK [(.inl 0, .int 0)])))) ⟨sB, hlB, htB, hltB, _, _, _, rfl, .inl ⟨rfl, hfB⟩⟩ (fun i σ H' _ h => SqL.of h.2.1) ?_ ?_
      · rintro i x σ H5 H6 hi ⟨sm5, hl5, ht5, hlt5, z5, z7, z8, rfl, hh⟩ ⟨rfl, hx⟩
        have ei : i = 0 := by simpa using hi
        subst ei
        obtain rfl : V.ref t2 = x := Option.some.inj hx
        rcases hh with ⟨_, hf5⟩ | ⟨h, _⟩
        · refine ⟨t2, _, rfl, SqT.of ht5, rfl, _, _, rfl, _, _, rfl, rfl, ?_⟩
          refine ⟨_, rfl, fd0, rfl, .inl ⟨_, .inl hf5⟩, _, rfl, _, rfl, [], .inl 0, hf5, rfl, by decide, fun v hv => (by cases hv), fun _ => ?_⟩
          refine ⟨_, rfl, rfl, _, rfl, iteF' rfl ?_⟩
          have nl : ∀ a o, H6 a = some o → o ≠ .dK [] → a ≠ fd0 := fun a o ha hne z => by rw [z, hf5] at ha; exact hne (Option.some.inj ha).symm
          refine ⟨same_put sm5 hfd0, ?_, ?_, ?_, _, _, _, rfl, .inr ⟨rfl, upd_same⟩⟩
          · rw [upd_ne (nl _ _ hl5 (fun z => nomatch z))]; exact hl5
          · rw [upd_ne (nl _ _ ht5 (fun z => nomatch z))]; exact ht5
          · rw [upd_ne (nl _ _ hlt5 (fun z => nomatch z))]; exact hlt5
        · cases h
      rintro σ H5 ⟨sm5, hl5, ht5, hlt5, z5, z7, z8, rfl, hh⟩
      rcases hh with ⟨h, _⟩ | ⟨_, hf5⟩
      · cases h
      refine ⟨_, rfl, ln, t2, rfl, hl5, ht5, fun H6 p t' s6 hp hpl ht' => ?_⟩
      refine ⟨p, rfl, ⟨_, SqL.of hpl⟩, ?_⟩
      have npl : p ≠ lt := fun z => by rw [z, hlt5] at hp; cases hp
      refine for_it (walk_list (xs := [V.ref t'])) (fun i σ H' => Same H H' ∧ H' p = some (.lst [.ref t']) ∧ H' t' = some (.tup [.int 0, .int 0]) ∧ H' fd0 = some (.dK [(.inl 0, .int 0)]) ∧ ∃ (zs : List Addr) (x5 x7 x8 : Option V), σ = [some (.ref m), some (.ref b), some (.ref wr), some (.ref fd0), some (.ref ln), x5, some (.ref lt), x7, x8] ∧ H' lt = some (.lst (zs.map V.ref)) ∧ zs.length ≤ 4 * i ∧ ∀ z ∈ zs, H' z = some (.tup [.int 0, .int 0])) ⟨sm5.trans s6, hpl, ht', s6 _ _ hf5, [], _, _, _, rfl, s6 _ _ hlt5, by decide, fun z hz => by cases hz⟩ (fun i σ H' _ h => SqL.of h.2.1) ?_ ?_
      · rintro i x σ H7 H8 hi ⟨sm7, hp7, ht7, hf7, zs, w5, w7, w8, rfl, hlt7, hzl, hzs⟩ ⟨rfl, hx⟩
        have ei : i = 0 := by simpa using hi
        subst ei
        obtain rfl : V.ref t' = x := Option.some.inj hx
        have ez : zs = [] := List.eq_nil_of_length_eq_zero (by omega)
        subst ez
        refine ⟨t', _, rfl, SqT.of ht7, rfl, _, _, rfl, _, _, rfl, rfl, ?_⟩
        have l2 := lo.l2
        refine ⟨_, rfl, _, rfl, _, rfl, m, ls, rfl, hm.same sm7, by omega, fun H9 p3 ps s9 hp3 hl9 e1 e2 => ?_⟩
        refine ⟨p3, rfl, ⟨_, SqL.of hl9⟩, ?_⟩
        have np3 : p3 ≠ lt := fun z => by rw [z, hlt7] at hp3; cases hp3
        have psl : ps.length = ls.length := by
          have := congrArg List.length e1
          rw [List.length_map, Array.length_toList] at this
          exact this
        refine for_it (walk_list (xs := ps.map fun q => V.ref q.2)) (fun j σ H' => Same H H' ∧ H' p = some (.lst [.ref t']) ∧ H' t' = some (.tup [.int 0, .int 0]) ∧ H' fd0 = some (.dK [(.inl 0, .int 0)]) ∧ H' p3 = some (.lst (ps.map fun q => V.ref q.2)) ∧ (∀ q ∈ ps, H' q.2 = some (.tup ((kS true q.1).map kV))) ∧ ∃ (zs : List Addr) (x8 : Option V), σ = [some (.ref m), some (.ref b), some (.ref wr), some (.ref fd0), some (.ref ln), some (.int 0), some (.ref lt), some (.int 0), x8] ∧ H' lt = some (.lst (zs.map V.ref)) ∧ zs.length = j ∧ ∀ z ∈ zs, H' z = some (.tup [.int 0, .int 0])) ⟨sm7.trans s9, s9 _ _ hp7, s9 _ _ ht7, s9 _ _ hf7, hl9, e2, [], _, rfl, s9 _ _ hlt7, rfl, fun z hz => by cases hz⟩ (fun i σ H' _ h => SqL.of h.2.2.2.2.1) ?_ ?_
        · rintro j x σ Ha Hb hj ⟨sma, hpa, hta, hfa, hp3a, e2a, zs, v8, rfl, hlta, hzla, hzsa⟩ ⟨rfl, hx⟩
          rw [List.getElem?_map] at hx
          obtain ⟨q0, hq0, rfl⟩ := Option.map_eq_some_iff.mp hx
          have hqm := List.mem_of_getElem? hq0
          have hk := e2a _ hqm
          have rta := rt.same sma
          have hc : q0.1 ∈ ws.map (·.1) := by
            rw [rta.names, ← e1]
            exact List.mem_map.mpr ⟨q0, hqm, rfl⟩
          obtain ⟨ga, hga, hval⟩ := wS_get hc
          have hval' : valV (wS ws) (kS true q0.1) = some (.ref ga) := hval
          have hgg := rta.goals _ hga
          refine ⟨_, rfl, _, rfl, wr, _, rfl, DGet.t (k := kS true q0.1) rta.writes hk, _, rfl, iteF' (by rw [hval']; rfl) ?_⟩
          refine ⟨_, rfl, .inl ⟨rfl, _, SqL.of hlta⟩, ?_⟩
          refine ⟨_, rfl, _, rfl, wr, .ref ga, rfl, by rw [← hval']; exact DGet.t (k := kS true q0.1) rta.writes hk, ga, _, 1, .int 0, rfl, rfl, SqT.of hgg, atI_nat (j := 1) rfl, _, rfl, q0.2, _, 2, .int 0, rfl, rfl, SqT.of hk, atI_nat (j := 2) rfl, by show 2 ≤ sizeLine; decide, fun tn htn => ?_⟩
          have nlt : lt ≠ tn := ne_of_none hlta htn
          have hj' : j < ls.length := by
            have : j < (ps.map fun q => V.ref q.2).length := hj
            rw [List.length_map, psl] at this
            exact this
          refine ⟨lt, _, _, rfl, rfl, by rw [upd_ne nlt]; exact hlta, by rw [List.length_map, hzla]; exact Nat.lt_of_lt_of_le (show j < 4 by omega) (by decide), ?_⟩
          have keep : ∀ a o, Hb a = some o → o ≠ .lst (zs.map V.ref) → upd (upd Hb tn (.tup [.int 0, .int 0])) lt (.lst (zs.map V.ref ++ [.ref tn])) a = some o := fun a o ha hne => by
            rw [upd_ne (fun z => by rw [z, hlta] at ha; exact hne (Option.some.inj ha).symm), upd_ne (ne_of_none ha htn)]
            exact ha
          have keepL : ∀ a o, Hb a = some o → a ≠ lt → upd (upd Hb tn (.tup [.int 0, .int 0])) lt (.lst (zs.map V.ref ++ [.ref tn])) a = some o := fun a o ha hne => by
            rw [upd_ne hne, upd_ne (ne_of_none ha htn)]
            exact ha
          refine ⟨same_put (sma.trans (same_upd htn)) hltH, keepL _ _ hpa npl, keep _ _ hta (fun z => nomatch z), keep _ _ hfa (fun z => nomatch z), keepL _ _ hp3a np3, fun q hq => keep _ _ (e2a q hq) (fun z => nomatch z), zs ++ [tn], _, rfl, ?_, by rw [List.length_append, hzla]; rfl, fun z hz => ?_⟩
          · rw [upd_same, List.map_append]
            rfl
          · rcases List.mem_append.mp hz with hz | hz
            · exact keep _ _ (hzsa z hz) (fun z => nomatch z)
            · obtain rfl : z = tn := by simpa using hz
              rw [upd_ne (Ne.symm nlt), upd_same]
        · rintro σ Ha ⟨sma, hpa, hta, hfa, hp3a, e2a, zs, v8, rfl, hlta, hzla, hzsa⟩
          refine ⟨sma, hpa, hta, hfa, zs, _, _, _, rfl, hlta, ?_, hzsa⟩
          rw [hzla, List.length_map, psl]
          omega
      rintro σ H7 ⟨sm7, hp7, ht7, hf7, zs, w5, w7, w8, rfl, hlt7, hzl, hzs⟩
      refine ⟨_, rfl, lt, rfl, ⟨_, SqL.of hlt7⟩, fun D hD => ?_⟩
      have hzl' : zs.length ≤ 4 := hzl
      refine lc_genF (walk_list (xs := zs.map V.ref)) (List.replicate zs.length none) (by simp) (by rw [List.length_map]; exact sz60 (by omega)) hD (fun H8 sm8 => SqL.of (sm8 _ _ hlt7)) ?_ ?_
      · rintro j x H8 H9 K1 K0 hj sm8 hD2 ⟨rfl, hx⟩ k1 k0
        rw [List.getElem?_map] at hx
        obtain ⟨z0, hz0, rfl⟩ := Option.map_eq_some_iff.mp hx
        have hzt := sm8 _ _ (hzs _ (List.mem_of_getElem? hz0))
        have hf9 := sm8 _ _ hf7
        refine ⟨z0, _, rfl, SqT.of hzt, rfl, _, _, rfl, _, _, rfl, rfl, rfl, ?_⟩
        refine ⟨_, rfl, fd0, rfl, .inl ⟨_, .inl hf9⟩, _, rfl, _, DGet.k (k := Sum.inl 0) hf9, _, rfl, rfl, _, rfl, ?_⟩
        refine iteF' rfl (k0 _ ?_ rfl sm8)
        have hj' : j < zs.length := by simpa using hj
        rw [List.getElem?_replicate, if_pos hj']
      · intro H8 sm8 hl8
        have e8 : (List.replicate zs.length (none : Option V)).filterMap id = [] := by
          rw [List.filterMap_eq_nil_iff]
          intro a ha
          rw [List.eq_of_mem_replicate ha]
          rfl
        rw [e8] at hl8
        exact ⟨sm7.trans sm8, D, _, _, _, _, rfl, hl8, sm8 _ _ hf7⟩
    · have s3 : Same H2 (upd H2 e (.lst [])) := same_upd he
      refine ⟨ln, e, _, rfl, rfl, SqL.of (s3 _ _ hl2), SqL.of upd_same, _, rfl, iteF' rfl ?_⟩
      exact ⟨_, rfl, q _ _ (sm2.trans s3) hfd0 (s3 _ _ hf2)⟩
end
end K67
end
section
set_option Elab.async false
set_option linter.all false
set_option maxRecDepth 100000
set_option maxHeartbeats 4000000
namespace K67
open PySem PySem.Spec PyProof.Rows L2
theorem keepFrz {H0 H2 : Hp} {a : Addr} {od : Obj} {u u' : HO} {x : Addr} (sm : Same (upd H0 a (.frz od u)) H2) (ha : H0 a = some u) (hne : u' ≠ u) (hx : H0 x = some u') : H2 x = some u' :=
  sm _ _ (by rw [upd_ne (fun z => hne (by rw [z, ha] at hx; exact (Option.some.inj hx).symm))]; exact hx)
section
variable {P : Program} {w : World} {K : PySem.W.Frag} {mg : Str → Option Value} {base : Heap} {T : Cls3}
/-! ### is_complete -/
theorem ok_is_complete (cf : CF K T) {f : Addr} {fd : FuncData} (F : FnP K "is_complete" "is_complete" s_is_complete f fd) (B : BN mg) (c1 : Cal P w K mg base CX0 2 "met_in" (spMetIn T)) : FnOk P w K mg base CX0 3 f fd ["marks", "begins", "steps", "ends"] (spForms T) := by
  have S := sc_is_complete
  refine ok0 F S (fun vs H Q E h => ?_) (fun cdv A outer s H vs Q E hr h => ?_)
  · obtain ⟨m, ls, b, wr, la, tb, ws, rfl, _⟩ := h
    rfl
  · obtain ⟨m, ls, b, wr, la, tb, ws, rfl, hm, lo, rt, q⟩ := h
    refine ⟨_, (pss_cons (ps_set (i := 4) S.nd rfl (.inr rfl) (pe_c c1 hr (by decide) (by rfl) (E := E0) pass0 (pa_cons (pv 0) (pa_cons (pv 1) (pa_cons (pv 2) pa_nil)))))
      (pss_cons (ps_if (PW.pt (pw_or (pt_cmpR op_isN (pv 4) pe_non (nomark _)) (pw_or1 (pt_cmpR (op_neD (hu_of' hr)) (pe_callB cr_sorted (by rfl) B.sorted (by decide +kernel) (pa_cons (pe_callTy (call_list_dK rfl) (by rfl) B.list (by decide +kernel) (pa_cons (pv 3) pa_nil)) pa_nil)) (pe_lock (pe_callB cr_sorted (by rfl) B.sorted (by decide +kernel) (pa_cons (pe_lc (own := [("state", 5)]) (g := gName 5) rfl S.nd (pi_keys (pv 4)) (blkOk_by (N := ["marks", "begins", "steps", "ends", "found", "state", "key"]) (sc := defScope s_is_complete) (by decide +kernel)) (fun _ _ _ _ _ => (pg_name (i := 5) S.nd rfl (Or.inl rfl))) (fun _ _ _ _ _ => (pts_one (pt_cmpR op_eq (pe_dget (hu_of hr) (pv 4) (pv 5) (fun _ _ => rfl)) pe_int (nomark _)))) (fun _ _ _ _ _ => (pv 5))) pa_nil))) (nomark _))))) (pss_one (ps_ret pe_bl)) pss_nil)
      (pss_one (ps_ret (pe_lock (pe_callB (cr_all rfl) (by rfl) B.all (by decide +kernel) (pa_cons (pe_lc (own := [("key", 6)]) (g := gName 6) (tt := tYes) rfl S.nd (pi_keys (pv 2)) (blkOk_by (N := ["marks", "begins", "steps", "ends", "found", "state", "key"]) (sc := defScope s_is_complete) (by decide +kernel)) (fun _ _ _ _ _ => (pg_name (i := 6) S.nd rfl (Or.inl rfl))) (fun _ _ _ _ _ => pts_nil) (fun _ _ _ _ _ => (pe_cmpR op_eq (pe_dget1 (hu_of hr) (pv 4) (pe_ix (show IxR _ (rIxT K) from ix_tup) (pv 6) pe_int (fun _ _ => rfl)) ⟨rfl, rfl, rfl, rfl⟩) (pe_dget (hu_of hr) (pe_fldK (K := K) rfl (pv 0) rfl) (pe_tup (pa_cons (pe_ix (show IxR _ (rIxT K) from ix_tup) (pv 6) pe_int (fun _ _ => rfl)) (pa_cons (pe_ix (show IxR _ (rIxT K) from ix_tup) (pv 6) pe_int (fun _ _ => rfl)) pa_nil))) (fun _ _ => rfl)) (nomark _)))) pa_nil))))))), ?_⟩
    refine ⟨_, rfl, _, rfl, _, rfl, m, ls, b, wr, la, tb, ws, rfl, hm, lo, rt, fun H1 p s1 hp hp1 => ?_⟩
    have rt1 := rt.same s1
    refine ⟨_, rfl, rfl, _, rfl, iteF' (by simp) ?_⟩
    refine ⟨_, rfl, la, _, rfl, rt1.last, fun l1 hl1 => ⟨l1, [0], rfl, SqL.of upd_same, by decide, fun ns' p2 hpm _ hp2 => ?_⟩⟩
    obtain rfl : ns' = [0] := List.perm_singleton.mp hpm
    have s2 : Same H1 (upd (upd H1 l1 (.lst (List.map (fun kv : Key × V => kV kv.1) [(Sum.inl 0, V.str "")]))) p2 (.lst (List.map V.int [0]))) := (same_upd hl1).trans (same_upd hp2)
    have hp2' : upd (upd H1 l1 (.lst (List.map (fun kv : Key × V => kV kv.1) [(Sum.inl 0, V.str "")]))) p2 (.lst (List.map V.int [0])) p2 = some (.lst [.int 0]) := upd_same
    generalize upd (upd H1 l1 (.lst (List.map (fun kv : Key × V => kV kv.1) [(Sum.inl 0, V.str "")]))) p2 (.lst (List.map V.int [0])) = H2 at s2 hp2'
    have hf2 := s2 _ _ hp1
    refine ⟨p, _, hf2, True.intro, fun od => ?_⟩
    refine ⟨_, rfl, p, od, rfl, .inl ⟨_, upd_same, fun D hD => ?_⟩⟩
    refine lc_genF (walk_keys (kvs := [(Sum.inl 0, V.int 0)])) [some (.int 0)] rfl (by show 1 ≤ sizeLine; decide) hD (fun H3 sm => sm _ _ upd_same) ?_ ?_
    · rintro i x H3 H4 K1 K0 hi sm hD2 ⟨rfl, kk, v, hk, rfl⟩ k1 k0
      have ei : i = 0 := by simpa using hi
      subst ei
      cases hk
      have fz : H4 p = some (.frz od (.dK [(.inl 0, .int 0)])) := sm _ _ upd_same
      refine ⟨rfl, _, rfl, _, rfl, p, .int 0, rfl, .inl ⟨_, .inl 0, .inr ⟨od, fz⟩, rfl, rfl⟩, rfl, _, rfl, iteT' (by decide) ?_⟩
      exact ⟨_, rfl, k1 _ _ rfl rfl sm⟩
    · intro H3 sm hl3
      refine ⟨D, [0], rfl, SqL.of hl3, by decide, fun ns' p3 hpm _ hp3 => ?_⟩
      obtain rfl : ns' = [0] := List.perm_singleton.mp hpm
      have sm3 : Same (upd H2 p (.frz od (.dK [(.inl 0, .int 0)]))) (upd H3 p3 (.lst (List.map V.int [0]))) := sm.trans (same_upd hp3)
      have hp3' : upd H3 p3 (.lst (List.map V.int [0])) p3 = some (.lst [.int 0]) := upd_same
      generalize upd H3 p3 (.lst (List.map V.int [0])) = H4 at sm3 hp3'
      refine ⟨same_lock sm3, ?_⟩
      have s4 := same_unlock hf2 sm3
      have np3 : p3 ≠ p := fun z => by
        rw [z, same_lock sm3] at hp3'
        cases hp3'
      have hp5 : upd H4 p (.dK [(.inl 0, .int 0)]) p3 = some (.lst [.int 0]) := by rw [upd_ne np3]; exact hp3'
      generalize upd H4 p (.dK [(.inl 0, .int 0)]) = H5 at s4 hp5
      refine ⟨.list [.int 0], .list [.int 0], .lst (SqL.of (s4 _ _ hp2')) (.cons (.int 0) .nil), .lst (SqL.of hp5) (.cons (.int 0) .nil), by decide +kernel, by decide +kernel, _, rfl, iteF' (by decide +kernel) ?_⟩
      have s15 := (s1.trans s2).trans s4
      have rt5 := rt.same s15
      have hm5 := hm.same s15
      have hf5 := s4 _ _ hf2
      have hne := rt5.ne lo.l1
      have len := wS_len ws
      have wl : ws.length = ls.length := by
        have := congrArg List.length rt5.names
        rw [List.length_map, Array.length_toList] at this
        exact this
      have hz4 := lo.l2
      have bt : ∀ n : Nat, ((List.replicate n true).map V.bl) = List.replicate n (V.bl true) := fun n => by rw [List.map_replicate]
      have al : ∀ n : Nat, (List.replicate n true).all id = true := fun n => by simp
      have hmL : ∀ od, IsMarks T (upd H5 wr (.frz od (.dT (wS ws)))) m ls := fun od => isMarks_upd hm5 rt5.writes (fun _ _ z => nomatch z) (wS_ne hne) (fun _ z => nomatch z) (fun _ z => nomatch z)
      refine ⟨wr, .dT (wS ws), rt5.writes, True.intro, fun od2 => ?_⟩
      refine ⟨_, rfl, wr, od2, rfl, .inr ⟨_, upd_same, fun D2 hD2 => ?_⟩⟩
      refine lc_gen2 walk_keysT ((List.replicate (wS ws).length true).map V.bl) (by simp) (by rw [len]; exact sz60 (by omega)) hD2 (fun H2 sm => sm _ _ upd_same) ?_ ?_
      · rintro i x H6 H7 K1 hi sm6 ⟨o, hD3⟩ ⟨rfl, kk, v, qa, hk, rfl, hqa⟩ k
        obtain ⟨q0, hq0, rfl, rfl⟩ := wS_at hk
        have hqm := List.mem_of_getElem? hq0
        have hc : q0.1 ∈ ls.cps.toList := by
          rw [← rt5.names]
          exact List.mem_map.mpr ⟨q0, hqm, rfl⟩
        have hf7 : H7 p = some (.dK [(.inl 0, .int 0)]) := keepFrz sm6 rt5.writes (fun z => nomatch z) hf5
        obtain ⟨dx, sd, g, nl, h1, h2, h3, h4⟩ := (hmL od2).same sm6
        refine ⟨rfl, _, rfl, p, rfl, .inl ⟨_, .inl hf7⟩, _, rfl, qa, _, 0, .int 0, rfl, rfl, SqT.of hqa, atI_nat (j := 0) rfl, _, DGet.k (k := Sum.inl 0) hf7, ?_⟩
        refine ⟨_, rfl, m, T.m, dx, _, _, rfl, h1, cf.im.cl, cf.nm _ (by decide +kernel), rfl, _, rfl, qa, _, 1, .str ⟨#[q0.1]⟩, rfl, rfl, SqT.of hqa, atI_nat (j := 1) rfl, _, rfl, qa, _, 2, .int 0, rfl, rfl, SqT.of hqa, atI_nat (j := 2) rfl, by show 2 ≤ sizeLine; decide, fun t ht => ?_⟩
        refine ⟨sd, .int 0, rfl, ?_, ?_⟩
        · rw [← mkS_get hc]
          exact DGet.t (by rw [upd_ne (ne_of_none h2 ht)]; exact h2) upd_same
        refine ⟨rfl, k _ _ ?_ (by rw [upd_ne (ne_of_none hD3 ht)]) (sm6.trans (same_upd ht))⟩
        rw [bt, List.getElem?_replicate, if_pos hi]
        rfl
      · intro H6 sm6 hl6
        refine ⟨D2, _, rfl, SqL.of hl6, same_lock sm6, ?_⟩
        rw [al]
        exact q _ (s15.trans (same_unlock rt5.writes sm6))
end
end K67
end
section
set_option Elab.async false
set_option linter.all false
set_option maxRecDepth 100000
set_option maxHeartbeats 4000000
namespace K67
open PySem PySem.Spec PyProof.Rows L2
theorem marks_sameE {T : Cls3} {H H' : Hp} {m x dx : Addr} {ls : Str} {fs : List (Str × V)} (h : IsMarks T H m ls) (s : SameE x H H') (hx : H x = some (.ins T.t dx fs)) (n : T.t ≠ T.m) : IsMarks T H' m ls := by
  obtain ⟨d, sd, g, nl, h1, h2, h3, h4⟩ := h
  refine ⟨d, sd, g, nl, s _ _ (fun z => ?_) h1, s _ _ (fun z => ?_) h2, s _ _ (fun z => ?_) h3, s _ _ (fun z => ?_) h4⟩
  · rw [z, hx] at h1
    injection h1 with h1
    injection h1 with h1
    exact n h1
  · rw [z, hx] at h2; cases h2
  · rw [z, hx] at h3; cases h3
  · rw [z, hx] at h4; cases h4
section
variable {P : Program} {w : World} {K : PySem.W.Frag} {mg : Str → Option Value} {base : Heap} {T : Cls3}
/-! ### TwoPass(marks, begins=.., steps=.., ends=..) of one mark and one state -/
def spMakeT (T : Cls3) : Sp := fun vs H Q _ => ∃ x dx m ls b wr la tb ws, vs = [.ref x, .ref m, .ref b, .ref wr, .ref la] ∧ H x = some (.ins T.t dx []) ∧ IsMarks T H m ls ∧ LsOk ls ∧ RawTwo H ls b wr la tb ws ∧
  ∀ H', SameE x H H' → IsTwo T H' x ls → (∃ p, TwoAt T H' x ls p ∧ p.m = m) → Q .non H'
theorem ok_make_two (cf : CF K T) {f : Addr} {fd : FuncData} (F : FnP K "__init__" "TwoPass.__init__" s_TwoPass_init f fd) (B : BN mg) (c1 : Cal P w K mg base CX0 1 "require_marks" (spReqMk T)) (c2 : Cal P w K mg base CX0 4 "have_forms" (spForms T)) (c3 : Cal P w K mg base CX0 3 "is_complete" (spForms T)) (c4 : Cal P w K mg base CX0 2 "met_in" (spMetIn T)) :
    FnOk P w K mg base CX0 5 f fd ["self", "marks", "begins", "steps", "ends"] (spMakeT T) := by
  have S := sc_TwoPass_init
  refine ok0 F S (fun vs H Q E h => ?_) (fun cdv A outer s H vs Q E hr h => ?_)
  · obtain ⟨x, dx, m, ls, b, wr, la, tb, ws, rfl, _⟩ := h
    rfl
  · obtain ⟨x, dx, m, ls, b, wr, la, tb, ws, rfl, hx, hm, lo, rt, q⟩ := h
    refine ⟨_, (pss_cons (ps_expr (pe_c c1 hr (by decide) (by rfl) (E := E0) pass0 (pa_cons (pv 1) pa_nil)))
      (pss_cons (ps_if (PW.pt (pw_or (pt_not (pt_val (pe_c c2 hr (by decide) (by rfl) (E := E0) pass0 (pa_cons (pv 1) (pa_cons (pv 2) (pa_cons (pv 3) (pa_cons (pv 4) pa_nil))))))) (pw_or1 (pt_not (pt_val (pe_c c3 hr (by decide) (by rfl) (E := E0) pass0 (pa_cons (pv 1) (pa_cons (pv 2) (pa_cons (pv 3) (pa_cons (pv 4) pa_nil)))))))))) (pss_one ps_no) pss_nil)
      (pss_cons (ps_set (i := 5) S.nd rfl (.inr rfl) (pe_c c4 hr (by decide) (by rfl) (E := E0) pass0 (pa_cons (pv 1) (pa_cons (pv 2) (pa_cons (pv 3) pa_nil)))))
      (pss_cons (ps_fld (pv 0) (pv 1) rfl)
      (pss_cons (ps_fld (pv 0) (pe_fldK (K := K) rfl (pv 1) rfl) rfl)
      (pss_cons (ps_fld (pv 0) (pe_dc (own := [("mark", 6)]) (g := gName 6) (tt := tYes) rfl S.nd (pi_list (pe_callB cr_sorted (by rfl) B.sorted (by decide +kernel) (pa_cons (pe_callTy (call_list_dK rfl) (by rfl) B.list (by decide +kernel) (pa_cons (pv 2) pa_nil)) pa_nil))) (blkOk_by (N := ["self", "marks", "begins", "steps", "ends", "found", "mark", "key", "state"]) (sc := defScope s_TwoPass_init) (by decide +kernel)) (fun _ _ _ _ _ => (pg_name (i := 6) S.nd rfl (Or.inl rfl))) (fun _ _ _ _ _ => pts_nil) (fun _ _ _ _ _ => pv 6) (fun _ _ _ _ _ => pe_dget (hu_of hr) (pv 2) (pv 6) (fun _ _ => rfl))) rfl)
      (pss_cons (ps_fld (pv 0) (pe_dcT' (own := [("key", 7)]) (g := gName 7) (tt := tYes) (hu_of' hr) rfl S.nd (pi_list (pe_callB cr_sortedKS (by rfl) B.sorted (by decide +kernel) (pa_cons (pe_callTy (call_list_dT rfl) (by rfl) B.list (by decide +kernel) (pa_cons (pv 3) pa_nil)) pa_nil))) (blkOk_by (N := ["self", "marks", "begins", "steps", "ends", "found", "mark", "key", "state"]) (sc := defScope s_TwoPass_init) (by decide +kernel)) (fun _ _ _ _ _ => (pg_name (i := 7) S.nd rfl (Or.inl rfl))) (fun _ _ _ _ _ => pts_nil) (fun _ _ _ _ _ => pv 7) (fun _ _ _ _ _ => pe_dget (hu_of hr) (pv 3) (pv 7) (fun _ _ => rfl))) rfl)
      (pss_cons (ps_fld (pv 0) (pe_dc (own := [("state", 8)]) (g := gName 8) (tt := tYes) rfl S.nd (pi_list (pe_callB cr_sorted (by rfl) B.sorted (by decide +kernel) (pa_cons (pe_callTy (call_list_dK rfl) (by rfl) B.list (by decide +kernel) (pa_cons (pv 4) pa_nil)) pa_nil))) (blkOk_by (N := ["self", "marks", "begins", "steps", "ends", "found", "mark", "key", "state"]) (sc := defScope s_TwoPass_init) (by decide +kernel)) (fun _ _ _ _ _ => (pg_name (i := 8) S.nd rfl (Or.inl rfl))) (fun _ _ _ _ _ => pts_nil) (fun _ _ _ _ _ => pv 8) (fun _ _ _ _ _ => pe_dget (hu_of hr) (pv 4) (pv 8) (fun _ _ => rfl))) rfl)
      (pss_one (ps_fld (pv 0) (pe_dc (own := [("state", 8)]) (g := gName 8) (tt := tYes) rfl S.nd (pi_list (pe_callB cr_sorted (by rfl) B.sorted (by decide +kernel) (pa_cons (pe_callTy (call_list_dK rfl) (by rfl) B.list (by decide +kernel) (pa_cons (pv 5) pa_nil)) pa_nil))) (blkOk_by (N := ["self", "marks", "begins", "steps", "ends", "found", "mark", "key", "state"]) (sc := defScope s_TwoPass_init) (by decide +kernel)) (fun _ _ _ _ _ => (pg_name (i := 8) S.nd rfl (Or.inl rfl))) (fun _ _ _ _ _ => pts_nil) (fun _ _ _ _ _ => pv 8) (fun _ _ _ _ _ => pe_dget (hu_of hr) (pv 5) (pv 8) (fun _ _ => rfl))) rfl)))))))))), ?_⟩
    have cl := cf.it.cl
    have t4 := lo.l2
    have t1 := lo.l1
    have wl : ws.length = ls.length := by
      have := congrArg List.length rt.names
      rw [List.length_map, Array.length_toList] at this
      exact this
    have nx : ∀ a o, H a = some o → (∀ d fs, o ≠ .ins T.t d fs) → a ≠ x := fun a o h hne z => by
      rw [z, hx] at h
      exact hne _ _ (Option.some.inj h).symm
    have xb := nx _ _ rt.begins (fun _ _ z => nomatch z)
    have xw := nx _ _ rt.writes (fun _ _ z => nomatch z)
    have xl := nx _ _ rt.last (fun _ _ z => nomatch z)
    have xt := nx _ _ rt.target (fun _ _ z => nomatch z)
    refine ⟨_, rfl, m, ls, rfl, hm, ?_⟩
    refine ⟨_, rfl, _, rfl, _, rfl, _, rfl, m, ls, b, wr, la, tb, ws, rfl, hm, lo, rt, fun H1 s1 => ⟨_, rfl, iteF' rfl ?_⟩⟩
    refine ⟨_, rfl, _, rfl, _, rfl, _, rfl, m, ls, b, wr, la, tb, ws, rfl, hm.same s1, lo, rt.same s1, fun H2 s2 => ⟨_, rfl, iteF' rfl ?_⟩⟩
    have s12 := s1.trans s2
    refine ⟨_, rfl, _, rfl, _, rfl, m, ls, b, wr, la, tb, ws, rfl, hm.same s12, lo, rt.same s12, fun H3 fo s3 hfo hfo3 => ?_⟩
    have s13 := s12.trans s3
    have hx3 := s13 _ _ hx
    have xf : fo ≠ x := fun z => by rw [z, hx3] at hfo3; cases hfo3
    refine ⟨_, rfl, _, rfl, x, T.t, dx, _, rfl, hx3, cl, cf.nt _ (by decide +kernel), by show 0 < 1000; decide, ?_⟩
    have e4 : SameE x H (upd H3 x (.ins T.t dx (putF "own_marks" (.ref m) []))) := SameE.put (.of s13)
    have hf4 : upd H3 x (.ins T.t dx (putF "own_marks" (.ref m) [])) fo = some (.dK [(.inl 0, .int 0)]) := by rw [upd_ne xf]; exact hfo3
    have hx4 : upd H3 x (.ins T.t dx (putF "own_marks" (.ref m) [])) x = some (.ins T.t dx (putF "own_marks" (.ref m) [])) := upd_same
    generalize upd H3 x (.ins T.t dx (putF "own_marks" (.ref m) [])) = H4 at e4 hf4 hx4
    obtain ⟨dm, sd, g, nl, h1, h2, h3, h4⟩ := marks_sameE hm e4 hx cf.kits.tm
    refine ⟨_, rfl, m, T.m, dm, _, _, rfl, h1, cf.im.cl, cf.nm _ (by decide +kernel), rfl, _, rfl, x, T.t, dx, _, rfl, hx4, cl, cf.nt _ (by decide +kernel), by show 1 < 1000; decide, ?_⟩
    have e5 : SameE x H (upd H4 x (.ins T.t dx (putF "own_letters" (.str ls) (putF "own_marks" (.ref m) [])))) := SameE.put e4
    have hx5 : upd H4 x (.ins T.t dx (putF "own_letters" (.str ls) (putF "own_marks" (.ref m) []))) x = some (.ins T.t dx (putF "own_letters" (.str ls) (putF "own_marks" (.ref m) []))) := upd_same
    have hf5 : upd H4 x (.ins T.t dx (putF "own_letters" (.str ls) (putF "own_marks" (.ref m) []))) fo = some (.dK [(.inl 0, .int 0)]) := by rw [upd_ne xf]; exact hf4
    generalize upd H4 x (.ins T.t dx (putF "own_letters" (.str ls) (putF "own_marks" (.ref m) []))) = H5 at e5 hx5 hf5
    have ha0 := e5 _ _ xb rt.begins
    refine ⟨_, rfl, b, _, rfl, ha0, fun l0 hl0 => ⟨l0, [0], rfl, SqL.of upd_same, by decide, fun ns0 p0 hpm0 _ hp0 => ?_⟩⟩
    obtain rfl : ns0 = [0] := List.perm_singleton.mp hpm0
    have sn0 : Same H5 (upd (upd H5 l0 (.lst (List.map (fun kv : Key × V => kV kv.1) [(Sum.inl 0, V.ref tb)]))) p0 (.lst (List.map V.int [0]))) := (same_upd hl0).trans (same_upd hp0)
    have hq0 : (upd (upd H5 l0 (.lst (List.map (fun kv : Key × V => kV kv.1) [(Sum.inl 0, V.ref tb)]))) p0 (.lst (List.map V.int [0]))) p0 = some (.lst [.int 0]) := upd_same
    generalize upd (upd H5 l0 (.lst (List.map (fun kv : Key × V => kV kv.1) [(Sum.inl 0, V.ref tb)]))) p0 (.lst (List.map V.int [0])) = G0 at sn0 hq0
    refine ⟨p0, rfl, ⟨_, SqL.of hq0⟩, fun D0 hD0 => ?_⟩
    refine dcK_it (walk_list (xs := [V.int 0])) (fun i H' => Same G0 H' ∧ ((i = 0 ∧ H' D0 = some (.dK [])) ∨ (i = 1 ∧ H' D0 = some (.dK [(Sum.inl 0, V.ref tb)])))) ⟨same_upd hD0, .inl ⟨rfl, upd_same⟩⟩ (fun i H' _ h => SqL.of (h.1 _ _ hq0)) ?_ ?_
    · rintro i y H7 H8 hi ⟨sm, hh⟩ ⟨rfl, hy⟩
      have ei : i = 0 := by simpa using hi
      subst ei
      obtain rfl : V.int 0 = y := Option.some.inj hy
      rcases hh with ⟨_, hDi⟩ | ⟨h, _⟩
      · refine ⟨rfl, _, rfl, _, rfl, _, rfl, b, V.ref tb, rfl, DGet.k (k := Sum.inl 0) (sm _ _ (sn0 _ _ ha0)), [], .inl 0, rfl, hDi, by decide, same_put sm hD0, .inr ⟨rfl, ?_⟩⟩
        rw [upd_same]
        rfl
      · cases h
    rintro J0 ⟨sm0, hh⟩
    rcases hh with ⟨h, _⟩ | ⟨_, hdn0⟩
    · cases h
    have sj0 : Same H5 J0 := sn0.trans sm0
    have hxj0 := sj0 _ _ hx5
    have xD0 : D0 ≠ x := fun z => by rw [z, hxj0] at hdn0; cases hdn0
    refine ⟨_, rfl, x, T.t, dx, _, rfl, hxj0, cl, cf.nt _ (by decide +kernel), by show 2 < 1000; decide, ?_⟩
    have e20 : SameE x H (upd J0 x (.ins T.t dx (putF "own_begins" (.ref D0) (putF "own_letters" (.str ls) (putF "own_marks" (.ref m) []))))) := SameE.put (e5.trans (.of sj0))
    have hx20 : upd J0 x (.ins T.t dx (putF "own_begins" (.ref D0) (putF "own_letters" (.str ls) (putF "own_marks" (.ref m) [])))) x = some (.ins T.t dx (putF "own_begins" (.ref D0) (putF "own_letters" (.str ls) (putF "own_marks" (.ref m) [])))) := upd_same
    have hc0_0 : upd J0 x (.ins T.t dx (putF "own_begins" (.ref D0) (putF "own_letters" (.str ls) (putF "own_marks" (.ref m) [])))) fo = some (.dK [(.inl 0, .int 0)]) := by rw [upd_ne xf]; exact sj0 _ _ hf5
    have hd0 : upd J0 x (.ins T.t dx (putF "own_begins" (.ref D0) (putF "own_letters" (.str ls) (putF "own_marks" (.ref m) [])))) D0 = some (.dK [(.inl 0, .ref tb)]) := by rw [upd_ne xD0]; exact hdn0
    generalize upd J0 x (.ins T.t dx (putF "own_begins" (.ref D0) (putF "own_letters" (.str ls) (putF "own_marks" (.ref m) [])))) = H20 at e20 hx20 hc0_0 hd0
    have ha1 := e20 _ _ xw rt.writes
    refine ⟨_, rfl, wr, _, rfl, .inl ha1, fun l1 bs hl1 isk => ?_⟩
    rw [wS_kS] at isk
    obtain ⟨ps, ek1, rfl, ek3⟩ := keys_ps (key := fun q : Nat × Addr => q.1) (val := fun q => V.ref q.2) isk
    have sp1 : Same H20 (upd H20 l1 (.lst ((ps.map (·.2)).map V.ref))) := same_upd hl1
    refine ⟨l1, true, ps, rfl, SqL.of (by rw [upd_same, List.map_map]; rfl), fun q hq => sp1 _ _ (ek3 q hq), ?_, fun p1 hp1 => ?_⟩
    · refine List.pairwise_map.mp ?_
      show (ps.map (·.1)).Pairwise (· < ·)
      rw [ek1, rt.names]
      exact lo.p
    have sn1 : Same H20 (upd (upd H20 l1 (.lst ((ps.map (·.2)).map V.ref))) p1 (.lst (ps.map fun q => V.ref q.2))) := sp1.trans (same_upd hp1)
    have hq1 : (upd (upd H20 l1 (.lst ((ps.map (·.2)).map V.ref))) p1 (.lst (ps.map fun q => V.ref q.2))) p1 = some (.lst (ps.map fun q => V.ref q.2)) := upd_same
    generalize upd (upd H20 l1 (.lst ((ps.map (·.2)).map V.ref))) p1 (.lst (ps.map fun q => V.ref q.2)) = G1 at sn1 hq1
    refine ⟨p1, rfl, ⟨_, SqL.of hq1⟩, fun D1 hD1 => ?_⟩
    have nd : ((wS ws).map (·.1)).Nodup := nodup_kS (b := true) (key := fun q : Nat × Addr => q.1) (val := fun q => V.ref q.2) (by rw [rt.names]; exact lo.p)
    have pl : ps.length = ws.length := by
      have := congrArg List.length ek1
      rw [List.length_map, List.length_map] at this
      exact this
    have len := wS_len ws
    refine dcT_it (walk_list (xs := ps.map fun q => V.ref q.2)) (fun i H' => Same G1 H' ∧ H' D1 = some (.dT ((wS ws).take i))) ⟨same_upd hD1, upd_same⟩ (fun i H' _ h => SqL.of (h.1 _ _ hq1)) ?_ ?_
    · rintro i y H7 H8 hi ⟨sm, hDi⟩ ⟨rfl, hy⟩
      rw [List.getElem?_map] at hy
      obtain ⟨q0, hq0, rfl⟩ := Option.map_eq_some_iff.mp hy
      have hqm := List.mem_of_getElem? hq0
      have hi' : i < ws.length := by
        have : i < (ps.map fun q => V.ref q.2).length := hi
        rw [List.length_map, pl] at this
        exact this
      have hw0 : ws[i]? = some ws[i] := List.getElem?_eq_getElem hi'
      have hc : ws[i].1 = q0.1 := by
        have z1 : (ps.map (·.1))[i]? = some q0.1 := by rw [List.getElem?_map, hq0]; rfl
        have z2 : (ws.map (·.1))[i]? = some ws[i].1 := by rw [List.getElem?_map, hw0]; rfl
        rw [ek1] at z1
        exact Option.some.inj (z2.symm.trans z1)
      have hk : H8 q0.2 = some (.tup ((kS true q0.1).map kV)) := sm _ _ (sn1 _ _ (ek3 _ hqm))
      have hmk : (wS ws)[i]? = some (kS true q0.1, V.ref ws[i].2) := by
        rw [wS_kS, List.getElem?_map, hw0, ← hc]
        rfl
      have hv := valV_nodup nd hmk
      refine ⟨rfl, _, rfl, _, rfl, _, rfl, wr, .ref ws[i].2, rfl, ?_, ?_⟩
      · rw [← hv]
        exact DGet.t (k := kS true q0.1) (sm _ _ (sn1 _ _ ha1)) hk
      · refine ⟨_, ⟨_, kS true q0.1, q0.2, hDi, rfl, hk, ?_, rfl⟩, same_put sm hD1, ?_⟩
        · rw [List.length_take, len]
          exact Nat.lt_of_le_of_lt (Nat.min_le_left _ _) (Nat.lt_of_lt_of_le (show i < 4 by omega) (by decide))
        · rw [upd_same, putK_take nd hmk]
    rintro J1 ⟨sm1, hdn1⟩
    have et1 : (wS ws).take (ps.map fun q => V.ref q.2).length = wS ws := List.take_of_length_le (by rw [List.length_map, pl, len]; exact Nat.le_refl _)
    rw [et1] at hdn1
    have sj1 : Same H20 J1 := sn1.trans sm1
    have hxj1 := sj1 _ _ hx20
    have xD1 : D1 ≠ x := fun z => by rw [z, hxj1] at hdn1; cases hdn1
    refine ⟨_, rfl, x, T.t, dx, _, rfl, hxj1, cl, cf.nt _ (by decide +kernel), by show 3 < 1000; decide, ?_⟩
    have e21 : SameE x H (upd J1 x (.ins T.t dx (putF "own_writes" (.ref D1) (putF "own_begins" (.ref D0) (putF "own_letters" (.str ls) (putF "own_marks" (.ref m) [])))))) := SameE.put (e20.trans (.of sj1))
    have hx21 : upd J1 x (.ins T.t dx (putF "own_writes" (.ref D1) (putF "own_begins" (.ref D0) (putF "own_letters" (.str ls) (putF "own_marks" (.ref m) []))))) x = some (.ins T.t dx (putF "own_writes" (.ref D1) (putF "own_begins" (.ref D0) (putF "own_letters" (.str ls) (putF "own_marks" (.ref m) []))))) := upd_same
    have hc1_0 : upd J1 x (.ins T.t dx (putF "own_writes" (.ref D1) (putF "own_begins" (.ref D0) (putF "own_letters" (.str ls) (putF "own_marks" (.ref m) []))))) fo = some (.dK [(.inl 0, .int 0)]) := by rw [upd_ne xf]; exact sj1 _ _ hc0_0
    have hc1_1 : upd J1 x (.ins T.t dx (putF "own_writes" (.ref D1) (putF "own_begins" (.ref D0) (putF "own_letters" (.str ls) (putF "own_marks" (.ref m) []))))) D0 = some (.dK [(.inl 0, .ref tb)]) := by rw [upd_ne xD0]; exact sj1 _ _ hd0
    have hd1 : upd J1 x (.ins T.t dx (putF "own_writes" (.ref D1) (putF "own_begins" (.ref D0) (putF "own_letters" (.str ls) (putF "own_marks" (.ref m) []))))) D1 = some (.dT (wS ws)) := by rw [upd_ne xD1]; exact hdn1
    generalize upd J1 x (.ins T.t dx (putF "own_writes" (.ref D1) (putF "own_begins" (.ref D0) (putF "own_letters" (.str ls) (putF "own_marks" (.ref m) []))))) = H21 at e21 hx21 hc1_0 hc1_1 hd1
    have ha2 := e21 _ _ xl rt.last
    refine ⟨_, rfl, la, _, rfl, ha2, fun l2 hl2 => ⟨l2, [0], rfl, SqL.of upd_same, by decide, fun ns2 p2 hpm2 _ hp2 => ?_⟩⟩
    obtain rfl : ns2 = [0] := List.perm_singleton.mp hpm2
    have sn2 : Same H21 (upd (upd H21 l2 (.lst (List.map (fun kv : Key × V => kV kv.1) [(Sum.inl 0, V.str "")]))) p2 (.lst (List.map V.int [0]))) := (same_upd hl2).trans (same_upd hp2)
    have hq2 : (upd (upd H21 l2 (.lst (List.map (fun kv : Key × V => kV kv.1) [(Sum.inl 0, V.str "")]))) p2 (.lst (List.map V.int [0]))) p2 = some (.lst [.int 0]) := upd_same
    generalize upd (upd H21 l2 (.lst (List.map (fun kv : Key × V => kV kv.1) [(Sum.inl 0, V.str "")]))) p2 (.lst (List.map V.int [0])) = G2 at sn2 hq2
    refine ⟨p2, rfl, ⟨_, SqL.of hq2⟩, fun D2 hD2 => ?_⟩
    refine dcK_it (walk_list (xs := [V.int 0])) (fun i H' => Same G2 H' ∧ ((i = 0 ∧ H' D2 = some (.dK [])) ∨ (i = 1 ∧ H' D2 = some (.dK [(Sum.inl 0, V.str "")])))) ⟨same_upd hD2, .inl ⟨rfl, upd_same⟩⟩ (fun i H' _ h => SqL.of (h.1 _ _ hq2)) ?_ ?_
    · rintro i y H7 H8 hi ⟨sm, hh⟩ ⟨rfl, hy⟩
      have ei : i = 0 := by simpa using hi
      subst ei
      obtain rfl : V.int 0 = y := Option.some.inj hy
      rcases hh with ⟨_, hDi⟩ | ⟨h, _⟩
      · refine ⟨rfl, _, rfl, _, rfl, _, rfl, la, V.str "", rfl, DGet.k (k := Sum.inl 0) (sm _ _ (sn2 _ _ ha2)), [], .inl 0, rfl, hDi, by decide, same_put sm hD2, .inr ⟨rfl, ?_⟩⟩
        rw [upd_same]
        rfl
      · cases h
    rintro J2 ⟨sm2, hh⟩
    rcases hh with ⟨h, _⟩ | ⟨_, hdn2⟩
    · cases h
    have sj2 : Same H21 J2 := sn2.trans sm2
    have hxj2 := sj2 _ _ hx21
    have xD2 : D2 ≠ x := fun z => by rw [z, hxj2] at hdn2; cases hdn2
    refine ⟨_, rfl, x, T.t, dx, _, rfl, hxj2, cl, cf.nt _ (by decide +kernel), by show 4 < 1000; decide, ?_⟩
    have e22 : SameE x H (upd J2 x (.ins T.t dx (putF "own_last" (.ref D2) (putF "own_writes" (.ref D1) (putF "own_begins" (.ref D0) (putF "own_letters" (.str ls) (putF "own_marks" (.ref m) []))))))) := SameE.put (e21.trans (.of sj2))
    have hx22 : upd J2 x (.ins T.t dx (putF "own_last" (.ref D2) (putF "own_writes" (.ref D1) (putF "own_begins" (.ref D0) (putF "own_letters" (.str ls) (putF "own_marks" (.ref m) [])))))) x = some (.ins T.t dx (putF "own_last" (.ref D2) (putF "own_writes" (.ref D1) (putF "own_begins" (.ref D0) (putF "own_letters" (.str ls) (putF "own_marks" (.ref m) [])))))) := upd_same
    have hc2_0 : upd J2 x (.ins T.t dx (putF "own_last" (.ref D2) (putF "own_writes" (.ref D1) (putF "own_begins" (.ref D0) (putF "own_letters" (.str ls) (putF "own_marks" (.ref m) [])))))) fo = some (.dK [(.inl 0, .int 0)]) := by rw [upd_ne xf]; exact sj2 _ _ hc1_0
    have hc2_1 : upd J2 x (.ins T.t dx (putF "own_last" (.ref D2) (putF "own_writes" (.ref D1) (putF "own_begins" (.ref D0) (putF "own_letters" (.str ls) (putF "own_marks" (.ref m) [])))))) D0 = some (.dK [(.inl 0, .ref tb)]) := by rw [upd_ne xD0]; exact sj2 _ _ hc1_1
    have hc2_2 : upd J2 x (.ins T.t dx (putF "own_last" (.ref D2) (putF "own_writes" (.ref D1) (putF "own_begins" (.ref D0) (putF "own_letters" (.str ls) (putF "own_marks" (.ref m) [])))))) D1 = some (.dT (wS ws)) := by rw [upd_ne xD1]; exact sj2 _ _ hd1
    have hd2 : upd J2 x (.ins T.t dx (putF "own_last" (.ref D2) (putF "own_writes" (.ref D1) (putF "own_begins" (.ref D0) (putF "own_letters" (.str ls) (putF "own_marks" (.ref m) [])))))) D2 = some (.dK [(.inl 0, .str "")]) := by rw [upd_ne xD2]; exact hdn2
    generalize upd J2 x (.ins T.t dx (putF "own_last" (.ref D2) (putF "own_writes" (.ref D1) (putF "own_begins" (.ref D0) (putF "own_letters" (.str ls) (putF "own_marks" (.ref m) [])))))) = H22 at e22 hx22 hc2_0 hc2_1 hc2_2 hd2
    refine ⟨_, rfl, fo, _, rfl, hc2_0, fun l3 hl3 => ⟨l3, [0], rfl, SqL.of upd_same, by decide, fun ns3 p3 hpm3 _ hp3 => ?_⟩⟩
    obtain rfl : ns3 = [0] := List.perm_singleton.mp hpm3
    have sn3 : Same H22 (upd (upd H22 l3 (.lst (List.map (fun kv : Key × V => kV kv.1) [(Sum.inl 0, V.int 0)]))) p3 (.lst (List.map V.int [0]))) := (same_upd hl3).trans (same_upd hp3)
    have hq3 : (upd (upd H22 l3 (.lst (List.map (fun kv : Key × V => kV kv.1) [(Sum.inl 0, V.int 0)]))) p3 (.lst (List.map V.int [0]))) p3 = some (.lst [.int 0]) := upd_same
    generalize upd (upd H22 l3 (.lst (List.map (fun kv : Key × V => kV kv.1) [(Sum.inl 0, V.int 0)]))) p3 (.lst (List.map V.int [0])) = G3 at sn3 hq3
    refine ⟨p3, rfl, ⟨_, SqL.of hq3⟩, fun D3 hD3 => ?_⟩
    refine dcK_it (walk_list (xs := [V.int 0])) (fun i H' => Same G3 H' ∧ ((i = 0 ∧ H' D3 = some (.dK [])) ∨ (i = 1 ∧ H' D3 = some (.dK [(Sum.inl 0, V.int 0)])))) ⟨same_upd hD3, .inl ⟨rfl, upd_same⟩⟩ (fun i H' _ h => SqL.of (h.1 _ _ hq3)) ?_ ?_
    · rintro i y H7 H8 hi ⟨sm, hh⟩ ⟨rfl, hy⟩
      have ei : i = 0 := by simpa using hi
      subst ei
      obtain rfl : V.int 0 = y := Option.some.inj hy
      rcases hh with ⟨_, hDi⟩ | ⟨h, _⟩
      · refine ⟨rfl, _, rfl, _, rfl, _, rfl, fo, V.int 0, rfl, DGet.k (k := Sum.inl 0) (sm _ _ (sn3 _ _ hc2_0)), [], .inl 0, rfl, hDi, by decide, same_put sm hD3, .inr ⟨rfl, ?_⟩⟩
        rw [upd_same]
        rfl
      · cases h
    rintro J3 ⟨sm3, hh⟩
    rcases hh with ⟨h, _⟩ | ⟨_, hdn3⟩
    · cases h
    have sj3 : Same H22 J3 := sn3.trans sm3
    have hxj3 := sj3 _ _ hx22
    have xD3 : D3 ≠ x := fun z => by rw [z, hxj3] at hdn3; cases hdn3
    refine ⟨_, rfl, x, T.t, dx, _, rfl, hxj3, cl, cf.nt _ (by decide +kernel), by show 5 < 1000; decide, ?_⟩
    have e23 : SameE x H (upd J3 x (.ins T.t dx (putF "own_sorts" (.ref D3) (putF "own_last" (.ref D2) (putF "own_writes" (.ref D1) (putF "own_begins" (.ref D0) (putF "own_letters" (.str ls) (putF "own_marks" (.ref m) [])))))))) := SameE.put (e22.trans (.of sj3))
    have hx23 : upd J3 x (.ins T.t dx (putF "own_sorts" (.ref D3) (putF "own_last" (.ref D2) (putF "own_writes" (.ref D1) (putF "own_begins" (.ref D0) (putF "own_letters" (.str ls) (putF "own_marks" (.ref m) []))))))) x = some (.ins T.t dx (twF m ls D0 D1 D2 D3)) := upd_same
    have hc3_0 : upd J3 x (.ins T.t dx (putF "own_sorts" (.ref D3) (putF "own_last" (.ref D2) (putF "own_writes" (.ref D1) (putF "own_begins" (.ref D0) (putF "own_letters" (.str ls) (putF "own_marks" (.ref m) []))))))) fo = some (.dK [(.inl 0, .int 0)]) := by rw [upd_ne xf]; exact sj3 _ _ hc2_0
    have hc3_1 : upd J3 x (.ins T.t dx (putF "own_sorts" (.ref D3) (putF "own_last" (.ref D2) (putF "own_writes" (.ref D1) (putF "own_begins" (.ref D0) (putF "own_letters" (.str ls) (putF "own_marks" (.ref m) []))))))) D0 = some (.dK [(.inl 0, .ref tb)]) := by rw [upd_ne xD0]; exact sj3 _ _ hc2_1
    have hc3_2 : upd J3 x (.ins T.t dx (putF "own_sorts" (.ref D3) (putF "own_last" (.ref D2) (putF "own_writes" (.ref D1) (putF "own_begins" (.ref D0) (putF "own_letters" (.str ls) (putF "own_marks" (.ref m) []))))))) D1 = some (.dT (wS ws)) := by rw [upd_ne xD1]; exact sj3 _ _ hc2_2
    have hc3_3 : upd J3 x (.ins T.t dx (putF "own_sorts" (.ref D3) (putF "own_last" (.ref D2) (putF "own_writes" (.ref D1) (putF "own_begins" (.ref D0) (putF "own_letters" (.str ls) (putF "own_marks" (.ref m) []))))))) D2 = some (.dK [(.inl 0, .str "")]) := by rw [upd_ne xD2]; exact sj3 _ _ hd2
    have hd3 : upd J3 x (.ins T.t dx (putF "own_sorts" (.ref D3) (putF "own_last" (.ref D2) (putF "own_writes" (.ref D1) (putF "own_begins" (.ref D0) (putF "own_letters" (.str ls) (putF "own_marks" (.ref m) []))))))) D3 = some (.dK [(.inl 0, .int 0)]) := by rw [upd_ne xD3]; exact hdn3
    generalize upd J3 x (.ins T.t dx (putF "own_sorts" (.ref D3) (putF "own_last" (.ref D2) (putF "own_writes" (.ref D1) (putF "own_begins" (.ref D0) (putF "own_letters" (.str ls) (putF "own_marks" (.ref m) []))))))) = H23 at e23 hx23 hc3_0 hc3_1 hc3_2 hc3_3 hd3
    have at0 : TwoAt T H23 x ls ⟨dx, m, D0, D1, D2, D3, tb, ws⟩ := ⟨hx23, marks_sameE hm e23 hx cf.kits.tm, hc3_1, e23 _ _ xt rt.target, hc3_2, rt.names, fun q hq => e23 _ _ (nx _ _ (rt.goals q hq) (fun _ _ z => nomatch z)) (rt.goals q hq), hc3_3, hd3⟩
    exact q _ e23 ⟨_, at0⟩ ⟨_, at0, rfl⟩
end
end K67
end
section
set_option Elab.async false
set_option linter.all false
set_option maxRecDepth 100000
set_option maxHeartbeats 4000000
namespace K67
open PySem PySem.Spec PyProof.Rows L2
/-! ### the draws -/
theorem op_powC {X : Cx} : OpR X (binaryOp .Pow) (fun x y H Q => x = .int (10 ^ 58) ∧ y = .int 12 ∧ Q (.int ((10 ^ 58) ^ 12)) H) := by
  intro pins s σ H x y v u Q J rx ry h
  obtain ⟨rfl, rfl, q⟩ := h
  obtain ⟨t, rfl⟩ := rx
  obtain ⟨t', rfl⟩ := ry
  refine pow_int (by decide) (by decide +kernel) ?_
  exact ⟨.int ((10 ^ 58) ^ 12), H, J.tok _, ⟨_, rfl⟩, q⟩
section
variable {X : Cx} {o e : Expr} {es : List Expr} {to : TE} {t : TA} {name : Str} {apos cpos : Pos} {T id : String} {r : V → List V → Hp → VK → Prop}
/-- the same with K named, for a block's context -/
theorem pe_bmK {K : PySem.W.Frag} (hK : X.K = K) (pa : PlainAttrs T) (slot : Slot T name id) (hty : typeOf (.builtin id) = pure (.type "method_descriptor")) (hm : MtR X id r) (ho : PE X o to) (ha : PA X (e :: es) t)
    (hbase : attributeBase o name X.env (eval o X.env) = eval o X.env := by rfl)
    (hfew : ((backTo cpos (starEach (e :: es) X.env)).all (fun x => !x.1) && (backToKw cpos (keywordEach [] X.env)).all (fun x => x.1.isSome)
      && decide ((e :: es).length + ([] : List Keyword).length + (if ([] : List Keyword).isEmpty then 0 else 1) < 30)) = true := by rfl)
    (hline : (apos.endLine == cpos.line) = true := by rfl) (hs : starEach (e :: es) X.env = (false, eval e X.env) :: starEach es X.env := by rfl) (hplain : (backTo cpos (starEach es X.env)).any (·.1) = false := by rfl) :
    PE X (.Call (.Attribute o name apos) (e :: es) [] cpos) (tBM K T r to t) := by
  subst hK
  exact pe_bm pa slot hty hm ho ha hbase hfew hline hs hplain
def rLenK (K : PySem.W.Frag) : List V → Hp → VK → Prop := fun xs H Q => ∃ x n, xs = [x] ∧ LenV K x H n ∧ Q (.int n) H
theorem call_lenK {K : PySem.W.Frag} (hK : X.K = K) : CallR X (.builtin "len") (rLenK K) := by
  subst hK
  exact call_len
end
theorem seqIndex_nat {k n : Nat} (h : k < n) : seqIndex? (k : Int) n = some k := by
  rw [seqIndex_of (by omega) (by omega)]
  simp
def BagAt (H : Hp) (b : Addr) : Prop := ∃ x y z, H b = some (.lst [.int x, .int y, .int z])
section
variable {P : Program} {w : World} {K : PySem.W.Frag} {mg : Str → Option Value} {base : Heap} {T : Cls3}
def spThrow : Sp := fun vs H Q _ => ∃ b n, vs = [.ref b, .int n] ∧ BagAt H b ∧ 0 < n ∧ n < 1073741824 ∧ ∀ H' r, SameE b H H' → BagAt H' b → 0 ≤ r → r < n → Q (.int r) H'
theorem ok_law_throw {f : Addr} {fd : FuncData} (F : FnP K "_law_throw" "_law_throw" s_law_throw f fd) (B : BN mg) : FnOk P w K mg base CX0 1 f fd ["_law_bag", "_law_total"] spThrow := by
  have S := sc_law_throw
  refine ok0 F S (fun vs H Q E h => ?_) (fun cdv A outer s H vs Q E hr h => ?_)
  · obtain ⟨b, n, rfl, _⟩ := h
    rfl
  · obtain ⟨b, n, rfl, ⟨x, y, z, hb⟩, hn, hn2, q⟩ := h
    refine ⟨_, (pss_cons (ps_if (pt_cmpR op_gt (pe_ix ix_list (pv 0) pe_int (fun _ _ => rfl)) pe_int (nomark _)) (pss_cons (ps_set (i := 2) S.nd rfl (.inl rfl) (pe_op op_mod (pe_callTy call_int1 (by rfl) B.int (by decide +kernel) (pa_cons (pe_ix ix_list (pv 0) pe_int (fun _ _ => rfl)) pa_nil)) (pv 1)))
      (pss_cons (ps_asg (pe_op op_fdiv (pe_ix ix_list (pv 0) pe_int (fun _ _ => rfl)) (pv 1)) (pg_sub (pv 0) pe_int set_list))
      (pss_one (ps_ret (pv 2))))) pss_nil)
      (pss_cons (ps_asg (pe_op op_add (pe_ix ix_list (pv 0) pe_int (fun _ _ => rfl)) pe_int) (pg_sub (pv 0) pe_int set_list))
      (pss_cons (ps_set (i := 3) S.nd rfl (.inl rfl) (pe_op op_mod (pe_callTy call_int1 (by rfl) B.int (by decide +kernel) (pa_cons (pe_op op_add (pe_ix ix_list (pv 0) pe_int (fun _ _ => rfl)) (pe_op op_mul pe_int (pe_ix ix_list (pv 0) pe_int (fun _ _ => rfl)))) pa_nil)) pe_int))
      (pss_cons (ps_set (i := 4) S.nd rfl (.inl rfl) (pe_op op_add (pe_op op_mul (pe_op op_mod (pe_callTy call_int1 (by rfl) B.int (by decide +kernel) (pa_cons (pe_op op_mul (pv 3) (pv 3)) pa_nil)) pe_int) (pv 3)) (pe_op op_mul pe_int (pe_ix ix_list (pv 0) pe_int (fun _ _ => rfl)))))
      (pss_cons (ps_set (i := 4) S.nd rfl (.inl rfl) (pe_op op_mod (pe_callTy call_int1 (by rfl) B.int (by decide +kernel) (pa_cons (pv 4) pa_nil)) pe_int))
      (pss_one (ps_ret (pe_op op_mod (pe_callTy call_int1 (by rfl) B.int (by decide +kernel) (pa_cons (pe_op op_fdiv (pv 4) pe_int) pa_nil)) (pv 1))))))))), ?_⟩
    have i0 : atI [V.int x, V.int y, V.int z] 0 = some (.int x) := atI_nat (j := 0) rfl
    refine ⟨_, rfl, b, _, 0, .int x, rfl, rfl, SqL.of hb, i0, ?_⟩
    refine ⟨_, _, rfl, rfl, _, rfl, ?_⟩
    by_cases hx : 0 < x
    · refine iteT' (decide_eq_true hx) ?_
      refine ⟨_, rfl, b, _, 0, .int x, rfl, rfl, SqL.of hb, i0, ?_⟩
      refine .inl ⟨x, rfl, _, rfl, x, n, rfl, rfl, hn, ?_⟩
      refine ⟨_, rfl, b, _, 0, .int x, rfl, rfl, SqL.of hb, i0, ?_⟩
      refine ⟨_, rfl, x, n, rfl, rfl, ⟨hn, hn2⟩, ?_⟩
      refine ⟨_, rfl, b, _, 0, 0, rfl, rfl, hb, rfl, ?_⟩
      refine ⟨_, rfl, q _ _ (SameE.put (.of (Same.refl _))) ⟨x / n, y, z, upd_same⟩ (Int.emod_nonneg _ (by omega)) (Int.emod_lt_of_pos _ hn)⟩
    · refine iteF' (decide_eq_false hx) ?_
      refine ⟨_, rfl, b, _, 2, .int z, rfl, rfl, SqL.of hb, atI_nat (j := 2) rfl, ?_⟩
      refine ⟨_, _, rfl, rfl, ?_⟩
      refine ⟨_, rfl, b, _, 2, 2, rfl, rfl, hb, rfl, ?_⟩
      have hb2 : upd H b (.lst ([V.int x, V.int y, V.int z].set 2 (V.int (z + 1)))) b = some (.lst [.int x, .int y, .int (z + 1)]) := upd_same
      have e2 : SameE b H (upd H b (.lst ([V.int x, V.int y, V.int z].set 2 (V.int (z + 1))))) := SameE.put (.of (Same.refl _))
      generalize upd H b (.lst ([V.int x, V.int y, V.int z].set 2 (V.int (z + 1)))) = H2 at hb2 e2
      have j1 : atI [V.int x, V.int y, V.int (z + 1)] 1 = some (.int y) := atI_nat (j := 1) rfl
      have j2 : atI [V.int x, V.int y, V.int (z + 1)] 2 = some (.int (z + 1)) := atI_nat (j := 2) rfl
      have m61 : ∀ i : Int, 0 ≤ i % 2305843009213693951 ∧ i % 2305843009213693951 < 2305843009213693951 := fun i => ⟨Int.emod_nonneg _ (by decide), Int.emod_lt_of_pos _ (by decide)⟩
      refine ⟨_, rfl, b, _, 1, .int y, rfl, rfl, SqL.of hb2, j1, ?_⟩
      refine ⟨_, rfl, b, _, 2, .int (z + 1), rfl, rfl, SqL.of hb2, j2, ?_⟩
      refine ⟨_, _, rfl, rfl, .inl ⟨by decide, by decide⟩, ?_⟩
      refine ⟨_, _, rfl, rfl, .inl ⟨_, rfl, _, _, rfl, rfl, by show (0 : Int) < _; decide, ?_⟩⟩
      have b1 := m61 (y + 1000403 * (z + 1))
      dsimp only
      generalize (y + 1000403 * (z + 1)) % 2305843009213693951 = o1 at b1
      refine ⟨_, rfl, _, rfl, _, _, rfl, rfl, .inl ⟨by omega, by omega⟩, .inl ⟨_, rfl, _, _, rfl, rfl, by show (0 : Int) < _; decide, ?_⟩⟩
      have b2 := m61 (o1 * o1)
      dsimp only
      generalize (o1 * o1) % 2305843009213693951 = o2 at b2
      refine ⟨_, rfl, _, _, rfl, rfl, .inl ⟨by omega, by omega⟩, ?_⟩
      refine ⟨_, rfl, b, _, 2, .int (z + 1), rfl, rfl, SqL.of hb2, j2, ?_⟩
      refine ⟨_, _, rfl, rfl, .inl ⟨by decide, by decide⟩, ?_⟩
      refine ⟨_, _, rfl, rfl, ?_⟩
      refine ⟨_, rfl, .inl ⟨_, rfl, _, _, rfl, rfl, by show (0 : Int) < _; decide, ?_⟩⟩
      refine ⟨_, rfl, _, _, rfl, rfl, ⟨by decide, by decide⟩, .inl ⟨_, rfl, _, rfl, _, _, rfl, rfl, hn, ?_⟩⟩
      exact q _ _ e2 ⟨_, _, _, hb2⟩ (Int.emod_nonneg _ (by omega)) (Int.emod_lt_of_pos _ hn)
theorem atI_mem {α : Type} {xs : List α} {r : Int} (h0 : 0 ≤ r) (h1 : r < xs.length) : ∃ x, atI xs r = some x ∧ x ∈ xs := by
  obtain ⟨j, rfl⟩ : ∃ j : Nat, r = (j : Int) := ⟨r.toNat, by omega⟩
  have hj : j < xs.length := by omega
  exact ⟨xs[j], atI_nat (List.getElem?_eq_getElem hj), List.getElem_mem hj⟩
def spPick : Sp := fun vs H Q _ => ∃ b, BagAt H b ∧
  ((∃ l xs, vs = [.ref b, .ref l] ∧ l ≠ b ∧ H l = some (.lst xs) ∧ 0 < xs.length ∧ xs.length < 1000 ∧ ∀ H' x, SameE b H H' → BagAt H' b → x ∈ xs → Q x H') ∨
   (∃ z, vs = [.ref b, .str z] ∧ 0 < z.length ∧ z.length < 1000 ∧ ∀ H' c, SameE b H H' → BagAt H' b → c ∈ z.cps.toList → Q (.str ⟨#[c]⟩) H'))
theorem ok_law_pick {f : Addr} {fd : FuncData} (F : FnP K "_law_pick" "_law_pick" s_law_pick f fd) (B : BN mg) (c1 : Cal P w K mg base CX0 1 "_law_throw" spThrow) : FnOk P w K mg base CX0 2 f fd ["_law_bag", "_law_items"] spPick := by
  have S := sc_law_pick
  refine ok0 F S (fun vs H Q E h => ?_) (fun cdv A outer s H vs Q E hr h => ?_)
  · obtain ⟨b, _, ⟨l, xs, rfl, _⟩ | ⟨z, rfl, _⟩⟩ := h
    · rfl
    · rfl
  · refine ⟨_, (pss_one (ps_ret (pe_ix ix_seq (pv 1) (pe_c c1 hr (by decide) (by rfl) (E := E0) pass0 (pa_cons (pv 0) (pa_cons (pe_callB call_len (by rfl) B.len (by decide +kernel) (pa_cons (pv 1) pa_nil)) pa_nil))) (fun _ _ => rfl)))), ?_⟩
    obtain ⟨b, hb, ⟨l, xs, rfl, nlb, hl, h0, h1, q⟩ | ⟨z, rfl, h0, h1, q⟩⟩ := h
    · refine ⟨_, rfl, _, rfl, _, rfl, _, xs.length, rfl, .inl ⟨_, SqL.of hl, rfl⟩, b, (xs.length : Int), rfl, hb, by omega, by omega, fun H' r e hb' r0 r1 => ?_⟩
      obtain ⟨x, hx, hm⟩ := atI_mem r0 r1
      exact .inl ⟨l, xs, r, x, rfl, rfl, SqL.of (e _ _ nlb hl), hx, q _ _ e hb' hm⟩
    · refine ⟨_, rfl, _, rfl, _, rfl, _, z.length, rfl, ⟨sz60 (by omega), rfl⟩, b, (z.length : Int), rfl, hb, by omega, by omega, fun H' r e hb' r0 r1 => ?_⟩
      have hz : z.length = z.cps.toList.length := sLen z
      obtain ⟨x, hx, hm⟩ := atI_mem (xs := z.cps.toList) r0 (by rw [← hz]; exact r1)
      exact .inr (.inr ⟨z, r, x, rfl, rfl, sz60 (by omega), hx, q _ _ e hb' hm⟩)
def spShuffled : Sp := fun vs H Q _ => ∃ b l xs, vs = [.ref b, .ref l] ∧ BagAt H b ∧ l ≠ b ∧ H l = some (.lst xs) ∧ xs.length < 1000 ∧ ∀ H' p ys, SameE b H H' → BagAt H' b → H p = none → H' p = some (.lst ys) → ys.length = xs.length → (∀ y ∈ ys, y ∈ xs) → Q (.ref p) H'
theorem ok_law_shuffled {f : Addr} {fd : FuncData} (F : FnP K "_law_shuffled" "_law_shuffled" s_law_shuffled f fd) (B : BN mg) (c1 : Cal P w K mg base CX0 1 "_law_throw" spThrow) : FnOk P w K mg base CX0 2 f fd ["_law_bag", "_law_items"] spShuffled := by
  have S := sc_law_shuffled
  refine ok0 F S (fun vs H Q E h => ?_) (fun cdv A outer s H vs Q E hr h => ?_)
  · obtain ⟨b, l, xs, rfl, _⟩ := h
    rfl
  · refine ⟨_, (pss_cons (ps_set (i := 2) S.nd rfl (.inr rfl) (pe_callTy call_list_of (by rfl) B.list (by decide +kernel) (pa_cons (pv 1) pa_nil)))
      (pss_one (ps_ret (pe_lc (own := [("_law_turn", 3)]) (g := gName 3) (tt := tYes) rfl S.nd (pi_range1 (by rfl) B.range (pa_cons (pe_callB call_len (by rfl) B.len (by decide +kernel) (pa_cons (pv 1) pa_nil)) pa_nil)) (blkOk_by (N := ["_law_bag", "_law_items", "_law_rest_here", "_law_turn"]) (sc := defScope s_law_shuffled) (by decide +kernel)) (fun _ _ _ _ _ => (pg_name (i := 3) S.nd rfl (Or.inl rfl))) (fun _ _ _ _ _ => pts_nil) (fun _ _ _ _ _ => (pe_bmK (K := K) rfl PySem.F.plainAttrs_list PySem.F.slot_list_pop PySem.F.type_list_pop mt_popAt (pv 2) (pa_cons (pe_c c1 hr (by decide) (by rfl) (E := E0) pass0 (pa_cons (pv 0) (pa_cons (pe_callB (call_lenK (K := K) rfl) (by rfl) B.len (by decide +kernel) (pa_cons (pv 2) pa_nil)) pa_nil))) pa_nil))))))), ?_⟩
    obtain ⟨b, l, xs, rfl, hb, nlb, hl, hz, q⟩ := h
    refine ⟨_, rfl, l, xs, rfl, .inl (SqL.of hl), fun r hrn => ?_⟩
    have s1 : Same H (upd H r (.lst xs)) := same_upd hrn
    have hb1 : BagAt (upd H r (.lst xs)) b := by
      obtain ⟨x, y, z, hb⟩ := hb
      exact ⟨x, y, z, s1 _ _ hb⟩
    have nrb : r ≠ b := fun z => by
      obtain ⟨x, y, z', hb⟩ := hb
      rw [z, hb] at hrn
      cases hrn
    have hr1 : upd H r (.lst xs) r = some (.lst xs) := upd_same
    have hl1 := s1 _ _ hl
    generalize upd H r (.lst xs) = H1 at s1 hb1 hr1 hl1
    refine ⟨_, rfl, _, xs.length, rfl, .inl ⟨_, SqL.of hl1, rfl⟩, _, rfl, by omega, by omega, fun D hD => ?_⟩
    have nDb : D ≠ b := fun z => by
      obtain ⟨x, y, z', hb⟩ := hb1
      rw [z, hb] at hD
      cases hD
    have nDr : D ≠ r := fun z => by rw [z, hr1] at hD; cases hD
    have hDH : H D = none := fresh_of s1 hD
    refine lc_it walk_range (fun i H' => SameE b H H' ∧ BagAt H' b ∧ ∃ rs ys, H' r = some (.lst rs) ∧ rs.length + i = xs.length ∧ (∀ y ∈ rs, y ∈ xs) ∧ H' D = some (.lst ys) ∧ ys.length = i ∧ ∀ y ∈ ys, y ∈ xs) ?_ (fun _ _ _ _ => True.intro) ?_ ?_
    · refine ⟨(SameE.of s1).trans (.of (same_upd hD)), ?_, xs, [], by rw [upd_ne (Ne.symm nDr)]; exact hr1, rfl, fun y hy => hy, upd_same, rfl, fun y hy => by cases hy⟩
      obtain ⟨x, y, z, hb⟩ := hb1
      exact ⟨x, y, z, same_upd hD _ _ hb⟩
    · rintro i x H2 H3 hi ⟨e2, hb2, rs, ys, hrs, hlen, hrm, hDy, hyl, hym⟩ ⟨rfl, rfl⟩
      have hi' : i < xs.length := by
        have : i < ((xs.length : Nat) : Int).toNat := hi
        simpa using this
      refine ⟨rfl, _, rfl, .inl ⟨rfl, _, SqL.of hrs⟩, ?_⟩
      refine ⟨_, rfl, _, rfl, _, rs.length, rfl, .inl ⟨_, SqL.of hrs, rfl⟩, b, (rs.length : Int), rfl, hb2, by omega, by omega, fun H4 n e4 hb4 n0 n1 => ?_⟩
      obtain ⟨k, rfl⟩ : ∃ k : Nat, n = (k : Int) := ⟨n.toNat, by omega⟩
      have hk : k < rs.length := by omega
      have hrs4 := e4 _ _ nrb hrs
      have hD4 := e4 _ _ nDb hDy
      refine ⟨r, rs, (k : Int), k, rs[k], rfl, rfl, hrs4, by omega, by omega, seqIndex_nat hk, List.getElem?_eq_getElem hk, ?_⟩
      have hD5 : upd H4 r (.lst (rs.eraseIdx k)) D = some (.lst ys) := by rw [upd_ne nDr]; exact hD4
      refine ⟨ys, hD5, Nat.lt_of_lt_of_le (show ys.length < 1000 by omega) (by decide), ?_⟩
      have nb1 : ∀ c o, c ≠ r → c ≠ D → H4 c = some o → upd (upd H4 r (.lst (rs.eraseIdx k))) D (.lst (ys ++ [rs[k]])) c = some o := fun c o h1 h2 h => by rw [upd_ne h2, upd_ne h1]; exact h
      refine ⟨fun c o hc h => ?_, ?_, rs.eraseIdx k, ys ++ [rs[k]], ?_, ?_, fun y hy => ?_, upd_same, by rw [List.length_append, hyl]; rfl, fun y hy => ?_⟩
      · have h4 := e4 _ _ hc (e2 _ _ hc h)
        exact nb1 _ _ (fun z => by rw [z, hrn] at h; cases h) (fun z => by rw [z, hDH] at h; cases h) h4
      · obtain ⟨x, y, z, hb⟩ := hb4
        exact ⟨x, y, z, nb1 _ _ (Ne.symm nrb) (Ne.symm nDb) hb⟩
      · rw [upd_ne (Ne.symm nDr), upd_same]
      · rw [List.length_eraseIdx_of_lt hk]
        omega
      · exact hrm y (List.mem_of_mem_eraseIdx hy)
      · rcases List.mem_append.mp hy with hy | hy
        · exact hym y hy
        · obtain rfl : y = rs[k] := by simpa using hy
          exact hrm _ (List.getElem_mem hk)
    · rintro H2 ⟨e2, hb2, rs, ys, hrs, hlen, hrm, hDy, hyl, hym⟩
      exact q _ D ys e2 hb2 hDH hDy (by rw [hyl]; simp) hym
theorem join_ones : ∀ cs : List Nat, (Txt.join ("" : Str) (cs.map fun c => (⟨#[c]⟩ : Str))).cps.toList = cs := by
  intro cs
  rw [TL.join_eq]
  show TL.tl (Str.join ("" : Str) _) = cs
  rw [TL.tl_join, List.map_map]
  show TL.joinL [] (cs.map fun c => [c]) = cs
  induction cs with
  | nil => rfl
  | cons c cs ih =>
    cases cs with
    | nil => rfl
    | cons d cs =>
      show [c] ++ ([] ++ TL.joinL [] ((d :: cs).map fun c => [c])) = c :: d :: cs
      rw [ih]
      rfl
def spDrawn : Sp := fun vs H Q _ => ∃ b z n, vs = [.ref b, .str z, .int n] ∧ BagAt H b ∧ 0 < z.length ∧ z.length < 1000 ∧ 0 ≤ n ∧ n ≤ 100 ∧ ∀ H' t, SameE b H H' → BagAt H' b → over t z = true → (t.length : Int) ≤ n → Q (.str t) H'
theorem ok_law_drawn_word {f : Addr} {fd : FuncData} (F : FnP K "_law_drawn_word" "_law_drawn_word" s_law_drawn_word f fd) (B : BN mg) (c1 : Cal P w K mg base CX0 1 "_law_throw" spThrow) (c2 : Cal P w K mg base CX0 2 "_law_pick" spPick) : FnOk P w K mg base CX0 3 f fd ["_law_bag", "_law_signs", "_law_most"] spDrawn := by
  have S := sc_law_drawn_word
  refine ok0 F S (fun vs H Q E h => ?_) (fun cdv A outer s H vs Q E hr h => ?_)
  · obtain ⟨b, z, n, rfl, _⟩ := h
    rfl
  · refine ⟨_, (pss_one (ps_ret (pe_join pe_str (pe_lc (own := [("_law_turn", 3)]) (g := gName 3) (tt := tYes) rfl S.nd (pi_range1 (by rfl) B.range (pa_cons (pe_c c1 hr (by decide) (by rfl) (E := E0) pass0 (pa_cons (pv 0) (pa_cons (pe_op op_add (pv 2) pe_int) pa_nil))) pa_nil)) (blkOk_by (N := ["_law_bag", "_law_signs", "_law_most", "_law_turn"]) (sc := defScope s_law_drawn_word) (by decide +kernel)) (fun _ _ _ _ _ => (pg_name (i := 3) S.nd rfl (Or.inl rfl))) (fun _ _ _ _ _ => pts_nil) (fun _ _ _ _ _ => (pe_c c2 hr (by decide) (by rfl) (E := E0) pass0 (pa_cons (pv 0) (pa_cons (pv 1) pa_nil)))))))), ?_⟩
    obtain ⟨b, z, n, rfl, hb, z0, z1, n0, n1, q⟩ := h
    refine ⟨⟨_, rfl⟩, _, rfl, _, rfl, _, _, rfl, rfl, b, n + 1, rfl, hb, by omega, by omega, fun H1 r e1 hb1 r0 r1 => ?_⟩
    refine ⟨r, rfl, by omega, by omega, fun D hD => ?_⟩
    have nDb : D ≠ b := fun zz => by
      obtain ⟨x, y, z', hb⟩ := hb1
      rw [zz, hb] at hD
      cases hD
    refine lc_it walk_range (fun i H' => SameE b H1 H' ∧ BagAt H' b ∧ ∃ cs : List Nat, H' D = some (.lst ((cs.map fun c => (⟨#[c]⟩ : Str)).map V.str)) ∧ cs.length = i ∧ ∀ c ∈ cs, c ∈ z.cps.toList) ?_ (fun _ _ _ _ => True.intro) ?_ ?_
    · refine ⟨.of (same_upd hD), ?_, [], upd_same, rfl, fun c hc => by cases hc⟩
      obtain ⟨x, y, z, hb⟩ := hb1
      exact ⟨x, y, z, same_upd hD _ _ hb⟩
    · rintro i x H2 H3 hi ⟨e2, hb2, cs, hDc, hcl, hcm⟩ ⟨rfl, rfl⟩
      have hi' : i < r.toNat := by simpa using hi
      refine ⟨rfl, _, rfl, _, rfl, b, hb2, .inr ⟨z, rfl, z0, z1, fun H4 c e4 hb4 hc => ?_⟩⟩
      have hD4 := e4 _ _ nDb hDc
      refine ⟨_, hD4, by rw [List.length_map, List.length_map, hcl]; exact Nat.lt_of_lt_of_le (show i < 101 by omega) (by decide), ?_⟩
      refine ⟨fun a o ha h => ?_, ?_, cs ++ [c], ?_, by rw [List.length_append, hcl]; rfl, fun d hd => ?_⟩
      · rw [upd_ne (fun zz => by rw [zz, hD] at h; cases h)]
        exact e4 _ _ ha (e2 _ _ ha h)
      · obtain ⟨x, y, z, hb⟩ := hb4
        exact ⟨x, y, z, by rw [upd_ne (Ne.symm nDb)]; exact hb⟩
      · rw [upd_same, List.map_append, List.map_append]
        rfl
      · rcases List.mem_append.mp hd with hd | hd
        · exact hcm d hd
        · obtain rfl : d = c := by simpa using hd
          exact hc
    · rintro H2 ⟨e2, hb2, cs, hDc, hcl, hcm⟩
      have hcl' : cs.length = r.toNat := by simpa using hcl
      refine ⟨"", D, cs.map fun c => (⟨#[c]⟩ : Str), rfl, rfl, .inl (SqL.of hDc), ?_, q _ _ (e1.trans e2) hb2 ?_ ?_⟩
      · have e3 : (cs.map fun c => (⟨#[c]⟩ : Str)).map (·.length) = cs.map fun _ => 1 := by rw [List.map_map]; rfl
        rw [e3, List.length_map]
        have e4 : (cs.map fun _ => 1).sum = cs.length := by
          clear hDc hcl hcm hcl' e3
          induction cs with
          | nil => rfl
          | cons c cs ih => simp [ih]; omega
        rw [e4, show ("" : Str).length = 0 from rfl]
        omega
      · rw [over_iff, join_ones]
        exact hcm
      · rw [sLen, join_ones]
        omega
end
end K67
end
section
set_option Elab.async false
set_option linter.all false
set_option maxRecDepth 100000
set_option maxHeartbeats 4000000
namespace K67
open PySem PySem.Spec PyProof.Rows L2
section
variable {P : Program} {w : World} {K : PySem.W.Frag} {mg : Str → Option Value} {base : Heap} {T : Cls3}
def spStart (K : PySem.W.Frag) : Sp := fun vs H Q _ => ∃ a i, ∃ ns : List Int, vs = [.ref a, .int (i : Nat)] ∧ SqL K H a (ns.map V.int) ∧ i < 1000 ∧ ∀ H' p, Same H H' → H p = none → BagAt H' p → Q (.ref p) H'
theorem ok_law_start {f : Addr} {fd : FuncData} (F : FnP K "_law_start" "_law_start" s_law_start f fd) (B : BN mg) : FnOk P w K mg base CX0 1 f fd ["_law_script", "_law_at"] (spStart K) := by
  have S := sc_law_start
  refine ok0 F S (fun vs H Q E h => ?_) (fun cdv A outer s H vs Q E hr h => ?_)
  · obtain ⟨a, i, ns, rfl, _⟩ := h
    rfl
  · obtain ⟨a, i, ns, rfl, hs, hi, q⟩ := h
    refine ⟨_, (pss_cons (ps_set (i := 2) S.nd rfl (.inl rfl) (pe_ifExp (pt_cmpR op_lt (pv 1) (pe_callB call_len (by rfl) B.len (by decide +kernel) (pa_cons (pv 0) pa_nil)) (nomark _)) (pe_ix ix_list (pv 0) (pv 1) (fun _ _ => rfl)) (pe_op op_add (pe_op op_mul pe_int (pv 1)) pe_int)))
      (pss_cons (ps_set (i := 3) S.nd rfl (.inl rfl) (pe_op op_mod (pe_callTy call_int1 (by rfl) B.int (by decide +kernel) (pa_cons (pe_callB call_abs (by rfl) B.abs (by decide +kernel) (pa_cons (pv 2) pa_nil)) pa_nil)) (pe_op op_powC (pe_op op_pow pe_int pe_int) pe_int)))
      (pss_cons (ps_set (i := 4) S.nd rfl (.inl rfl) (pe_op op_add (pe_op op_add (pe_op op_add (pe_op op_mul (pe_op op_mod (pe_callTy call_int1 (by rfl) B.int (by decide +kernel) (pa_cons (pv 3) pa_nil)) pe_int) pe_int) (pe_op op_mul pe_int (pv 1))) (pe_op op_mul pe_int (pe_callTy call_int1 (by rfl) B.int (by decide +kernel) (pa_cons (pe_cmpR op_lt (pv 2) pe_int (nomark _)) pa_nil)))) pe_int))
      (pss_one (ps_ret (pe_lst (pa_cons (pe_callB (call_max2 rfl) (by rfl) B.max (by decide +kernel) (pa_cons pe_int (pa_cons (pe_op op_sub (pv 3) (pe_op op_pow pe_int pe_int)) pa_nil))) (pa_cons (pe_op op_mod (pe_callTy call_int1 (by rfl) B.int (by decide +kernel) (pa_cons (pv 4) pa_nil)) pe_int) (pa_cons pe_int pa_nil))))))))), ?_⟩
    refine ⟨_, rfl, _, rfl, _, _, rfl, .inl ⟨_, hs, rfl⟩, _, _, rfl, rfl, _, rfl, ?_⟩
    by_cases h : (i : Int) < ((ns.map V.int).length : Nat)
    · refine iteT' (decide_eq_true h) ?_
      have hl : i < ns.length := by
        rw [List.length_map] at h
        omega
      refine ⟨_, rfl, _, rfl, a, _, (i : Nat), .int ns[i], rfl, rfl, hs, atI_nat (j := i) (by rw [List.getElem?_map, List.getElem?_eq_getElem hl]; rfl), ?_⟩
      generalize ns[i] = c
      refine ⟨_, rfl, c, rfl, .inl ⟨_, rfl, 10, 58, rfl, rfl, ⟨by decide, by decide, by decide⟩, rfl, rfl, _, _, rfl, rfl, by show (0 : Int) < _; decide, ?_⟩⟩
      dsimp only
      generalize (if c < 0 then -c else c) % (10 ^ 58) ^ 12 = g
      refine ⟨_, rfl, .inl ⟨_, rfl, _, _, rfl, rfl, by show (0 : Int) < _; decide, ?_⟩⟩
      have gb : 0 ≤ g % 2147483497 ∧ g % 2147483497 < 2147483497 := ⟨Int.emod_nonneg _ (by decide), Int.emod_lt_of_pos _ (by decide)⟩
      refine ⟨_, _, rfl, rfl, .inr ⟨by decide, by decide⟩, ?_⟩
      refine ⟨_, rfl, _, _, rfl, rfl, .inl ⟨by decide, by decide⟩, _, _, rfl, rfl, ?_⟩
      refine ⟨_, rfl, _, _, rfl, rfl, .inr ⟨_, rfl, _, _, rfl, rfl, .inl ⟨by decide, by decide⟩, _, _, rfl, rfl, _, _, rfl, rfl, ?_⟩⟩
      refine ⟨_, rfl, 10, 18, rfl, rfl, ⟨by decide, by decide, by decide⟩, _, _, rfl, rfl, _, _, rfl, ?_⟩
      refine ⟨_, rfl, .inl ⟨_, rfl, _, _, rfl, rfl, by show (0 : Int) < _; decide, by show 3 ≤ sizeLine; decide, fun p hp => q _ p (same_upd hp) hp ⟨_, _, _, upd_same⟩⟩⟩
    · refine iteF' (decide_eq_false h) ?_
      refine ⟨_, rfl, _, _, rfl, rfl, .inl ⟨by decide, by decide⟩, _, _, rfl, rfl, ?_⟩
      dsimp only
      generalize (29 * (i : Int) + 11) = c
      refine ⟨_, rfl, c, rfl, .inl ⟨_, rfl, 10, 58, rfl, rfl, ⟨by decide, by decide, by decide⟩, rfl, rfl, _, _, rfl, rfl, by show (0 : Int) < _; decide, ?_⟩⟩
      dsimp only
      generalize (if c < 0 then -c else c) % (10 ^ 58) ^ 12 = g
      refine ⟨_, rfl, .inl ⟨_, rfl, _, _, rfl, rfl, by show (0 : Int) < _; decide, ?_⟩⟩
      have gb : 0 ≤ g % 2147483497 ∧ g % 2147483497 < 2147483497 := ⟨Int.emod_nonneg _ (by decide), Int.emod_lt_of_pos _ (by decide)⟩
      refine ⟨_, _, rfl, rfl, .inr ⟨by decide, by decide⟩, ?_⟩
      refine ⟨_, rfl, _, _, rfl, rfl, .inl ⟨by decide, by decide⟩, _, _, rfl, rfl, ?_⟩
      refine ⟨_, rfl, _, _, rfl, rfl, .inr ⟨_, rfl, _, _, rfl, rfl, .inl ⟨by decide, by decide⟩, _, _, rfl, rfl, _, _, rfl, rfl, ?_⟩⟩
      refine ⟨_, rfl, 10, 18, rfl, rfl, ⟨by decide, by decide, by decide⟩, _, _, rfl, rfl, _, _, rfl, ?_⟩
      refine ⟨_, rfl, .inl ⟨_, rfl, _, _, rfl, rfl, by show (0 : Int) < _; decide, by show 3 ≤ sizeLine; decide, fun p hp => q _ p (same_upd hp) hp ⟨_, _, _, upd_same⟩⟩⟩
end
end K67
end
section
set_option Elab.async false
set_option linter.all false
set_option maxRecDepth 100000
set_option maxHeartbeats 4000000
namespace K67
open PySem PySem.Spec PyProof.Rows L2
/-- a call with keywords of a def without defaults -/
theorem kbN {K : PySem.W.Frag} {x qual : Str} {params : Arguments} {body : List Stmt} {scope : Scope} {kws : List (Str × V)} {f : Addr} {fd : FuncData} {ps : List Str} (F : FunD K x qual params body scope [] kws f fd) (n : Nat) (ks : List Str) (g : {α : Type} → List α → List α → List α)
    (hrel : ∀ {vs zs : List V} {us ws : List Value}, Vals vs us → Vals zs ws → Vals (g vs zs) (g us ws))
    (h : ∀ (kV doc pm : Value) (an : Option Addr) (cdv ct : Value) (us ws : List Value), us.length = n → ws.length = ks.length → bindArgs (PySem.W.fnOf x qual params body scope .none kV doc pm an cdv ct) ⟨us, ks.zip ws⟩ = pure (ps.zip (g us ws))) :
    KBn K fd ps n ks (fun us ws => g us ws) (fun vs zs => g vs zs) := by
  obtain ⟨oc, od, dV, kV, doc, pm, an, cdv, ct, osl, rfl, lk, hcd, hD, hK⟩ := F.ex
  rcases hD with ⟨_, rfl⟩ | ⟨e, _⟩
  · exact ⟨fun s us ws X l1 l2 => .of_eq (h kV doc pm an cdv ct us ws l1 l2), fun r1 r2 => hrel r1 r2⟩
  · exact absurd rfl e
structure MakK (P : Program) (w : World) (K : PySem.W.Frag) (mg : Str → Option Value) (base : Heap) (CX : CXT) (k : Nat) (x : Str) (C : Addr) (sp : Sp) (n : Nat) (ks : List Str) (gV : List V → List V → List V) : Prop where
  ex : ∃ (f : Addr) (fd : FuncData) (ps : List Str) (g : List Value → List Value → List Value), Mk K C f ∧ FnOk P w K mg base CX k f fd ps sp ∧ mg x = some (.ref C) ∧ KBn K fd ps (n + 1) ks g gV
theorem pe_mkK {X : Cx} {CX : CXT} {k j n : Nat} {C : Addr} {ks : List Str} {sp : Sp} {E : XK} {x : Str} {p pos : Pos} {e : Expr} {es : List Expr} {kws : List Keyword} {t tk : TA} {gV : List V → List V → List V} (c : MakK X.prog X.w X.K X.mg X.base CX k x C sp n ks gV) (hr : Room j X.A) (hk : k + 1 ≤ j) (hg : Gl X x) (hx : Passes CX X E)
    (ha : PA X (e :: es) t) (hkw : PK X kws tk) (hall : (backToKw pos (keywordEach kws X.env)).all (·.1.isSome) = true := by rfl) (hks : (backToKw pos (keywordEach kws X.env)).filterMap (·.1) = ks := by rfl)
    (hdb : (x == ("__debug__" : Str)) = false := by decide) (he : starEach (e :: es) X.env = (false, eval e X.env) :: starEach es X.env := by rfl)
    (hpl : ((backTo pos (starEach (e :: es) X.env)).any (·.1) || (backToKw pos (keywordEach kws X.env)).any (·.1.isNone)) = false := by rfl) :
    PE X (.Call (.Name x p) (e :: es) kws pos) (tMakeN C n ks.length sp gV E t tk) := by
  obtain ⟨f, fd, ps, g, M, F, hm, hb⟩ := c.ex
  exact pe_makeN M F (hr.mono hk) hg hm hb hx ha hkw hall hks hdb he hpl
theorem same_made {H2 H3 : Hp} {x dx C : Addr} {fs : List (Str × V)} (hx : H2 x = none) (hdx : H2 dx = none) (s : SameE x (upd (upd H2 dx (.own x)) x (.ins C dx fs)) H3) : Same H2 H3 := fun b o h => by
  have n1 : b ≠ x := ne_of_none h hx
  have n2 : b ≠ dx := ne_of_none h hdx
  exact s _ _ n1 (by rw [upd_ne n1, upd_ne n2]; exact h)
theorem made_same {H2 : Hp} {x dx C : Addr} {fs : List (Str × V)} (hx : H2 x = none) (hdx : H2 dx = none) : Same H2 (upd (upd H2 dx (.own x)) x (.ins C dx fs)) := same_made hx hdx fun _ _ _ h => h
theorem mergeT_app : ∀ (more acc : List (List Key × V)), ((acc ++ more).map (·.1)).Nodup → mergeT acc more = acc ++ more
  | [], acc, _ => by rw [List.append_nil]; rfl
  | p :: more, acc, nd => by
    have h1 : (acc ++ p :: more) = (acc ++ [p]) ++ more := by rw [List.append_assoc]; rfl
    have e : putK acc p.1 p.2 = acc ++ [p] := by
      have nd2 : ((acc ++ p :: more).map (·.1)).Nodup := nd
      have := putK_take (kvs := acc ++ p :: more) (i := acc.length) (k := p.1) (v := p.2) nd2 (by rw [List.getElem?_append_right (Nat.le_refl _), Nat.sub_self]; rfl)
      rw [List.take_left, List.take_append, List.take_of_length_le (by omega), show acc.length + 1 - acc.length = 1 by omega] at this
      exact this
    show mergeT (putK acc p.1 p.2) more = _
    rw [e, mergeT_app more (acc ++ [p]) (by rw [← h1]; exact nd), h1]
theorem mergeT_nil {kvs : List (List Key × V)} (nd : (kvs.map (·.1)).Nodup) : mergeT [] kvs = kvs := mergeT_app kvs [] nd
theorem PrT.ok.same {H H' : Hp} {q : PrT} (h : q.ok H) (s : Same H H') : q.ok H' := ⟨s _ _ h.1, s _ _ h.2⟩
theorem call_dictPT' {X : Cx} (hcalm : X.calm = true) (hu : X.A.units + 64 < cLine) : CallR X (.type "dict") rDictPT := call_dictPT hcalm (by omega)
section
variable {P : Program} {w : World} {K : PySem.W.Frag} {mg : Str → Option Value} {base : Heap} {T : Cls3}
/-! ### the copier -/
abbrev kwTwo : List Str := ["begins", "steps", "ends"]
def spCopier (T : Cls3) : Sp := fun vs H Q _ => ∃ ls, vs = [.str ls] ∧ LsOk ls ∧ ∀ H' t, Same H H' → H t = none → IsTwo T H' t ls → Q (.ref t) H'
theorem ok_law_copier (cf : CF K T) {f : Addr} {fd : FuncData} (F : FnP K "_law_copier" "_law_copier" s_law_copier f fd) (B : BN mg) (c1 : Mak P w K mg base CX0 6 "Marks" T.m (spMakeM T) []) (c2 : MakK P w K mg base CX0 5 "TwoPass" T.t (spMakeT T) 1 kwTwo fun vs zs => vs ++ zs) :
    FnOk P w K mg base CX0 8 f fd ["_law_letters_here"] (spCopier T) := by
  have S := sc_law_copier
  refine ok0 F S (fun vs H Q E h => ?_) (fun cdv A outer s H vs Q E hr h => ?_)
  · obtain ⟨ls, rfl, _⟩ := h
    rfl
  · obtain ⟨ls, rfl, lo, q⟩ := h
    refine ⟨_, (pss_cons (ps_set (i := 1) S.nd rfl (.inl rfl) (pe_mk c1 hr (by decide) (by rfl) (E := E0) pass0 (pa_cons (pv 0) (pa_cons (pe_callTy (call_dictPT' rfl (hu_of' hr)) (by rfl) B.dict (by decide +kernel) (pa_cons (pe_lc (own := [("_law_sign", 2)]) (g := gName 2) (tt := tYes) rfl S.nd (pi_str (pv 0)) (blkOk_by (N := ["_law_letters_here", "_law_known", "_law_sign", "_law_rows"]) (sc := defScope s_law_copier) (by decide +kernel)) (fun _ _ _ _ _ => (pg_name (i := 2) S.nd rfl (Or.inl rfl))) (fun _ _ _ _ _ => pts_nil) (fun _ _ _ _ _ => (pe_tup (pa_cons (pe_tup (pa_cons (pv 2) (pa_cons pe_int pa_nil))) (pa_cons pe_int pa_nil))))) pa_nil)) (pa_cons (pe_tup (pa_cons pe_int pa_nil)) pa_nil)))))
      (pss_cons (ps_set (i := 3) S.nd rfl (.inl rfl) (pe_callTy (call_dictPT' rfl (hu_of' hr)) (by rfl) B.dict (by decide +kernel) (pa_cons (pe_lc (own := [("_law_sign", 2)]) (g := gName 2) (tt := tYes) rfl S.nd (pi_str (pv 0)) (blkOk_by (N := ["_law_letters_here", "_law_known", "_law_sign", "_law_rows"]) (sc := defScope s_law_copier) (by decide +kernel)) (fun _ _ _ _ _ => (pg_name (i := 2) S.nd rfl (Or.inl rfl))) (fun _ _ _ _ _ => pts_nil) (fun _ _ _ _ _ => (pe_tup (pa_cons (pe_tup (pa_cons pe_int (pa_cons (pv 2) (pa_cons pe_int pa_nil)))) (pa_cons (pe_tup (pa_cons (pv 2) (pa_cons pe_int pa_nil))) pa_nil))))) pa_nil)))
      (pss_one (ps_ret (pe_mkK c2 hr (by decide) (by rfl) (E := E0) pass0 (pa_cons (pv 1) pa_nil) (pk_cons (pe_disp (pps_cons pe_int (pe_tup (pa_cons pe_str (pa_cons pe_int pa_nil))) pps_nil) rfl rfl (by simp) (by decide)) (pk_cons (pv 3) (pk_cons (pe_disp (pps_cons pe_int pe_str pps_nil) rfl rfl (by simp) (by decide)) pk_nil)))))))), ?_⟩
    refine ⟨_, rfl, _, rfl, ls, rfl, fun D hD => ?_⟩
    have l4 := lo.l2
    have l1 := lo.l1
    have nd : ((mkS ls).map (·.1)).Nodup := nodup_kS (b := false) (key := fun c => c) (val := fun _ => V.int 0) (by rw [List.map_id']; exact lo.p)
    refine lc_it walk_str (fun i H' => Same H H' ∧ ∃ ps : List PrT, H' D = some (.lst (ps.map fun q => V.ref q.p)) ∧ (ps.map fun q => (q.k, q.v)) = (mkS ls).take i ∧ ∀ q ∈ ps, q.ok H') ⟨same_upd hD, [], upd_same, by simp, fun q hq => by cases hq⟩ (fun _ _ _ _ => True.intro) ?_ ?_
    · rintro i x H1 H2 hi ⟨sm, ps, hDp, e1, e2⟩ ⟨rfl, c, hc, rfl⟩
      have hi' : i < ls.length := hi
      refine ⟨rfl, _, rfl, by show 2 ≤ sizeLine; decide, fun t1 ht1 => ⟨by show 2 ≤ sizeLine; decide, fun t2 ht2 => ?_⟩⟩
      have n12 : t1 ≠ t2 := ne_of_none (upd_same (H := H2) (a := t1)) ht2
      have s2 : Same H2 (upd (upd H2 t1 (.tup [.str ⟨#[c]⟩, .int 0])) t2 (.tup [.ref t1, .int 0])) := (same_upd ht1).trans (same_upd ht2)
      have plen : ps.length = i := by
        have := congrArg List.length e1
        rw [List.length_map, List.length_take, mkS_len] at this
        omega
      refine ⟨_, s2 _ _ hDp, by rw [List.length_map, plen]; exact Nat.lt_of_lt_of_le (show i < 4 by omega) (by decide), ?_⟩
      have sd : ∀ a o, (upd (upd H2 t1 (.tup [.str ⟨#[c]⟩, .int 0])) t2 (.tup [.ref t1, .int 0])) a = some o → (∀ xs, o ≠ .lst xs) → upd (upd (upd H2 t1 (.tup [.str ⟨#[c]⟩, .int 0])) t2 (.tup [.ref t1, .int 0])) D (.lst ((ps.map fun q => V.ref q.p) ++ [.ref t2])) a = some o := fun a o h hne => by
        rw [upd_ne (fun z => by rw [z, s2 _ _ hDp] at h; exact hne _ (Option.some.inj h).symm)]
        exact h
      refine ⟨same_put (sm.trans s2) hD, ps ++ [⟨t2, t1, kS false c, .int 0⟩], ?_, ?_, fun q hq => ?_⟩
      · rw [upd_same, List.map_append]
        rfl
      · rw [List.map_append, e1, List.take_add_one, mkS_kS, List.getElem?_map, cps_get hc]
        rfl
      · rcases List.mem_append.mp hq with hq | hq
        · have := (e2 q hq).same s2
          exact ⟨sd _ _ this.1 (fun _ z => nomatch z), sd _ _ this.2 (fun _ z => nomatch z)⟩
        · have eq : q = ⟨t2, t1, kS false c, .int 0⟩ := by simpa using hq
          subst eq
          exact ⟨sd _ _ upd_same (fun _ z => nomatch z), sd _ _ (by rw [upd_ne n12, upd_same]; rfl) (fun _ z => nomatch z)⟩
    rintro H1 ⟨s1, ps, hDp, e1, e2⟩
    have e1' : (ps.map fun q => (q.k, q.v)) = mkS ls := by
      rw [e1]
      refine List.take_of_length_le ?_
      rw [mkS_len]
      exact Nat.le_refl _
    refine ⟨D, ps, rfl, hDp, e2, fun d hd => ?_⟩
    rw [e1', mergeT_nil nd]
    have s2 : Same H1 (upd H1 d (.dT (mkS ls))) := same_upd hd
    refine ⟨by show 1 ≤ sizeLine; decide, fun g hg => ?_⟩
    have s3 : Same H1 (upd (upd H1 d (.dT (mkS ls))) g (.tup [.int 0])) := s2.trans (same_upd hg)
    have hd3 : upd (upd H1 d (.dT (mkS ls))) g (.tup [.int 0]) d = some (.dT (mkS ls)) := same_upd hg _ _ upd_same
    have hg3 : upd (upd H1 d (.dT (mkS ls))) g (.tup [.int 0]) g = some (.tup [.int 0]) := upd_same
    generalize upd (upd H1 d (.dT (mkS ls))) g (.tup [.int 0]) = H3 at s3 hd3 hg3
    refine fun x dx hx hdx hne => ⟨x, dx, ls, d, g, rfl, upd_same, lo, made_same hx hdx _ _ hd3, made_same hx hdx _ _ hg3, fun H4 s4 im => ⟨rfl, ?_⟩⟩
    have s34 := same_made hx hdx s4
    have s04 : Same H H4 := (s1.trans s3).trans s34
    clear hd3 hg3 s3 s34 s4
    have ndW : ∀ ws : List (Nat × Addr), ws.map (·.1) = ls.cps.toList → ((wS ws).map (·.1)).Nodup := fun ws e => nodup_kS (b := true) (key := fun q : Nat × Addr => q.1) (val := fun q => V.ref q.2) (by rw [e]; exact lo.p)
    refine ⟨_, rfl, ls, rfl, fun D2 hD2 => ?_⟩
    refine lc_it walk_str (fun i H' => Same H4 H' ∧ ∃ (ps : List PrT) (ws : List (Nat × Addr)), H' D2 = some (.lst (ps.map fun q => V.ref q.p)) ∧ (ps.map fun q => (q.k, q.v)) = wS ws ∧ (∀ q ∈ ps, q.ok H') ∧ ws.map (·.1) = ls.cps.toList.take i ∧ ∀ q ∈ ws, H' q.2 = some (.tup [.str ⟨#[q.1]⟩, .int 0])) ⟨same_upd hD2, [], [], upd_same, rfl, fun q hq => (by cases hq), by simp, fun q hq => by cases hq⟩ (fun _ _ _ _ => True.intro) ?_ ?_
    · rintro i y H5 H6 hi ⟨sm, ps, ws, hDp, e1, e2, e3, e4⟩ ⟨rfl, c, hc, rfl⟩
      have hi' : i < ls.length := hi
      refine ⟨rfl, _, rfl, by show 3 ≤ sizeLine; decide, fun t1 ht1 => ⟨_, rfl, by show 2 ≤ sizeLine; decide, fun t3 ht3 => ⟨by show 2 ≤ sizeLine; decide, fun t2 ht2 => ?_⟩⟩⟩
      have s2 : Same H6 (upd (upd (upd H6 t1 (.tup [.int 0, .str ⟨#[c]⟩, .int 0])) t3 (.tup [.str ⟨#[c]⟩, .int 0])) t2 (.tup [.ref t1, .ref t3])) := ((same_upd ht1).trans (same_upd ht3)).trans (same_upd ht2)
      have q1 : (upd (upd (upd H6 t1 (.tup [.int 0, .str ⟨#[c]⟩, .int 0])) t3 (.tup [.str ⟨#[c]⟩, .int 0])) t2 (.tup [.ref t1, .ref t3])) t1 = some (.tup [.int 0, .str ⟨#[c]⟩, .int 0]) := same_upd ht2 _ _ (same_upd ht3 _ _ upd_same)
      have q3 : (upd (upd (upd H6 t1 (.tup [.int 0, .str ⟨#[c]⟩, .int 0])) t3 (.tup [.str ⟨#[c]⟩, .int 0])) t2 (.tup [.ref t1, .ref t3])) t3 = some (.tup [.str ⟨#[c]⟩, .int 0]) := same_upd ht2 _ _ upd_same
      have q2 : (upd (upd (upd H6 t1 (.tup [.int 0, .str ⟨#[c]⟩, .int 0])) t3 (.tup [.str ⟨#[c]⟩, .int 0])) t2 (.tup [.ref t1, .ref t3])) t2 = some (.tup [.ref t1, .ref t3]) := upd_same
      generalize upd (upd (upd H6 t1 (.tup [.int 0, .str ⟨#[c]⟩, .int 0])) t3 (.tup [.str ⟨#[c]⟩, .int 0])) t2 (.tup [.ref t1, .ref t3]) = H7 at s2 q1 q2 q3
      have plen : ps.length = i := by
        have h1 := congrArg List.length e1
        have h3 := congrArg List.length e3
        rw [List.length_map, wS_len] at h1
        rw [List.length_map, List.length_take, ← sLen, Nat.min_eq_left (by omega)] at h3
        omega
      refine ⟨_, s2 _ _ hDp, by rw [List.length_map, plen]; exact Nat.lt_of_lt_of_le (show i < 4 by omega) (by decide), ?_⟩
      have sd : ∀ a o, H7 a = some o → (∀ xs, o ≠ .lst xs) → upd H7 D2 (.lst ((ps.map fun q => V.ref q.p) ++ [.ref t2])) a = some o := fun a o h hne => by
        rw [upd_ne (fun z => by rw [z, s2 _ _ hDp] at h; exact hne _ (Option.some.inj h).symm)]
        exact h
      refine ⟨same_put (sm.trans s2) hD2, ps ++ [⟨t2, t1, kS true c, .ref t3⟩], ws ++ [(c, t3)], ?_, ?_, fun q hq => ?_, ?_, fun q hq => ?_⟩
      · rw [upd_same, List.map_append]
        rfl
      · rw [List.map_append, e1, wS_kS, wS_kS, List.map_append]
        rfl
      · rcases List.mem_append.mp hq with hq | hq
        · have := (e2 q hq).same s2
          exact ⟨sd _ _ this.1 (fun _ z => nomatch z), sd _ _ this.2 (fun _ z => nomatch z)⟩
        · have eq : q = ⟨t2, t1, kS true c, .ref t3⟩ := by simpa using hq
          subst eq
          exact ⟨sd _ _ q2 (fun _ z => nomatch z), sd _ _ q1 (fun _ z => nomatch z)⟩
      · rw [List.map_append, e3, List.take_add_one, cps_get hc]
        rfl
      · rcases List.mem_append.mp hq with hq | hq
        · exact sd _ _ (s2 _ _ (e4 q hq)) (fun _ z => nomatch z)
        · have eq : q = (c, t3) := by simpa using hq
          subst eq
          exact sd _ _ q3 (fun _ z => nomatch z)
    rintro H5 ⟨s5, ps, ws, hDp2, f1, f2, f3, f4⟩
    have f3' : ws.map (·.1) = ls.cps.toList := by
      rw [f3]
      exact List.take_of_length_le (Nat.le_refl _)
    refine ⟨D2, ps, rfl, hDp2, f2, fun wr hwr => ?_⟩
    rw [f1, mergeT_nil (ndW ws f3')]
    have s6 : Same H5 (upd H5 wr (.dT (wS ws))) := same_upd hwr
    have hw6 : upd H5 wr (.dT (wS ws)) wr = some (.dT (wS ws)) := upd_same
    have f46 : ∀ q ∈ ws, upd H5 wr (.dT (wS ws)) q.2 = some (.tup [.str ⟨#[q.1]⟩, .int 0]) := fun q hq => s6 _ _ (f4 q hq)
    have s46 := s5.trans s6
    generalize upd H5 wr (.dT (wS ws)) = H6 at s6 hw6 f46 s46
    refine ⟨_, rfl, fun b hb => ⟨by show 2 ≤ sizeLine; decide, fun tb htb => ?_⟩⟩
    have nbt : b ≠ tb := ne_of_none (upd_same (H := H6) (a := b)) htb
    refine ⟨by rw [upd_ne nbt, upd_same], [(.inl 0, .ref tb)], rfl, by show 1 ≤ 15; decide, ?_⟩
    have s7 : Same H6 (upd (upd (upd H6 b (.dK [])) tb (.tup [.str "", .int 0])) b (.dK (mergeK [] [(.inl 0, .ref tb)]))) := same_put ((same_upd hb).trans (same_upd htb)) hb
    have b7 : (upd (upd (upd H6 b (.dK [])) tb (.tup [.str "", .int 0])) b (.dK (mergeK [] [(.inl 0, .ref tb)]))) b = some (.dK [(.inl 0, .ref tb)]) := upd_same
    have t7 : (upd (upd (upd H6 b (.dK [])) tb (.tup [.str "", .int 0])) b (.dK (mergeK [] [(.inl 0, .ref tb)]))) tb = some (.tup [.str "", .int 0]) := by rw [upd_ne (Ne.symm nbt), upd_same]
    generalize upd (upd (upd H6 b (.dK [])) tb (.tup [.str "", .int 0])) b (.dK (mergeK [] [(.inl 0, .ref tb)])) = H7 at s7 b7 t7
    refine ⟨_, rfl, fun la hla => ⟨upd_same, [(.inl 0, .str "")], rfl, by decide, ?_⟩⟩
    rw [upd_upd]
    have s8 : Same H7 (upd H7 la (.dK (mergeK [] [(.inl 0, .str "")]))) := same_upd hla
    have l8 : upd H7 la (.dK (mergeK [] [(.inl 0, .str "")])) la = some (.dK [(.inl 0, .str "")]) := upd_same
    generalize upd H7 la (.dK (mergeK [] [(.inl 0, .str "")])) = H8 at s8 l8
    have s68 := s7.trans s8
    have rt : RawTwo H8 ls b wr la tb ws := ⟨s8 _ _ b7, s8 _ _ t7, s68 _ _ hw6, f3', fun q hq => s68 _ _ (f46 q hq), l8⟩
    have s48 := s46.trans s68
    refine ⟨rfl, rfl, fun t dt ht hdt hne => ⟨t, dt, x, ls, b, wr, la, tb, ws, rfl, upd_same, (im.same s48).same (made_same ht hdt), lo, rt.same (made_same ht hdt), fun H9 s9 it _ => ⟨rfl, ?_⟩⟩⟩
    exact q _ t ((s04.trans s48).trans (same_made ht hdt s9)) (fresh_of (s04.trans s48) ht) it
end
end K67
end
section
set_option Elab.async false
set_option linter.all false
set_option maxRecDepth 100000
set_option maxHeartbeats 4000000
/-! several except clauses, with and without a name -/
namespace L2
open PySem PySem.Spec PyProof.Rows
/-- behind a suite with a name: slot i is free -/
def unSlot (i : Nat) (D : Ends) : Ends := { nx := fun σ' H' => D.nx (σ'.set i none) H', rt := D.rt, bk := fun σ' H' => D.bk (σ'.set i none) H', ct := fun σ' H' => D.ct (σ'.set i none) H' }
def wMix (K : PySem.W.Frag) (Wout : WX) (D : Ends) : List (Value × Option Nat × (Addr → Value → Option Addr → TS)) → WX
  | [] => Wout
  | (c, none, ts) :: r => fun cls d σ H => ∃ b, PySem.W.exmOne K cls c = some b ∧ (b = true → ∀ a, H a = none → ts a cls d D σ H) ∧ (b = false → wMix K Wout D r cls d σ H)
  | (c, some i, ts) :: r => fun cls d σ H => ∃ b, PySem.W.exmOne K cls c = some b ∧ (b = true → ∀ a, H a = none → ts a cls d (unSlot i D) (σ.set i (some (.ref a))) H) ∧ (b = false → wMix K Wout D r cls d σ H)
/-- .. of slots as many as the def's -/
def wMixL (X : Cx) (Wout : WX) (D : Ends) (l : List (Value × Option Nat × (Addr → Value → Option Addr → TS))) : WX := fun cls d σ H => σ.length = X.N.length → wMix X.K Wout D l cls d σ H
inductive HdsMix (X : Cx) : List ExceptHandler → List (Value × Option Nat × (Addr → Value → Option Addr → TS)) → Prop
  | nil : HdsMix X [] []
  | cons {x : Str} {c : Value} {ts : Addr → Value → Option Addr → TS} {b₀ : Stmt} {suite : List Stmt} {np pos' : Pos} {hds : List ExceptHandler} {l : List (Value × Option Nat × (Addr → Value → Option Addr → TS))} (hc : Names X x c)
      (hsu : ∀ (a : Addr) (oe : Obj) (cls : Value) (d : Option Addr) (pn : List (Addr × Obj)), Zc cls d oe → (∃ vs, oe.data = .fields vs) → PSs (X.suite a ((a, oe) :: pn)) (b₀ :: suite) (ts a cls d)) (r : HdsMix X hds l) :
      HdsMix X (.ExceptHandler (some (.Name x np)) none (b₀ :: suite) pos' :: hds) ((c, none, ts) :: l)
  | named {x n : Str} {i : Nat} {c : Value} {ts : Addr → Value → Option Addr → TS} {b₀ : Stmt} {suite : List Stmt} {np pos' : Pos} {hds : List ExceptHandler} {l : List (Value × Option Nat × (Addr → Value → Option Addr → TS))} (hc : Names X x c) (hi : X.N[i]? = some n) (hln : X.env.kindOf n = some .local)
      (hsu : ∀ (a : Addr) (oe : Obj) (cls : Value) (d : Option Addr) (pn : List (Addr × Obj)), Zc cls d oe → (∃ vs, oe.data = .fields vs) → PSs (X.suite a ((a, oe) :: pn)) (b₀ :: suite) (ts a cls d)) (r : HdsMix X hds l) :
      HdsMix X (.ExceptHandler (some (.Name x np)) (some n) (b₀ :: suite) pos' :: hds) ((c, some i, ts) :: l)
section
variable {X : Cx} {body : List Stmt} {h₀ : ExceptHandler} {hds : List ExceptHandler} {l : List (Value × Option Nat × (Addr → Value → Option Addr → TS))} {pos : Pos} {tb : WX → TS} {Wout : WX}
theorem ps_try_mix (hN : X.N.Nodup) (hs : X.stack = X.env :: X.outer) (hf : X.env.frame = some X.env.locals) (tk : Takes X Wout)
    (hb : ∀ (W : WX) (pn : List (Addr × Obj)) (xe : Value → Shared → Prop), Takes (X.tr pn xe) W → PassesOwn (model X.prog X.w) X.A X.env xe → PSs (X.tr pn xe) body (tb W))
    (hh : HdsMix X (h₀ :: hds) l) : PS X (.Try body (h₀ :: hds) [] [] pos) (fun D σ H => tb (wMixL X Wout D l) D σ H) := by
  refine ⟨fun pins s σ H D I h => ?_⟩
  have ok := I.ok
  have hfr : X.A.frames = some (X.env :: X.outer) := by rw [ok.frames, hs]
  refine wpAny_Try_except ?_
  refine wpAny_mono ((hb (wMixL X Wout D l) (X.pn ++ pins) (fun e s₁ => wpAny (model X.prog X.w) X.A (noteFrame e X.env) (fun _ s₂ => wpAny (model X.prog X.w) X.A (setFlight e none) (fun _ s₃ =>
    wpAny (model X.prog X.w) X.A (handleBy e X.env (h₀ :: hds)) (SP X pins D) X.xe s₃) X.xe s₂) X.xe s₁) (fun u s' xx => ?_) PassesOwn.looking).run [] s σ H D (I.toTry _) h) (fun f s1 hsp => ?_) (fun e s1 he => he)
  · -- the catch
    obtain ⟨a, B, sI, pins', σ', H', cls, d, rfl, J', nb, up, sky, na, os, ag, w0⟩ := xx
    have J : Inv X pins σ' H' sI := J'.ofTry ok
    have w := w0 J.len
    have sky' : Sky B (X.env :: X.outer) a (Zc cls d) X.env.locals s'.heap := by rw [← hs]; exact sky
    show wpAny (model X.prog X.w) X.A (noteFrame (.ref a) X.env) _ _ _
    refine Sky.land Zc.steady hfr hf sky' fun h3 fl3 up3 => ?_
    have J3 : Inv X pins σ' H' { s' with heap := h3 } := J.landed nb fl3.1 (up.trans up3) os ag
    obtain ⟨oe3, vs3, he3, hz3, hd3⟩ := fl3.there
    have notFr : ∀ {h : Heap} {o : Obj} {vs : Array Value}, h.FunFrames B (X.env :: X.outer) → h.get? a = some o → o.data = .fields vs → a ∉ frs (X.env :: X.outer) := fun {h o vs} ff e dd hm => by
      obtain ⟨_, o', e', hnf⟩ := ff.mem hm
      rw [e] at e'; cases e'
      exact hnf _ dd
    have nfr := notFr fl3.2.2.1 he3 hd3
    have nL : a ≠ X.env.locals := fun z => nfr (List.mem_filterMap.mpr ⟨X.env, List.mem_cons_self, by rw [hf, z]⟩)
    have nF : a ∉ X.fs := fun hm => by
      obtain ⟨e, he, q⟩ := List.mem_filterMap.mp hm
      exact nfr (List.mem_filterMap.mpr ⟨e, List.mem_cons_of_mem _ he, q⟩)
    have S3 := J3.suite he3 hd3 na nL nF
    have go : ∀ {hds' : List ExceptHandler} {l' : List (Value × Option Nat × (Addr → Value → Option Addr → TS))}, HdsMix X hds' l' → wMix X.K Wout D l' cls d σ' H' →
        wpAny (model X.prog X.w) X.A (handleBy (.ref a) X.env hds') (SP X pins D) X.xe { s' with heap := h3 } := by
      intro hds' l' hk
      induction hk with
      | nil =>
        intro w
        refine wpAny_handleBy_nil ?_
        obtain ⟨k1, k2, k3, oe, vs, T, oT, ts', he, hz, hd, h1, hr⟩ := id fl3
        unfold PySem.passOn
        refine wpAny_bind (wpAny_field he hd h1 ?_)
        rw [if_neg (show ¬ ((Value.ref T == Value.none) = true) from by simp)]
        have fin : wpAny (model X.prog X.w) X.A (setFlight (.ref a) X.env.frame) (fun _ s4 => wpAny (model X.prog X.w) X.A (throw (.ref a) : Sem Flow) (SP X pins D) X.xe s4) X.xe { s' with heap := h3 } := by
          rw [hf]
          refine HandSPX.setFlight_upZ fl3 fun h4 hh4 up4 => wpAny_throw (tk _ _ ?_)
          exact ⟨a, B, sI, pins, σ', H', cls, d, rfl, J, nb, (up.trans up3).trans up4, .inr (.inr (by rw [hs]; exact hh4)), na, os, ag, w⟩
        first
          | exact wpAny_bind (wpAny_pure (wpAny_bind fin))
          | exact wpAny_bind fin
      | @cons x c ts b₀ suite np pos' hds2 l2 hc hsu r ih =>
        intro w
        obtain ⟨b, hb1, hyes, hno⟩ := w
        refine wpAny_handleBy_cons (codeAny_handlers_test ?_) (by intro q; cases q)
        have LT : PySem.W.Looks (model X.prog X.w) h3 (typeOf (.ref a)) cls := fun A Q E s k q => wpAny_typeOf_ref (k _ _ he3) (by rw [hz3.1]; exact q)
        have LM := PySem.W.exm_one (M := model X.prog X.w) (J3.kIn) LT hb1
        have test : ∀ {Q : Value → Shared → Prop} {E : Value → Shared → Prop}, Q c { s' with heap := h3 } → wpAny (model X.prog X.w) (X.A.mark (some (.ref a))) (eval (.Name x np) X.env) Q E { s' with heap := h3 } := fun {Q E} q => by
          obtain ⟨hg, hdbg, hm | ⟨hm, hv, hnn⟩⟩ := hc
          · exact ld_glob (X := X.suite a ((a, oe3) :: (X.pn ++ pins))) S3 hg hm q hdbg
          · exact ld_blt (X := X.suite a ((a, oe3) :: (X.pn ++ pins))) S3 hg hm hv q hnn hdbg
        refine test (LM.here ?_)
        cases b with
        | true =>
          refine codeAny_handlers_suite ?_
          refine HandSPX.lands_againZ fl3 fun h4 fl4 up4 => ?_
          have J4 : Inv X pins σ' H' { s' with heap := h4 } := J.landed nb fl4.1 ((up.trans up3).trans up4) os ag
          obtain ⟨oe4, vs4, he4, hz4, hd4⟩ := fl4.there
          have S4 := J4.suite he4 hd4 na nL nF
          refine wpAny_mono ((hsu a oe4 cls d (X.pn ++ pins) hz4 ⟨_, hd4⟩).run [] _ _ H' _ S4 (hyes rfl a na)) (fun f s6 hsp => ?_) (fun _ _ z => False.elim z)
          cases f with
          | next =>
            obtain ⟨σ6, H6, S6, q6⟩ := hsp
            exact ⟨_, _, S6.unsuite ok, q6⟩
          | brk =>
            obtain ⟨σ6, H6, S6, q6⟩ := hsp
            exact ⟨_, _, S6.unsuite ok, q6⟩
          | cont =>
            obtain ⟨σ6, H6, S6, q6⟩ := hsp
            exact ⟨_, _, S6.unsuite ok, q6⟩
          | ret u =>
            obtain ⟨v6, σ6, H6, S6, r6, q6⟩ := hsp
            exact ⟨_, _, _, S6.unsuite ok, r6, q6⟩
        | false =>
          show wpAny _ X.A (handleBy (.ref a) X.env hds2) _ _ _
          exact ih (hno rfl)
      | @named x n i c ts b₀ suite np pos' hds2 l2 hc hi hln hsu r ih =>
        intro w
        obtain ⟨b, hb1, hyes, hno⟩ := w
        refine wpAny_handleBy_cons (codeAny_handlers_test ?_) (by intro q; cases q)
        have LT : PySem.W.Looks (model X.prog X.w) h3 (typeOf (.ref a)) cls := fun A Q E s k q => wpAny_typeOf_ref (k _ _ he3) (by rw [hz3.1]; exact q)
        have LM := PySem.W.exm_one (M := model X.prog X.w) (J3.kIn) LT hb1
        have test : ∀ {Q : Value → Shared → Prop} {E : Value → Shared → Prop}, Q c { s' with heap := h3 } → wpAny (model X.prog X.w) (X.A.mark (some (.ref a))) (eval (.Name x np) X.env) Q E { s' with heap := h3 } := fun {Q E} q => by
          obtain ⟨hg, hdbg, hm | ⟨hm, hv, hnn⟩⟩ := hc
          · exact ld_glob (X := X.suite a ((a, oe3) :: (X.pn ++ pins))) S3 hg hm q hdbg
          · exact ld_blt (X := X.suite a ((a, oe3) :: (X.pn ++ pins))) S3 hg hm hv q hnn hdbg
        refine test (LM.here ?_)
        cases b with
        | true =>
          refine codeAny_handlers_suite_as ?_
          refine HandSPX.lands_againZ fl3 fun h4 fl4 up4 => ?_
          have J4 : Inv X pins σ' H' { s' with heap := h4 } := J.landed nb fl4.1 ((up.trans up3).trans up4) os ag
          obtain ⟨oe4, vs4, he4, hz4, hd4⟩ := fl4.there
          have S4 := J4.suite he4 hd4 na nL nF
          refine store_ok (X := X.suite a ((a, oe4) :: (X.pn ++ pins))) (v := .ref a) S4 hN hi (.inl hln) rfl (fun s5 S5 => ?_) (.inr hln)
          refine wpAny_mono ((hsu a oe4 cls d (X.pn ++ pins) hz4 ⟨_, hd4⟩).run [] s5 _ H' _ S5 (hyes rfl a na)) (fun f s6 hsp => ?_) (fun _ _ z => False.elim z)
          have end_ : ∀ {σ6 : L2.St} {H6 : Hp} {Q : Shared → Prop}, Inv (X.suite a ((a, oe4) :: (X.pn ++ pins))) [] σ6 H6 s6 → (∀ s7, Inv X pins (σ6.set i none) H6 s7 → Q s7) →
              wpAny (model X.prog X.w) X.A (do bindName X.env n .none; unbindBehindTheSuite X.env n pos') (fun _ s7 => Q s7) X.xe s6 := fun {σ6 H6 Q} S6 hq => gone_ok (S6.unsuite ok) hN hi hln hq
          cases f with
          | next =>
            obtain ⟨σ6, H6, S6, q6⟩ := hsp
            exact end_ S6 fun s7 J7 => ⟨_, _, J7, q6⟩
          | brk =>
            obtain ⟨σ6, H6, S6, q6⟩ := hsp
            exact end_ S6 fun s7 J7 => ⟨_, _, J7, q6⟩
          | cont =>
            obtain ⟨σ6, H6, S6, q6⟩ := hsp
            exact end_ S6 fun s7 J7 => ⟨_, _, J7, q6⟩
          | ret u =>
            obtain ⟨v6, σ6, H6, S6, r6, q6⟩ := hsp
            exact end_ S6 fun s7 J7 => ⟨_, _, _, J7, r6, q6⟩
        | false =>
          show wpAny _ X.A (handleBy (.ref a) X.env hds2) _ _ _
          exact ih (hno rfl)
    exact go hh w
  · cases f with
    | next =>
      obtain ⟨σ', H', J', q⟩ := hsp
      exact wpAny_execs_nil ⟨σ', H', J'.ofTry ok, q⟩
    | brk =>
      obtain ⟨σ', H', J', q⟩ := hsp
      exact ⟨σ', H', J'.ofTry ok, q⟩
    | cont =>
      obtain ⟨σ', H', J', q⟩ := hsp
      exact ⟨σ', H', J'.ofTry ok, q⟩
    | ret u =>
      obtain ⟨v, σ', H', J', r, q⟩ := hsp
      exact ⟨v, σ', H', J'.ofTry ok, r, q⟩
end
end L2
end
section
set_option Elab.async false
set_option linter.all false
set_option maxRecDepth 100000
set_option maxHeartbeats 4000000
/-! a def's promise where no repr is under way; repr of data -/
namespace L2
open PySem PySem.Spec PyProof.Rows
structure FnG (P : Program) (w : World) (K : PySem.W.Frag) (mg : Str → Option Value) (base : Heap) (CX : CXT) (k : Nat) (f : Addr) (fd : FuncData) (ps : List Str) (sp : Sp) : Prop where
  len : ∀ vs H Q E, sp vs H Q E → vs.length = ps.length
  run : ∀ (A : Around) (outer : List Env) (s : Shared) (H : Hp) (args : Args) (us : List Value) (vs : List V) (Q : VK) (E : XK), A.guards = some [] → Room k A → Env0 P w K mg base A outer s H → BindsTo s fd args (ps.zip us) → Vals vs us → sp vs H Q E →
    codeAny (model P w) A (.call (.ref f) args) (CR CX outer P w H s Q E) s
theorem guards_deeper {A : Around} {env : Env} (h : A.guards = some []) : (A.deeper env).guards = some [] := h
theorem fnG_of {P : Program} {w : World} {K : PySem.W.Frag} {mg : Str → Option Value} {base : Heap} {CX : CXT} {x qual : Str} {params : Arguments} {body : List Stmt} {scope : Scope} {dvs : List V} {kws : List (Str × V)} {f : Addr} {fd : FuncData} {N ps : List Str} {k : Nat} {sp : Sp} (F : FunD K x qual params body scope dvs kws f fd) (S : FnScope N ps scope)
    (len : ∀ vs H Q E, sp vs H Q E → vs.length = ps.length)
    (hbody : ∀ (cdv : Value) (A : Around) (outer : List Env) (s : Shared) (H : Hp) (vs : List V) (Q : VK) (E : XK), (A.deeper (envOfC qual scope s.heap.objs.size f cdv)).guards = some [] → Room k (A.deeper (envOfC qual scope s.heap.objs.size f cdv)) → sp vs H Q E → PySem.W.codeIn K cdv qual = true →
      ∃ t, PSs (cxOf CX P w K mg base N qual scope f cdv A outer s H E) body t ∧ t { nx := fun _ H' => Q .non H', rt := Q } (start N vs) H) : FnG P w K mg base CX (k + 1) f fd ps sp := by
  obtain ⟨oc, od, dV, kV, doc, pm, an, cdv, ct, osl, rfl, lk, hcd, _, _⟩ := F.ex
  refine ⟨len, fun A outer s H args us vs Q E hg hr e0 hb r hsp => ?_⟩
  exact LamX.run_ofS lk hcd S hr e0 hb r (len _ _ _ _ hsp) fun hr2 => hbody cdv A outer s H vs Q E (guards_deeper hg) hr2 hsp hcd
section
variable {X : Cx} {CX : CXT} {k : Nat} {f : Addr} {fd : FuncData} {ps : List Str} {sp : Sp} {E : XK} {ds : List Value} {dvs : List V} {x : Str} {p pos : Pos} {e : Expr} {es : List Expr} {t : TA}
theorem pe_callG (F : FnG X.prog X.w X.K X.mg X.base CX k f fd ps sp) (hgd : X.A.guards = some []) (hr : Room k X.A) (hg : Gl X x) (hm : X.mg x = some (.ref f)) (hk : PySem.W.keepIn X.K (.ref f) = true) (hb : Binds X.K fd ps ds) (hd : Vals dvs ds) (hx : Passes CX X E)
    (ha : PA X (e :: es) t) (hdb : (x == ("__debug__" : Str)) = false := by decide) (he : starEach (e :: es) X.env = (false, eval e X.env) :: starEach es X.env := by rfl) (hpl : (backTo pos (starEach es X.env)).any (·.1) = false := by rfl) :
    PE X (.Call (.Name x p) (e :: es) [] pos) (tCall sp dvs E t) := by
  refine ⟨fun pins s σ H Q I h => ?_⟩
  refine wpAny_Call_Name_kw (ld_glob I hg hm ?_ hdb)
  refine PySem.W.callWith_K (h₀ := X.base) I.ok.mod.kin hk (thn (ha.run pos pins s σ H _ I h) fun us s1 ⟨vs, H1, I1, r, q⟩ => ⟨I1.kIn, ?_⟩) he hpl
  have r2 : Vals (vs ++ dvs) (us ++ ds) := r.append hd
  have hl : (us ++ ds).length = ps.length := by rw [← r2.length]; exact F.len _ _ _ _ q
  refine wpAny_call (codeAny_mono (F.run X.A X.stack s1 H1 ⟨us, []⟩ (us ++ ds) (vs ++ dvs) Q E hgd hr I1.env0 (hb s1 us I1.kIn hl) r2 q) fun r s' hq => ?_)
  cases r with
  | error e => exact hx pins σ H1 s1 e s' I1 hq
  | ok fl =>
    cases fl with
    | ret u => exact I1.after hq
    | next => exact False.elim hq
    | brk => exact False.elim hq
    | cont => exact False.elim hq
end
/-- repr(x), x data without dicts -/
def rReprD (K : PySem.W.Frag) : List V → Hp → VK → Prop := fun vs H Q => ∃ (x : V) (d : PyData), vs = [x] ∧ Dp K H x d ∧ d.showable = true ∧ d.hasDict = false ∧ d.depth ≤ 10 ∧ d.shown.length ≤ sizeLine ∧ Q (.str d.shown) H
theorem call_reprD {X : Cx} {K : PySem.W.Frag} (hK : X.K = K) (hg : X.A.guards = some []) (hu : X.A.units + 64 < cLine) : CallR X (.builtin "repr") (rReprD K) := by
  subst hK
  intro pins s σ H xs us Q I r h
  obtain ⟨x, d, rfl, hd, h1, h2, h3, h4, q⟩ := h
  obtain ⟨u, rfl, ru⟩ := vals1 r
  have fin : ∀ (t : Tok) (s' : Shared), Inv X pins σ H s' → EP X pins σ Q (.str d.shown t) s' := fun t s' J => ⟨.str d.shown, H, J, ⟨t, rfl⟩, q⟩
  cases hd with
  | non => cases ru; exact P.repr_of_none (fin _ _ (I.tok _))
  | bl b => cases ru; exact P.repr_of_bool (fin _ _ (I.tok _))
  | int i =>
    obtain ⟨t, rfl⟩ := ru
    exact P.repr_of_int (of_decide_eq_true h1) (fin _ _ (I.tok _))
  | str z =>
    obtain ⟨t, rfl⟩ := ru
    exact P.repr_of_str (fin _ _ (I.tok _)) h4
  | @lst a ys ds hs ha =>
    cases ru
    obtain ⟨as, hr⟩ := Dp.reads I (.list ds) (.ref a) (.ref a) (.lst hs ha) rfl
    exact repr_of_reads' hr h1 (fun z => absurd (z.symm.trans h2) (by decide)) hg (by omega) (fun b o e => e) (fun h' u tk hk => fin _ _ (I.kept (t' := tk) hk)) h4
  | @tup a ys ds hs ha =>
    cases ru
    obtain ⟨as, hr⟩ := Dp.reads I (.tuple ds) (.ref a) (.ref a) (.tup hs ha) rfl
    exact repr_of_reads' hr h1 (fun z => absurd (z.symm.trans h2) (by decide)) hg (by omega) (fun b o e => e) (fun h' u tk hk => fin _ _ (I.kept (t' := tk) hk)) h4
end L2
end
section
set_option Elab.async false
set_option linter.all false
set_option maxRecDepth 100000
set_option maxHeartbeats 4000000
namespace K67
open PySem PySem.Spec PyProof.Rows L2 LamX
structure Word6 (K : PySem.W.Frag) (mg : Str → Option Value) (C : Cls6) : Prop where
  gm : mg "InvalidMachine" = some (.ref C.m)
  gt : mg "InvalidText" = some (.ref C.t)
  go : mg "InvalidOperation" = some (.ref C.o)
  ge : mg "InvalidEdit" = some (.ref C.e)
  gn : mg "InvalidNumber" = some (.ref C.n)
  gu : mg "NothingToUndo" = some (.ref C.u)
  exm : ∀ a ∈ C.all, ∀ b ∈ C.all, PySem.W.exmOne K (.ref a) (.ref b) = some (decide (a = b))
  nd : C.all.Nodup
  xn : XfC K C.n
  xu : XfC K C.u
  vn : PySem.W.findIn K (.ref C.n) "value" = some none
  vu : PySem.W.findIn K (.ref C.u) "many" = some none
/-- what _law_word makes of an exception -/
def WdE (K : PySem.W.Frag) (C : Cls6) (Q : VK) : XK := fun cls d H =>
  (cls = .ref C.m ∧ Q (.str "machine") H) ∨ (cls = .ref C.t ∧ Q (.str "text") H) ∨ (cls = .ref C.o ∧ Q (.str "operation") H) ∨ (cls = .ref C.e ∧ Q (.str "edit") H) ∨
  (cls = .ref C.n ∧ ∃ (dd : Addr) (v : V) (x : PyData), d = some dd ∧ H dd = some (.xd [("value", v)]) ∧ Dp K H v x ∧ x.showable = true ∧ x.hasDict = false ∧ x.depth ≤ 10 ∧ x.shown.length ≤ 10000 ∧ Q (.str ("number " ++ x.shown)) H) ∨
  (cls = .ref C.u ∧ ∃ (dd : Addr) (v : V) (x : PyData), d = some dd ∧ H dd = some (.xd [("many", v)]) ∧ Dp K H v x ∧ x.showable = true ∧ x.hasDict = false ∧ x.depth ≤ 10 ∧ x.shown.length ≤ 10000 ∧ Q (.str ("nothing " ++ x.shown)) H)
def TTword (K : PySem.W.Frag) (C : Cls6) : (XK → Hp → VK → Prop) → Hp → VK → Prop := fun tl H Q => tl (WdE K C Q) H fun _ H' => Q (.str "returned") H'
theorem word_gives {X : Cx} {C : Cls6} (W : Word6 X.K X.mg C) (B : BN X.mg) (hgd : X.A.guards = some []) (hu : X.A.units + 100 < cLine) {g : Addr} {cdg : Value} {q : Str} :
    GivesTo X ["_law_call", "e"] "_law_word" (defScope s_law_word) g cdg (defBody s_law_word) "_law_call" q (TTword X.K C) := by
  intro f c' s H Q tl act hc h
  have S : FnScope ["_law_call", "e"] ["_law_call"] (defScope s_law_word) := ⟨rfl, rfl, rfl, by decide +kernel, rfl, by decide +kernel, by decide +kernel⟩
  have gd : (X.A.deeper (envOfC "_law_word" (defScope s_law_word) s.heap.objs.size g cdg)).guards = some [] := guards_deeper hgd
  have un : (X.A.deeper (envOfC "_law_word" (defScope s_law_word) s.heap.objs.size g cdg)).units + 64 < cLine := by
    show X.A.units + 3 + 64 < cLine
    omega
  refine ⟨_, pss_cons (ps_try_mix (X := (cxOf C8.CX0 X.prog X.w X.K X.mg X.base ["_law_call", "e"] "_law_word" (defScope s_law_word) g cdg X.A X.stack s H C8.E0).nox)
      (tb := fun W D σ H => ∃ Ech : XK, (∀ cls d σ' H', Ech cls d H' → W cls d σ' H') ∧ σ[0]? = some (some (.ref f)) ∧ H c' = some (CodeO c' q) ∧ tl Ech H fun _ H' => D.nx σ H')
      S.nd rfl rfl LamX.takes0 (fun W pn xe tk _ => ?_)
      (.cons ⟨rfl, by decide, .inl W.gm⟩ (fun a oe cls d pn _ _ => pss_one (ps_ret pe_str))
      (.cons ⟨rfl, by decide, .inl W.gt⟩ (fun a oe cls d pn _ _ => pss_one (ps_ret pe_str))
      (.cons ⟨rfl, by decide, .inl W.go⟩ (fun a oe cls d pn _ _ => pss_one (ps_ret pe_str))
      (.cons ⟨rfl, by decide, .inl W.ge⟩ (fun a oe cls d pn _ _ => pss_one (ps_ret pe_str))
      (.named (i := 1) ⟨rfl, by decide, .inl W.gn⟩ rfl rfl (fun a oe cls d pn hz hf => pss_one (ps_ret (pe_op op_add_str pe_str (pe_callB (call_reprD (K := X.K) rfl gd un) (by rfl) B.repr (by decide +kernel) (pa_cons (pe_xf W.xn W.vn hz hf (pv 1)) pa_nil)))))
      (.named (i := 1) ⟨rfl, by decide, .inl W.gu⟩ rfl rfl (fun a oe cls d pn hz hf => pss_one (ps_ret (pe_op op_add_str pe_str (pe_callB (call_reprD (K := X.K) rfl gd un) (by rfl) B.repr (by decide +kernel) (pa_cons (pe_xf W.xu W.vu hz hf (pv 1)) pa_nil)))))
      .nil))))))) (pss_one (ps_ret pe_str)), ?_⟩
  · refine ⟨fun pins s' σ H' D I h' => ?_⟩
    obtain ⟨Ech, hW, h1, h2, h3⟩ := h'
    exact (pss_one (ps_expr (act W pn xe Ech _ _ tk hW))).run pins s' σ H' D I ⟨h1, h2, h3⟩
  · have ex : ∀ {a b : Addr}, a ∈ C.all → b ∈ C.all → a = b → PySem.W.exmOne X.K (.ref a) (.ref b) = some true := fun {a b} ha hb e => by rw [W.exm a ha b hb]; simp [e]
    have nx : ∀ {a b : Addr}, a ∈ C.all → b ∈ C.all → a ≠ b → PySem.W.exmOne X.K (.ref a) (.ref b) = some false := fun {a b} ha hb e => by rw [W.exm a ha b hb]; simp [e]
    have nd := W.nd
    simp only [Cls6.all, List.nodup_cons, List.mem_cons, List.mem_nil_iff, or_false, not_or] at nd
    obtain ⟨⟨n1, n2, n3, n4, n5⟩, ⟨n6, n7, n8, n9⟩, ⟨n10, n11, n12⟩, ⟨n13, n14⟩, n15, _⟩ := nd
    have im : C.m ∈ C.all := by simp [Cls6.all]
    have it : C.t ∈ C.all := by simp [Cls6.all]
    have io : C.o ∈ C.all := by simp [Cls6.all]
    have ie : C.e ∈ C.all := by simp [Cls6.all]
    have inn : C.n ∈ C.all := by simp [Cls6.all]
    have iu : C.u ∈ C.all := by simp [Cls6.all]
    refine ⟨WdE X.K C Q, fun cls d σ' H' hw hlen => ?_, rfl, hc, h⟩
    rcases hw with ⟨rfl, hq⟩ | ⟨rfl, hq⟩ | ⟨rfl, hq⟩ | ⟨rfl, hq⟩ | ⟨rfl, dd, v, x, rfl, h1, h2, h3, h4, h5, h6, hq⟩ | ⟨rfl, dd, v, x, rfl, h1, h2, h3, h4, h5, h6, hq⟩
    · exact ⟨true, ex im im rfl, fun _ a _ => hq, fun z => nomatch z⟩
    · exact ⟨false, nx it im (Ne.symm n1), fun z => (nomatch z), fun _ => ⟨true, ex it it rfl, fun _ a _ => hq, fun z => nomatch z⟩⟩
    · exact ⟨false, nx io im (Ne.symm n2), fun z => (nomatch z), fun _ => ⟨false, nx io it (Ne.symm n6), fun z => (nomatch z), fun _ => ⟨true, ex io io rfl, fun _ a _ => hq, fun z => nomatch z⟩⟩⟩
    · exact ⟨false, nx ie im (Ne.symm n3), fun z => (nomatch z), fun _ => ⟨false, nx ie it (Ne.symm n7), fun z => (nomatch z), fun _ => ⟨false, nx ie io (Ne.symm n10), fun z => (nomatch z), fun _ => ⟨true, ex ie ie rfl, fun _ a _ => hq, fun z => nomatch z⟩⟩⟩⟩
    · refine ⟨false, nx inn im (Ne.symm n4), fun z => (nomatch z), fun _ => ⟨false, nx inn it (Ne.symm n8), fun z => (nomatch z), fun _ => ⟨false, nx inn io (Ne.symm n11), fun z => (nomatch z), fun _ => ⟨false, nx inn ie (Ne.symm n13), fun z => (nomatch z), fun _ => ⟨true, ex inn inn rfl, fun _ a _ => ?_, fun z => nomatch z⟩⟩⟩⟩⟩
      have hs1 : (σ'.set 1 (some (V.ref a)))[1]? = some (some (.ref a)) := by
        rw [List.getElem?_set_self (by rw [hlen]; show 1 < 2; decide)]
      refine ⟨.ref a, hs1, rfl, rfl, dd, _, v, rfl, h1, rfl, v, x, rfl, h2, h3, h4, h5, Nat.le_trans h6 (by decide), _, _, rfl, rfl, ?_, hq⟩
      exact Nat.le_trans (Nat.add_le_add_left h6 _) (by decide)
    · refine ⟨false, nx iu im (Ne.symm n5), fun z => (nomatch z), fun _ => ⟨false, nx iu it (Ne.symm n9), fun z => (nomatch z), fun _ => ⟨false, nx iu io (Ne.symm n12), fun z => (nomatch z), fun _ => ⟨false, nx iu ie (Ne.symm n14), fun z => (nomatch z), fun _ => ⟨false, nx iu inn (Ne.symm n15), fun z => (nomatch z), fun _ => ⟨true, ex iu iu rfl, fun _ a _ => ?_, fun z => nomatch z⟩⟩⟩⟩⟩⟩
      have hs1 : (σ'.set 1 (some (V.ref a)))[1]? = some (some (.ref a)) := by
        rw [List.getElem?_set_self (by rw [hlen]; show 1 < 2; decide)]
      refine ⟨.ref a, hs1, rfl, rfl, dd, _, v, rfl, h1, rfl, v, x, rfl, h2, h3, h4, h5, Nat.le_trans h6 (by decide), _, _, rfl, rfl, ?_, hq⟩
      exact Nat.le_trans (Nat.add_le_add_left h6 _) (by decide)
end K67
end
section
set_option Elab.async false
set_option linter.all false
set_option maxRecDepth 100000
set_option maxHeartbeats 4000000
namespace K67
open PySem PySem.Spec PyProof.Rows L2 LamX
/-- _law_word as it stands -/
structure WordF (K : PySem.W.Frag) (mg : Str → Option Value) (C : Cls6) : Prop where
  ex : ∃ (g : Addr) (fd : FuncData), FnP K "_law_word" "_law_word" s_law_word g fd ∧ mg "_law_word" = some (.ref g)
  w : Word6 K mg C
  b : BN mg
def Tab3.T (t : Tab3) : List (Addr × Str) := [(t.pn, "_law_numbers_right.<locals>.<lambda>"), (t.pr, "_law_right.<locals>.<lambda>"), (t.pl, "law.<locals>.<lambda>")]
structure Tab3.ok (t : Tab3) : Prop where
  a : t.pn ≠ t.pr
  b : t.pn ≠ t.pl
  c : t.pr ≠ t.pl
theorem Tab3.ok.uniq {t : Tab3} (h : t.ok) : ∀ p ∈ t.T, ∀ q ∈ t.T, p.1 = q.1 → p.2 = q.2 := by
  have h1 := h.a
  have h2 := h.b
  have h3 := h.c
  intro p hp q hq e
  simp only [Tab3.T, List.mem_cons, List.mem_nil_iff, or_false] at hp hq
  rcases hp with rfl | rfl | rfl <;> rcases hq with rfl | rfl | rfl <;> first | rfl | exact absurd e h1 | exact absurd e h2 | exact absurd e h3 | exact absurd e.symm h1 | exact absurd e.symm h2 | exact absurd e.symm h3
/-- _law_word(lambda: body) -/
theorem pe_word {X : Cx} {C : Cls6} (wf : WordF X.K X.mg C) (hgd : X.A.guards = some []) (hg : Gl X "_law_word") {T : List (Addr × Str)} {c P : Addr} {k j : Nat} (TB : TabB X.base X.mg c P) (hcode : X.env.code = .ref c) (hmT : (P, X.env.qual ++ "<lambda>") ∈ T) (hu : ∀ p ∈ T, ∀ q ∈ T, p.1 = q.1 → p.2 = q.2)
    (hr : Room j X.A) (hk : k + 2 ≤ j) {params : Arguments} {body : Expr} {scope : Scope} {t : XK → TE} {p lpos pos : Pos} (hL : lamSB X.env.scope scope = true) (hdef : defaultsOf params X.env = ([], []))
    (hbind : ∀ (q : Str) (cl : List (Str × Addr)) (pm cv ctv : Value), bindArgs (PySem.W.kla_fn "<lambda>" q params body scope cl pm cv ctv) ⟨[], []⟩ = pure [])
    (hbody : ∀ (A : Around) (outer : List Env) (s : Shared) (H : Hp) (E : XK) (f c' : Addr), Room k (A.deeper (lamEnv X scope s.heap.objs.size f c')) → PE (lamCx X A outer s H E scope f c') body (t E)) :
    PE X (.Call (.Name "_law_word" p) [.Lambda params body scope lpos] [] pos) (tLam T (TTword X.K C) t) := by
  obtain ⟨g, fd, F, hm⟩ := wf.ex
  have hb : L2.Binds X.K fd ["_law_call"] [] := F.bindsN fun kV doc pm an cdv ct us hl => by
    match us, hl with
    | [u], _ => rfl
  obtain ⟨oc, od, dV, kV, doc, pm, an, cdv, ct, osl, rfl, lk, hcd, hD, hK⟩ := F.ex
  have S : FnScope ["_law_call", "e"] ["_law_call"] (defScope s_law_word) := ⟨rfl, rfl, rfl, by decide +kernel, rfl, by decide +kernel, by decide +kernel⟩
  exact pe_lamcall (bg := defBody s_law_word) hg hm F.kp lk hcd hb S rfl (.inl (by decide +kernel)) (word_gives wf.w wf.b hgd (by have := hr.un; omega)) TB hcode hmT (fun p hp e => hu p hp _ hmT e) (hr.mono hk) (lamS_by hL) hdef hbind hbody
end K67
end
section
set_option Elab.async false
set_option linter.all false
set_option maxRecDepth 100000
set_option maxHeartbeats 4000000
namespace K67
open PySem PySem.Spec PyProof.Rows L2 LamX
theorem sc_Editor_text : FnScope ["self"] ["self"] (defScope s_Editor_text) := ⟨rfl, rfl, rfl, by decide +kernel, rfl, by decide +kernel, by decide +kernel⟩
theorem sc_Editor_log : FnScope ["self", "one"] ["self"] (defScope s_Editor_log) := ⟨rfl, rfl, rfl, by decide +kernel, rfl, by decide +kernel, by decide +kernel⟩
theorem sc_TwoPass_marks : FnScope ["self"] ["self"] (defScope s_TwoPass_marks) := ⟨rfl, rfl, rfl, by decide +kernel, rfl, by decide +kernel, by decide +kernel⟩
/-- a property of a class -/
structure PropC (P : Program) (w : World) (K : PySem.W.Frag) (mg : Str → Option Value) (base : Heap) (C : Addr) (n : Str) (k : Nat) (sp : Sp) : Prop where
  ex : ∃ (p g : Addr) (fd : FuncData) (ps : List Str), PropOf K C n p g ∧ FnOk P w K mg base CX0 k g fd ps sp ∧ Binds K fd ps [] ∧ Cls K C
theorem pe_pr {X : Cx} {C : Addr} {n : Str} {k j : Nat} {sp : Sp} {e : Expr} {ta : TE} {pos : Pos} (c : PropC X.prog X.w X.K X.mg X.base C n k sp) (hr : Room j X.A) (hk : k + 1 ≤ j) (he : PE X e ta) (hab : attributeBase e n X.env (eval e X.env) = eval e X.env := by rfl) :
    PE X (.Attribute e n pos) (tProp C sp [] E0 ta) := by
  obtain ⟨p, g, fd, ps, hp, F, hb, cl⟩ := c.ex
  exact pe_prop he cl hp F (hr.mono hk) hb .nil pass0 hab
/-- Editor.news as it stands -/
structure NewsC (P : Program) (w : World) (K : PySem.W.Frag) (mg : Str → Option Value) (base : Heap) (T : Cls3) : Prop where
  ex : ∃ (f : Addr) (fd : FuncData) (ps : List Str), GFn P w K mg base 7 f fd ps (spNews T) ∧ Meth K T.e "news" f ∧ Cls K T.e ∧ Binds K fd ps []
/-- list(o.news()) -/
theorem pe_newsL {X : Cx} {T : Cls3} {j : Nat} {o : Expr} {ta : TE} {p pos apos cpos : Pos} (c : NewsC X.prog X.w X.K X.mg X.base T) (hr : Room j X.A) (hk : 10 ≤ j) (hg : Gl X "list") (hm : X.mg "list" = none) (he : PE X o ta)
    {pl : Sem Bool}
    (ht2 : eval (.Call (.Attribute o "news" apos) [] [] cpos) X.env = (do
      let ov ← eval o X.env
      standAt apos.atName
      let (f, first) ← holding [ov] (getMethod ov "news" pl)
      callWith cpos f first (backTo cpos (starEach [] X.env)) (backToKw cpos (keywordEach [] X.env))) := by rfl)
    (hs : starEach [Expr.Call (.Attribute o "news" apos) [] [] cpos] X.env = (false, eval (.Call (.Attribute o "news" apos) [] [] cpos) X.env) :: starEach [] X.env := by rfl) :
    PE X (.Call (.Name "list" p) [.Call (.Attribute o "news" apos) [] [] cpos] [] pos) (tListG (tMethG T.e "news" (spNews T) [] E0 ta tNil)) := by
  obtain ⟨f, fd, ps, F, hmeth, cl, hb⟩ := c.ex
  exact pe_listG (k := 7) (pgen_meth0 he cl hmeth F (hr.mono (by omega)) hb .nil ht2) passL (fun _ _ _ h => h.elim) (hr.mono (by omega)) hg hm (by decide +kernel) (by decide) (by decide) hs
section
variable {P : Program} {w : World} {K : PySem.W.Frag} {mg : Str → Option Value} {base : Heap} {T : Cls3}
theorem ok_Editor_text (cf : CF K T) {f : Addr} {fd : FuncData} (F : FnP K "text" "Editor.text" s_Editor_text f fd) : FnOk P w K mg base CX0 1 f fd ["self"] (getSp T.e "own_text") := by
  have S := sc_Editor_text
  refine ok0 F S (fun vs H Q E h => ?_) (fun cdv A outer s H vs Q E hr h => ?_)
  · obtain ⟨a, dx, fs, v, rfl, _⟩ := h
    rfl
  · obtain ⟨a, dx, fs, v, rfl, ea, l, q⟩ := h
    refine ⟨_, pss_one (ps_ret (pe_fldK (K := K) rfl (pv 0) rfl)), ?_⟩
    exact ⟨_, rfl, a, T.e, dx, fs, v, rfl, ea, cf.ie.cl, cf.ne _ (by decide +kernel), l, q⟩
theorem ok_TwoPass_marks (cf : CF K T) {f : Addr} {fd : FuncData} (F : FnP K "marks" "TwoPass.marks" s_TwoPass_marks f fd) : FnOk P w K mg base CX0 1 f fd ["self"] (getSp T.t "own_marks") := by
  have S := sc_TwoPass_marks
  refine ok0 F S (fun vs H Q E h => ?_) (fun cdv A outer s H vs Q E hr h => ?_)
  · obtain ⟨a, dx, fs, v, rfl, _⟩ := h
    rfl
  · obtain ⟨a, dx, fs, v, rfl, ea, l, q⟩ := h
    refine ⟨_, pss_one (ps_ret (pe_fldK (K := K) rfl (pv 0) rfl)), ?_⟩
    exact ⟨_, rfl, a, T.t, dx, fs, v, rfl, ea, cf.it.cl, cf.nt _ (by decide +kernel), l, q⟩
/-- the log: of steps in effect (version, step) -/
def LogAt (H : Hp) (ps sts : List V) : Prop := Paired (fun p st => ∃ a ver, p = .ref a ∧ H a = some (.tup [ver, st])) ps sts
theorem LogAt.same {H H' : Hp} (s : Same H H') : ∀ {ps sts : List V}, LogAt H ps sts → LogAt H' ps sts
  | _, _, .nil => .nil
  | _, _, .cons ⟨a, v, e, h⟩ t => .cons ⟨a, v, e, s _ _ h⟩ (LogAt.same s t)
theorem LogAt.get {H : Hp} : ∀ {ps sts : List V} {i : Nat} {p : V}, LogAt H ps sts → ps[i]? = some p → ∃ a ver st, p = .ref a ∧ H a = some (.tup [ver, st]) ∧ sts[i]? = some st
  | _, _, i, p, .nil, h => by simp at h
  | _, _, 0, p, .cons ⟨a, v, e, ha⟩ t, h => by
    obtain rfl := Option.some.inj h
    exact ⟨a, v, _, e, ha, rfl⟩
  | _, _, i + 1, p, .cons _ t, h => by
    obtain ⟨a, v, st, e, ha, hs⟩ := LogAt.get t (by simpa using h)
    exact ⟨a, v, st, e, ha, by simpa using hs⟩
theorem LogAt.len {H : Hp} {ps sts : List V} (h : LogAt H ps sts) : ps.length = sts.length := Paired.length h
def spLog (K : PySem.W.Frag) (T : Cls3) : Sp := fun vs H Q _ => ∃ e dx, ∃ s : EdF, ∃ ps sts, vs = [.ref e] ∧ H e = some (.ins T.e dx (edF s)) ∧ SqT K H s.past ps ∧ ps.length ≤ 900 ∧ LogAt H ps sts ∧ ∀ H' p, Same H H' → H' p = some (.tup sts) → Q (.ref p) H'
theorem ok_Editor_log (cf : CF K T) {f : Addr} {fd : FuncData} (F : FnP K "log" "Editor.log" s_Editor_log f fd) (B : BN mg) : FnOk P w K mg base CX0 1 f fd ["self"] (spLog K T) := by
  have S := sc_Editor_log
  refine ok0 F S (fun vs H Q E h => ?_) (fun cdv A outer s H vs Q E hr h => ?_)
  · obtain ⟨e, dx, s, ps, sts, rfl, _⟩ := h
    rfl
  · obtain ⟨e, dx, s0, ps, sts, rfl, he, hp, hl, lg, q⟩ := h
    refine ⟨_, pss_one (ps_ret (pe_callTy call_tuple_of (by rfl) B.tuple (by decide +kernel) (pa_cons (pe_lc (own := [("one", 1)]) (g := gName 1) (tt := tYes) rfl S.nd (pi_tup (pe_fldK (K := K) rfl (pv 0) rfl)) (blkOk_by (N := ["self", "one"]) (sc := defScope s_Editor_log) (by decide +kernel)) (fun _ _ _ _ _ => (pg_name (i := 1) S.nd rfl (Or.inl rfl))) (fun _ _ _ _ _ => pts_nil) (fun _ _ _ _ _ => (pe_ix (show IxR _ (rIxT K) from ix_tup) (pv 1) pe_int (fun _ _ => rfl)))) pa_nil))), ?_⟩
    refine ⟨_, rfl, e, T.e, dx, _, _, rfl, he, cf.ie.cl, cf.ne _ (by decide +kernel), rfl, s0.past, rfl, ⟨_, hp⟩, fun D hD => ?_⟩
    refine lc_gen2 (walk_tup (xs := ps)) sts lg.len.symm (sz60 (by omega)) hD (fun H1 sm => seqT sm hp) ?_ ?_
    · rintro i x H1 H2 K1 hi sm hD2 ⟨rfl, hx⟩ k
      obtain ⟨a, ver, st, rfl, ha, hst⟩ := lg.get hx
      exact ⟨rfl, _, rfl, a, _, 1, st, rfl, rfl, SqT.of (sm _ _ ha), atI_nat (j := 1) rfl, k _ _ hst rfl sm⟩
    · intro H1 sm hl1
      refine ⟨D, sts, rfl, .inl ⟨SqL.of hl1, fun p hp => ?_⟩⟩
      exact q _ p (sm.trans (same_upd hp)) upd_same
/-! ### the situation in which the law looks on -/
structure Sit (K : PySem.W.Frag) (T : Cls3) (lt : Addr → Option Str) (H : Hp) (two : Addr) (t0 : Str) (j : Nat) (s : EdF) : Prop where
  ltH : LT T lt H
  ltw : lt two = some ("ab" : Str)
  m : s.m = two
  fit : Fit "ab" s.t
  fit0 : Fit "ab" t0
  past : ∃ pr vr st, SqT K H s.past [.ref pr] ∧ H pr = some (.tup [.ref vr, .ref st]) ∧ H vr = some (.tup [.ref two, .str t0])
  undone : ∃ st xs os r, SqT K H s.undone [.ref st] ∧ H st = some (.tup xs) ∧ Edts K T lt H xs os ∧ runO lt (s.m, s.t) os = some r
  before : ∃ x, H s.before = some (.tup [.ref two, .str x]) ∧ Fit "ab" x ∧ newsP x s.t (s.t.length + 1) = [j]
theorem Sit.same {lt : Addr → Option Str} {H H' : Hp} {two : Addr} {t0 : Str} {j : Nat} {s : EdF} (h : Sit K T lt H two t0 j s) (sm : Same H H') : Sit K T lt H' two t0 j s := by
  obtain ⟨pr, vr, st, p1, p2, p3⟩ := h.past
  obtain ⟨st', xs, os, r, u1, u2, u3, u4⟩ := h.undone
  obtain ⟨x, b1, b2, b3⟩ := h.before
  exact ⟨h.ltH.same sm, h.ltw, h.m, h.fit, h.fit0, ⟨pr, vr, st, seqT sm p1, sm _ _ p2, sm _ _ p3⟩, ⟨st', xs, os, r, seqT sm u1, sm _ _ u2, u3.same sm, u4⟩, ⟨x, sm _ _ b1, b2, b3⟩⟩
/-- the same for other slots of what was shown -/
theorem Sit.sh {lt : Addr → Option Str} {H : Hp} {two : Addr} {t0 : Str} {j : Nat} {s : EdF} (h : Sit K T lt H two t0 j s) (mk wd : Addr) (r : V) : Sit K T lt H two t0 j ⟨s.past, s.undone, s.before, s.m, s.t, mk, wd, r⟩ :=
  ⟨h.ltH, h.ltw, h.m, h.fit, h.fit0, h.past, h.undone, h.before⟩
theorem Sit.isTwo {lt : Addr → Option Str} {H : Hp} {two : Addr} {t0 : Str} {j : Nat} {s : EdF} (h : Sit K T lt H two t0 j s) : IsTwo T H s.m "ab" := by
  rw [h.m]
  exact h.ltH _ _ h.ltw
/-- the news: one row -/
def NewsL (H : Hp) (l : Addr) (j : Nat) : Prop := ∃ a, H l = some (.lst [.ref a]) ∧ H a = some (.tup [.int (j : Nat), .non, .int 0])
theorem NewsL.dp {K : PySem.W.Frag} {H : Hp} {l : Addr} {j : Nat} (h : NewsL H l j) : Dp K H (.ref l) (.list [.tuple [.int (j : Nat), .none, .int 0]]) := by
  obtain ⟨a, h1, h2⟩ := h
  exact .lst (SqL.of h1) (.cons (.tup (SqT.of h2) (.cons (.int _) (.cons .non (.cons (.int _) .nil)))) .nil)
/-! ### _law_stays -/
def spStays (K : PySem.W.Frag) (T : Cls3) : Sp := fun vs H Q _ => ∃ e k nl de dk, ∃ s s2 : EdF, ∃ two t0 j lt, vs = [.ref e, .ref k, .ref nl] ∧ H e = some (.ins T.e de (edF s)) ∧ H k = some (.ins T.e dk (edF s2)) ∧ s2.past = s.past ∧ s2.m = s.m ∧ s2.t = s.t ∧ Sit K T lt H two t0 j s ∧ NewsL H nl j ∧
  ∀ H', Same H H' → Q (.bl true) H'
theorem ok_law_stays {f : Addr} {fd : FuncData} {CN CU : Addr} (F : FnP K "_law_stays" "_law_stays" s_law_stays f fd) (B : BN mg) (cE : OwnE P w K mg base T.e 5 (spEdEq T)) (cL : PropC P w K mg base T.e "log" 1 (spLog K T)) (cN : NewsC P w K mg base T)
    (cT : Mth P w K mg base CX0 15 T.e "twin" (spTwin T)) (cR : MthD P w K mg base (L2.CX P w) 14 T.e "redo" (spRedo K T CN CU) [.int 1]) : FnOk P w K mg base CX0 16 f fd ["_law_made", "_law_kept", "_law_news_here"] (spStays K T) := by
  have S := sc_law_stays
  refine ok0 F S (fun vs H Q E h => ?_) (fun cdv A outer s H vs Q E hr h => ?_)
  · obtain ⟨e, k, nl, de, dk, s, s2, two, t0, j, lt, rfl, _⟩ := h
    rfl
  · obtain ⟨e, k, nl, de, dk, s0, s2, two, t0, j, lt, rfl, he, hk, hp, hm, ht, si, hn, q⟩ := h
    refine ⟨_, (pss_cons (ps_if (PW.pt (pw_or (pt_cmpR (op_neO cE hr (by decide)) (pv 0) (pv 1) (nomark _)) (pw_or (pt_cmpR (op_neW (hu_of' hr)) (pe_pr cL hr (by decide) (pv 0)) (pe_pr cL hr (by decide) (pv 1)) (nomark _)) (pw_or1 (pt_cmpR (op_neD (hu_of' hr)) (pe_newsL cN hr (by decide) (by rfl) B.list (pv 0)) (pv 2) (nomark _)))))) (pss_one (ps_ret pe_bl)) pss_nil)
      (pss_one (ps_ret (pe_cmpR op_eq (pe_md0 (pe_m0 (pv 0) cT hr (by decide) (E := E0) pass0) cR hr (by decide) (E := E0) passL) pe_int (nomark _))))), ?_⟩
    obtain ⟨pr, vr, st, p1, p2, p3⟩ := si.past
    obtain ⟨su, xs, os, r, u1, u2, u3, u4⟩ := si.undone
    obtain ⟨x, b1, b2, b3⟩ := si.before
    refine ⟨_, rfl, _, rfl, e, k, de, dk, _, _, rfl, rfl, he, hk, e, k, de, dk, s0, s2, "ab", "ab", rfl, he, hk, si.isTwo, by rw [hm]; exact si.isTwo, _, rfl, _, rfl, iteF' (by simp [ht]) ?_⟩
    have lg : LogAt H [V.ref pr] [V.ref st] := .cons ⟨pr, _, rfl, p2⟩ .nil
    refine ⟨_, rfl, e, de, _, rfl, he, e, de, s0, [.ref pr], [.ref st], rfl, he, p1, by show 1 ≤ 900; decide, lg, fun H1 q1 s1 hq1 => ?_⟩
    refine ⟨_, rfl, k, dk, _, rfl, s1 _ _ hk, k, dk, s2, [.ref pr], [.ref st], rfl, s1 _ _ hk, by rw [hp]; exact seqT s1 p1, by show 1 ≤ 900; decide, lg.same s1, fun H2 q2 s2' hq2 => ?_⟩
    refine ⟨.inr (.inr ⟨q1, q2, _, rfl, rfl, s2' _ _ hq1, hq2, fun z hz => by simp at hz; subst hz; rfl⟩), _, rfl, iteF' rfl ?_⟩
    have s12 := s1.trans s2'
    have si2 := si.same s12
    refine ⟨_, rfl, e, de, _, rfl, s12 _ _ he, rfl, e, de, s0, two, x, "ab", "ab", rfl, s12 _ _ he, s12 _ _ b1, si2.ltH _ _ si2.ltw, si2.isTwo, b2, si2.fit, fun H3 rs s3 na p hp => ?_⟩
    rw [b3] at na
    obtain ⟨ra, rfl, hra⟩ : ∃ ra, rs = [.ref ra] ∧ H3 ra = some (.tup [.int (j : Nat), .non, .int 0]) := by
      cases na with
      | cons h1 h2 =>
        cases h2
        obtain ⟨a, rfl, ha⟩ := h1
        exact ⟨a, rfl, ha⟩
    have s4 : Same H3 (upd H3 p (.lst [.ref ra])) := same_upd hp
    have n1 : NewsL (upd H3 p (.lst [.ref ra])) p j := ⟨ra, upd_same, s4 _ _ hra⟩
    have s14 := (s12.trans s3).trans s4
    have n2 : NewsL (upd H3 p (.lst [.ref ra])) nl j := by
      obtain ⟨a, h1, h2⟩ := hn
      exact ⟨a, s14 _ _ h1, s14 _ _ h2⟩
    generalize upd H3 p (.lst [.ref ra]) = H4 at n1 n2 s14
    refine ⟨_, rfl, _, _, n1.dp, n2.dp, rfl, rfl, _, rfl, iteF' ?_ ?_⟩
    · simp [PyData.eqv, PyData.eqvAll]
    have si4 := si.same s14
    refine ⟨_, rfl, e, de, _, rfl, s14 _ _ he, rfl, e, de, s0, "ab", rfl, s14 _ _ he, si4.isTwo, si4.fit, fun H5 x5 dx5 mk wd rr s5 hx5 hx5' => ?_⟩
    have si5 := si.same (s14.trans s5)
    obtain ⟨pr, vr, st, p1, p2, p3⟩ := si5.past
    obtain ⟨su, xs, os, r, u1, u2, u3, u4⟩ := si5.undone
    refine ⟨x5, dx5, _, rfl, hx5', rfl, x5, dx5, ⟨s0.past, s0.undone, s0.before, s0.m, s0.t, mk, wd, rr⟩, [.ref pr], [.ref su], .int 1, lt, rfl, hx5', p1, by show 1 ≤ 900; decide, u1, by show 1 ≤ 900; decide, si5.ltH, True.intro, .inr (.inr ⟨rfl, ?_, su, xs, os, [], r, rfl, u2, u3, u4, fun H6 mk6 wd6 bf6 res6 pa6 un6 pr6 vr6 s6 _ _ _ _ _ _ _ => ?_⟩)⟩
    · exact ⟨"ab", by rw [si5.m]; exact si5.ltw, si5.fit⟩
    · exact ⟨rfl, q _ (s14.trans fun b o hb => s6 _ _ (ne_of_none hb hx5) (s5 _ _ hb))⟩
end
end K67
end
section
set_option Elab.async false
set_option linter.all false
set_option maxRecDepth 100000
set_option maxHeartbeats 4000000
namespace K67
open PySem PySem.Spec PyProof.Rows L2 LamX
/-- n times the sign c -/
def repS (c n : Nat) : Str := ⟨(List.replicate n c).toArray⟩
theorem repS_len (c n : Nat) : (repS c n).length = n := by
  show (List.replicate n c).toArray.size = n
  simp
theorem fold_rep (c : Nat) : ∀ (n : Nat) (a : Array Nat), (List.replicate n (#[c] : Array Nat)).foldl (· ++ ·) a = a ++ (List.replicate n c).toArray
  | 0, a => by simp
  | n + 1, a => by
    rw [List.replicate_succ, List.foldl_cons, fold_rep c n, List.replicate_succ]
    apply Array.toList_inj.mp
    simp
theorem mul_rep (c n : Nat) (h : 1 ≤ n) : Txt.mul ⟨#[c]⟩ (n : Int) = repS c n := by
  unfold Txt.mul
  rw [if_neg (by omega)]
  by_cases h1 : n = 1
  · subst h1
    rfl
  · have e : (((n : Int) == 1) || ((⟨#[c]⟩ : Str).length == 0)) = false := by
      have : ((n : Int) == 1) = false := by simp; omega
      rw [this]
      rfl
    rw [e, if_neg (by decide)]
    show (⟨(List.replicate ((n : Int).toNat) (#[c] : Array Nat)).foldl (· ++ ·) #[]⟩ : Str) = _
    rw [Int.toNat_natCast, fold_rep]
    simp [repS]
/-- a sign times an int -/
def rStrRep : R2 := fun x y H Q => ∃ c n, x = .str ⟨#[c]⟩ ∧ y = .int n ∧ 1 ≤ n ∧ n ≤ 1000 ∧ Q (.str (repS c n.toNat)) H
theorem op_strRep {X : Cx} : OpR X (binaryOp .Mult) rStrRep := by
  intro pins s σ H x y v u Q J rx ry h
  obtain ⟨c, n, rfl, rfl, h1, h2, q⟩ := h
  obtain ⟨t, rfl⟩ := rx
  obtain ⟨t', rfl⟩ := ry
  obtain ⟨k, rfl⟩ : ∃ k : Nat, n = (k : Int) := ⟨n.toNat, by omega⟩
  rw [Int.toNat_natCast] at q
  have l1 : (⟨#[c]⟩ : Str).length = 1 := rfl
  refine SB.mul ⟨by rw [decide_eq_false (by omega), decide_eq_false (by omega)]; rfl, fun _ _ => ?_, fun _ _ => ?_⟩ fun t2 tk => ?_
  · rw [l1]
    have : (2 ^ 63 - 1 : Int) / (k : Int) ≥ 1 := by
      refine (Int.le_ediv_iff_mul_le (by omega)).mpr ?_
      omega
    omega
  · rw [l1, Int.toNat_natCast, Nat.one_mul]
    exact decide_eq_false (Nat.not_lt.mpr (Nat.le_trans (show k ≤ 1000 by omega) (by decide)))
  · rw [mul_rep c k (by omega)]
    exact ⟨.str (repS c k), H, J.tok _, ⟨_, rfl⟩, q⟩
section
variable {P : Program} {w : World} {K : PySem.W.Frag} {mg : Str → Option Value} {base : Heap} {T : Cls3}
/-! ### edits that cannot be made at a text -/
def Wr (K : PySem.W.Frag) (T : Cls3) (lt : Addr → Option Str) (two : Addr) (t : Str) : Hp → V → Prop := fun H x => ∃ o, Edt K T lt H x o ∧ edO lt "ab" t (.ref two) o = none
theorem Wr.same {lt : Addr → Option Str} {two : Addr} {t : Str} {H H' : Hp} {x : V} (h : Wr K T lt two t H x) (s : Same H H') : Wr K T lt two t H' x := by
  obtain ⟨o, h1, h2⟩ := h
  exact ⟨o, h1.same s, h2⟩
/-- values written plainly -/
def argB : V → Bool
  | .non => true | .bl _ => true | .int _ => true
  | .str z => decide (z.length ≤ 1000)
  | _ => false
theorem argL_const {lt : Addr → Option Str} {H : Hp} {x : V} (h : argB x = true) : ArgL K T lt H x := by
  cases x with
  | non => exact ⟨⟨⟨_, by simp [TYS], .non⟩, True.intro⟩, fun p e => nomatch e⟩
  | bl b => exact ⟨⟨⟨_, by simp [TYS], .bl b⟩, True.intro⟩, fun p e => nomatch e⟩
  | int i => exact ⟨⟨⟨_, by simp [TYS], .int i⟩, True.intro⟩, fun p e => nomatch e⟩
  | str z => exact ⟨⟨⟨_, by simp [TYS], .str z⟩, sz60 (of_decide_eq_true h)⟩, fun p e => nomatch e⟩
  | _ => cases h
theorem ty_uniq {H : Hp} {v : V} {t t' : Value} (h : TyOf K H v t) (h' : TyOf K H v t') : t = t' := by
  cases h with
  | non => cases h'; rfl
  | bl x => cases h'; rfl
  | int x => cases h'; rfl
  | str x => cases h'; rfl
  | flt x => cases h'; rfl
  | lst e => cases h' <;> first | rfl | (rename_i q; rw [e] at q; cases q) | (rename_i q _ _ _ _ _; rw [e] at q; cases q)
  | frz e => cases h' <;> first | rfl | (rename_i q; rw [e] at q; cases q) | (rename_i q _ _ _ _ _; rw [e] at q; cases q)
  | tup e => cases h' <;> first | rfl | (rename_i q; rw [e] at q; cases q) | (rename_i q _ _ _ _ _; rw [e] at q; cases q)
  | dK e => cases h' <;> first | rfl | (rename_i q; rw [e] at q; cases q) | (rename_i q _ _ _ _ _; rw [e] at q; cases q)
  | dT e => cases h' <;> first | rfl | (rename_i q; rw [e] at q; cases q) | (rename_i q _ _ _ _ _; rw [e] at q; cases q)
  | ins e =>
    cases h' with
    | ins e' => rw [e] at e'; cases e'; rfl
    | lst e' => rw [e] at e'; cases e'
    | frz e' => rw [e] at e'; cases e'
    | tup e' => rw [e] at e'; cases e'
    | dK e' => rw [e] at e'; cases e'
    | dT e' => rw [e] at e'; cases e'
theorem argL_ty {lt : Addr → Option Str} {H : Hp} {a : Addr} {t : Value} (h : TyOf K H (.ref a) t) (ht : t ∈ TYS T) (hne : t ≠ .ref T.t) : ArgL K T lt H (.ref a) :=
  ⟨⟨⟨t, ht, h⟩, True.intro⟩, fun _ _ _ z => hne (ty_uniq h z)⟩
theorem argL_two (cf : CF K T) {lt : Addr → Option Str} {H : Hp} {a : Addr} {ls : Str} (hlt : LT T lt H) (h : lt a = some ls) : ArgL K T lt H (.ref a) := by
  obtain ⟨p, hp⟩ := hlt _ _ h
  exact ⟨⟨⟨.ref T.t, by simp [TYS], TyOf.ins hp.obj cf.it.cl cf.it.ha cf.it.hn cf.it.htk cf.it.hm⟩, True.intro⟩, fun p e n => by cases e; rw [h] at n; cases n⟩
theorem wr_tup {lt : Addr → Option Str} {two p : Addr} {t : Str} {H : Hp} {xs : List V} (h : H p = some (.tup xs)) (hl : xs.length ≤ 1000) (ha : ∀ x ∈ xs, ArgL K T lt H x) (hn : edOut lt "ab" t (.ref two) xs = none) : Wr K T lt two t H (.ref p) :=
  ⟨some xs, ⟨p, rfl, h, hl, ha⟩, hn⟩
theorem Wr.put {lt : Addr → Option Str} {two r : Addr} {t : Str} {H : Hp} {xs ys : List V} {x : V} (h : Wr K T lt two t H x) (hr : H r = some (.lst xs)) : Wr K T lt two t (upd H r (.lst ys)) x := by
  have ty : ∀ {v : V} {u : Value}, TyOf K H v u → TyOf K (upd H r (.lst ys)) v u := fun {v u} q => by
    have ne : ∀ {a : Addr} {o : HO}, H a = some o → (∀ zs, o ≠ .lst zs) → upd H r (.lst ys) a = some o := fun {a o} e hne => by
      rw [upd_ne (fun z => by rw [z, hr] at e; exact hne _ (Option.some.inj e).symm)]
      exact e
    cases q with
    | non => exact .non
    | bl x => exact .bl x
    | int x => exact .int x
    | str x => exact .str x
    | flt x => exact .flt x
    | @lst a zs e =>
      by_cases hb : a = r
      · subst hb; exact .lst upd_same
      · exact .lst (by rw [upd_ne hb]; exact e)
    | frz e => exact .frz (ne e (fun _ z => nomatch z))
    | tup e => exact .tup (ne e (fun _ z => nomatch z))
    | dK e => exact .dK (ne e (fun _ z => nomatch z))
    | dT e => exact .dT (ne e (fun _ z => nomatch z))
    | ins e a b c d f => exact .ins (ne e (fun _ z => nomatch z)) a b c d f
  have ar : ∀ {v : V}, Arg K T H v → Arg K T (upd H r (.lst ys)) v := fun {v} q => by
    obtain ⟨⟨u, h1, h2⟩, h3⟩ := q
    exact ⟨⟨u, h1, ty h2⟩, h3⟩
  have arL : ∀ {v : V}, ArgL K T lt H v → ArgL K T lt (upd H r (.lst ys)) v := fun {v} q => by
    refine ⟨ar q.1, fun p e n z => ?_⟩
    obtain ⟨⟨u, h1, h2⟩, h3⟩ := q.1
    have := ty_uniq (ty h2) z
    exact q.2 p e n (by rw [← this]; exact h2)
  obtain ⟨o, h1, h2⟩ := h
  refine ⟨o, ?_, h2⟩
  cases o with
  | some xs' =>
    obtain ⟨a, e, ha, hl, hx⟩ := h1
    exact ⟨a, e, by rw [upd_ne (fun z => by rw [z, hr] at ha; cases ha)]; exact ha, hl, fun x hx' => arL (hx x hx')⟩
  | none =>
    refine ⟨ar h1.1, fun a zs e z => ?_⟩
    by_cases hb : a = r
    · rw [hb, upd_same] at z; cases z
    · rw [upd_ne hb] at z
      exact h1.2 a zs e z
theorem edOut_put {lt : Addr → Option Str} {m a v : V} {ls t : Str} : edOut lt ls t m [.str "put", a, v] = if putOk t ls a v = true then some (m, putS t (strOf v) (intOf a)) else none := by simp [edOut]
theorem wr_put {lt : Addr → Option Str} {m : V} {t : Str} {v : V} (h : (isT v && decide (v ≠ .str "") && over (strOf v) "ab") = false) : edOut lt "ab" t m [.str "put", .int 0, v] = none := by
  rw [edOut_put, if_neg]
  unfold putOk
  intro z
  simp only [Bool.and_eq_true] at z
  have : (isT v && decide (v ≠ .str "") && over (strOf v) "ab") = true := by
    simp only [Bool.and_eq_true]
    exact ⟨⟨z.1.1.1.2, z.1.1.2⟩, z.1.2⟩
  rw [h] at this
  cases this
theorem edOut_w3 {lt : Addr → Option Str} {m a v : V} {ls t w : Str} (h1 : w ≠ "put") (h2 : w ≠ "cut") : edOut lt ls t m [.str w, a, v] = none := by
  show (if w = Str.ofString "put" then _ else _) = none
  rw [if_neg h1]
  show (if w = Str.ofString "cut" then _ else _) = none
  rw [if_neg h2]
theorem wr_put61 {lt : Addr → Option Str} {m : V} {t : Str} (h : t.length ≤ 60) : edOut lt "ab" t m [.str "put", .int 0, .str (repS 97 (61 - (t.length : Int)).toNat)] = none := by
  rw [edOut_put, if_neg]
  unfold putOk
  intro z
  simp only [Bool.and_eq_true] at z
  have := of_decide_eq_true z.2
  have e : (strOf (.str (repS 97 (61 - (t.length : Int)).toNat))).length = (61 - (t.length : Int)).toNat := repS_len _ _
  rw [e] at this
  omega
theorem edOut_cut {lt : Addr → Option Str} {m a v : V} {ls t : Str} : edOut lt ls t m [.str "cut", a, v] = if cutOk t a v = true then some (m, cutO t (intOf a) (intOf v)) else none := by
  have e : ¬ Str.ofString "cut" = Str.ofString "put" := by decide
  simp only [edOut]
  rw [if_neg e, if_pos trivial]
theorem wr_cut {lt : Addr → Option Str} {m a v : V} {ls t : Str} (h : cutOk t a v = false) : edOut lt ls t m [.str "cut", a, v] = none := by
  rw [edOut_cut, h]
  rfl
theorem wr_putb {lt : Addr → Option Str} {m a v : V} {ls t : Str} (h : btw a 0 t.length = false) : edOut lt ls t m [.str "put", a, v] = none := by
  rw [edOut_put]
  unfold putOk
  rw [h]
  rfl
theorem btw_lo {i lo hi : Int} (h : i < lo) : btw (.int i) lo hi = false := by
  show (decide (lo ≤ i) && decide (i ≤ hi)) = false
  rw [decide_eq_false (by omega)]
  rfl
theorem btw_hi {i lo hi : Int} (h : hi < i) : btw (.int i) lo hi = false := by
  show (decide (lo ≤ i) && decide (i ≤ hi)) = false
  rw [decide_eq_false (show ¬ i ≤ hi by omega), Bool.and_false]
theorem cut_a {t : Str} {a v : V} (h : btw a 0 t.length = false) : cutOk t a v = false := by
  unfold cutOk
  rw [h]
  rfl
theorem cut_v {t : Str} {a v : V} (h : btw v 1 (t.length - intOf a) = false) : cutOk t a v = false := by
  unfold cutOk
  rw [h, Bool.and_false]
/-! ### lists of those, value by value -/
def PEW (W : Hp → V → Prop) (te : TE) (σ : L2.St) (H0 : Hp) : Prop := ∀ H, Same H0 H → ∀ Q : VK, (∀ v H', Same H H' → W H' v → Q v H') → te σ H Q
def PAW (W : Hp → V → Prop) (ta : TA) (σ : L2.St) (n : Nat) (H0 : Hp) : Prop := ∀ H, Same H0 H → ∀ Q : List V → Hp → Prop, (∀ vs H', Same H H' → vs.length = n → (∀ v ∈ vs, W H' v) → Q vs H') → ta σ H Q
theorem paw_nil {W : Hp → V → Prop} {σ : L2.St} {H0 : Hp} : PAW W tNil σ 0 H0 := fun H s Q q => q [] H (Same.refl _) rfl fun v hv => by cases hv
theorem paw_cons {W : Hp → V → Prop} {te : TE} {ta : TA} {σ : L2.St} {n : Nat} {H0 : Hp} (hW : ∀ H H' v, Same H H' → W H v → W H' v) (he : PEW W te σ H0) (hr : PAW W ta σ n H0) : PAW W (tCons te ta) σ (n + 1) H0 := fun H s Q q =>
  he H s _ fun v H1 s1 w1 => hr H1 (s.trans s1) _ fun vs H2 s2 l2 w2 => q (v :: vs) H2 (s1.trans s2) (by rw [List.length_cons, l2]) fun u hu => by
    rcases List.mem_cons.mp hu with rfl | hu
    · exact hW _ _ _ s2 w1
    · exact w2 u hu
theorem lst_wr {W : Hp → V → Prop} {ta : TA} {σ : L2.St} {n : Nat} {H0 H : Hp} {Q : VK} (s : Same H0 H) (h : PAW W ta σ n H0) (hn : n ≤ sizeLine) (q : ∀ H' p vs, Same H H' → H p = none → H' p = some (.lst vs) → (∀ v ∈ vs, W H' v) → vs.length = n → Q (.ref p) H')
    (hW : ∀ H H' v, Same H H' → W H v → W H' v := by intro H H' v s w; exact w.same s) : tLst ta σ H Q :=
  h H s _ fun vs H1 s1 l1 w1 => ⟨by rw [l1]; exact hn, fun p hp => q _ p vs (s1.trans (same_upd hp)) (fresh_of s1 hp) upd_same (fun v hv => hW _ _ _ (same_upd hp) (w1 v hv)) l1⟩
section
variable {lt : Addr → Option Str} {one two : Addr} {t : Str} {σ : L2.St} {H0 : Hp}
theorem pew_const {ta : TA} {cs : List V} (h : ∀ H (Q : List V → Hp → Prop), Q cs H → ta σ H Q) (hl : cs.length ≤ 100) (ha : cs.all argB = true) (hn : edOut lt "ab" t (.ref two) cs = none) : PEW (Wr K T lt two t) (tTup ta) σ H0 := fun H s Q q =>
  h H _ ⟨sz60 (by omega), fun p hp => q _ _ (same_upd hp) (wr_tup upd_same (by omega) (fun x hx => argL_const (List.all_eq_true.mp ha x hx)) hn)⟩
theorem pew_val {te : TE} {c : V} (h : ∀ H (Q : VK), Q c H → te σ H Q) (ha : argB c = true) (hr : ∀ a, c ≠ .ref a) : PEW (Wr K T lt two t) te σ H0 := fun H s Q q =>
  h H _ (q _ _ (Same.refl _) ⟨none, ⟨(argL_const (lt := lt) ha).1, fun a xs e => absurd e (hr a)⟩, rfl⟩)
theorem pew_lst {ta : TA} {cs : List V} (h : ∀ H (Q : List V → Hp → Prop), Q cs H → ta σ H Q) (hl : cs.length ≤ 100) : PEW (Wr K T lt two t) (tLst ta) σ H0 := fun H s Q q =>
  h H _ ⟨sz60 (by omega), fun p hp => q _ _ (same_upd hp) ⟨none, ⟨⟨⟨_, by simp [TYS], .lst upd_same⟩, True.intro⟩, fun a xs e z => by cases e; rw [upd_same] at z; cases z⟩, rfl⟩⟩
theorem pew_dict : PEW (Wr K T lt two t) tDNewK σ H0 := fun H s Q q p hp =>
  q _ _ (same_upd hp) ⟨none, ⟨⟨⟨_, by simp [TYS], .dK upd_same⟩, True.intro⟩, fun a xs e z => by cases e; rw [upd_same] at z; cases z⟩, rfl⟩
theorem pew_put3 : PEW (Wr K T lt two t) (tTup (tCons (tC (.str "put")) (tCons (tC (.int 0)) (tCons (tTup (tCons (tC (.str "a")) tNil)) tNil)))) σ H0 := fun H s Q q =>
  ⟨by show 1 ≤ sizeLine; decide, fun a ha => ⟨by show 3 ≤ sizeLine; decide, fun p hp => q _ _ ((same_upd ha).trans (same_upd hp)) (wr_tup upd_same (by show 3 ≤ 1000; decide) (fun x hx => by
    simp only [List.mem_cons, List.mem_nil_iff, or_false] at hx
    rcases hx with rfl | rfl | rfl
    · exact argL_const (by decide)
    · exact argL_const rfl
    · exact argL_ty (.tup (same_upd hp _ _ upd_same)) (by simp [TYS]) (fun z => nomatch z)) (wr_put rfl))⟩⟩
theorem pew_put2 : PEW (Wr K T lt two t) (tTup (tCons (tC (.str "put")) (tCons (tLst tNil) (tCons (tC (.str "a")) tNil)))) σ H0 := fun H s Q q =>
  ⟨by show 0 ≤ sizeLine; decide, fun a ha => ⟨by show 3 ≤ sizeLine; decide, fun p hp => q _ _ ((same_upd ha).trans (same_upd hp)) (wr_tup upd_same (by show 3 ≤ 1000; decide) (fun x hx => by
    simp only [List.mem_cons, List.mem_nil_iff, or_false] at hx
    rcases hx with rfl | rfl | rfl
    · exact argL_const (by decide)
    · exact argL_ty (.lst (same_upd hp _ _ upd_same)) (by simp [TYS]) (fun z => nomatch z)
    · exact argL_const (by decide)) (by simp [edOut, putOk, btw]))⟩⟩
theorem pew_put1 : PEW (Wr K T lt two t) (tTup (tCons (tTup (tCons (tC (.str "put")) tNil)) (tCons (tC (.int 0)) (tCons (tC (.str "a")) tNil)))) σ H0 := fun H s Q q =>
  ⟨by show 1 ≤ sizeLine; decide, fun a ha => ⟨by show 3 ≤ sizeLine; decide, fun p hp => q _ _ ((same_upd ha).trans (same_upd hp)) (wr_tup upd_same (by show 3 ≤ 1000; decide) (fun x hx => by
    simp only [List.mem_cons, List.mem_nil_iff, or_false] at hx
    rcases hx with rfl | rfl | rfl
    · exact argL_ty (.tup (same_upd hp _ _ upd_same)) (by simp [TYS]) (fun z => nomatch z)
    · exact argL_const rfl
    · exact argL_const (by decide)) rfl)⟩⟩
theorem pew_useOne (hk : Kits K T) (cf : CF K T) (hlt : LT T lt H0) (hone : lt one = some ("a" : Str)) (hov : over t "a" = false) {n : Int} {x3 : Option V} {σ : L2.St} (h1 : σ[1]? = some (some (.ref one))) : PEW (Wr K T lt two t) (tTup (tCons (tC (.str "use")) (tCons (tVar 1) tNil))) σ H0 := fun H s Q q =>
  ⟨_, h1, by show 2 ≤ sizeLine; decide, fun p hp => q _ _ (same_upd hp) (wr_tup upd_same (by show 2 ≤ 1000; decide) (fun x hx => by
    simp only [List.mem_cons, List.mem_nil_iff, or_false] at hx
    rcases hx with rfl | rfl
    · exact argL_const (by decide)
    · exact argL_two cf ((hlt.same s).same (same_upd hp)) hone) (by
      show edOut lt "ab" t (.ref two) [.str "use", .ref one] = none
      simp [edOut, hone, hov]))⟩
theorem pew_useTwo (cf : CF K T) (hlt : LT T lt H0) (htwo : lt two = some ("ab" : Str)) {σ : L2.St} (h2 : σ[2]? = some (some (.ref two))) : PEW (Wr K T lt two t) (tTup (tCons (tC (.str "use")) (tCons (tVar 2) (tCons (tVar 2) tNil)))) σ H0 := fun H s Q q =>
  ⟨_, h2, _, h2, by show 3 ≤ sizeLine; decide, fun p hp => q _ _ (same_upd hp) (wr_tup upd_same (by show 3 ≤ 1000; decide) (fun x hx => by
    simp only [List.mem_cons, List.mem_nil_iff, or_false] at hx
    rcases hx with rfl | rfl | rfl
    · exact argL_const (by decide)
    · exact argL_two cf ((hlt.same s).same (same_upd hp)) htwo
    · exact argL_two cf ((hlt.same s).same (same_upd hp)) htwo) (by
      exact edOut_w3 (by decide) (by decide)))⟩
theorem pew_two (cf : CF K T) (hlt : LT T lt H0) (htwo : lt two = some ("ab" : Str)) {σ : L2.St} (h2 : σ[2]? = some (some (.ref two))) : PEW (Wr K T lt two t) (tVar 2) σ H0 := fun H s Q q =>
  ⟨_, h2, q _ _ (Same.refl _) ⟨none, ⟨(argL_two cf (hlt.same s) htwo).1, fun a xs e z => by
    cases e
    obtain ⟨p, hp⟩ := hlt _ _ htwo
    rw [s _ _ hp.obj] at z
    cases z⟩, rfl⟩⟩
theorem pew_useMarks (cf : CF K T) (hlt : LT T lt H0) (htwo : lt two = some ("ab" : Str)) (hmk : ∀ m dx fs, H0 two = some (.ins T.t dx fs) → fs.lookup ("own_marks" : Str) = some (.ref m) → lt m = none) {σ : L2.St} (h2 : σ[2]? = some (some (.ref two))) {E : XK} :
    PEW (Wr K T lt two t) (tTup (tCons (tC (.str "use")) (tCons (tProp T.t (getSp T.t "own_marks") [] E (tVar 2)) tNil))) σ H0 := fun H s Q q => by
  obtain ⟨p, hp⟩ := hlt _ _ htwo
  have ho := s _ _ hp.obj
  obtain ⟨dxm, sd, g, nl, hm1, _⟩ := hp.marks
  refine ⟨_, h2, two, p.dx, _, rfl, ho, two, p.dx, _, .ref p.m, rfl, ho, rfl, by show 2 ≤ sizeLine; decide, fun r hr => q _ _ (same_upd hr) (wr_tup upd_same (by show 2 ≤ 1000; decide) (fun x hx => ?_) ?_)⟩
  · simp only [List.mem_cons, List.mem_nil_iff, or_false] at hx
    rcases hx with rfl | rfl
    · exact argL_const (by decide)
    · refine argL_ty (TyOf.ins (same_upd hr _ _ (s _ _ hm1)) cf.im.cl cf.im.ha cf.im.hn cf.im.htk cf.im.hm) (by simp [TYS]) (fun z => ?_)
      injection z with z
      exact cf.kits.tm z.symm
  · have hn := hmk p.m p.dx _ hp.obj rfl
    show edOut lt "ab" t (.ref two) [.str "use", .ref p.m] = none
    simp [edOut, hn]
theorem pew_put61 (ht : t.length ≤ 60) {σ : L2.St} (h0 : σ[0]? = some (some (.int (t.length : Int)))) : PEW (Wr K T lt two t) (tTup (tCons (tC (.str "put")) (tCons (tC (.int 0)) (tCons (tOp rStrRep (tC (.str "a")) (tOp (rI0 fun i j => .int (i - j)) (tC (.int 61)) (tVar 0))) tNil)))) σ H0 := fun H s Q q =>
  ⟨_, h0, _, _, rfl, rfl, 97, 61 - (t.length : Int), rfl, rfl, by omega, by omega, by show 3 ≤ sizeLine; decide, fun p hp => q _ _ (same_upd hp) (wr_tup upd_same (by show 3 ≤ 1000; decide) (fun x hx => by
    simp only [List.mem_cons, List.mem_nil_iff, or_false] at hx
    rcases hx with rfl | rfl | rfl
    · exact argL_const (by decide)
    · exact argL_const rfl
    · exact argL_const (decide_eq_true (by rw [repS_len]; omega))) (wr_put61 ht))⟩
/-! ### the steps that gather them -/
def Acc (W : Hp → V → Prop) (H0 H : Hp) (p : Addr) (k : Nat) : Prop := ∃ xs, Same H0 H ∧ H0 p = none ∧ H p = some (.lst xs) ∧ xs.length = k ∧ ∀ x ∈ xs, W H x
theorem st_lst {W : Hp → V → Prop} {ta : TA} {rest : TS} {D : Ends} {σ : L2.St} {n i : Nat} {H0 : Hp} (hW : ∀ H H' v, Same H H' → W H v → W H' v) (h : PAW W ta σ n H0) (hn : n ≤ 60) (q : ∀ H' p, Acc W H0 H' p n → rest D (σ.set i (some (.ref p))) H') : tSeq (tAsg (tLst ta) (gName i)) rest D σ H0 := by
  have z := lst_wr (Q := fun x H1 => rest D (σ.set i (some x)) H1) (Same.refl H0) h (sz60 (by omega)) (fun H' p vs s hp hpl w l => q H' p ⟨vs, s, hp, hpl, l, w⟩) hW
  exact z
theorem cat_core {W : Hp → V → Prop} {ta : TA} {σ : L2.St} {n k j : Nat} {H0 H : Hp} {p : Addr} {Q : VK} (hW : ∀ H H' v, Same H H' → W H v → W H' v) (a : Acc W H0 H p k) (hσ : σ[j]? = some (some (.ref p))) (h : PAW W ta σ n H0) (hn : k + n ≤ 60)
    (q : ∀ H' r, Acc W H0 H' r (k + n) → Q (.ref r) H') : tOp rCat (tVar j) (tLst ta) σ H Q := by
  obtain ⟨xs, s, hp, hpl, hl, hw⟩ := a
  refine ⟨_, hσ, ?_⟩
  refine lst_wr s h (sz60 (by omega)) (fun H' y ys s2 hy hyl w2 l2 => ?_) hW
  refine ⟨p, y, xs, ys, rfl, rfl, s2 _ _ hpl, hyl, sz60 (by omega), fun r hr => ?_⟩
  have s3 : Same H' (upd H' r (.lst (xs ++ ys))) := same_upd hr
  exact q _ r ⟨xs ++ ys, (s.trans s2).trans s3, fresh_of (s.trans s2) hr, upd_same, by rw [List.length_append, hl, l2], fun x hx => (List.mem_append.mp hx).elim (fun z => hW _ _ _ (s2.trans s3) (hw x z)) fun z => hW _ _ _ s3 (w2 x z)⟩
theorem st_cat {W : Hp → V → Prop} {ta : TA} {rest : TS} {D : Ends} {σ : L2.St} {n k i j : Nat} {H0 H : Hp} {p : Addr} (hW : ∀ H H' v, Same H H' → W H v → W H' v) (a : Acc W H0 H p k) (hσ : σ[j]? = some (some (.ref p))) (h : PAW W ta σ n H0) (hn : k + n ≤ 60)
    (q : ∀ H' r, Acc W H0 H' r (k + n) → rest D (σ.set i (some (.ref r))) H') : tSeq (tAsg (tOp rCat (tVar j) (tLst ta)) (gName i)) rest D σ H := cat_core hW a hσ h hn q
theorem rt_cat {W : Hp → V → Prop} {ta : TA} {D : Ends} {σ : L2.St} {n k j : Nat} {H0 H : Hp} {p : Addr} (hW : ∀ H H' v, Same H H' → W H v → W H' v) (a : Acc W H0 H p k) (hσ : σ[j]? = some (some (.ref p))) (h : PAW W ta σ n H0) (hn : k + n ≤ 60)
    (q : ∀ H' r, Acc W H0 H' r (k + n) → D.rt (.ref r) H') : tRet (tOp rCat (tVar j) (tLst ta)) D σ H := cat_core hW a hσ h hn q
theorem st_app {W : Hp → V → Prop} {te : TE} {rest : TS} {D : Ends} {σ : L2.St} {k j : Nat} {H0 H : Hp} {p : Addr} {K : PySem.W.Frag} (hW : ∀ H H' v, Same H H' → W H v → W H' v) (hP : ∀ H r xs ys x, H r = some (.lst xs) → W H x → W (upd H r (.lst ys)) x) (a : Acc W H0 H p k) (hσ : σ[j]? = some (some (.ref p))) (h : PEW W te σ H0) (hn : k + 1 ≤ 60)
    (q : ∀ H', Acc W H0 H' p (k + 1) → rest D σ H') : tSeq (tDrop (tBM K "list" rAppend (tVar j) (tCons te tNil))) rest D σ H := by
  obtain ⟨xs, s, hp, hpl, hl, hw⟩ := a
  refine ⟨_, hσ, .inl ⟨rfl, _, SqL.of hpl⟩, ?_⟩
  refine h H s _ fun v H1 s1 w1 => ?_
  refine ⟨p, xs, v, rfl, rfl, s1 _ _ hpl, Nat.lt_of_lt_of_le (show xs.length < 60 by omega) (by decide), ?_⟩
  refine q _ ⟨xs ++ [v], same_put (s.trans s1) hp, hp, upd_same, by rw [List.length_append, hl]; rfl, fun x hx => hP _ _ _ _ _ (s1 _ _ hpl) ?_⟩
  rcases List.mem_append.mp hx with z | z
  · exact hW _ _ _ s1 (hw x z)
  · obtain rfl : x = v := by simpa using z
    exact w1
end
def spWrong (K : PySem.W.Frag) (T : Cls3) : Sp := fun vs H Q _ => ∃ one two t lt, vs = [.int (t.length : Int), .ref one, .ref two] ∧ LT T lt H ∧ lt one = some ("a" : Str) ∧ lt two = some ("ab" : Str) ∧ t.length ≤ 60 ∧ over t "a" = false ∧ (∀ m dx fs, H two = some (.ins T.t dx fs) → fs.lookup ("own_marks" : Str) = some (.ref m) → lt m = none) ∧
  ∀ H' p xs, Same H H' → H p = none → H' p = some (.lst xs) → xs.length ≤ 60 → (∀ x ∈ xs, Wr K T lt two t H' x) → 14 ≤ xs.length → Q (.ref p) H'
theorem ok_law_wrong_edits (cf : CF K T) {f : Addr} {fd : FuncData} (F : FnP K "_law_wrong_edits" "_law_wrong_edits" s_law_wrong_edits f fd) (cM : PropC P w K mg base T.t "marks" 1 (getSp T.t "own_marks")) : FnOk P w K mg base CX0 4 f fd ["_law_size", "_law_one", "_law_two"] (spWrong K T) := by
  have S := sc_law_wrong_edits
  refine ok0 F S (fun vs H Q E h => ?_) (fun cdv A outer s H vs Q E hr h => ?_)
  · obtain ⟨one, two, t, lt, rfl, _⟩ := h
    rfl
  · obtain ⟨one, two, t, lt, rfl, hlt, hone, htwo, ht60, hov, hmk, q⟩ := h
    have hk := cf.kits
    refine ⟨_, (pss_cons (ps_set (i := 3) S.nd rfl (.inl rfl) (pe_lst (pa_cons pe_non (pa_cons pe_int (pa_cons pe_str (pa_cons (pe_tup pa_nil) (pa_cons (pe_lst pa_nil) (pa_cons (pe_tup (pa_cons pe_str pa_nil)) (pa_cons (pe_tup (pa_cons pe_str pa_nil)) (pa_cons (pe_tup (pa_cons pe_str pa_nil)) (pa_cons (pe_tup (pa_cons pe_str (pa_cons pe_int pa_nil))) (pa_cons (pe_tup (pa_cons pe_str (pa_cons pe_int pa_nil))) (pa_cons (pe_tup (pa_cons pe_str (pa_cons pe_int (pa_cons pe_int pa_nil)))) pa_nil)))))))))))))
      (pss_cons (ps_set (i := 3) S.nd rfl (.inl rfl) (pe_op op_cat (pv 3) (pe_lst (pa_cons (pe_tup (pa_cons pe_str (pa_cons (pe_un un_neg pe_int) (pa_cons pe_str pa_nil)))) (pa_cons (pe_tup (pa_cons pe_str (pa_cons (pe_op op_add (pv 0) pe_int) (pa_cons pe_str pa_nil)))) (pa_cons (pe_tup (pa_cons pe_str (pa_cons pe_bl (pa_cons pe_str pa_nil)))) (pa_cons (pe_tup (pa_cons pe_str (pa_cons pe_str (pa_cons pe_str pa_nil)))) (pa_cons (pe_tup (pa_cons pe_str (pa_cons pe_int (pa_cons pe_str pa_nil)))) pa_nil))))))))
      (pss_cons (ps_set (i := 3) S.nd rfl (.inl rfl) (pe_op op_cat (pv 3) (pe_lst (pa_cons (pe_tup (pa_cons pe_str (pa_cons pe_int (pa_cons pe_str pa_nil)))) (pa_cons (pe_tup (pa_cons pe_str (pa_cons pe_int (pa_cons pe_str pa_nil)))) (pa_cons (pe_tup (pa_cons pe_str (pa_cons pe_int (pa_cons pe_non pa_nil)))) (pa_cons (pe_tup (pa_cons pe_str (pa_cons pe_int (pa_cons (pe_tup (pa_cons pe_str pa_nil)) pa_nil)))) (pa_cons (pe_tup (pa_cons pe_non (pa_cons pe_int (pa_cons pe_str pa_nil)))) pa_nil))))))))
      (pss_cons (ps_expr (pe_bm PySem.F.plainAttrs_list PySem.F.slot_list_append PySem.F.type_list_append mt_append (pv 3) (pa_cons (pe_tup (pa_cons pe_str (pa_cons pe_int (pa_cons (pe_op op_strRep pe_str (pe_op op_sub pe_int (pv 0))) pa_nil)))) pa_nil)))
      (pss_cons (ps_set (i := 3) S.nd rfl (.inl rfl) (pe_op op_cat (pv 3) (pe_lst (pa_cons (pe_tup (pa_cons pe_str (pa_cons pe_int (pa_cons pe_str (pa_cons pe_str pa_nil))))) (pa_cons (pe_tup (pa_cons pe_str (pa_cons (pe_lst pa_nil) (pa_cons pe_str pa_nil)))) (pa_cons (pe_lst (pa_cons pe_str (pa_cons pe_int (pa_cons pe_str pa_nil)))) (pa_cons (pe_tup (pa_cons pe_str (pa_cons pe_int (pa_cons pe_int pa_nil)))) (pa_cons (pe_tup (pa_cons pe_str (pa_cons pe_int (pa_cons (pe_op op_add (pv 0) pe_int) pa_nil)))) pa_nil))))))))
      (pss_cons (ps_set (i := 3) S.nd rfl (.inl rfl) (pe_op op_cat (pv 3) (pe_lst (pa_cons (pe_tup (pa_cons pe_str (pa_cons (pv 0) (pa_cons pe_int pa_nil)))) (pa_cons (pe_tup (pa_cons pe_str (pa_cons (pe_un un_neg pe_int) (pa_cons pe_int pa_nil)))) (pa_cons (pe_tup (pa_cons pe_str (pa_cons pe_int (pa_cons pe_bl pa_nil)))) (pa_cons (pe_tup (pa_cons pe_str (pa_cons pe_bl (pa_cons pe_int pa_nil)))) (pa_cons (pe_tup (pa_cons pe_str (pa_cons pe_int (pa_cons pe_non pa_nil)))) pa_nil))))))))
      (pss_cons (ps_set (i := 3) S.nd rfl (.inl rfl) (pe_op op_cat (pv 3) (pe_lst (pa_cons (pe_tup (pa_cons pe_str (pa_cons pe_int (pa_cons (pe_un un_neg pe_int) pa_nil)))) (pa_cons (pe_tup (pa_cons pe_str (pa_cons pe_int (pa_cons pe_str pa_nil)))) (pa_cons (pe_tup (pa_cons pe_str (pa_cons (pv 1) pa_nil))) (pa_cons (pe_tup (pa_cons pe_str (pa_cons pe_non pa_nil))) (pa_cons (pe_tup (pa_cons pe_str (pa_cons (pv 2) (pa_cons (pv 2) pa_nil)))) (pa_cons (pe_tup (pa_cons pe_str (pa_cons pe_str pa_nil))) pa_nil)))))))))
      (pss_cons (ps_set (i := 3) S.nd rfl (.inl rfl) (pe_op op_cat (pv 3) (pe_lst (pa_cons (pe_tup (pa_cons pe_str (pa_cons (pe_pr cM hr (by decide) (pv 2)) pa_nil))) (pa_cons (pe_tup (pa_cons (pe_tup (pa_cons pe_str pa_nil)) (pa_cons pe_int (pa_cons pe_str pa_nil)))) (pa_cons (pe_tup (pa_cons pe_str (pa_cons pe_non (pa_cons pe_str pa_nil)))) (pa_cons (pe_tup (pa_cons pe_str (pa_cons pe_int (pa_cons pe_str pa_nil)))) (pa_cons pe_dnewK (pa_cons (pv 2) pa_nil)))))))))
      (pss_one (ps_ret (pe_op op_cat (pv 3) (pe_lst (pa_cons (pe_tup (pa_cons pe_str (pa_cons pe_int (pa_cons (pe_op op_pow pe_int pe_int) pa_nil)))) (pa_cons (pe_tup (pa_cons pe_str (pa_cons pe_int (pa_cons (pv 0) pa_nil)))) pa_nil)))))))))))))), ?_⟩
    have wrS : ∀ (H H' : Hp) (v : V), Same H H' → Wr K T lt two t H v → Wr K T lt two t H' v := fun H H' v sm w => w.same sm
    refine st_lst (W := Wr K T lt two t) wrS (paw_cons wrS (pew_val (c := .non) (fun H Q h => h) (by decide +kernel) (fun a z => nomatch z)) (paw_cons wrS (pew_val (c := .int 0) (fun H Q h => h) (by decide +kernel) (fun a z => nomatch z)) (paw_cons wrS (pew_val (c := .str "put") (fun H Q h => h) (by decide +kernel) (fun a z => nomatch z)) (paw_cons wrS (pew_const (cs := []) (fun H Q h => h) (by show 0 ≤ 100; decide) rfl rfl) (paw_cons wrS (pew_lst (cs := []) (fun H Q h => h) (by decide)) (paw_cons wrS (pew_const (cs := [.str "put"]) (fun H Q h => h) (by show 1 ≤ 100; decide) rfl rfl) (paw_cons wrS (pew_const (cs := [.str "cut"]) (fun H Q h => h) (by show 1 ≤ 100; decide) rfl rfl) (paw_cons wrS (pew_const (cs := [.str "use"]) (fun H Q h => h) (by show 1 ≤ 100; decide) rfl rfl) (paw_cons wrS (pew_const (cs := [.str "put", .int 0]) (fun H Q h => h) (by show 2 ≤ 100; decide) rfl rfl) (paw_cons wrS (pew_const (cs := [.str "cut", .int 0]) (fun H Q h => h) (by show 2 ≤ 100; decide) rfl rfl) (paw_cons wrS (pew_const (cs := [.str "move", .int 0, .int 1]) (fun H Q h => h) (by show 3 ≤ 100; decide) rfl (edOut_w3 (by decide) (by decide))) paw_nil))))))))))) (by omega) fun H1 p1 a1 => ?_
    refine st_cat (W := Wr K T lt two t) wrS a1 rfl (paw_cons wrS (pew_const (cs := [.str "put", .int (-1), .str "a"]) (fun H Q h => ⟨1, rfl, h⟩) (by show 3 ≤ 100; decide) rfl (wr_putb (btw_lo (by decide)))) (paw_cons wrS (pew_const (cs := [.str "put", .int ((t.length : Int) + 1), .str "a"]) (fun H Q h => ⟨_, rfl, _, _, rfl, rfl, h⟩) (by show 3 ≤ 100; decide) rfl (wr_putb (btw_hi (by omega)))) (paw_cons wrS (pew_const (cs := [.str "put", .bl true, .str "a"]) (fun H Q h => h) (by show 3 ≤ 100; decide) rfl (wr_putb rfl)) (paw_cons wrS (pew_const (cs := [.str "put", .str "0", .str "a"]) (fun H Q h => h) (by show 3 ≤ 100; decide) rfl (wr_putb rfl)) (paw_cons wrS (pew_const (cs := [.str "put", .int 0, .str ""]) (fun H Q h => h) (by show 3 ≤ 100; decide) rfl (wr_put (by decide))) paw_nil))))) (by omega) fun H2 p2 a2 => ?_
    refine st_cat (W := Wr K T lt two t) wrS a2 rfl (paw_cons wrS (pew_const (cs := [.str "put", .int 0, .str "c"]) (fun H Q h => h) (by show 3 ≤ 100; decide) rfl (wr_put (by decide +kernel))) (paw_cons wrS (pew_const (cs := [.str "put", .int 0, .str "A"]) (fun H Q h => h) (by show 3 ≤ 100; decide) rfl (wr_put (by decide +kernel))) (paw_cons wrS (pew_const (cs := [.str "put", .int 0, .non]) (fun H Q h => h) (by show 3 ≤ 100; decide) rfl (wr_put rfl)) (paw_cons wrS (pew_put3) (paw_cons wrS (pew_const (cs := [.non, .int 0, .str "a"]) (fun H Q h => h) (by show 3 ≤ 100; decide) rfl rfl) paw_nil))))) (by omega) fun H3 p3 a3 => ?_
    refine st_app (W := Wr K T lt two t) wrS (fun H r xs ys x hr w => w.put hr) a3 rfl (pew_put61 ht60 rfl) (by omega) fun H4 a4 => ?_
    refine st_cat (W := Wr K T lt two t) wrS a4 rfl (paw_cons wrS (pew_const (cs := [.str "put", .int 0, .str "a", .str "b"]) (fun H Q h => h) (by show 4 ≤ 100; decide) rfl rfl) (paw_cons wrS (pew_put2) (paw_cons wrS (pew_lst (cs := [.str "put", .int 0, .str "a"]) (fun H Q h => h) (by decide)) (paw_cons wrS (pew_const (cs := [.str "cut", .int 0, .int 0]) (fun H Q h => h) (by show 3 ≤ 100; decide) rfl (wr_cut (cut_v (btw_lo (by decide))))) (paw_cons wrS (pew_const (cs := [.str "cut", .int 0, .int ((t.length : Int) + 1)]) (fun H Q h => ⟨_, rfl, _, _, rfl, rfl, h⟩) (by show 3 ≤ 100; decide) rfl (wr_cut (cut_v (btw_hi (by show (t.length : Int) - 0 < _; omega))))) paw_nil))))) (by omega) fun H5 p5 a5 => ?_
    refine st_cat (W := Wr K T lt two t) wrS a5 rfl (paw_cons wrS (pew_const (cs := [.str "cut", .int (t.length : Int), .int 1]) (fun H Q h => ⟨_, rfl, h⟩) (by show 3 ≤ 100; decide) rfl (wr_cut (cut_v (btw_hi (by show (t.length : Int) - (t.length : Int) < 1; omega))))) (paw_cons wrS (pew_const (cs := [.str "cut", .int (-1), .int 1]) (fun H Q h => ⟨1, rfl, h⟩) (by show 3 ≤ 100; decide) rfl (wr_cut (cut_a (btw_lo (by decide))))) (paw_cons wrS (pew_const (cs := [.str "cut", .int 0, .bl true]) (fun H Q h => h) (by show 3 ≤ 100; decide) rfl (wr_cut (cut_v rfl))) (paw_cons wrS (pew_const (cs := [.str "cut", .bl false, .int 1]) (fun H Q h => h) (by show 3 ≤ 100; decide) rfl (wr_cut (cut_a rfl))) (paw_cons wrS (pew_const (cs := [.str "cut", .int 0, .non]) (fun H Q h => h) (by show 3 ≤ 100; decide) rfl (wr_cut (cut_v rfl))) paw_nil))))) (by omega) fun H6 p6 a6 => ?_
    refine st_cat (W := Wr K T lt two t) wrS a6 rfl (paw_cons wrS (pew_const (cs := [.str "cut", .int 0, .int (-1)]) (fun H Q h => ⟨1, rfl, h⟩) (by show 3 ≤ 100; decide) rfl (wr_cut (cut_v (btw_lo (by decide))))) (paw_cons wrS (pew_const (cs := [.str "cut", .int 0, .str "a"]) (fun H Q h => h) (by show 3 ≤ 100; decide) rfl (wr_cut (cut_v rfl))) (paw_cons wrS (pew_useOne (n := 0) (x3 := none) hk cf hlt hone hov rfl) (paw_cons wrS (pew_const (cs := [.str "use", .non]) (fun H Q h => h) (by show 2 ≤ 100; decide) rfl rfl) (paw_cons wrS (pew_useTwo cf hlt htwo rfl) (paw_cons wrS (pew_const (cs := [.str "use", .str "a"]) (fun H Q h => h) (by show 2 ≤ 100; decide) rfl rfl) paw_nil)))))) (by omega) fun H7 p7 a7 => ?_
    refine st_cat (W := Wr K T lt two t) wrS a7 rfl (paw_cons wrS (pew_useMarks cf hlt htwo hmk rfl) (paw_cons wrS (pew_put1) (paw_cons wrS (pew_const (cs := [.str "put", .non, .str "a"]) (fun H Q h => h) (by show 3 ≤ 100; decide) rfl (wr_putb rfl)) (paw_cons wrS (pew_const (cs := [.str "PUT", .int 0, .str "a"]) (fun H Q h => h) (by show 3 ≤ 100; decide) rfl (edOut_w3 (by decide) (by decide))) (paw_cons wrS (pew_dict) (paw_cons wrS (pew_two cf hlt htwo rfl) paw_nil)))))) (by omega) fun H8 p8 a8 => ?_
    refine rt_cat (W := Wr K T lt two t) wrS a8 rfl (paw_cons wrS (pew_const (cs := [.str "cut", .int 0, .int (10 ^ 39)]) (fun H Q h => ⟨10, 39, rfl, rfl, ⟨by decide, by decide, by decide⟩, h⟩) (by show 3 ≤ 100; decide) rfl (wr_cut (cut_v (btw_hi (by show (t.length : Int) - 0 < _; omega))))) (paw_cons wrS (pew_const (cs := [.str "cut", .int 1, .int (t.length : Int)]) (fun H Q h => ⟨_, rfl, h⟩) (by show 3 ≤ 100; decide) rfl (wr_cut (cut_v (btw_hi (by show (t.length : Int) - 1 < _; omega))))) paw_nil)) (by omega) fun H9 p9 a9 => ?_
    obtain ⟨xs, s, hp, hpl, hl, hw⟩ := a9
    exact q _ _ xs s hp hpl (by omega) hw (by omega)
end
end K67
end
section
set_option Elab.async false
set_option linter.all false
set_option maxRecDepth 100000
set_option maxHeartbeats 1000000
namespace K67
open PySem PySem.Spec PyProof.Rows L2 LamX
section
variable {P : Program} {w : World} {K : PySem.W.Frag} {mg : Str → Option Value} {base : Heap} {T : Cls3}
/-- Editor.make: what it got becomes a tuple, a step -/
def spMk (K : PySem.W.Frag) (T : Cls3) (C : Addr) : Sp := fun vs H Q E => ∃ ws rest, vs = ws ++ rest ∧ ws.length = (["self"] : List Str).length ∧ rest.length ≤ sizeLine ∧ ∀ p, H p = Option.none → spStep K T C (ws ++ [V.ref p]) (upd H p (.tup rest)) Q E
theorem edt_tup {lt : Addr → Option Str} {H : Hp} {a : Addr} {xs : List V} (h : H a = some (.tup xs)) (hl : xs.length ≤ 1000) (ha : ∀ x ∈ xs, ArgL K T lt H x) : Edt K T lt H (.ref a) (some xs) := ⟨a, rfl, h, hl, ha⟩
theorem edt_consts {lt : Addr → Option Str} {H : Hp} {a : Addr} {xs : List V} (h : H a = some (.tup xs)) (ha : xs.all argB = true) (hl : xs.length ≤ 1000 := by simp) : Edt K T lt H (.ref a) (some xs) :=
  edt_tup h hl fun x hx => argL_const (List.all_eq_true.mp ha x hx)
theorem stepO_bad {lt : Addr → Option Str} {m : Addr} {t ls : Str} {o : Option (List V)} (h1 : lt m = some ls) (h2 : edO lt ls t (.ref m) o = none) : stepO lt (m, t) o = none := by
  unfold stepO
  rw [h1]
  dsimp only
  rw [h2]
theorem stepO_ok {lt : Addr → Option Str} {m m' : Addr} {t t' ls : Str} {o : Option (List V)} (h1 : lt m = some ls) (h2 : edO lt ls t (.ref m) o = some (.ref m', t')) : stepO lt (m, t) o = some (m', t') := by
  unfold stepO
  rw [h1]
  dsimp only
  rw [h2]
theorem runO_cons {lt : Addr → Option Str} {v r : Addr × Str} {o : Option (List V)} {os : List (Option (List V))} (h : stepO lt v o = some r) : runO lt v (o :: os) = runO lt r os := by
  show (match stepO lt v o with | some r => runO lt r os | none => none) = _
  rw [h]
theorem runO_bad {lt : Addr → Option Str} {v : Addr × Str} {o : Option (List V)} {os : List (Option (List V))} (h : stepO lt v o = none) : runO lt v (o :: os) = none := by
  show (match stepO lt v o with | some r => runO lt r os | none => none) = _
  rw [h]
theorem edO_put {lt : Addr → Option Str} {ls t z : Str} {m : V} {i : Int} (h : putOk t ls (.int i) (.str z) = true) : edO lt ls t m (some [.str "put", .int i, .str z]) = some (m, putS t z i) := by
  have e : edOut lt ls t m [.str "put", .int i, .str z] = some (m, putS t z i) := by
    rw [edOut_put, if_pos h]
    rfl
  exact e
theorem edO_putb {lt : Addr → Option Str} {ls t : Str} {m v : V} {i : Int} (h : btw (.int i) 0 t.length = false) : edO lt ls t m (some [.str "put", .int i, v]) = none := by
  have e : edOut lt ls t m [.str "put", .int i, v] = none := wr_putb h
  exact e
theorem edO_cut {lt : Addr → Option Str} {ls t : Str} {m : V} {i n : Int} (h : cutOk t (.int i) (.int n) = true) : edO lt ls t m (some [.str "cut", .int i, .int n]) = some (m, cutO t i n) := by
  have e : edOut lt ls t m [.str "cut", .int i, .int n] = some (m, cutO t i n) := by
    rw [edOut_cut, if_pos h]
    rfl
  exact e
theorem edO_use {lt : Addr → Option Str} {ls ls' t : Str} {m : V} {p : Addr} (h1 : lt p = some ls') (h2 : over t ls' = true) : edO lt ls t m (some [.str "use", .ref p]) = some (.ref p, t) := by
  have e : edOut lt ls t m [.str "use", .ref p] = some (.ref p, t) := by simp [edOut, h1, h2]
  exact e
theorem edO_use_bad {lt : Addr → Option Str} {ls ls' t : Str} {m : V} {p : Addr} (h1 : lt p = some ls') (h2 : over t ls' = false) : edO lt ls t m (some [.str "use", .ref p]) = none := by
  have e : edOut lt ls t m [.str "use", .ref p] = none := by simp [edOut, h1, h2]
  exact e
theorem putOk0 {t ls z : Str} (hz : isT (.str z) = true) (hn : z ≠ "") (ho : over z ls = true) (hl : t.length + z.length ≤ 60) : putOk t ls (.int 0) (.str z) = true := by
  unfold putOk
  have h1 : btw (.int 0) 0 t.length = true := by
    show (decide ((0 : Int) ≤ 0) && decide ((0 : Int) ≤ (t.length : Int))) = true
    rw [decide_eq_true (by omega), decide_eq_true (by omega)]
    rfl
  have h2 : decide (V.str z ≠ V.str "") = true := decide_eq_true fun e => hn (by injection e)
  have h3 : decide ((t.length : Int) + ((strOf (.str z)).length : Int) ≤ 60) = true := decide_eq_true (by
    show (t.length : Int) + (z.length : Int) ≤ 60
    omega)
  rw [h1, hz, h2, h3]
  show (true && true && true && over z ls && true) = true
  rw [ho]
  rfl
theorem fitv_put {lt : Addr → Option Str} {m : Addr} {ls t z : Str} {i : Int} (h1 : lt m = some ls) (f : Fit ls t) (h : putOk t ls (.int i) (.str z) = true) : FitV lt (m, putS t z i) := by
  have q : Fit ls (putS t z (intOf (.int i))) := fit_put f h
  have e : intOf (.int i) = i := rfl
  rw [e] at q
  exact ⟨ls, h1, q⟩
theorem fitv_cut {lt : Addr → Option Str} {m : Addr} {ls t : Str} {i n : Int} (h1 : lt m = some ls) (f : Fit ls t) (h : cutOk t (.int i) (.int n) = true) : FitV lt (m, cutO t i n) := by
  have q : Fit ls (cutO t (intOf (.int i)) (intOf (.int n))) := fit_cut f h
  have e : intOf (.int i) = i := rfl
  have e2 : intOf (.int n) = n := rfl
  rw [e, e2] at q
  exact ⟨ls, h1, q⟩
/-- a step that cannot be made -/
theorem step_bad {C : Addr} {lt : Addr → Option Str} {e dx p : Addr} {s : EdF} {ps rest : List V} {H : Hp} {Q : VK} {E : XK} (he : H e = some (.ins T.e dx (edF s))) (hps : SqT K H s.past ps) (hpl : ps.length ≤ 900) (hlt : LT T lt H) (hfit : FitV lt (s.m, s.t))
    (hp : H p = some (.tup rest)) (hl : rest.length ≤ 1000) (hb : rest = [] ∨ ∃ os, Edts K T lt H rest os ∧ runO lt (s.m, s.t) os = none) (q : ∀ H', Same H H' → E (.ref C) none H') : spStep K T C [.ref e, .ref p] H Q E := by
  refine ⟨e, dx, s, ps, .ref p, lt, rfl, he, hps, hpl, hlt, hfit, ⟨⟨_, by simp [TYS], .tup hp⟩, True.intro⟩, fun _ => q, fun a xs ea ha hne => ?_⟩
  cases ea
  rw [hp] at ha
  cases ha
  rcases hb with hb | ⟨os, h1, h2⟩
  · exact absurd hb hne
  · refine ⟨hl, os, h1, ?_⟩
    rw [h2]
    exact q
/-- no step at all -/
theorem step_none {C : Addr} {lt : Addr → Option Str} {e dx : Addr} {v : V} {s : EdF} {ps : List V} {H : Hp} {Q : VK} {E : XK} (he : H e = some (.ins T.e dx (edF s))) (hps : SqT K H s.past ps) (hpl : ps.length ≤ 900) (hlt : LT T lt H) (hfit : FitV lt (s.m, s.t))
    (hv : Arg K T H v) (hb : ∀ a xs, v = .ref a → H a = some (.tup xs) → xs = []) (q : ∀ H', Same H H' → E (.ref C) none H') : spStep K T C [.ref e, v] H Q E :=
  ⟨e, dx, s, ps, v, lt, rfl, he, hps, hpl, hlt, hfit, hv, fun _ => q, fun a xs ea ha hne => absurd (hb a xs ea ha) hne⟩
/-- a step that can be made -/
theorem step_ok {C : Addr} {lt : Addr → Option Str} {e dx p : Addr} {s : EdF} {ps rest : List V} {os : List (Option (List V))} {r : Addr × Str} {H : Hp} {Q : VK} {E : XK} (he : H e = some (.ins T.e dx (edF s))) (hps : SqT K H s.past ps) (hpl : ps.length ≤ 900) (hlt : LT T lt H) (hfit : FitV lt (s.m, s.t))
    (hp : H p = some (.tup rest)) (hl : rest.length ≤ 1000) (hne : rest ≠ []) (h1 : Edts K T lt H rest os) (h2 : runO lt (s.m, s.t) os = some r)
    (q : ∀ H' mk wd bf res pa un pr vr, SameE e H H' → bf ≠ e → H' bf = some (.tup [.ref s.m, .str s.t]) → H' vr = some (.tup [.ref s.m, .str s.t]) → H' pr = some (.tup [.ref vr, .ref p]) → H' pa = some (.tup (ps ++ [.ref pr])) → H' un = some (.tup []) →
      H' e = some (.ins T.e dx (edF ⟨pa, un, bf, r.1, r.2, mk, wd, res⟩)) → Q (.int ((ps.length + 1 : Nat) : Int)) H') : spStep K T C [.ref e, .ref p] H Q E := by
  refine ⟨e, dx, s, ps, .ref p, lt, rfl, he, hps, hpl, hlt, hfit, ⟨⟨_, by simp [TYS], .tup hp⟩, True.intro⟩, fun z => absurd (z p rest rfl hp) hne, fun a xs ea ha _ => ?_⟩
  cases ea
  rw [hp] at ha
  cases ha
  refine ⟨hl, os, h1, ?_⟩
  rw [h2]
  exact q
/-- make(..) comes to make_step of a new tuple -/
theorem mk_of {C : Addr} {e : Addr} {rest : List V} {H : Hp} {Q : VK} {E : XK} (hl : rest.length ≤ 1000) (h : ∀ p, H p = none → spStep K T C [.ref e, .ref p] (upd H p (.tup rest)) Q E) : spMk K T C (.ref e :: rest) H Q E :=
  ⟨[.ref e], rest, rfl, rfl, sz60 hl, h⟩
theorem mk_bad {C : Addr} {lt : Addr → Option Str} {e dx : Addr} {s : EdF} {ps rest : List V} {H : Hp} {Q : VK} {E : XK} (he : H e = some (.ins T.e dx (edF s))) (hps : SqT K H s.past ps) (hpl : ps.length ≤ 900) (hlt : LT T lt H) (hfit : FitV lt (s.m, s.t))
    (hl : rest.length ≤ 1000) (hb : rest = [] ∨ ∃ os, Edts K T lt H rest os ∧ runO lt (s.m, s.t) os = none) (q : ∀ H', Same H H' → E (.ref C) none H') : spMk K T C (.ref e :: rest) H Q E :=
  mk_of hl fun p hp => step_bad (same_upd hp _ _ he) (seqT (same_upd hp) hps) hpl (hlt.same (same_upd hp)) hfit upd_same hl (hb.imp id fun ⟨os, h1, h2⟩ => ⟨os, h1.same (same_upd hp), h2⟩) fun H' s' => q H' ((same_upd hp).trans s')
theorem mk_ok {C : Addr} {lt : Addr → Option Str} {e dx : Addr} {s : EdF} {ps rest : List V} {os : List (Option (List V))} {r : Addr × Str} {H : Hp} {Q : VK} {E : XK} (he : H e = some (.ins T.e dx (edF s))) (hps : SqT K H s.past ps) (hpl : ps.length ≤ 900) (hlt : LT T lt H) (hfit : FitV lt (s.m, s.t))
    (hl : rest.length ≤ 1000) (hne : rest ≠ []) (h1 : Edts K T lt H rest os) (h2 : runO lt (s.m, s.t) os = some r)
    (q : ∀ H' mk wd bf res pa un pr vr p, SameE e H H' → bf ≠ e → p ≠ e → H' p = some (.tup rest) → H' bf = some (.tup [.ref s.m, .str s.t]) → H' vr = some (.tup [.ref s.m, .str s.t]) → H' pr = some (.tup [.ref vr, .ref p]) → H' pa = some (.tup (ps ++ [.ref pr])) → H' un = some (.tup []) →
      H' e = some (.ins T.e dx (edF ⟨pa, un, bf, r.1, r.2, mk, wd, res⟩)) → Q (.int ((ps.length + 1 : Nat) : Int)) H') : spMk K T C (.ref e :: rest) H Q E :=
  mk_of hl fun p hp => step_ok (same_upd hp _ _ he) (seqT (same_upd hp) hps) hpl (hlt.same (same_upd hp)) hfit upd_same hl hne (h1.same (same_upd hp)) h2 fun H' mk wd bf res pa un pr vr s' n1 h3 h4 h5 h6 h7 h8 =>
    q H' mk wd bf res pa un pr vr p ((SameE.of (same_upd hp)).trans s') n1 (ne_of_some hp he) (s' _ _ (ne_of_some hp he) upd_same) h3 h4 h5 h6 h7 h8
where
  ne_of_some {H : Hp} {p e : Addr} {o : HO} (hp : H p = none) (he : H e = some o) : p ≠ e := fun z => by rw [z, he] at hp; cases hp
/-! ### _law_fine_edit -/
def fineL (two : Addr) : List (List V) := [[.str "put", .int 0, .str "a"], [.str "use", .ref two], [.str "put", .int 0, .str "ba"]]
def spFine : Sp := fun vs H Q _ => ∃ b two, vs = [.ref b, .ref two] ∧ BagAt H b ∧ ∀ H' a xs, SameE b H H' → BagAt H' b → a ≠ b → H a = none → H' a = some (.tup xs) → xs ∈ fineL two → Q (.ref a) H'
theorem ok_law_fine_edit {f : Addr} {fd : FuncData} (F : FnP K "_law_fine_edit" "_law_fine_edit" s_law_fine_edit f fd) (c1 : Cal P w K mg base CX0 2 "_law_pick" spPick) : FnOk P w K mg base CX0 3 f fd ["_law_bag", "_law_two"] spFine := by
  have S := sc_law_fine_edit
  refine ok0 F S (fun vs H Q E h => ?_) (fun cdv A outer s H vs Q E hr h => ?_)
  · obtain ⟨b, two, rfl, _⟩ := h
    rfl
  · obtain ⟨b, two, rfl, hb, q⟩ := h
    refine ⟨_, (pss_one (ps_ret (pe_c c1 hr (by decide) (by rfl) (E := E0) pass0 (pa_cons (pv 0) (pa_cons (pe_lst (pa_cons (pe_tup (pa_cons pe_str (pa_cons pe_int (pa_cons pe_str pa_nil)))) (pa_cons (pe_tup (pa_cons pe_str (pa_cons (pv 1) pa_nil))) (pa_cons (pe_tup (pa_cons pe_str (pa_cons pe_int (pa_cons pe_str pa_nil)))) pa_nil)))) pa_nil))))), ?_⟩
    refine ⟨_, rfl, by show 3 ≤ sizeLine; decide, fun p1 h1 => ⟨_, rfl, by show 2 ≤ sizeLine; decide, fun p2 h2 => ⟨by show 3 ≤ sizeLine; decide, fun p3 h3 => ⟨by show 3 ≤ sizeLine; decide, fun l hl => ?_⟩⟩⟩⟩
    have s4 : Same H _ := (((same_upd h1).trans (same_upd h2)).trans (same_upd h3)).trans (same_upd hl (o := .lst [.ref p1, .ref p2, .ref p3]))
    have e1 := same_upd hl (o := .lst [.ref p1, .ref p2, .ref p3]) _ _ (same_upd h3 (o := .tup [.str "put", .int 0, .str "ba"]) _ _ (same_upd h2 (o := .tup [.str "use", .ref two]) _ _ (upd_same (a := p1) (H := H) (o := .tup [.str "put", .int 0, .str "a"]))))
    have e2 := same_upd hl (o := .lst [.ref p1, .ref p2, .ref p3]) _ _ (same_upd h3 (o := .tup [.str "put", .int 0, .str "ba"]) _ _ (upd_same (a := p2) (H := upd H p1 (.tup [.str "put", .int 0, .str "a"])) (o := .tup [.str "use", .ref two])))
    have e3 := same_upd hl (o := .lst [.ref p1, .ref p2, .ref p3]) _ _ (upd_same (a := p3) (H := upd (upd H p1 (.tup [.str "put", .int 0, .str "a"])) p2 (.tup [.str "use", .ref two])) (o := .tup [.str "put", .int 0, .str "ba"]))
    have el : upd (upd (upd (upd H p1 (.tup [.str "put", .int 0, .str "a"])) p2 (.tup [.str "use", .ref two])) p3 (.tup [.str "put", .int 0, .str "ba"])) l (.lst [.ref p1, .ref p2, .ref p3]) l = some (.lst [.ref p1, .ref p2, .ref p3]) := upd_same
    have hbL := hb
    obtain ⟨x, y, z, hbb⟩ := hb
    have n1 : p1 ≠ b := fun e => by rw [e, hbb] at h1; cases h1
    have n2 : p2 ≠ b := fun e => by rw [e, same_upd h1 _ _ hbb] at h2; cases h2
    have n3 : p3 ≠ b := fun e => by rw [e, same_upd h2 _ _ (same_upd h1 _ _ hbb)] at h3; cases h3
    have nl : l ≠ b := fun e => by rw [e, same_upd h3 _ _ (same_upd h2 _ _ (same_upd h1 _ _ hbb))] at hl; cases hl
    have f2 : H p2 = none := fresh_of (same_upd h1) h2
    have f3 : H p3 = none := fresh_of ((same_upd h1).trans (same_upd h2)) h3
    refine ⟨b, ⟨x, y, z, s4 _ _ hbb⟩, .inl ⟨l, [.ref p1, .ref p2, .ref p3], rfl, nl, el, by show 0 < 3; decide, by show 3 < 1000; decide, fun H' v sE hb' hv => ?_⟩⟩
    have sE' : SameE b H H' := (SameE.of s4).trans sE
    simp only [List.mem_cons, List.mem_nil_iff, or_false] at hv
    rcases hv with rfl | rfl | rfl
    · exact q H' p1 _ sE' hb' n1 h1 (sE _ _ n1 e1) (by simp [fineL])
    · exact q H' p2 _ sE' hb' n2 f2 (sE _ _ n2 e2) (by simp [fineL])
    · exact q H' p3 _ sE' hb' n3 f3 (sE _ _ n3 e3) (by simp [fineL])
/-! ### _law_spoilt, _law_too_low: actions of attempt -/
def spSpoilt (K : PySem.W.Frag) (T : Cls3) (C : Addr) : Sp := fun vs H Q E => ∃ e dx, ∃ s : EdF, ∃ ps lt, vs = [.ref e] ∧ H e = some (.ins T.e dx (edF s)) ∧ SqT K H s.past ps ∧ ps.length ≤ 800 ∧ LT T lt H ∧ lt s.m = some ("ab" : Str) ∧ Fit "ab" s.t ∧ s.t.length ≤ 59 ∧
  ∀ H' s', SameE e H H' → H' e = some (.ins T.e dx (edF s')) → E (.ref C) none H'
theorem mono_spoilt {C : Addr} : SpMono (spSpoilt K T C) := by
  intro vs H Q Q' E E' hQ hE h
  obtain ⟨e, dx, s, ps, lt, h1, h2, h3, h4, h5, h6, h7, h8, q⟩ := h
  exact ⟨e, dx, s, ps, lt, h1, h2, h3, h4, h5, h6, h7, h8, fun H' s' a b => hE _ _ _ (q H' s' a b)⟩
theorem ok_law_spoilt (cf : CF K T) {f : Addr} {fd : FuncData} {C : Addr} (F : FnP K "_law_spoilt" "_law_spoilt" s_law_spoilt f fd) (c1 : MthR P w K mg base (L2.CX P w) 15 T.e "make" (spMk K T C)) : FnOk P w K mg base (L2.CX P w) 16 f fd ["_law_same"] (spSpoilt K T C) := by
  have S := sc_law_spoilt
  refine F.ok S (fun vs H Q E h => ?_) (fun cdv A outer s H vs Q E hr h => ?_)
  · obtain ⟨e, dx, s, ps, lt, rfl, _⟩ := h
    rfl
  · obtain ⟨e, dx, s0, ps, lt, rfl, he, hps, hpl, hlt, hlm, hft, hl, q⟩ := h
    have PX : Passes (L2.CX P w) (cxOf (L2.CX P w) P w K mg base ["_law_same"] "_law_spoilt" (defScope s_law_spoilt) f cdv A outer s H E) E := passes_call (takes_of rfl rfl rfl rfl) (fun _ _ _ _ h => h)
    refine ⟨_, (pss_cons (ps_expr (pe_mR (pv 0) c1 hr (by decide) (E := E) PX (pa_cons (pe_tup (pa_cons pe_str (pa_cons pe_int (pa_cons pe_str pa_nil)))) pa_nil)))
      (pss_one (ps_ret (pe_mR (pv 0) c1 hr (by decide) (E := E) PX (pa_cons (pe_tup (pa_cons pe_str (pa_cons (pe_un un_neg pe_int) (pa_cons pe_str pa_nil)))) pa_nil))))), ?_⟩
    refine ⟨_, rfl, e, dx, _, rfl, he, rfl, by show 3 ≤ sizeLine; decide, fun a ha => ?_⟩
    have s1 : Same H (upd H a (.tup [.str "put", .int 0, .str "a"])) := same_upd ha
    have ha1 : upd H a (.tup [.str "put", .int 0, .str "a"]) a = some (.tup [.str "put", .int 0, .str "a"]) := upd_same
    generalize upd H a (.tup [.str "put", .int 0, .str "a"]) = H1 at s1 ha1
    have pk : putOk s0.t "ab" (.int 0) (.str "a") = true := putOk0 (by decide +kernel) (by decide) (by decide +kernel) (by show s0.t.length + 1 ≤ 60; omega)
    have r1 : runO lt (s0.m, s0.t) [some [.str "put", .int 0, .str "a"]] = some (s0.m, putS s0.t "a" 0) := (runO_cons (stepO_ok hlm (edO_put pk))).trans rfl
    have f1 : FitV lt (s0.m, putS s0.t "a" 0) := fitv_put hlm hft pk
    have r2 : runO lt (s0.m, putS s0.t "a" 0) [some [.str "put", .int (-1), .str "a"]] = none := runO_bad (stepO_bad hlm (edO_putb (btw_lo (by decide))))
    refine mk_ok (s1 _ _ he) (seqT s1 hps) (by omega) (hlt.same s1) ⟨_, hlm, hft⟩ (by simp) (by simp) (.cons (edt_consts ha1 (by decide +kernel)) .nil) r1 fun H2 mk wd bf res pa un pr vr p s2 nb np hp hbf hvr hpr hpa hun he2 => ?_
    have hlt2 : LT T lt H2 := (hlt.same s1).sameE cf s2 (s1 _ _ he)
    refine ⟨_, rfl, e, dx, _, rfl, he2, rfl, 1, rfl, by show 3 ≤ sizeLine; decide, fun a2 ha2 => ?_⟩
    have s3 : Same H2 (upd H2 a2 (.tup [.str "put", .int (-1), .str "a"])) := same_upd ha2
    have ha3 : upd H2 a2 (.tup [.str "put", .int (-1), .str "a"]) a2 = some (.tup [.str "put", .int (-1), .str "a"]) := upd_same
    generalize upd H2 a2 (.tup [.str "put", .int (-1), .str "a"]) = H3 at s3 ha3
    refine mk_bad (s3 _ _ he2) (SqT.of (s3 _ _ hpa)) (by rw [List.length_append]; show ps.length + 1 ≤ 900; omega) (hlt2.same s3) f1 (by simp) (.inr ⟨_, .cons (edt_consts ha3 (by decide +kernel)) .nil, r2⟩) fun H4 s4 => ?_
    exact q H4 _ (((SameE.of s1).trans s2).trans (SameE.of (s3.trans s4))) (s4 _ _ (s3 _ _ he2))
def spLow (K : PySem.W.Frag) (T : Cls3) (CN : Addr) : Sp := fun vs H Q E => ∃ e dx, ∃ s : EdF, ∃ pr ver m t st us lt, vs = [.ref e] ∧ H e = some (.ins T.e dx (edF s)) ∧ SqT K H s.past [.ref pr] ∧ H pr = some (.tup [.ref ver, st]) ∧ H ver = some (.tup [.ref m, .str t]) ∧ SqT K H s.undone us ∧ us.length ≤ 800 ∧ LT T lt H ∧ FitV lt (m, t) ∧
  ∀ H' s' d, SameE e H H' → H' e = some (.ins T.e dx (edF s')) → H' d = some (.xd [(("value" : Str), .int (-1))]) → E (.ref CN) (some d) H'
theorem mono_low {CN : Addr} : SpMono (spLow K T CN) := by
  intro vs H Q Q' E E' hQ hE h
  obtain ⟨e, dx, s, pr, ver, m, t, st, us, lt, h1, h2, h3, h4, h5, h6, h7, h8, h9, q⟩ := h
  exact ⟨e, dx, s, pr, ver, m, t, st, us, lt, h1, h2, h3, h4, h5, h6, h7, h8, h9, fun H' s' d a b c => hE _ _ _ (q H' s' d a b c)⟩
abbrev gApp : List V → List V → List V := fun vs zs => vs ++ zs
theorem ok_law_too_low (cf : CF K T) {f : Addr} {fd : FuncData} {CN CU : Addr} (F : FnP K "_law_too_low" "_law_too_low" s_law_too_low f fd) (c1 : MthD P w K mg base (L2.CX P w) 14 T.e "undo" (spUndo K T CN CU) [.int 1]) (c2 : MthK P w K mg base (L2.CX P w) 14 T.e "redo" (spRedo K T CN CU) 1 ["many"] gApp) : FnOk P w K mg base (L2.CX P w) 16 f fd ["_law_same"] (spLow K T CN) := by
  have S := sc_law_too_low
  refine F.ok S (fun vs H Q E h => ?_) (fun cdv A outer s H vs Q E hr h => ?_)
  · obtain ⟨e, dx, s, pr, ver, m, t, st, us, lt, rfl, _⟩ := h
    rfl
  · obtain ⟨e, dx, s0, pr, ver, m, t, st, us, lt, rfl, he, hp, hpr, hver, hu, hul, hlt, hft, q⟩ := h
    have PX : Passes (L2.CX P w) (cxOf (L2.CX P w) P w K mg base ["_law_same"] "_law_too_low" (defScope s_law_too_low) f cdv A outer s H E) E := passes_call (takes_of rfl rfl rfl rfl) (fun _ _ _ _ h => h)
    refine ⟨_, (pss_cons (ps_expr (pe_md0 (pv 0) c1 hr (by decide) (E := E) PX))
      (pss_one (ps_ret (pe_mKw0 (pv 0) c2 hr (by decide) (E := E) PX (pk_cons (pe_un un_neg pe_int) pk_nil))))), ?_⟩
    refine ⟨_, rfl, e, dx, _, rfl, he, rfl, e, dx, s0, [.ref pr], us, .int 1, lt, rfl, he, hp, by show 1 ≤ 900; decide, hu, by omega, hlt, True.intro, .inr (.inr ⟨rfl, [], pr, ver, m, t, st, rfl, hpr, hver, hft, fun H1 mk wd bf res pa un s1 nb hbf hpa hun he1 => ?_⟩)⟩
    refine ⟨_, rfl, e, dx, _, rfl, he1, rfl, 1, rfl, rfl, e, dx, _, [], st :: us, .int (-1), lt, rfl, he1, hpa, by decide, hun, by rw [List.length_cons]; omega, hlt.sameE cf s1 he, True.intro, .inl ⟨.inr ⟨_, rfl, by decide⟩, fun H2 d s2 hd hd2 => ?_⟩⟩
    exact q H2 _ d (s1.trans (.of s2)) (s2 _ _ he1) hd2
end
end K67
end
section
set_option Elab.async false
set_option linter.all false
set_option maxRecDepth 100000
set_option maxHeartbeats 1000000
namespace K67
open PySem PySem.Spec PyProof.Rows L2 LamX
/-! ### what may change under the law's own defs: the bag, an editor; tables grow -/
def Is3 (xs : List V) : Prop := ∃ x y z, xs = [.int x, .int y, .int z]
def MutOk (T : Cls3) (o o' : Option HO) : Prop := o = none ∨ (∃ xs ys, o = some (.lst xs) ∧ Is3 xs ∧ o' = some (.lst ys) ∧ Is3 ys) ∨ ∃ dx fs fs', o = some (.ins T.e dx fs) ∧ o' = some (.ins T.e dx fs')
/-- nothing that counts stands there -/
def Fr (H : Hp) (p : Addr) : Prop := ∀ o, H p = some o → ∃ ps, o = .tbl ps
theorem Fr.of {H : Hp} {p : Addr} (h : H p = none) : Fr H p := fun o e => by rw [h] at e; cases e
structure Rr (T : Cls3) (Tb : List (Addr × Str)) (M : List Addr) (H H' : Hp) : Prop where
  ex : ∀ a o, a ∉ M → H a = some o → (∀ ps, o ≠ .tbl ps) → H' a = some o
  kd : ∀ a, a ∈ M → MutOk T (H a) (H' a)
  tb : Tabs Tb H → Tabs Tb H'
section
variable {K : PySem.W.Frag} {T : Cls3} {Tb : List (Addr × Str)} {M M' : List Addr} {H H0 H1 H2 H' : Hp}
theorem Rr.nil : Rr T Tb [] H H := ⟨fun _ _ _ h _ => h, (fun _ h => by cases h), id⟩
theorem Rr.refl (h : ∀ a ∈ M, MutOk T (H a) (H a)) : Rr T Tb M H H := ⟨fun _ _ _ h _ => h, h, id⟩
theorem mutBag {b : Addr} (h : BagAt H b) (h' : BagAt H' b) : MutOk T (H b) (H' b) := by
  obtain ⟨x, y, z, e⟩ := h
  obtain ⟨x', y', z', e'⟩ := h'
  exact .inr (.inl ⟨_, _, e, ⟨_, _, _, rfl⟩, e', ⟨_, _, _, rfl⟩⟩)
theorem mutEd {e dx : Addr} {fs fs' : List (Str × V)} (h : H e = some (.ins T.e dx fs)) (h' : H' e = some (.ins T.e dx fs')) : MutOk T (H e) (H' e) := .inr (.inr ⟨_, _, _, h, h'⟩)
theorem Rr.bag1 {b : Addr} (h : BagAt H b) : Rr T Tb [b] H H := Rr.refl fun a ha => by
  obtain rfl : a = b := by simpa using ha
  exact mutBag h h
theorem MutOk.trans {o o1 o2 : Option HO} (a : MutOk T o o1) (b : MutOk T o1 o2) : MutOk T o o2 := by
  rcases a with h | ⟨xs, ys, h1, h2, h3, h4⟩ | ⟨dx, fs, fs', h1, h2⟩
  · exact .inl h
  · rcases b with g | ⟨xs', ys', g1, g2, g3, g4⟩ | ⟨dx', gs, gs', g1, g2⟩
    · rw [h3] at g; cases g
    · exact .inr (.inl ⟨xs, ys', h1, h2, g3, g4⟩)
    · rw [h3] at g1; cases g1
  · rcases b with g | ⟨xs', ys', g1, g2, g3, g4⟩ | ⟨dx', gs, gs', g1, g2⟩
    · rw [h2] at g; cases g
    · rw [h2] at g1; cases g1
    · rw [h2] at g1; cases g1
      exact .inr (.inr ⟨_, _, _, h1, g2⟩)
/-- what is no list, no editor, no table: stays -/
theorem Rr.imm (r : Rr T Tb M H H') {a : Addr} {o : HO} (h : H a = some o) (h1 : ∀ xs, o ≠ .lst xs) (h2 : ∀ dx fs, o ≠ .ins T.e dx fs) (h3 : ∀ ps, o ≠ .tbl ps) : H' a = some o := by
  by_cases ha : a ∈ M
  · rcases r.kd a ha with g | ⟨xs, ys, g1, _⟩ | ⟨dx, fs, fs', g1, _⟩
    · rw [h] at g; cases g
    · rw [h] at g1; cases g1; exact absurd rfl (h1 xs)
    · rw [h] at g1; cases g1; exact absurd rfl (h2 dx fs)
  · exact r.ex a o ha h h3
theorem Rr.tup (r : Rr T Tb M H H') {a : Addr} {xs : List V} (h : H a = some (.tup xs)) : H' a = some (.tup xs) := r.imm h (fun _ z => nomatch z) (fun _ _ z => nomatch z) fun _ z => nomatch z
theorem Rr.dK (r : Rr T Tb M H H') {a : Addr} {xs : List (Key × V)} (h : H a = some (.dK xs)) : H' a = some (.dK xs) := r.imm h (fun _ z => nomatch z) (fun _ _ z => nomatch z) fun _ z => nomatch z
theorem Rr.dT (r : Rr T Tb M H H') {a : Addr} {xs : List (List Key × V)} (h : H a = some (.dT xs)) : H' a = some (.dT xs) := r.imm h (fun _ z => nomatch z) (fun _ _ z => nomatch z) fun _ z => nomatch z
theorem Rr.insC (r : Rr T Tb M H H') {a C dx : Addr} {fs : List (Str × V)} (h : H a = some (.ins C dx fs)) (n : C ≠ T.e) : H' a = some (.ins C dx fs) := r.imm h (fun _ z => nomatch z) (fun _ _ z => by injection z with z; exact n z) fun _ z => nomatch z
theorem Rr.sm (r : Rr T Tb M H0 H) (s : Same H H') : Rr T Tb M H0 H' := by
  refine ⟨fun a o ha h n => s _ _ (r.ex a o ha h n), fun a ha => ?_, fun t => (r.tb t).ext s⟩
  rcases r.kd a ha with g | ⟨xs, ys, g1, g2, g3, g4⟩ | ⟨dx, fs, fs', g1, g2⟩
  · exact .inl g
  · exact .inr (.inl ⟨xs, ys, g1, g2, s _ _ g3, g4⟩)
  · exact .inr (.inr ⟨_, _, _, g1, s _ _ g2⟩)
theorem Rr.lam (r : Rr T Tb M H0 H) (s : ExtN H H') (t : Tabs Tb H') : Rr T Tb M H0 H' := by
  refine ⟨fun a o ha h n => s _ _ (r.ex a o ha h n) n, fun a ha => ?_, fun _ => t⟩
  rcases r.kd a ha with g | ⟨xs, ys, g1, g2, g3, g4⟩ | ⟨dx, fs, fs', g1, g2⟩
  · exact .inl g
  · exact .inr (.inl ⟨xs, ys, g1, g2, s _ _ g3 (fun _ z => nomatch z), g4⟩)
  · exact .inr (.inr ⟨_, _, _, g1, s _ _ g2 (fun _ z => nomatch z)⟩)
theorem tabs_E {b : Addr} {o : HO} (t : Tabs Tb H) (s : SameE b H H') (h : H b = some o) (n1 : ∀ ps, o ≠ .tbl ps) (n2 : ∀ P, o ≠ .ext P) : Tabs Tb H' := fun p hp => by
  obtain ⟨ps, h1, h2, h3⟩ := t p hp
  refine ⟨ps, s _ _ (fun z => ?_) h1, h2, fun pos cv hc => ?_⟩
  · rw [z, h] at h1
    cases h1
    exact n1 _ rfl
  · obtain ⟨c, e1, e2⟩ := h3 pos cv hc
    refine ⟨c, e1, s _ _ (fun z => ?_) e2⟩
    rw [z, h] at e2
    cases e2
    exact n2 _ rfl
theorem Rr.trans (r : Rr T Tb M H0 H1) (r2 : Rr T Tb M' H1 H2) (h : ∀ a ∈ M', a ∈ M ∨ Fr H0 a) : Rr T Tb M H0 H2 := by
  refine ⟨fun a o ha e n => ?_, fun a ha => ?_, fun t => r2.tb (r.tb t)⟩
  · refine r2.ex a o (fun z => ?_) (r.ex a o ha e n) n
    rcases h a z with z | z
    · exact ha z
    · obtain ⟨ps, hps⟩ := z _ e
      exact n _ hps
  · by_cases hm : a ∈ M'
    · exact (r.kd a ha).trans (r2.kd a hm)
    · rcases r.kd a ha with g | ⟨xs, ys, g1, g2, g3, g4⟩ | ⟨dx, fs, fs', g1, g2⟩
      · exact .inl g
      · exact .inr (.inl ⟨xs, ys, g1, g2, r2.ex a _ hm g3 (fun _ z => nomatch z), g4⟩)
      · exact .inr (.inr ⟨_, _, _, g1, r2.ex a _ hm g2 (fun _ z => nomatch z)⟩)
theorem rr_bag {b : Addr} (s : SameE b H H') (h : BagAt H b) (h' : BagAt H' b) : Rr T Tb [b] H H' := by
  refine ⟨fun a o ha e _ => s a o (by simpa using ha) e, fun a ha => ?_, fun t => ?_⟩
  · obtain rfl : a = b := by simpa using ha
    exact mutBag h h'
  · obtain ⟨x, y, z, hb⟩ := h
    exact tabs_E t s hb (fun _ z => nomatch z) fun _ z => nomatch z
theorem rr_ed {e dx : Addr} {fs fs' : List (Str × V)} (s : SameE e H H') (h : H e = some (.ins T.e dx fs)) (h' : H' e = some (.ins T.e dx fs')) : Rr T Tb [e] H H' := by
  refine ⟨fun a o ha q _ => s a o (by simpa using ha) q, fun a ha => ?_, fun t => ?_⟩
  · obtain rfl : a = e := by simpa using ha
    exact mutEd h h'
  · exact tabs_E t s h (fun _ z => nomatch z) fun _ z => nomatch z
theorem Rr.bag {b : Addr} (r : Rr T Tb M H0 H) (hb : b ∈ M) (s : SameE b H H') (h : BagAt H b) (h' : BagAt H' b) : Rr T Tb M H0 H' := r.trans (rr_bag s h h') fun a ha => .inl (by
  obtain rfl : a = b := by simpa using ha
  exact hb)
theorem Rr.ed {e dx : Addr} {fs fs' : List (Str × V)} (r : Rr T Tb M H0 H) (hb : e ∈ M) (s : SameE e H H') (h : H e = some (.ins T.e dx fs)) (h' : H' e = some (.ins T.e dx fs')) : Rr T Tb M H0 H' := r.trans (rr_ed s h h') fun a ha => .inl (by
  obtain rfl : a = e := by simpa using ha
  exact hb)
/-- a list that is new since H0 -/
theorem Rr.new {p : Addr} {xs : List V} (r : Rr T Tb M H0 H) (hp : Fr H0 p) (h : H p = some (.lst xs)) (s : SameE p H H') : Rr T Tb M H0 H' := by
  have ne : ∀ {a : Addr} {o : HO}, H0 a = some o → (∀ ps, o ≠ .tbl ps) → a ≠ p := fun {a o} e n z => by
    rw [z] at e
    obtain ⟨ps, hps⟩ := hp _ e
    exact n _ hps
  refine ⟨fun a o ha e n => s _ _ (ne e n) (r.ex a o ha e n), fun a ha => ?_, fun t => tabs_E (r.tb t) s h (fun _ z => nomatch z) fun _ z => nomatch z⟩
  rcases r.kd a ha with g | ⟨xs, ys, g1, g2, g3, g4⟩ | ⟨dx, fs, fs', g1, g2⟩
  · exact .inl g
  · exact .inr (.inl ⟨xs, ys, g1, g2, s _ _ (ne g1 (fun _ z => nomatch z)) g3, g4⟩)
  · exact .inr (.inr ⟨_, _, _, g1, s _ _ (ne g1 (fun _ z => nomatch z)) g2⟩)
theorem Rr.old (r : Rr T Tb M H0 H) {p : Addr} (h : H p = none) : Fr H0 p := fun o e => by
    by_cases hn : ∃ ps, o = .tbl ps
    · exact hn
    · exfalso
      have hn' : ∀ ps, o ≠ .tbl ps := fun ps z => hn ⟨ps, z⟩
      by_cases hp : p ∈ M
      · rcases r.kd p hp with g | ⟨xs, ys, g1, g2, g3, g4⟩ | ⟨dx, fs, fs', g1, g2⟩
        · rw [e] at g; cases g
        · rw [h] at g3; cases g3
        · rw [h] at g2; cases g2
      · have := r.ex p o hp e hn'
        rw [h] at this; cases this
/-! ### what stays known -/
theorem Rr.sqT (r : Rr T Tb M H H') {a : Addr} {xs : List V} (h : SqT K H a xs) : SqT K H' a xs := by
  rcases h with h | h
  · rcases h with h | ⟨o, h⟩
    · exact .inl (.inl (r.tup h))
    · exact .inl (.inr ⟨o, r.imm h (fun _ z => nomatch z) (fun _ _ z => nomatch z) fun _ z => nomatch z⟩)
  · exact .inr h
theorem Rr.isMarks (cf : CF K T) (r : Rr T Tb M H H') {m : Addr} {ls : Str} (h : IsMarks T H m ls) : IsMarks T H' m ls := by
  obtain ⟨dx, sd, g, nl, h1, h2, h3, h4⟩ := h
  refine ⟨dx, sd, g, nl, r.insC h1 cf.kits.me, r.dT h2, r.tup h3, ?_⟩
  by_cases hm : nl ∈ M
  · rcases r.kd nl hm with g | ⟨xs, ys, g1, g2, _⟩ | ⟨dx, fs, fs', g1, _⟩
    · rw [h4] at g; cases g
    · rw [h4] at g1
      cases g1
      obtain ⟨_, _, _, z⟩ := g2
      cases z
    · rw [h4] at g1; cases g1
  · exact r.ex _ _ hm h4 (fun _ z => nomatch z)
theorem Rr.isTwo (cf : CF K T) (r : Rr T Tb M H H') {t : Addr} {ls : Str} (h : IsTwo T H t ls) : IsTwo T H' t ls := by
  obtain ⟨p, h⟩ := h
  exact ⟨p, r.insC h.obj cf.kits.te, r.isMarks cf h.marks, r.dK h.begins, r.tup h.target, r.dT h.writes, h.names, fun q hq => r.tup (h.goals q hq), r.dK h.last, r.dK h.sorts⟩
theorem Rr.lt (cf : CF K T) (r : Rr T Tb M H H') {lt : Addr → Option Str} (h : LT T lt H) : LT T lt H' := fun p ls e => r.isTwo cf (h p ls e)
theorem Rr.ty (r : Rr T Tb M H H') {v : V} {t : Value} (h : TyOf K H v t) : TyOf K H' v t := by
  cases h with
  | non => exact .non
  | bl x => exact .bl x
  | int x => exact .int x
  | str x => exact .str x
  | flt x => exact .flt x
  | @lst a xs e =>
    by_cases hm : a ∈ M
    · rcases r.kd a hm with g | ⟨xs, ys, g1, g2, g3, g4⟩ | ⟨dx, fs, fs', g1, _⟩
      · rw [e] at g; cases g
      · exact .lst g3
      · rw [e] at g1; cases g1
    · exact .lst (r.ex _ _ hm e (fun _ z => nomatch z))
  | frz e => exact .frz (r.imm e (fun _ z => nomatch z) (fun _ _ z => nomatch z) fun _ z => nomatch z)
  | tup e => exact .tup (r.tup e)
  | dK e => exact .dK (r.dK e)
  | dT e => exact .dT (r.dT e)
  | @ins a C dx fs e a1 b c d f =>
    by_cases hm : a ∈ M
    · rcases r.kd a hm with g | ⟨xs, ys, g1, g2, g3, g4⟩ | ⟨dx, fs, fs', g1, g2⟩
      · rw [e] at g; cases g
      · rw [e] at g1; cases g1
      · rw [e] at g1; cases g1; exact .ins g2 a1 b c d f
    · exact .ins (r.ex _ _ hm e (fun _ z => nomatch z)) a1 b c d f
theorem Rr.arg (r : Rr T Tb M H H') {v : V} (h : Arg K T H v) : Arg K T H' v := let ⟨⟨t, h1, h2⟩, h3⟩ := h; ⟨⟨t, h1, r.ty h2⟩, h3⟩
theorem Rr.argL (r : Rr T Tb M H H') {lt : Addr → Option Str} {v : V} (h : ArgL K T lt H v) : ArgL K T lt H' v := by
  refine ⟨r.arg h.1, fun p e n z => ?_⟩
  obtain ⟨⟨u, h1, h2⟩, h3⟩ := h.1
  have := ty_uniq (r.ty h2) z
  exact h.2 p e n (by rw [← this]; exact h2)
/-- no tuple stays no tuple -/
theorem Rr.noTup (r : Rr T Tb M H H') {v : V} (h : Arg K T H v) {a : Addr} {xs : List V} (e : v = .ref a) (h' : H' a = some (.tup xs)) : H a = some (.tup xs) := by
  subst e
  obtain ⟨⟨u, h1, h2⟩, h3⟩ := h
  obtain ⟨a', xs', e1, e2⟩ := tyTup h2 (ty_uniq (r.ty h2) (.tup h'))
  cases e1
  rw [r.tup e2] at h'
  cases h'
  exact e2
theorem Rr.edt (r : Rr T Tb M H H') {lt : Addr → Option Str} {v : V} {o : Option (List V)} (h : Edt K T lt H v o) : Edt K T lt H' v o := by
  cases o with
  | none => exact ⟨r.arg h.1, fun a xs e z => h.2 a xs e (r.noTup h.1 e z)⟩
  | some xs =>
    obtain ⟨a, rfl, e, l, h⟩ := h
    exact ⟨a, rfl, r.tup e, l, fun x hx => r.argL (h x hx)⟩
theorem Rr.edts (r : Rr T Tb M H H') {lt : Addr → Option Str} : ∀ {vs : List V} {os : List (Option (List V))}, Edts K T lt H vs os → Edts K T lt H' vs os
  | _, _, .nil => .nil
  | _, _, .cons h t => .cons (r.edt h) (Rr.edts r t)
theorem Rr.wr (r : Rr T Tb M H H') {lt : Addr → Option Str} {two : Addr} {t : Str} {x : V} (h : Wr K T lt two t H x) : Wr K T lt two t H' x := by
  obtain ⟨o, h1, h2⟩ := h
  exact ⟨o, r.edt h1, h2⟩
theorem Rr.sit (cf : CF K T) (r : Rr T Tb M H H') {lt : Addr → Option Str} {two : Addr} {t0 : Str} {j : Nat} {s : EdF} (h : Sit K T lt H two t0 j s) : Sit K T lt H' two t0 j s := by
  obtain ⟨pr, vr, st, p1, p2, p3⟩ := h.past
  obtain ⟨st', xs, os, r', u1, u2, u3, u4⟩ := h.undone
  obtain ⟨x, b1, b2, b3⟩ := h.before
  exact ⟨r.lt cf h.ltH, h.ltw, h.m, h.fit, h.fit0, ⟨pr, vr, st, r.sqT p1, r.tup p2, r.tup p3⟩, ⟨st', xs, os, r', r.sqT u1, r.tup u2, r.edts u3, u4⟩, ⟨x, r.tup b1, b2, b3⟩⟩
theorem Rr.newsL (r : Rr T Tb M H H') {l : Addr} {j : Nat} (hl : l ∉ M) (h : NewsL H l j) : NewsL H' l j := by
  obtain ⟨a, h1, h2⟩ := h
  exact ⟨a, r.ex _ _ hl h1 (fun _ z => nomatch z), r.tup h2⟩
end
theorem Rr.bagAt {T : Cls3} {Tb : List (Addr × Str)} {M : List Addr} {H H' : Hp} {b : Addr} (r : Rr T Tb M H H') (hb : b ∈ M) (h : BagAt H b) : BagAt H' b := by
  obtain ⟨x, y, z, e⟩ := h
  rcases r.kd b hb with g | ⟨xs, ys, g1, g2, g3, x', y', z', rfl⟩ | ⟨dx, fs, fs', g1, g2⟩
  · rw [e] at g; cases g
  · exact ⟨x', y', z', g3⟩
  · rw [e] at g1; cases g1
/-! ### a def of the law that makes lambdas -/
theorem fnGC_of {P : Program} {w : World} {K : PySem.W.Frag} {mg : Str → Option Value} {base : Heap} {CX : CXT} {x qual : Str} {params : Arguments} {body : List Stmt} {scope : Scope} {dvs : List V} {kws : List (Str × V)} {f c : Addr} {fd : FuncData} {N ps : List Str} {k : Nat} {sp : Sp} (F : FunD K x qual params body scope dvs kws f fd) (hc : fd.code = .ref c) (S : FnScope N ps scope)
    (len : ∀ vs H Q E, sp vs H Q E → vs.length = ps.length)
    (hbody : ∀ (A : Around) (outer : List Env) (s : Shared) (H : Hp) (vs : List V) (Q : VK) (E : XK), (A.deeper (envOfC qual scope s.heap.objs.size f (.ref c))).guards = some [] → Room k (A.deeper (envOfC qual scope s.heap.objs.size f (.ref c))) → sp vs H Q E →
      ∃ t, PSs (cxOf CX P w K mg base N qual scope f (.ref c) A outer s H E) body t ∧ t { nx := fun _ H' => Q .non H', rt := Q } (start N vs) H) : FnG P w K mg base CX (k + 1) f fd ps sp := by
  obtain ⟨oc, od, dV, kV, doc, pm, an, cdv, ct, osl, rfl, lk, hcd, _, _⟩ := F.ex
  obtain rfl : cdv = .ref c := hc
  refine ⟨len, fun A outer s H args us vs Q E hg hr e0 hb r hsp => ?_⟩
  exact LamX.run_ofS lk hcd S hr e0 hb r (len _ _ _ _ hsp) fun hr2 => hbody A outer s H vs Q E (guards_deeper hg) hr2 hsp
section
variable {K : PySem.W.Frag} {T : Cls3} {Tb : List (Addr × Str)} {C : Cls6} {M : List Addr} {H H0 : Hp}
/-- found.append(_law_word(lambda: ..)) -/
theorem st_word {rest : TS} {D : Ends} {σ : L2.St} {t : XK → TE} {j : Nat} {p : Addr} {xs : List V} {z : Str} (t0 : Tabs Tb H0) (r : Rr T Tb M H0 H) (hσ : σ[j]? = some (some (.ref p))) (hp : H p = some (.lst xs)) (hl : xs.length < 60) (h0 : Fr H0 p)
    (ht : ∀ H1, Rr T Tb M H0 H1 → H1 p = some (.lst xs) → ∀ Q : VK, (∀ H2, Rr T Tb M H0 H2 → H2 p = some (.lst xs) → Q (.str z) H2) → t (WdE K C Q) σ H1 fun _ H' => Q (.str "returned") H')
    (q : ∀ H2, Rr T Tb M H0 H2 → H2 p = some (.lst (xs ++ [.str z])) → rest D σ H2) : tSeq (tDrop (tBM K "list" rAppend (tVar j) (tCons (tLam Tb (TTword K C) t) tNil))) rest D σ H := by
  refine ⟨_, hσ, .inl ⟨rfl, _, SqL.of hp⟩, ?_⟩
  refine ⟨r.tb t0, fun H1 e1 t1 => ?_⟩
  have p1 : H1 p = some (.lst xs) := e1 _ _ hp (fun _ z => nomatch z)
  have r1 : Rr T Tb M H0 H1 := r.lam e1 t1
  refine ht H1 r1 p1 (fun v H2 => _) fun H2 r2 p2 => ?_
  refine ⟨p, xs, .str z, rfl, rfl, p2, Nat.lt_of_lt_of_le hl (by decide), ?_⟩
  exact q _ (r2.new h0 p2 (SameE.put .refl)) upd_same
/-- found = [_law_word(lambda: ..)] -/
theorem st_word1 {rest : TS} {D : Ends} {σ : L2.St} {t : XK → TE} {j : Nat} {z : Str} (t0 : Tabs Tb H0) (r : Rr T Tb M H0 H)
    (ht : ∀ H1, Rr T Tb M H0 H1 → ∀ Q : VK, (∀ H2, Rr T Tb M H0 H2 → Q (.str z) H2) → t (WdE K C Q) σ H1 fun _ H' => Q (.str "returned") H')
    (q : ∀ H2 p, Rr T Tb M H0 H2 → Fr H0 p → H2 p = some (.lst [.str z]) → rest D (σ.set j (some (.ref p))) H2) : tSeq (tAsg (tLst (tCons (tLam Tb (TTword K C) t) tNil)) (gName j)) rest D σ H := by
  have key : tLst (tCons (tLam Tb (TTword K C) t) tNil) σ H (fun x H1 => rest D (σ.set j (some x)) H1) := by
    refine ⟨r.tb t0, fun H1 e1 t1 => ?_⟩
    refine ht H1 (r.lam e1 t1) (fun v H2 => _) fun H2 r2 => ⟨by show 1 ≤ sizeLine; decide, fun p hp => ?_⟩
    exact q _ p (r2.sm (same_upd hp)) (r2.old hp) upd_same
  exact key
theorem wd_e {Q : VK} {H : Hp} (h : Q (.str "edit") H) : WdE K C Q (.ref C.e) none H := .inr (.inr (.inr (.inl ⟨rfl, h⟩)))
theorem wd_m {Q : VK} {H : Hp} (h : Q (.str "machine") H) : WdE K C Q (.ref C.m) none H := .inl ⟨rfl, h⟩
theorem wd_t {Q : VK} {H : Hp} (h : Q (.str "text") H) : WdE K C Q (.ref C.t) none H := .inr (.inl ⟨rfl, h⟩)
theorem wd_o {Q : VK} {H : Hp} (h : Q (.str "operation") H) : WdE K C Q (.ref C.o) none H := .inr (.inr (.inl ⟨rfl, h⟩))
end
end K67
end
section
set_option Elab.async false
set_option linter.all false
set_option maxRecDepth 100000
set_option maxHeartbeats 1000000
namespace K67
open PySem PySem.Spec PyProof.Rows L2 LamX
theorem passes_lam {X : Cx} {A : Around} {outer : List Env} {s : Shared} {H : Hp} {E : XK} {scope : Scope} {f c' : Addr} : Passes (L2.CX X.prog X.w) (lamCx X A outer s H E scope f c') E := passes_call (takes_of rfl rfl rfl rfl) (fun _ _ _ _ h => h)
section
variable {K : PySem.W.Frag} {T : Cls3} {Tb : List (Addr × Str)} {C : Cls6} {M : List Addr} {H H' : Hp}
/-- values that are no steps -/
structure NonS (K : PySem.W.Frag) (T : Cls3) (H : Hp) (x : V) : Prop where
  arg : Arg K T H x
  nil : ∀ a xs, x = .ref a → H a = some (.tup xs) → xs = []
theorem NonS.rr {x : V} (r : Rr T Tb M H H') (h : NonS K T H x) : NonS K T H' x := ⟨r.arg h.arg, fun a xs e z => h.nil a xs e (r.noTup h.arg e z)⟩
theorem ns_c {x : V} (h : argB x = true) (n : ∀ a, x ≠ .ref a) : NonS K T H x := ⟨(argL_const (lt := fun _ => none) h).1, fun a _ e => absurd e (n a)⟩
theorem ns_tup {a : Addr} (h : H a = some (.tup [])) : NonS K T H (.ref a) := ⟨⟨⟨_, by simp [TYS], .tup h⟩, True.intro⟩, fun b xs e z => by cases e; rw [h] at z; cases z; rfl⟩
theorem ns_lst {a : Addr} {xs : List V} (h : H a = some (.lst xs)) : NonS K T H (.ref a) := ⟨⟨⟨_, by simp [TYS], .lst h⟩, True.intro⟩, fun b xs e z => by cases e; rw [h] at z; cases z⟩
theorem ns_dK {a : Addr} {xs : List (Key × V)} (h : H a = some (.dK xs)) : NonS K T H (.ref a) := ⟨⟨⟨_, by simp [TYS], .dK h⟩, True.intro⟩, fun b xs e z => by cases e; rw [h] at z; cases z⟩
theorem ns_two (cf : CF K T) {a : Addr} {ls : Str} (h : IsTwo T H a ls) : NonS K T H (.ref a) := ⟨(h.arg cf).1, fun b xs e z => by
  cases e
  obtain ⟨p, hp⟩ := h
  rw [hp.obj] at z
  cases z⟩
/-- numbers that are none, as data -/
inductive Much (b : Addr) (H : Hp) : V → PyData → Prop
  | i1 : Much b H (.int (-1)) (.int (-1))
  | non : Much b H .non .none
  | bl (x : Bool) : Much b H (.bl x) (.bool x)
  | s1 : Much b H (.str "1") (.str "1")
  | big : Much b H (.int (10 ^ 39 * -1)) (.int (10 ^ 39 * -1))
  | lst {a : Addr} (n : a ≠ b) (h : H a = some (.lst [])) : Much b H (.ref a) (.list [])
  | tup {a : Addr} (h : H a = some (.tup [.int 1])) : Much b H (.ref a) (.tuple [.int 1])
theorem Much.rr {b : Addr} {v : V} {d : PyData} (r : Rr T Tb [b] H H') (h : Much b H v d) : Much b H' v d := by
  cases h with
  | i1 => exact .i1
  | non => exact .non
  | bl x => exact .bl x
  | s1 => exact .s1
  | big => exact .big
  | lst n h => exact .lst n (r.ex _ _ (by simpa using n) h (fun _ z => nomatch z))
  | tup h => exact .tup (r.tup h)
theorem Much.dp {b : Addr} {v : V} {d : PyData} (h : Much b H v d) : Dp K H v d := by
  cases h with
  | i1 => exact .int _
  | non => exact .non
  | bl x => exact .bl x
  | s1 => exact .str _
  | big => exact .int _
  | lst n h => exact .lst (SqL.of h) .nil
  | tup h => exact .tup (SqT.of h) (.cons (.int 1) .nil)
theorem Much.nice (cf : CF K T) {b : Addr} {v : V} {d : PyData} (h : Much b H v d) : Nice K H v := by
  cases h with
  | i1 => exact True.intro
  | non => exact True.intro
  | bl x => exact True.intro
  | s1 => exact True.intro
  | big => exact True.intro
  | lst n h => exact Arg.nice cf.kits (T := T) ⟨⟨_, by simp [TYS], .lst h⟩, True.intro⟩
  | tup h => exact Arg.nice cf.kits (T := T) ⟨⟨_, by simp [TYS], .tup h⟩, True.intro⟩
theorem Much.low {b : Addr} {v : V} {d : PyData} (h : Much b H v d) : isI v = false ∨ ∃ i, v = .int i ∧ i < 0 := by
  cases h with
  | i1 => exact .inr ⟨_, rfl, by decide⟩
  | non => exact .inl rfl
  | bl x => exact .inl rfl
  | s1 => exact .inl rfl
  | big => exact .inr ⟨_, rfl, by decide⟩
  | lst n h => exact .inl rfl
  | tup h => exact .inl rfl
/-- data that may be shown in a word -/
def pyOk (d : PyData) : Bool := d.showable && !d.hasDict && decide (d.depth ≤ 10) && decide (d.shown.length ≤ 10000) && PyData.strOk d.shown
structure PyOk (d : PyData) : Prop where
  sh : d.showable = true
  hd : d.hasDict = false
  dp : d.depth ≤ 10
  ln : d.shown.length ≤ 10000
  ok : PyData.strOk d.shown = true
theorem pyOk_of {d : PyData} (h : pyOk d = true) : PyOk d := by
  simp only [pyOk, Bool.and_eq_true, Bool.not_eq_true', decide_eq_true_eq] at h
  obtain ⟨⟨⟨⟨h1, h2⟩, h3⟩, h4⟩, h5⟩ := h
  exact ⟨h1, h2, h3, h4, h5⟩
theorem Much.ok {b : Addr} {v : V} {d : PyData} (h : Much b H v d) : PyOk d := by
  cases h with
  | i1 => exact pyOk_of (by decide +kernel)
  | non => exact pyOk_of (by decide +kernel)
  | bl x => cases x <;> exact pyOk_of (by decide +kernel)
  | s1 => exact pyOk_of (by decide +kernel)
  | big => exact pyOk_of (by decide +kernel)
  | lst n h => exact pyOk_of (by decide +kernel)
  | tup h => exact pyOk_of (by decide +kernel)
theorem great_ok {g : Int} (h : g = 2 ∨ g = 60 ∨ g = 61 ∨ g = 10 ^ 39) : PyOk (.int g) := by
  rcases h with rfl | rfl | rfl | rfl <;> exact pyOk_of (by decide +kernel)
theorem strOk_app {x y : Str} (h1 : PyData.strOk x = true) (h2 : PyData.strOk y = true) : PyData.strOk (x ++ y) = true := by
  show (x.cps ++ y.cps).all _ = true
  rw [Array.all_append]
  rw [Bool.and_eq_true]
  exact ⟨h1, h2⟩
theorem wd_n {Q : VK} {dd : Addr} {v : V} {x : PyData} (h : H dd = some (.xd [("value", v)])) (hd : Dp K H v x) (ok : PyOk x) (q : Q (.str ("number " ++ x.shown)) H) : WdE K C Q (.ref C.n) (some dd) H :=
  .inr (.inr (.inr (.inr (.inl ⟨rfl, dd, v, x, rfl, h, hd, ok.sh, ok.hd, ok.dp, ok.ln, q⟩))))
theorem wd_u {Q : VK} {dd : Addr} {v : V} {x : PyData} (h : H dd = some (.xd [("many", v)])) (hd : Dp K H v x) (ok : PyOk x) (q : Q (.str ("nothing " ++ x.shown)) H) : WdE K C Q (.ref C.u) (some dd) H :=
  .inr (.inr (.inr (.inr (.inr ⟨rfl, dd, v, x, rfl, h, hd, ok.sh, ok.hd, ok.dp, ok.ln, q⟩))))
theorem shaped_L (ws : List Str) (h : ∀ x ∈ ws, PyData.strOk x = true) : SeqAt.shaped (.list (ws.map PyData.str)) = true := by
  simp [SeqAt.shaped, PyData.canLay0, PyData.depth, canStrs ws h, depStrs]
theorem eqv_L (ws : List Str) (h : ∀ x ∈ ws, PyData.strOk x = true) : PyData.eqv (.list (ws.map PyData.str)) (.list (ws.map PyData.str)) = true :=
  SeqAt.eqv_refl _ (SeqAt.canLay_of_shaped (shaped_L ws h))
theorem dp_L {a : Addr} {vs : List V} (ws : List Str) (h : H a = some (.lst vs)) (e : vs = ws.map V.str) : Dp K H (.ref a) (.list (ws.map PyData.str)) := by
  subst e
  exact .lst (SqL.of h) (dpStrs ws)
/-- a heap without what stands at p -/
def hide (p : Addr) (H : Hp) : Hp := fun a => if a = p then none else H a
theorem hide_le {p : Addr} : Same (hide p H) H := fun a o h => by
  unfold hide at h
  split at h
  · cases h
  · exact h
theorem hide_E {p : Addr} : SameE p H (hide p H) := fun a o n h => by
  unfold hide
  rw [if_neg n]
  exact h
theorem hide_no {p : Addr} : hide p H p = none := if_pos rfl
theorem BagAt.same {b : Addr} (s : Same H H') (h : BagAt H b) : BagAt H' b := by
  obtain ⟨x, y, z, e⟩ := h
  exact ⟨x, y, z, s _ _ e⟩
theorem BagAt.ne {b p : Addr} (h : BagAt H b) (hp : Fr H p) : p ≠ b := fun z => by
  obtain ⟨x, y, w, e⟩ := h
  obtain ⟨ps, hps⟩ := hp _ (by rw [z]; exact e)
  cases hps
theorem pick_l {b l : Addr} {xs : List V} {Q : VK} {E : XK} (hb : BagAt H b) (n : l ≠ b) (hl : H l = some (.lst xs)) (h0 : 0 < xs.length) (h1 : xs.length < 1000) (q : ∀ H' x, SameE b H H' → BagAt H' b → x ∈ xs → Q x H') : spPick [.ref b, .ref l] H Q E :=
  ⟨b, hb, .inl ⟨l, xs, rfl, n, hl, h0, h1, q⟩⟩
theorem BagAt.eq {b : Addr} (h : BagAt H b) (e : H' b = H b) : BagAt H' b := by
  obtain ⟨x, y, z, e'⟩ := h
  exact ⟨x, y, z, by rw [e, e']⟩
end
section
variable {P : Program} {w : World} {K : PySem.W.Frag} {mg : Str → Option Value} {base : Heap} {T : Cls3} {tb : Tab3} {C : Cls6}
/-- list(made.news()) == news -/
theorem news_tail {σ : L2.St} {H : Hp} {e nl two de : Addr} {s : EdF} {t0 : Str} {j i1 i2 : Nat} {lt : Addr → Option Str} {Q : VK} (h1 : σ[i1]? = some (some (.ref e))) (h2 : σ[i2]? = some (some (.ref nl))) (he : H e = some (.ins T.e de (edF s))) (si : Sit K T lt H two t0 j s) (hn : NewsL H nl j) (q : ∀ H', Same H H' → Q (.bl true) H') :
    tOp (rEqD K) (tListG (tMethG T.e "news" (spNews T) [] E0 (tVar i1) tNil)) (tVar i2) σ H Q := by
  obtain ⟨x, b1, b2, b3⟩ := si.before
  refine ⟨_, h1, e, de, _, rfl, he, rfl, e, de, s, two, x, "ab", "ab", rfl, he, b1, si.ltH _ _ si.ltw, si.isTwo, b2, si.fit, fun H3 rs s3 na p hp => ?_⟩
  rw [b3] at na
  obtain ⟨ra, rfl, hra⟩ : ∃ ra, rs = [.ref ra] ∧ H3 ra = some (.tup [.int (j : Nat), .non, .int 0]) := by
    cases na with
    | cons h1 h2 =>
      cases h2
      obtain ⟨a, rfl, ha⟩ := h1
      exact ⟨a, rfl, ha⟩
  have s4 : Same H3 (upd H3 p (.lst [.ref ra])) := same_upd hp
  have n1 : NewsL (upd H3 p (.lst [.ref ra])) p j := ⟨ra, upd_same, s4 _ _ hra⟩
  have s14 := s3.trans s4
  have n2 : NewsL (upd H3 p (.lst [.ref ra])) nl j := by
    obtain ⟨a, h1, h2⟩ := hn
    exact ⟨a, s14 _ _ h1, s14 _ _ h2⟩
  generalize upd H3 p (.lst [.ref ra]) = H4 at n1 n2 s14
  refine ⟨_, h2, _, _, n1.dp, n2.dp, rfl, rfl, ?_⟩
  have e1 : PyData.eqv (.list [.tuple [.int (j : Nat), .none, .int 0]]) (.list [.tuple [.int (j : Nat), .none, .int 0]]) = true := SeqAt.eqv_refl _ rfl
  rw [e1]
  exact q H4 s14
def spNum (K : PySem.W.Frag) (T : Cls3) (tb : Tab3) : Sp := fun vs H Q _ => ∃ b e nl two de, ∃ s : EdF, ∃ t0 j lt, vs = [.ref b, .ref e, .ref nl, .ref two] ∧ BagAt H b ∧ H e = some (.ins T.e de (edF s)) ∧ Sit K T lt H two t0 j s ∧ NewsL H nl j ∧ nl ≠ b ∧ Tabs tb.T H ∧
  ∀ H', Rr T tb.T [b] H H' → BagAt H' b → Q (.bl true) H'
theorem ok_law_numbers_right (cf : CF K T) (wf : WordF K mg C) (hok : tb.ok) {f : Addr} {fd : FuncData} {c : Addr} (F : FnP K "_law_numbers_right" "_law_numbers_right" s_law_numbers_right f fd) (hc : fd.code = .ref c) (TB : TabB base mg c tb.pn) (B : BN mg)
    (c1 : Cal P w K mg base CX0 2 "_law_pick" spPick) (cN : NewsC P w K mg base T) (cS : Mth P w K mg base (L2.CX P w) 14 T.e "make_step" (spStep K T C.e)) (cM : MthR P w K mg base (L2.CX P w) 15 T.e "make" (spMk K T C.e))
    (cU : MthK P w K mg base (L2.CX P w) 14 T.e "undo" (spUndo K T C.n C.u) 1 ["many"] gApp) (cR : MthK P w K mg base (L2.CX P w) 14 T.e "redo" (spRedo K T C.n C.u) 1 ["many"] gApp) :
    FnG P w K mg base CX0 18 f fd ["_law_bag", "_law_made", "_law_news_here", "_law_two"] (spNum K T tb) := by
  have S := sc_law_numbers_right
  refine fnGC_of F hc S (fun vs H Q E h => ?_) (fun A outer s H vs Q E hgd hr h => ?_)
  · obtain ⟨b, e, nl, two, de, s, t0, j, lt, rfl, _⟩ := h
    rfl
  · obtain ⟨b, e, nl, two, de, s0, t0, j, lt, rfl, hb, he, si, hn, nlb, hT, q⟩ := h
    have mT : (tb.pn, ("_law_numbers_right.<locals>.<lambda>" : Str)) ∈ tb.T := by simp [Tab3.T]
    refine ⟨_, (pss_cons (ps_set (i := 4) S.nd rfl (.inr rfl) (pe_c c1 hr (by decide) (by rfl) (E := E0) pass0 (pa_cons (pv 0) (pa_cons (pe_lst (pa_cons pe_non (pa_cons (pe_tup pa_nil) (pa_cons (pe_lst pa_nil) (pa_cons pe_str (pa_cons pe_int (pa_cons pe_dnewK (pa_cons (pe_lst (pa_cons (pe_tup (pa_cons pe_str (pa_cons pe_int (pa_cons pe_str pa_nil)))) pa_nil)) (pa_cons (pv 3) (pa_cons pe_bl pa_nil)))))))))) pa_nil))))
      (pss_cons (ps_set (i := 5) S.nd rfl (.inl rfl) (pe_lst (pa_cons (pe_word wf hgd (by rfl) TB rfl mT hok.uniq hr (k := 15) (by decide) (by rfl) rfl (fun _ _ _ _ _ => rfl) (fun A outer s H E f c' hr2 => pe_m (pv 1) cS hr2 (by decide) (E := E) passes_lam (pa_cons (pv 4) pa_nil))) pa_nil)))
      (pss_cons (ps_expr (pe_bm PySem.F.plainAttrs_list PySem.F.slot_list_append PySem.F.type_list_append mt_append (pv 5) (pa_cons (pe_word wf hgd (by rfl) TB rfl mT hok.uniq hr (k := 15) (by decide) (by rfl) rfl (fun _ _ _ _ _ => rfl) (fun A outer s H E f c' hr2 => pe_mR0 (pv 1) cM hr2 (by decide) (E := E) passes_lam)) pa_nil)))
      (pss_cons (ps_set (i := 6) S.nd rfl (.inr rfl) (pe_c c1 hr (by decide) (by rfl) (E := E0) pass0 (pa_cons (pv 0) (pa_cons (pe_lst (pa_cons (pe_un un_neg pe_int) (pa_cons pe_non (pa_cons pe_bl (pa_cons pe_str (pa_cons (pe_lst pa_nil) (pa_cons (pe_op op_mul (pe_op op_pow pe_int pe_int) (pe_un un_neg pe_int)) (pa_cons (pe_tup (pa_cons pe_int pa_nil)) (pa_cons pe_bl pa_nil))))))))) pa_nil))))
      (pss_cons (ps_set (i := 7) S.nd rfl (.inr rfl) (pe_c c1 hr (by decide) (by rfl) (E := E0) pass0 (pa_cons (pv 0) (pa_cons (pe_lst (pa_cons pe_int (pa_cons pe_int (pa_cons pe_int (pa_cons (pe_op op_pow pe_int pe_int) pa_nil))))) pa_nil))))
      (pss_cons (ps_expr (pe_bm PySem.F.plainAttrs_list PySem.F.slot_list_append PySem.F.type_list_append mt_append (pv 5) (pa_cons (pe_word wf hgd (by rfl) TB rfl mT hok.uniq hr (k := 15) (by decide) (by rfl) rfl (fun _ _ _ _ _ => rfl) (fun A outer s H E f c' hr2 => pe_mKw0 (pv 1) cU hr2 (by decide) (E := E) passes_lam (pk_cons (pv 6) pk_nil))) pa_nil)))
      (pss_cons (ps_expr (pe_bm PySem.F.plainAttrs_list PySem.F.slot_list_append PySem.F.type_list_append mt_append (pv 5) (pa_cons (pe_word wf hgd (by rfl) TB rfl mT hok.uniq hr (k := 15) (by decide) (by rfl) rfl (fun _ _ _ _ _ => rfl) (fun A outer s H E f c' hr2 => pe_mKw0 (pv 1) cR hr2 (by decide) (E := E) passes_lam (pk_cons (pv 6) pk_nil))) pa_nil)))
      (pss_cons (ps_expr (pe_bm PySem.F.plainAttrs_list PySem.F.slot_list_append PySem.F.type_list_append mt_append (pv 5) (pa_cons (pe_word wf hgd (by rfl) TB rfl mT hok.uniq hr (k := 15) (by decide) (by rfl) rfl (fun _ _ _ _ _ => rfl) (fun A outer s H E f c' hr2 => pe_mKw0 (pv 1) cU hr2 (by decide) (E := E) passes_lam (pk_cons (pv 7) pk_nil))) pa_nil)))
      (pss_cons (ps_expr (pe_bm PySem.F.plainAttrs_list PySem.F.slot_list_append PySem.F.type_list_append mt_append (pv 5) (pa_cons (pe_word wf hgd (by rfl) TB rfl mT hok.uniq hr (k := 15) (by decide) (by rfl) rfl (fun _ _ _ _ _ => rfl) (fun A outer s H E f c' hr2 => pe_mKw0 (pv 1) cR hr2 (by decide) (E := E) passes_lam (pk_cons (pv 7) pk_nil))) pa_nil)))
      (pss_cons (ps_par (i := 8) (j := 9) rfl S.nd rfl rfl (by decide) rfl rfl (pa_cons (pe_op op_add_str pe_str (pe_callB (call_reprD (K := K) rfl hgd (hu_of' hr)) (by rfl) B.repr (by decide +kernel) (pa_cons (pv 6) pa_nil))) (pa_cons (pe_op op_add_str pe_str (pe_callB (call_reprD (K := K) rfl hgd (hu_of' hr)) (by rfl) B.repr (by decide +kernel) (pa_cons (pv 7) pa_nil))) pa_nil)) (by rfl))
      (pss_one (ps_ret (pe_and (pe_cmpR (op_eqD (hu_of' hr)) (pv 5) (pe_op op_cat (pe_op op_cat (pe_op op_rep (pe_lst (pa_cons pe_str pa_nil)) pe_int) (pe_op op_rep (pe_lst (pa_cons (pv 8) pa_nil)) pe_int)) (pe_op op_rep (pe_lst (pa_cons (pv 9) pa_nil)) pe_int)) (nomark _)) (pe_one (pe_cmpR (op_eqD (hu_of' hr)) (pe_newsL cN hr (by decide) (by rfl) B.list (pv 1)) (pv 2) (nomark _)))))))))))))))), ?_⟩
    have heb : e ≠ b := fun z => by
      obtain ⟨x, y, w, hb'⟩ := hb
      rw [z, hb'] at he
      cases he
    -- the value that is no step
    refine ⟨_, rfl, by show 0 ≤ sizeLine; decide, fun p1 h1 => ?_⟩
    have s1 : Same H (upd H p1 (.tup [])) := same_upd h1
    have g1 : upd H p1 (.tup []) p1 = some (.tup []) := upd_same
    generalize upd H p1 (.tup []) = H1 at s1 g1
    refine ⟨by show 0 ≤ sizeLine; decide, fun p2 h2 => ?_⟩
    have s2 : Same H1 (upd H1 p2 (.lst [])) := same_upd h2
    have g2 : upd H1 p2 (.lst []) p2 = some (.lst []) := upd_same
    generalize upd H1 p2 (.lst []) = H2 at s2 g2
    intro p3 h3
    have s3 : Same H2 (upd H2 p3 (.dK [])) := same_upd h3
    have g3 : upd H2 p3 (.dK []) p3 = some (.dK []) := upd_same
    generalize upd H2 p3 (.dK []) = H3 at s3 g3
    refine ⟨by show 3 ≤ sizeLine; decide, fun p4 h4 => ?_⟩
    have s4 : Same H3 (upd H3 p4 (.tup [.str "put", .int 0, .str "a"])) := same_upd h4
    generalize upd H3 p4 (.tup [.str "put", .int 0, .str "a"]) = H4 at s4
    refine ⟨by show 1 ≤ sizeLine; decide, fun p5 h5 => ?_⟩
    have s5 : Same H4 (upd H4 p5 (.lst [.ref p4])) := same_upd h5
    have g5 : upd H4 p5 (.lst [.ref p4]) p5 = some (.lst [.ref p4]) := upd_same
    generalize upd H4 p5 (.lst [.ref p4]) = H5 at s5 g5
    refine ⟨_, rfl, by show 9 ≤ sizeLine; decide, fun l hl => ?_⟩
    have s6 : Same H5 (upd H5 l (.lst [.non, .ref p1, .ref p2, .str "put", .int 5, .ref p3, .ref p5, .ref two, .bl true])) := same_upd hl
    have g6 : upd H5 l (.lst [.non, .ref p1, .ref p2, .str "put", .int 5, .ref p3, .ref p5, .ref two, .bl true]) l = some (.lst [.non, .ref p1, .ref p2, .str "put", .int 5, .ref p3, .ref p5, .ref two, .bl true]) := upd_same
    generalize upd H5 l (.lst [.non, .ref p1, .ref p2, .str "put", .int 5, .ref p3, .ref p5, .ref two, .bl true]) = H6 at s6 g6
    have s06 : Same H H6 := ((((s1.trans s2).trans s3).trans s4).trans s5).trans s6
    have nlb' : l ≠ b := (hb.same ((((s1.trans s2).trans s3).trans s4).trans s5)).ne (.of hl)
    refine ⟨b, hb.same s06, .inl ⟨l, _, rfl, nlb', g6, by show 0 < 9; decide, by show 9 < 1000; decide, fun H7 x sE hb7 hx => ?_⟩⟩
    have r07 : Rr T tb.T [b] H H7 := ((Rr.bag1 hb).sm s06).bag (List.mem_cons_self ..) sE (hb.same s06) hb7
    have nx : NonS K T H7 x := by
      have r67 : Rr T tb.T [b] H6 H7 := rr_bag sE (hb.same s06) hb7
      refine NonS.rr r67 ?_
      simp only [List.mem_cons, List.mem_nil_iff, or_false] at hx
      rcases hx with rfl | rfl | rfl | rfl | rfl | rfl | rfl | rfl | rfl
      · exact ns_c rfl (fun a z => nomatch z)
      · exact ns_tup (s6 _ _ (s5 _ _ (s4 _ _ (s3 _ _ (s2 _ _ g1)))))
      · exact ns_lst (s6 _ _ (s5 _ _ (s4 _ _ (s3 _ _ g2))))
      · exact ns_c (by decide +kernel) (fun a z => nomatch z)
      · exact ns_c rfl (fun a z => nomatch z)
      · exact ns_dK (s6 _ _ (s5 _ _ (s4 _ _ g3)))
      · exact ns_lst (s6 _ _ g5)
      · exact ns_two cf (si.same s06 |>.ltH _ _ si.ltw)
      · exact ns_c rfl (fun a z => nomatch z)
    have t7 : Tabs tb.T H7 := r07.tb hT
    have he7 : H7 e = some (.ins T.e de (edF s0)) := r07.ex _ _ (by simpa using heb) he (fun _ z => nomatch z)
    have si7 := r07.sit cf si
    have hn7 : NewsL H7 nl j := r07.newsL (by simpa using nlb) hn
    clear s1 s2 s3 s4 s5 s6 g1 g2 g3 g5 g6 s06 sE hx h1 h2 h3 h4 h5 hl nlb'
    have rA := Rr.bag1 (T := T) (Tb := tb.T) hb7
    have fitA : FitV lt (s0.m, s0.t) := ⟨"ab", by rw [si.m]; exact si.ltw, si.fit⟩
    -- two words
    refine st_word1 (z := "edit") t7 rA (fun H1 r1 Q1 q1 => ?_) fun H8 p r8 fp hp => ?_
    · obtain ⟨pr, vr, st, p1, p2, p3⟩ := si7.past
      have he1 : H1 e = some (.ins T.e de (edF s0)) := r1.ex _ _ (by simpa using heb) he7 (fun _ z => nomatch z)
      refine ⟨_, rfl, e, de, _, rfl, he1, rfl, _, rfl, ?_⟩
      show spStep K T C.e [.ref e, x] H1 (fun _ H' => Q1 (.str "returned") H') (WdE K C Q1)
      exact step_none he1 (r1.sqT p1) (by show 1 ≤ 900; decide) (r1.lt cf si7.ltH) fitA (r1.arg nx.arg) (nx.rr r1).nil fun H2 s2 => wd_e (q1 H2 (r1.sm s2))
    refine st_word (z := "edit") t7 r8 rfl hp (by show 1 < 60; decide) fp (fun H1 r1 hp1 Q1 q1 => ?_) fun H9 r9 hp9 => ?_
    · obtain ⟨pr, vr, st, p1, p2, p3⟩ := si7.past
      have he1 : H1 e = some (.ins T.e de (edF s0)) := r1.ex _ _ (by simpa using heb) he7 (fun _ z => nomatch z)
      refine ⟨_, rfl, e, de, _, rfl, he1, rfl, ?_⟩
      show spMk K T C.e [.ref e] H1 (fun _ H' => Q1 (.str "returned") H') (WdE K C Q1)
      exact mk_bad he1 (r1.sqT p1) (by show 1 ≤ 900; decide) (r1.lt cf si7.ltH) fitA (by simp) (.inl rfl) fun H2 s2 => wd_e (q1 H2 (r1.sm s2) (s2 _ _ hp1))
    -- the two numbers
    have hb9 : BagAt H9 b := r9.bagAt (List.mem_cons_self ..) hb7
    have npb : p ≠ b := hb7.ne fp
    refine ⟨_, rfl, 1, rfl, by show 0 ≤ sizeLine; decide, fun p1 h1 => ?_⟩
    have s1 : Same H9 (upd H9 p1 (.lst [])) := same_upd h1
    have g1 : upd H9 p1 (.lst []) p1 = some (.lst []) := upd_same
    have n1b : p1 ≠ b := hb9.ne (.of h1)
    have n1p : p1 ≠ p := fun z => by rw [z, hp9] at h1; cases h1
    generalize upd H9 p1 (.lst []) = H10 at s1 g1
    refine ⟨10, 39, rfl, rfl, ⟨by decide, by decide, by decide⟩, 1, rfl, _, _, rfl, rfl, .inr ⟨by decide, by decide⟩, by show 1 ≤ sizeLine; decide, fun p2 h2 => ?_⟩
    have s2 : Same H10 (upd H10 p2 (.tup [.int 1])) := same_upd h2
    have g2 : upd H10 p2 (.tup [.int 1]) p2 = some (.tup [.int 1]) := upd_same
    have n2p : p2 ≠ p := fun z => by rw [z, s1 _ _ hp9] at h2; cases h2
    generalize upd H10 p2 (.tup [.int 1]) = H11 at s2 g2
    refine ⟨by show 8 ≤ sizeLine; decide, fun l hl => ?_⟩
    refine pick_l (E := E0) (xs := [.int (-1), .non, .bl true, .str "1", .ref p1, .int (10 ^ 39 * -1), .ref p2, .bl false]) (hb9.same ((s1.trans s2).trans (same_upd hl))) ((hb9.same (s1.trans s2)).ne (.of hl)) upd_same (by show 0 < 8; decide) (by show 8 < 1000; decide) fun H13 m sE hb13 hm => ?_
    have s3 : Same H11 (upd H11 l (.lst [.int (-1), .non, .bl true, .str "1", .ref p1, .int (10 ^ 39 * -1), .ref p2, .bl false])) := same_upd hl
    have sE : SameE b (upd H11 l (.lst [.int (-1), .non, .bl true, .str "1", .ref p1, .int (10 ^ 39 * -1), .ref p2, .bl false])) H13 := sE
    generalize upd H11 l (.lst [.int (-1), .non, .bl true, .str "1", .ref p1, .int (10 ^ 39 * -1), .ref p2, .bl false]) = H12 at s3 sE
    have s13 : Same H9 H12 := (s1.trans s2).trans s3
    obtain ⟨d, hd⟩ : ∃ d, Much b H13 m d ∧ ∀ a, m = .ref a → a ≠ p := by
      have r3 : Rr T tb.T [b] H12 H13 := rr_bag sE (hb9.same s13) hb13
      simp only [List.mem_cons, List.mem_nil_iff, or_false] at hm
      rcases hm with rfl | rfl | rfl | rfl | rfl | rfl | rfl | rfl
      · exact ⟨_, .i1, fun _ z => nomatch z⟩
      · exact ⟨_, .non, fun _ z => nomatch z⟩
      · exact ⟨_, .bl _, fun _ z => nomatch z⟩
      · exact ⟨_, .s1, fun _ z => nomatch z⟩
      · exact ⟨_, Much.rr r3 (.lst n1b (s3 _ _ (s2 _ _ g1))), fun _ z => by cases z; exact n1p⟩
      · exact ⟨_, .big, fun _ z => nomatch z⟩
      · exact ⟨_, Much.rr r3 (.tup (s3 _ _ g2)), fun _ z => by cases z; exact n2p⟩
      · exact ⟨_, .bl _, fun _ z => nomatch z⟩
    have r13 : Rr T tb.T [b] H7 H13 := (r9.sm s13).bag (List.mem_cons_self ..) sE (hb9.same s13) hb13
    have hp13 : H13 p = some (.lst [.str "edit", .str "edit"]) := sE _ _ npb (s13 _ _ hp9)
    clear s1 s2 s3 g1 g2 n1b n1p n2p h1 h2 hl hm sE s13 hb9 hp9
    refine ⟨_, rfl, 10, 39, rfl, rfl, ⟨by decide, by decide, by decide⟩, by show 4 ≤ sizeLine; decide, fun l hl => ?_⟩
    refine pick_l (E := E0) (xs := [.int 2, .int 60, .int 61, .int (10 ^ 39)]) (hb13.same (same_upd hl)) (hb13.ne (.of hl)) upd_same (by show 0 < 4; decide) (by show 4 < 1000; decide) fun H15 gv sE hb15 hm => ?_
    have s3 : Same H13 (upd H13 l (.lst [.int 2, .int 60, .int 61, .int (10 ^ 39)])) := same_upd hl
    have sE : SameE b (upd H13 l (.lst [.int 2, .int 60, .int 61, .int (10 ^ 39)])) H15 := sE
    generalize upd H13 l (.lst [.int 2, .int 60, .int 61, .int (10 ^ 39)]) = H14 at s3 sE
    obtain ⟨g, rfl, hg⟩ : ∃ g, gv = .int g ∧ (g = 2 ∨ g = 60 ∨ g = 61 ∨ g = 10 ^ 39) := by
      simp only [List.mem_cons, List.mem_nil_iff, or_false] at hm
      rcases hm with rfl | rfl | rfl | rfl
      · exact ⟨_, rfl, .inl rfl⟩
      · exact ⟨_, rfl, .inr (.inl rfl)⟩
      · exact ⟨_, rfl, .inr (.inr (.inl rfl))⟩
      · exact ⟨_, rfl, .inr (.inr (.inr rfl))⟩
    have rd : Rr T tb.T [b] H13 H15 := ((Rr.bag1 hb13).sm s3).bag (List.mem_cons_self ..) sE (hb13.same s3) hb15
    have hd15 := hd.1.rr rd
    have r15 : Rr T tb.T [b] H7 H15 := r13.trans rd fun a ha => .inl ha
    have hp15 : H15 p = some (.lst [.str "edit", .str "edit"]) := sE _ _ npb (s3 _ _ hp13)
    -- the new ground: without the list of words
    have rH : Rr T tb.T [b] H7 (hide p H15) := r15.new fp hp15 hide_E
    have hbG : BagAt (hide p H15) b := rH.bagAt (List.mem_cons_self ..) hb7
    have rG : Rr T tb.T [b] (hide p H15) H15 := (Rr.bag1 hbG).sm hide_le
    have fpG : Fr (hide p H15) p := .of hide_no
    have tG : Tabs tb.T (hide p H15) := rH.tb t7
    have heG : hide p H15 e = some (.ins T.e de (edF s0)) := rH.ex _ _ (by simpa using heb) he7 (fun _ z => nomatch z)
    have siG := rH.sit cf si7
    have hnG : NewsL (hide p H15) nl j := rH.newsL (by simpa using nlb) hn7
    have hdG : Much b (hide p H15) m d := by
      have hne := hd.2
      cases hd15 with
      | i1 => exact .i1
      | non => exact .non
      | bl x => exact .bl x
      | s1 => exact .s1
      | big => exact .big
      | lst n h => exact .lst n (hide_E _ _ (hne _ rfl) h)
      | tup h => exact .tup (hide_E _ _ (hne _ rfl) h)
    have rHG := r07.trans rH fun a ha => .inl ha
    clear s3 hl hm sE hd15 rd
    generalize hide p H15 = G at *
    have one : ∀ i : Int, g = i → 1 < g := fun _ _ => by
      rcases hg with rfl | rfl | rfl | rfl <;> decide
    have g1 := one g rfl
    refine st_word (z := "number " ++ d.shown) tG rG rfl hp15 (by show 2 < 60; decide) fpG (fun H1 r1 hp1 Q1 q1 => ?_) fun H16 r16 hp16 => ?_
    · obtain ⟨pr, vr, st, p1, p2, p3⟩ := siG.past
      obtain ⟨su, xs, os, r, u1, u2, u3, u4⟩ := siG.undone
      have he1 : H1 e = some (.ins T.e de (edF s0)) := r1.ex _ _ (by simpa using heb) heG (fun _ z => nomatch z)
      refine ⟨_, rfl, e, de, _, rfl, he1, rfl, _, rfl, rfl, ?_⟩
      show spUndo K T C.n C.u [.ref e, m] H1 (fun _ H' => Q1 (.str "returned") H') (WdE K C Q1)
      exact ⟨e, de, s0, _, _, m, lt, rfl, he1, r1.sqT p1, by show 1 ≤ 900; decide, r1.sqT u1, by show 1 ≤ 900; decide, r1.lt cf siG.ltH, (hdG.rr r1).nice cf, .inl ⟨hdG.low, fun H2 dd s2 _ hdd => wd_n hdd (hdG.rr (r1.sm s2)).dp hdG.ok (q1 H2 (r1.sm s2) (s2 _ _ hp1))⟩⟩
    refine st_word (z := "number " ++ d.shown) tG r16 rfl hp16 (by show 3 < 60; decide) fpG (fun H1 r1 hp1 Q1 q1 => ?_) fun H17 r17 hp17 => ?_
    · obtain ⟨pr, vr, st, p1, p2, p3⟩ := siG.past
      obtain ⟨su, xs, os, r, u1, u2, u3, u4⟩ := siG.undone
      have he1 : H1 e = some (.ins T.e de (edF s0)) := r1.ex _ _ (by simpa using heb) heG (fun _ z => nomatch z)
      refine ⟨_, rfl, e, de, _, rfl, he1, rfl, _, rfl, rfl, ?_⟩
      show spRedo K T C.n C.u [.ref e, m] H1 (fun _ H' => Q1 (.str "returned") H') (WdE K C Q1)
      exact ⟨e, de, s0, _, _, m, lt, rfl, he1, r1.sqT p1, by show 1 ≤ 900; decide, r1.sqT u1, by show 1 ≤ 900; decide, r1.lt cf siG.ltH, (hdG.rr r1).nice cf, .inl ⟨hdG.low, fun H2 dd s2 _ hdd => wd_n hdd (hdG.rr (r1.sm s2)).dp hdG.ok (q1 H2 (r1.sm s2) (s2 _ _ hp1))⟩⟩
    refine st_word (z := "nothing " ++ (PyData.int g).shown) tG r17 rfl hp17 (by show 4 < 60; decide) fpG (fun H1 r1 hp1 Q1 q1 => ?_) fun H18 r18 hp18 => ?_
    · obtain ⟨pr, vr, st, p1, p2, p3⟩ := siG.past
      obtain ⟨su, xs, os, r, u1, u2, u3, u4⟩ := siG.undone
      have he1 : H1 e = some (.ins T.e de (edF s0)) := r1.ex _ _ (by simpa using heb) heG (fun _ z => nomatch z)
      refine ⟨_, rfl, e, de, _, rfl, he1, rfl, _, rfl, rfl, ?_⟩
      show spUndo K T C.n C.u [.ref e, .int g] H1 (fun _ H' => Q1 (.str "returned") H') (WdE K C Q1)
      exact ⟨e, de, s0, _, _, .int g, lt, rfl, he1, r1.sqT p1, by show 1 ≤ 900; decide, r1.sqT u1, by show 1 ≤ 900; decide, r1.lt cf siG.ltH, True.intro, .inr (.inl ⟨g, rfl, by omega, by show ((1 : Nat) : Int) < g; omega, fun H2 dd s2 _ hdd => wd_u hdd (.int g) (great_ok hg) (q1 H2 (r1.sm s2) (s2 _ _ hp1))⟩)⟩
    refine st_word (z := "nothing " ++ (PyData.int g).shown) tG r18 rfl hp18 (by show 5 < 60; decide) fpG (fun H1 r1 hp1 Q1 q1 => ?_) fun H19 r19 hp19 => ?_
    · obtain ⟨pr, vr, st, p1, p2, p3⟩ := siG.past
      obtain ⟨su, xs, os, r, u1, u2, u3, u4⟩ := siG.undone
      have he1 : H1 e = some (.ins T.e de (edF s0)) := r1.ex _ _ (by simpa using heb) heG (fun _ z => nomatch z)
      refine ⟨_, rfl, e, de, _, rfl, he1, rfl, _, rfl, rfl, ?_⟩
      show spRedo K T C.n C.u [.ref e, .int g] H1 (fun _ H' => Q1 (.str "returned") H') (WdE K C Q1)
      exact ⟨e, de, s0, _, _, .int g, lt, rfl, he1, r1.sqT p1, by show 1 ≤ 900; decide, r1.sqT u1, by show 1 ≤ 900; decide, r1.lt cf siG.ltH, True.intro, .inr (.inl ⟨g, rfl, by omega, by show ((1 : Nat) : Int) < g; omega, fun H2 dd s2 _ hdd => wd_u hdd (.int g) (great_ok hg) (q1 H2 (r1.sm s2) (s2 _ _ hp1))⟩)⟩
    have okD := hdG.ok
    have okG := great_ok hg
    have le1 : ("number " : Str).length + d.shown.length ≤ sizeLine := Nat.le_trans (Nat.add_le_add_left okD.ln _) (by decide)
    have le2 : ("nothing " : Str).length + (PyData.int g).shown.length ≤ sizeLine := Nat.le_trans (Nat.add_le_add_left okG.ln _) (by decide)
    refine ⟨_, rfl, m, d, rfl, (hdG.rr r19).dp, okD.sh, okD.hd, okD.dp, Nat.le_trans okD.ln (by decide), _, _, rfl, rfl, le1, _, rfl, .int g, .int g, rfl, .int g, okG.sh, okG.hd, okG.dp, Nat.le_trans okG.ln (by decide), _, _, rfl, rfl, le2, _, _, rfl, ?_⟩
    generalize hz1 : (("number " : Str) ++ d.shown) = z1 at *
    generalize hz2 : (("nothing " : Str) ++ (PyData.int g).shown) = z2 at *
    have k1 : PyData.strOk z1 = true := hz1 ▸ strOk_app (by decide +kernel) okD.ok
    have k2 : PyData.strOk z2 = true := hz2 ▸ strOk_app (by decide +kernel) okG.ok
    have wsok : ∀ x ∈ [("edit" : Str), "edit", z1, z1, z2, z2], PyData.strOk x = true := fun x hx => by
      simp only [List.mem_cons, List.mem_nil_iff, or_false] at hx
      rcases hx with rfl | rfl | rfl | rfl | rfl | rfl <;> first | exact k1 | exact k2 | decide +kernel
    refine ⟨_, rfl, by show 1 ≤ sizeLine; decide, fun p1 h1 => ?_⟩
    have s1 : Same H19 (upd H19 p1 (.lst [.str "edit"])) := same_upd h1
    have g1 : upd H19 p1 (.lst [.str "edit"]) p1 = some (.lst [.str "edit"]) := upd_same
    generalize upd H19 p1 (.lst [.str "edit"]) = H20 at s1 g1
    refine ⟨p1, 2, _, rfl, rfl, g1, by decide, by decide, by show 1 * 2 ≤ sizeLine; decide, fun p2 h2 => ?_⟩
    have s2 : Same H20 (upd H20 p2 (.lst [.str "edit", .str "edit"])) := same_upd h2
    have g2 : upd H20 p2 (.lst [.str "edit", .str "edit"]) p2 = some (.lst [.str "edit", .str "edit"]) := upd_same
    refine ⟨_, rfl, by show 1 ≤ sizeLine; decide, fun p3 h3 => ?_⟩
    have s3 : Same (upd H20 p2 (.lst [.str "edit", .str "edit"])) (upd (upd H20 p2 (.lst [.str "edit", .str "edit"])) p3 (.lst [.str z1])) := same_upd h3
    have g3 : upd (upd H20 p2 (.lst [.str "edit", .str "edit"])) p3 (.lst [.str z1]) p3 = some (.lst [.str z1]) := upd_same
    refine ⟨p3, 2, [.str z1], rfl, rfl, g3, by decide, by decide, by show 1 * 2 ≤ sizeLine; decide, fun p4 h4 => ?_⟩
    have s4 := same_upd h4 (o := .lst [.str z1, .str z1])
    refine ⟨p2, p4, [.str "edit", .str "edit"], [.str z1, .str z1], rfl, rfl, s4 _ _ (s3 _ _ g2), upd_same, by show 4 ≤ sizeLine; decide, fun p5 h5 => ?_⟩
    have s5 := same_upd h5 (o := .lst ([.str "edit", .str "edit"] ++ [.str z1, .str z1]))
    refine ⟨_, rfl, by show 1 ≤ sizeLine; decide, fun p6 h6 => ?_⟩
    have s6 := same_upd h6 (o := .lst [.str z2])
    refine ⟨p6, 2, [.str z2], rfl, rfl, upd_same, by decide, by decide, by show 1 * 2 ≤ sizeLine; decide, fun p7 h7 => ?_⟩
    have s7 := same_upd h7 (o := .lst [.str z2, .str z2])
    refine ⟨p5, p7, [.str "edit", .str "edit", .str z1, .str z1], [.str z2, .str z2], rfl, rfl, s7 _ _ (s6 _ _ upd_same), upd_same, by show 6 ≤ sizeLine; decide, fun p8 h8 => ?_⟩
    have s8 := same_upd h8 (o := .lst ([.str "edit", .str "edit", .str z1, .str z1] ++ [.str z2, .str z2]))
    have sZ : Same H19 _ := (((((((s1.trans s2).trans s3).trans s4).trans s5).trans s6).trans s7).trans s8)
    refine ⟨.list ([("edit" : Str), "edit", z1, z1, z2, z2].map PyData.str), .list ([("edit" : Str), "edit", z1, z1, z2, z2].map PyData.str), dp_L _ (sZ _ _ hp19) rfl, dp_L _ upd_same rfl, shaped_L _ wsok, shaped_L _ wsok, ?_⟩
    have eq1 : PyData.eqv (.list ([("edit" : Str), "edit", z1, z1, z2, z2].map PyData.str)) (.list ([("edit" : Str), "edit", z1, z1, z2, z2].map PyData.str)) = true := eqv_L _ wsok
    rw [eq1]
    have rZ := r19.sm sZ
    refine ⟨true, rfl, iteT' rfl ?_⟩
    exact news_tail rfl rfl (rZ.ex _ _ (by simpa using heb) heG (fun _ z => nomatch z)) (rZ.sit cf siG) (rZ.newsL (by simpa using nlb) hnG) fun H' s' => q H' (rHG.trans (rZ.sm s') fun a ha => .inl ha) ((rZ.sm s').bagAt (List.mem_cons_self ..) hbG)
end
end K67
end
section
set_option Elab.async false
set_option linter.all false
set_option maxRecDepth 100000
set_option maxHeartbeats 1000000
namespace K67
open PySem PySem.Spec PyProof.Rows L2 LamX
/-! ### the plain law of the text with two a's in front -/
theorem cpre_app : ∀ (l m : List Nat), cpre l (l ++ m) = l.length
  | [], m => by cases m <;> rfl
  | x :: l, m => by
    show cpre (x :: l) (x :: (l ++ m)) = l.length + 1
    simp [cpre, cpre_app l m]
theorem cpre_rep {a c : Nat} (hc : c ≠ a) (r : List Nat) : ∀ k : Nat, cpre (List.replicate k a ++ c :: r) (a :: a :: (List.replicate k a ++ c :: r)) = k
  | 0 => by simp [cpre, hc]
  | k + 1 => by
    have := cpre_rep hc r k
    rw [List.replicate_succ]
    show cpre (a :: (List.replicate k a ++ c :: r)) (a :: (a :: a :: (List.replicate k a ++ c :: r))) = k + 1
    simp only [cpre, if_true]
    rw [this]
theorem split_rep {a : Nat} : ∀ l : List Nat, (∃ c ∈ l, c ≠ a) → ∃ k c r, l = List.replicate k a ++ c :: r ∧ c ≠ a
  | [], h => by obtain ⟨c, hc, _⟩ := h; cases hc
  | x :: l, h => by
    by_cases hx : x = a
    · subst hx
      obtain ⟨c, hc, hn⟩ := h
      rcases List.mem_cons.mp hc with e | e
      · exact absurd e hn
      · obtain ⟨k, c', r, e1, e2⟩ := split_rep l ⟨c, e, hn⟩
        exact ⟨k + 1, c', r, by rw [e1, List.replicate_succ]; rfl, e2⟩
    · exact ⟨0, x, l, rfl, hx⟩
theorem filter_one (f : Nat → Bool) (j : Nat) : ∀ n : Nat, (∀ i, i < n → (f i = true ↔ i = j)) → (List.range n).filter f = if j < n then [j] else []
  | 0, _ => by simp
  | n + 1, h => by
    rw [List.range_succ, List.filter_append, filter_one f j n fun i hi => h i (by omega)]
    by_cases hj : j < n
    · rw [if_pos hj, if_pos (by omega)]
      have : f n = false := by
        cases e : f n with
        | false => rfl
        | true => have := (h n (by omega)).mp e; omega
      simp [this]
    · rw [if_neg hj]
      by_cases hn : n = j
      · subst hn
        have : f n = true := (h n (by omega)).mpr rfl
        rw [if_pos (by omega)]
        simp [this]
      · have : f n = false := by
          cases e : f n with
          | false => rfl
          | true => exact absurd ((h n (by omega)).mp e) hn
        rw [if_neg (by omega)]
        simp [this]
theorem str_ext {x y : Str} (h : x.cps.toList = y.cps.toList) : x = y := by
  obtain ⟨a⟩ := x
  obtain ⟨b⟩ := y
  have : a = b := Array.toList_inj.mp h
  rw [this]
abbrev aa (t : Str) : Str := putS t "aa" 0
theorem aa_list (t : Str) : (aa t).cps.toList = 97 :: 97 :: t.cps.toList := by
  have := putS_list t "aa" 0
  rw [List.take_zero, List.drop_zero] at this
  exact this
theorem aa_len (t : Str) : (aa t).length = t.length + 2 := by
  rw [sLen, aa_list, sLen]
  rfl
theorem cut_aa (t : Str) : cutO (aa t) 0 2 = t := by
  apply str_ext
  have := cutO_list (aa t) 0 2
  rw [List.take_zero, aa_list] at this
  exact this
theorem one_news {t : Str} (h : ∃ c ∈ t.cps.toList, c ≠ 97) : ∃ j, newsP t (aa t) ((aa t).length + 1) = [j] := by
  obtain ⟨k, c, r, e1, e2⟩ := split_rep _ h
  have hb : bgn t (aa t) = k := by
    unfold bgn
    rw [aa_list, e1]
    exact cpre_rep e2 r k
  have d1 : t.cps.toList.drop k = c :: r := by
    rw [e1, List.drop_append_of_le_length (by simp), List.drop_of_length_le (by simp)]
    rfl
  have d2 : (aa t).cps.toList.drop k = 97 :: 97 :: (c :: r) := by
    have e : (97 : Nat) :: 97 :: (List.replicate k 97 ++ c :: r) = List.replicate k 97 ++ 97 :: 97 :: (c :: r) := by
      have : ∀ n : Nat, (97 : Nat) :: (List.replicate n 97 ++ (c :: r)) = List.replicate n 97 ++ 97 :: (c :: r) := fun n => by
        induction n with
        | zero => rfl
        | succ n ih =>
          rw [List.replicate_succ]
          show 97 :: 97 :: (List.replicate n 97 ++ c :: r) = 97 :: (List.replicate n 97 ++ 97 :: c :: r)
          rw [ih]
      have this2 : ∀ n : Nat, (97 : Nat) :: (List.replicate n 97 ++ (97 :: c :: r)) = List.replicate n 97 ++ 97 :: (97 :: c :: r) := fun n => by
        induction n with
        | zero => rfl
        | succ n ih =>
          rw [List.replicate_succ]
          show 97 :: 97 :: (List.replicate n 97 ++ 97 :: c :: r) = 97 :: (List.replicate n 97 ++ 97 :: 97 :: c :: r)
          rw [ih]
      rw [this k, this2 k]
    rw [aa_list, e1, e, List.drop_append_of_le_length (by simp), List.drop_of_length_le (by simp)]
    rfl
  have he : enn t (aa t) = r.length + 1 := by
    unfold enn
    rw [hb, d1, d2]
    have : (97 :: 97 :: (c :: r) : List Nat).reverse = (c :: r).reverse ++ [97, 97] := by simp
    rw [this, cpre_app]
    simp
  have hl : t.length = k + r.length + 1 := by
    rw [sLen, e1]
    simp
    omega
  refine ⟨k + 1, ?_⟩
  unfold newsP
  rw [filter_one _ (k + 1), if_pos (by rw [aa_len]; omega)]
  intro i hi
  unfold isNew
  rw [hb, he, aa_len, hl]
  simp only [Bool.and_eq_true, decide_eq_true_eq]
  omega
/-! ### the drawn text -/
theorem let_ab {t : Str} (h : over t "ab" = true) : ∀ c ∈ t.cps.toList, letB c = true := by
  intro c hc
  have := over_iff.mp h c hc
  have e : ("ab" : Str).cps.toList = [97, 98] := by decide +kernel
  rw [e] at this
  simp only [List.mem_cons, List.mem_nil_iff, or_false] at this
  rcases this with rfl | rfl <;> decide +kernel
theorem fit_ab {t : Str} (h : over t "ab" = true) (hl : t.length ≤ 60) : Fit "ab" t := ⟨isT_iff.mpr ⟨by rw [← sLen]; exact hl, let_ab h⟩, h⟩
theorem over_app {x y ls : Str} (h1 : over x ls = true) (h2 : over y ls = true) : over (x ++ y) ls = true := by
  rw [over_iff] at *
  intro c hc
  rw [app_list] at hc
  rcases List.mem_append.mp hc with z | z
  · exact h1 c z
  · exact h2 c z
theorem over_aa {t : Str} (h : over t "ab" = true) : over (aa t) "ab" = true := by
  rw [over_iff] at *
  intro c hc
  rw [aa_list] at hc
  have e : ("ab" : Str).cps.toList = [97, 98] := by decide +kernel
  rcases List.mem_cons.mp hc with rfl | hc
  · rw [e]; simp
  rcases List.mem_cons.mp hc with rfl | hc
  · rw [e]; simp
  · exact h c hc
theorem not_a {t : Str} : over (aa (t ++ "b")) "a" = false := by
  cases e : over (aa (t ++ "b")) "a" with
  | false => rfl
  | true =>
    have := over_iff.mp e 98 (by
      rw [aa_list, app_list]
      have : ("b" : Str).cps.toList = [98] := by decide +kernel
      rw [this]
      simp)
    have e2 : ("a" : Str).cps.toList = [97] := by decide +kernel
    rw [e2] at this
    simp at this
theorem has_b {t : Str} : ∃ c ∈ (t ++ "b" : Str).cps.toList, c ≠ 97 := ⟨98, by
  rw [app_list]
  have : ("b" : Str).cps.toList = [98] := by decide +kernel
  rw [this]
  simp, by decide⟩
end K67
end
section
set_option Elab.async false
set_option linter.all false
set_option maxRecDepth 100000
set_option maxHeartbeats 1000000
namespace K67
open PySem PySem.Spec PyProof.Rows L2 LamX
/-- a def as a callee where no repr is under way -/
structure CalG (P : Program) (w : World) (K : PySem.W.Frag) (mg : Str → Option Value) (base : Heap) (CX : CXT) (k : Nat) (x : Str) (sp : Sp) : Prop where
  ex : ∃ (f : Addr) (fd : FuncData) (ps : List Str), FnG P w K mg base CX k f fd ps sp ∧ mg x = some (.ref f) ∧ PySem.W.keepIn K (.ref f) = true ∧ Binds K fd ps []
theorem pe_cG {X : Cx} {CX : CXT} {k j : Nat} {x : Str} {sp : Sp} {p pos : Pos} {e : Expr} {es : List Expr} {t : TA} {E : XK} (c : CalG X.prog X.w X.K X.mg X.base CX k x sp) (hgd : X.A.guards = some []) (hr : Room j X.A) (hk : k ≤ j) (hg : Gl X x) (hx : Passes CX X E) (ha : PA X (e :: es) t)
    (hdb : (x == ("__debug__" : Str)) = false := by decide) (he : starEach (e :: es) X.env = (false, eval e X.env) :: starEach es X.env := by rfl) (hpl : (backTo pos (starEach es X.env)).any (·.1) = false := by rfl) :
    PE X (.Call (.Name x p) (e :: es) [] pos) (tCall sp [] E t) := by
  obtain ⟨f, fd, ps, F, hm, kp, b⟩ := c.ex
  exact pe_callG F hgd (hr.mono hk) hg hm kp b .nil hx ha hdb he hpl
/-- all that _law_right and law call -/
structure RCtx (P : Program) (w : World) (K : PySem.W.Frag) (mg : Str → Option Value) (base : Heap) (T : Cls3) (C : Cls6) (tb : Tab3) (fS fL : Addr) : Prop where
  cf : CF K T
  wf : WordF K mg C
  hok : tb.ok
  B : BN mg
  pick : Cal P w K mg base CX0 2 "_law_pick" spPick
  news : NewsC P w K mg base T
  step : Mth P w K mg base (L2.CX P w) 14 T.e "make_step" (spStep K T C.e)
  make : MthR P w K mg base (L2.CX P w) 15 T.e "make" (spMk K T C.e)
  undo : MthD P w K mg base (L2.CX P w) 14 T.e "undo" (spUndo K T C.n C.u) [.int 1]
  twin : Mth P w K mg base CX0 15 T.e "twin" (spTwin T)
  text : PropC P w K mg base T.e "text" 1 (getSp T.e "own_text")
  marks : PropC P w K mg base T.t "marks" 1 (getSp T.t "own_marks")
  log : PropC P w K mg base T.e "log" 1 (spLog K T)
  copier : Cal P w K mg base CX0 8 "_law_copier" (spCopier T)
  drawn : Cal P w K mg base CX0 3 "_law_drawn_word" spDrawn
  shuf : Cal P w K mg base CX0 2 "_law_shuffled" spShuffled
  start : Cal P w K mg base CX0 1 "_law_start" (spStart K)
  wrong : Cal P w K mg base CX0 4 "_law_wrong_edits" (spWrong K T)
  fine : Cal P w K mg base CX0 3 "_law_fine_edit" spFine
  stays : Cal P w K mg base CX0 16 "_law_stays" (spStays K T)
  ed2 : Mak P w K mg base (L2.CX P w) 13 "Editor" T.e (spMakeE K T C.m C.t C.o) []
  ed1 : Mak P w K mg base (L2.CX P w) 13 "Editor" T.e (spMakeE K T C.m C.t C.o) [.str ""]
  eq : OwnE P w K mg base T.e 5 (spEdEq T)
  attS : Mth P w K mg base (L2.CX P w) 17 T.e "attempt" (spAtt T fS (spSpoilt K T C.e))
  attL : Mth P w K mg base (L2.CX P w) 17 T.e "attempt" (spAtt T fL (spLow K T C.n))
  gS : ∃ u, mg "_law_spoilt" = some u ∧ RelV (.ref fS) u
  gL : ∃ u, mg "_law_too_low" = some u ∧ RelV (.ref fL) u
  num : CalG P w K mg base CX0 18 "_law_numbers_right" (spNum K T tb)
section
variable {K : PySem.W.Frag} {T : Cls3} {tb : Tab3} {H H' : Hp}
/-- the law's situation, once all is drawn -/
structure RF (K : PySem.W.Frag) (T : Cls3) (tb : Tab3) (lt : Addr → Option Str) (H : Hp) (b e k nl one two de dk : Addr) (s sk : EdF) (t0 : Str) (j : Nat) : Prop where
  bag : BagAt H b
  he : H e = some (.ins T.e de (edF s))
  hk : H k = some (.ins T.e dk (edF sk))
  kp : sk.past = s.past
  km : sk.m = s.m
  kt : sk.t = s.t
  si : Sit K T lt H two t0 j s
  l1 : lt one = some ("a" : Str)
  nw : NewsL H nl j
  nlb : nl ≠ b
  ek : e ≠ k
  tabs : Tabs tb.T H
  len : s.t.length ≤ 57
  na : over s.t "a" = false
  mkk : ∀ m dx fs, H two = some (.ins T.t dx fs) → fs.lookup ("own_marks" : Str) = some (.ref m) → lt m = none
section
variable {lt : Addr → Option Str} {b e k nl one two de dk : Addr} {s sk : EdF} {t0 : Str} {j : Nat}
theorem RF.eb (h : RF K T tb lt H b e k nl one two de dk s sk t0 j) : e ≠ b := fun z => by
  obtain ⟨x, y, w, hb⟩ := h.bag
  have := h.he
  rw [z, hb] at this
  cases this
theorem RF.kb (h : RF K T tb lt H b e k nl one two de dk s sk t0 j) : k ≠ b := fun z => by
  obtain ⟨x, y, w, hb⟩ := h.bag
  have := h.hk
  rw [z, hb] at this
  cases this
theorem RF.ne (h : RF K T tb lt H b e k nl one two de dk s sk t0 j) : nl ≠ e := fun z => by
  obtain ⟨a, h1, h2⟩ := h.nw
  have := h.he
  rw [← z, h1] at this
  cases this
theorem RF.twoAt (h : RF K T tb lt H b e k nl one two de dk s sk t0 j) : IsTwo T H two "ab" := h.si.ltH _ _ h.si.ltw
theorem RF.oneAt (h : RF K T tb lt H b e k nl one two de dk s sk t0 j) : IsTwo T H one "a" := h.si.ltH _ _ h.l1
/-- the editor may have been shown anew -/
theorem RF.up (cf : CF K T) (h : RF K T tb lt H b e k nl one two de dk s sk t0 j) (r : Rr T tb.T [b, e] H H') {mk wd : Addr} {rs : V} (he : H' e = some (.ins T.e de (edF ⟨s.past, s.undone, s.before, s.m, s.t, mk, wd, rs⟩))) : RF K T tb lt H' b e k nl one two de dk ⟨s.past, s.undone, s.before, s.m, s.t, mk, wd, rs⟩ sk t0 j := by
  refine ⟨r.bagAt (by simp) h.bag, he, r.ex _ _ (by simp [h.kb, Ne.symm h.ek]) h.hk (fun _ z => nomatch z), h.kp, h.km, h.kt, (r.sit cf h.si).sh mk wd rs, h.l1, r.newsL (by simp [h.nlb, h.ne]) h.nw, h.nlb, h.ek, r.tb h.tabs, h.len, h.na, fun m dx fs h1 h2 => ?_⟩
  obtain ⟨p, hp⟩ := h.twoAt
  have := r.insC hp.obj cf.kits.te
  rw [this] at h1
  cases h1
  exact h.mkk m _ _ hp.obj h2
theorem RF.rr (cf : CF K T) (h : RF K T tb lt H b e k nl one two de dk s sk t0 j) (r : Rr T tb.T [b] H H') : RF K T tb lt H' b e k nl one two de dk s sk t0 j := by
  have r2 : Rr T tb.T [b, e] H H' := by
    refine ⟨fun a o ha => r.ex a o (fun z => ha (by simp at z; simp [z])), fun a ha => ?_, r.tb⟩
    rcases List.mem_cons.mp ha with rfl | ha
    · exact r.kd a (by simp)
    · obtain rfl : a = e := by simpa using ha
      exact mutEd h.he (r.ex _ _ (by simp [h.eb]) h.he (fun _ z => nomatch z))
  exact h.up cf r2 (mk := s.marks) (wd := s.words) (rs := s.res) (r.ex _ _ (by simp [h.eb]) h.he (fun _ z => nomatch z))
theorem RF.two2 (h : RF K T tb lt H b e k nl one two de dk s sk t0 j) : Rr T tb.T [b, e] H H := Rr.refl fun a ha => by
  rcases List.mem_cons.mp ha with rfl | ha
  · exact mutBag h.bag h.bag
  · obtain rfl : a = e := by simpa using ha
    exact mutEd h.he h.he
end
/-- what is no machine; what is no text -/
def OffS (K : PySem.W.Frag) (T : Cls3) (H : Hp) (x : V) : Prop := Short x ∧ ∃ t, t ∈ TYS T ∧ TyOf K H x t ∧ t ≠ .ref T.t
theorem OffS.arg {x : V} (h : OffS K T H x) : Arg K T H x := by
  obtain ⟨h0, t, h1, h2, h3⟩ := h
  exact ⟨⟨t, h1, h2⟩, h0⟩
theorem OffS.no {x : V} (h : OffS K T H x) : ¬ TyOf K H x (.ref T.t) := fun z => by
  obtain ⟨h0, t, h1, h2, h3⟩ := h
  exact h3 (ty_uniq h2 z)
theorem OffS.rr {Tb : List (Addr × Str)} {M : List Addr} (r : Rr T Tb M H H') {x : V} (h : OffS K T H x) : OffS K T H' x := by
  obtain ⟨h0, t, h1, h2, h3⟩ := h
  exact ⟨h0, t, h1, r.ty h2, h3⟩
def BadS (K : PySem.W.Frag) (T : Cls3) (H : Hp) (x : V) : Prop := Arg K T H x ∧ isT x = false
theorem BadS.rr {Tb : List (Addr × Str)} {M : List Addr} (r : Rr T Tb M H H') {x : V} (h : BadS K T H x) : BadS K T H' x := ⟨r.arg h.1, h.2⟩
section
variable {CM CT CO : Addr} {x dx : Addr} {v tx : V} {Q : VK} {E : XK}
theorem ed_bad_m (cf : CF K T) (hx : H x = some (.ins T.e dx [])) (av : Arg K T H v) (nt : ¬ TyOf K H v (.ref T.t)) (at' : Arg K T H tx) (q : ∀ H', SameE x H H' → E (.ref CM) none H') : spMakeE K T CM CT CO [.ref x, v, tx] H Q E :=
  ⟨x, dx, v, tx, rfl, hx, av, at', fun z => absurd z nt, fun _ => q, fun m ls e it => absurd (by rw [e]; exact (it.arg cf).2) nt⟩
theorem ed_bad_t (cf : CF K T) {m : Addr} {ls : Str} (hx : H x = some (.ins T.e dx [])) (it : IsTwo T H m ls) (at' : Arg K T H tx) (nt : isT tx = false) (q : ∀ H', SameE x H H' → E (.ref CT) none H') : spMakeE K T CM CT CO [.ref x, .ref m, tx] H Q E :=
  ⟨x, dx, .ref m, tx, rfl, hx, (it.arg cf).1, at', fun _ => ⟨m, ls, rfl, it⟩, fun z => absurd (it.arg cf).2 z, fun m ls e it => ⟨fun _ => q, fun t e h => absurd h (by rw [nt]; simp), fun t e h => absurd h (by rw [nt]; simp)⟩⟩
theorem ed_bad_o (cf : CF K T) {m : Addr} {ls t : Str} (hx : H x = some (.ins T.e dx [])) (it : IsTwo T H m ls) (ht : isT (.str t) = true) (ho : over t ls = false) (q : ∀ H', SameE x H H' → E (.ref CO) none H') : spMakeE K T CM CT CO [.ref x, .ref m, .str t] H Q E :=
  ⟨x, dx, .ref m, .str t, rfl, hx, (it.arg cf).1, arg_str (Nat.le_trans (isT_short ht) (by decide)), fun _ => ⟨m, ls, rfl, it⟩, fun z => absurd (it.arg cf).2 z, fun m' ls' e it' => by
    cases e
    cases it.uniq it'
    exact ⟨fun z => absurd z (by rw [ht]; simp), fun t' e _ _ => q, fun t' e _ h => by cases e; rw [ho] at h; cases h⟩⟩
theorem ed_ok (cf : CF K T) {m : Addr} {ls t : Str} (hx : H x = some (.ins T.e dx [])) (it : IsTwo T H m ls) (ht : isT (.str t) = true) (ho : over t ls = true) (q : ∀ H' (s : EdF), SameE x H H' → H' s.past = some (.tup []) → H' s.undone = some (.tup []) → H' s.before = some (.tup [.ref m, .str t]) → s.m = m → s.t = t → H' x = some (.ins T.e dx (edF s)) → Q .non H') : spMakeE K T CM CT CO [.ref x, .ref m, .str t] H Q E :=
  ⟨x, dx, .ref m, .str t, rfl, hx, (it.arg cf).1, arg_str (Nat.le_trans (isT_short ht) (by decide)), fun _ => ⟨m, ls, rfl, it⟩, fun z => absurd (it.arg cf).2 z, fun m' ls' e it' => by
    cases e
    cases it.uniq it'
    refine ⟨fun z => absurd z (by rw [ht]; simp), fun t' e _ h => ?_, fun t' e _ _ H' s h1 h2 h3 h4 h5 h6 h7 => ?_⟩
    · cases e; rw [ho] at h; cases h
    · cases e
      exact q H' s h1 h2 h3 h4 h5 h6 h7⟩
end
end
end K67
end
section
set_option Elab.async false
set_option linter.all false
set_option maxRecDepth 100000
set_option maxHeartbeats 1000000
namespace K67
open PySem PySem.Spec PyProof.Rows L2 LamX
abbrev NR : List Str := ["_law_bag", "_law_one", "_law_two", "_law_text_here", "_law_made", "_law_counts", "_law_kept", "_law_news_here", "_law_row", "_law_edit", "_law_fine", "_law_found", "_law_off", "_law_bad"]
/-- the end of _law_right: values that are no machines and texts -/
theorem right_D {P : Program} {w : World} {K : PySem.W.Frag} {mg : Str → Option Value} {base : Heap} {T : Cls3} {C : Cls6} {tb : Tab3} {fS fL f c : Addr} (rc : RCtx P w K mg base T C tb fS fL) (TB : TabB base mg c tb.pr) {A : Around} {outer : List Env} {s : Shared} {H0 : Hp} {E : XK}
    (hgd : (A.deeper (envOfC "_law_right" (defScope s_law_right) s.heap.objs.size f (.ref c))).guards = some []) (hr : Room 19 (A.deeper (envOfC "_law_right" (defScope s_law_right) s.heap.objs.size f (.ref c)))) :
    ∃ t, PSs (cxOf CX0 P w K mg base NR "_law_right" (defScope s_law_right) f (.ref c) A outer s H0 E) ((defBody s_law_right).drop 11) t ∧
      ∀ (D : Ends) (lt : Addr → Option Str) (b e k nl one two de dk : Addr) (s sk : EdF) (t0 : Str) (j : Nat) (x3 x5 x8 x9 x10 x11 x12 x13 : Option V) (H : Hp), RF K T tb lt H b e k nl one two de dk s sk t0 j → (∀ H', Rr T tb.T [b] H H' → BagAt H' b → D.rt (.bl true) H') →
        t D [some (.ref b), some (.ref one), some (.ref two), x3, some (.ref e), x5, some (.ref k), some (.ref nl), x8, x9, x10, x11, x12, x13] H := by
  have S := sc_law_right
  have mT : (tb.pr, ("_law_right.<locals>.<lambda>" : Str)) ∈ tb.T := by simp [Tab3.T]
  have B := rc.B
  have cf := rc.cf
  refine ⟨_, (pss_cons (ps_set (i := 12) S.nd rfl (.inr rfl) (pe_c rc.pick hr (by decide) (by rfl) (E := E0) pass0 (pa_cons (pv 0) (pa_cons (pe_lst (pa_cons pe_non (pa_cons pe_int (pa_cons pe_str (pa_cons (pe_tup pa_nil) (pa_cons pe_dnewK (pa_cons (pe_pr rc.marks hr (by decide) (pv 2)) (pa_cons (pv 4) (pa_cons (pe_lst (pa_cons (pv 2) pa_nil)) pa_nil))))))))) pa_nil))))
      (pss_cons (ps_set (i := 13) S.nd rfl (.inr rfl) (pe_c rc.pick hr (by decide) (by rfl) (E := E0) pass0 (pa_cons (pv 0) (pa_cons (pe_lst (pa_cons pe_non (pa_cons pe_int (pa_cons pe_bl (pa_cons (pe_tup (pa_cons pe_str pa_nil)) (pa_cons (pe_lst pa_nil) (pa_cons pe_str (pa_cons pe_str (pa_cons (pe_op op_strRep pe_str pe_int) (pa_cons pe_str (pa_cons pe_str pa_nil))))))))))) pa_nil))))
      (pss_cons (ps_set (i := 11) S.nd rfl (.inl rfl) (pe_lst (pa_cons (pe_word rc.wf hgd (by rfl) TB rfl mT rc.hok.uniq hr (k := 15) (by decide) (by rfl) rfl (fun _ _ _ _ _ => rfl) (fun A outer s H E f c' hr2 => pe_mk rc.ed2 hr2 (by decide) (by rfl) (E := E) passes_lam (pa_cons (pv 12) (pa_cons (pv 13) pa_nil)))) pa_nil)))
      (pss_cons (ps_expr (pe_bm PySem.F.plainAttrs_list PySem.F.slot_list_append PySem.F.type_list_append mt_append (pv 11) (pa_cons (pe_word rc.wf hgd (by rfl) TB rfl mT rc.hok.uniq hr (k := 15) (by decide) (by rfl) rfl (fun _ _ _ _ _ => rfl) (fun A outer s H E f c' hr2 => pe_mk rc.ed1 hr2 (by decide) (by rfl) (E := E) passes_lam (pa_cons (pv 12) pa_nil))) pa_nil)))
      (pss_cons (ps_expr (pe_bm PySem.F.plainAttrs_list PySem.F.slot_list_append PySem.F.type_list_append mt_append (pv 11) (pa_cons (pe_word rc.wf hgd (by rfl) TB rfl mT rc.hok.uniq hr (k := 15) (by decide) (by rfl) rfl (fun _ _ _ _ _ => rfl) (fun A outer s H E f c' hr2 => pe_mk rc.ed2 hr2 (by decide) (by rfl) (E := E) passes_lam (pa_cons (pv 2) (pa_cons (pv 13) pa_nil)))) pa_nil)))
      (pss_cons (ps_expr (pe_bm PySem.F.plainAttrs_list PySem.F.slot_list_append PySem.F.type_list_append mt_append (pv 11) (pa_cons (pe_word rc.wf hgd (by rfl) TB rfl mT rc.hok.uniq hr (k := 15) (by decide) (by rfl) rfl (fun _ _ _ _ _ => rfl) (fun A outer s H E f c' hr2 => pe_mk rc.ed2 hr2 (by decide) (by rfl) (E := E) passes_lam (pa_cons (pv 1) (pa_cons pe_str pa_nil)))) pa_nil)))
      (pss_cons (ps_expr (pe_bm PySem.F.plainAttrs_list PySem.F.slot_list_append PySem.F.type_list_append mt_append (pv 11) (pa_cons (pe_word rc.wf hgd (by rfl) TB rfl mT rc.hok.uniq hr (k := 15) (by decide) (by rfl) rfl (fun _ _ _ _ _ => rfl) (fun A outer s H E f c' hr2 => pe_mk rc.ed2 hr2 (by decide) (by rfl) (E := E) passes_lam (pa_cons (pv 1) (pa_cons (pe_op op_strRep pe_str pe_int) pa_nil)))) pa_nil)))
      (pss_one (ps_ret (pe_and (pe_cmpR (op_eqD (hu_of' hr)) (pv 11) (pe_op op_cat (pe_op op_rep (pe_lst (pa_cons pe_str pa_nil)) pe_int) (pe_lst (pa_cons pe_str (pa_cons pe_str (pa_cons pe_str pa_nil))))) (nomark _)) (pe_one (pe_cmpR (op_eqO rc.eq hr (by decide)) (pv 4) (pv 6) (nomark _))))))))))))), ?_⟩
  intro D lt b e k nl one two de dk s0 sk t0 j x3 x5 x8 x9 x10 x11 x12 x13 H F q
  obtain ⟨pp, hpp⟩ := F.twoAt
  -- what is no machine
  refine ⟨_, rfl, by show 0 ≤ sizeLine; decide, fun p1 h1 => ?_⟩
  have s1 : Same H (upd H p1 (.tup [])) := same_upd h1
  have g1 : upd H p1 (.tup []) p1 = some (.tup []) := upd_same
  generalize upd H p1 (.tup []) = H1 at s1 g1
  intro p3 h3
  have s3 : Same H1 (upd H1 p3 (.dK [])) := same_upd h3
  have g3 : upd H1 p3 (.dK []) p3 = some (.dK []) := upd_same
  generalize upd H1 p3 (.dK []) = H3 at s3 g3
  have s03 := s1.trans s3
  refine ⟨_, rfl, two, pp.dx, _, rfl, s03 _ _ hpp.obj, two, pp.dx, _, .ref pp.m, rfl, s03 _ _ hpp.obj, rfl, _, rfl, _, rfl, by show 1 ≤ sizeLine; decide, fun p5 h5 => ?_⟩
  have s5 : Same H3 (upd H3 p5 (.lst [.ref two])) := same_upd h5
  have g5 : upd H3 p5 (.lst [.ref two]) p5 = some (.lst [.ref two]) := upd_same
  generalize upd H3 p5 (.lst [.ref two]) = H5 at s5 g5
  refine ⟨by show 8 ≤ sizeLine; decide, fun l hl => ?_⟩
  have s05 := s03.trans s5
  refine pick_l (E := E0) (xs := [.non, .int 0, .str "ab", .ref p1, .ref p3, .ref pp.m, .ref e, .ref p5]) (F.bag.same (s05.trans (same_upd hl))) ((F.bag.same s05).ne (.of hl)) upd_same (by show 0 < 8; decide) (by show 8 < 1000; decide) fun H7 off sE hb7 hx => ?_
  have s6 : Same H5 (upd H5 l (.lst [.non, .int 0, .str "ab", .ref p1, .ref p3, .ref pp.m, .ref e, .ref p5])) := same_upd hl
  have sE : SameE b (upd H5 l (.lst [.non, .int 0, .str "ab", .ref p1, .ref p3, .ref pp.m, .ref e, .ref p5])) H7 := sE
  generalize upd H5 l (.lst [.non, .int 0, .str "ab", .ref p1, .ref p3, .ref pp.m, .ref e, .ref p5]) = H6 at s6 sE
  have s06 := s05.trans s6
  have r67 : Rr T tb.T [b] H6 H7 := rr_bag sE (F.bag.same s06) hb7
  have r07 : Rr T tb.T [b] H H7 := ((Rr.bag1 F.bag).sm s06).bag (List.mem_cons_self ..) sE (F.bag.same s06) hb7
  have no : OffS K T H7 off := by
    refine OffS.rr r67 ?_
    simp only [List.mem_cons, List.mem_nil_iff, or_false] at hx
    rcases hx with rfl | rfl | rfl | rfl | rfl | rfl | rfl | rfl
    · exact ⟨True.intro, _, by simp [TYS], .non, fun z => nomatch z⟩
    · exact ⟨True.intro, _, by simp [TYS], .int _, fun z => nomatch z⟩
    · exact ⟨sz60 (by decide +kernel), _, by simp [TYS], .str _, fun z => nomatch z⟩
    · exact ⟨True.intro, _, by simp [TYS], .tup (s6 _ _ (s5 _ _ (s3 _ _ g1))), fun z => nomatch z⟩
    · exact ⟨True.intro, _, by simp [TYS], .dK (s6 _ _ (s5 _ _ g3)), fun z => nomatch z⟩
    · obtain ⟨dxm, sd, g, nn, hm1, _⟩ := hpp.marks
      exact ⟨True.intro, .ref T.m, by simp [TYS], TyOf.ins (s06 _ _ hm1) cf.im.cl cf.im.ha cf.im.hn cf.im.htk cf.im.hm, fun z => by injection z with z; exact cf.kits.tm z.symm⟩
    · exact ⟨True.intro, .ref T.e, by simp [TYS], TyOf.ins (s06 _ _ F.he) cf.ie.cl cf.ie.ha cf.ie.hn cf.ie.htk cf.ie.hm, fun z => by injection z with z; exact cf.kits.te z.symm⟩
    · exact ⟨True.intro, _, by simp [TYS], .lst (s6 _ _ g5), fun z => nomatch z⟩
  have F7 := F.rr cf r07
  clear s1 s3 s03 s5 s05 s6 s06 g1 g3 g5 sE hx h1 h3 h5 hl r67 hpp
  -- what is no text
  refine ⟨_, rfl, by show 1 ≤ sizeLine; decide, fun p1 h1 => ?_⟩
  have s1 : Same H7 (upd H7 p1 (.tup [.str "a"])) := same_upd h1
  have g1 : upd H7 p1 (.tup [.str "a"]) p1 = some (.tup [.str "a"]) := upd_same
  generalize upd H7 p1 (.tup [.str "a"]) = H8 at s1 g1
  refine ⟨by show 0 ≤ sizeLine; decide, fun p2 h2 => ?_⟩
  have s2 : Same H8 (upd H8 p2 (.lst [])) := same_upd h2
  have g2 : upd H8 p2 (.lst []) p2 = some (.lst []) := upd_same
  generalize upd H8 p2 (.lst []) = H9 at s2 g2
  refine ⟨97, 61, rfl, rfl, by decide, by decide, by show 10 ≤ sizeLine; decide, fun l hl => ?_⟩
  have s09 := s1.trans s2
  refine pick_l (E := E0) (xs := [.non, .int 0, .bl true, .ref p1, .ref p2, .str "A", .str "a b", .str (repS 97 61), .str "-", .str "a\n"]) (hb7.same (s09.trans (same_upd hl))) ((hb7.same s09).ne (.of hl)) upd_same (by show 0 < 10; decide) (by show 10 < 1000; decide) fun H11 bad sE hb11 hx => ?_
  have s6 : Same H9 (upd H9 l (.lst [.non, .int 0, .bl true, .ref p1, .ref p2, .str "A", .str "a b", .str (repS 97 61), .str "-", .str "a\n"])) := same_upd hl
  have sE : SameE b (upd H9 l (.lst [.non, .int 0, .bl true, .ref p1, .ref p2, .str "A", .str "a b", .str (repS 97 61), .str "-", .str "a\n"])) H11 := sE
  generalize upd H9 l (.lst [.non, .int 0, .bl true, .ref p1, .ref p2, .str "A", .str "a b", .str (repS 97 61), .str "-", .str "a\n"]) = H10 at s6 sE
  have s06 := s09.trans s6
  have r67 : Rr T tb.T [b] H10 H11 := rr_bag sE (hb7.same s06) hb11
  have r711 : Rr T tb.T [b] H7 H11 := ((Rr.bag1 hb7).sm s06).bag (List.mem_cons_self ..) sE (hb7.same s06) hb11
  have nb : BadS K T H11 bad := by
    refine BadS.rr r67 ?_
    simp only [List.mem_cons, List.mem_nil_iff, or_false] at hx
    rcases hx with rfl | rfl | rfl | rfl | rfl | rfl | rfl | rfl | rfl | rfl
    · exact ⟨(argL_const (lt := fun _ => none) rfl).1, rfl⟩
    · exact ⟨(argL_const (lt := fun _ => none) rfl).1, rfl⟩
    · exact ⟨(argL_const (lt := fun _ => none) rfl).1, rfl⟩
    · exact ⟨⟨⟨_, by simp [TYS], .tup (s6 _ _ (s2 _ _ g1))⟩, True.intro⟩, rfl⟩
    · exact ⟨⟨⟨_, by simp [TYS], .lst (s6 _ _ g2)⟩, True.intro⟩, rfl⟩
    · exact ⟨arg_str (by decide +kernel), by decide +kernel⟩
    · exact ⟨arg_str (by decide +kernel), by decide +kernel⟩
    · exact ⟨arg_str (by decide +kernel), by decide +kernel⟩
    · exact ⟨arg_str (by decide +kernel), by decide +kernel⟩
    · exact ⟨arg_str (by decide +kernel), by decide +kernel⟩
  have F11 := F7.rr cf r711
  have no11 := no.rr r711
  have r011 : Rr T tb.T [b] H H11 := r07.trans r711 fun a ha => .inl ha
  clear s1 s2 s09 s6 s06 g1 g2 sE hx h1 h2 hl r67 r711 hb7 no
  have rA := Rr.bag1 (T := T) (Tb := tb.T) hb11
  have t11 := F11.tabs
  -- five words
  refine st_word1 (z := "machine") t11 rA (fun H1 r1 Q1 q1 => ?_) fun H12 p r12 fp hp => ?_
  · refine ⟨_, rfl, _, rfl, fun x dx hx hdx hne => ?_⟩
    have sm := made_same (C := T.e) (fs := []) hx hdx
    exact ed_bad_m cf upd_same ((r1.sm sm).arg no11.arg) (fun z => (no11.rr (r1.sm sm)).no z) ((r1.sm sm).arg nb.1) fun H2 s2 => wd_m (q1 H2 (r1.sm (same_made hx hdx s2)))
  refine st_word (z := "machine") t11 r12 rfl hp (by show 1 < 60; decide) fp (fun H1 r1 hp1 Q1 q1 => ?_) fun H13 r13 hp13 => ?_
  · refine ⟨_, rfl, fun x dx hx hdx hne => ?_⟩
    have sm := made_same (C := T.e) (fs := []) hx hdx
    exact ed_bad_m cf upd_same ((r1.sm sm).arg no11.arg) (fun z => (no11.rr (r1.sm sm)).no z) (arg_str (by decide +kernel)) fun H2 s2 => wd_m (q1 H2 (r1.sm (same_made hx hdx s2)) (same_made hx hdx s2 _ _ hp1))
  refine st_word (z := "text") t11 r13 rfl hp13 (by show 2 < 60; decide) fp (fun H1 r1 hp1 Q1 q1 => ?_) fun H14 r14 hp14 => ?_
  · refine ⟨_, rfl, _, rfl, fun x dx hx hdx hne => ?_⟩
    have sm := made_same (C := T.e) (fs := []) hx hdx
    exact ed_bad_t cf upd_same ((r1.sm sm).isTwo cf F11.twoAt) ((r1.sm sm).arg nb.1) nb.2 fun H2 s2 => wd_t (q1 H2 (r1.sm (same_made hx hdx s2)) (same_made hx hdx s2 _ _ hp1))
  refine st_word (z := "operation") t11 r14 rfl hp14 (by show 3 < 60; decide) fp (fun H1 r1 hp1 Q1 q1 => ?_) fun H15 r15 hp15 => ?_
  · refine ⟨_, rfl, fun x dx hx hdx hne => ?_⟩
    have sm := made_same (C := T.e) (fs := []) hx hdx
    exact ed_bad_o cf upd_same ((r1.sm sm).isTwo cf F11.oneAt) (by decide +kernel) (by decide +kernel) fun H2 s2 => wd_o (q1 H2 (r1.sm (same_made hx hdx s2)) (same_made hx hdx s2 _ _ hp1))
  refine st_word (z := "text") t11 r15 rfl hp15 (by show 4 < 60; decide) fp (fun H1 r1 hp1 Q1 q1 => ?_) fun H16 r16 hp16 => ?_
  · refine ⟨_, rfl, 99, 61, rfl, rfl, by decide, by decide, fun x dx hx hdx hne => ?_⟩
    have sm := made_same (C := T.e) (fs := []) hx hdx
    exact ed_bad_t cf upd_same ((r1.sm sm).isTwo cf F11.oneAt) (arg_str (by decide +kernel)) (by decide +kernel) fun H2 s2 => wd_t (q1 H2 (r1.sm (same_made hx hdx s2)) (same_made hx hdx s2 _ _ hp1))
  -- what is returned
  have wsok : ∀ x ∈ [("machine" : Str), "machine", "text", "operation", "text"], PyData.strOk x = true := fun x hx => by
    simp only [List.mem_cons, List.mem_nil_iff, or_false] at hx
    rcases hx with rfl | rfl | rfl | rfl | rfl <;> decide +kernel
  refine ⟨_, rfl, by show 1 ≤ sizeLine; decide, fun p1 h1 => ?_⟩
  have s1 : Same H16 (upd H16 p1 (.lst [.str "machine"])) := same_upd h1
  have g1 : upd H16 p1 (.lst [.str "machine"]) p1 = some (.lst [.str "machine"]) := upd_same
  generalize upd H16 p1 (.lst [.str "machine"]) = H17 at s1 g1
  refine ⟨p1, 2, _, rfl, rfl, g1, by decide, by decide, by show 1 * 2 ≤ sizeLine; decide, fun p2 h2 => ?_⟩
  have s2 : Same H17 (upd H17 p2 (.lst [.str "machine", .str "machine"])) := same_upd h2
  have g2 : upd H17 p2 (.lst [.str "machine", .str "machine"]) p2 = some (.lst [.str "machine", .str "machine"]) := upd_same
  refine ⟨by show 3 ≤ sizeLine; decide, fun p3 h3 => ?_⟩
  have s3 : Same (upd H17 p2 (.lst [.str "machine", .str "machine"])) (upd (upd H17 p2 (.lst [.str "machine", .str "machine"])) p3 (.lst [.str "text", .str "operation", .str "text"])) := same_upd h3
  refine ⟨p2, p3, [.str "machine", .str "machine"], [.str "text", .str "operation", .str "text"], rfl, rfl, s3 _ _ g2, upd_same, by show 5 ≤ sizeLine; decide, fun p4 h4 => ?_⟩
  have s4 := same_upd h4 (o := .lst ([.str "machine", .str "machine"] ++ [.str "text", .str "operation", .str "text"]))
  have sZ : Same H16 _ := ((s1.trans s2).trans s3).trans s4
  refine ⟨.list ([("machine" : Str), "machine", "text", "operation", "text"].map PyData.str), .list ([("machine" : Str), "machine", "text", "operation", "text"].map PyData.str), dp_L _ (sZ _ _ hp16) rfl, dp_L _ upd_same rfl, shaped_L _ wsok, shaped_L _ wsok, ?_⟩
  have eq1 : PyData.eqv (.list ([("machine" : Str), "machine", "text", "operation", "text"].map PyData.str)) (.list ([("machine" : Str), "machine", "text", "operation", "text"].map PyData.str)) = true := eqv_L _ wsok
  rw [eq1]
  have rZ := r16.sm sZ
  have FZ := F11.rr cf rZ
  refine ⟨true, rfl, iteT' rfl ?_⟩
  refine ⟨_, rfl, _, rfl, e, k, de, dk, _, _, rfl, rfl, FZ.he, FZ.hk, e, k, de, dk, s0, sk, "ab", "ab", rfl, FZ.he, FZ.hk, FZ.si.isTwo, by rw [FZ.km]; exact FZ.si.isTwo, _, rfl, ?_⟩
  have e2 : (decide (("ab" : Str) = "ab") && decide (s0.t = sk.t)) = true := by rw [FZ.kt]; simp
  rw [e2]
  exact q _ (r011.trans rZ fun a ha => .inl ha) FZ.bag
end K67
end
section
set_option Elab.async false
set_option linter.all false
set_option maxRecDepth 100000
set_option maxHeartbeats 1000000
namespace K67
open PySem PySem.Spec PyProof.Rows L2 LamX
section
variable {K : PySem.W.Frag} {T : Cls3} {Tb : List (Addr × Str)} {C : Cls6} {M : List Addr} {H H0 : Hp}
/-- st_word, with what the call has left behind: J -/
theorem st_wordJ (J : Hp → Prop) {rest : TS} {D : Ends} {σ : L2.St} {t : XK → TE} {j : Nat} {p : Addr} {xs : List V} {z : Str} (t0 : Tabs Tb H0) (r : Rr T Tb M H0 H) (hσ : σ[j]? = some (some (.ref p))) (hp : H p = some (.lst xs)) (hl : xs.length < 60) (h0 : Fr H0 p)
    (ht : ∀ H1, Rr T Tb M H0 H1 → ExtN H H1 → H1 p = some (.lst xs) → ∀ Q : VK, (∀ H2, Rr T Tb M H0 H2 → H2 p = some (.lst xs) → J H2 → Q (.str z) H2) → t (WdE K C Q) σ H1 fun _ H' => Q (.str "returned") H')
    (q : ∀ Hm H2, J Hm → SameE p Hm H2 → Hm p = some (.lst xs) → Rr T Tb M H0 H2 → H2 p = some (.lst (xs ++ [.str z])) → rest D σ H2) : tSeq (tDrop (tBM K "list" rAppend (tVar j) (tCons (tLam Tb (TTword K C) t) tNil))) rest D σ H := by
  refine ⟨_, hσ, .inl ⟨rfl, _, SqL.of hp⟩, ?_⟩
  refine ⟨r.tb t0, fun H1 e1 t1 => ?_⟩
  have p1 : H1 p = some (.lst xs) := e1 _ _ hp (fun _ z => nomatch z)
  have r1 : Rr T Tb M H0 H1 := r.lam e1 t1
  refine ht H1 r1 e1 p1 (fun v H2 => _) fun H2 r2 p2 j2 => ?_
  refine ⟨p, xs, .str z, rfl, rfl, p2, Nat.lt_of_lt_of_le hl (by decide), ?_⟩
  exact q H2 _ j2 (SameE.put .refl) p2 (r2.new h0 p2 (SameE.put .refl)) upd_same
theorem st_word1J (J : Hp → Prop) {rest : TS} {D : Ends} {σ : L2.St} {t : XK → TE} {j : Nat} {z : Str} (t0 : Tabs Tb H0) (r : Rr T Tb M H0 H)
    (ht : ∀ H1, Rr T Tb M H0 H1 → ExtN H H1 → ∀ Q : VK, (∀ H2, Rr T Tb M H0 H2 → J H2 → Q (.str z) H2) → t (WdE K C Q) σ H1 fun _ H' => Q (.str "returned") H')
    (q : ∀ Hm H2 p, J Hm → Same Hm H2 → Hm p = none → Rr T Tb M H0 H2 → Fr H0 p → H2 p = some (.lst [.str z]) → rest D (σ.set j (some (.ref p))) H2) : tSeq (tAsg (tLst (tCons (tLam Tb (TTword K C) t) tNil)) (gName j)) rest D σ H := by
  have key : tLst (tCons (tLam Tb (TTword K C) t) tNil) σ H (fun x H1 => rest D (σ.set j (some x)) H1) := by
    refine ⟨r.tb t0, fun H1 e1 t1 => ?_⟩
    refine ht H1 (r.lam e1 t1) e1 (fun v H2 => _) fun H2 r2 j2 => ⟨by show 1 ≤ sizeLine; decide, fun p hp => ?_⟩
    exact q H2 _ p j2 (same_upd hp) hp (r2.sm (same_upd hp)) (r2.old hp) upd_same
  exact key
end
/-- attempts, numbers -/
theorem right_C {P : Program} {w : World} {K : PySem.W.Frag} {mg : Str → Option Value} {base : Heap} {T : Cls3} {C : Cls6} {tb : Tab3} {fS fL f c : Addr} (rc : RCtx P w K mg base T C tb fS fL) (TB : TabB base mg c tb.pr) {A : Around} {outer : List Env} {s : Shared} {H0 : Hp} {E : XK}
    (hgd : (A.deeper (envOfC "_law_right" (defScope s_law_right) s.heap.objs.size f (.ref c))).guards = some []) (hr : Room 19 (A.deeper (envOfC "_law_right" (defScope s_law_right) s.heap.objs.size f (.ref c)))) :
    ∃ t, PSs (cxOf CX0 P w K mg base NR "_law_right" (defScope s_law_right) f (.ref c) A outer s H0 E) ((defBody s_law_right).drop 7) t ∧
      ∀ (D : Ends) (lt : Addr → Option Str) (b e k nl one two de dk : Addr) (s sk : EdF) (t0 : Str) (j : Nat) (x3 x5 x8 x9 x10 x11 x12 x13 : Option V) (H : Hp), RF K T tb lt H b e k nl one two de dk s sk t0 j → (∀ H', Rr T tb.T [b, e] H H' → BagAt H' b → D.rt (.bl true) H') →
        t D [some (.ref b), some (.ref one), some (.ref two), x3, some (.ref e), x5, some (.ref k), some (.ref nl), x8, x9, x10, x11, x12, x13] H := by
  have S := sc_law_right
  have mT : (tb.pr, ("_law_right.<locals>.<lambda>" : Str)) ∈ tb.T := by simp [Tab3.T]
  have B := rc.B
  have cf := rc.cf
  obtain ⟨tD, pD, qD⟩ := right_D rc TB (A := A) (outer := outer) (s := s) (H0 := H0) (E := E) hgd hr
  refine ⟨_, (pss_cons (ps_set (i := 11) S.nd rfl (.inl rfl) (pe_lst (pa_cons (pe_word rc.wf hgd (by rfl) TB rfl mT rc.hok.uniq hr (k := 17) (by decide) (by rfl) rfl (fun _ _ _ _ _ => rfl) (fun A outer s H E f c' hr2 => pe_m (pv 4) rc.attS hr2 (by decide) (E := E) passes_lam (pa_cons (C8.pe_gc (by rfl) rc.gS) pa_nil))) pa_nil)))
      (pss_cons (ps_expr (pe_bm PySem.F.plainAttrs_list PySem.F.slot_list_append PySem.F.type_list_append mt_append (pv 11) (pa_cons (pe_word rc.wf hgd (by rfl) TB rfl mT rc.hok.uniq hr (k := 17) (by decide) (by rfl) rfl (fun _ _ _ _ _ => rfl) (fun A outer s H E f c' hr2 => pe_m (pv 4) rc.attL hr2 (by decide) (E := E) passes_lam (pa_cons (C8.pe_gc (by rfl) rc.gL) pa_nil))) pa_nil)))
      (pss_cons (ps_if (PW.pt (pw_or (pt_cmpR (op_neD (hu_of' hr)) (pv 11) (pe_lst (pa_cons pe_str (pa_cons pe_str pa_nil))) (nomark _)) (pw_or1 (pt_not (pt_val (pe_c rc.stays hr (by decide) (by rfl) (E := E0) pass0 (pa_cons (pv 4) (pa_cons (pv 6) (pa_cons (pv 7) pa_nil))))))))) (pss_one (ps_ret pe_bl)) pss_nil)
      (pss_cons (ps_if (pt_not (pt_val (pe_cG rc.num hgd hr (by decide) (by rfl) (E := E0) pass0 (pa_cons (pv 0) (pa_cons (pv 4) (pa_cons (pv 7) (pa_cons (pv 2) pa_nil))))))) (pss_one (ps_ret pe_bl)) pss_nil)
      pD)))), ?_⟩
  intro D lt b e k nl one two de dk s0 sk t0 j x3 x5 x8 x9 x10 x11 x12 x13 H F q
  let EdS : Hp → Prop := fun H' => ∃ mk wd r, H' e = some (.ins T.e de (edF ⟨s0.past, s0.undone, s0.before, s0.m, s0.t, mk, wd, r⟩))
  have t0' := F.tabs
  obtain ⟨pr, vr, st, p1, p2, p3⟩ := F.si.past
  refine st_word1J EdS (z := "edit") t0' F.two2 (fun H1 r1 e1 Q1 q1 => ?_) fun Hm H2 p ⟨mk, wd, rs, hem⟩ sm hpm r2 fp hp => ?_
  · have he1 : H1 e = some (.ins T.e de (edF s0)) := e1 _ _ F.he (fun _ z => nomatch z)
    refine ⟨_, rfl, e, de, _, rfl, he1, rfl, ?_⟩
    refine ⟨e, de, s0, "ab", rfl, he1, r1.isTwo cf F.si.isTwo, F.si.fit, fun H2 s2 => ?_⟩
    refine ⟨e, de, s0, [.ref pr], lt, rfl, s2 _ _ he1, seqT s2 (r1.sqT p1), by show 1 ≤ 800; decide, (r1.sm s2).lt cf F.si.ltH, by rw [F.si.m]; exact F.si.ltw, F.si.fit, by have := F.len; omega, fun H3 s' sE he3 => ?_⟩
    refine ⟨⟨_, rfl⟩, sE, ⟨s', he3⟩, fun H4 mk wd rs sE4 he4 => wd_e (q1 H4 ((r1.sm s2).ed (by simp) (sE.trans sE4) (s2 _ _ he1) he4) ⟨mk, wd, rs, he4⟩)⟩
  have he2 := sm _ _ hem
  have F2 := F.up cf r2 he2
  have hz : (("number " : Str) ++ (PyData.int (-1)).shown) = "number -1" := by decide +kernel
  refine st_wordJ EdS (z := "number " ++ (PyData.int (-1)).shown) t0' r2 rfl hp (by show 1 < 60; decide) fp (fun H1 r1 e1 hp1 Q1 q1 => ?_) fun Hm3 H3 ⟨mk3, wd3, rs3, hem3⟩ sE3 hpm3 r3 hp3 => ?_
  · have he1 := e1 _ _ he2 (fun _ z => nomatch z)
    obtain ⟨su, xs, os, r, u1, u2, u3, u4⟩ := F.si.undone
    refine ⟨_, rfl, e, de, _, rfl, he1, rfl, ?_⟩
    refine ⟨e, de, _, "ab", rfl, he1, r1.isTwo cf F.si.isTwo, F.si.fit, fun H2 s2 => ?_⟩
    have rr := r1.sm s2
    have hep : p ≠ e := fun z => by rw [z, he1] at hp1; cases hp1
    refine ⟨e, de, _, pr, vr, two, t0, .ref st, [.ref su], lt, rfl, s2 _ _ he1, rr.sqT p1, rr.tup p2, rr.tup p3, rr.sqT u1, by show 1 ≤ 800; decide, rr.lt cf F.si.ltH, ⟨"ab", F.si.ltw, F.si.fit0⟩, fun H3 s' d sE he3 hd => ?_⟩
    refine ⟨⟨_, rfl⟩, sE, ⟨s', he3⟩, fun H4 mk wd rs sE4 he4 => ?_⟩
    have hd4 : H4 d = some (.xd [("value", .int (-1))]) := sE4 _ _ (fun z => by rw [z, he3] at hd; cases hd) hd
    exact wd_n hd4 (.int (-1)) (pyOk_of (by decide +kernel)) (q1 H4 (rr.ed (by simp) (sE.trans sE4) (s2 _ _ he1) he4) ((sE.trans sE4) _ _ hep (s2 _ _ hp1)) ⟨mk, wd, rs, he4⟩)
  rw [hz] at hp3
  have hpe : e ≠ p := fun z => by rw [← z, hem3] at hpm3; cases hpm3
  have he3 := sE3 _ _ hpe hem3
  have F3 := F.up cf r3 he3
  have r3' := r3
  clear F2 he2 hem hem3 sE3 hpm3 r2 hp sm hpm p1 p2 p3
  have wsok : ∀ x ∈ [("edit" : Str), "number -1"], PyData.strOk x = true := fun x hx => by
    simp only [List.mem_cons, List.mem_nil_iff, or_false] at hx
    rcases hx with rfl | rfl <;> decide +kernel
  refine ⟨_, rfl, by show 2 ≤ sizeLine; decide, fun p1 h1 => ?_⟩
  have s1 : Same H3 (upd H3 p1 (.lst [.str "edit", .str "number -1"])) := same_upd h1
  have g1 : upd H3 p1 (.lst [.str "edit", .str "number -1"]) p1 = some (.lst [.str "edit", .str "number -1"]) := upd_same
  generalize upd H3 p1 (.lst [.str "edit", .str "number -1"]) = H4 at s1 g1
  refine ⟨.list ([("edit" : Str), "number -1"].map PyData.str), .list ([("edit" : Str), "number -1"].map PyData.str), dp_L _ (s1 _ _ hp3) rfl, dp_L _ g1 rfl, shaped_L _ wsok, shaped_L _ wsok, ?_⟩
  have eq1 : PyData.eqv (.list ([("edit" : Str), "number -1"].map PyData.str)) (.list ([("edit" : Str), "number -1"].map PyData.str)) = true := eqv_L _ wsok
  rw [eq1]
  refine ⟨_, rfl, iteF' rfl ?_⟩
  have F4 := F3.rr cf ((Rr.bag1 F3.bag).sm s1)
  have r4 := r3.sm s1
  refine ⟨_, rfl, _, rfl, _, rfl, e, k, nl, de, dk, _, sk, two, t0, j, lt, rfl, F4.he, F4.hk, F4.kp, F4.km, F4.kt, F4.si, F4.nw, fun H5 s5 => ?_⟩
  refine ⟨_, rfl, iteF' rfl ?_⟩
  have F5 := F4.rr cf ((Rr.bag1 F4.bag).sm s5)
  have r5 := r4.sm s5
  refine ⟨_, rfl, _, rfl, _, rfl, _, rfl, b, e, nl, two, de, _, t0, j, lt, rfl, F5.bag, F5.he, F5.si, F5.nw, F5.nlb, F5.tabs, fun H6 r6 hb6 => ?_⟩
  refine ⟨_, rfl, iteF' rfl ?_⟩
  refine qD D lt b e k nl one two de dk _ sk t0 j x3 x5 x8 x9 x10 _ x12 x13 H6 (F5.rr cf r6) fun H7 r7 hb7 => q H7 ?_ hb7
  exact (r5.trans r6 fun a ha => .inl (by simp at ha; simp [ha])).trans r7 fun a ha => .inl (by simp at ha; simp [ha])
end K67
end
section
set_option Elab.async false
set_option linter.all false
set_option maxRecDepth 100000
set_option maxHeartbeats 1000000
namespace K67
open PySem PySem.Spec PyProof.Rows L2 LamX
section
variable {K : PySem.W.Frag} {T : Cls3} {lt : Addr → Option Str} {H : Hp} {two a : Addr} {xs : List V}
theorem edt_fine (cf : CF K T) (hlt : LT T lt H) (htw : lt two = some ("ab" : Str)) (h : H a = some (.tup xs)) (hx : xs ∈ fineL two) : Edt K T lt H (.ref a) (some xs) := by
  simp only [fineL, List.mem_cons, List.mem_nil_iff, or_false] at hx
  rcases hx with rfl | rfl | rfl
  · exact edt_consts h (by decide +kernel)
  · exact edt_tup h (by simp) fun x hx => by
      simp only [List.mem_cons, List.mem_nil_iff, or_false] at hx
      rcases hx with rfl | rfl
      · exact argL_const (by decide)
      · exact argL_two cf hlt htw
  · exact edt_consts h (by decide +kernel)
theorem edt_use (cf : CF K T) (hlt : LT T lt H) {p : Addr} {ls : Str} (hp : lt p = some ls) (h : H a = some (.tup [.str "use", .ref p])) : Edt K T lt H (.ref a) (some [.str "use", .ref p]) :=
  edt_tup h (by simp) fun x hx => by
    simp only [List.mem_cons, List.mem_nil_iff, or_false] at hx
    rcases hx with rfl | rfl
    · exact argL_const (by decide)
    · exact argL_two cf hlt hp
theorem edt_non : Edt K T lt H .non none := ⟨(argL_const (lt := lt) rfl).1, fun _ _ z => nomatch z⟩
theorem runO_non {v : Addr × Str} {o1 : Option (List V)} {os : List (Option (List V))} : runO lt v (o1 :: none :: os) = none := by
  cases h : stepO lt v o1 with
  | none => exact runO_bad h
  | some r =>
    rw [runO_cons h]
    refine runO_bad ?_
    unfold stepO
    cases lt r.1 <;> rfl
end
/-- the wrong edits -/
theorem right_B {P : Program} {w : World} {K : PySem.W.Frag} {mg : Str → Option Value} {base : Heap} {T : Cls3} {C : Cls6} {tb : Tab3} {fS fL f c : Addr} (rc : RCtx P w K mg base T C tb fS fL) (TB : TabB base mg c tb.pr) {A : Around} {outer : List Env} {s : Shared} {H0 : Hp} {E : XK}
    (hgd : (A.deeper (envOfC "_law_right" (defScope s_law_right) s.heap.objs.size f (.ref c))).guards = some []) (hr : Room 19 (A.deeper (envOfC "_law_right" (defScope s_law_right) s.heap.objs.size f (.ref c)))) :
    ∃ t, PSs (cxOf CX0 P w K mg base NR "_law_right" (defScope s_law_right) f (.ref c) A outer s H0 E) ((defBody s_law_right).drop 6) t ∧
      ∀ (D : Ends) (lt : Addr → Option Str) (b e k nl one two de dk : Addr) (s sk : EdF) (t0 : Str) (j : Nat) (x5 x8 x9 x10 x11 x12 x13 : Option V) (H : Hp), RF K T tb lt H b e k nl one two de dk s sk t0 j → (∀ H', Rr T tb.T [b, e] H H' → BagAt H' b → D.rt (.bl true) H') →
        t D [some (.ref b), some (.ref one), some (.ref two), some (.str s.t), some (.ref e), x5, some (.ref k), some (.ref nl), x8, x9, x10, x11, x12, x13] H := by
  have S := sc_law_right
  have mT : (tb.pr, ("_law_right.<locals>.<lambda>" : Str)) ∈ tb.T := by simp [Tab3.T]
  have B := rc.B
  have cf := rc.cf
  obtain ⟨tD, pD, qD⟩ := right_C rc TB (A := A) (outer := outer) (s := s) (H0 := H0) (E := E) hgd hr
  refine ⟨_, (pss_cons (ps_for (passes_of rfl) rfl (pi_list (pe_slice sl_list (pe_c rc.shuf hr (by decide) (by rfl) (E := E0) pass0 (pa_cons (pv 0) (pa_cons (pe_c rc.wrong hr (by decide) (by rfl) (E := E0) pass0 (pa_cons (pe_callB call_len (by rfl) B.len (by decide +kernel) (pa_cons (pv 3) pa_nil)) (pa_cons (pv 1) (pa_cons (pv 2) pa_nil)))) pa_nil))) po_none (po_some pe_int))) (pg_name (i := 9) S.nd rfl (Or.inr rfl)) (pss_cons (ps_set (i := 10) S.nd rfl (.inr rfl) (pe_c rc.fine hr (by decide) (by rfl) (E := E0) pass0 (pa_cons (pv 0) (pa_cons (pv 2) pa_nil))))
      (pss_cons (ps_set (i := 11) S.nd rfl (.inl rfl) (pe_lst (pa_cons (pe_word rc.wf hgd (by rfl) TB rfl mT rc.hok.uniq hr (k := 15) (by decide) (by rfl) rfl (fun _ _ _ _ _ => rfl) (fun A outer s H E f c' hr2 => pe_mR (pv 4) rc.make hr2 (by decide) (E := E) passes_lam (pa_cons (pv 9) pa_nil))) pa_nil)))
      (pss_cons (ps_expr (pe_bm PySem.F.plainAttrs_list PySem.F.slot_list_append PySem.F.type_list_append mt_append (pv 11) (pa_cons (pe_word rc.wf hgd (by rfl) TB rfl mT rc.hok.uniq hr (k := 15) (by decide) (by rfl) rfl (fun _ _ _ _ _ => rfl) (fun A outer s H E f c' hr2 => pe_m (pv 4) rc.step hr2 (by decide) (E := E) passes_lam (pa_cons (pe_tup (pa_cons (pv 9) (pa_cons pe_non pa_nil))) pa_nil))) pa_nil)))
      (pss_cons (ps_expr (pe_bm PySem.F.plainAttrs_list PySem.F.slot_list_append PySem.F.type_list_append mt_append (pv 11) (pa_cons (pe_word rc.wf hgd (by rfl) TB rfl mT rc.hok.uniq hr (k := 15) (by decide) (by rfl) rfl (fun _ _ _ _ _ => rfl) (fun A outer s H E f c' hr2 => pe_mR (pv 4) rc.make hr2 (by decide) (E := E) passes_lam (pa_cons (pe_tup (pa_cons pe_str (pa_cons (pv 2) pa_nil))) (pa_cons (pv 9) (pa_cons (pv 10) pa_nil))))) pa_nil)))
      (pss_cons (ps_expr (pe_bm PySem.F.plainAttrs_list PySem.F.slot_list_append PySem.F.type_list_append mt_append (pv 11) (pa_cons (pe_word rc.wf hgd (by rfl) TB rfl mT rc.hok.uniq hr (k := 15) (by decide) (by rfl) rfl (fun _ _ _ _ _ => rfl) (fun A outer s H E f c' hr2 => pe_mR (pv 4) rc.make hr2 (by decide) (E := E) passes_lam (pa_cons (pv 10) (pa_cons pe_non (pa_cons (pv 9) pa_nil))))) pa_nil)))
      (pss_one (ps_if (PW.pt (pw_or (pt_cmpR (op_neD (hu_of' hr)) (pv 11) (pe_op op_rep (pe_lst (pa_cons pe_str pa_nil)) pe_int) (nomark _)) (pw_or1 (pt_not (pt_val (pe_c rc.stays hr (by decide) (by rfl) (E := E0) pass0 (pa_cons (pv 4) (pa_cons (pv 6) (pa_cons (pv 7) pa_nil))))))))) (pss_one (ps_ret pe_bl)) pss_nil)))))))) pD), ?_⟩
  intro D lt b e k nl one two de dk s0 sk t0 j x5 x8 x9 x10 x11 x12 x13 H F q
  have t0' := F.tabs
  have hm := F.si.m
  have ltw := F.si.ltw
  have l57 := F.len
  -- the list of edits
  refine ⟨_, rfl, _, rfl, _, s0.t.length, rfl, ⟨sz60 (by omega), rfl⟩, _, rfl, _, rfl, ?_⟩
  refine ⟨one, two, s0.t, lt, rfl, F.si.ltH, F.l1, ltw, by omega, F.na, F.mkk, fun H1 l1 xs1 sm1 hl1n hl1 len1 wr1 len14 => ?_⟩
  refine ⟨b, l1, xs1, rfl, F.bag.same sm1, F.bag.ne (.of hl1n), hl1, by omega, fun H2 l2 ys sE2 hb2 hl2n hl2 leny my => ?_⟩
  have r02 : Rr T tb.T [b] H H2 := ((Rr.bag1 F.bag).sm sm1).bag (List.mem_cons_self ..) sE2 (F.bag.same sm1) hb2
  have r12 : Rr T tb.T [b] H1 H2 := rr_bag sE2 (F.bag.same sm1) hb2
  have wr2 : ∀ y ∈ ys.take 14, Wr K T lt two s0.t H2 y := fun y hy => r12.wr (wr1 y (my y (List.mem_of_mem_take hy)))
  refine ⟨_, rfl, l2, ys, rfl, SqL.of hl2, fun l hl => ?_⟩
  have ec : cutV ys none (some 14) = ys.take 14 := cutV_take ys 14
  rw [ec]
  have s3 : Same H2 (upd H2 l (.lst (ys.take 14))) := same_upd hl
  have hl3 : upd H2 l (.lst (ys.take 14)) l = some (.lst (ys.take 14)) := upd_same
  have nlb : l ≠ b := hb2.ne (.of hl)
  generalize upd H2 l (.lst (ys.take 14)) = H3 at s3 hl3
  generalize ys.take 14 = zs at hl3 wr2
  have r03 := r02.sm s3
  have r23 : Rr T tb.T [b] H2 H3 := (Rr.bag1 hb2).sm s3
  have F3 := F.rr cf r03
  have wr3 : ∀ y ∈ zs, Wr K T lt two s0.t H3 y := fun y hy => r23.wr (wr2 y hy)
  clear wr1 wr2 r12 r02 r23 s3 sE2 hl1 hl2 my leny len14 len1 hl1n hl2n hl ec sm1 hb2
  refine ⟨l, rfl, ⟨_, SqL.of hl3⟩, ?_⟩
  refine for_it (walk_list (xs := zs)) (fun i σ H' => Rr T tb.T [b] H3 H' ∧ ∃ z9 z10 z11, σ = [some (.ref b), some (.ref one), some (.ref two), some (.str s0.t), some (.ref e), x5, some (.ref k), some (.ref nl), x8, z9, z10, z11, x12, x13]) ⟨Rr.bag1 F3.bag, _, _, _, rfl⟩ (fun i σ H' _ h => SqL.of (h.1.ex _ _ (by simpa using nlb) hl3 (fun _ z => nomatch z))) ?_ ?_
  · rintro i x σ H4 H5 hi ⟨r34, z9, z10, z11, rfl⟩ ⟨rfl, hx⟩
    have F4 := F3.rr cf r34
    have wr4 : Wr K T lt two s0.t H5 x := r34.wr (wr3 x (List.mem_of_getElem? hx))
    refine ⟨_, rfl, _, rfl, b, two, rfl, F4.bag, fun H6 a fx sE6 hb6 nab _ ha hfx => ?_⟩
    have r6 : Rr T tb.T [b] H5 H6 := rr_bag sE6 F4.bag hb6
    have F6 := F4.rr cf r6
    have wr6 := r6.wr wr4
    have r36 := r34.trans r6 fun a ha => .inl ha
    obtain ⟨pr, vr, st, p1, p2, p3⟩ := F6.si.past
    have fitA : FitV lt (s0.m, s0.t) := ⟨"ab", by rw [hm]; exact ltw, F6.si.fit⟩
    have ltm : lt s0.m = some ("ab" : Str) := by rw [hm]; exact ltw
    have bad : ∀ {o : Option (List V)} {os : List (Option (List V))}, edO lt "ab" s0.t (.ref two) o = none → runO lt (s0.m, s0.t) (o :: os) = none := fun {o os} h => runO_bad (stepO_bad ltm (by rw [hm]; exact h))
    have use : ∀ {os : List (Option (List V))}, runO lt (s0.m, s0.t) (some [.str "use", .ref two] :: os) = runO lt (s0.m, s0.t) os := fun {os} => by
      rw [runO_cons (stepO_ok ltm (edO_use ltw F6.si.fit.2)), hm]
    have t6 := F6.tabs
    clear F4 wr4 r6 sE6 r34
    refine st_word1 (T := T) (z := "edit") t6 (Rr.bag1 F6.bag) (fun H1 r1 Q1 q1 => ?_) fun H7 p r7 fp hp => ?_
    · have he1 : H1 e = some (.ins T.e de (edF s0)) := r1.ex _ _ (by simpa using F6.eb) F6.he (fun _ z => nomatch z)
      refine ⟨_, rfl, e, de, _, rfl, he1, rfl, _, rfl, ?_⟩
      show spMk K T C.e [.ref e, x] H1 (fun _ H' => Q1 (.str "returned") H') (WdE K C Q1)
      obtain ⟨o, ho1, ho2⟩ := r1.wr wr6
      exact mk_bad he1 (r1.sqT p1) (by show 1 ≤ 900; decide) (r1.lt cf F6.si.ltH) fitA (by simp) (.inr ⟨[o], .cons ho1 .nil, bad ho2⟩) fun H2 s2 => wd_e (q1 H2 (r1.sm s2))
    refine st_word (z := "edit") t6 r7 rfl hp (by show 1 < 60; decide) fp (fun H1 r1 hp1 Q1 q1 => ?_) fun H8 r8 hp8 => ?_
    · have he1 : H1 e = some (.ins T.e de (edF s0)) := r1.ex _ _ (by simpa using F6.eb) F6.he (fun _ z => nomatch z)
      refine ⟨_, rfl, e, de, _, rfl, he1, rfl, _, rfl, by show 2 ≤ sizeLine; decide, fun a2 ha2 => ?_⟩
      show spStep K T C.e [.ref e, .ref a2] (upd H1 a2 (.tup [x, .non])) (fun _ H' => Q1 (.str "returned") H') (WdE K C Q1)
      have sa : Same H1 (upd H1 a2 (.tup [x, .non])) := same_upd ha2
      obtain ⟨o, ho1, ho2⟩ := (r1.sm sa).wr wr6
      exact step_bad (sa _ _ he1) ((r1.sm sa).sqT p1) (by show 1 ≤ 900; decide) ((r1.sm sa).lt cf F6.si.ltH) fitA upd_same (by simp) (.inr ⟨[o, none], .cons ho1 (.cons edt_non .nil), bad ho2⟩) fun H2 s2 => wd_e (q1 H2 ((r1.sm sa).sm s2) (s2 _ _ (sa _ _ hp1)))
    refine st_word (z := "edit") t6 r8 rfl hp8 (by show 2 < 60; decide) fp (fun H1 r1 hp1 Q1 q1 => ?_) fun H9 r9 hp9 => ?_
    · have he1 : H1 e = some (.ins T.e de (edF s0)) := r1.ex _ _ (by simpa using F6.eb) F6.he (fun _ z => nomatch z)
      refine ⟨_, rfl, e, de, _, rfl, he1, rfl, _, rfl, by show 2 ≤ sizeLine; decide, fun a2 ha2 => ⟨_, rfl, _, rfl, ?_⟩⟩
      show spMk K T C.e [.ref e, .ref a2, x, .ref a] (upd H1 a2 (.tup [.str "use", .ref two])) (fun _ H' => Q1 (.str "returned") H') (WdE K C Q1)
      have sa : Same H1 (upd H1 a2 (.tup [.str "use", .ref two])) := same_upd ha2
      have ra := r1.sm sa
      obtain ⟨o, ho1, ho2⟩ := ra.wr wr6
      have lta := ra.lt cf F6.si.ltH
      exact mk_bad (sa _ _ he1) (ra.sqT p1) (by show 1 ≤ 900; decide) lta fitA (by simp) (.inr ⟨[some [.str "use", .ref two], o, some fx], .cons (edt_use cf lta ltw upd_same) (.cons ho1 (.cons (edt_fine cf lta ltw (ra.tup ha) hfx) .nil)), use.trans (bad ho2)⟩) fun H2 s2 => wd_e (q1 H2 (ra.sm s2) (s2 _ _ (sa _ _ hp1)))
    refine st_word (z := "edit") t6 r9 rfl hp9 (by show 3 < 60; decide) fp (fun H1 r1 hp1 Q1 q1 => ?_) fun H10 r10 hp10 => ?_
    · have he1 : H1 e = some (.ins T.e de (edF s0)) := r1.ex _ _ (by simpa using F6.eb) F6.he (fun _ z => nomatch z)
      refine ⟨_, rfl, e, de, _, rfl, he1, rfl, _, rfl, _, rfl, ?_⟩
      show spMk K T C.e [.ref e, .ref a, .non, x] H1 (fun _ H' => Q1 (.str "returned") H') (WdE K C Q1)
      obtain ⟨o, ho1, ho2⟩ := r1.wr wr6
      have lta := r1.lt cf F6.si.ltH
      exact mk_bad he1 (r1.sqT p1) (by show 1 ≤ 900; decide) lta fitA (by simp) (.inr ⟨[some fx, none, o], .cons (edt_fine cf lta ltw (r1.tup ha) hfx) (.cons edt_non (.cons ho1 .nil)), runO_non⟩) fun H2 s2 => wd_e (q1 H2 (r1.sm s2) (s2 _ _ hp1))
    have wsok : ∀ x ∈ [("edit" : Str), "edit", "edit", "edit"], PyData.strOk x = true := fun x hx => by
      simp only [List.mem_cons, List.mem_nil_iff, or_false] at hx
      rcases hx with rfl | rfl | rfl | rfl <;> decide +kernel
    refine ⟨_, rfl, by show 1 ≤ sizeLine; decide, fun q1 h1 => ?_⟩
    have s1 : Same H10 (upd H10 q1 (.lst [.str "edit"])) := same_upd h1
    have g1 : upd H10 q1 (.lst [.str "edit"]) q1 = some (.lst [.str "edit"]) := upd_same
    generalize upd H10 q1 (.lst [.str "edit"]) = H11 at s1 g1
    refine ⟨q1, 4, _, rfl, rfl, g1, by decide, by decide, by show 1 * 4 ≤ sizeLine; decide, fun q2 h2 => ?_⟩
    have s2 : Same H11 (upd H11 q2 (.lst [.str "edit", .str "edit", .str "edit", .str "edit"])) := same_upd h2
    have s12 := s1.trans s2
    refine ⟨.list ([("edit" : Str), "edit", "edit", "edit"].map PyData.str), .list ([("edit" : Str), "edit", "edit", "edit"].map PyData.str), dp_L _ (s12 _ _ hp10) rfl, dp_L _ upd_same rfl, shaped_L _ wsok, shaped_L _ wsok, ?_⟩
    have eq1 : PyData.eqv (.list ([("edit" : Str), "edit", "edit", "edit"].map PyData.str)) (.list ([("edit" : Str), "edit", "edit", "edit"].map PyData.str)) = true := eqv_L _ wsok
    rw [eq1]
    refine ⟨_, rfl, iteF' rfl ?_⟩
    have rZ := r10.sm s12
    have FZ := F6.rr cf rZ
    refine ⟨_, rfl, _, rfl, _, rfl, e, k, nl, de, dk, s0, sk, two, t0, j, lt, rfl, FZ.he, FZ.hk, FZ.kp, FZ.km, FZ.kt, FZ.si, FZ.nw, fun H12 s12 => ?_⟩
    refine ⟨_, rfl, iteF' rfl ?_⟩
    exact ⟨r36.trans (rZ.sm s12) fun a ha => .inl ha, _, _, _, rfl⟩
  · rintro σ H4 ⟨r34, z9, z10, z11, rfl⟩
    have F4 := F3.rr cf r34
    refine qD D lt b e k nl one two de dk s0 sk t0 j _ _ _ _ _ _ _ _ H4 F4 fun H' r hb' => q H' ?_ hb'
    have r04 := r03.trans r34 fun a ha => .inl ha
    have r04' : Rr T tb.T [b, e] H H4 := F.two2.trans r04 fun a ha => .inl (by simp at ha; simp [ha])
    exact r04'.trans r fun a ha => .inl ha
end K67
end
section
set_option Elab.async false
set_option linter.all false
set_option maxRecDepth 100000
set_option maxHeartbeats 1000000
namespace K67
open PySem PySem.Spec PyProof.Rows L2 LamX
theorem lsok_a : LsOk "a" := ⟨by decide +kernel, by decide +kernel, by decide +kernel, by decide +kernel, by
  have e : ("a" : Str).cps.toList = [97] := by decide +kernel
  rw [e]
  decide⟩
theorem lsok_ab : LsOk "ab" := ⟨by decide +kernel, by decide +kernel, by decide +kernel, by decide +kernel, by
  have e : ("ab" : Str).cps.toList = [97, 98] := by decide +kernel
  rw [e]
  decide⟩
section
variable {P : Program} {w : World} {K : PySem.W.Frag} {mg : Str → Option Value} {base : Heap} {T : Cls3} {C : Cls6} {tb : Tab3} {fS fL : Addr}
def spRight (T : Cls3) (tb : Tab3) : Sp := fun vs H Q _ => ∃ b, vs = [.ref b] ∧ BagAt H b ∧ Tabs tb.T H ∧ ∀ H', Rr T tb.T [b] H H' → Q (.bl true) H'
theorem ok_law_right (rc : RCtx P w K mg base T C tb fS fL) {f : Addr} {fd : FuncData} {c : Addr} (F : FnP K "_law_right" "_law_right" s_law_right f fd) (hc : fd.code = .ref c) (TB : TabB base mg c tb.pr) : FnG P w K mg base CX0 20 f fd ["_law_bag"] (spRight T tb) := by
  have S := sc_law_right
  have B := rc.B
  have cf := rc.cf
  refine fnGC_of F hc S (fun vs H Q E h => ?_) (fun A outer s H vs Q E hgd hr h => ?_)
  · obtain ⟨b, rfl, _⟩ := h
    rfl
  · obtain ⟨b, rfl, hb, hT, q⟩ := h
    obtain ⟨tD, pD, qD⟩ := right_B rc TB (A := A) (outer := outer) (s := s) (H0 := H) (E := E) hgd hr
    refine ⟨_, (pss_cons (ps_asg (pe_tup (pa_cons (pe_c rc.copier hr (by decide) (by rfl) (E := E0) pass0 (pa_cons pe_str pa_nil)) (pa_cons (pe_c rc.copier hr (by decide) (by rfl) (E := E0) pass0 (pa_cons pe_str pa_nil)) pa_nil))) (pg_tup rfl (pgs_cons (pg_name (i := 1) S.nd rfl (Or.inr rfl)) (pgs_cons (pg_name (i := 2) S.nd rfl (Or.inr rfl)) pgs_nil))))
      (pss_cons (ps_set (i := 3) S.nd rfl (.inl rfl) (pe_op op_add_str (pe_c rc.drawn hr (by decide) (by rfl) (E := E0) pass0 (pa_cons (pv 0) (pa_cons pe_str (pa_cons (pe_c rc.pick hr (by decide) (by rfl) (E := E0) pass0 (pa_cons (pv 0) (pa_cons (pe_lst (pa_cons pe_int (pa_cons pe_int (pa_cons pe_int pa_nil)))) pa_nil))) pa_nil)))) pe_str))
      (pss_cons (ps_set (i := 4) S.nd rfl (.inr rfl) (pe_mk rc.ed2 hr (by decide) (by rfl) (E := E0) passL (pa_cons (pv 2) (pa_cons (pv 3) pa_nil))))
      (pss_cons (ps_set (i := 5) S.nd rfl (.inl rfl) (pe_lst (pa_cons (pe_mR (pv 4) rc.make hr (by decide) (E := E0) passL (pa_cons (pe_tup (pa_cons pe_str (pa_cons pe_int (pa_cons pe_str pa_nil)))) pa_nil)) (pa_cons (pe_mR (pv 4) rc.make hr (by decide) (E := E0) passL (pa_cons (pe_tup (pa_cons pe_str (pa_cons pe_int (pa_cons pe_int pa_nil)))) pa_nil)) (pa_cons (pe_md0 (pv 4) rc.undo hr (by decide) (E := E0) passL) pa_nil)))))
      (pss_cons (ps_par3 (i := 6) (j := 3) (l := 7) rfl S.nd rfl rfl rfl (by decide) (by decide) (by decide) rfl rfl rfl (pa_cons (pe_m0 (pv 4) rc.twin hr (by decide) (E := E0) pass0) (pa_cons (pe_pr rc.text hr (by decide) (pv 4)) (pa_cons (pe_newsL rc.news hr (by decide) (by rfl) B.list (pv 4)) pa_nil))) (by rfl))
      (pss_cons (ps_if (PW.pt (pw_or (pt_cmpR (op_neD (hu_of' hr)) (pv 5) (pe_lst (pa_cons pe_int (pa_cons pe_int (pa_cons pe_int pa_nil)))) (nomark _)) (pw_or1 (pt_cmpR (op_neD (hu_of' hr)) (pe_lc (own := [("_law_row", 8)]) (g := gName 8) (tt := tYes) rfl S.nd (pi_list (pv 7)) (blkOk_by (N := NR) (sc := defScope s_law_right) (by decide +kernel)) (fun _ _ _ _ _ => (pg_name (i := 8) S.nd rfl (Or.inl rfl))) (fun _ _ _ _ _ => pts_nil) (fun _ _ _ _ _ => (pe_ix (show IxR _ (rIxT K) from ix_tup) (pv 8) pe_int (fun _ _ => rfl)))) (pe_lst (pa_cons pe_non pa_nil)) (nomark _))))) (pss_one (ps_ret pe_bl)) pss_nil)
      pD)))))), ?_⟩
    -- the two machines
    refine ⟨"a", rfl, lsok_a, fun H1 one sm1 h1 i1 => ⟨"ab", rfl, lsok_ab, fun H2 two sm2 h2 i2 => ⟨by show 2 ≤ sizeLine; decide, fun p hp => ?_⟩⟩⟩
    have s3 : Same H2 (upd H2 p (.tup [.ref one, .ref two])) := same_upd hp
    refine ⟨p, _, rfl, SqT.of upd_same, rfl, _, _, rfl, _, _, rfl, rfl, ?_⟩
    have s03 := (sm1.trans sm2).trans s3
    have i1' : IsTwo T (upd H2 p (.tup [.ref one, .ref two])) one "a" := i1.same (sm2.trans s3)
    have i2' : IsTwo T (upd H2 p (.tup [.ref one, .ref two])) two "ab" := i2.same s3
    have n12 : one ≠ two := fun z => by
      obtain ⟨p1, hp1⟩ := i1
      have := hp1.obj
      rw [z, h2] at this
      cases this
    generalize upd H2 p (.tup [.ref one, .ref two]) = H3 at s3 s03 i1' i2'
    clear i1 i2 h1 h2 sm1 sm2 s3 hp
    obtain ⟨lt, hlt⟩ : ∃ lt : Addr → Option Str, lt = fun a => if a = one then some ("a" : Str) else if a = two then some ("ab" : Str) else none := ⟨_, rfl⟩
    have l1 : lt one = some ("a" : Str) := by rw [hlt]; exact if_pos rfl
    have l2 : lt two = some ("ab" : Str) := by
      rw [hlt]
      show (if two = one then some ("a" : Str) else if two = two then some ("ab" : Str) else none) = _
      rw [if_neg (Ne.symm n12), if_pos rfl]
    have ltn : ∀ m, m ≠ one → m ≠ two → lt m = none := fun m a b => by
      rw [hlt]
      show (if m = one then some ("a" : Str) else if m = two then some ("ab" : Str) else none) = _
      rw [if_neg a, if_neg b]
    have LT3 : LT T lt H3 := fun q ls e => by
      by_cases c1 : q = one
      · subst c1
        rw [l1] at e
        cases e
        exact i1'
      · by_cases c2 : q = two
        · subst c2
          rw [l2] at e
          cases e
          exact i2'
        · rw [ltn q c1 c2] at e
          cases e
    have mkk : ∀ m dx fs, H3 two = some (.ins T.t dx fs) → fs.lookup ("own_marks" : Str) = some (.ref m) → lt m = none := fun m dx fs e1 e2 => by
      obtain ⟨p1, hp1⟩ := i1'
      obtain ⟨p2, hp2⟩ := i2'
      rw [hp2.obj] at e1
      cases e1
      have e3 : (twF p2.m "ab" p2.b p2.wr p2.la p2.so).lookup ("own_marks" : Str) = some (.ref p2.m) := rfl
      rw [e3] at e2
      cases e2
      obtain ⟨dxm, sd, g, nl, hm1, _⟩ := hp2.marks
      refine ltn _ (fun z => ?_) fun z => ?_
      · rw [z, hp1.obj] at hm1
        have zz := Option.some.inj hm1
        injection zz with z1
        exact cf.kits.tm z1
      · rw [z, hp2.obj] at hm1
        have zz := Option.some.inj hm1
        injection zz with z1
        exact cf.kits.tm z1
    have hb3 := hb.same s03
    have r03 : Rr T tb.T [b] H H3 := (Rr.bag1 hb).sm s03
    clear hlt s03
    -- the text
    refine ⟨_, rfl, _, rfl, by show 3 ≤ sizeLine; decide, fun l hl => ?_⟩
    refine pick_l (E := E0) (xs := [.int 2, .int 9, .int 54]) (hb3.same (same_upd hl)) (hb3.ne (.of hl)) upd_same (by show 0 < 3; decide) (by show 3 < 1000; decide) fun H4 nv sE hb4 hx => ?_
    have r4 : Rr T tb.T [b] H3 H4 := ((Rr.bag1 hb3).sm (same_upd hl)).bag (List.mem_cons_self ..) sE (hb3.same (same_upd hl)) hb4
    obtain ⟨n, rfl, n0, n1⟩ : ∃ n : Int, nv = .int n ∧ 0 ≤ n ∧ n ≤ 54 := by
      simp only [List.mem_cons, List.mem_nil_iff, or_false] at hx
      rcases hx with rfl | rfl | rfl
      · exact ⟨2, rfl, by decide, by decide⟩
      · exact ⟨9, rfl, by decide, by decide⟩
      · exact ⟨54, rfl, by decide, by decide⟩
    refine ⟨b, "ab", n, rfl, hb4, by decide +kernel, by decide +kernel, n0, by omega, fun H5 t1 sE5 hb5 ov1 len1 => ?_⟩
    have r5 : Rr T tb.T [b] H3 H5 := r4.bag (List.mem_cons_self ..) sE5 hb4 hb5
    have lb : ("b" : Str).length = 1 := rfl
    refine ⟨_, _, rfl, rfl, sz60 (by rw [lb]; omega), ?_⟩
    obtain ⟨t0, ht0⟩ : ∃ t0 : Str, t0 = t1 ++ "b" := ⟨_, rfl⟩
    have ov0 : over t0 "ab" = true := by rw [ht0]; exact over_app ov1 (by decide +kernel)
    have len0 : t0.length ≤ 55 := by rw [ht0, len_add, lb]; omega
    have na0 : over (aa t0) "a" = false := by rw [ht0]; exact not_a
    have hasb : ∃ c ∈ t0.cps.toList, c ≠ 97 := by rw [ht0]; exact has_b
    rw [← ht0]
    clear ht0 sE sE5 hl hx hb4 r4 ov1 len1
    have fit0 : Fit "ab" t0 := fit_ab ov0 (by omega)
    have fit1 : Fit "ab" (aa t0) := fit_ab (over_aa ov0) (by rw [aa_len]; omega)
    have i25 := r5.isTwo cf i2'
    -- the editor
    refine ⟨_, rfl, _, rfl, fun e de he0 hde hne => ?_⟩
    have smE := made_same (C := T.e) (fs := []) he0 hde
    refine ed_ok cf upd_same (i25.same smE) fit0.1 fit0.2 fun H7 s7 sE7 hpa hun hbe hm7 ht7 he7 => ⟨rfl, ?_⟩
    have s57 : Same H5 H7 := same_made he0 hde sE7
    have r7 := r5.sm s57
    have LT7 := r7.lt cf LT3
    have pk1 : putOk t0 "ab" (.int 0) (.str "aa") = true := putOk0 (by decide +kernel) (by decide) (by decide +kernel) (by show t0.length + 2 ≤ 60; omega)
    have run1 : runO lt (s7.m, s7.t) [some [.str "put", .int 0, .str "aa"]] = some (two, aa t0) := by
      rw [hm7, ht7]
      exact (runO_cons (stepO_ok l2 (edO_put pk1))).trans rfl
    have ck2 : cutOk (aa t0) (.int 0) (.int 2) = true := by
      have hl := aa_len t0
      show ((decide ((0 : Int) ≤ 0) && decide ((0 : Int) ≤ (aa t0).length)) && (decide ((1 : Int) ≤ 2) && decide ((2 : Int) ≤ ((aa t0).length : Int) - 0))) = true
      rw [hl]
      simp
      omega
    have run2 : runO lt (two, aa t0) [some [.str "cut", .int 0, .int 2]] = some (two, t0) := by
      have := (runO_cons (os := []) (stepO_ok (lt := lt) (m := two) (m' := two) l2 (edO_cut ck2))).trans rfl
      rw [cut_aa] at this
      exact this
    have fv0 : FitV lt (s7.m, s7.t) := by
      rw [hm7, ht7]
      exact ⟨"ab", l2, fit0⟩
    have fv1 : FitV lt (two, aa t0) := ⟨"ab", l2, fit1⟩
    -- two steps, one taken back
    refine ⟨_, rfl, e, de, _, rfl, he7, rfl, by show 3 ≤ sizeLine; decide, fun a1 ha1 => ?_⟩
    have sa1 : Same H7 (upd H7 a1 (.tup [.str "put", .int 0, .str "aa"])) := same_upd ha1
    have ga1 : upd H7 a1 (.tup [.str "put", .int 0, .str "aa"]) a1 = some (.tup [.str "put", .int 0, .str "aa"]) := upd_same
    have na1 : a1 ≠ e := fun z => by rw [z, he7] at ha1; cases ha1
    generalize upd H7 a1 (.tup [.str "put", .int 0, .str "aa"]) = H8 at sa1 ga1
    refine mk_ok (C := C.e) (E := E0) (s := s7) (ps := []) (rest := [.ref a1]) (r := (two, aa t0)) (sa1 _ _ he7) (seqT sa1 (SqT.of hpa)) (by decide) (LT7.same sa1) fv0 (by simp) (by simp) (.cons (edt_consts ga1 (by decide +kernel)) .nil) run1 fun H9 mk1 wd1 bf1 res1 pa1 un1 pr1 vr1 st1 sE9 nb1 ns1 hst1 hbf1 hvr1 hpr1 hpa1 hun1 he9 => ?_
    have LT9 : LT T lt H9 := (LT7.same sa1).sameE cf sE9 (sa1 _ _ he7)
    refine ⟨_, rfl, e, de, _, rfl, he9, rfl, by show 3 ≤ sizeLine; decide, fun a2 ha2 => ?_⟩
    have sa2 : Same H9 (upd H9 a2 (.tup [.str "cut", .int 0, .int 2])) := same_upd ha2
    have ga2 : upd H9 a2 (.tup [.str "cut", .int 0, .int 2]) a2 = some (.tup [.str "cut", .int 0, .int 2]) := upd_same
    have na2 : a2 ≠ e := fun z => by rw [z, he9] at ha2; cases ha2
    generalize upd H9 a2 (.tup [.str "cut", .int 0, .int 2]) = H10 at sa2 ga2
    refine mk_ok (C := C.e) (E := E0) (ps := [.ref pr1]) (rest := [.ref a2]) (r := (two, t0)) (sa2 _ _ he9) (SqT.of (sa2 _ _ hpa1)) (by show 1 ≤ 900; decide) (LT9.same sa2) fv1 (by simp) (by simp) (.cons (edt_consts ga2 (by decide +kernel)) .nil) run2 fun H11 mk2 wd2 bf2 res2 pa2 un2 pr2 vr2 st2 sE11 nb2 ns2 hst2 hbf2 hvr2 hpr2 hpa2 hun2 he11 => ?_
    have LT11 : LT T lt H11 := (LT9.same sa2).sameE cf sE11 (sa2 _ _ he9)
    refine ⟨_, rfl, e, de, _, rfl, he11, rfl, e, de, _, [.ref pr1, .ref pr2], [], .int 1, lt, rfl, he11, SqT.of hpa2, by show 2 ≤ 900; decide, SqT.of hun2, by decide, LT11, True.intro, .inr (.inr ⟨rfl, [.ref pr1], pr2, vr2, two, aa t0, .ref st2, rfl, hpr2, hvr2, fv1, fun H12 mk3 wd3 bf3 res3 pa3 un3 sE12 nb3 hbf3 hpa3 hun3 he12 => ?_⟩)⟩
    have LT12 : LT T lt H12 := LT11.sameE cf sE12 he11
    refine ⟨by show 3 ≤ sizeLine; decide, fun cl hcl => ?_⟩
    have sc : Same H12 (upd H12 cl (.lst [.int 1, .int 2, .int 1])) := same_upd hcl
    have hj := one_news hasb
    obtain ⟨j, hj⟩ := hj
    -- everything that is known behind the steps
    have rE12 : Rr T tb.T [e] H7 H12 := ((((((Rr.refl (T := T) (Tb := tb.T) (M := [e]) fun a ha => by
      obtain rfl : a = e := by simpa using ha
      exact mutEd he7 he7).sm sa1).ed (by simp) sE9 (sa1 _ _ he7) he9).sm sa2).ed (by simp) sE11 (sa2 _ _ he9) he11).ed (by simp) sE12 he11 he12)
    have rE9 : Rr T tb.T [e] H9 H12 := ((((Rr.refl (T := T) (Tb := tb.T) (M := [e]) fun a ha => by
      obtain rfl : a = e := by simpa using ha
      exact mutEd he9 he9).sm sa2).ed (by simp) sE11 (sa2 _ _ he9) he11).ed (by simp) sE12 he11 he12)
    have rE11 : Rr T tb.T [e] H11 H12 := ((Rr.refl (T := T) (Tb := tb.T) (M := [e]) fun a ha => by
      obtain rfl : a = e := by simpa using ha
      exact mutEd he11 he11).ed (by simp) sE12 he11 he12)
    have q_pr1 := rE9.tup hpr1
    have q_vr1 := rE9.tup hvr1
    rw [hm7, ht7] at q_vr1
    have q_st2 := rE11.tup hst2
    have q_a2 : H12 a2 = some (.tup [.str "cut", .int 0, .int 2]) := sE12 _ _ na2 (sE11 _ _ na2 ga2)
    have fr5 : Fr H3 e := r5.old he0
    have r12 : Rr T tb.T [b] H3 H12 := r7.trans rE12 fun a ha => .inr (by
      obtain rfl : a = e := by simpa using ha
      exact fr5)
    have hb12 : BagAt H12 b := r12.bagAt (by simp) hb3
    have T12 := LT12 _ _ l2
    have eds : Edts K T lt H12 [.ref a2] [some [.str "cut", .int 0, .int 2]] := .cons (edt_consts q_a2 (by decide +kernel)) .nil
    have mk12 : ∀ m dx fs, H12 two = some (.ins T.t dx fs) → fs.lookup ("own_marks" : Str) = some (.ref m) → lt m = none := fun m dx fs e1 e2 => by
      obtain ⟨p2, hp2⟩ := i2'
      rw [r12.insC hp2.obj cf.kits.te] at e1
      cases e1
      exact mkk m _ _ hp2.obj e2
    clear hpr1 hvr1 hst2 hpa1 hun1 hbf1 hpa2 hun2 hbf2 hvr2 hpr2 hst1 sE9 sE11 sE12 rE9 rE11 sa1 sa2 ga1 ga2 LT7 LT9 LT11 run1 pk1 ck2 fv0 hpa hun hbe q_a2 i25 smE sE7 na1 na2 he9 he11
    -- twin, text, news
    refine ⟨_, rfl, e, de, _, rfl, same_upd hcl _ _ he12, rfl, e, de, _, "ab", rfl, same_upd hcl _ _ he12, T12.same (same_upd hcl), fit1, fun H14 k dk mkk' wdk rsk s14 hk hk' => ?_⟩
    have s12 : Same H12 H14 := fun bb oo hh => s14 _ _ (same_upd hcl _ _ hh)
    have gc14 : H14 cl = some (.lst [.int 1, .int 2, .int 1]) := s14 _ _ upd_same
    refine ⟨_, rfl, e, de, _, rfl, s12 _ _ he12, e, de, _, .str (aa t0), rfl, s12 _ _ he12, rfl, ?_⟩
    refine ⟨_, rfl, e, de, _, rfl, s12 _ _ he12, rfl, e, de, _, two, t0, "ab", "ab", rfl, s12 _ _ he12, s12 _ _ hbf3, T12.same s12, T12.same s12, fit0, fit1, fun H15 rs s15 na nl hnl => ?_⟩
    replace na : NewsAt H15 rs [j] := hj ▸ na
    obtain ⟨ra, rfl, hra⟩ : ∃ ra, rs = [.ref ra] ∧ H15 ra = some (.tup [.int (j : Nat), .non, .int 0]) := by
      cases na with
      | cons h1 h2 =>
        cases h2
        obtain ⟨a, rfl, ha⟩ := h1
        exact ⟨a, rfl, ha⟩
    have s16 : Same H15 (upd H15 nl (.lst [.ref ra])) := same_upd hnl
    have n16 : NewsL (upd H15 nl (.lst [.ref ra])) nl j := ⟨ra, upd_same, s16 _ _ hra⟩
    have gn16 : upd H15 nl (.lst [.ref ra]) nl = some (.lst [.ref ra]) := upd_same
    have nlb : nl ≠ b := (hb12.same (s12.trans s15)).ne (.of hnl)
    generalize upd H15 nl (.lst [.ref ra]) = H16 at s16 n16 gn16
    have s126 := (s12.trans s15).trans s16
    have hek : e ≠ k := fun z => by rw [← z, same_upd hcl _ _ he12] at hk; cases hk
    have RF16 : RF K T tb lt H16 b e k nl one two de dk ⟨pa3, un3, bf3, two, aa t0, mk3, wd3, res3⟩ ⟨pa3, un3, bf3, two, aa t0, mkk', wdk, rsk⟩ t0 j :=
      ⟨hb12.same s126, s126 _ _ he12, (s15.trans s16) _ _ hk', rfl, rfl, rfl,
        ⟨LT12.same s126, l2, rfl, fit1, fit0, ⟨pr1, vr1, st1, seqT s126 hpa3, s126 _ _ q_pr1, s126 _ _ q_vr1⟩, ⟨st2, _, _, (two, t0), seqT s126 hun3, s126 _ _ q_st2, eds.same s126, run2⟩, ⟨t0, s126 _ _ hbf3, fit0, hj⟩⟩,
        l1, n16, nlb, hek, (r03.trans (r12.sm s126) fun a ha => .inl ha).tb hT, by show (aa t0).length ≤ 57; rw [aa_len]; omega, na0, fun m dx fs e1 e2 => by
          obtain ⟨p2, hp2⟩ := T12
          rw [s126 _ _ hp2.obj] at e1
          cases e1
          exact mk12 m _ _ hp2.obj e2⟩
    have r016 : Rr T tb.T [b] H H16 := r03.trans (r12.sm s126) fun a ha => .inl ha
    have fr0 : Fr H e := (r03.trans r5 fun a ha => .inl ha).old he0
    have g16 := (s15.trans s16) _ _ gc14
    refine ⟨_, _, _, rfl, ?_⟩
    clear hbf3 hpa3 hun3 he12 hk hk' s14 s12 s15 s16 s126 gc14 mk12 eds T12 LT12 q_pr1 q_vr1 q_st2 hra n16 hcl hnl na r12 rE12 r7 r5 hb12 hb3
    -- counts, one row
    refine ⟨_, rfl, by show 3 ≤ sizeLine; decide, fun l5 hl5 => ?_⟩
    have s17 : Same H16 (upd H16 l5 (.lst [.int 1, .int 2, .int 1])) := same_upd hl5
    have g17 : upd H16 l5 (.lst [.int 1, .int 2, .int 1]) l5 = some (.lst [.int 1, .int 2, .int 1]) := upd_same
    generalize upd H16 l5 (.lst [.int 1, .int 2, .int 1]) = H17 at s17 g17
    refine ⟨.list [.int 1, .int 2, .int 1], .list [.int 1, .int 2, .int 1], .lst (SqL.of (s17 _ _ g16)) (.cons (.int _) (.cons (.int _) (.cons (.int _) .nil))), .lst (SqL.of g17) (.cons (.int _) (.cons (.int _) (.cons (.int _) .nil))), rfl, rfl, _, rfl, iteF' rfl ?_⟩
    obtain ⟨ra', hra1, hra2⟩ := RF16.nw
    have era : ra' = ra := by
      rw [gn16] at hra1
      cases hra1
      rfl
    subst era
    refine ⟨_, rfl, nl, rfl, ⟨_, SqL.of (s17 _ _ gn16)⟩, fun DD hDD => ?_⟩
    refine lc_gen2 (walk_list (xs := [V.ref ra'])) [.non] rfl (by show 1 ≤ sizeLine; decide) hDD (fun H1 sm => SqL.of (sm _ _ (s17 _ _ gn16))) ?_ ?_
    · rintro i x H1 H2 K1 hi sm hD2 ⟨rfl, hx⟩ kk
      obtain rfl : i = 0 := by simp at hi; omega
      obtain rfl : V.ref ra' = x := Option.some.inj hx
      exact ⟨rfl, _, rfl, ra', _, 1, .non, rfl, rfl, SqT.of (sm _ _ (s17 _ _ hra2)), atI_nat (j := 1) rfl, kk _ _ rfl rfl sm⟩
    · intro H18 sm hl18
      refine ⟨by show 1 ≤ sizeLine; decide, fun l6 hl6 => ?_⟩
      have s19 : Same H18 (upd H18 l6 (.lst [.non])) := same_upd hl6
      have g19 : upd H18 l6 (.lst [.non]) l6 = some (.lst [.non]) := upd_same
      generalize upd H18 l6 (.lst [.non]) = H19 at s19 g19
      refine ⟨.list [.none], .list [.none], .lst (SqL.of (s19 _ _ hl18)) (.cons .non .nil), .lst (SqL.of g19) (.cons .non .nil), rfl, rfl, _, rfl, iteF' rfl ?_⟩
      have sL := (s17.trans sm).trans s19
      have rL : Rr T tb.T [b] H16 H19 := (Rr.bag1 RF16.bag).sm sL
      refine qD _ lt b e k nl one two de dk _ _ t0 j _ _ _ _ _ _ _ H19 (RF16.rr cf rL) fun H' r hb' => q H' ?_
      exact (r016.trans rL fun a ha => .inl ha).trans r fun a ha => by
        simp only [List.mem_cons, List.mem_nil_iff, or_false] at ha
        rcases ha with rfl | rfl
        · exact .inl (by simp)
        · exact .inr fr0
end
end K67
end
section
set_option Elab.async false
set_option linter.all false
set_option maxRecDepth 100000
set_option maxHeartbeats 1000000
namespace K67
open PySem PySem.Spec PyProof.Rows L2 LamX
abbrev NL : List Str := ["_law_script", "_law_at", "_law_one", "_law_two", "_law_made", "_law_found", "_law_narrow", "_law_other"]
/-- an editor with n steps in effect -/
structure ES (K : PySem.W.Frag) (T : Cls3) (e de : Addr) (s : EdF) (n : Nat) (H : Hp) : Prop where
  he : H e = some (.ins T.e de (edF s))
  ps : ∃ ps sts, SqT K H s.past ps ∧ ps.length = n ∧ LogAt H ps sts
section
variable {K : PySem.W.Frag} {T : Cls3} {tb : Tab3} {lt : Addr → Option Str} {H H' : Hp} {e de p one two : Addr} {s : EdF} {n : Nat}
theorem ES.ext (h : ES K T e de s n H) (x : ExtN H H') : ES K T e de s n H' := by
  obtain ⟨he, ps, sts, h1, h2, h3⟩ := h
  have tp : ∀ {a : Addr} {xs : List V}, H a = some (.tup xs) → H' a = some (.tup xs) := fun q => x _ _ q (fun _ z => nomatch z)
  refine ⟨x _ _ he (fun _ z => nomatch z), ps, sts, ?_, h2, ?_⟩
  · rcases h1 with h1 | h1
    · rcases h1 with h1 | ⟨o, h1⟩
      · exact .inl (.inl (tp h1))
      · exact .inl (.inr ⟨o, x _ _ h1 (fun _ z => nomatch z)⟩)
    · exact .inr h1
  · clear h1 h2
    induction h3 with
    | nil => exact .nil
    | cons h t ih =>
      obtain ⟨a, v, e1, e2⟩ := h
      exact .cons ⟨a, v, e1, tp e2⟩ ih
theorem ES.sm (h : ES K T e de s n H) (x : Same H H') : ES K T e de s n H' := h.ext (ExtN.of x)
theorem ES.at {xs : List V} (h : ES K T e de s n H) (x : SameE p H H') (hp : H p = some (.lst xs)) : ES K T e de s n H' := by
  obtain ⟨he, ps, sts, h1, h2, h3⟩ := h
  have ne : ∀ {a : Addr} {o : HO}, H a = some o → (∀ ys, o ≠ .lst ys) → a ≠ p := fun {a o} q n z => by
    rw [z, hp] at q
    exact n _ (Option.some.inj q).symm
  have tp : ∀ {a : Addr} {xs : List V}, H a = some (.tup xs) → H' a = some (.tup xs) := fun q => x _ _ (ne q (fun _ z => nomatch z)) q
  refine ⟨x _ _ (ne he (fun _ z => nomatch z)) he, ps, sts, ?_, h2, ?_⟩
  · rcases h1 with h1 | h1
    · rcases h1 with h1 | ⟨o, h1⟩
      · exact .inl (.inl (tp h1))
      · exact .inl (.inr ⟨o, x _ _ (ne h1 (fun _ z => nomatch z)) h1⟩)
    · exact .inr h1
  · clear h1 h2
    induction h3 with
    | nil => exact .nil
    | cons h t ih =>
      obtain ⟨a, v, e1, e2⟩ := h
      exact .cons ⟨a, v, e1, tp e2⟩ ih
theorem ES.rr {Tb : List (Addr × Str)} {M : List Addr} (h : ES K T e de s n H) (r : Rr T Tb M H H') (hM : e ∉ M) : ES K T e de s n H' := by
  obtain ⟨he, ps, sts, h1, h2, h3⟩ := h
  refine ⟨r.ex _ _ hM he (fun _ z => nomatch z), ps, sts, r.sqT h1, h2, ?_⟩
  clear h1 h2
  induction h3 with
  | nil => exact .nil
  | cons h t ih =>
    obtain ⟨a, v, e1, e2⟩ := h
    exact .cons ⟨a, v, e1, r.tup e2⟩ ih
/-- the two machines -/
structure LA (K : PySem.W.Frag) (T : Cls3) (tb : Tab3) (lt : Addr → Option Str) (one two : Addr) (H : Hp) : Prop where
  l1 : lt one = some ("a" : Str)
  l2 : lt two = some ("ab" : Str)
  lt' : LT T lt H
  tabs : Tabs tb.T H
theorem LA.rr (cf : CF K T) {M : List Addr} (h : LA K T tb lt one two H) (r : Rr T tb.T M H H') : LA K T tb lt one two H' := ⟨h.l1, h.l2, r.lt cf h.lt', r.tb h.tabs⟩
end
abbrev wL : List Str := ["edit", "edit", "returned", "edit", "edit", "returned", "edit", "edit", "edit", "returned"]
/-- the end of law -/
theorem law_D {P : Program} {w : World} {K : PySem.W.Frag} {mg : Str → Option Value} {base : Heap} {T : Cls3} {C : Cls6} {tb : Tab3} {fS fL f c : Addr} (rc : RCtx P w K mg base T C tb fS fL) {A : Around} {outer : List Env} {s : Shared} {H0 : Hp} {E : XK}
    (hr : Room 21 (A.deeper (envOfC "law" (defScope s_law) s.heap.objs.size f (.ref c)))) :
    ∃ t, PSs (cxOf CX0 P w K mg base NL "law" (defScope s_law) f (.ref c) A outer s H0 E) ((defBody s_law).drop 14) t ∧
      ∀ (D : Ends) (lt : Addr → Option Str) (one two e de p : Addr) (s : EdF) (x0 x1 x6 x7 : Option V) (H : Hp), LA K T tb lt one two H → ES K T e de s 2 H → s.t = repS 97 60 → H p = some (.lst (wL.map V.str)) → (∀ H', D.rt (.bl true) H') →
        t D [x0, x1, some (.ref one), some (.ref two), some (.ref e), some (.ref p), x6, x7] H := by
  have S := sc_law
  have B := rc.B
  have cf := rc.cf
  refine ⟨_, (pss_cons (ps_if (PW.pt (pw_or (pt_cmpR (op_eqO rc.eq hr (by decide)) (pe_mk rc.ed2 hr (by decide) (by rfl) (E := E0) passL (pa_cons (pv 2) (pa_cons pe_str pa_nil))) (pe_mk rc.ed2 hr (by decide) (by rfl) (E := E0) passL (pa_cons (pv 3) (pa_cons pe_str pa_nil))) (nomark _)) (pw_or1 (pt_cmpR (op_neO rc.eq hr (by decide)) (pe_mk rc.ed2 hr (by decide) (by rfl) (E := E0) passL (pa_cons (pv 2) (pa_cons pe_str pa_nil))) (pe_mk rc.ed2 hr (by decide) (by rfl) (E := E0) passL (pa_cons (pe_c rc.copier hr (by decide) (by rfl) (E := E0) pass0 (pa_cons pe_str pa_nil)) (pa_cons pe_str pa_nil))) (nomark _))))) (pss_one (ps_ret pe_bl)) pss_nil)
      (pss_cons (ps_if (pt_cmpR (op_neD (hu_of' hr)) (pv 5) (pe_op op_cat (pe_op op_cat (pe_lst (pa_cons pe_str (pa_cons pe_str (pa_cons pe_str (pa_cons pe_str (pa_cons pe_str (pa_cons pe_str pa_nil))))))) (pe_op op_rep (pe_lst (pa_cons pe_str pa_nil)) pe_int)) (pe_lst (pa_cons pe_str pa_nil))) (nomark _)) (pss_one (ps_ret pe_bl)) pss_nil)
      (pss_one (ps_ret (pe_and (pe_cmpR op_eq (pe_pr rc.text hr (by decide) (pv 4)) (pe_op op_strRep pe_str pe_int) (nomark _)) (pe_one (pe_cmpR op_eq (pe_callB call_len (by rfl) B.len (by decide +kernel) (pa_cons (pe_pr rc.log hr (by decide) (pv 4)) pa_nil)) pe_int (nomark _)))))))), ?_⟩
  intro D lt one two e de p s0 x0 x1 x6 x7 H la es ht hp q
  -- four editors
  refine ⟨_, rfl, fun a da ha hda hne => ?_⟩
  have sm1 := made_same (C := T.e) (fs := []) ha hda
  refine ed_ok cf upd_same ((la.lt' _ _ la.l1).same sm1) (by decide +kernel) (by decide +kernel) fun H1 s1 sE1 _ _ _ hm1 ht1 he1 => ⟨rfl, ?_⟩
  have k1 := same_made ha hda sE1
  refine ⟨_, rfl, fun a2 da2 ha2 hda2 hne2 => ?_⟩
  have sm2 := made_same (C := T.e) (fs := []) ha2 hda2
  refine ed_ok cf upd_same ((la.lt' _ _ la.l2).same (k1.trans sm2)) (by decide +kernel) (by decide +kernel) fun H2 s2 sE2 _ _ _ hm2 ht2 he2 => ⟨rfl, ?_⟩
  have k2 := same_made ha2 hda2 sE2
  have i1a : IsTwo T H2 s1.m "a" := by rw [hm1]; exact (la.lt' _ _ la.l1).same (k1.trans k2)
  have i2a : IsTwo T H2 s2.m "ab" := by rw [hm2]; exact (la.lt' _ _ la.l2).same (k1.trans k2)
  have df : (decide (("a" : Str) = "ab") && decide (s1.t = s2.t)) = false := by
    have : decide (("a" : Str) = "ab") = false := by decide
    rw [this]
    rfl
  refine ⟨a, a2, da, da2, _, _, rfl, rfl, k2 _ _ he1, he2, a, a2, da, da2, s1, s2, "a", "ab", rfl, k2 _ _ he1, he2, i1a, i2a, _, rfl, _, rfl, iteF' df ?_⟩
  have k02 := k1.trans k2
  clear sm1 sm2 k1 k2 sE1 sE2 he1 he2 i1a i2a df ha hda ha2 hda2
  refine ⟨_, rfl, fun a hda ha hhda hne => ?_⟩
  have sm1 := made_same (C := T.e) (fs := []) ha hhda
  refine ed_ok cf upd_same ((la.lt' _ _ la.l1).same (k02.trans sm1)) (by decide +kernel) (by decide +kernel) fun H3 s1 sE1 _ _ _ hm1 ht1 he1 => ⟨rfl, ?_⟩
  have k3 := same_made ha hhda sE1
  refine ⟨"a", rfl, lsok_a, fun H4 tt s4 htt itt => ?_⟩
  refine fun a2 da2 ha2 hda2 hne2 => ?_
  have sm2 := made_same (C := T.e) (fs := []) ha2 hda2
  refine ed_ok cf upd_same (itt.same sm2) (by decide +kernel) (by decide +kernel) fun H5 s2 sE2 _ _ _ hm2 ht2 he2 => ⟨rfl, ?_⟩
  have k5 := same_made ha2 hda2 sE2
  have k35 := s4.trans k5
  have i1a : IsTwo T H5 s1.m "a" := by rw [hm1]; exact (la.lt' _ _ la.l1).same ((k02.trans k3).trans k35)
  have i2a : IsTwo T H5 s2.m "a" := by rw [hm2]; exact itt.same k5
  have df : (!(decide (("a" : Str) = "a") && decide (s1.t = s2.t))) = false := by
    rw [ht1, ht2]
    simp
  refine ⟨a, a2, hda, da2, _, _, rfl, rfl, k35 _ _ he1, he2, a, a2, hda, da2, s1, s2, "a", "a", rfl, k35 _ _ he1, he2, i1a, i2a, _, rfl, _, rfl, iteF' df ?_⟩
  have k05 := (k02.trans k3).trans k35
  have es5 := es.sm k05
  have hp5 := k05 _ _ hp
  clear sm1 sm2 k3 k5 sE1 sE2 he1 he2 i1a i2a df ha hhda ha2 hda2 k02 s4 k35
  -- the words
  have wsok : ∀ x ∈ wL, PyData.strOk x = true := fun x hx => by
    simp only [wL, List.mem_cons, List.mem_nil_iff, or_false] at hx
    rcases hx with rfl | rfl | rfl | rfl | rfl | rfl | rfl | rfl | rfl | rfl <;> decide +kernel
  refine ⟨_, rfl, by show 6 ≤ sizeLine; decide, fun p1 h1 => ?_⟩
  have s1 : Same H5 (upd H5 p1 (.lst [.str "edit", .str "edit", .str "returned", .str "edit", .str "edit", .str "returned"])) := same_upd h1
  have g1 : upd H5 p1 (.lst [.str "edit", .str "edit", .str "returned", .str "edit", .str "edit", .str "returned"]) p1 = some (.lst [.str "edit", .str "edit", .str "returned", .str "edit", .str "edit", .str "returned"]) := upd_same
  generalize upd H5 p1 (.lst [.str "edit", .str "edit", .str "returned", .str "edit", .str "edit", .str "returned"]) = H6 at s1 g1
  refine ⟨by show 1 ≤ sizeLine; decide, fun p2 h2 => ?_⟩
  have s2 : Same H6 (upd H6 p2 (.lst [.str "edit"])) := same_upd h2
  have g2 : upd H6 p2 (.lst [.str "edit"]) p2 = some (.lst [.str "edit"]) := upd_same
  generalize upd H6 p2 (.lst [.str "edit"]) = H7 at s2 g2
  refine ⟨p2, 3, [.str "edit"], rfl, rfl, g2, by decide, by decide, by show 1 * 3 ≤ sizeLine; decide, fun p3 h3 => ?_⟩
  have s3 : Same H7 (upd H7 p3 (.lst [.str "edit", .str "edit", .str "edit"])) := same_upd h3
  refine ⟨p1, p3, [.str "edit", .str "edit", .str "returned", .str "edit", .str "edit", .str "returned"], [.str "edit", .str "edit", .str "edit"], rfl, rfl, s3 _ _ (s2 _ _ g1), upd_same, by show 9 ≤ sizeLine; decide, fun p4 h4 => ?_⟩
  have s4 := same_upd h4 (o := .lst ([.str "edit", .str "edit", .str "returned", .str "edit", .str "edit", .str "returned"] ++ [.str "edit", .str "edit", .str "edit"]))
  refine ⟨by show 1 ≤ sizeLine; decide, fun p5 h5 => ?_⟩
  have s5 := same_upd h5 (o := .lst [.str "returned"])
  refine ⟨p4, p5, [.str "edit", .str "edit", .str "returned", .str "edit", .str "edit", .str "returned", .str "edit", .str "edit", .str "edit"], [.str "returned"], rfl, rfl, s5 _ _ upd_same, upd_same, by show 10 ≤ sizeLine; decide, fun p6 h6 => ?_⟩
  have s6 := same_upd h6 (o := .lst ([.str "edit", .str "edit", .str "returned", .str "edit", .str "edit", .str "returned", .str "edit", .str "edit", .str "edit"] ++ [.str "returned"]))
  have sZ : Same H5 _ := (((((s1.trans s2).trans s3).trans s4).trans s5).trans s6)
  refine ⟨.list (wL.map PyData.str), .list (wL.map PyData.str), dp_L _ (sZ _ _ hp5) rfl, dp_L _ upd_same rfl, shaped_L _ wsok, shaped_L _ wsok, ?_⟩
  have eq1 : PyData.eqv (.list (wL.map PyData.str)) (.list (wL.map PyData.str)) = true := eqv_L _ wsok
  rw [eq1]
  refine ⟨_, rfl, iteF' rfl ?_⟩
  have esZ := es5.sm sZ
  obtain ⟨heZ, ps, sts, hps, hln, hlg⟩ := esZ
  refine ⟨_, rfl, e, de, _, rfl, heZ, e, de, _, .str s0.t, rfl, heZ, rfl, 97, 60, rfl, rfl, by decide, by decide, ?_⟩
  have e2 : decide (V.str s0.t = V.str (repS 97 60)) = true := by rw [ht]; simp
  refine ⟨rfl, ?_⟩
  rw [show (60 : Int).toNat = 60 from rfl, e2]
  refine ⟨true, rfl, iteT' rfl ?_⟩
  refine ⟨_, rfl, e, de, _, rfl, heZ, e, de, s0, ps, sts, rfl, heZ, hps, by omega, hlg, fun H9 lg s9 hlg9 => ?_⟩
  refine ⟨_, sts.length, rfl, .inr ⟨_, SqT.of hlg9, rfl⟩, rfl, ?_⟩
  have e3 : sts.length = 2 := by rw [← hlg.len]; exact hln
  rw [e3]
  exact q _
end K67
end
section
set_option Elab.async false
set_option linter.all false
set_option maxRecDepth 100000
set_option maxHeartbeats 1000000
namespace K67
open PySem PySem.Spec PyProof.Rows L2 LamX
theorem edO_put_no {lt : Addr → Option Str} {ls t : Str} {m a v : V} (h : putOk t ls a v = false) : edO lt ls t m (some [.str "put", a, v]) = none := by
  have e : edOut lt ls t m [.str "put", a, v] = none := by
    rw [edOut_put, if_neg (by rw [h]; simp)]
  exact e
theorem edO_cut_no {lt : Addr → Option Str} {ls t : Str} {m a v : V} (h : cutOk t a v = false) : edO lt ls t m (some [.str "cut", a, v]) = none := by
  have e : edOut lt ls t m [.str "cut", a, v] = none := wr_cut h
  exact e
theorem law_C {P : Program} {w : World} {K : PySem.W.Frag} {mg : Str → Option Value} {base : Heap} {T : Cls3} {C : Cls6} {tb : Tab3} {fS fL f c : Addr} (rc : RCtx P w K mg base T C tb fS fL) (TB : TabB base mg c tb.pl) {A : Around} {outer : List Env} {s : Shared} {H0 : Hp} {E : XK}
    (hgd : (A.deeper (envOfC "law" (defScope s_law) s.heap.objs.size f (.ref c))).guards = some []) (hr : Room 21 (A.deeper (envOfC "law" (defScope s_law) s.heap.objs.size f (.ref c)))) :
    ∃ t, PSs (cxOf CX0 P w K mg base NL "law" (defScope s_law) f (.ref c) A outer s H0 E) ((defBody s_law).drop 10) t ∧
      ∀ (D : Ends) (lt : Addr → Option Str) (one two e de p : Addr) (s : EdF) (x0 x1 x6 x7 : Option V) (G H : Hp), LA K T tb lt one two G → Fr G p → Rr T tb.T [e] G H → ES K T e de s 2 H → s.t = repS 97 60 → H p = some (.lst ((wL.take 7).map V.str)) → (∀ H', D.rt (.bl true) H') →
        t D [x0, x1, some (.ref one), some (.ref two), some (.ref e), some (.ref p), x6, x7] H := by
  have S := sc_law
  have B := rc.B
  have cf := rc.cf
  have mT : (tb.pl, ("law.<locals>.<lambda>" : Str)) ∈ tb.T := by simp [Tab3.T]
  obtain ⟨tD, pD, qD⟩ := law_D rc (A := A) (outer := outer) (s := s) (H0 := H0) (E := E) hr
  refine ⟨_, (pss_cons (ps_asg (pe_tup (pa_cons (pe_mk rc.ed2 hr (by decide) (by rfl) (E := E0) passL (pa_cons (pv 2) (pa_cons (pe_op op_strRep pe_str pe_int) pa_nil))) (pa_cons (pe_mk rc.ed2 hr (by decide) (by rfl) (E := E0) passL (pa_cons (pv 3) (pa_cons pe_str pa_nil))) pa_nil))) (pg_tup rfl (pgs_cons (pg_name (i := 6) S.nd rfl (Or.inr rfl)) (pgs_cons (pg_name (i := 7) S.nd rfl (Or.inr rfl)) pgs_nil))))
      (pss_cons (ps_expr (pe_bm PySem.F.plainAttrs_list PySem.F.slot_list_append PySem.F.type_list_append mt_append (pv 5) (pa_cons (pe_word rc.wf hgd (by rfl) TB rfl mT rc.hok.uniq hr (k := 15) (by decide) (by rfl) rfl (fun _ _ _ _ _ => rfl) (fun A outer s H E f c' hr2 => pe_mR (pv 6) rc.make hr2 (by decide) (E := E) passes_lam (pa_cons (pe_tup (pa_cons pe_str (pa_cons pe_int (pa_cons pe_str pa_nil)))) (pa_cons (pe_tup (pa_cons pe_str (pa_cons pe_int (pa_cons pe_int pa_nil)))) pa_nil)))) pa_nil)))
      (pss_cons (ps_expr (pe_bm PySem.F.plainAttrs_list PySem.F.slot_list_append PySem.F.type_list_append mt_append (pv 5) (pa_cons (pe_word rc.wf hgd (by rfl) TB rfl mT rc.hok.uniq hr (k := 15) (by decide) (by rfl) rfl (fun _ _ _ _ _ => rfl) (fun A outer s H E f c' hr2 => pe_mR (pv 7) rc.make hr2 (by decide) (E := E) passes_lam (pa_cons (pe_tup (pa_cons pe_str (pa_cons (pv 2) pa_nil))) (pa_cons (pe_tup (pa_cons pe_str (pa_cons pe_int (pa_cons pe_int pa_nil)))) pa_nil)))) pa_nil)))
      (pss_cons (ps_expr (pe_bm PySem.F.plainAttrs_list PySem.F.slot_list_append PySem.F.type_list_append mt_append (pv 5) (pa_cons (pe_word rc.wf hgd (by rfl) TB rfl mT rc.hok.uniq hr (k := 15) (by decide) (by rfl) rfl (fun _ _ _ _ _ => rfl) (fun A outer s H E f c' hr2 => pe_mR (pv 7) rc.make hr2 (by decide) (E := E) passes_lam (pa_cons (pe_tup (pa_cons pe_str (pa_cons pe_int (pa_cons pe_int pa_nil)))) (pa_cons (pe_tup (pa_cons pe_str (pa_cons (pv 2) pa_nil))) pa_nil)))) pa_nil)))
      pD)))), ?_⟩
  intro D lt one two e de p s0 x0 x1 x6 x7 G H la fp rG es ht hp q
  have laH := la.rr cf rG
  -- two more editors
  refine ⟨_, rfl, 97, 59, rfl, rfl, by decide, by decide, fun n dn hn hdn hne => ?_⟩
  have sm1 := made_same (C := T.e) (fs := []) hn hdn
  refine ed_ok cf upd_same ((laH.lt' _ _ la.l1).same sm1) (by decide +kernel) (by decide +kernel) fun H1 sn sE1 hpa1 _ _ hm1 ht1 he1 => ⟨rfl, ?_⟩
  have k1 := same_made hn hdn sE1
  refine ⟨_, rfl, fun o do' ho hdo hne2 => ?_⟩
  have sm2 := made_same (C := T.e) (fs := []) ho hdo
  refine ed_ok cf upd_same ((laH.lt' _ _ la.l2).same (k1.trans sm2)) (by decide +kernel) (by decide +kernel) fun H2 so sE2 hpa2 _ _ hm2 ht2 he2 => ⟨rfl, ?_⟩
  have k2 := same_made ho hdo sE2
  refine ⟨by show 2 ≤ sizeLine; decide, fun tp htp => ?_⟩
  have s3 : Same H2 (upd H2 tp (.tup [.ref n, .ref o])) := same_upd htp
  refine ⟨tp, _, rfl, SqT.of upd_same, rfl, _, _, rfl, _, _, rfl, rfl, ?_⟩
  generalize upd H2 tp (.tup [.ref n, .ref o]) = H3 at s3
  have k3 := (k1.trans k2).trans s3
  have esn : ES K T n dn sn 0 H3 := ⟨(k2.trans s3) _ _ he1, [], [], SqT.of ((k2.trans s3) _ _ hpa1), rfl, .nil⟩
  have eso : ES K T o do' so 0 H3 := ⟨s3 _ _ he2, [], [], SqT.of (s3 _ _ hpa2), rfl, .nil⟩
  have ese : ES K T e de s0 2 H3 := es.sm k3
  have hp3 := k3 _ _ hp
  have neo : n ≠ o := fun z => by rw [← z, he1] at ho; cases ho
  have eo : e ≠ o := fun z => by
    have := k1 _ _ es.he
    rw [z, ho] at this
    cases this
  have rGA : Rr T tb.T [e] G (hide p H3) := (rG.sm k3).new fp hp3 hide_E
  have laA := la.rr cf rGA
  have esnA := esn.at hide_E hp3
  have esoA := eso.at hide_E hp3
  have eseA := ese.at hide_E hp3
  have fpA : Fr (hide p H3) p := .of hide_no
  have rA : Rr T tb.T [o] (hide p H3) H3 := (Rr.refl (T := T) (Tb := tb.T) (M := [o]) fun a ha => by
    obtain rfl : a = o := by simpa using ha
    exact mutEd esoA.he esoA.he).sm hide_le
  generalize hide p H3 = A0 at *
  clear sm1 sm2 sE1 sE2 hpa1 hpa2 he1 he2 s3 htp k3 k1 k2 hn hdn ho hdo esn ese
  have fn : FitV lt (sn.m, sn.t) := by
    rw [hm1, ht1]
    exact ⟨"a", la.l1, (⟨by decide +kernel, by decide +kernel⟩ : Fit "a" (repS 97 59))⟩
  have fo : FitV lt (so.m, so.t) := by
    rw [hm2, ht2]
    exact ⟨"ab", la.l2, (⟨by decide +kernel, by decide +kernel⟩ : Fit "ab" "b")⟩
  have bn : ∀ {os : List (Option (List V))}, runO lt (sn.m, sn.t) (some [.str "put", .int 0, .str "aa"] :: os) = none := fun {os} => by
    rw [hm1, ht1]
    exact runO_bad (stepO_bad la.l1 (edO_put_no (by decide +kernel)))
  have bo : ∀ {os : List (Option (List V))}, runO lt (so.m, so.t) (some [.str "use", .ref one] :: os) = none := fun {os} => by
    rw [hm2, ht2]
    exact runO_bad (stepO_bad la.l2 (edO_use_bad la.l1 (by decide +kernel)))
  have go : runO lt (so.m, so.t) [some [.str "cut", .int 0, .int 1], some [.str "use", .ref one]] = some (one, ("" : Str)) := by
    rw [hm2, ht2]
    have e1 : cutO "b" 0 1 = "" := by decide +kernel
    have h1 := edO_cut (lt := lt) (ls := "ab") (t := "b") (m := .ref two) (i := 0) (n := 1) (by decide +kernel)
    rw [e1] at h1
    rw [runO_cons (stepO_ok la.l2 h1), runO_cons (stepO_ok la.l2 (edO_use la.l1 (by decide +kernel)))]
    rfl
  refine st_wordJ (ES K T o do' so 0) (z := "edit") laA.tabs rA rfl hp3 (by show 7 < 60; decide) fpA (fun H1 r1 e1 hp1 Q1 q1 => ?_) fun Hm H4 j4 sE4 hpm4 r4 hp4 => ?_
  · have esn1 := esnA.rr r1 (by simp [neo])
    obtain ⟨he, ps, sts, h1, h2, h3⟩ := esn1
    refine ⟨_, rfl, n, dn, _, rfl, he, rfl, by show 3 ≤ sizeLine; decide, fun a1 ha1 => ⟨by show 3 ≤ sizeLine; decide, fun a2 ha2 => ?_⟩⟩
    have sa : Same H1 _ := (same_upd ha1 (o := .tup [.str "put", .int 0, .str "aa"])).trans (same_upd ha2 (o := .tup [.str "cut", .int 0, .int 5]))
    have g1 := same_upd ha2 (o := .tup [.str "cut", .int 0, .int 5]) _ _ (upd_same (H := H1) (a := a1) (o := .tup [.str "put", .int 0, .str "aa"]))
    have g2 : upd (upd H1 a1 (.tup [.str "put", .int 0, .str "aa"])) a2 (.tup [.str "cut", .int 0, .int 5]) a2 = some (.tup [.str "cut", .int 0, .int 5]) := upd_same
    generalize upd (upd H1 a1 (.tup [.str "put", .int 0, .str "aa"])) a2 (.tup [.str "cut", .int 0, .int 5]) = Hn at sa g1 g2
    show spMk K T C.e [.ref n, .ref a1, .ref a2] Hn (fun _ H' => Q1 (.str "returned") H') (WdE K C Q1)
    exact mk_bad (sa _ _ he) (seqT sa h1) (by omega) ((r1.sm sa).lt cf laA.lt') fn (by simp) (.inr ⟨_, .cons (edt_consts g1 (by decide +kernel)) (.cons (edt_consts g2 (by decide +kernel)) .nil), bn⟩) fun H2 s2 => wd_e (q1 H2 ((r1.sm sa).sm s2) (s2 _ _ (sa _ _ hp1)) (((eso.ext e1).sm sa).sm s2))
  have es4 := j4.at sE4 hpm4
  clear j4 sE4 hpm4 eso
  refine st_wordJ (ES K T o do' so 0) (z := "edit") laA.tabs r4 rfl hp4 (by show 8 < 60; decide) fpA (fun H1 r1 e1 hp1 Q1 q1 => ?_) fun Hm H5 j5 sE5 hpm5 r5 hp5 => ?_
  · have es1 := es4.ext e1
    obtain ⟨he, ps, sts, h1, h2, h3⟩ := id es1
    refine ⟨_, rfl, o, do', _, rfl, he, rfl, _, rfl, by show 2 ≤ sizeLine; decide, fun a1 ha1 => ⟨by show 3 ≤ sizeLine; decide, fun a2 ha2 => ?_⟩⟩
    have sa : Same H1 _ := (same_upd ha1 (o := .tup [.str "use", .ref one])).trans (same_upd ha2 (o := .tup [.str "cut", .int 0, .int 1]))
    have g1 := same_upd ha2 (o := .tup [.str "cut", .int 0, .int 1]) _ _ (upd_same (H := H1) (a := a1) (o := .tup [.str "use", .ref one]))
    have g2 : upd (upd H1 a1 (.tup [.str "use", .ref one])) a2 (.tup [.str "cut", .int 0, .int 1]) a2 = some (.tup [.str "cut", .int 0, .int 1]) := upd_same
    generalize upd (upd H1 a1 (.tup [.str "use", .ref one])) a2 (.tup [.str "cut", .int 0, .int 1]) = Hn at sa g1 g2
    show spMk K T C.e [.ref o, .ref a1, .ref a2] Hn (fun _ H' => Q1 (.str "returned") H') (WdE K C Q1)
    have lta := (r1.sm sa).lt cf laA.lt'
    exact mk_bad (sa _ _ he) (seqT sa h1) (by omega) lta fo (by simp) (.inr ⟨_, .cons (edt_use cf lta la.l1 g1) (.cons (edt_consts g2 (by decide +kernel)) .nil), bo⟩) fun H2 s2 => wd_e (q1 H2 ((r1.sm sa).sm s2) (s2 _ _ (sa _ _ hp1)) ((es1.sm sa).sm s2))
  have es5 := j5.at sE5 hpm5
  clear j5 sE5 hpm5 es4
  refine st_wordJ (fun _ => True) (z := "returned") laA.tabs r5 rfl hp5 (by show 9 < 60; decide) fpA (fun H1 r1 e1 hp1 Q1 q1 => ?_) fun Hm H6 j6 sE6 hpm6 r6 hp6 => ?_
  · have es1 := es5.ext e1
    obtain ⟨he, ps, sts, h1, h2, h3⟩ := id es1
    refine ⟨_, rfl, o, do', _, rfl, he, rfl, by show 3 ≤ sizeLine; decide, fun a1 ha1 => ⟨_, rfl, by show 2 ≤ sizeLine; decide, fun a2 ha2 => ?_⟩⟩
    have sa : Same H1 _ := (same_upd ha1 (o := .tup [.str "cut", .int 0, .int 1])).trans (same_upd ha2 (o := .tup [.str "use", .ref one]))
    have g1 := same_upd ha2 (o := .tup [.str "use", .ref one]) _ _ (upd_same (H := H1) (a := a1) (o := .tup [.str "cut", .int 0, .int 1]))
    have g2 : upd (upd H1 a1 (.tup [.str "cut", .int 0, .int 1])) a2 (.tup [.str "use", .ref one]) a2 = some (.tup [.str "use", .ref one]) := upd_same
    generalize upd (upd H1 a1 (.tup [.str "cut", .int 0, .int 1])) a2 (.tup [.str "use", .ref one]) = Hn at sa g1 g2
    show spMk K T C.e [.ref o, .ref a1, .ref a2] Hn (fun _ H' => Q1 (.str "returned") H') (WdE K C Q1)
    have lta := (r1.sm sa).lt cf laA.lt'
    have npo : p ≠ o := fun z => by rw [z, he] at hp1; cases hp1
    exact mk_ok (r := (one, "")) (sa _ _ he) (seqT sa h1) (by omega) lta fo (by simp) (by simp) (.cons (edt_consts g1 (by decide +kernel)) (.cons (edt_use cf lta la.l1 g2) .nil)) go fun H2 mk wd bf res pa un pr vr p' s2 _ _ _ _ _ _ _ _ he2 => q1 H2 ((r1.sm sa).ed (by simp) s2 (sa _ _ he) he2) (s2 _ _ npo (sa _ _ hp1)) True.intro
  exact qD D lt one two e de p s0 _ _ _ _ H6 (laA.rr cf r6) (eseA.rr r6 (by simp [eo])) ht hp6 q
end K67
end
section
set_option Elab.async false
set_option linter.all false
set_option maxRecDepth 100000
set_option maxHeartbeats 1000000
namespace K67
open PySem PySem.Spec PyProof.Rows L2 LamX
theorem LogAt.snoc {H : Hp} {a : Addr} {v st : V} (h : H a = some (.tup [v, st])) : ∀ {ps sts : List V}, LogAt H ps sts → LogAt H (ps ++ [.ref a]) (sts ++ [st])
  | _, _, .nil => .cons ⟨a, v, rfl, h⟩ .nil
  | _, _, .cons g t => .cons g (LogAt.snoc h t)
theorem ES.next {K : PySem.W.Frag} {T : Cls3} {H H' : Hp} {e de pr vr p' : Addr} {s s' : EdF} {n : Nat} {ps sts : List V} (he : H e = some (.ins T.e de (edF s))) (hl : ps.length = n) (hg : LogAt H ps sts) (sE : SameE e H H') (he' : H' e = some (.ins T.e de (edF s'))) (hpr : H' pr = some (.tup [.ref vr, .ref p'])) (hpa : H' s'.past = some (.tup (ps ++ [.ref pr]))) : ES K T e de s' (n + 1) H' := by
  refine ⟨he', ps ++ [.ref pr], sts ++ [.ref p'], SqT.of hpa, by rw [List.length_append, hl]; rfl, LogAt.snoc hpr ?_⟩
  clear hpa hl
  induction hg with
  | nil => exact .nil
  | cons h t ih =>
    obtain ⟨a, v, e1, e2⟩ := h
    exact .cons ⟨a, v, e1, sE _ _ (fun z => by rw [z, he] at e2; cases e2) e2⟩ ih
abbrev tB : Str := putS (repS 97 59) "b" 0
theorem law_B {P : Program} {w : World} {K : PySem.W.Frag} {mg : Str → Option Value} {base : Heap} {T : Cls3} {C : Cls6} {tb : Tab3} {fS fL f c : Addr} (rc : RCtx P w K mg base T C tb fS fL) (TB : TabB base mg c tb.pl) {A : Around} {outer : List Env} {s : Shared} {H0 : Hp} {E : XK}
    (hgd : (A.deeper (envOfC "law" (defScope s_law) s.heap.objs.size f (.ref c))).guards = some []) (hr : Room 21 (A.deeper (envOfC "law" (defScope s_law) s.heap.objs.size f (.ref c)))) :
    ∃ t, PSs (cxOf CX0 P w K mg base NL "law" (defScope s_law) f (.ref c) A outer s H0 E) ((defBody s_law).drop 3) t ∧
      ∀ (D : Ends) (lt : Addr → Option Str) (one two e de : Addr) (s : EdF) (x0 x1 x5 x6 x7 : Option V) (G : Hp), LA K T tb lt one two G → ES K T e de s 0 G → s.m = one → s.t = repS 97 59 → (∀ H', D.rt (.bl true) H') →
        t D [x0, x1, some (.ref one), some (.ref two), some (.ref e), x5, x6, x7] G := by
  have S := sc_law
  have B := rc.B
  have cf := rc.cf
  have mT : (tb.pl, ("law.<locals>.<lambda>" : Str)) ∈ tb.T := by simp [Tab3.T]
  obtain ⟨tD, pD, qD⟩ := law_C rc TB (A := A) (outer := outer) (s := s) (H0 := H0) (E := E) hgd hr
  refine ⟨_, (pss_cons (ps_set (i := 5) S.nd rfl (.inl rfl) (pe_lst (pa_cons (pe_word rc.wf hgd (by rfl) TB rfl mT rc.hok.uniq hr (k := 15) (by decide) (by rfl) rfl (fun _ _ _ _ _ => rfl) (fun A outer s H E f c' hr2 => pe_mR (pv 4) rc.make hr2 (by decide) (E := E) passes_lam (pa_cons (pe_tup (pa_cons pe_str (pa_cons pe_int (pa_cons pe_str pa_nil)))) pa_nil))) pa_nil)))
      (pss_cons (ps_expr (pe_bm PySem.F.plainAttrs_list PySem.F.slot_list_append PySem.F.type_list_append mt_append (pv 5) (pa_cons (pe_word rc.wf hgd (by rfl) TB rfl mT rc.hok.uniq hr (k := 15) (by decide) (by rfl) rfl (fun _ _ _ _ _ => rfl) (fun A outer s H E f c' hr2 => pe_mR (pv 4) rc.make hr2 (by decide) (E := E) passes_lam (pa_cons (pe_tup (pa_cons pe_str (pa_cons pe_int (pa_cons pe_str pa_nil)))) (pa_cons (pe_tup (pa_cons pe_str (pa_cons (pv 3) pa_nil))) pa_nil)))) pa_nil)))
      (pss_cons (ps_expr (pe_bm PySem.F.plainAttrs_list PySem.F.slot_list_append PySem.F.type_list_append mt_append (pv 5) (pa_cons (pe_word rc.wf hgd (by rfl) TB rfl mT rc.hok.uniq hr (k := 15) (by decide) (by rfl) rfl (fun _ _ _ _ _ => rfl) (fun A outer s H E f c' hr2 => pe_mR (pv 4) rc.make hr2 (by decide) (E := E) passes_lam (pa_cons (pe_tup (pa_cons pe_str (pa_cons (pv 3) pa_nil))) (pa_cons (pe_tup (pa_cons pe_str (pa_cons pe_int (pa_cons pe_str pa_nil)))) pa_nil)))) pa_nil)))
      (pss_cons (ps_expr (pe_bm PySem.F.plainAttrs_list PySem.F.slot_list_append PySem.F.type_list_append mt_append (pv 5) (pa_cons (pe_word rc.wf hgd (by rfl) TB rfl mT rc.hok.uniq hr (k := 15) (by decide) (by rfl) rfl (fun _ _ _ _ _ => rfl) (fun A outer s H E f c' hr2 => pe_mR (pv 4) rc.make hr2 (by decide) (E := E) passes_lam (pa_cons (pe_tup (pa_cons pe_str (pa_cons (pv 2) pa_nil))) pa_nil))) pa_nil)))
      (pss_cons (ps_expr (pe_bm PySem.F.plainAttrs_list PySem.F.slot_list_append PySem.F.type_list_append mt_append (pv 5) (pa_cons (pe_word rc.wf hgd (by rfl) TB rfl mT rc.hok.uniq hr (k := 15) (by decide) (by rfl) rfl (fun _ _ _ _ _ => rfl) (fun A outer s H E f c' hr2 => pe_mR (pv 4) rc.make hr2 (by decide) (E := E) passes_lam (pa_cons (pe_tup (pa_cons pe_str (pa_cons pe_int (pa_cons pe_str pa_nil)))) pa_nil))) pa_nil)))
      (pss_cons (ps_expr (pe_bm PySem.F.plainAttrs_list PySem.F.slot_list_append PySem.F.type_list_append mt_append (pv 5) (pa_cons (pe_word rc.wf hgd (by rfl) TB rfl mT rc.hok.uniq hr (k := 15) (by decide) (by rfl) rfl (fun _ _ _ _ _ => rfl) (fun A outer s H E f c' hr2 => pe_mR (pv 4) rc.make hr2 (by decide) (E := E) passes_lam (pa_cons (pe_tup (pa_cons pe_str (pa_cons pe_int (pa_cons pe_int pa_nil)))) (pa_cons (pe_tup (pa_cons pe_str (pa_cons (pv 2) pa_nil))) (pa_cons (pe_tup (pa_cons pe_str (pa_cons pe_int (pa_cons pe_str pa_nil)))) pa_nil))))) pa_nil)))
      (pss_cons (ps_expr (pe_bm PySem.F.plainAttrs_list PySem.F.slot_list_append PySem.F.type_list_append mt_append (pv 5) (pa_cons (pe_word rc.wf hgd (by rfl) TB rfl mT rc.hok.uniq hr (k := 15) (by decide) (by rfl) rfl (fun _ _ _ _ _ => rfl) (fun A outer s H E f c' hr2 => pe_mR (pv 4) rc.make hr2 (by decide) (E := E) passes_lam (pa_cons (pe_tup (pa_cons pe_str (pa_cons pe_int (pa_cons pe_int pa_nil)))) pa_nil))) pa_nil)))
      pD))))))), ?_⟩
  intro D lt one two e de s0 x0 x1 x5 x6 x7 G la es0 hm ht q
  have f0 : FitV lt (s0.m, s0.t) := by
    rw [hm, ht]
    exact ⟨"a", la.l1, (⟨by decide +kernel, by decide +kernel⟩ : Fit "a" (repS 97 59))⟩
  have f1 : FitV lt (two, tB) := ⟨"ab", la.l2, (⟨by decide +kernel, by decide +kernel⟩ : Fit "ab" tB)⟩
  have b1 : ∀ {os : List (Option (List V))}, runO lt (s0.m, s0.t) (some [.str "put", .int 59, .str "aa"] :: os) = none := fun {os} => by
    rw [hm, ht]
    exact runO_bad (stepO_bad la.l1 (edO_put_no (by decide +kernel)))
  have b2 : ∀ {os : List (Option (List V))}, runO lt (s0.m, s0.t) (some [.str "put", .int 0, .str "b"] :: os) = none := fun {os} => by
    rw [hm, ht]
    exact runO_bad (stepO_bad la.l1 (edO_put_no (by decide +kernel)))
  have g3 : runO lt (s0.m, s0.t) [some [.str "use", .ref two], some [.str "put", .int 0, .str "b"]] = some (two, tB) := by
    rw [hm, ht, runO_cons (stepO_ok la.l1 (edO_use la.l2 (by decide +kernel))), runO_cons (stepO_ok la.l2 (edO_put (by decide +kernel)))]
    rfl
  have b4 : ∀ {os : List (Option (List V))}, runO lt (two, tB) (some [.str "use", .ref one] :: os) = none := fun {os} => runO_bad (stepO_bad la.l2 (edO_use_bad la.l1 (by decide +kernel)))
  have b5 : ∀ {os : List (Option (List V))}, runO lt (two, tB) (some [.str "put", .int 60, .str "a"] :: os) = none := fun {os} => runO_bad (stepO_bad la.l2 (edO_put_no (by decide +kernel)))
  have g6 : runO lt (two, tB) [some [.str "cut", .int 0, .int 1], some [.str "use", .ref one], some [.str "put", .int 59, .str "a"]] = some (one, repS 97 60) := by
    have e1 : cutO tB 0 1 = repS 97 59 := by decide +kernel
    have h1 := edO_cut (lt := lt) (ls := "ab") (t := tB) (m := .ref two) (i := 0) (n := 1) (by decide +kernel)
    rw [e1] at h1
    have e2 : putS (repS 97 59) "a" 59 = repS 97 60 := by decide +kernel
    have h2 := edO_put (lt := lt) (ls := "a") (t := repS 97 59) (z := "a") (m := .ref one) (i := 59) (by decide +kernel)
    rw [e2] at h2
    rw [runO_cons (stepO_ok la.l2 h1), runO_cons (stepO_ok la.l2 (edO_use la.l1 (by decide +kernel))), runO_cons (stepO_ok la.l1 h2)]
    rfl
  have b7 : ∀ {os : List (Option (List V))}, runO lt (one, repS 97 60) (some [.str "cut", .int 0, .int 0] :: os) = none := fun {os} => runO_bad (stepO_bad la.l1 (edO_cut_no (by decide +kernel)))
  have f6 : FitV lt (one, repS 97 60) := ⟨"a", la.l1, (⟨by decide +kernel, by decide +kernel⟩ : Fit "a" (repS 97 60))⟩
  have rA : Rr T tb.T [e] G G := Rr.refl fun a ha => by
    obtain rfl : a = e := by simpa using ha
    exact mutEd es0.he es0.he
  refine st_word1J (ES K T e de s0 0) (z := "edit") la.tabs rA (fun H1 r1 e1 Q1 q1 => ?_) fun Hm H1 p j1 s1 hpm r1 fp hp1 => ?_
  · have es1 := es0.ext e1
    obtain ⟨he, ps, sts, h1, h2, h3⟩ := id es1
    refine ⟨_, rfl, e, de, _, rfl, he, rfl, by show 3 ≤ sizeLine; decide, fun a1 ha1 => ?_⟩
    have sa : Same H1 (upd H1 a1 (.tup [.str "put", .int 59, .str "aa"])) := (same_upd ha1 (o := .tup [.str "put", .int 59, .str "aa"]))
    have g1 : (upd H1 a1 (.tup [.str "put", .int 59, .str "aa"])) a1 = some (.tup [.str "put", .int 59, .str "aa"]) := (upd_same : (upd H1 a1 (.tup [.str "put", .int 59, .str "aa"])) a1 = some (.tup [.str "put", .int 59, .str "aa"]))
    generalize upd H1 a1 (.tup [.str "put", .int 59, .str "aa"]) = Hn at sa g1
    show spMk K T C.e [.ref e, .ref a1] Hn (fun _ H' => Q1 (.str "returned") H') (WdE K C Q1)
    have lta := (r1.sm sa).lt cf la.lt'
    exact mk_bad (sa _ _ he) (seqT sa h1) (by omega) lta f0 (by simp) (.inr ⟨_, (.cons (edt_consts g1 (by decide +kernel)) .nil), b1⟩) fun H2 s2 => wd_e (q1 H2 ((r1.sm sa).sm s2) ((es1.sm sa).sm s2))
  have es1 := j1.sm s1
  clear s1 hpm j1
  replace fp : Fr G p := fp
  refine st_wordJ (ES K T e de s0 0) (z := "edit") la.tabs r1 rfl hp1 (by show 1 < 60; decide) fp (fun H1 r1 e1 hp1 Q1 q1 => ?_) fun Hm H2 j2 s2 hpm r2 hp2 => ?_
  · have es1 := es1.ext e1
    obtain ⟨he, ps, sts, h1, h2, h3⟩ := id es1
    refine ⟨_, rfl, e, de, _, rfl, he, rfl, by show 3 ≤ sizeLine; decide, fun a1 ha1 => ⟨_, rfl, by show 2 ≤ sizeLine; decide, fun a2 ha2 => ?_⟩⟩
    have sa : Same H1 (upd (upd H1 a1 (.tup [.str "put", .int 0, .str "b"])) a2 (.tup [.str "use", .ref two])) := ((same_upd ha1 (o := .tup [.str "put", .int 0, .str "b"])).trans (same_upd ha2 (o := .tup [.str "use", .ref two])))
    have g1 : (upd (upd H1 a1 (.tup [.str "put", .int 0, .str "b"])) a2 (.tup [.str "use", .ref two])) a1 = some (.tup [.str "put", .int 0, .str "b"]) := (same_upd ha2 (o := .tup [.str "use", .ref two]) _ _ (upd_same : (upd H1 a1 (.tup [.str "put", .int 0, .str "b"])) a1 = some (.tup [.str "put", .int 0, .str "b"])))
    have g2 : (upd (upd H1 a1 (.tup [.str "put", .int 0, .str "b"])) a2 (.tup [.str "use", .ref two])) a2 = some (.tup [.str "use", .ref two]) := (upd_same : (upd (upd H1 a1 (.tup [.str "put", .int 0, .str "b"])) a2 (.tup [.str "use", .ref two])) a2 = some (.tup [.str "use", .ref two]))
    generalize upd (upd H1 a1 (.tup [.str "put", .int 0, .str "b"])) a2 (.tup [.str "use", .ref two]) = Hn at sa g1 g2
    show spMk K T C.e [.ref e, .ref a1, .ref a2] Hn (fun _ H' => Q1 (.str "returned") H') (WdE K C Q1)
    have lta := (r1.sm sa).lt cf la.lt'
    exact mk_bad (sa _ _ he) (seqT sa h1) (by omega) lta f0 (by simp) (.inr ⟨_, (.cons (edt_consts g1 (by decide +kernel)) (.cons (edt_use cf lta la.l2 g2) .nil)), b2⟩) fun H2 s2 => wd_e (q1 H2 ((r1.sm sa).sm s2) (s2 _ _ (sa _ _ hp1)) ((es1.sm sa).sm s2))
  have es2 := j2.at s2 hpm
  clear s2 hpm j2
  refine st_wordJ (fun H' => ∃ s', s'.m = two ∧ s'.t = tB ∧ ES K T e de s' 1 H') (z := "returned") la.tabs r2 rfl hp2 (by show 2 < 60; decide) fp (fun H1 r1 e1 hp1 Q1 q1 => ?_) fun Hm H3 j3 s3 hpm r3 hp3 => ?_
  · have es1 := es2.ext e1
    obtain ⟨he, ps, sts, h1, h2, h3⟩ := id es1
    refine ⟨_, rfl, e, de, _, rfl, he, rfl, _, rfl, by show 2 ≤ sizeLine; decide, fun a1 ha1 => ⟨by show 3 ≤ sizeLine; decide, fun a2 ha2 => ?_⟩⟩
    have sa : Same H1 (upd (upd H1 a1 (.tup [.str "use", .ref two])) a2 (.tup [.str "put", .int 0, .str "b"])) := ((same_upd ha1 (o := .tup [.str "use", .ref two])).trans (same_upd ha2 (o := .tup [.str "put", .int 0, .str "b"])))
    have g1 : (upd (upd H1 a1 (.tup [.str "use", .ref two])) a2 (.tup [.str "put", .int 0, .str "b"])) a1 = some (.tup [.str "use", .ref two]) := (same_upd ha2 (o := .tup [.str "put", .int 0, .str "b"]) _ _ (upd_same : (upd H1 a1 (.tup [.str "use", .ref two])) a1 = some (.tup [.str "use", .ref two])))
    have g2 : (upd (upd H1 a1 (.tup [.str "use", .ref two])) a2 (.tup [.str "put", .int 0, .str "b"])) a2 = some (.tup [.str "put", .int 0, .str "b"]) := (upd_same : (upd (upd H1 a1 (.tup [.str "use", .ref two])) a2 (.tup [.str "put", .int 0, .str "b"])) a2 = some (.tup [.str "put", .int 0, .str "b"]))
    generalize upd (upd H1 a1 (.tup [.str "use", .ref two])) a2 (.tup [.str "put", .int 0, .str "b"]) = Hn at sa g1 g2
    show spMk K T C.e [.ref e, .ref a1, .ref a2] Hn (fun _ H' => Q1 (.str "returned") H') (WdE K C Q1)
    have lta := (r1.sm sa).lt cf la.lt'
    have npo : p ≠ e := fun z => by rw [z, he] at hp1; cases hp1
    have lg : LogAt Hn ps sts := LogAt.same sa h3
    exact mk_ok (r := (two, tB)) (sa _ _ he) (seqT sa h1) (by omega) lta f0 (by simp) (by simp) (.cons (edt_use cf lta la.l2 g1) (.cons (edt_consts g2 (by decide +kernel)) .nil)) g3 fun H2 mk wd bf res pa un pr vr p' s2 _ _ _ _ _ hpr hpa _ he2 => q1 H2 ((r1.sm sa).ed (by simp) s2 (sa _ _ he) he2) (s2 _ _ npo (sa _ _ hp1)) ⟨⟨pa, un, bf, _, _, mk, wd, res⟩, rfl, rfl, ES.next (sa _ _ he) h2 lg s2 he2 hpr hpa⟩
  obtain ⟨sB, hmB, htB, jB⟩ := j3
  have es3 := jB.at s3 hpm
  clear s3 hpm jB
  have fB : FitV lt (sB.m, sB.t) := by rw [hmB, htB]; exact f1
  refine st_wordJ (ES K T e de sB 1) (z := "edit") la.tabs r3 rfl hp3 (by show 3 < 60; decide) fp (fun H1 r1 e1 hp1 Q1 q1 => ?_) fun Hm H4 j4 s4 hpm r4 hp4 => ?_
  · have es1 := es3.ext e1
    obtain ⟨he, ps, sts, h1, h2, h3⟩ := id es1
    refine ⟨_, rfl, e, de, _, rfl, he, rfl, _, rfl, by show 2 ≤ sizeLine; decide, fun a1 ha1 => ?_⟩
    have sa : Same H1 (upd H1 a1 (.tup [.str "use", .ref one])) := (same_upd ha1 (o := .tup [.str "use", .ref one]))
    have g1 : (upd H1 a1 (.tup [.str "use", .ref one])) a1 = some (.tup [.str "use", .ref one]) := (upd_same : (upd H1 a1 (.tup [.str "use", .ref one])) a1 = some (.tup [.str "use", .ref one]))
    generalize upd H1 a1 (.tup [.str "use", .ref one]) = Hn at sa g1
    show spMk K T C.e [.ref e, .ref a1] Hn (fun _ H' => Q1 (.str "returned") H') (WdE K C Q1)
    have lta := (r1.sm sa).lt cf la.lt'
    exact mk_bad (sa _ _ he) (seqT sa h1) (by omega) lta fB (by simp) (.inr ⟨_, (.cons (edt_use cf lta la.l1 g1) .nil), (by rw [hmB, htB]; exact b4)⟩) fun H2 s2 => wd_e (q1 H2 ((r1.sm sa).sm s2) (s2 _ _ (sa _ _ hp1)) ((es1.sm sa).sm s2))
  have es4 := j4.at s4 hpm
  clear s4 hpm j4
  refine st_wordJ (ES K T e de sB 1) (z := "edit") la.tabs r4 rfl hp4 (by show 4 < 60; decide) fp (fun H1 r1 e1 hp1 Q1 q1 => ?_) fun Hm H5 j5 s5 hpm r5 hp5 => ?_
  · have es1 := es4.ext e1
    obtain ⟨he, ps, sts, h1, h2, h3⟩ := id es1
    refine ⟨_, rfl, e, de, _, rfl, he, rfl, by show 3 ≤ sizeLine; decide, fun a1 ha1 => ?_⟩
    have sa : Same H1 (upd H1 a1 (.tup [.str "put", .int 60, .str "a"])) := (same_upd ha1 (o := .tup [.str "put", .int 60, .str "a"]))
    have g1 : (upd H1 a1 (.tup [.str "put", .int 60, .str "a"])) a1 = some (.tup [.str "put", .int 60, .str "a"]) := (upd_same : (upd H1 a1 (.tup [.str "put", .int 60, .str "a"])) a1 = some (.tup [.str "put", .int 60, .str "a"]))
    generalize upd H1 a1 (.tup [.str "put", .int 60, .str "a"]) = Hn at sa g1
    show spMk K T C.e [.ref e, .ref a1] Hn (fun _ H' => Q1 (.str "returned") H') (WdE K C Q1)
    have lta := (r1.sm sa).lt cf la.lt'
    exact mk_bad (sa _ _ he) (seqT sa h1) (by omega) lta fB (by simp) (.inr ⟨_, (.cons (edt_consts g1 (by decide +kernel)) .nil), (by rw [hmB, htB]; exact b5)⟩) fun H2 s2 => wd_e (q1 H2 ((r1.sm sa).sm s2) (s2 _ _ (sa _ _ hp1)) ((es1.sm sa).sm s2))
  have es5 := j5.at s5 hpm
  clear s5 hpm j5
  refine st_wordJ (fun H' => ∃ s', s'.m = one ∧ s'.t = repS 97 60 ∧ ES K T e de s' 2 H') (z := "returned") la.tabs r5 rfl hp5 (by show 5 < 60; decide) fp (fun H1 r1 e1 hp1 Q1 q1 => ?_) fun Hm H6 j6 s6 hpm r6 hp6 => ?_
  · have es1 := es5.ext e1
    obtain ⟨he, ps, sts, h1, h2, h3⟩ := id es1
    refine ⟨_, rfl, e, de, _, rfl, he, rfl, by show 3 ≤ sizeLine; decide, fun a1 ha1 => ⟨_, rfl, by show 2 ≤ sizeLine; decide, fun a2 ha2 => ⟨by show 3 ≤ sizeLine; decide, fun a3 ha3 => ?_⟩⟩⟩
    have sa : Same H1 (upd (upd (upd H1 a1 (.tup [.str "cut", .int 0, .int 1])) a2 (.tup [.str "use", .ref one])) a3 (.tup [.str "put", .int 59, .str "a"])) := (((same_upd ha1 (o := .tup [.str "cut", .int 0, .int 1])).trans (same_upd ha2 (o := .tup [.str "use", .ref one]))).trans (same_upd ha3 (o := .tup [.str "put", .int 59, .str "a"])))
    have g1 : (upd (upd (upd H1 a1 (.tup [.str "cut", .int 0, .int 1])) a2 (.tup [.str "use", .ref one])) a3 (.tup [.str "put", .int 59, .str "a"])) a1 = some (.tup [.str "cut", .int 0, .int 1]) := (same_upd ha3 (o := .tup [.str "put", .int 59, .str "a"]) _ _ (same_upd ha2 (o := .tup [.str "use", .ref one]) _ _ (upd_same : (upd H1 a1 (.tup [.str "cut", .int 0, .int 1])) a1 = some (.tup [.str "cut", .int 0, .int 1]))))
    have g2 : (upd (upd (upd H1 a1 (.tup [.str "cut", .int 0, .int 1])) a2 (.tup [.str "use", .ref one])) a3 (.tup [.str "put", .int 59, .str "a"])) a2 = some (.tup [.str "use", .ref one]) := (same_upd ha3 (o := .tup [.str "put", .int 59, .str "a"]) _ _ (upd_same : (upd (upd H1 a1 (.tup [.str "cut", .int 0, .int 1])) a2 (.tup [.str "use", .ref one])) a2 = some (.tup [.str "use", .ref one])))
    have g3 : (upd (upd (upd H1 a1 (.tup [.str "cut", .int 0, .int 1])) a2 (.tup [.str "use", .ref one])) a3 (.tup [.str "put", .int 59, .str "a"])) a3 = some (.tup [.str "put", .int 59, .str "a"]) := (upd_same : (upd (upd (upd H1 a1 (.tup [.str "cut", .int 0, .int 1])) a2 (.tup [.str "use", .ref one])) a3 (.tup [.str "put", .int 59, .str "a"])) a3 = some (.tup [.str "put", .int 59, .str "a"]))
    generalize upd (upd (upd H1 a1 (.tup [.str "cut", .int 0, .int 1])) a2 (.tup [.str "use", .ref one])) a3 (.tup [.str "put", .int 59, .str "a"]) = Hn at sa g1 g2 g3
    show spMk K T C.e [.ref e, .ref a1, .ref a2, .ref a3] Hn (fun _ H' => Q1 (.str "returned") H') (WdE K C Q1)
    have lta := (r1.sm sa).lt cf la.lt'
    have npo : p ≠ e := fun z => by rw [z, he] at hp1; cases hp1
    have lg : LogAt Hn ps sts := LogAt.same sa h3
    exact mk_ok (r := (one, repS 97 60)) (sa _ _ he) (seqT sa h1) (by omega) lta fB (by simp) (by simp) (.cons (edt_consts g1 (by decide +kernel)) (.cons (edt_use cf lta la.l1 g2) (.cons (edt_consts g3 (by decide +kernel)) .nil))) (by rw [hmB, htB]; exact g6) fun H2 mk wd bf res pa un pr vr p' s2 _ _ _ _ _ hpr hpa _ he2 => q1 H2 ((r1.sm sa).ed (by simp) s2 (sa _ _ he) he2) (s2 _ _ npo (sa _ _ hp1)) ⟨⟨pa, un, bf, _, _, mk, wd, res⟩, rfl, rfl, ES.next (sa _ _ he) h2 lg s2 he2 hpr hpa⟩
  obtain ⟨sC, hmC, htC, jC⟩ := j6
  have es6 := jC.at s6 hpm
  clear s6 hpm jC
  have fC : FitV lt (sC.m, sC.t) := by rw [hmC, htC]; exact f6
  refine st_wordJ (ES K T e de sC 2) (z := "edit") la.tabs r6 rfl hp6 (by show 6 < 60; decide) fp (fun H1 r1 e1 hp1 Q1 q1 => ?_) fun Hm H7 j7 s7 hpm r7 hp7 => ?_
  · have es1 := es6.ext e1
    obtain ⟨he, ps, sts, h1, h2, h3⟩ := id es1
    refine ⟨_, rfl, e, de, _, rfl, he, rfl, by show 3 ≤ sizeLine; decide, fun a1 ha1 => ?_⟩
    have sa : Same H1 (upd H1 a1 (.tup [.str "cut", .int 0, .int 0])) := (same_upd ha1 (o := .tup [.str "cut", .int 0, .int 0]))
    have g1 : (upd H1 a1 (.tup [.str "cut", .int 0, .int 0])) a1 = some (.tup [.str "cut", .int 0, .int 0]) := (upd_same : (upd H1 a1 (.tup [.str "cut", .int 0, .int 0])) a1 = some (.tup [.str "cut", .int 0, .int 0]))
    generalize upd H1 a1 (.tup [.str "cut", .int 0, .int 0]) = Hn at sa g1
    show spMk K T C.e [.ref e, .ref a1] Hn (fun _ H' => Q1 (.str "returned") H') (WdE K C Q1)
    have lta := (r1.sm sa).lt cf la.lt'
    exact mk_bad (sa _ _ he) (seqT sa h1) (by omega) lta fC (by simp) (.inr ⟨_, (.cons (edt_consts g1 (by decide +kernel)) .nil), (by rw [hmC, htC]; exact b7)⟩) fun H2 s2 => wd_e (q1 H2 ((r1.sm sa).sm s2) (s2 _ _ (sa _ _ hp1)) ((es1.sm sa).sm s2))
  have es7 := j7.at s7 hpm
  exact qD D lt one two e de p sC _ _ _ _ G H7 la fp r7 es7 htC hp7 q
end K67
end
section
set_option Elab.async false
set_option linter.all false
set_option maxRecDepth 100000
set_option maxHeartbeats 1000000
namespace K67
open PySem PySem.Spec PyProof.Rows L2 LamX
theorem Rr.sqL0 {K : PySem.W.Frag} {T : Cls3} {Tb : List (Addr × Str)} {H H' : Hp} (r : Rr T Tb [] H H') {a : Addr} {xs : List V} (h : SqL K H a xs) : SqL K H' a xs := by
  rcases h with h | h
  · rcases h with h | ⟨o, h⟩
    · exact .inl (.inl (r.ex _ _ (by simp) h (fun _ z => nomatch z)))
    · exact .inl (.inr ⟨o, r.ex _ _ (by simp) h (fun _ z => nomatch z)⟩)
  · exact .inr h
section
variable {P : Program} {w : World} {K : PySem.W.Frag} {mg : Str → Option Value} {base : Heap} {T : Cls3} {C : Cls6} {tb : Tab3} {fS fL : Addr}
def spLaw (K : PySem.W.Frag) (tb : Tab3) : Sp := fun vs H Q _ => ∃ (a : Addr) (ns : List Int), vs = [.ref a] ∧ SqL K H a (ns.map V.int) ∧ ns.length ≤ 63 ∧ Tabs tb.T H ∧ ∀ H', Q (.bl true) H'
theorem ok_law (rc : RCtx P w K mg base T C tb fS fL) {f : Addr} {fd : FuncData} {c : Addr} (F : FnP K "law" "law" s_law f fd) (hc : fd.code = .ref c) (TB : TabB base mg c tb.pl) (cR : CalG P w K mg base CX0 20 "_law_right" (spRight T tb)) : FnG P w K mg base CX0 22 f fd ["_law_script"] (spLaw K tb) := by
  have S := sc_law
  have B := rc.B
  have cf := rc.cf
  refine fnGC_of F hc S (fun vs H Q E h => ?_) (fun A outer s H vs Q E hgd hr h => ?_)
  · obtain ⟨a, ns, rfl, _⟩ := h
    rfl
  · obtain ⟨a, ns, rfl, hl, hn, hT, q⟩ := h
    obtain ⟨tD, pD, qD⟩ := law_B rc TB (A := A) (outer := outer) (s := s) (H0 := H) (E := E) hgd hr
    refine ⟨_, (pss_cons (ps_for (passes_of rfl) rfl (pi_range1 (by rfl) B.range (pa_cons (pe_callB (call_max2 rfl) (by rfl) B.max (by decide +kernel) (pa_cons pe_int (pa_cons (pe_callB (call_min2 rfl) (by rfl) B.min (by decide +kernel) (pa_cons pe_int (pa_cons (pe_callB call_len (by rfl) B.len (by decide +kernel) (pa_cons (pv 0) pa_nil)) pa_nil))) pa_nil))) pa_nil)) (pg_name (i := 1) S.nd rfl (Or.inl rfl)) (pss_one (ps_if (pt_not (pt_val (pe_cG cR hgd hr (by decide) (by rfl) (E := E0) pass0 (pa_cons (pe_c rc.start hr (by decide) (by rfl) (E := E0) pass0 (pa_cons (pv 0) (pa_cons (pv 1) pa_nil))) pa_nil)))) (pss_one (ps_ret pe_bl)) pss_nil)))
      (pss_cons (ps_asg (pe_tup (pa_cons (pe_c rc.copier hr (by decide) (by rfl) (E := E0) pass0 (pa_cons pe_str pa_nil)) (pa_cons (pe_c rc.copier hr (by decide) (by rfl) (E := E0) pass0 (pa_cons pe_str pa_nil)) pa_nil))) (pg_tup rfl (pgs_cons (pg_name (i := 2) S.nd rfl (Or.inr rfl)) (pgs_cons (pg_name (i := 3) S.nd rfl (Or.inr rfl)) pgs_nil))))
      (pss_cons (ps_set (i := 4) S.nd rfl (.inr rfl) (pe_mk rc.ed2 hr (by decide) (by rfl) (E := E0) passL (pa_cons (pv 2) (pa_cons (pe_op op_strRep pe_str pe_int) pa_nil))))
      pD))), ?_⟩
    refine ⟨_, rfl, _, ns.length, rfl, .inl ⟨_, hl, by rw [List.length_map]⟩, _, _, rfl, _, _, rfl, ?_⟩
    obtain ⟨n, hnn, h8⟩ : ∃ n : Int, (if (if (ns.length : Int) < 8 then (ns.length : Int) else 8) > 1 then (if (ns.length : Int) < 8 then (ns.length : Int) else 8) else 1) = n ∧ 0 ≤ n ∧ n ≤ 8 := ⟨_, rfl, by split <;> split <;> omega⟩
    refine ⟨n, congrArg (fun z => [V.int z]) hnn, by omega, by omega, ?_⟩
    refine for_it walk_range (fun i σ H' => Rr T tb.T [] H H' ∧ ∃ z1, σ = [some (.ref a), z1, none, none, none, none, none, none]) ⟨Rr.nil, _, rfl⟩ (fun _ _ _ _ _ => True.intro) ?_ ?_
    · rintro i x σ H1 H2 hi ⟨r1, z1, rfl⟩ ⟨rfl, rfl⟩
      dsimp only
      rw [Int.zero_add]
      refine ⟨_, rfl, _, rfl, a, i, ns, rfl, r1.sqL0 hl, by omega, fun H3 p sm hp hb => ?_⟩
      refine ⟨p, rfl, hb, (r1.sm sm).tb hT, fun H4 r4 => ?_⟩
      refine ⟨_, rfl, iteF' rfl ?_⟩
      have fr := r1.old hp
      exact ⟨(r1.sm sm).trans r4 fun b hb => .inr (by
        obtain rfl : b = p := by simpa using hb
        exact fr), _, rfl⟩
    · rintro σ H1 ⟨r1, z1, rfl⟩
      refine ⟨"a", rfl, lsok_a, fun H2 one sm1 h1 i1 => ⟨"ab", rfl, lsok_ab, fun H3 two sm2 h2 i2 => ⟨by show 2 ≤ sizeLine; decide, fun p hp => ?_⟩⟩⟩
      have s3 : Same H3 (upd H3 p (.tup [.ref one, .ref two])) := same_upd hp
      refine ⟨p, _, rfl, SqT.of upd_same, rfl, _, _, rfl, _, _, rfl, rfl, ?_⟩
      have i1' : IsTwo T (upd H3 p (.tup [.ref one, .ref two])) one "a" := i1.same (sm2.trans s3)
      have i2' : IsTwo T (upd H3 p (.tup [.ref one, .ref two])) two "ab" := i2.same s3
      have r4 := r1.sm ((sm1.trans sm2).trans s3)
      have n12 : one ≠ two := fun z => by
        obtain ⟨p1, hp1⟩ := i1
        have := hp1.obj
        rw [z, h2] at this
        cases this
      generalize upd H3 p (.tup [.ref one, .ref two]) = H4 at i1' i2' r4
      obtain ⟨lt, hlt⟩ : ∃ lt : Addr → Option Str, lt = fun a => if a = one then some ("a" : Str) else if a = two then some ("ab" : Str) else none := ⟨_, rfl⟩
      have l1 : lt one = some ("a" : Str) := by rw [hlt]; exact if_pos rfl
      have l2 : lt two = some ("ab" : Str) := by
        rw [hlt]
        show (if two = one then some ("a" : Str) else if two = two then some ("ab" : Str) else none) = _
        rw [if_neg (Ne.symm n12), if_pos rfl]
      have ltn : ∀ m, m ≠ one → m ≠ two → lt m = none := fun m a b => by
        rw [hlt]
        show (if m = one then some ("a" : Str) else if m = two then some ("ab" : Str) else none) = _
        rw [if_neg a, if_neg b]
      have LT4 : LT T lt H4 := fun q ls e => by
        by_cases c1 : q = one
        · subst c1
          rw [l1] at e
          cases e
          exact i1'
        · by_cases c2 : q = two
          · subst c2
            rw [l2] at e
            cases e
            exact i2'
          · rw [ltn q c1 c2] at e
            cases e
      refine ⟨_, rfl, 97, 59, rfl, rfl, by decide, by decide, fun e de he hde hne => ?_⟩
      have smE := made_same (C := T.e) (fs := []) he hde
      refine ed_ok cf upd_same (i1'.same smE) (by decide +kernel) (by decide +kernel) fun H5 s5 sE5 hpa hun hbe hm5 ht5 he5 => ⟨rfl, ?_⟩
      have s45 := same_made he hde sE5
      exact qD _ lt one two e de s5 _ _ _ _ _ H5 ⟨l1, l2, LT4.same s45, (r4.sm s45).tb hT⟩ ⟨he5, [], [], SqT.of hpa, rfl, .nil⟩ hm5 ht5 q
end
end K67
end
section
set_option Elab.async false
set_option linter.all false
set_option maxRecDepth 100000
set_option maxHeartbeats 4000000
namespace K67
open PySem PySem.Spec PyProof.Rows L2 LamX He
/-! ### a property's getter in the written part -/
theorem fnAt_ok {K : PySem.W.Frag} {d : DefD} {a : Addr} (e : fnAt K a = d.val) (c : plainB K d.qual a = true) : ∃ fd, FunD K d.name d.qual d.params d.body d.scope [] [] a fd := by
  obtain ⟨kp, c2⟩ := ba c
  unfold fnAt at e
  cases q : K.lookup a with
  | none => rw [q] at c2; cases c2
  | some o =>
    obtain ⟨oc, od, dt, osl⟩ := o
    rw [q] at c2 e
    cases dt with
    | func fd =>
      obtain ⟨n1, n2, n3, n4, n5, n6, n7, n8, n9, n10, n11, n12, n13, n14, n15⟩ := fd
      have e2 : (some (n1, n2, n3, n4, n5, n6, n7, n15) : FnW) = some (d.name, d.qual, d.params, .stmts d.body, d.scope, mainGlobals, [], builtinsNs) := e
      simp only [Option.some.injEq, Prod.mk.injEq] at e2
      obtain ⟨h1, h2, h3, h4, h5, h6, h7, h8⟩ := e2
      subst h1 h2 h3 h4 h5 h6 h7 h8
      obtain ⟨k1, k2⟩ := ba (show (PySem.W.codeIn K n13 d.qual && (dflB K n8 [] && kwdB K n9 [])) = true from c2)
      obtain ⟨k3, k4⟩ := ba k2
      exact ⟨_, ⟨oc, od, n8, n9, n10, n11, n12, n13, n14, osl, rfl, q, k1, dflB_ok k3, kwdB_ok k4⟩, kp⟩
    | _ => cases c2
theorem propB_ok {K : PySem.W.Frag} {C m : Str} (h : propB K C m = true) : PropOf K (ga K C) m (ma K (ga K C) m) (getterAt K C m) := by
  obtain ⟨h1, h⟩ := ba h
  obtain ⟨h2, h⟩ := ba h
  obtain ⟨h3, h4⟩ := ba h
  refine ⟨eqO_ok h1, of_decide_eq_true h2, of_decide_eq_true h3, ?_⟩
  unfold getterAt
  split at h4
  · rename_i g rest e
    rw [e]
    exact ⟨rest, rfl⟩
  · cases h4
/-! ### an own exception that has an __init__ -/
theorem ogB_ok {K : PySem.W.Frag} {C : Addr} {bmB : List Value} {newId : String} (h : ogB K C bmB newId = true) (pass : ∀ self : Value, refuseLoop self "__setattr__" bmB = pure ()) (obj : bmB.contains (.type "object") = true) : OgC K C bmB newId := by
  obtain ⟨h0, h⟩ := ba h
  obtain ⟨h1, h⟩ := ba h
  obtain ⟨h2, h⟩ := ba h
  obtain ⟨h3, h4⟩ := ba h
  refine ⟨?_, pass, obj, eqO_ok h1, of_decide_eq_true h2, of_decide_eq_true h3, h4⟩
  cases q : K.lookup C with
  | none => rw [q] at h0; cases h0
  | some o =>
    obtain ⟨oc, od, dt, sl⟩ := o
    rw [q] at h0
    cases oc with
    | type t =>
      cases dt with
      | cls cd =>
        obtain ⟨k1, k⟩ := ba h0
        obtain ⟨k2, k⟩ := ba k
        obtain ⟨k3, k⟩ := ba k
        obtain ⟨k4, k5⟩ := ba k
        obtain ⟨nm, bs, mro, ns, qn, hd, sn, sb, ab, col, del⟩ := cd
        have e1 : t = "type" := of_decide_eq_true k1
        have e2 : hd = true := k2
        have e3 : del = false := by cases del <;> first | rfl | cases k3
        subst e1 e2 e3
        cases mro with
        | nil => cases k4
        | cons m0 bm =>
          cases m0 with
          | ref C' =>
            obtain ⟨k6, k7⟩ := ba k4
            have e4 : C' = C := of_decide_eq_true k6
            subst e4
            obtain ⟨sl⟩ := sl
            match sl, k5 with
            | [k0, k1, k2, k3, some (.builtin n), k5'], k5 =>
              have e5 : n = newId := of_decide_eq_true k5
              subst e5
              exact ⟨nm, qn, ns, bs, bm, sn, sb, ab, col, od, k0, k1, k2, k3, k5', rfl, k7⟩
          | _ => cases k4
      | _ => cases h0
    | _ => cases dt <;> cases h0
theorem pass_ix (self : Value) : refuseLoop self "__setattr__" bmIx = pure () := by rfl
theorem pass_lk (self : Value) : refuseLoop self "__setattr__" bmLk = pure () := by rfl
end K67
end
section
set_option Elab.async false
set_option linter.all false
set_option maxRecDepth 100000
set_option maxHeartbeats 4000000
namespace K67
open PySem PySem.Spec PyProof.Rows L2 LamX He
theorem insK_ok {K : PySem.W.Frag} {C : Addr} (c : Cls K C) (h : insKB K C = true) : C8.InsC K C ∧ ∀ f ∈ FLD, NoAttr K C f := by
  obtain ⟨h1, h⟩ := ba h
  obtain ⟨h2, h⟩ := ba h
  obtain ⟨h3, h⟩ := ba h
  obtain ⟨h4, h⟩ := ba h
  obtain ⟨h5, h6⟩ := ba h
  exact ⟨⟨c, of_decide_eq_true h1, of_decide_eq_true h2, of_decide_eq_true h3, of_decide_eq_true h4, of_decide_eq_true h5⟩, fun f hf => (of_decide_eq_true (List.all_eq_true.mp h6 f hf) : PySem.W.findIn K (.ref C) f = some none)⟩
theorem kits_ok {K : PySem.W.Frag} {T : Cls3} (h : kitsB K T = true) : Kits K T := by
  obtain ⟨h1, h⟩ := ba h
  obtain ⟨h2, h⟩ := ba h
  obtain ⟨h3, h4⟩ := ba h
  exact ⟨fun t ht c hc => of_decide_eq_true (List.all_eq_true.mp (List.all_eq_true.mp h1 t ht) c hc), of_decide_eq_true h2, of_decide_eq_true h3, of_decide_eq_true h4⟩
theorem eqB_ok {K : PySem.W.Frag} {C f : Addr} (h : eqB K C f = true) : PySem.W.ownEqIn K C f = true ∧ ∃ of, K.lookup f = some of ∧ of.cls = .type "function" := by
  obtain ⟨h1, h2⟩ := ba h
  refine ⟨h1, ?_⟩
  cases q : K.lookup f with
  | none => rw [q] at h2; cases h2
  | some o => rw [q] at h2; exact ⟨o, rfl, of_decide_eq_true h2⟩
theorem code_of {K : PySem.W.Frag} {x qual : Str} {params : Arguments} {body : List Stmt} {scope : Scope} {dvs : List V} {kws : List (Str × V)} {q : Str × Option Str} {fd : FuncData} (F : FunD K x qual params body scope dvs kws (fAd K q) fd) : fd.code = .ref (codeOf K q) := by
  obtain ⟨oc, od, dV, kV, doc, pm, an, cdv, ct, osl, rfl, lk, hcd, _, _⟩ := F.ex
  obtain ⟨c, rfl⟩ := codeIn_ref hcd
  rw [codeOf_eq lk rfl]
theorem exc_of {K : PySem.W.Frag} {h : Heap} {mg : Str → Option Value} (KX : K.In h) (G : h.Ns mainGlobals mg) {x : Str} (g : (Fa.glo x).ok K = true) (c : (Fa.exc x).ok K = true) : ExC K mg x (ga K x) := by
  obtain ⟨h1, h2, h3, h4⟩ := exc_ok c
  exact ⟨h1, glo_ok KX G g, h2, h3, h4⟩
theorem kb_many {K : PySem.W.Frag} {x qual : Str} {params : Arguments} {body : List Stmt} {scope : Scope} {kws : List (Str × V)} {f : Addr} {fd : FuncData} {ps ks : List Str} {n : Nat} (F : FunD K x qual params body scope [] kws f fd)
    (h : ∀ (kV doc pm : Value) (an : Option Addr) (cdv ct : Value) (us ws : List Value), us.length = n → ws.length = ks.length → bindArgs (PySem.W.fnOf x qual params body scope .none kV doc pm an cdv ct) ⟨us, ks.zip ws⟩ = pure (ps.zip (us ++ ws))) : KBn K fd ps n ks (fun us ws => us ++ ws) (fun vs zs => vs ++ zs) := by
  obtain ⟨oc, od, dV, kV, doc, pm, an, cdv, ct, osl, rfl, lk, hcd, hD, hK⟩ := F.ex
  rcases hD with ⟨_, rfl⟩ | ⟨e, _⟩
  · exact ⟨fun s us ws _ h1 h2 => .of_eq (h kV doc pm an cdv ct us ws h1 h2), fun r1 r2 => r1.append r2⟩
  · exact absurd rfl e
theorem facts_law {P : Program} {w : World} {K : PySem.W.Frag} {h base : Heap} {mg : Str → Option Value} (KX : K.In h) (G : h.Ns mainGlobals mg) (c : SaysK w h K) (TB : ∀ p ∈ tfL.map (cT K), TabB base mg p.1 p.2) {fd_law : FuncData} (F_law : FunD K "law" "law" (defArgs s_law) (defBody s_law) (defScope s_law) [] [] (fAd K ("law", none)) fd_law) :
    FnG P w K mg base CX0 22 (ga K "law") fd_law ["_law_script"] (spLaw K (tb3 K)) := by
  have cd := c.x.t.d
  have ex := c.x.more
  obtain ⟨x1, ex⟩ := ba ex
  obtain ⟨x2, ex⟩ := ba ex
  obtain ⟨x3, ex⟩ := ba ex
  obtain ⟨x4, ex⟩ := ba ex
  obtain ⟨x5, ex⟩ := ba ex
  obtain ⟨x6, ex⟩ := ba ex
  obtain ⟨x7, ex⟩ := ba ex
  obtain ⟨x8, ex⟩ := ba ex
  obtain ⟨x9, ex⟩ := ba ex
  obtain ⟨x10, ex⟩ := ba ex
  obtain ⟨x11, ex⟩ := ba ex
  obtain ⟨x12, x13⟩ := ba ex
  have hok : (tb3 K).ok := ⟨of_decide_eq_true x11, of_decide_eq_true x12, of_decide_eq_true x13⟩
  have kt := kits_ok x4
  obtain ⟨fd_is_integer, F_is_integer⟩ := cd.def_ 0 (d := d_is_integer) rfl
  obtain ⟨fd_is_between, F_is_between⟩ := cd.def_ 1 (d := d_is_between) rfl
  obtain ⟨fd_is_word, F_is_word⟩ := cd.def_ 2 (d := d_is_word) rfl
  obtain ⟨fd_is_text, F_is_text⟩ := cd.def_ 3 (d := d_is_text) rfl
  obtain ⟨fd_require_edit, F_require_edit⟩ := cd.def_ 4 (d := d_require_edit) rfl
  obtain ⟨fd_require_text, F_require_text⟩ := cd.def_ 5 (d := d_require_text) rfl
  obtain ⟨fd_is_over, F_is_over⟩ := cd.def_ 6 (d := d_is_over) rfl
  obtain ⟨fd_require_rest, F_require_rest⟩ := cd.def_ 7 (d := d_require_rest) rfl
  obtain ⟨fd_shared_letters, F_shared_letters⟩ := cd.def_ 8 (d := d_shared_letters) rfl
  obtain ⟨fd_is_mark_number, F_is_mark_number⟩ := cd.def_ 9 (d := d_is_mark_number) rfl
  obtain ⟨fd_are_ascending, F_are_ascending⟩ := cd.def_ 10 (d := d_are_ascending) rfl
  obtain ⟨fd_are_letters, F_are_letters⟩ := cd.def_ 11 (d := d_are_letters) rfl
  obtain ⟨fd_put_in, F_put_in⟩ := cd.def_ 12 (d := d_put_in) rfl
  obtain ⟨fd_cut_out, F_cut_out⟩ := cd.def_ 13 (d := d_cut_out) rfl
  obtain ⟨fd_edited, F_edited⟩ := cd.def_ 14 (d := d_edited) rfl
  obtain ⟨fd_walk_in, F_walk_in⟩ := cd.def_ 15 (d := d_walk_in) rfl
  obtain ⟨fd_require_machine, F_require_machine⟩ := cd.def_ 16 (d := d_require_machine) rfl
  obtain ⟨fd_news_between, F_news_between⟩ := cd.def_ 17 (d := d_news_between) rfl
  obtain ⟨fd_require_many, F_require_many⟩ := cd.def_ 18 (d := d_require_many) rfl
  obtain ⟨fd_is_step_key, F_is_step_key⟩ := cd.def_ 19 (d := d_is_step_key) rfl
  obtain ⟨fd_is_target, F_is_target⟩ := cd.def_ 20 (d := d_is_target) rfl
  obtain ⟨fd_is_key, F_is_key⟩ := cd.def_ 21 (d := d_is_key) rfl
  obtain ⟨fd_met_order_marks, F_met_order_marks⟩ := cd.def_ 22 (d := d_met_order_marks) rfl
  obtain ⟨fd_are_good, F_are_good⟩ := cd.def_ 23 (d := d_are_good) rfl
  obtain ⟨fd_are_steps, F_are_steps⟩ := cd.def_ 24 (d := d_are_steps) rfl
  obtain ⟨fd_require_marks, F_require_marks⟩ := cd.def_ 25 (d := d_require_marks) rfl
  obtain ⟨fd_keys_from, F_keys_from⟩ := cd.def_ 26 (d := d_keys_from) rfl
  obtain ⟨fd_have_forms, F_have_forms⟩ := cd.def_ 27 (d := d_have_forms) rfl
  obtain ⟨fd_fresh_in, F_fresh_in⟩ := cd.def_ 28 (d := d_fresh_in) rfl
  obtain ⟨fd_met_in, F_met_in⟩ := cd.def_ 29 (d := d_met_in) rfl
  obtain ⟨fd_is_complete, F_is_complete⟩ := cd.def_ 30 (d := d_is_complete) rfl
  obtain ⟨fd_law_start, F_law_start⟩ := cd.def_ 31 (d := d_law_start) rfl
  obtain ⟨fd_law_throw, F_law_throw⟩ := cd.def_ 32 (d := d_law_throw) rfl
  obtain ⟨fd_law_pick, F_law_pick⟩ := cd.def_ 33 (d := d_law_pick) rfl
  obtain ⟨fd_law_shuffled, F_law_shuffled⟩ := cd.def_ 34 (d := d_law_shuffled) rfl
  obtain ⟨fd_law_drawn_word, F_law_drawn_word⟩ := cd.def_ 35 (d := d_law_drawn_word) rfl
  obtain ⟨fd_law_word, F_law_word⟩ := cd.def_ 36 (d := d_law_word) rfl
  obtain ⟨fd_law_copier, F_law_copier⟩ := cd.def_ 37 (d := d_law_copier) rfl
  obtain ⟨fd_law_wrong_edits, F_law_wrong_edits⟩ := cd.def_ 38 (d := d_law_wrong_edits) rfl
  obtain ⟨fd_law_fine_edit, F_law_fine_edit⟩ := cd.def_ 39 (d := d_law_fine_edit) rfl
  obtain ⟨fd_law_spoilt, F_law_spoilt⟩ := cd.def_ 40 (d := d_law_spoilt) rfl
  obtain ⟨fd_law_too_low, F_law_too_low⟩ := cd.def_ 41 (d := d_law_too_low) rfl
  obtain ⟨fd_law_stays, F_law_stays⟩ := cd.def_ 42 (d := d_law_stays) rfl
  obtain ⟨fd_law_numbers_right, F_law_numbers_right⟩ := cd.def_ 43 (d := d_law_numbers_right) rfl
  obtain ⟨fd_law_right, F_law_right⟩ := cd.def_ 44 (d := d_law_right) rfl
  obtain ⟨fd_Marks_row_in, F_Marks_row_in⟩ := cd.def_ 46 (d := d_Marks_row_in) rfl
  obtain ⟨fd_Marks_row, F_Marks_row⟩ := cd.def_ 47 (d := d_Marks_row) rfl
  obtain ⟨fd_Marks_init, F_Marks_init⟩ := cd.def_ 48 (d := d_Marks_init) rfl
  obtain ⟨fd_Marks_eq, F_Marks_eq⟩ := cd.def_ 49 (d := d_Marks_eq) rfl
  obtain ⟨fd_TwoPass_walk, F_TwoPass_walk⟩ := cd.def_ 50 (d := d_TwoPass_walk) rfl
  obtain ⟨fd_TwoPass_init, F_TwoPass_init⟩ := cd.def_ 51 (d := d_TwoPass_init) rfl
  obtain ⟨fd_TwoPass_eq, F_TwoPass_eq⟩ := cd.def_ 52 (d := d_TwoPass_eq) rfl
  obtain ⟨fd_Editor_version, F_Editor_version⟩ := cd.def_ 53 (d := d_Editor_version) rfl
  obtain ⟨fd_Editor_show, F_Editor_show⟩ := cd.def_ 54 (d := d_Editor_show) rfl
  obtain ⟨fd_Editor_change_to, F_Editor_change_to⟩ := cd.def_ 55 (d := d_Editor_change_to) rfl
  obtain ⟨fd_Editor_init, F_Editor_init⟩ := cd.def_ 56 (d := d_Editor_init) rfl
  obtain ⟨fd_Editor_make_step, F_Editor_make_step⟩ := cd.def_ 57 (d := d_Editor_make_step) rfl
  obtain ⟨fd_Editor_make, F_Editor_make⟩ := cd.def_ 58 (d := d_Editor_make) rfl
  obtain ⟨fd_Editor_twin, F_Editor_twin⟩ := cd.def_ 59 (d := d_Editor_twin) rfl
  obtain ⟨fd_Editor_undo, F_Editor_undo⟩ := cd.def_ 60 (d := d_Editor_undo) rfl
  obtain ⟨fd_Editor_redo, F_Editor_redo⟩ := cd.def_ 61 (d := d_Editor_redo) rfl
  obtain ⟨fd_Editor_news, F_Editor_news⟩ := cd.def_ 62 (d := d_Editor_news) rfl
  obtain ⟨fd_Editor_trial, F_Editor_trial⟩ := cd.def_ 63 (d := d_Editor_trial) rfl
  obtain ⟨fd_Editor_attempt, F_Editor_attempt⟩ := cd.def_ 64 (d := d_Editor_attempt) rfl
  obtain ⟨fd_Editor_eq, F_Editor_eq⟩ := cd.def_ 65 (d := d_Editor_eq) rfl
  obtain ⟨fd_Trial_init, F_Trial_init⟩ := cd.def_ 66 (d := d_Trial_init) rfl
  obtain ⟨fd_Trial_enter, F_Trial_enter⟩ := cd.def_ 67 (d := d_Trial_enter) rfl
  obtain ⟨fd_Trial_exit, F_Trial_exit⟩ := cd.def_ 68 (d := d_Trial_exit) rfl
  obtain ⟨fd_InvalidNumber_init, F_InvalidNumber_init⟩ := cd.def_ 69 (d := d_InvalidNumber_init) rfl
  obtain ⟨fd_NothingToUndo_init, F_NothingToUndo_init⟩ := cd.def_ 70 (d := d_NothingToUndo_init) rfl
  obtain ⟨fd_Editor_text, F_Editor_text⟩ : ∃ fd, FunD K "text" "Editor.text" (defArgs s_Editor_text) (defBody s_Editor_text) (defScope s_Editor_text) [] [] (getterAt K "Editor" "text") fd := by
    obtain ⟨y1, y2⟩ := ba (List.all_eq_true.mp x10 ("Editor", "text", g_Editor_text) (by simp [gsL]))
    have e : (gsL.map fun q => fnAt K (getterAt K q.1 q.2.1))[0]? = (gsL.map fun q => q.2.2.val)[0]? := by rw [c.g]
    exact fnAt_ok (d := g_Editor_text) (Option.some.inj e) y2
  have P_Editor_text : PropOf K (ga K "Editor") "text" (ma K (ga K "Editor") "text") (getterAt K "Editor" "text") := propB_ok (ba (List.all_eq_true.mp x10 ("Editor", "text", g_Editor_text) (by simp [gsL]))).1
  obtain ⟨fd_Editor_log, F_Editor_log⟩ : ∃ fd, FunD K "log" "Editor.log" (defArgs s_Editor_log) (defBody s_Editor_log) (defScope s_Editor_log) [] [] (getterAt K "Editor" "log") fd := by
    obtain ⟨y1, y2⟩ := ba (List.all_eq_true.mp x10 ("Editor", "log", g_Editor_log) (by simp [gsL]))
    have e : (gsL.map fun q => fnAt K (getterAt K q.1 q.2.1))[1]? = (gsL.map fun q => q.2.2.val)[1]? := by rw [c.g]
    exact fnAt_ok (d := g_Editor_log) (Option.some.inj e) y2
  have P_Editor_log : PropOf K (ga K "Editor") "log" (ma K (ga K "Editor") "log") (getterAt K "Editor" "log") := propB_ok (ba (List.all_eq_true.mp x10 ("Editor", "log", g_Editor_log) (by simp [gsL]))).1
  obtain ⟨fd_TwoPass_marks, F_TwoPass_marks⟩ : ∃ fd, FunD K "marks" "TwoPass.marks" (defArgs s_TwoPass_marks) (defBody s_TwoPass_marks) (defScope s_TwoPass_marks) [] [] (getterAt K "TwoPass" "marks") fd := by
    obtain ⟨y1, y2⟩ := ba (List.all_eq_true.mp x10 ("TwoPass", "marks", g_TwoPass_marks) (by simp [gsL]))
    have e : (gsL.map fun q => fnAt K (getterAt K q.1 q.2.1))[2]? = (gsL.map fun q => q.2.2.val)[2]? := by rw [c.g]
    exact fnAt_ok (d := g_TwoPass_marks) (Option.some.inj e) y2
  have P_TwoPass_marks : PropOf K (ga K "TwoPass") "marks" (ma K (ga K "TwoPass") "marks") (getterAt K "TwoPass" "marks") := propB_ok (ba (List.all_eq_true.mp x10 ("TwoPass", "marks", g_TwoPass_marks) (by simp [gsL]))).1
  have cT_ : Cls K (t3 K).t := cls_ok (cd.fact 82 (f := .cls "TwoPass") rfl)
  have cM_ : Cls K (t3 K).m := cls_ok (cd.fact 81 (f := .cls "Marks") rfl)
  have cE_ : Cls K (t3 K).e := cls_ok (cd.fact 83 (f := .cls "Editor") rfl)
  have cR_ : Cls K (ga K "Trial") := cls_ok (cd.fact 84 (f := .cls "Trial") rfl)
  obtain ⟨iT, nT⟩ := insK_ok cT_ x1
  obtain ⟨iM, nM⟩ := insK_ok cM_ x2
  obtain ⟨iE, nE⟩ := insK_ok cE_ x3
  have cf : CF K (t3 K) := ⟨kt, iT, iM, iE, nT, nM, nE⟩
  have cr : CR K (ga K "Trial") := ⟨cR_, noat_ok (cd.fact 116 (f := .noat "Trial" "own_editor") rfl), noat_ok (cd.fact 117 (f := .noat "Trial" "own_kept") rfl)⟩
  have B : BN mg := ⟨free_ok KX G (cd.fact 56 (f := .free "isinstance") rfl), free_ok KX G (cd.fact 57 (f := .free "int") rfl), free_ok KX G (cd.fact 58 (f := .free "bool") rfl), free_ok KX G (cd.fact 59 (f := .free "str") rfl), free_ok KX G (cd.fact 60 (f := .free "tuple") rfl), free_ok KX G (cd.fact 61 (f := .free "dict") rfl), free_ok KX G (cd.fact 62 (f := .free "len") rfl), free_ok KX G (cd.fact 63 (f := .free "all") rfl), free_ok KX G (cd.fact 64 (f := .free "zip") rfl), free_ok KX G (cd.fact 65 (f := .free "range") rfl), free_ok KX G (cd.fact 66 (f := .free "list") rfl), free_ok KX G (cd.fact 67 (f := .free "sorted") rfl), free_ok KX G (cd.fact 68 (f := .free "enumerate") rfl), free_ok KX G (cd.fact 69 (f := .free "max") rfl), free_ok KX G (cd.fact 70 (f := .free "min") rfl), free_ok KX G (cd.fact 71 (f := .free "abs") rfl), free_ok KX G (cd.fact 72 (f := .free "repr") rfl)⟩
  have gPUT : ∃ u, mg "PUT" = some u ∧ RelV (.str "put") u := let ⟨t, e⟩ := str_ok KX G (cd.fact 73 (f := .str "PUT" "put") rfl); ⟨_, e, t, rfl⟩
  have gCUT : ∃ u, mg "CUT" = some u ∧ RelV (.str "cut") u := let ⟨t, e⟩ := str_ok KX G (cd.fact 74 (f := .str "CUT" "cut") rfl); ⟨_, e, t, rfl⟩
  have gUSE : ∃ u, mg "USE" = some u ∧ RelV (.str "use") u := let ⟨t, e⟩ := str_ok KX G (cd.fact 75 (f := .str "USE" "use") rfl); ⟨_, e, t, rfl⟩
  have gLET : ∃ u, mg "LETTERS" = some u ∧ RelV (.str "abcdefghijklmnopqrstuvwxyz") u := let ⟨t, e⟩ := str_ok KX G (cd.fact 76 (f := .str "LETTERS" "abcdefghijklmnopqrstuvwxyz") rfl); ⟨_, e, t, rfl⟩
  have gMT : ∃ u, mg "MAX_TEXT" = some u ∧ RelV (.int 60) u := let ⟨t, e⟩ := int_ok KX G (cd.fact 77 (f := .int "MAX_TEXT" 60) rfl); ⟨_, e, t, rfl⟩
  have gML : ∃ u, mg "MOST_LETTERS_words" = some u ∧ RelV (.int 4) u := let ⟨t, e⟩ := int_ok KX G (cd.fact 78 (f := .int "MOST_LETTERS_words" 4) rfl); ⟨_, e, t, rfl⟩
  have gMW : ∃ u, mg "MAX_WRITER" = some u ∧ RelV (.int 1000) u := let ⟨t, e⟩ := int_ok KX G (cd.fact 79 (f := .int "MAX_WRITER" 1000) rfl); ⟨_, e, t, rfl⟩
  have gMM : ∃ u, mg "MAX_MARKS" = some u ∧ RelV (.int 256) u := let ⟨t, e⟩ := int_ok KX G (cd.fact 80 (f := .int "MAX_MARKS" 256) rfl); ⟨_, e, t, rfl⟩
  have gTw : ∃ u, mg "TwoPass" = some u ∧ RelV (.ref (t3 K).t) u := ⟨_, (glo_ok KX G (cd.fact 47 (f := .glo "TwoPass") rfl)), rfl⟩
  have gMk : ∃ u, mg "Marks" = some u ∧ RelV (.ref (t3 K).m) u := ⟨_, (glo_ok KX G (cd.fact 46 (f := .glo "Marks") rfl)), rfl⟩
  have gEd : ∃ u, mg "Editor" = some u ∧ RelV (.ref (t3 K).e) u := ⟨_, (glo_ok KX G (cd.fact 48 (f := .glo "Editor") rfl)), rfl⟩
  have X_m : ExC K mg "InvalidMachine" (ga K "InvalidMachine") := exc_of KX G (cd.fact 50 (f := .glo "InvalidMachine") rfl) (cd.fact 112 (f := .exc "InvalidMachine") rfl)
  have X_t : ExC K mg "InvalidText" (ga K "InvalidText") := exc_of KX G (cd.fact 51 (f := .glo "InvalidText") rfl) (cd.fact 113 (f := .exc "InvalidText") rfl)
  have X_o : ExC K mg "InvalidOperation" (ga K "InvalidOperation") := exc_of KX G (cd.fact 52 (f := .glo "InvalidOperation") rfl) (cd.fact 114 (f := .exc "InvalidOperation") rfl)
  have X_e : ExC K mg "InvalidEdit" (ga K "InvalidEdit") := exc_of KX G (cd.fact 53 (f := .glo "InvalidEdit") rfl) (cd.fact 115 (f := .exc "InvalidEdit") rfl)
  have C_is_integer : Cal P w K mg base CX0 1 "is_integer" (spIsInt K) := ⟨_, _, _, ok_is_integer F_is_integer B, (glo_ok KX G (cd.fact 0 (f := .glo "is_integer") rfl)), F_is_integer.kp, (F_is_integer.bindsN fun kV doc pm an cdv ct us hl => match us, hl with | [_], _ => rfl)⟩
  have C_is_between : Cal P w K mg base CX0 2 "is_between" (spBtw K) := ⟨_, _, _, ok_is_between F_is_between C_is_integer, (glo_ok KX G (cd.fact 1 (f := .glo "is_between") rfl)), F_is_between.kp, (F_is_between.bindsN fun kV doc pm an cdv ct us hl => match us, hl with | [_, _, _], _ => rfl)⟩
  have C_is_word : Cal P w K mg base CX0 1 "is_word" (spIsWord K) := ⟨_, _, _, ok_is_word F_is_word B gLET, (glo_ok KX G (cd.fact 2 (f := .glo "is_word") rfl)), F_is_word.kp, (F_is_word.bindsN fun kV doc pm an cdv ct us hl => match us, hl with | [_], _ => rfl)⟩
  have C_is_text : Cal P w K mg base CX0 2 "is_text" (spIsText K) := ⟨_, _, _, ok_is_text F_is_text B gMT C_is_word, (glo_ok KX G (cd.fact 3 (f := .glo "is_text") rfl)), F_is_text.kp, (F_is_text.bindsN fun kV doc pm an cdv ct us hl => match us, hl with | [_], _ => rfl)⟩
  have C_require_edit : Cal P w K mg base (L2.CX P w) 1 "require_edit" (spReqE (c6 K).e) := ⟨_, _, _, ok_require_edit F_require_edit X_e, (glo_ok KX G (cd.fact 4 (f := .glo "require_edit") rfl)), F_require_edit.kp, (F_require_edit.bindsN fun kV doc pm an cdv ct us hl => match us, hl with | [_], _ => rfl)⟩
  have C_require_text : Cal P w K mg base (L2.CX P w) 3 "require_text" (spReqT K (c6 K).t) := ⟨_, _, _, ok_require_text F_require_text X_t C_is_text, (glo_ok KX G (cd.fact 5 (f := .glo "require_text") rfl)), F_require_text.kp, (F_require_text.bindsN fun kV doc pm an cdv ct us hl => match us, hl with | [_], _ => rfl)⟩
  have C_is_over : Cal P w K mg base CX0 1 "is_over" (spOver K) := ⟨_, _, _, ok_is_over F_is_over B, (glo_ok KX G (cd.fact 6 (f := .glo "is_over") rfl)), F_is_over.kp, (F_is_over.bindsN fun kV doc pm an cdv ct us hl => match us, hl with | [_, _], _ => rfl)⟩
  have C_require_rest : Cal P w K mg base (L2.CX P w) 4 "require_rest" (spRest K (c6 K).t (c6 K).o) := ⟨_, _, _, ok_require_rest F_require_rest B X_o C_require_text, (glo_ok KX G (cd.fact 7 (f := .glo "require_rest") rfl)), F_require_rest.kp, (F_require_rest.bindsN fun kV doc pm an cdv ct us hl => match us, hl with | [_, _], _ => rfl)⟩
  have C_shared_letters : Cal P w K mg base CX0 1 "shared_letters" (spShared K) := ⟨_, _, _, ok_shared_letters F_shared_letters B, (glo_ok KX G (cd.fact 8 (f := .glo "shared_letters") rfl)), F_shared_letters.kp, (F_shared_letters.bindsN fun kV doc pm an cdv ct us hl => match us, hl with | [_, _], _ => rfl)⟩
  have C_is_mark_number : Cal P w K mg base CX0 3 "is_mark_number" (spMarkNo K) := ⟨_, _, _, ok_is_mark_number F_is_mark_number C_is_between, (glo_ok KX G (cd.fact 9 (f := .glo "is_mark_number") rfl)), F_is_mark_number.kp, (F_is_mark_number.bindsN fun kV doc pm an cdv ct us hl => match us, hl with | [_, _], _ => rfl)⟩
  have C_are_ascending : Cal P w K mg base CX0 1 "are_ascending" (spAsc K) := ⟨_, _, _, ok_are_ascending F_are_ascending B, (glo_ok KX G (cd.fact 10 (f := .glo "are_ascending") rfl)), F_are_ascending.kp, (F_are_ascending.bindsN fun kV doc pm an cdv ct us hl => match us, hl with | [_], _ => rfl)⟩
  have C_are_letters : Cal P w K mg base CX0 2 "are_letters" (spLetters K) := ⟨_, _, _, ok_are_letters F_are_letters B gML C_is_word C_are_ascending, (glo_ok KX G (cd.fact 11 (f := .glo "are_letters") rfl)), F_are_letters.kp, (F_are_letters.bindsN fun kV doc pm an cdv ct us hl => match us, hl with | [_], _ => rfl)⟩
  have C_put_in : Cal P w K mg base (L2.CX P w) 3 "put_in" (spPut K (c6 K).e) := ⟨_, _, _, ok_put_in F_put_in B gMT C_require_edit C_is_between C_is_text C_is_over, (glo_ok KX G (cd.fact 12 (f := .glo "put_in") rfl)), F_put_in.kp, (F_put_in.bindsN fun kV doc pm an cdv ct us hl => match us, hl with | [_, _, _], _ => rfl)⟩
  have C_cut_out : Cal P w K mg base (L2.CX P w) 3 "cut_out" (spCut K (c6 K).e) := ⟨_, _, _, ok_cut_out F_cut_out B C_require_edit C_is_between, (glo_ok KX G (cd.fact 13 (f := .glo "cut_out") rfl)), F_cut_out.kp, (F_cut_out.bindsN fun kV doc pm an cdv ct us hl => match us, hl with | [_, _, _], _ => rfl)⟩
  have C_edited : Cal P w K mg base (L2.CX P w) 4 "edited" (spEd K (t3 K) (c6 K).e) := ⟨_, _, _, ok_edited kt F_edited B gPUT gCUT gUSE gTw X_e C_require_edit C_put_in C_cut_out C_is_over, (glo_ok KX G (cd.fact 14 (f := .glo "edited") rfl)), F_edited.kp, (F_edited.bindsN fun kV doc pm an cdv ct us hl => match us, hl with | [_, _], _ => rfl)⟩
  have M_Marks_row_in : Mth P w K mg base CX0 1 (t3 K).m "row_in" (spRowIn (t3 K)) := ⟨_, _, _, ok_row_in cf F_Marks_row_in, meth_ok (cd.fact 89 (f := .meth "Marks" "row_in") rfl), cM_, (F_Marks_row_in.bindsN fun kV doc pm an cdv ct us hl => match us, hl with | [_, _], _ => rfl)⟩
  have M_Marks_row : Mth P w K mg base CX0 5 (t3 K).m "row" (spRow K (t3 K)) := ⟨_, _, _, ok_row cf F_Marks_row B C_require_rest M_Marks_row_in, meth_ok (cd.fact 90 (f := .meth "Marks" "row") rfl), cM_, (F_Marks_row.bindsN fun kV doc pm an cdv ct us hl => match us, hl with | [_, _], _ => rfl)⟩
  have C_walk_in : Cal P w K mg base CX0 2 "walk_in" (spWalkIn (t3 K)) := ⟨_, _, _, ok_walk_in cf F_walk_in B M_Marks_row_in, (glo_ok KX G (cd.fact 15 (f := .glo "walk_in") rfl)), F_walk_in.kp, (F_walk_in.bindsN fun kV doc pm an cdv ct us hl => match us, hl with | [_, _], _ => rfl)⟩
  have W_ : WalkCal P w K mg base 5 (t3 K) := ⟨_, _, _, ok_walk cf F_TwoPass_walk C_require_rest C_walk_in, meth_ok (cd.fact 93 (f := .meth "TwoPass" "walk") rfl), cT_, (F_TwoPass_walk.bindsN fun kV doc pm an cdv ct us hl => match us, hl with | [_, _], _ => rfl)⟩
  have M_Editor_version : Mth P w K mg base CX0 1 (t3 K).e "version" (spVersion (t3 K)) := ⟨_, _, _, ok_version cf F_Editor_version, meth_ok (cd.fact 96 (f := .meth "Editor" "version") rfl), cE_, (F_Editor_version.bindsN fun kV doc pm an cdv ct us hl => match us, hl with | [_], _ => rfl)⟩
  have M_Editor_show : Mth P w K mg base CX0 12 (t3 K).e "show" (spShow (t3 K)) := ⟨_, _, _, ok_show cf F_Editor_show B M_Marks_row W_, meth_ok (cd.fact 97 (f := .meth "Editor" "show") rfl), cE_, (F_Editor_show.bindsN fun kV doc pm an cdv ct us hl => match us, hl with | [_, _], _ => rfl)⟩
  have M_Editor_change_to : Mth P w K mg base CX0 13 (t3 K).e "change_to" (spChange (t3 K)) := ⟨_, _, _, ok_change_to cf F_Editor_change_to M_Editor_version M_Editor_show, meth_ok (cd.fact 98 (f := .meth "Editor" "change_to") rfl), cE_, (F_Editor_change_to.bindsN fun kV doc pm an cdv ct us hl => match us, hl with | [_, _, _, _], _ => rfl)⟩
  have C_require_machine : Cal P w K mg base (L2.CX P w) 1 "require_machine" (spReqM K (t3 K) (c6 K).m) := ⟨_, _, _, ok_require_machine kt F_require_machine B gTw X_m, (glo_ok KX G (cd.fact 16 (f := .glo "require_machine") rfl)), F_require_machine.kp, (F_require_machine.bindsN fun kV doc pm an cdv ct us hl => match us, hl with | [_], _ => rfl)⟩
  have kE := mkr_ok (cd.fact 87 (f := .mkr "Editor") rfl)
  have kM := mkr_ok (cd.fact 85 (f := .mkr "Marks") rfl)
  have kT := mkr_ok (cd.fact 86 (f := .mkr "TwoPass") rfl)
  have kR := mkr_ok (cd.fact 88 (f := .mkr "Trial") rfl)
  have okE : FnOk P w K mg base (L2.CX P w) 13 (ma K (ga K "Editor") "__init__") fd_Editor_init ["self", "machine", "text"] (spMakeE K (t3 K) (c6 K).m (c6 K).t (c6 K).o) := ok_make_editor cf F_Editor_init C_require_machine C_require_rest M_Editor_show
  obtain ⟨dsF, vF, bE2⟩ : ∃ ds, Vals ([] : List V) ds ∧ Binds K fd_Editor_init ["self", "machine", "text"] ds := F_Editor_init.binds1 3 1 (List.cons_ne_nil _ _) rfl fun T kV doc pm an cdv ct us its hu hi => match us, hu, its, hi with
    | [_, _, _], _, [_], _ => ⟨_, rfl, rfl⟩
  obtain ⟨dsE, vE, bE1⟩ : ∃ ds, Vals [.str ""] ds ∧ Binds K fd_Editor_init ["self", "machine", "text"] ds := F_Editor_init.binds1 2 0 (List.cons_ne_nil _ _) rfl fun T kV doc pm an cdv ct us its hu hi => match us, hu, its, hi with
    | [_, _], _, [_], _ => ⟨_, rfl, rfl⟩
  have K_E2 : Mak P w K mg base (L2.CX P w) 13 "Editor" (t3 K).e (spMakeE K (t3 K) (c6 K).m (c6 K).t (c6 K).o) [] := ⟨_, _, _, _, kE, okE, (glo_ok KX G (cd.fact 48 (f := .glo "Editor") rfl)), bE2, vF⟩
  have K_E1 : Mak P w K mg base (L2.CX P w) 13 "Editor" (t3 K).e (spMakeE K (t3 K) (c6 K).m (c6 K).t (c6 K).o) [.str ""] := ⟨_, _, _, _, kE, okE, (glo_ok KX G (cd.fact 48 (f := .glo "Editor") rfl)), bE1, vE⟩
  have M_Editor_make_step : Mth P w K mg base (L2.CX P w) 14 (t3 K).e "make_step" (spStep K (t3 K) (c6 K).e) := ⟨_, _, _, ok_make_step cf F_Editor_make_step B C_require_edit M_Editor_version C_edited M_Editor_change_to, meth_ok (cd.fact 100 (f := .meth "Editor" "make_step") rfl), cE_, (F_Editor_make_step.bindsN fun kV doc pm an cdv ct us hl => match us, hl with | [_, _], _ => rfl)⟩
  have R_make : MthR P w K mg base (L2.CX P w) 15 (t3 K).e "make" (spMk K (t3 K) (c6 K).e) := ⟨_, ok_make cf F_Editor_make M_Editor_make_step, meth_ok (cd.fact 101 (f := .meth "Editor" "make") rfl), cE_⟩
  have M_Editor_twin : Mth P w K mg base CX0 15 (t3 K).e "twin" (spTwin (t3 K)) := ⟨_, _, _, ok_twin cf F_Editor_twin K_E2, meth_ok (cd.fact 102 (f := .meth "Editor" "twin") rfl), cE_, (F_Editor_twin.bindsN fun kV doc pm an cdv ct us hl => match us, hl with | [_], _ => rfl)⟩
  obtain ⟨y1, y⟩ := ba x8
  obtain ⟨y2, y⟩ := ba y
  obtain ⟨y3, y⟩ := ba y
  obtain ⟨y4, y⟩ := ba y
  obtain ⟨y5, y⟩ := ba y
  obtain ⟨y6, y⟩ := ba y
  obtain ⟨y7, y⟩ := ba y
  obtain ⟨y8, y⟩ := ba y
  obtain ⟨y9, y10⟩ := ba y
  have ogN := ogB_ok y5 pass_ix rfl
  have ogU := ogB_ok y6 pass_lk rfl
  have T_n : ExG P w K mg base "InvalidNumber" "value" "IndexError" "IndexError.__new__" "IndexError.__init__" bmIx (c6 K).n := ⟨ogN, PySem.F.excBase_IndexError, (glo_ok KX G (cd.fact 54 (f := .glo "InvalidNumber") rfl)), noat_ok (cd.fact 118 (f := .noat "InvalidNumber" "value") rfl), _, _, _, of_decide_eq_true y7, of_decide_eq_true y9, ok_InvalidNumber_init ogN (noat_ok (cd.fact 118 (f := .noat "InvalidNumber" "value") rfl)) F_InvalidNumber_init, (F_InvalidNumber_init.bindsN fun kV doc pm an cdv ct us hl => match us, hl with | [_, _], _ => rfl)⟩
  have T_u : ExG P w K mg base "NothingToUndo" "many" "LookupError" "LookupError.__new__" "LookupError.__init__" bmLk (c6 K).u := ⟨ogU, PySem.F.excBase_LookupError, (glo_ok KX G (cd.fact 55 (f := .glo "NothingToUndo") rfl)), noat_ok (cd.fact 119 (f := .noat "NothingToUndo" "many") rfl), _, _, _, of_decide_eq_true y8, of_decide_eq_true y10, ok_NothingToUndo_init ogU (noat_ok (cd.fact 119 (f := .noat "NothingToUndo" "many") rfl)) F_NothingToUndo_init, (F_NothingToUndo_init.bindsN fun kV doc pm an cdv ct us hl => match us, hl with | [_, _], _ => rfl)⟩
  have C_require_many : Cal P w K mg base (L2.CX P w) 4 "require_many" (spReqN K (c6 K).n (c6 K).u) := ⟨_, _, _, ok_require_many F_require_many C_is_integer T_n T_u, (glo_ok KX G (cd.fact 18 (f := .glo "require_many") rfl)), F_require_many.kp, (F_require_many.bindsN fun kV doc pm an cdv ct us hl => match us, hl with | [_, _], _ => rfl)⟩
  have ok_undo_ : FnOk P w K mg base (L2.CX P w) 14 (ma K (ga K "Editor") "undo") fd_Editor_undo ["self", "many"] (spUndo K (t3 K) (c6 K).n (c6 K).u) := ok_undo cf F_Editor_undo B C_require_many M_Editor_version M_Editor_change_to
  obtain ⟨ds_undo, v_undo, b_undo⟩ : ∃ ds, Vals [.int 1] ds ∧ Binds K fd_Editor_undo ["self", "many"] ds := F_Editor_undo.binds0 1 (List.cons_ne_nil _ _) rfl fun D doc pm an cdv ct us ks hu hk => match us, hu, ks, hk with
    | [_], _, [_], _ => ⟨_, _, _, _, _, _, rfl, rfl, rfl⟩
  have D_undo : MthD P w K mg base (L2.CX P w) 14 (t3 K).e "undo" (spUndo K (t3 K) (c6 K).n (c6 K).u) [.int 1] := ⟨_, _, _, _, ok_undo_, meth_ok (cd.fact 103 (f := .meth "Editor" "undo") rfl), cE_, b_undo, v_undo⟩
  have k_undo : KBn K fd_Editor_undo ["self", "many"] 1 ["many"] (fun us ws => us ++ ws) gApp := kb_many F_Editor_undo fun kV doc pm an cdv ct us ws hu hw => match us, hu, ws, hw with | [_], _, [_], _ => rfl
  have Kw_undo : MthK P w K mg base (L2.CX P w) 14 (t3 K).e "undo" (spUndo K (t3 K) (c6 K).n (c6 K).u) 1 ["many"] gApp := ⟨_, _, _, _, ok_undo_, meth_ok (cd.fact 103 (f := .meth "Editor" "undo") rfl), cE_, k_undo⟩
  have ok_redo_ : FnOk P w K mg base (L2.CX P w) 14 (ma K (ga K "Editor") "redo") fd_Editor_redo ["self", "many"] (spRedo K (t3 K) (c6 K).n (c6 K).u) := ok_redo cf F_Editor_redo B C_require_many M_Editor_version M_Editor_change_to C_edited
  obtain ⟨ds_redo, v_redo, b_redo⟩ : ∃ ds, Vals [.int 1] ds ∧ Binds K fd_Editor_redo ["self", "many"] ds := F_Editor_redo.binds0 1 (List.cons_ne_nil _ _) rfl fun D doc pm an cdv ct us ks hu hk => match us, hu, ks, hk with
    | [_], _, [_], _ => ⟨_, _, _, _, _, _, rfl, rfl, rfl⟩
  have D_redo : MthD P w K mg base (L2.CX P w) 14 (t3 K).e "redo" (spRedo K (t3 K) (c6 K).n (c6 K).u) [.int 1] := ⟨_, _, _, _, ok_redo_, meth_ok (cd.fact 104 (f := .meth "Editor" "redo") rfl), cE_, b_redo, v_redo⟩
  have k_redo : KBn K fd_Editor_redo ["self", "many"] 1 ["many"] (fun us ws => us ++ ws) gApp := kb_many F_Editor_redo fun kV doc pm an cdv ct us ws hu hw => match us, hu, ws, hw with | [_], _, [_], _ => rfl
  have Kw_redo : MthK P w K mg base (L2.CX P w) 14 (t3 K).e "redo" (spRedo K (t3 K) (c6 K).n (c6 K).u) 1 ["many"] gApp := ⟨_, _, _, _, ok_redo_, meth_ok (cd.fact 104 (f := .meth "Editor" "redo") rfl), cE_, k_redo⟩
  have C_news_between : Cal P w K mg base CX0 6 "news_between" (spNewsB (t3 K)) := ⟨_, _, _, ok_news_between cf F_news_between B C_shared_letters M_Marks_row, (glo_ok KX G (cd.fact 17 (f := .glo "news_between") rfl)), F_news_between.kp, (F_news_between.bindsN fun kV doc pm an cdv ct us hl => match us, hl with | [_, _], _ => rfl)⟩
  have N_ : NewsC P w K mg base (t3 K) := ⟨_, _, _, ok_news cf F_Editor_news C_news_between M_Editor_version, meth_ok (cd.fact 105 (f := .meth "Editor" "news") rfl), cE_, (F_Editor_news.bindsN fun kV doc pm an cdv ct us hl => match us, hl with | [_], _ => rfl)⟩
  have nTe : ga K "Trial" ≠ (t3 K).e := of_decide_eq_true x9
  have K_R : Mak P w K mg base CX0 1 "Trial" (ga K "Trial") (spTrIni (ga K "Trial")) [] := ⟨_, _, _, _, kR, ok_Trial_init cr F_Trial_init, (glo_ok KX G (cd.fact 49 (f := .glo "Trial") rfl)), (F_Trial_init.bindsN fun kV doc pm an cdv ct us hl => match us, hl with | [_, _], _ => rfl), .nil⟩
  have m_en := meth_ok (cd.fact 110 (f := .meth "Trial" "__enter__") rfl)
  have m_ex := meth_ok (cd.fact 111 (f := .meth "Trial" "__exit__") rfl)
  have tr : TrC P w K mg base (t3 K) (ga K "Trial") := ⟨cr, ⟨_, _, _, m_en.at_, m_en.fn, ok_Trial_enter cf cr nTe F_Trial_enter M_Editor_twin, (F_Trial_enter.bindsN fun kV doc pm an cdv ct us hl => match us, hl with | [_], _ => rfl)⟩, ⟨_, _, _, m_ex.at_, m_ex.fn, ok_Trial_exit F_Trial_exit cf cr, ok_Trial_exitW F_Trial_exit cf cr, (F_Trial_exit.bindsN fun kV doc pm an cdv ct us hl => match us, hl with | [_, _, _, _], _ => rfl)⟩⟩
  have M_Editor_trial : Mth P w K mg base CX0 3 (t3 K).e "trial" (spTrial (ga K "Trial")) := ⟨_, _, _, ok_trial F_Editor_trial K_R, meth_ok (cd.fact 106 (f := .meth "Editor" "trial") rfl), cE_, (F_Editor_trial.bindsN fun kV doc pm an cdv ct us hl => match us, hl with | [_], _ => rfl)⟩
  have E_Marks : OwnE P w K mg base (t3 K).m 1 (spMkEq (t3 K)) := by
    obtain ⟨z1, of, z2, z3⟩ := eqB_ok x6
    have mm := meth_ok (cd.fact 92 (f := .meth "Marks" "__eq__") rfl)
    exact ⟨_, _, _, of, ok_Marks_eq cf F_Marks_eq B gMk, mm.at_, mm.fn, z1, z2, z3, (F_Marks_eq.bindsN fun kV doc pm an cdv ct us hl => match us, hl with | [_, _], _ => rfl)⟩
  have E_TwoPass : OwnE P w K mg base (t3 K).t 3 (spTwEq (t3 K)) := by
    obtain ⟨z1, of, z2, z3⟩ := eqB_ok x5
    have mm := meth_ok (cd.fact 95 (f := .meth "TwoPass" "__eq__") rfl)
    exact ⟨_, _, _, of, ok_TwoPass_eq cf F_TwoPass_eq B gTw E_Marks, mm.at_, mm.fn, z1, z2, z3, (F_TwoPass_eq.bindsN fun kV doc pm an cdv ct us hl => match us, hl with | [_, _], _ => rfl)⟩
  have E_Editor : OwnE P w K mg base (t3 K).e 5 (spEdEq (t3 K)) := by
    obtain ⟨z1, of, z2, z3⟩ := eqB_ok x7
    have mm := meth_ok (cd.fact 108 (f := .meth "Editor" "__eq__") rfl)
    exact ⟨_, _, _, of, ok_Editor_eq cf F_Editor_eq B gEd E_TwoPass, mm.at_, mm.fn, z1, z2, z3, (F_Editor_eq.bindsN fun kV doc pm an cdv ct us hl => match us, hl with | [_, _], _ => rfl)⟩
  have C_is_step_key : Cal P w K mg base CX0 4 "is_step_key" spStepKey := ⟨_, _, _, ok_is_step_key kt F_is_step_key B C_is_mark_number, (glo_ok KX G (cd.fact 19 (f := .glo "is_step_key") rfl)), F_is_step_key.kp, (F_is_step_key.bindsN fun kV doc pm an cdv ct us hl => match us, hl with | [_, _, _], _ => rfl)⟩
  have C_is_target : Cal P w K mg base CX0 3 "is_target" spTarget := ⟨_, _, _, ok_is_target kt F_is_target B gMW C_is_word C_is_between, (glo_ok KX G (cd.fact 20 (f := .glo "is_target") rfl)), F_is_target.kp, (F_is_target.bindsN fun kV doc pm an cdv ct us hl => match us, hl with | [_], _ => rfl)⟩
  have C_is_key : Cal P w K mg base CX0 3 "is_key" (spKey (t3 K)) := ⟨_, _, _, ok_is_key cf F_is_key B gMW C_is_between, (glo_ok KX G (cd.fact 21 (f := .glo "is_key") rfl)), F_is_key.kp, (F_is_key.bindsN fun kV doc pm an cdv ct us hl => match us, hl with | [_, _], _ => rfl)⟩
  have C_met_order_marks : Cal P w K mg base CX0 1 "met_order_marks" spMetOrd := ⟨_, _, _, ok_met_order_marks F_met_order_marks B, (glo_ok KX G (cd.fact 22 (f := .glo "met_order_marks") rfl)), F_met_order_marks.kp, (F_met_order_marks.bindsN fun kV doc pm an cdv ct us hl => match us, hl with | [_, _], _ => rfl)⟩
  have C_are_good : Cal P w K mg base CX0 4 "are_good" spGood := ⟨_, _, _, ok_are_good kt F_are_good B C_is_mark_number, (glo_ok KX G (cd.fact 23 (f := .glo "are_good") rfl)), F_are_good.kp, (F_are_good.bindsN fun kV doc pm an cdv ct us hl => match us, hl with | [_, _], _ => rfl)⟩
  have C_are_steps : Cal P w K mg base CX0 5 "are_steps" spAreSteps := ⟨_, _, _, ok_are_steps kt F_are_steps B gMM C_is_step_key C_is_mark_number C_met_order_marks, (glo_ok KX G (cd.fact 24 (f := .glo "are_steps") rfl)), F_are_steps.kp, (F_are_steps.bindsN fun kV doc pm an cdv ct us hl => match us, hl with | [_, _], _ => rfl)⟩
  have K_M : Mak P w K mg base CX0 6 "Marks" (t3 K).m (spMakeM (t3 K)) [] := ⟨_, _, _, _, kM, ok_make_marks cf F_Marks_init B C_are_letters C_are_steps C_are_good, (glo_ok KX G (cd.fact 46 (f := .glo "Marks") rfl)), (F_Marks_init.bindsN fun kV doc pm an cdv ct us hl => match us, hl with | [_, _, _, _], _ => rfl), .nil⟩
  have C_require_marks : Cal P w K mg base CX0 1 "require_marks" (spReqMk (t3 K)) := ⟨_, _, _, ok_require_marks cf F_require_marks B gMk, (glo_ok KX G (cd.fact 25 (f := .glo "require_marks") rfl)), F_require_marks.kp, (F_require_marks.bindsN fun kV doc pm an cdv ct us hl => match us, hl with | [_], _ => rfl)⟩
  have C_keys_from : Cal P w K mg base CX0 1 "keys_from" (spKeysFrom (t3 K)) := ⟨_, _, _, ok_keys_from cf F_keys_from B, (glo_ok KX G (cd.fact 26 (f := .glo "keys_from") rfl)), F_keys_from.kp, (F_keys_from.bindsN fun kV doc pm an cdv ct us hl => match us, hl with | [_, _, _], _ => rfl)⟩
  have C_have_forms : Cal P w K mg base CX0 4 "have_forms" (spForms (t3 K)) := ⟨_, _, _, ok_have_forms cf F_have_forms B gMW C_is_word C_is_between C_is_target C_is_key, (glo_ok KX G (cd.fact 27 (f := .glo "have_forms") rfl)), F_have_forms.kp, (F_have_forms.bindsN fun kV doc pm an cdv ct us hl => match us, hl with | [_, _, _, _], _ => rfl)⟩
  have C_fresh_in : Cal P w K mg base CX0 1 "fresh_in" spFresh := ⟨_, _, _, ok_fresh_in F_fresh_in B, (glo_ok KX G (cd.fact 28 (f := .glo "fresh_in") rfl)), F_fresh_in.kp, (F_fresh_in.bindsN fun kV doc pm an cdv ct us hl => match us, hl with | [_], _ => rfl)⟩
  have C_met_in : Cal P w K mg base CX0 2 "met_in" (spMetIn (t3 K)) := ⟨_, _, _, ok_met_in cf F_met_in B C_fresh_in C_keys_from, (glo_ok KX G (cd.fact 29 (f := .glo "met_in") rfl)), F_met_in.kp, (F_met_in.bindsN fun kV doc pm an cdv ct us hl => match us, hl with | [_, _, _], _ => rfl)⟩
  have C_is_complete : Cal P w K mg base CX0 3 "is_complete" (spForms (t3 K)) := ⟨_, _, _, ok_is_complete cf F_is_complete B C_met_in, (glo_ok KX G (cd.fact 30 (f := .glo "is_complete") rfl)), F_is_complete.kp, (F_is_complete.bindsN fun kV doc pm an cdv ct us hl => match us, hl with | [_, _, _, _], _ => rfl)⟩
  have K_T : MakK P w K mg base CX0 5 "TwoPass" (t3 K).t (spMakeT (t3 K)) 1 kwTwo (fun vs zs => vs ++ zs) := ⟨_, _, _, (fun us ws => us ++ ws), kT, ok_make_two cf F_TwoPass_init B C_require_marks C_have_forms C_is_complete C_met_in, (glo_ok KX G (cd.fact 47 (f := .glo "TwoPass") rfl)), kb_many F_TwoPass_init fun kV doc pm an cdv ct us ws hu hw => match us, hu, ws, hw with | [_, _], _, [_, _, _], _ => rfl⟩
  have Pr_Editor_text : PropC P w K mg base (t3 K).e "text" 1 (getSp (t3 K).e "own_text") := ⟨_, _, _, _, P_Editor_text, ok_Editor_text cf F_Editor_text, (F_Editor_text.bindsN fun kV doc pm an cdv ct us hl => match us, hl with | [_], _ => rfl), cE_⟩
  have Pr_Editor_log : PropC P w K mg base (t3 K).e "log" 1 (spLog K (t3 K)) := ⟨_, _, _, _, P_Editor_log, ok_Editor_log cf F_Editor_log B, (F_Editor_log.bindsN fun kV doc pm an cdv ct us hl => match us, hl with | [_], _ => rfl), cE_⟩
  have Pr_TwoPass_marks : PropC P w K mg base (t3 K).t "marks" 1 (getSp (t3 K).t "own_marks") := ⟨_, _, _, _, P_TwoPass_marks, ok_TwoPass_marks cf F_TwoPass_marks, (F_TwoPass_marks.bindsN fun kV doc pm an cdv ct us hl => match us, hl with | [_], _ => rfl), cT_⟩
  have C_law_throw : Cal P w K mg base CX0 1 "_law_throw" spThrow := ⟨_, _, _, ok_law_throw F_law_throw B, (glo_ok KX G (cd.fact 32 (f := .glo "_law_throw") rfl)), F_law_throw.kp, (F_law_throw.bindsN fun kV doc pm an cdv ct us hl => match us, hl with | [_, _], _ => rfl)⟩
  have C_law_pick : Cal P w K mg base CX0 2 "_law_pick" spPick := ⟨_, _, _, ok_law_pick F_law_pick B C_law_throw, (glo_ok KX G (cd.fact 33 (f := .glo "_law_pick") rfl)), F_law_pick.kp, (F_law_pick.bindsN fun kV doc pm an cdv ct us hl => match us, hl with | [_, _], _ => rfl)⟩
  have C_law_shuffled : Cal P w K mg base CX0 2 "_law_shuffled" spShuffled := ⟨_, _, _, ok_law_shuffled F_law_shuffled B C_law_throw, (glo_ok KX G (cd.fact 34 (f := .glo "_law_shuffled") rfl)), F_law_shuffled.kp, (F_law_shuffled.bindsN fun kV doc pm an cdv ct us hl => match us, hl with | [_, _], _ => rfl)⟩
  have C_law_drawn_word : Cal P w K mg base CX0 3 "_law_drawn_word" spDrawn := ⟨_, _, _, ok_law_drawn_word F_law_drawn_word B C_law_throw C_law_pick, (glo_ok KX G (cd.fact 35 (f := .glo "_law_drawn_word") rfl)), F_law_drawn_word.kp, (F_law_drawn_word.bindsN fun kV doc pm an cdv ct us hl => match us, hl with | [_, _, _], _ => rfl)⟩
  have C_law_start : Cal P w K mg base CX0 1 "_law_start" (spStart K) := ⟨_, _, _, ok_law_start F_law_start B, (glo_ok KX G (cd.fact 31 (f := .glo "_law_start") rfl)), F_law_start.kp, (F_law_start.bindsN fun kV doc pm an cdv ct us hl => match us, hl with | [_, _], _ => rfl)⟩
  have C_law_copier : Cal P w K mg base CX0 8 "_law_copier" (spCopier (t3 K)) := ⟨_, _, _, ok_law_copier cf F_law_copier B K_M K_T, (glo_ok KX G (cd.fact 37 (f := .glo "_law_copier") rfl)), F_law_copier.kp, (F_law_copier.bindsN fun kV doc pm an cdv ct us hl => match us, hl with | [_], _ => rfl)⟩
  have C_law_stays : Cal P w K mg base CX0 16 "_law_stays" (spStays K (t3 K)) := ⟨_, _, _, ok_law_stays F_law_stays B E_Editor Pr_Editor_log N_ M_Editor_twin D_redo, (glo_ok KX G (cd.fact 42 (f := .glo "_law_stays") rfl)), F_law_stays.kp, (F_law_stays.bindsN fun kV doc pm an cdv ct us hl => match us, hl with | [_, _, _], _ => rfl)⟩
  have C_law_wrong_edits : Cal P w K mg base CX0 4 "_law_wrong_edits" (spWrong K (t3 K)) := ⟨_, _, _, ok_law_wrong_edits cf F_law_wrong_edits Pr_TwoPass_marks, (glo_ok KX G (cd.fact 38 (f := .glo "_law_wrong_edits") rfl)), F_law_wrong_edits.kp, (F_law_wrong_edits.bindsN fun kV doc pm an cdv ct us hl => match us, hl with | [_, _, _], _ => rfl)⟩
  have C_law_fine_edit : Cal P w K mg base CX0 3 "_law_fine_edit" spFine := ⟨_, _, _, ok_law_fine_edit F_law_fine_edit C_law_pick, (glo_ok KX G (cd.fact 39 (f := .glo "_law_fine_edit") rfl)), F_law_fine_edit.kp, (F_law_fine_edit.bindsN fun kV doc pm an cdv ct us hl => match us, hl with | [_, _], _ => rfl)⟩
  have okS := ok_law_spoilt cf F_law_spoilt R_make (base := base) (w := w) (P := P)
  have okL := ok_law_too_low cf F_law_too_low D_undo Kw_redo
  have A_s : Mth P w K mg base (L2.CX P w) 17 (t3 K).e "attempt" (spAtt (t3 K) (fAd K ("_law_spoilt", none)) (spSpoilt K (t3 K) (c6 K).e)) := ⟨_, _, _, ok_attempt cf tr nTe F_Editor_attempt M_Editor_trial okS F_law_spoilt.kp (F_law_spoilt.bindsN fun kV doc pm an cdv ct us hl => match us, hl with | [_], _ => rfl) mono_spoilt, meth_ok (cd.fact 107 (f := .meth "Editor" "attempt") rfl), cE_, (F_Editor_attempt.bindsN fun kV doc pm an cdv ct us hl => match us, hl with | [_, _], _ => rfl)⟩
  have A_l : Mth P w K mg base (L2.CX P w) 17 (t3 K).e "attempt" (spAtt (t3 K) (fAd K ("_law_too_low", none)) (spLow K (t3 K) (c6 K).n)) := ⟨_, _, _, ok_attempt cf tr nTe F_Editor_attempt M_Editor_trial okL F_law_too_low.kp (F_law_too_low.bindsN fun kV doc pm an cdv ct us hl => match us, hl with | [_], _ => rfl) mono_low, meth_ok (cd.fact 107 (f := .meth "Editor" "attempt") rfl), cE_, (F_Editor_attempt.bindsN fun kV doc pm an cdv ct us hl => match us, hl with | [_, _], _ => rfl)⟩
  have W6 : Word6 K mg (c6 K) := ⟨(glo_ok KX G (cd.fact 50 (f := .glo "InvalidMachine") rfl)), (glo_ok KX G (cd.fact 51 (f := .glo "InvalidText") rfl)), (glo_ok KX G (cd.fact 52 (f := .glo "InvalidOperation") rfl)), (glo_ok KX G (cd.fact 53 (f := .glo "InvalidEdit") rfl)), (glo_ok KX G (cd.fact 54 (f := .glo "InvalidNumber") rfl)), (glo_ok KX G (cd.fact 55 (f := .glo "NothingToUndo") rfl)), fun a ha b hb => of_decide_eq_true (List.all_eq_true.mp (List.all_eq_true.mp y1 a ha) b hb), of_decide_eq_true y2, xfB_ok y3, xfB_ok y4, noat_ok (cd.fact 118 (f := .noat "InvalidNumber" "value") rfl), noat_ok (cd.fact 119 (f := .noat "NothingToUndo" "many") rfl)⟩
  have wf : WordF K mg (c6 K) := ⟨⟨_, _, F_law_word, (glo_ok KX G (cd.fact 36 (f := .glo "_law_word") rfl))⟩, W6, B⟩
  have TBn := TB (cT K ("_law_numbers_right", none)) (by simp [tfL])
  have TBr := TB (cT K ("_law_right", none)) (by simp [tfL])
  have TBl := TB (cT K ("law", none)) (by simp [tfL])
  have C_law_numbers_right : CalG P w K mg base CX0 18 "_law_numbers_right" (spNum K (t3 K) (tb3 K)) := ⟨_, _, _, ok_law_numbers_right cf wf hok F_law_numbers_right (code_of F_law_numbers_right) TBn B C_law_pick N_ M_Editor_make_step R_make Kw_undo Kw_redo, (glo_ok KX G (cd.fact 43 (f := .glo "_law_numbers_right") rfl)), F_law_numbers_right.kp, (F_law_numbers_right.bindsN fun kV doc pm an cdv ct us hl => match us, hl with | [_, _, _, _], _ => rfl)⟩
  have rc : RCtx P w K mg base (t3 K) (c6 K) (tb3 K) (fAd K ("_law_spoilt", none)) (fAd K ("_law_too_low", none)) := {
    cf := cf, wf := wf, hok := hok, B := B, pick := C_law_pick, news := N_, step := M_Editor_make_step, make := R_make, undo := D_undo, twin := M_Editor_twin, text := Pr_Editor_text, marks := Pr_TwoPass_marks, log := Pr_Editor_log,
    copier := C_law_copier, drawn := C_law_drawn_word, shuf := C_law_shuffled, start := C_law_start, wrong := C_law_wrong_edits, fine := C_law_fine_edit, stays := C_law_stays, ed2 := K_E2, ed1 := K_E1, eq := E_Editor, attS := A_s, attL := A_l,
    gS := ⟨_, (glo_ok KX G (cd.fact 40 (f := .glo "_law_spoilt") rfl)), rfl⟩, gL := ⟨_, (glo_ok KX G (cd.fact 41 (f := .glo "_law_too_low") rfl)), rfl⟩, num := C_law_numbers_right }
  have C_law_right : CalG P w K mg base CX0 20 "_law_right" (spRight (t3 K) (tb3 K)) := ⟨_, _, _, ok_law_right rc F_law_right (code_of F_law_right) TBr, (glo_ok KX G (cd.fact 44 (f := .glo "_law_right") rfl)), F_law_right.kp, (F_law_right.bindsN fun kV doc pm an cdv ct us hl => match us, hl with | [_], _ => rfl)⟩
  exact ok_law rc F_law (code_of F_law) TBl C_law_right
end K67
end
section
set_option Elab.async false
set_option linter.all false
set_option maxRecDepth 100000
set_option maxHeartbeats 4000000
namespace K67
open PySem PySem.Spec PyProof.Rows L2 LamX He
/-- the heap as the law's call finds it: the empty tables of its defs with lambdas, the script (unless the written part holds it) -/
def HEnd (K : PySem.W.Frag) (ts : List Addr) (a : Addr) (o : Obj) (ns : List Int) : Hp := fun b => if b ∈ ts then some (.tbl #[]) else if b = a ∧ K.lookup a = none then some (.frz o (.lst (ns.map V.int))) else none
section
variable {K : PySem.W.Frag} {ts : List Addr} {a : Addr} {o : Obj} {ns : List Int}
theorem hEnd_cases (b : Addr) : (b ∈ ts ∧ HEnd K ts a o ns b = some (.tbl #[])) ∨ (b ∉ ts ∧ b = a ∧ K.lookup a = none ∧ HEnd K ts a o ns b = some (.frz o (.lst (ns.map V.int)))) ∨ (b ∉ ts ∧ HEnd K ts a o ns b = none) := by
  unfold HEnd
  by_cases h1 : b ∈ ts
  · exact .inl ⟨h1, if_pos h1⟩
  · by_cases h2 : b = a ∧ K.lookup a = none
    · exact .inr (.inl ⟨h1, h2.1, h2.2, by rw [if_neg h1, if_pos h2]⟩)
    · exact .inr (.inr ⟨h1, by rw [if_neg h1, if_neg h2]⟩)
end
theorem end_run {P : Program} {w : World} {K : PySem.W.Frag} {mg mb : Str → Option Value} {k : Nat} {fa a : Addr} {cs : List (Addr × Addr)} {fd : FuncData} {x : Str} {sp : Sp} {s₁ : Shared} {vs : List Value} {ns : List Int}
    (KX : K.In s₁.heap) (hns : s₁.heap.Ns mainGlobals mg) (hb : s₁.heap.Ns builtinsNs mb) (hbb : ∀ x : Str, x ≠ "__name__" → mb x = bootBuiltins x) (hlim : s₁.heap.NoLimit) (hg : s₁.gens = #[])
    (hT : ∀ p ∈ cs, s₁.heap.get? p.2 = some { cls := .none, data := .fields #[] }) (nT : ∀ p ∈ cs, K.lookup p.2 = none) (C : ∀ p ∈ cs, PySem.W.CodeHd s₁.heap p.1 p.2)
    (hbm : ∃ (bm : Addr) (ob : Obj), mg "__builtins__" = some (.ref bm) ∧ bm ≠ builtinsNs ∧ s₁.heap.get? bm = some ob ∧ ob.cls = .type "module" ∧ ob.dict = some builtinsNs ∧ ob.data = .plain)
    (ha : s₁.heap.get? a = some { cls := .type "list", data := .seq vs.toArray }) (hi : IntsAre vs ns) (hl : ns.length ≤ sizeLine) (hr : Room k callerA)
    (F : ∀ base : Heap, K.In base → base.Ns mainGlobals mg → (∀ p ∈ cs, TabB base mg p.1 p.2) → FnG P w K mg base CX0 k fa fd [x] sp) (hbind : ∀ (s : Shared) (u : Value), BindsTo s fd ⟨[u], []⟩ [(x, u)])
    (hsp : ∀ H : Hp, (∀ p ∈ cs, H p.2 = some (.tbl #[])) → SqL K H a (ns.map V.int) → sp [.ref a] H (fun v _ => v = .bl true) fun _ _ _ => False) :
    codeAny (model P w) callerA (.call (.ref fa) ⟨[.ref a], []⟩) (fun r s' => r = .ok (.ret (.bool true)) ∧ OldK s₁.heap s'.heap ∧ s'.os = s₁.os ∧ AllBare s'.gens) s₁ := by
  have rv := vals_ints hi
  have lenV := hi.length
  obtain ⟨H, eH⟩ : ∃ H : Hp, H = HEnd K (cs.map (·.2)) a { cls := .type "list", data := .seq vs.toArray } ns := ⟨_, rfl⟩
  have cas := fun b => hEnd_cases (K := K) (ts := cs.map (·.2)) (a := a) (o := { cls := .type "list", data := .seq vs.toArray }) (ns := ns) b
  rw [← eH] at cas
  have tab : ∀ b, b ∈ cs.map (·.2) → s₁.heap.get? b = some { cls := .none, data := .fields #[] } ∧ K.lookup b = none := fun b hb => by
    obtain ⟨p, hp, e⟩ := List.mem_map.mp hb
    rw [← e]
    exact ⟨hT p hp, nT p hp⟩
  have aT : a ∉ cs.map (·.2) := fun z => by
    have q := (tab a z).1
    rw [ha] at q
    cases q
  have atT : ∀ p ∈ cs, H p.2 = some (.tbl #[]) := fun p hp => by
    have hm : p.2 ∈ cs.map (·.2) := List.mem_map.mpr ⟨p, hp, rfl⟩
    rcases cas p.2 with h | h | h
    · exact h.2
    · exact absurd hm h.1
    · exact absurd hm h.1
  have hok : HOk P w H s₁.heap := fun b u e => by
    rcases cas b with h | h | h
    · rw [h.2] at e
      cases e
      exact (tab b h.1).1
    · rw [h.2.2.2] at e
      cases e
      rw [h.2.1]
      exact ⟨ha, by rw [List.length_map]; exact hl, vs, _, rv, ha⟩
    · rw [h.2] at e
      cases e
  have hS : SqL K H a (ns.map V.int) := by
    cases hk : K.lookup a with
    | none =>
      rcases cas a with h | h | h
      · exact absurd h.1 aT
      · exact .inl (.inr ⟨_, h.2.2.2⟩)
      · have : H a = some (.frz { cls := .type "list", data := .seq vs.toArray } (.lst (ns.map V.int))) := by
          rw [eH]
          unfold HEnd
          rw [if_neg aT, if_pos ⟨rfl, hk⟩]
        rw [h.2] at this
        cases this
    | some ob =>
      have e := KX a ob hk
      rw [ha] at e
      cases e
      exact .inr ⟨_, vs.toArray, _, hk, rfl, rfl, rfl, by rw [List.size_toArray, lenV]; exact hl, by simpa using rv⟩
  -- what is not the script and no table is on the ground
  have nH : ∀ {b : Addr} {ob : Obj}, s₁.heap.get? b = some ob → (∀ us n, ob.data ≠ .seq us n) → ob.data ≠ .fields #[] → H b = none := fun {b ob} e h1 h2 => by
    rcases cas b with h | h | h
    · rw [(tab b h.1).1] at e
      cases e
      exact absurd rfl h2
    · rw [h.2.1, ha] at e
      cases e
      exact absurd rfl (h1 _ _)
    · exact h.2
  have on : ∀ {b : Addr} {ob : Obj}, s₁.heap.get? b = some ob → (∀ us n, ob.data ≠ .seq us n) → ob.data ≠ .fields #[] → (hidT s₁.heap H).get? b = some ob := fun e h1 h2 => hidT_get e (nH e h1 h2)
  have nsK : ∀ {b : Addr} {m : Str → Option Value}, s₁.heap.Ns b m → (hidT s₁.heap H).Ns b m := fun {b m} ⟨ob, es, ep, e, d, r⟩ => ⟨ob, es, ep, on e (fun us n z => by rw [d] at z; cases z) (fun z => by rw [d] at z; cases z), d, r⟩
  have hKb : K.In (hidT s₁.heap H) := fun b ob e => hidT_get (KX b ob e) (by
    rcases cas b with h | h | h
    · rw [(tab b h.1).2] at e; cases e
    · rw [h.2.1, h.2.2.1] at e; cases e
    · exact h.2)
  have hM : L2.Mod K mg (hidT s₁.heap H) := ⟨hKb, nsK hns, ⟨mb, nsK hb, hbb⟩, let ⟨mc, h1, h2⟩ := hlim; ⟨mc, nsK h1, h2⟩⟩
  have TB : ∀ p ∈ cs, TabB (hidT s₁.heap H) mg p.1 p.2 := fun p hp => by
    refine ⟨?_, ?_, fun z => ?_⟩
    · obtain ⟨ob, us, file, tf, flags, tg, inF, text, tt, e1, r1, r2, r3, rest⟩ := C p hp
      refine ⟨ob, us, file, tf, flags, tg, inF, text, tt, on e1 (fun q n z => ?_) (fun z => ?_), r1, r2, r3, rest⟩
      · rw [r2] at z; cases z
      · rw [r2] at z
        cases z
        simp at r3
    · obtain ⟨bm, ob, b1, b2, b3, b4, b5, b6⟩ := hbm
      refine ⟨bm, ob, b1, b2, fun q => ?_, fun q => ?_, on b3 (fun us n z => ?_) (fun z => ?_), b4, b5, b6⟩
      · obtain ⟨o2, es, ep, e, hd, _⟩ := hns
        rw [q, e] at b3
        cases b3
        rw [hd] at b6
        cases b6
      · rw [q, hT p hp] at b3
        cases b3
        cases b6
      · rw [b6] at z; cases z
      · rw [b6] at z; cases z
    · obtain ⟨o2, es, ep, e, hd, _⟩ := hns
      rw [z, hT p hp] at e
      cases e
      cases hd
  have e0 : Env0 P w K mg (hidT s₁.heap H) callerA [] s₁ H := ⟨rfl, hM, fun b ob e => of_hidT e, Nat.le_of_eq (hidT_size _ _), trivial, fun b hb => absurd (show b ∈ ([] : List Addr) from hb) (by simp), hok, .of_eq hg⟩
  refine codeAny_mono ((F _ hKb (nsK hns) TB).run callerA [] s₁ H ⟨[.ref a], []⟩ [.ref a] [.ref a] _ _ rfl hr e0 (hbind s₁ (.ref a)) (.cons rfl .nil) (hsp H atT hS)) fun r s' h => ?_
  cases r with
  | error e => exact (show False from h).elim
  | ok fl =>
    cases fl with
    | next => exact False.elim h
    | brk => exact False.elim h
    | cont => exact False.elim h
    | ret u =>
      obtain ⟨v, H', os, bare, un, hok', r', q⟩ := h
      have q' : v = .bl true := q
      subst q'
      obtain rfl : u = Value.bool true := r'
      have stays : ∀ b ob, b ∉ cs.map (·.2) → s₁.heap.get? b = some ob → s'.heap.get? b = some ob := fun b ob nb e => by
        rcases cas b with h | h | h
        · exact absurd h.1 nb
        · have z2 := un.frzs b _ _ h.2.2.2
          obtain ⟨e2, _⟩ := hok' b _ z2
          rw [h.2.1, ha] at e
          cases e
          exact e2
        · exact un.keep b ob e h.2 (by intro z; exact absurd (show b ∈ ([] : List Addr) from z) (by simp)) (by simp)
      have grown : ∀ b, b ∈ cs.map (·.2) → ∃ p ∈ cs, p.2 = b ∧ ∃ more : Array Value, s'.heap.get? b = some { cls := .none, data := .fields more } := fun b hb => by
        obtain ⟨p, hp, e⟩ := List.mem_map.mp hb
        obtain ⟨more, z⟩ := un.tbls p.2 #[] (atT p hp)
        rw [← e]
        exact ⟨p, hp, rfl, _, hok' p.2 _ z⟩
      refine ⟨rfl, ⟨fun b ob e => ?_, fun b ob e => ?_⟩, os, bare⟩
      · by_cases hb : b ∈ cs.map (·.2)
        · obtain ⟨p, hp, ep, more, hm⟩ := grown b hb
          have e2 := (tab b hb).1
          rw [e2] at e
          cases e
          subst ep
          exact .inr (.inl ⟨((C p hp).tab (hT p hp)).isCodeTable, rfl, #[], more, rfl, by rw [Array.empty_append]; exact hm⟩)
        · exact .inl (stays b ob hb e)
      · by_cases hb : b ∈ cs.map (·.2)
        · obtain ⟨p, hp, ep, more, hm⟩ := grown b hb
          exact ⟨_, hm⟩
        · exact ⟨ob, stays b ob hb e⟩
end K67
end
set_option Elab.async false
set_option linter.all false
set_option maxRecDepth 100000
set_option maxHeartbeats 0
namespace K67
open PySem PySem.Spec PyProof.Rows L2 LamX He
theorem law_walk : PySem.W.WalkO (PySem.W.view RR.prog [141]) nmL (PySem.W.XL (PySem.W.view RR.prog [141]) []) hookK.says PySem.Challenge.rw_fewmarks_k67_editor_errors.row.toRowW (HandSHeadRun.topDef RR.prog 141) [] (fun f vs => PySem.call f vs) := by
  refine Att.attach_callB (l := PySem.Challenge.rw_fewmarks_k67_editor_errors) (n := 63) rfl (by kernel_rfl) fun w s₀ s₁ mg mb fa o pm cd doc a vs ns G Y ho hd hcd hmg0 hobj hints hlen hbits hg => ?_
  obtain ⟨K, KX, c⟩ := Y
  have hmg : mg ("law" : Str) = some (.ref fa) := by
    have e : (HandSHeadRun.topDef RR.prog 141).name = ("law" : Str) := by kernel_rfl
    rw [← e]
    exact hmg0
  obtain ⟨fd, F⟩ := c.x.t.d.defs (d := d_law) (by simp [fnL])
  have ef : fa = ga K "law" := by
    have g := glo_ok KX G.T.g (c.x.t.d.facts (f := .glo "law") (by simp [faL]))
    rw [hmg] at g
    cases g
    rfl
  subst ef
  have mem : ∀ p ∈ tfL.map (cT K), ∃ q ∈ tfL, cT K q = p := fun p hp => List.mem_map.mp hp
  refine end_run (cs := tfL.map (cT K)) KX G.T.g G.T.b G.T.builtins G.T.nolimit hg (fun p hp => ?_) (fun p hp => ?_) (fun p hp => ?_) G.T.bmain hobj hints (Nat.le_trans hlen (by decide)) (k := 22) ⟨rfl, by decide, by decide⟩ (fun base _ _ TB => facts_law KX G.T.g c TB F) (x := "_law_script") (fun s u => FunD.bindsA (ps := ["_law_script"]) F (fun kV doc pm an cdv ct us hl => match us, hl with | [_], _ => rfl) s [u] rfl) fun H tabs hS => ⟨a, ns, rfl, hS, hlen, fun p hp => ?_, fun _ => rfl⟩
  · obtain ⟨q, hq, rfl⟩ := mem p hp
    exact c.x.empty q hq
  · obtain ⟨q, hq, rfl⟩ := mem p hp
    exact c.x.out q hq
  · obtain ⟨q, hq, rfl⟩ := mem p hp
    exact PySem.W.codeHd_of_K KX (c.x.hd q hq)
  · simp only [Tab3.T, List.mem_cons, List.mem_nil_iff, or_false] at hp
    rcases hp with rfl | rfl | rfl
    · exact TabS.nil (tabs _ (List.mem_map.mpr ⟨("_law_numbers_right", none), by simp [tfL], rfl⟩))
    · exact TabS.nil (tabs _ (List.mem_map.mpr ⟨("_law_right", none), by simp [tfL], rfl⟩))
    · exact TabS.nil (tabs _ (List.mem_map.mpr ⟨("law", none), by simp [tfL], rfl⟩))
end K67
open PySem PySem.W PySem.Calls PyProof.Rows
theorem PySem.Challenge.cw_fewmarks_k67_editor_errors_holds : PySem.Challenge.rw_fewmarks_k67_editor_errors.Holds := by
  w_on; o_law
  refine HandSHeadRun.head_any (r := OpenLaw.row PySem.Challenge.rw_fewmarks_k67_editor_errors) (q := view (OpenLaw.row PySem.Challenge.rw_fewmarks_k67_editor_errors).prog [141]) (H := K67.hookK) (ob := K67.obK) (M := 20000) (loose := K67.nmL) (d := HandSHeadRun.topDef (OpenLaw.row PySem.Challenge.rw_fewmarks_k67_editor_errors).prog 141) (kwd := []) K67.obK_eq
    (by kernel_rfl) (fun s => by kernel_rfl) K67.runK (by kernel_rfl) (by kernel_rfl) (by kernel_rfl) (by rfl) (by first | assumption | decide +kernel) (by decide +kernel) ⟨rfl, rfl, rfl, rfl, rfl, by decide +kernel⟩ ?hw ?hc
  case hw => w_witness2
  case hc => exact K67.law_walk
