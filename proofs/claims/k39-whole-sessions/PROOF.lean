import PyProof.Rows.All
import Wide.All
import OpenK.AllK
import Wide.FinOn
import HandS.Words
import PySem.Challenge.RW_emptyup_k39_whole_sessions
import HandS.HeadHook4
import HandS.HeadWalk
import HandS.Defaults
import KE.KStateDown
import HandS.Head0
import HandS.Head1
import HandS.Head2
import HandS.EndTab
import HandS.ForMost
import HandS.ForExc
import HandS.Slots
import HandS.SlotsOwn
import HandS.Star
import HandS.Deep
import HandS.DeepEq
import HandS.TupAny
import HandS.Wide
import HandS.Flow
import HandS.IsInst
import HandS.Iter
import HandS.Lambda
import HandS.List
import HandS.Dict
import HandS.More
import KE.KOpsOwn
import HandS.Text
import HandS.Conv
import HandS.SetBool
import HandS.SetKeys
import HandS.Zip
import KE.GoesEnum
import HandS.Comp
import HandS.ClsMeth
import HandS.DictComp
import KE.GoesComp
import HandS.Small
import HandS.OwnEq
import PyProof.InstNe
import PyProof.P3Eq
import HandS.HotCalls
import HandS.SuiteRaise
import HandS.Nested
import KE.KWithOwn
import PyProof.ExcBaseAll.ValueError
set_option Elab.async false
set_option linter.all false
set_option maxRecDepth 100000
set_option maxHeartbeats 4000000
namespace DL
open PySem PySem.Spec PyProof.Rows L2
def top (i : Nat) : Stmt := PySem.Challenge.pw_emptyup_k39_whole_sessions.main.body.getD i (.Pass ⟨0, 0, 0, 0⟩)
abbrev s_is_number : Stmt := top 20
abbrev n_is_number : List Str := ["thing", "least", "most"]
abbrev p_is_number : List Str := ["thing", "least", "most"]
theorem sc_is_number : FnScope n_is_number p_is_number (defScope s_is_number) := ⟨rfl, rfl, rfl, by decide +kernel, rfl, by decide +kernel, by decide +kernel⟩
abbrev s_is_name : Stmt := top 21
abbrev n_is_name : List Str := ["thing"]
abbrev p_is_name : List Str := ["thing"]
theorem sc_is_name : FnScope n_is_name p_is_name (defScope s_is_name) := ⟨rfl, rfl, rfl, by decide +kernel, rfl, by decide +kernel, by decide +kernel⟩
abbrev s_is_word : Stmt := top 22
abbrev n_is_word : List Str := ["thing", "words"]
abbrev p_is_word : List Str := ["thing", "words"]
theorem sc_is_word : FnScope n_is_word p_is_word (defScope s_is_word) := ⟨rfl, rfl, rfl, by decide +kernel, rfl, by decide +kernel, by decide +kernel⟩
abbrev s_is_field : Stmt := top 23
abbrev n_is_field : List Str := ["field", "many", "name", "target", "form", "mark", "spare"]
abbrev p_is_field : List Str := ["field", "many"]
theorem sc_is_field : FnScope n_is_field p_is_field (defScope s_is_field) := ⟨rfl, rfl, rfl, by decide +kernel, rfl, by decide +kernel, by decide +kernel⟩
abbrev s_is_spare : Stmt := top 24
abbrev n_is_spare : List Str := ["kind", "field", "other"]
abbrev p_is_spare : List Str := ["kind", "field"]
theorem sc_is_spare : FnScope n_is_spare p_is_spare (defScope s_is_spare) := ⟨rfl, rfl, rfl, by decide +kernel, rfl, by decide +kernel, by decide +kernel⟩
abbrev s_is_kind : Stmt := top 25
abbrev n_is_kind : List Str := ["kind", "many", "field"]
abbrev p_is_kind : List Str := ["kind", "many"]
theorem sc_is_kind : FnScope n_is_kind p_is_kind (defScope s_is_kind) := ⟨rfl, rfl, rfl, by decide +kernel, rfl, by decide +kernel, by decide +kernel⟩
abbrev s_Schema_xinit : Stmt := inClass (top 26) 1
abbrev n_Schema_xinit : List Str := ["self", "kinds", "kind", "index"]
abbrev p_Schema_xinit : List Str := ["self", "kinds"]
theorem sc_Schema_xinit : FnScope n_Schema_xinit p_Schema_xinit (defScope s_Schema_xinit) := ⟨rfl, rfl, rfl, by decide +kernel, rfl, by decide +kernel, by decide +kernel⟩
abbrev s_Schema_kinds : Stmt := inClass (top 26) 2
abbrev n_Schema_kinds : List Str := ["self"]
abbrev p_Schema_kinds : List Str := ["self"]
theorem sc_Schema_kinds : FnScope n_Schema_kinds p_Schema_kinds (defScope s_Schema_kinds) := ⟨rfl, rfl, rfl, by decide +kernel, rfl, by decide +kernel, by decide +kernel⟩
abbrev s_Schema_xlen : Stmt := inClass (top 26) 3
abbrev n_Schema_xlen : List Str := ["self"]
abbrev p_Schema_xlen : List Str := ["self"]
theorem sc_Schema_xlen : FnScope n_Schema_xlen p_Schema_xlen (defScope s_Schema_xlen) := ⟨rfl, rfl, rfl, by decide +kernel, rfl, by decide +kernel, by decide +kernel⟩
abbrev s_Schema_xcontains : Stmt := inClass (top 26) 4
abbrev n_Schema_xcontains : List Str := ["self", "pair", "field"]
abbrev p_Schema_xcontains : List Str := ["self", "pair"]
theorem sc_Schema_xcontains : FnScope n_Schema_xcontains p_Schema_xcontains (defScope s_Schema_xcontains) := ⟨rfl, rfl, rfl, by decide +kernel, rfl, by decide +kernel, by decide +kernel⟩
abbrev s_Schema_xgetitem : Stmt := inClass (top 26) 6
abbrev n_Schema_xgetitem : List Str := ["self", "pair", "kind", "name", "field"]
abbrev p_Schema_xgetitem : List Str := ["self", "pair"]
theorem sc_Schema_xgetitem : FnScope n_Schema_xgetitem p_Schema_xgetitem (defScope s_Schema_xgetitem) := ⟨rfl, rfl, rfl, by decide +kernel, rfl, by decide +kernel, by decide +kernel⟩
abbrev s_Schema_xeq : Stmt := inClass (top 26) 8
abbrev n_Schema_xeq : List Str := ["self", "other"]
abbrev p_Schema_xeq : List Str := ["self", "other"]
theorem sc_Schema_xeq : FnScope n_Schema_xeq p_Schema_xeq (defScope s_Schema_xeq) := ⟨rfl, rfl, rfl, by decide +kernel, rfl, by decide +kernel, by decide +kernel⟩
abbrev s_check_schema : Stmt := top 28
abbrev n_check_schema : List Str := ["schema"]
abbrev p_check_schema : List Str := ["schema"]
theorem sc_check_schema : FnScope n_check_schema p_check_schema (defScope s_check_schema) := ⟨rfl, rfl, rfl, by decide +kernel, rfl, by decide +kernel, by decide +kernel⟩
abbrev s_is_part : Stmt := top 32
abbrev n_is_part : List Str := ["part"]
abbrev p_is_part : List Str := ["part"]
theorem sc_is_part : FnScope n_is_part p_is_part (defScope s_is_part) := ⟨rfl, rfl, rfl, by decide +kernel, rfl, by decide +kernel, by decide +kernel⟩
abbrev s_levels_of : Stmt := top 33
abbrev n_levels_of : List Str := ["parts", "most", "name", "inner"]
abbrev p_levels_of : List Str := ["parts"]
theorem sc_levels_of : FnScope n_levels_of p_levels_of (defScope s_levels_of) := ⟨rfl, rfl, rfl, by decide +kernel, rfl, by decide +kernel, by decide +kernel⟩
abbrev s_names_in : Stmt := top 34
abbrev n_names_in : List Str := ["parts", "found", "name", "inner"]
abbrev p_names_in : List Str := ["parts"]
theorem sc_names_in : FnScope n_names_in p_names_in (defScope s_names_in) := ⟨rfl, rfl, rfl, by decide +kernel, rfl, by decide +kernel, by decide +kernel⟩
abbrev s_Question_xinit : Stmt := inClass (top 35) 1
abbrev n_Question_xinit : List Str := ["self", "parts", "part", "name", "inner"]
abbrev p_Question_xinit : List Str := ["self", "parts"]
theorem sc_Question_xinit : FnScope n_Question_xinit p_Question_xinit (defScope s_Question_xinit) := ⟨rfl, rfl, rfl, by decide +kernel, rfl, by decide +kernel, by decide +kernel⟩
abbrev s_Question_parts : Stmt := inClass (top 35) 2
abbrev n_Question_parts : List Str := ["self"]
abbrev p_Question_parts : List Str := ["self"]
theorem sc_Question_parts : FnScope n_Question_parts p_Question_parts (defScope s_Question_parts) := ⟨rfl, rfl, rfl, by decide +kernel, rfl, by decide +kernel, by decide +kernel⟩
abbrev s_Question_xlen : Stmt := inClass (top 35) 3
abbrev n_Question_xlen : List Str := ["self"]
abbrev p_Question_xlen : List Str := ["self"]
theorem sc_Question_xlen : FnScope n_Question_xlen p_Question_xlen (defScope s_Question_xlen) := ⟨rfl, rfl, rfl, by decide +kernel, rfl, by decide +kernel, by decide +kernel⟩
abbrev s_Question_xeq : Stmt := inClass (top 35) 10
abbrev n_Question_xeq : List Str := ["self", "other"]
abbrev p_Question_xeq : List Str := ["self", "other"]
theorem sc_Question_xeq : FnScope n_Question_xeq p_Question_xeq (defScope s_Question_xeq) := ⟨rfl, rfl, rfl, by decide +kernel, rfl, by decide +kernel, by decide +kernel⟩
abbrev s_check_question : Stmt := top 38
abbrev n_check_question : List Str := ["question"]
abbrev p_check_question : List Str := ["question"]
theorem sc_check_question : FnScope n_check_question p_check_question (defScope s_check_question) := ⟨rfl, rfl, rfl, by decide +kernel, rfl, by decide +kernel, by decide +kernel⟩
abbrev s_unfit : Stmt := top 39
abbrev n_unfit : List Str := ["schema", "question", "kind"]
abbrev p_unfit : List Str := ["schema", "question", "kind"]
theorem sc_unfit : FnScope n_unfit p_unfit (defScope s_unfit) := ⟨rfl, rfl, rfl, by decide +kernel, rfl, by decide +kernel, by decide +kernel⟩
abbrev s_unfit_in : Stmt := top 40
abbrev n_unfit_in : List Str := ["schema", "question", "kind", "name", "inner", "target", "place"]
abbrev p_unfit_in : List Str := ["schema", "question", "kind"]
theorem sc_unfit_in : FnScope n_unfit_in p_unfit_in (defScope s_unfit_in) := ⟨rfl, rfl, rfl, by decide +kernel, rfl, by decide +kernel, by decide +kernel⟩
abbrev s_is_data : Stmt := top 42
abbrev n_is_data : List Str := ["thing", "levels", "name", "value"]
abbrev p_is_data : List Str := ["thing", "levels"]
theorem sc_is_data : FnScope n_is_data p_is_data (defScope s_is_data) := ⟨rfl, rfl, rfl, by decide +kernel, rfl, by decide +kernel, by decide +kernel⟩
abbrev s_is_item : Stmt := top 43
abbrev n_is_item : List Str := ["thing", "levels"]
abbrev p_is_item : List Str := ["thing", "levels"]
theorem sc_is_item : FnScope n_is_item p_is_item (defScope s_is_item) := ⟨rfl, rfl, rfl, by decide +kernel, rfl, by decide +kernel, by decide +kernel⟩
abbrev s_is_left : Stmt := top 44
abbrev n_is_left : List Str := ["thing", "levels", "item"]
abbrev p_is_left : List Str := ["thing", "levels"]
theorem sc_is_left : FnScope n_is_left p_is_left (defScope s_is_left) := ⟨rfl, rfl, rfl, by decide +kernel, rfl, by decide +kernel, by decide +kernel⟩
abbrev s_copied : Stmt := top 45
abbrev n_copied : List Str := ["thing", "name", "value", "item"]
abbrev p_copied : List Str := ["thing"]
theorem sc_copied : FnScope n_copied p_copied (defScope s_copied) := ⟨rfl, rfl, rfl, by decide +kernel, rfl, by decide +kernel, by decide +kernel⟩
abbrev s_Answer_xinit : Stmt := inClass (top 49) 1
abbrev n_Answer_xinit : List Str := ["self", "data"]
abbrev p_Answer_xinit : List Str := ["self", "data"]
theorem sc_Answer_xinit : FnScope n_Answer_xinit p_Answer_xinit (defScope s_Answer_xinit) := ⟨rfl, rfl, rfl, by decide +kernel, rfl, by decide +kernel, by decide +kernel⟩
abbrev s_Answer_data : Stmt := inClass (top 49) 2
abbrev n_Answer_data : List Str := ["self"]
abbrev p_Answer_data : List Str := ["self"]
theorem sc_Answer_data : FnScope n_Answer_data p_Answer_data (defScope s_Answer_data) := ⟨rfl, rfl, rfl, by decide +kernel, rfl, by decide +kernel, by decide +kernel⟩
abbrev s_is_cell : Stmt := top 53
abbrev n_is_cell : List Str := ["thing"]
abbrev p_is_cell : List Str := ["thing"]
theorem sc_is_cell : FnScope n_is_cell p_is_cell (defScope s_is_cell) := ⟨rfl, rfl, rfl, by decide +kernel, rfl, by decide +kernel, by decide +kernel⟩
abbrev s_all_cells : Stmt := top 54
abbrev n_all_cells : List Str := ["number", "name"]
abbrev p_all_cells : List Str := []
theorem sc_all_cells : FnScope n_all_cells p_all_cells (defScope s_all_cells) := ⟨rfl, rfl, rfl, by decide +kernel, rfl, by decide +kernel, by decide +kernel⟩
abbrev s_Faults_xinit : Stmt := inClass (top 55) 1
abbrev n_Faults_xinit : List Str := ["self", "cells", "cell"]
abbrev p_Faults_xinit : List Str := ["self", "cells"]
theorem sc_Faults_xinit : FnScope n_Faults_xinit p_Faults_xinit (defScope s_Faults_xinit) := ⟨rfl, rfl, rfl, by decide +kernel, rfl, by decide +kernel, by decide +kernel⟩
abbrev s_Faults_cells : Stmt := inClass (top 55) 2
abbrev n_Faults_cells : List Str := ["self"]
abbrev p_Faults_cells : List Str := ["self"]
theorem sc_Faults_cells : FnScope n_Faults_cells p_Faults_cells (defScope s_Faults_cells) := ⟨rfl, rfl, rfl, by decide +kernel, rfl, by decide +kernel, by decide +kernel⟩
abbrev s_Faults_xlen : Stmt := inClass (top 55) 3
abbrev n_Faults_xlen : List Str := ["self"]
abbrev p_Faults_xlen : List Str := ["self"]
theorem sc_Faults_xlen : FnScope n_Faults_xlen p_Faults_xlen (defScope s_Faults_xlen) := ⟨rfl, rfl, rfl, by decide +kernel, rfl, by decide +kernel, by decide +kernel⟩
abbrev s_Faults_xcontains : Stmt := inClass (top 55) 4
abbrev n_Faults_xcontains : List Str := ["self", "cell"]
abbrev p_Faults_xcontains : List Str := ["self", "cell"]
theorem sc_Faults_xcontains : FnScope n_Faults_xcontains p_Faults_xcontains (defScope s_Faults_xcontains) := ⟨rfl, rfl, rfl, by decide +kernel, rfl, by decide +kernel, by decide +kernel⟩
abbrev s_Faults_xor : Stmt := inClass (top 55) 5
abbrev n_Faults_xor : List Str := ["self", "other"]
abbrev p_Faults_xor : List Str := ["self", "other"]
theorem sc_Faults_xor : FnScope n_Faults_xor p_Faults_xor (defScope s_Faults_xor) := ⟨rfl, rfl, rfl, by decide +kernel, rfl, by decide +kernel, by decide +kernel⟩
abbrev s_Faults_xsub : Stmt := inClass (top 55) 7
abbrev n_Faults_xsub : List Str := ["self", "other", "cell"]
abbrev p_Faults_xsub : List Str := ["self", "other"]
theorem sc_Faults_xsub : FnScope n_Faults_xsub p_Faults_xsub (defScope s_Faults_xsub) := ⟨rfl, rfl, rfl, by decide +kernel, rfl, by decide +kernel, by decide +kernel⟩
abbrev s_Faults_xlshift : Stmt := inClass (top 55) 11
abbrev n_Faults_xlshift : List Str := ["self", "cell"]
abbrev p_Faults_xlshift : List Str := ["self", "cell"]
theorem sc_Faults_xlshift : FnScope n_Faults_xlshift p_Faults_xlshift (defScope s_Faults_xlshift) := ⟨rfl, rfl, rfl, by decide +kernel, rfl, by decide +kernel, by decide +kernel⟩
abbrev s_Faults_xeq : Stmt := inClass (top 55) 14
abbrev n_Faults_xeq : List Str := ["self", "other"]
abbrev p_Faults_xeq : List Str := ["self", "other"]
theorem sc_Faults_xeq : FnScope n_Faults_xeq p_Faults_xeq (defScope s_Faults_xeq) := ⟨rfl, rfl, rfl, by decide +kernel, rfl, by decide +kernel, by decide +kernel⟩
abbrev s_Faults_none : Stmt := inClass (top 55) 17
abbrev n_Faults_none : List Str := []
abbrev p_Faults_none : List Str := []
theorem sc_Faults_none : FnScope n_Faults_none p_Faults_none (defScope s_Faults_none) := ⟨rfl, rfl, rfl, by decide +kernel, rfl, by decide +kernel, by decide +kernel⟩
abbrev s_check_faults : Stmt := top 57
abbrev n_check_faults : List Str := ["faults"]
abbrev p_check_faults : List Str := ["faults"]
theorem sc_check_faults : FnScope n_check_faults p_check_faults (defScope s_check_faults) := ⟨rfl, rfl, rfl, by decide +kernel, rfl, by decide +kernel, by decide +kernel⟩
abbrev s_kind_of : Stmt := top 59
abbrev n_kind_of : List Str := ["schema", "one"]
abbrev p_kind_of : List Str := ["schema", "one"]
theorem sc_kind_of : FnScope n_kind_of p_kind_of (defScope s_kind_of) := ⟨rfl, rfl, rfl, by decide +kernel, rfl, by decide +kernel, by decide +kernel⟩
abbrev s_is_single : Stmt := top 60
abbrev n_is_single : List Str := ["schema", "objects", "target", "value"]
abbrev p_is_single : List Str := ["schema", "objects", "target", "value"]
theorem sc_is_single : FnScope n_is_single p_is_single (defScope s_is_single) := ⟨rfl, rfl, rfl, by decide +kernel, rfl, by decide +kernel, by decide +kernel⟩
abbrev s_is_value : Stmt := top 61
abbrev n_is_value : List Str := ["schema", "objects", "field", "value", "item"]
abbrev p_is_value : List Str := ["schema", "objects", "field", "value"]
theorem sc_is_value : FnScope n_is_value p_is_value (defScope s_is_value) := ⟨rfl, rfl, rfl, by decide +kernel, rfl, by decide +kernel, by decide +kernel⟩
abbrev s_is_object : Stmt := top 62
abbrev n_is_object : List Str := ["schema", "objects", "one", "kind", "fields", "field", "value"]
abbrev p_is_object : List Str := ["schema", "objects", "one"]
theorem sc_is_object : FnScope n_is_object p_is_object (defScope s_is_object) := ⟨rfl, rfl, rfl, by decide +kernel, rfl, by decide +kernel, by decide +kernel⟩
abbrev s_Store_xinit : Stmt := inClass (top 63) 1
abbrev n_Store_xinit : List Str := ["self", "schema", "objects", "index", "one", "kind", "values", "field", "value"]
abbrev p_Store_xinit : List Str := ["self", "schema", "objects"]
theorem sc_Store_xinit : FnScope n_Store_xinit p_Store_xinit (defScope s_Store_xinit) := ⟨rfl, rfl, rfl, by decide +kernel, rfl, by decide +kernel, by decide +kernel⟩
abbrev s_Store_schema : Stmt := inClass (top 63) 2
abbrev n_Store_schema : List Str := ["self"]
abbrev p_Store_schema : List Str := ["self"]
theorem sc_Store_schema : FnScope n_Store_schema p_Store_schema (defScope s_Store_schema) := ⟨rfl, rfl, rfl, by decide +kernel, rfl, by decide +kernel, by decide +kernel⟩
abbrev s_Store_objects : Stmt := inClass (top 63) 3
abbrev n_Store_objects : List Str := ["self"]
abbrev p_Store_objects : List Str := ["self"]
theorem sc_Store_objects : FnScope n_Store_objects p_Store_objects (defScope s_Store_objects) := ⟨rfl, rfl, rfl, by decide +kernel, rfl, by decide +kernel, by decide +kernel⟩
abbrev s_Store_cells : Stmt := inClass (top 63) 4
abbrev n_Store_cells : List Str := ["self", "index", "name"]
abbrev p_Store_cells : List Str := ["self"]
theorem sc_Store_cells : FnScope n_Store_cells p_Store_cells (defScope s_Store_cells) := ⟨rfl, rfl, rfl, by decide +kernel, rfl, by decide +kernel, by decide +kernel⟩
abbrev s_Store_xcontains : Stmt := inClass (top 63) 6
abbrev n_Store_xcontains : List Str := ["self", "cell"]
abbrev p_Store_xcontains : List Str := ["self", "cell"]
theorem sc_Store_xcontains : FnScope n_Store_xcontains p_Store_xcontains (defScope s_Store_xcontains) := ⟨rfl, rfl, rfl, by decide +kernel, rfl, by decide +kernel, by decide +kernel⟩
abbrev s_Store_xgetitem : Stmt := inClass (top 63) 8
abbrev n_Store_xgetitem : List Str := ["self", "cell"]
abbrev p_Store_xgetitem : List Str := ["self", "cell"]
theorem sc_Store_xgetitem : FnScope n_Store_xgetitem p_Store_xgetitem (defScope s_Store_xgetitem) := ⟨rfl, rfl, rfl, by decide +kernel, rfl, by decide +kernel, by decide +kernel⟩
abbrev s_Store_xeq : Stmt := inClass (top 63) 9
abbrev n_Store_xeq : List Str := ["self", "other"]
abbrev p_Store_xeq : List Str := ["self", "other"]
theorem sc_Store_xeq : FnScope n_Store_xeq p_Store_xeq (defScope s_Store_xeq) := ⟨rfl, rfl, rfl, by decide +kernel, rfl, by decide +kernel, by decide +kernel⟩
abbrev s_check_store : Stmt := top 64
abbrev n_check_store : List Str := ["store"]
abbrev p_check_store : List Str := ["store"]
theorem sc_check_store : FnScope n_check_store p_check_store (defScope s_check_store) := ⟨rfl, rfl, rfl, by decide +kernel, rfl, by decide +kernel, by decide +kernel⟩
abbrev s_Walk_xinit : Stmt := inClass (top 66) 1
abbrev n_Walk_xinit : List Str := ["self", "source", "broken"]
abbrev p_Walk_xinit : List Str := ["self", "source", "broken"]
theorem sc_Walk_xinit : FnScope n_Walk_xinit p_Walk_xinit (defScope s_Walk_xinit) := ⟨rfl, rfl, rfl, by decide +kernel, rfl, by decide +kernel, by decide +kernel⟩
abbrev s_Walk_ask_object : Stmt := inClass (top 66) 2
abbrev n_Walk_ask_object : List Str := ["self", "number", "question", "kind", "data", "name", "inner", "field", "value"]
abbrev p_Walk_ask_object : List Str := ["self", "number", "question"]
theorem sc_Walk_ask_object : FnScope n_Walk_ask_object p_Walk_ask_object (defScope s_Walk_ask_object) := ⟨rfl, rfl, rfl, by decide +kernel, rfl, by decide +kernel, by decide +kernel⟩
abbrev s_Walk_ask_field : Stmt := inClass (top 66) 3
abbrev n_Walk_ask_field : List Str := ["self", "number", "field", "inner", "cell", "value"]
abbrev p_Walk_ask_field : List Str := ["self", "number", "field", "inner"]
theorem sc_Walk_ask_field : FnScope n_Walk_ask_field p_Walk_ask_field (defScope s_Walk_ask_field) := ⟨rfl, rfl, rfl, by decide +kernel, rfl, by decide +kernel, by decide +kernel⟩
abbrev s_Walk_ask_list : Stmt := inClass (top 66) 4
abbrev n_Walk_ask_list : List Str := ["self", "numbers", "form", "inner", "found", "number", "item"]
abbrev p_Walk_ask_list : List Str := ["self", "numbers", "form", "inner"]
theorem sc_Walk_ask_list : FnScope n_Walk_ask_list p_Walk_ask_list (defScope s_Walk_ask_list) := ⟨rfl, rfl, rfl, by decide +kernel, rfl, by decide +kernel, by decide +kernel⟩
abbrev s_Asker_xinit : Stmt := inClass (top 67) 1
abbrev n_Asker_xinit : List Str := ["self", "store", "question", "place"]
abbrev p_Asker_xinit : List Str := ["self", "store", "question"]
theorem sc_Asker_xinit : FnScope n_Asker_xinit p_Asker_xinit (defScope s_Asker_xinit) := ⟨rfl, rfl, rfl, by decide +kernel, rfl, by decide +kernel, by decide +kernel⟩
abbrev s_Asker_store : Stmt := inClass (top 67) 2
abbrev n_Asker_store : List Str := ["self"]
abbrev p_Asker_store : List Str := ["self"]
theorem sc_Asker_store : FnScope n_Asker_store p_Asker_store (defScope s_Asker_store) := ⟨rfl, rfl, rfl, by decide +kernel, rfl, by decide +kernel, by decide +kernel⟩
abbrev s_Asker_question : Stmt := inClass (top 67) 3
abbrev n_Asker_question : List Str := ["self"]
abbrev p_Asker_question : List Str := ["self"]
theorem sc_Asker_question : FnScope n_Asker_question p_Asker_question (defScope s_Asker_question) := ⟨rfl, rfl, rfl, by decide +kernel, rfl, by decide +kernel, by decide +kernel⟩
abbrev s_Asker_xcall : Stmt := inClass (top 67) 4
abbrev n_Asker_xcall : List Str := ["self", "faults"]
abbrev p_Asker_xcall : List Str := ["self", "faults"]
theorem sc_Asker_xcall : FnScope n_Asker_xcall p_Asker_xcall (defScope s_Asker_xcall) := ⟨rfl, rfl, rfl, by decide +kernel, rfl, by decide +kernel, by decide +kernel⟩
abbrev s_check_asker : Stmt := top 69
abbrev n_check_asker : List Str := ["asker"]
abbrev p_check_asker : List Str := ["asker"]
theorem sc_check_asker : FnScope n_check_asker p_check_asker (defScope s_check_asker) := ⟨rfl, rfl, rfl, by decide +kernel, rfl, by decide +kernel, by decide +kernel⟩
abbrev s_Session_xinit : Stmt := inClass (top 71) 1
abbrev n_Session_xinit : List Str := ["self", "asker"]
abbrev p_Session_xinit : List Str := ["self", "asker"]
theorem sc_Session_xinit : FnScope n_Session_xinit p_Session_xinit (defScope s_Session_xinit) := ⟨rfl, rfl, rfl, by decide +kernel, rfl, by decide +kernel, by decide +kernel⟩
abbrev s_Session_asker : Stmt := inClass (top 71) 2
abbrev n_Session_asker : List Str := ["self"]
abbrev p_Session_asker : List Str := ["self"]
theorem sc_Session_asker : FnScope n_Session_asker p_Session_asker (defScope s_Session_asker) := ⟨rfl, rfl, rfl, by decide +kernel, rfl, by decide +kernel, by decide +kernel⟩
abbrev s_Session_now : Stmt := inClass (top 71) 3
abbrev n_Session_now : List Str := ["self"]
abbrev p_Session_now : List Str := ["self"]
theorem sc_Session_now : FnScope n_Session_now p_Session_now (defScope s_Session_now) := ⟨rfl, rfl, rfl, by decide +kernel, rfl, by decide +kernel, by decide +kernel⟩
abbrev s_Session_answer : Stmt := inClass (top 71) 4
abbrev n_Session_answer : List Str := ["self"]
abbrev p_Session_answer : List Str := ["self"]
theorem sc_Session_answer : FnScope n_Session_answer p_Session_answer (defScope s_Session_answer) := ⟨rfl, rfl, rfl, by decide +kernel, rfl, by decide +kernel, by decide +kernel⟩
abbrev s_Session_journal : Stmt := inClass (top 71) 5
abbrev n_Session_journal : List Str := ["self"]
abbrev p_Session_journal : List Str := ["self"]
theorem sc_Session_journal : FnScope n_Session_journal p_Session_journal (defScope s_Session_journal) := ⟨rfl, rfl, rfl, by decide +kernel, rfl, by decide +kernel, by decide +kernel⟩
abbrev s_Session_xlen : Stmt := inClass (top 71) 6
abbrev n_Session_xlen : List Str := ["self"]
abbrev p_Session_xlen : List Str := ["self"]
theorem sc_Session_xlen : FnScope n_Session_xlen p_Session_xlen (defScope s_Session_xlen) := ⟨rfl, rfl, rfl, by decide +kernel, rfl, by decide +kernel, by decide +kernel⟩
abbrev s_Session_xcontains : Stmt := inClass (top 71) 8
abbrev n_Session_xcontains : List Str := ["self", "cell"]
abbrev p_Session_xcontains : List Str := ["self", "cell"]
theorem sc_Session_xcontains : FnScope n_Session_xcontains p_Session_xcontains (defScope s_Session_xcontains) := ⟨rfl, rfl, rfl, by decide +kernel, rfl, by decide +kernel, by decide +kernel⟩
abbrev s_Session_xgetitem : Stmt := inClass (top 71) 9
abbrev n_Session_xgetitem : List Str := ["self", "cell"]
abbrev p_Session_xgetitem : List Str := ["self", "cell"]
theorem sc_Session_xgetitem : FnScope n_Session_xgetitem p_Session_xgetitem (defScope s_Session_xgetitem) := ⟨rfl, rfl, rfl, by decide +kernel, rfl, by decide +kernel, by decide +kernel⟩
abbrev s_Session_xsetitem : Stmt := inClass (top 71) 10
abbrev n_Session_xsetitem : List Str := ["self", "cell", "is_fault"]
abbrev p_Session_xsetitem : List Str := ["self", "cell", "is_fault"]
theorem sc_Session_xsetitem : FnScope n_Session_xsetitem p_Session_xsetitem (defScope s_Session_xsetitem) := ⟨rfl, rfl, rfl, by decide +kernel, rfl, by decide +kernel, by decide +kernel⟩
abbrev s_Session_xiadd : Stmt := inClass (top 71) 11
abbrev n_Session_xiadd : List Str := ["self", "faults"]
abbrev p_Session_xiadd : List Str := ["self", "faults"]
theorem sc_Session_xiadd : FnScope n_Session_xiadd p_Session_xiadd (defScope s_Session_xiadd) := ⟨rfl, rfl, rfl, by decide +kernel, rfl, by decide +kernel, by decide +kernel⟩
abbrev s_Session_xisub : Stmt := inClass (top 71) 12
abbrev n_Session_xisub : List Str := ["self", "faults"]
abbrev p_Session_xisub : List Str := ["self", "faults"]
theorem sc_Session_xisub : FnScope n_Session_xisub p_Session_xisub (defScope s_Session_xisub) := ⟨rfl, rfl, rfl, by decide +kernel, rfl, by decide +kernel, by decide +kernel⟩
abbrev s_Session_go : Stmt := inClass (top 71) 13
abbrev n_Session_go : List Str := ["self", "faults"]
abbrev p_Session_go : List Str := ["self", "faults"]
theorem sc_Session_go : FnScope n_Session_go p_Session_go (defScope s_Session_go) := ⟨rfl, rfl, rfl, by decide +kernel, rfl, by decide +kernel, by decide +kernel⟩
abbrev s_Session_put : Stmt := inClass (top 71) 14
abbrev n_Session_put : List Str := ["self", "faults"]
abbrev p_Session_put : List Str := ["self", "faults"]
theorem sc_Session_put : FnScope n_Session_put p_Session_put (defScope s_Session_put) := ⟨rfl, rfl, rfl, by decide +kernel, rfl, by decide +kernel, by decide +kernel⟩
abbrev s_Session_undo : Stmt := inClass (top 71) 15
abbrev n_Session_undo : List Str := ["self"]
abbrev p_Session_undo : List Str := ["self"]
theorem sc_Session_undo : FnScope n_Session_undo p_Session_undo (defScope s_Session_undo) := ⟨rfl, rfl, rfl, by decide +kernel, rfl, by decide +kernel, by decide +kernel⟩
abbrev s_Session_branch : Stmt := inClass (top 71) 16
abbrev n_Session_branch : List Str := ["self", "found"]
abbrev p_Session_branch : List Str := ["self"]
theorem sc_Session_branch : FnScope n_Session_branch p_Session_branch (defScope s_Session_branch) := ⟨rfl, rfl, rfl, by decide +kernel, rfl, by decide +kernel, by decide +kernel⟩
abbrev s_Session_without : Stmt := inClass (top 71) 17
abbrev n_Session_without : List Str := ["self", "faults"]
abbrev p_Session_without : List Str := ["self", "faults"]
theorem sc_Session_without : FnScope n_Session_without p_Session_without (defScope s_Session_without) := ⟨rfl, rfl, rfl, by decide +kernel, rfl, by decide +kernel, by decide +kernel⟩
abbrev s_Session_attempt : Stmt := inClass (top 71) 18
abbrev n_Session_attempt : List Str := ["self", "faults", "deed", "inner", "found"]
abbrev p_Session_attempt : List Str := ["self", "faults", "deed"]
theorem sc_Session_attempt : FnScope n_Session_attempt p_Session_attempt (defScope s_Session_attempt) := ⟨rfl, rfl, rfl, by decide +kernel, rfl, by decide +kernel, by decide +kernel⟩
abbrev s_Session_tried : Stmt := inClass (top 71) 19
abbrev n_Session_tried : List Str := ["self", "some", "faults", "found", "more"]
abbrev p_Session_tried : List Str := ["self", "some"]
theorem sc_Session_tried : FnScope n_Session_tried p_Session_tried (defScope s_Session_tried) := ⟨rfl, rfl, rfl, by decide +kernel, rfl, by decide +kernel, by decide +kernel⟩
abbrev s_Block_xinit : Stmt := inClass (top 72) 1
abbrev n_Block_xinit : List Str := ["self", "held", "away"]
abbrev p_Block_xinit : List Str := ["self", "held", "away"]
theorem sc_Block_xinit : FnScope n_Block_xinit p_Block_xinit (defScope s_Block_xinit) := ⟨rfl, rfl, rfl, by decide +kernel, rfl, by decide +kernel, by decide +kernel⟩
abbrev s_Block_xenter : Stmt := inClass (top 72) 2
abbrev n_Block_xenter : List Str := ["self"]
abbrev p_Block_xenter : List Str := ["self"]
theorem sc_Block_xenter : FnScope n_Block_xenter p_Block_xenter (defScope s_Block_xenter) := ⟨rfl, rfl, rfl, by decide +kernel, rfl, by decide +kernel, by decide +kernel⟩
abbrev s_Block_xexit : Stmt := inClass (top 72) 3
abbrev n_Block_xexit : List Str := ["self", "kind", "value", "trace"]
abbrev p_Block_xexit : List Str := ["self", "kind", "value", "trace"]
theorem sc_Block_xexit : FnScope n_Block_xexit p_Block_xexit (defScope s_Block_xexit) := ⟨rfl, rfl, rfl, by decide +kernel, rfl, by decide +kernel, by decide +kernel⟩
abbrev s_law_cell_at : Stmt := top 74
abbrev n_law_cell_at : List Str := ["_law_script", "_law_k"]
abbrev p_law_cell_at : List Str := ["_law_script", "_law_k"]
theorem sc_law_cell_at : FnScope n_law_cell_at p_law_cell_at (defScope s_law_cell_at) := ⟨rfl, rfl, rfl, by decide +kernel, rfl, by decide +kernel, by decide +kernel⟩
abbrev s_law_draw : Stmt := top 75
abbrev n_law_draw : List Str := ["_law_cell", "_law_k", "_law_bound", "_law_primes"]
abbrev p_law_draw : List Str := ["_law_cell", "_law_k", "_law_bound"]
theorem sc_law_draw : FnScope n_law_draw p_law_draw (defScope s_law_draw) := ⟨rfl, rfl, rfl, by decide +kernel, rfl, by decide +kernel, by decide +kernel⟩
abbrev s_law_number : Stmt := top 76
abbrev n_law_number : List Str := ["_law_cell", "_law_k", "_law_bound", "_law_power", "_law_times", "_law_over", "_law_small"]
abbrev p_law_number : List Str := ["_law_cell", "_law_k", "_law_bound"]
theorem sc_law_number : FnScope n_law_number p_law_number (defScope s_law_number) := ⟨rfl, rfl, rfl, by decide +kernel, rfl, by decide +kernel, by decide +kernel⟩
abbrev s_law_next : Stmt := top 77
abbrev n_law_next : List Str := ["_law_draw_here", "_law_bound", "_law_at", "_law_cell"]
abbrev p_law_next : List Str := ["_law_draw_here", "_law_bound"]
theorem sc_law_next : FnScope n_law_next p_law_next (defScope s_law_next) := ⟨rfl, rfl, rfl, by decide +kernel, rfl, by decide +kernel, by decide +kernel⟩
abbrev s_law_pick : Stmt := top 78
abbrev n_law_pick : List Str := ["_law_draw_here", "_law_things"]
abbrev p_law_pick : List Str := ["_law_draw_here", "_law_things"]
theorem sc_law_pick : FnScope n_law_pick p_law_pick (defScope s_law_pick) := ⟨rfl, rfl, rfl, by decide +kernel, rfl, by decide +kernel, by decide +kernel⟩
abbrev s_law_field : Stmt := top 79
abbrev n_law_field : List Str := ["_law_draw_here", "_law_many", "_law_name", "_law_last", "_law_target", "_law_form"]
abbrev p_law_field : List Str := ["_law_draw_here", "_law_many", "_law_name", "_law_last"]
theorem sc_law_field : FnScope n_law_field p_law_field (defScope s_law_field) := ⟨rfl, rfl, rfl, by decide +kernel, rfl, by decide +kernel, by decide +kernel⟩
abbrev s_law_spared : Stmt := top 80
abbrev n_law_spared : List Str := ["_law_draw_here", "_law_fields", "_law_found", "_law_field_here", "_law_able", "_law_one", "_law_spare"]
abbrev p_law_spared : List Str := ["_law_draw_here", "_law_fields"]
theorem sc_law_spared : FnScope n_law_spared p_law_spared (defScope s_law_spared) := ⟨rfl, rfl, rfl, by decide +kernel, rfl, by decide +kernel, by decide +kernel⟩
abbrev s_law_kinds : Stmt := top 81
abbrev n_law_kinds : List Str := ["_law_draw_here", "_law_most", "_law_many", "_law_kinds_here", "_law_kind", "_law_start", "_law_fields", "_law_at", "_law_name", "_law_last"]
abbrev p_law_kinds : List Str := ["_law_draw_here", "_law_most"]
theorem sc_law_kinds : FnScope n_law_kinds p_law_kinds (defScope s_law_kinds) := ⟨rfl, rfl, rfl, by decide +kernel, rfl, by decide +kernel, by decide +kernel⟩
abbrev s_law_value : Stmt := top 82
abbrev n_law_value : List Str := ["_law_draw_here", "_law_sorts", "_law_field_here", "_law_able", "_law_at", "_law_turn_here"]
abbrev p_law_value : List Str := ["_law_draw_here", "_law_sorts", "_law_field_here"]
theorem sc_law_value : FnScope n_law_value p_law_value (defScope s_law_value) := ⟨rfl, rfl, rfl, by decide +kernel, rfl, by decide +kernel, by decide +kernel⟩
abbrev s_law_objects : Stmt := top 83
abbrev n_law_objects : List Str := ["_law_draw_here", "_law_kinds_here", "_law_sorts", "_law_turn_here", "_law_field_here", "_law_sort"]
abbrev p_law_objects : List Str := ["_law_draw_here", "_law_kinds_here"]
theorem sc_law_objects : FnScope n_law_objects p_law_objects (defScope s_law_objects) := ⟨rfl, rfl, rfl, by decide +kernel, rfl, by decide +kernel, by decide +kernel⟩
abbrev s_law_parts : Stmt := top 84
abbrev n_law_parts : List Str := ["_law_draw_here", "_law_kinds_here", "_law_kind", "_law_levels", "_law_room", "_law_fields", "_law_found", "_law_many", "_law_start", "_law_at", "_law_field_here"]
abbrev p_law_parts : List Str := ["_law_draw_here", "_law_kinds_here", "_law_kind", "_law_levels", "_law_room"]
theorem sc_law_parts : FnScope n_law_parts p_law_parts (defScope s_law_parts) := ⟨rfl, rfl, rfl, by decide +kernel, rfl, by decide +kernel, by decide +kernel⟩
abbrev s_law_question : Stmt := top 85
abbrev n_law_question : List Str := ["_law_parts_here", "_law_name", "_law_inner"]
abbrev p_law_question : List Str := ["_law_parts_here"]
theorem sc_law_question : FnScope n_law_question p_law_question (defScope s_law_question) := ⟨rfl, rfl, rfl, by decide +kernel, rfl, by decide +kernel, by decide +kernel⟩
abbrev s_law_field_at : Stmt := top 86
abbrev n_law_field_at : List Str := ["_law_kinds_here", "_law_kind", "_law_name", "_law_field_here"]
abbrev p_law_field_at : List Str := ["_law_kinds_here", "_law_kind", "_law_name"]
theorem sc_law_field_at : FnScope n_law_field_at p_law_field_at (defScope s_law_field_at) := ⟨rfl, rfl, rfl, by decide +kernel, rfl, by decide +kernel, by decide +kernel⟩
abbrev s_law_object : Stmt := top 87
abbrev n_law_object : List Str := ["_law_world", "_law_faults", "_law_trail", "_law_number_here", "_law_parts_here", "_law_kind", "_law_data", "_law_name", "_law_inner", "_law_field_here", "_law_value_here"]
abbrev p_law_object : List Str := ["_law_world", "_law_faults", "_law_trail", "_law_number_here", "_law_parts_here"]
theorem sc_law_object : FnScope n_law_object p_law_object (defScope s_law_object) := ⟨rfl, rfl, rfl, by decide +kernel, rfl, by decide +kernel, by decide +kernel⟩
abbrev s_law_given : Stmt := top 88
abbrev n_law_given : List Str := ["_law_world", "_law_faults", "_law_trail", "_law_number_here", "_law_field_here", "_law_inner", "_law_kind", "_law_values", "_law_value_here", "_law_one", "_law_other", "_law_found", "_law_item"]
abbrev p_law_given : List Str := ["_law_world", "_law_faults", "_law_trail", "_law_number_here", "_law_field_here", "_law_inner"]
theorem sc_law_given : FnScope n_law_given p_law_given (defScope s_law_given) := ⟨rfl, rfl, rfl, by decide +kernel, rfl, by decide +kernel, by decide +kernel⟩
abbrev s_law_run : Stmt := top 89
abbrev n_law_run : List Str := ["_law_world", "_law_parts_here", "_law_faults", "_law_trail", "_law_data"]
abbrev p_law_run : List Str := ["_law_world", "_law_parts_here", "_law_faults"]
theorem sc_law_run : FnScope n_law_run p_law_run (defScope s_law_run) := ⟨rfl, rfl, rfl, by decide +kernel, rfl, by decide +kernel, by decide +kernel⟩
abbrev s_law_cells : Stmt := top 90
abbrev n_law_cells : List Str := ["_law_cells_here", "_law_found", "_law_number_here", "_law_name"]
abbrev p_law_cells : List Str := ["_law_cells_here"]
theorem sc_law_cells : FnScope n_law_cells p_law_cells (defScope s_law_cells) := ⟨rfl, rfl, rfl, by decide +kernel, rfl, by decide +kernel, by decide +kernel⟩
abbrev s_law_less : Stmt := top 91
abbrev n_law_less : List Str := ["_law_cells_here", "_law_some_here", "_law_cell"]
abbrev p_law_less : List Str := ["_law_cells_here", "_law_some_here"]
theorem sc_law_less : FnScope n_law_less p_law_less (defScope s_law_less) := ⟨rfl, rfl, rfl, by decide +kernel, rfl, by decide +kernel, by decide +kernel⟩
abbrev s_law_is : Stmt := top 92
abbrev n_law_is : List Str := ["_law_session", "_law_work", "_law_model", "_law_world", "_law_parts_here", "_law_cells_here", "_law_faults", "_law_cell"]
abbrev p_law_is : List Str := ["_law_session", "_law_work", "_law_model"]
theorem sc_law_is : FnScope n_law_is p_law_is (defScope s_law_is) := ⟨rfl, rfl, rfl, by decide +kernel, rfl, by decide +kernel, by decide +kernel⟩
abbrev s_law_some : Stmt := top 93
abbrev n_law_some : List Str := ["_law_draw_here", "_law_cells_here", "_law_cell"]
abbrev p_law_some : List Str := ["_law_draw_here", "_law_cells_here"]
theorem sc_law_some : FnScope n_law_some p_law_some (defScope s_law_some) := ⟨rfl, rfl, rfl, by decide +kernel, rfl, by decide +kernel, by decide +kernel⟩
abbrev s_law_put : Stmt := top 94
abbrev n_law_put : List Str := ["_law_draw_here", "_law_session", "_law_work", "_law_model", "_law_kind", "_law_cell", "_law_some_here", "_law_kept"]
abbrev p_law_put : List Str := ["_law_draw_here", "_law_session", "_law_work", "_law_model"]
theorem sc_law_put : FnScope n_law_put p_law_put (defScope s_law_put) := ⟨rfl, rfl, rfl, by decide +kernel, rfl, by decide +kernel, by decide +kernel⟩
abbrev s_law_undo : Stmt := top 95
abbrev n_law_undo : List Str := ["_law_session", "_law_model", "_law_base", "_law_found"]
abbrev p_law_undo : List Str := ["_law_session", "_law_model", "_law_base"]
theorem sc_law_undo : FnScope n_law_undo p_law_undo (defScope s_law_undo) := ⟨rfl, rfl, rfl, by decide +kernel, rfl, by decide +kernel, by decide +kernel⟩
abbrev s_law_tried : Stmt := top 96
abbrev n_law_tried : List Str := ["_law_draw_here", "_law_session", "_law_work", "_law_model", "_law_rows", "_law_turn_here", "_law_due", "_law_cells_here", "_law_row", "_law_answer"]
abbrev p_law_tried : List Str := ["_law_draw_here", "_law_session", "_law_work", "_law_model"]
theorem sc_law_tried : FnScope n_law_tried p_law_tried (defScope s_law_tried) := ⟨rfl, rfl, rfl, by decide +kernel, rfl, by decide +kernel, by decide +kernel⟩
abbrev s_law_deed : Stmt := top 97
abbrev n_law_deed : List Str := ["_law_draw_here", "_law_held", "_law_work", "_law_inner", "_law_depth", "_law_good", "_law_base", "_law_turn_here"]
abbrev p_law_deed : List Str := ["_law_draw_here", "_law_held", "_law_work", "_law_inner", "_law_depth"]
theorem sc_law_deed : FnScope n_law_deed p_law_deed (defScope s_law_deed) := ⟨rfl, rfl, rfl, by decide +kernel, rfl, by decide +kernel, by decide +kernel⟩
abbrev s_law_block : Stmt := top 98
abbrev n_law_block : List Str := ["_law_draw_here", "_law_session", "_law_work", "_law_model", "_law_depth", "_law_some_here", "_law_inner", "_law_found"]
abbrev p_law_block : List Str := ["_law_draw_here", "_law_session", "_law_work", "_law_model", "_law_depth"]
theorem sc_law_block : FnScope n_law_block p_law_block (defScope s_law_block) := ⟨rfl, rfl, rfl, by decide +kernel, rfl, by decide +kernel, by decide +kernel⟩
abbrev s_law_turn : Stmt := top 99
abbrev n_law_turn : List Str := ["_law_draw_here", "_law_session", "_law_work", "_law_model", "_law_base", "_law_depth", "_law_kind", "_law_good", "_law_late", "_law_copy"]
abbrev p_law_turn : List Str := ["_law_draw_here", "_law_session", "_law_work", "_law_model", "_law_base", "_law_depth"]
theorem sc_law_turn : FnScope n_law_turn p_law_turn (defScope s_law_turn) := ⟨rfl, rfl, rfl, by decide +kernel, rfl, by decide +kernel, by decide +kernel⟩
abbrev s_law : Stmt := top 100
abbrev n_law : List Str := ["_law_script", "_law_draw_here", "_law_turn_here", "_law_kinds_here", "_law_world", "_law_parts_here", "_law_store", "_law_asker", "_law_session", "_law_model", "_law_work", "_law_times"]
abbrev p_law : List Str := ["_law_script"]
theorem sc_law : FnScope n_law p_law (defScope s_law) := ⟨rfl, rfl, rfl, by decide +kernel, rfl, by decide +kernel, by decide +kernel⟩
end DL
namespace DL
open PySem PySem.Spec PyProof.Rows L2
/-! ### facts of the module, by names -/
inductive Fc where
  | glo (x : Str) (a : Addr)
  | free (x : Str)
  | int (x : Str) (i : Int)
  | str (x z : Str)
  | kl (C : Addr)
  | sl (C : Addr) (f : Str) (i : Nat) (p : Addr)
  | meth (C : Addr) (m : Str) (g : Addr)
  | mk (C g : Addr)
  | prop (C : Addr) (f : Str) (p g : Addr)
  | stat (C : Addr) (m : Str) (p g : Addr)
  | ne (C : Addr)
  | sf (C : Addr)
  | ns (C : Addr)
  | bt (C : Addr)
  | exn (C : Addr)
  | tup (x : Str) (a : Addr) (xs : List Str)
def Fc.ok (K : PySem.W.Frag) : Fc → Bool
  | .glo x a => He.eqO (PySem.W.nsIn K mainGlobals x) (some (some (.ref a))) && PySem.W.keepIn K (.ref a)
  | .free x => (He.Fa.free x).ok K
  | .int x i => (He.Fa.int x i).ok K
  | .str x z => (He.Fa.str x z).ok K
  | .kl C => (PySem.W.plainGet K C Str.empty && (PySem.W.isClsIn K C && (PySem.W.plainOver K C && He.eqO (PySem.W.findIn K (.ref C) "__setattr__") (some (some (.builtin "object.__setattr__")))))) &&
      ((He.eqO (PySem.W.findIn K (.ref C) "__class__") (some (some (.builtin "object.__class__"))) && (He.eqO (PySem.W.specialIn K (.builtin "object.__class__") "__get__") (some (some (.builtin "getset_descriptor.__get__"))) &&
        (decide (PySem.W.takesIn K (.builtin "object.__class__") = some true) && decide (PySem.W.mroIn K C (.type "object") = some true)))) && decide (PySem.W.kitOne K (.ref C) (.ref C) = some true))
  | .sl C f i p => He.eqO (PySem.W.findIn K (.ref C) f) (some (some (.ref p))) && (He.eqO (PySem.W.specialIn K (.ref p) "__get__") (some (some (.builtin "member_descriptor.__get__"))) && (decide (PySem.W.takesIn K (.ref p) = some true) &&
      (decide (PySem.W.typeIn K (.ref p) = some (.type "member_descriptor")) && (decide (PySem.W.slotIn K p C = some i) && decide (i < 1000)))))
  | .meth C m g => He.eqO (PySem.W.findIn K (.ref C) m) (some (some (.ref g))) && (PySem.W.isFn K (.ref g) && (PySem.W.fnIn K g && PySem.W.keepIn K (.ref g)))
  | .mk C g => PySem.W.makesIn K C && (He.eqO (PySem.W.findIn K (.ref C) "__init__") (some (some (.ref g))) && (PySem.W.isFn K (.ref g) && PySem.W.keepIn K (.ref C)))
  | .prop C f p g => He.eqO (PySem.W.findIn K (.ref C) f) (some (some (.ref p))) && (He.eqO (PySem.W.specialIn K (.ref p) "__get__") (some (some (.builtin "property.__get__"))) && (decide (PySem.W.takesIn K (.ref p) = some true) &&
      (match PySem.W.recIn K p "property" with
        | some (.ref g' :: _) => decide (g' = g)
        | _ => false)))
  | .stat C m p g => (match PySem.W.typeIn K (.ref C) with
      | some mc => PySem.W.readsIn K C mc && ((match PySem.W.findCls K (.ref C) mc m with
        | some (.get (.builtin i) (.ref p') .none (.ref C')) => decide (i = "staticmethod.__get__") && (decide (C' = C) && decide (p' = p))
        | _ => false))
      | none => false) && (He.eqO (PySem.W.specialIn K (.ref C) "__getattribute__") (some (some (.builtin "type.__getattribute__"))) && ((match PySem.W.recIn K p "staticmethod" with
        | some (.ref g' :: _) => decide (g' = g)
        | _ => false) && PySem.W.keepIn K (.ref g)))
  | .ne C => He.eqO (PySem.W.findIn K (.ref C) "__ne__") (some (some (.builtin "object.__ne__"))) && decide (PySem.W.subIn K (.ref C) (.type "object") = some true)
  | .sf C => PySem.W.selfFirst K C
  | .ns C => PySem.W.noSeq K C
  | .bt C => (match PySem.W.findIn K (.ref C) (PySem.dunderR Operator.LShift.info.2) with
      | some none => true
      | some (some (.ref _)) => true
      | _ => false) && ((PySem.W.findIn K (.type "tuple") (PySem.dunder Operator.LShift.info.2)).isSome && ((PySem.W.findIn K (.type "tuple") (PySem.dunderR Operator.LShift.info.2)).isSome && decide (PySem.W.subIn K (.type "tuple") (.ref C) = some false)))
  | .exn C => PySem.W.excIn K C He.veBase "ValueError.__new__" && (decide (PySem.W.subIn K (.ref C) (.type "BaseException") = some true) && (decide (PySem.W.typeIn K (.ref C) = some (.type "type")) && decide (PySem.W.exmOne K (.ref C) (.ref C) = some true)))
  | .tup x a xs => He.eqO (PySem.W.nsIn K mainGlobals x) (some (some (.ref a))) && (match K.lookup a with
      | some ⟨.type c, _, .seq its _, _⟩ => decide (c = "tuple") && (decide (its.size ≤ sizeLine) && He.relAll (xs.map V.str) its.toList)
      | _ => false)
end DL
namespace DL
open PySem PySem.Spec PyProof.Rows L2
/-! ### the functions of the module -/
structure Df where
  pos : Addr
  code : Addr
  name : Str
  qual : Str
  st : Stmt
  dfl : List V := []
  kwd : List (Str × V) := []
  ads : List Addr := []
abbrev FnO : Type := Option (Str × Str × Arguments × FuncBody × Scope × Addr × List (Str × Addr) × Addr × Value)
def Df.val (d : Df) : FnO := some (d.name, d.qual, defArgs d.st, .stmts (defBody d.st), defScope d.st, mainGlobals, [], builtinsNs, .ref d.code)
def fnG (g : Addr → Option Obj) (a : Addr) : FnO := match g a with
  | some ⟨_, _, .func fd, _⟩ => some (fd.name, fd.qualname, fd.params, fd.body, fd.scope, fd.globals, fd.closure, fd.builtins, fd.code)
  | _ => none
def Df.ok (g : Addr → Option Obj) (d : Df) : Bool := PySem.W.codeIn (He.frT g [d.code]) (.ref d.code) d.qual && (match g d.pos with
  | some ⟨_, _, .func fd, _⟩ => He.dflB (He.frT g d.ads) fd.defaults d.dfl && He.kwdB (He.frT g d.ads) fd.kwdefaults d.kwd
  | _ => false)
def Df.all (d : Df) : List Addr := d.pos :: d.code :: d.ads
/-! ### a part of a part -/
def Kle (K L : PySem.W.Frag) : Prop := ∀ a o, K.lookup a = some o → L.lookup a = some o
theorem frT_look {g : Addr → Option Obj} {a : Addr} {o : Obj} (h2 : g a = some o) (h3 : He.emptyTab o = false) : ∀ {as : List Addr}, a ∈ as → (He.frT g as).lookup a = some o
  | [], h => (List.not_mem_nil h).elim
  | b :: r, h => by
    unfold He.frT He.frG
    rw [List.filterMap_cons]
    have ih : a ∈ r → List.lookup a ((r.filterMap fun a => (g a).map fun o => (a, o)).filter fun q => !He.emptyTab q.2) = some o := fun z => frT_look h2 h3 z
    by_cases e : a = b
    · subst e
      rw [h2]
      show List.lookup a (List.filter _ ((a, o) :: _)) = some o
      rw [List.filter_cons_of_pos (by show (!He.emptyTab o) = true; rw [h3]; rfl)]
      show (match a == a with | true => some o | false => _) = some o
      rw [beq_self_eq_true]
    · have z := ih ((List.mem_cons.mp h).resolve_left e)
      cases q : g b with
      | none => exact z
      | some u =>
        show List.lookup a (List.filter _ ((b, u) :: _)) = some o
        rw [List.filter_cons]
        split
        · show (match a == b with | true => some u | false => _) = some o
          rw [beq_false_of_ne e]
          exact z
        · exact z
theorem frT_mem2 {g : Addr → Option Obj} {as : List Addr} {a : Addr} {o : Obj} (h : (He.frT g as).lookup a = some o) : a ∈ as := by
  obtain ⟨h1, _⟩ := List.mem_filter.mp (He.lookup_mem h)
  obtain ⟨b, hb, e⟩ := List.mem_filterMap.mp h1
  cases q : g b with
  | none => rw [q] at e; cases e
  | some u => rw [q] at e; cases e; exact hb
theorem kle_of {g : Addr → Option Obj} {as bs : List Addr} (h : ∀ a ∈ as, a ∈ bs) : Kle (He.frT g as) (He.frT g bs) := fun a o e => frT_look (He.frT_mem e).1 (He.frT_mem e).2 (h a (frT_mem2 e))
theorem codeIn_le {K L : PySem.W.Frag} (l : Kle K L) {v : Value} {q : Str} (h : PySem.W.codeIn K v q = true) : PySem.W.codeIn L v q = true := by
  cases v with
  | ref c =>
    unfold PySem.W.codeIn at h ⊢
    cases e : K.lookup c with
    | none => simp only [e] at h; cases h
    | some o => simp only [e] at h; simp only [l c o e]; exact h
  | _ => cases h
theorem codeHdIn_le {K L : PySem.W.Frag} (l : Kle K L) {c p : Addr} (h : PySem.W.codeHdIn K c p = true) : PySem.W.codeHdIn L c p = true := by
  unfold PySem.W.codeHdIn at h ⊢
  cases e : K.lookup c with
  | none => simp only [e] at h; cases h
  | some o => simp only [e] at h; simp only [l c o e]; exact h
theorem nsIn_le {K L : PySem.W.Frag} (l : Kle K L) {c : Addr} {x : Str} {r : Option Value} (h : PySem.W.nsIn K c x = some r) : PySem.W.nsIn L c x = some r := by
  unfold PySem.W.nsIn at h ⊢
  cases e : K.lookup c with
  | none => simp only [e] at h; cases h
  | some o => simp only [e] at h; simp only [l c o e]; exact h
theorem dflV_le {K L : PySem.W.Frag} (l : Kle K L) {v : Value} {ds : List V} (h : DflV K v ds) : DflV L v ds := by
  rcases h with h | ⟨h, T, o, its, n, h1, h2, h3, h4⟩
  · exact .inl h
  · exact .inr ⟨h, T, o, its, n, h1, l _ _ h2, h3, h4⟩
theorem kwdV_le {K L : PySem.W.Frag} (l : Kle K L) {v : Value} {ds : List (Str × V)} (h : KwdV K v ds) : KwdV L v ds := by
  rcases h with h | ⟨D, h1, h2⟩
  · exact .inl h
  · exact .inr ⟨D, h1, fun q hq => let ⟨u, h3, h4⟩ := h2 q hq; ⟨u, nsIn_le l h3, h4⟩⟩
theorem emptyTab_fn {oc : Value} {od : Option Addr} {fd : FuncData} {osl : Array (Option Value)} : He.emptyTab ⟨oc, od, .func fd, osl⟩ = false := by
  cases oc <;> cases od <;> rfl
theorem Df.funD {g : Addr → Option Obj} {as : List Addr} {d : Df} (e : fnG g d.pos = d.val) (c : d.ok g = true) (hm : ∀ a ∈ d.all, a ∈ as) : ∃ fd, FunD (He.frT g as) d.name d.qual (defArgs d.st) (defBody d.st) (defScope d.st) d.dfl d.kwd d.pos fd ∧ fd.code = .ref d.code := by
  obtain ⟨k1, c2⟩ := He.ba c
  unfold fnG at e
  cases q : g d.pos with
  | none => rw [q] at c2; cases c2
  | some o =>
    obtain ⟨oc, od, dt, osl⟩ := o
    rw [q] at c2 e
    cases dt with
    | func fd =>
      obtain ⟨n1, n2, n3, n4, n5, n6, n7, n8, n9, n10, n11, n12, n13, n14, n15⟩ := fd
      have e2 : (some (n1, n2, n3, n4, n5, n6, n7, n15, n13) : FnO) = some (d.name, d.qual, defArgs d.st, .stmts (defBody d.st), defScope d.st, mainGlobals, [], builtinsNs, .ref d.code) := e
      simp only [Option.some.injEq, Prod.mk.injEq] at e2
      obtain ⟨h1, h2, h3, h4, h5, h6, h7, h8, h9⟩ := e2
      subst h1 h2 h3 h4 h5 h6 h7 h8 h9
      obtain ⟨k2, k3⟩ := He.ba (show (He.dflB (He.frT g d.ads) n8 d.dfl && He.kwdB (He.frT g d.ads) n9 d.kwd) = true from c2)
      have lk := frT_look q emptyTab_fn (hm d.pos List.mem_cons_self)
      have l1 : Kle (He.frT g [d.code]) (He.frT g as) := kle_of fun a ha => by
        rw [List.mem_singleton.mp ha]
        exact hm _ (List.mem_cons_of_mem _ List.mem_cons_self)
      have l2 : Kle (He.frT g d.ads) (He.frT g as) := kle_of fun a ha => hm _ (List.mem_cons_of_mem _ (List.mem_cons_of_mem _ ha))
      refine ⟨_, ⟨⟨oc, od, n8, n9, n10, n11, n12, .ref d.code, n14, osl, rfl, lk, codeIn_le l1 k1, dflV_le l2 (He.dflB_ok k2), kwdV_le l2 (He.kwdB_ok k3)⟩, ?_⟩, rfl⟩
      unfold PySem.W.keepIn
      simp only [lk]
    | _ => cases c2
/-! ### the Hook -/
abbrev AlM : Type := Bool × (Bool × (Bool × List FnO))
/-- the code object of _law_block and its table -/
def cB : Addr × Addr := (1334, 1330)
/-! the addresses that are looked at -/
def adF : List Addr := [3, 2, 321, 320, 434, 433, 595, 594, 743, 742, 856, 855, 908, 907, 969, 968, 1134, 1133, 1174, 1173, 322, 273, 281, 280, 288, 293, 305, 317, 435, 372, 380, 379, 387, 430, 596, 527, 535, 534, 744, 630, 638, 637, 645, 652, 659, 669, 695, 712, 738, 736, 857, 858, 859, 795, 803, 802, 811, 810, 817, 816, 831, 845, 852, 909, 910, 911, 883, 890, 897, 904, 970, 971, 928, 936, 935, 944, 943, 951, 1135, 1136, 1137, 1138, 1139, 1002, 1010, 1009, 1018, 1017, 1026, 1025, 1034, 1033, 1041, 1055, 1062, 1069, 1076, 1083, 1090, 1097, 1104, 1111, 1118, 1125, 1130, 1175, 1176, 1177, 1178, 1179, 1180, 1156, 1163, 1170, 227, 234, 241, 248, 255, 260, 338, 345, 352, 359, 458, 466, 473, 478, 485, 490, 495, 612, 617, 758, 765, 772, 777, 782, 868, 987, 1189, 1196, 1203, 1210, 1217, 1224, 1229, 1236, 1241, 1246, 1253, 1258, 1263, 1270, 1275, 1282, 1287, 1292, 1297, 1302, 1309, 1316, 1321, 1328, 1335, 1342, 1349, 218, 219, 98, 215, 97, 214, 31, 53, 65, 86, 110, 122, 143, 155, 167, 179, 191, 203, 6, 30, 52, 64, 85, 109, 121, 142, 154, 166, 178, 190, 202]
def adM (fn : List Df) : List Addr := adF ++ fn.flatMap Df.all
def tabB (g : Addr → Option Obj) : Bool := PySem.W.codeHdIn (He.frT g [cB.1]) cB.1 cB.2 && (match g cB.2 with
  | some o => He.emptyTab o
  | none => false)
def obsF (fcs : List Fc) (fn : List Df) (g : Addr → Option Obj) : Bool := fcs.all fun f => f.ok (He.frT g (adM fn))
def obsD (fn : List Df) (g : Addr → Option Obj) : Bool × (Bool × List FnO) := (fn.all fun d => d.ok g, tabB g, fn.map fun d => fnG g d.pos)
def obsM (fcs : List Fc) (fn : List Df) (g : Addr → Option Obj) : AlM := (obsF fcs fn g, obsD fn g)
def valM (fn : List Df) : AlM := (true, true, true, fn.map Df.val)
/-- what is told -/
structure SaysM (fcs : List Fc) (fl : List Df) (h : Heap) (K : PySem.W.Frag) : Prop where
  fc : ∀ f ∈ fcs, f.ok K = true
  fn : ∀ d ∈ fl, ∃ fd, FunD K d.name d.qual (defArgs d.st) (defBody d.st) (defScope d.st) d.dfl d.kwd d.pos fd ∧ fd.code = .ref d.code
  hd : (∃ d ∈ fl, d.code = cB.1) → PySem.W.codeHdIn K cB.1 cB.2 = true
  out : K.lookup cB.2 = none
  empty : h.get? cB.2 = some { cls := .none, data := .fields #[] }
theorem saysM_of {fcs : List Fc} {fn : List Df} {h : Heap} (e : obsM fcs fn h.get? = valM fn) : SaysM fcs fn h (He.frT h.get? (adM fn)) := by
  have e1 : (fcs.all fun f => f.ok (He.frT h.get? (adM fn))) = true := congrArg (fun z : AlM => z.1) e
  have e2 : (fn.all fun d => d.ok h.get?) = true := congrArg (fun z : AlM => z.2.1) e
  have e3 : (PySem.W.codeHdIn (He.frT h.get? [cB.1]) cB.1 cB.2 && (match h.get? cB.2 with
    | some o => He.emptyTab o
    | none => false)) = true := congrArg (fun z : AlM => z.2.2.1) e
  have e4 : (fn.map fun d => fnG h.get? d.pos) = fn.map Df.val := congrArg (fun z : AlM => z.2.2.2) e
  have hm : ∀ d ∈ fn, ∀ a ∈ d.all, a ∈ adM fn := fun d hd a ha => List.mem_append_right _ (List.mem_flatMap.mpr ⟨d, hd, ha⟩)
  obtain ⟨h4, h5⟩ := He.ba e3
  have key : ∃ o, h.get? cB.2 = some o ∧ He.emptyTab o = true := by
    cases q : h.get? cB.2 with
    | none => rw [q] at h5; cases h5
    | some o => rw [q] at h5; exact ⟨o, rfl, h5⟩
  obtain ⟨o, q, z⟩ := key
  refine ⟨fun f hf => List.all_eq_true.mp e1 f hf, fun d hd => ?_, fun ⟨d, hd, ed⟩ => ?_, He.frT_none q z, by rw [q, He.emptyTab_eq z]⟩
  · obtain ⟨i, hi, ei⟩ := List.mem_iff_getElem.mp hd
    have e5 : (fn.map fun d => fnG h.get? d.pos)[i]? = (fn.map Df.val)[i]? := by rw [e4]
    rw [List.getElem?_map, List.getElem?_map, List.getElem?_eq_getElem hi, ei] at e5
    exact Df.funD (Option.some.inj e5) (List.all_eq_true.mp e2 d hd) (hm d hd)
  · exact codeHdIn_le (kle_of fun a ha => by
      rw [List.mem_singleton.mp ha, ← ed]
      exact hm d hd _ (List.mem_cons_of_mem _ List.mem_cons_self)) h4
def hookM (fcs : List Fc) (fn : List Df) : PySem.W.Hook where
  α := AlM
  obs := fun s => obsM fcs fn s.heap.get?
  val := fun _ => valM fn
  says := fun _ h => ∃ K : PySem.W.Frag, K.In h ∧ SaysM fcs fn h K
  of := fun _ _ e => ⟨_, He.frT_in, saysM_of e⟩
  keeps := fun _ _ _ ⟨K, hK, c⟩ k => ⟨K, PySem.W.Frag.In.keeps hK k, ⟨c.fc, c.fn, c.hd, c.out, k _ _ c.empty⟩⟩
theorem obsM_eq {fcs : List Fc} {fn : List Df} {g : Addr → Option Obj} {s : Shared} (h : ∀ a, g a = s.heap.get? a) : obsM fcs fn g = (hookM fcs fn).obs s := by
  have e : g = s.heap.get? := funext h
  rw [e] <;> rfl
def f_is_number : Df := ⟨227, 226, "is_number", "is_number", s_is_number, [V.non], [], [220]⟩
def f_is_name : Df := ⟨234, 233, "is_name", "is_name", s_is_name, [], [], []⟩
def f_is_word : Df := ⟨241, 240, "is_word", "is_word", s_is_word, [], [], []⟩
def f_is_field : Df := ⟨248, 247, "is_field", "is_field", s_is_field, [], [], []⟩
def f_is_spare : Df := ⟨255, 254, "is_spare", "is_spare", s_is_spare, [], [], []⟩
def f_is_kind : Df := ⟨260, 259, "is_kind", "is_kind", s_is_kind, [], [], []⟩
def f_Schema_xinit : Df := ⟨273, 272, "__init__", "Schema.__init__", s_Schema_xinit, [], [], []⟩
def f_Schema_kinds : Df := ⟨280, 279, "kinds", "Schema.kinds", s_Schema_kinds, [], [], []⟩
def f_Schema_xlen : Df := ⟨288, 287, "__len__", "Schema.__len__", s_Schema_xlen, [], [], []⟩
def f_Schema_xcontains : Df := ⟨293, 292, "__contains__", "Schema.__contains__", s_Schema_xcontains, [], [], []⟩
def f_Schema_xgetitem : Df := ⟨305, 304, "__getitem__", "Schema.__getitem__", s_Schema_xgetitem, [], [], []⟩
def f_Schema_xeq : Df := ⟨317, 316, "__eq__", "Schema.__eq__", s_Schema_xeq, [], [], []⟩
def f_check_schema : Df := ⟨338, 337, "check_schema", "check_schema", s_check_schema, [], [], []⟩
def f_is_part : Df := ⟨345, 344, "is_part", "is_part", s_is_part, [], [], []⟩
def f_levels_of : Df := ⟨352, 351, "levels_of", "levels_of", s_levels_of, [], [], []⟩
def f_names_in : Df := ⟨359, 358, "names_in", "names_in", s_names_in, [], [], []⟩
def f_Question_xinit : Df := ⟨372, 371, "__init__", "Question.__init__", s_Question_xinit, [], [], []⟩
def f_Question_parts : Df := ⟨379, 378, "parts", "Question.parts", s_Question_parts, [], [], []⟩
def f_Question_xlen : Df := ⟨387, 386, "__len__", "Question.__len__", s_Question_xlen, [], [], []⟩
def f_Question_xeq : Df := ⟨430, 429, "__eq__", "Question.__eq__", s_Question_xeq, [], [], []⟩
def f_check_question : Df := ⟨458, 457, "check_question", "check_question", s_check_question, [], [], []⟩
def f_unfit : Df := ⟨466, 465, "unfit", "unfit", s_unfit, [], [("kind", V.int 0)], [459]⟩
def f_unfit_in : Df := ⟨473, 472, "unfit_in", "unfit_in", s_unfit_in, [], [], []⟩
def f_is_data : Df := ⟨478, 477, "is_data", "is_data", s_is_data, [], [], []⟩
def f_is_item : Df := ⟨485, 484, "is_item", "is_item", s_is_item, [], [], []⟩
def f_is_left : Df := ⟨490, 489, "is_left", "is_left", s_is_left, [], [], []⟩
def f_copied : Df := ⟨495, 494, "copied", "copied", s_copied, [], [], []⟩
def f_Answer_xinit : Df := ⟨527, 526, "__init__", "Answer.__init__", s_Answer_xinit, [], [], []⟩
def f_Answer_data : Df := ⟨534, 533, "data", "Answer.data", s_Answer_data, [], [], []⟩
def f_is_cell : Df := ⟨612, 611, "is_cell", "is_cell", s_is_cell, [], [], []⟩
def f_all_cells : Df := ⟨617, 616, "all_cells", "all_cells", s_all_cells, [], [], []⟩
def f_Faults_xinit : Df := ⟨630, 629, "__init__", "Faults.__init__", s_Faults_xinit, [], [], []⟩
def f_Faults_cells : Df := ⟨637, 636, "cells", "Faults.cells", s_Faults_cells, [], [], []⟩
def f_Faults_xlen : Df := ⟨645, 644, "__len__", "Faults.__len__", s_Faults_xlen, [], [], []⟩
def f_Faults_xcontains : Df := ⟨652, 651, "__contains__", "Faults.__contains__", s_Faults_xcontains, [], [], []⟩
def f_Faults_xor : Df := ⟨659, 658, "__or__", "Faults.__or__", s_Faults_xor, [], [], []⟩
def f_Faults_xsub : Df := ⟨669, 668, "__sub__", "Faults.__sub__", s_Faults_xsub, [], [], []⟩
def f_Faults_xlshift : Df := ⟨695, 694, "__lshift__", "Faults.__lshift__", s_Faults_xlshift, [], [], []⟩
def f_Faults_xeq : Df := ⟨712, 711, "__eq__", "Faults.__eq__", s_Faults_xeq, [], [], []⟩
def f_Faults_none : Df := ⟨736, 735, "none", "Faults.none", s_Faults_none, [], [], []⟩
def f_check_faults : Df := ⟨758, 757, "check_faults", "check_faults", s_check_faults, [], [], []⟩
def f_kind_of : Df := ⟨765, 764, "kind_of", "kind_of", s_kind_of, [], [], []⟩
def f_is_single : Df := ⟨772, 771, "is_single", "is_single", s_is_single, [], [], []⟩
def f_is_value : Df := ⟨777, 776, "is_value", "is_value", s_is_value, [], [], []⟩
def f_is_object : Df := ⟨782, 781, "is_object", "is_object", s_is_object, [], [], []⟩
def f_Store_xinit : Df := ⟨795, 794, "__init__", "Store.__init__", s_Store_xinit, [], [], []⟩
def f_Store_schema : Df := ⟨802, 801, "schema", "Store.schema", s_Store_schema, [], [], []⟩
def f_Store_objects : Df := ⟨810, 809, "objects", "Store.objects", s_Store_objects, [], [], []⟩
def f_Store_cells : Df := ⟨816, 815, "cells", "Store.cells", s_Store_cells, [], [], []⟩
def f_Store_xcontains : Df := ⟨831, 830, "__contains__", "Store.__contains__", s_Store_xcontains, [], [], []⟩
def f_Store_xgetitem : Df := ⟨845, 844, "__getitem__", "Store.__getitem__", s_Store_xgetitem, [], [], []⟩
def f_Store_xeq : Df := ⟨852, 851, "__eq__", "Store.__eq__", s_Store_xeq, [], [], []⟩
def f_check_store : Df := ⟨868, 867, "check_store", "check_store", s_check_store, [], [], []⟩
def f_Walk_xinit : Df := ⟨883, 882, "__init__", "Walk.__init__", s_Walk_xinit, [], [], []⟩
def f_Walk_ask_object : Df := ⟨890, 889, "ask_object", "Walk.ask_object", s_Walk_ask_object, [], [], []⟩
def f_Walk_ask_field : Df := ⟨897, 896, "ask_field", "Walk.ask_field", s_Walk_ask_field, [], [], []⟩
def f_Walk_ask_list : Df := ⟨904, 903, "ask_list", "Walk.ask_list", s_Walk_ask_list, [], [], []⟩
def f_Asker_xinit : Df := ⟨928, 927, "__init__", "Asker.__init__", s_Asker_xinit, [], [], []⟩
def f_Asker_store : Df := ⟨935, 934, "store", "Asker.store", s_Asker_store, [], [], []⟩
def f_Asker_question : Df := ⟨943, 942, "question", "Asker.question", s_Asker_question, [], [], []⟩
def f_Asker_xcall : Df := ⟨951, 950, "__call__", "Asker.__call__", s_Asker_xcall, [], [], []⟩
def f_check_asker : Df := ⟨987, 986, "check_asker", "check_asker", s_check_asker, [], [], []⟩
def f_Session_xinit : Df := ⟨1002, 1001, "__init__", "Session.__init__", s_Session_xinit, [], [], []⟩
def f_Session_asker : Df := ⟨1009, 1008, "asker", "Session.asker", s_Session_asker, [], [], []⟩
def f_Session_now : Df := ⟨1017, 1016, "now", "Session.now", s_Session_now, [], [], []⟩
def f_Session_answer : Df := ⟨1025, 1024, "answer", "Session.answer", s_Session_answer, [], [], []⟩
def f_Session_journal : Df := ⟨1033, 1032, "journal", "Session.journal", s_Session_journal, [], [], []⟩
def f_Session_xlen : Df := ⟨1041, 1040, "__len__", "Session.__len__", s_Session_xlen, [], [], []⟩
def f_Session_xcontains : Df := ⟨1055, 1054, "__contains__", "Session.__contains__", s_Session_xcontains, [], [], []⟩
def f_Session_xgetitem : Df := ⟨1062, 1061, "__getitem__", "Session.__getitem__", s_Session_xgetitem, [], [], []⟩
def f_Session_xsetitem : Df := ⟨1069, 1068, "__setitem__", "Session.__setitem__", s_Session_xsetitem, [], [], []⟩
def f_Session_xiadd : Df := ⟨1076, 1075, "__iadd__", "Session.__iadd__", s_Session_xiadd, [], [], []⟩
def f_Session_xisub : Df := ⟨1083, 1082, "__isub__", "Session.__isub__", s_Session_xisub, [], [], []⟩
def f_Session_go : Df := ⟨1090, 1089, "go", "Session.go", s_Session_go, [], [], []⟩
def f_Session_put : Df := ⟨1097, 1096, "put", "Session.put", s_Session_put, [], [], []⟩
def f_Session_undo : Df := ⟨1104, 1103, "undo", "Session.undo", s_Session_undo, [], [], []⟩
def f_Session_branch : Df := ⟨1111, 1110, "branch", "Session.branch", s_Session_branch, [], [], []⟩
def f_Session_without : Df := ⟨1118, 1117, "without", "Session.without", s_Session_without, [], [], []⟩
def f_Session_attempt : Df := ⟨1125, 1124, "attempt", "Session.attempt", s_Session_attempt, [], [], []⟩
def f_Session_tried : Df := ⟨1130, 1129, "tried", "Session.tried", s_Session_tried, [], [], []⟩
def f_Block_xinit : Df := ⟨1156, 1155, "__init__", "Block.__init__", s_Block_xinit, [], [], []⟩
def f_Block_xenter : Df := ⟨1163, 1162, "__enter__", "Block.__enter__", s_Block_xenter, [], [], []⟩
def f_Block_xexit : Df := ⟨1170, 1169, "__exit__", "Block.__exit__", s_Block_xexit, [], [], []⟩
def f_law_cell_at : Df := ⟨1189, 1188, "_law_cell_at", "_law_cell_at", s_law_cell_at, [], [], []⟩
def f_law_draw : Df := ⟨1196, 1195, "_law_draw", "_law_draw", s_law_draw, [], [], []⟩
def f_law_number : Df := ⟨1203, 1202, "_law_number", "_law_number", s_law_number, [], [], []⟩
def f_law_next : Df := ⟨1210, 1209, "_law_next", "_law_next", s_law_next, [], [], []⟩
def f_law_pick : Df := ⟨1217, 1216, "_law_pick", "_law_pick", s_law_pick, [], [], []⟩
def f_law_field : Df := ⟨1224, 1223, "_law_field", "_law_field", s_law_field, [], [], []⟩
def f_law_spared : Df := ⟨1229, 1228, "_law_spared", "_law_spared", s_law_spared, [], [], []⟩
def f_law_kinds : Df := ⟨1236, 1235, "_law_kinds", "_law_kinds", s_law_kinds, [], [], []⟩
def f_law_value : Df := ⟨1241, 1240, "_law_value", "_law_value", s_law_value, [], [], []⟩
def f_law_objects : Df := ⟨1246, 1245, "_law_objects", "_law_objects", s_law_objects, [], [], []⟩
def f_law_parts : Df := ⟨1253, 1252, "_law_parts", "_law_parts", s_law_parts, [], [], []⟩
def f_law_question : Df := ⟨1258, 1257, "_law_question", "_law_question", s_law_question, [], [], []⟩
def f_law_field_at : Df := ⟨1263, 1262, "_law_field_at", "_law_field_at", s_law_field_at, [], [], []⟩
def f_law_object : Df := ⟨1270, 1269, "_law_object", "_law_object", s_law_object, [], [], []⟩
def f_law_given : Df := ⟨1275, 1274, "_law_given", "_law_given", s_law_given, [], [], []⟩
def f_law_run : Df := ⟨1282, 1281, "_law_run", "_law_run", s_law_run, [], [], []⟩
def f_law_cells : Df := ⟨1287, 1286, "_law_cells", "_law_cells", s_law_cells, [], [], []⟩
def f_law_less : Df := ⟨1292, 1291, "_law_less", "_law_less", s_law_less, [], [], []⟩
def f_law_is : Df := ⟨1297, 1296, "_law_is", "_law_is", s_law_is, [], [], []⟩
def f_law_some : Df := ⟨1302, 1301, "_law_some", "_law_some", s_law_some, [], [], []⟩
def f_law_put : Df := ⟨1309, 1308, "_law_put", "_law_put", s_law_put, [], [], []⟩
def f_law_undo : Df := ⟨1316, 1315, "_law_undo", "_law_undo", s_law_undo, [], [], []⟩
def f_law_tried : Df := ⟨1321, 1320, "_law_tried", "_law_tried", s_law_tried, [], [], []⟩
def f_law_deed : Df := ⟨1328, 1327, "_law_deed", "_law_deed", s_law_deed, [], [], []⟩
def f_law_block : Df := ⟨1335, 1334, "_law_block", "_law_block", s_law_block, [], [], []⟩
def f_law_turn : Df := ⟨1342, 1341, "_law_turn", "_law_turn", s_law_turn, [], [], []⟩
def f_law : Df := ⟨1349, 1348, "law", "law", s_law, [], [], []⟩
def fns : List Df := [f_is_number, f_is_name, f_is_word, f_is_field, f_is_spare, f_is_kind, f_Schema_xinit, f_Schema_kinds, f_Schema_xlen, f_Schema_xcontains, f_Schema_xgetitem, f_Schema_xeq, f_check_schema, f_is_part, f_levels_of, f_names_in, f_Question_xinit, f_Question_parts, f_Question_xlen, f_Question_xeq, f_check_question, f_unfit, f_unfit_in, f_is_data, f_is_item, f_is_left, f_copied, f_Answer_xinit, f_Answer_data, f_is_cell, f_all_cells, f_Faults_xinit, f_Faults_cells, f_Faults_xlen, f_Faults_xcontains, f_Faults_xor, f_Faults_xsub, f_Faults_xlshift, f_Faults_xeq, f_Faults_none, f_check_faults, f_kind_of, f_is_single, f_is_value, f_is_object, f_Store_xinit, f_Store_schema, f_Store_objects, f_Store_cells, f_Store_xcontains, f_Store_xgetitem, f_Store_xeq, f_check_store, f_Walk_xinit, f_Walk_ask_object, f_Walk_ask_field, f_Walk_ask_list, f_Asker_xinit, f_Asker_store, f_Asker_question, f_Asker_xcall, f_check_asker, f_Session_xinit, f_Session_asker, f_Session_now, f_Session_answer, f_Session_journal, f_Session_xlen, f_Session_xcontains, f_Session_xgetitem, f_Session_xsetitem, f_Session_xiadd, f_Session_xisub, f_Session_go, f_Session_put, f_Session_undo, f_Session_branch, f_Session_without, f_Session_attempt, f_Session_tried, f_Block_xinit, f_Block_xenter, f_Block_xexit, f_law_cell_at, f_law_draw, f_law_number, f_law_next, f_law_pick, f_law_field, f_law_spared, f_law_kinds, f_law_value, f_law_objects, f_law_parts, f_law_question, f_law_field_at, f_law_object, f_law_given, f_law_run, f_law_cells, f_law_less, f_law_is, f_law_some, f_law_put, f_law_undo, f_law_tried, f_law_deed, f_law_block, f_law_turn, f_law]
def fcs : List Fc := [.glo "is_number" 227, .glo "is_name" 234, .glo "is_word" 241, .glo "is_field" 248, .glo "is_spare" 255, .glo "is_kind" 260, .glo "Schema" 321, .kl 321, .mk 321 273, .sl 321 "rows" 0 322, .meth 321 "__init__" 273, .prop 321 "kinds" 281 280, .meth 321 "__len__" 288, .meth 321 "__contains__" 293, .meth 321 "__getitem__" 305, .meth 321 "__eq__" 317, .glo "check_schema" 338, .glo "is_part" 345, .glo "levels_of" 352, .glo "names_in" 359, .glo "Question" 434, .kl 434, .mk 434 372, .sl 434 "rows" 0 435, .meth 434 "__init__" 372, .prop 434 "parts" 380 379, .meth 434 "__len__" 387, .meth 434 "__eq__" 430, .glo "check_question" 458, .glo "unfit" 466, .glo "unfit_in" 473, .glo "is_data" 478, .glo "is_item" 485, .glo "is_left" 490, .glo "copied" 495, .glo "Answer" 595, .kl 595, .mk 595 527, .sl 595 "kept" 0 596, .meth 595 "__init__" 527, .prop 595 "data" 535 534, .glo "is_cell" 612, .glo "all_cells" 617, .glo "Faults" 743, .kl 743, .mk 743 630, .sl 743 "kept" 0 744, .meth 743 "__init__" 630, .prop 743 "cells" 638 637, .meth 743 "__len__" 645, .meth 743 "__contains__" 652, .meth 743 "__or__" 659, .meth 743 "__sub__" 669, .meth 743 "__lshift__" 695, .meth 743 "__eq__" 712, .stat 743 "none" 738 736, .glo "check_faults" 758, .glo "kind_of" 765, .glo "is_single" 772, .glo "is_value" 777, .glo "is_object" 782, .glo "Store" 856, .kl 856, .mk 856 795, .sl 856 "plan" 0 857, .sl 856 "rows" 1 858, .sl 856 "table" 2 859, .meth 856 "__init__" 795, .prop 856 "schema" 803 802, .prop 856 "objects" 811 810, .prop 856 "cells" 817 816, .meth 856 "__contains__" 831, .meth 856 "__getitem__" 845, .meth 856 "__eq__" 852, .glo "check_store" 868, .glo "Walk" 908, .kl 908, .mk 908 883, .sl 908 "broken" 0 909, .sl 908 "source" 1 910, .sl 908 "trail" 2 911, .meth 908 "__init__" 883, .meth 908 "ask_object" 890, .meth 908 "ask_field" 897, .meth 908 "ask_list" 904, .glo "Asker" 969, .kl 969, .mk 969 928, .sl 969 "source" 0 970, .sl 969 "wanted" 1 971, .meth 969 "__init__" 928, .prop 969 "store" 936 935, .prop 969 "question" 944 943, .meth 969 "__call__" 951, .glo "check_asker" 987, .glo "Session" 1134, .kl 1134, .mk 1134 1002, .sl 1134 "current" 0 1135, .sl 1134 "floor" 1 1136, .sl 1134 "given" 2 1137, .sl 1134 "notes" 3 1138, .sl 1134 "source_asker" 4 1139, .meth 1134 "__init__" 1002, .prop 1134 "asker" 1010 1009, .prop 1134 "now" 1018 1017, .prop 1134 "answer" 1026 1025, .prop 1134 "journal" 1034 1033, .meth 1134 "__len__" 1041, .meth 1134 "__contains__" 1055, .meth 1134 "__getitem__" 1062, .meth 1134 "__setitem__" 1069, .meth 1134 "__iadd__" 1076, .meth 1134 "__isub__" 1083, .meth 1134 "go" 1090, .meth 1134 "put" 1097, .meth 1134 "undo" 1104, .meth 1134 "branch" 1111, .meth 1134 "without" 1118, .meth 1134 "attempt" 1125, .meth 1134 "tried" 1130, .glo "Block" 1174, .kl 1174, .mk 1174 1156, .sl 1174 "away" 0 1175, .sl 1174 "before" 1 1176, .sl 1174 "below" 2 1177, .sl 1174 "held" 3 1178, .sl 1174 "kept_given" 4 1179, .sl 1174 "kept_notes" 5 1180, .meth 1174 "__init__" 1156, .meth 1174 "__enter__" 1163, .meth 1174 "__exit__" 1170, .glo "_law_cell_at" 1189, .glo "_law_draw" 1196, .glo "_law_number" 1203, .glo "_law_next" 1210, .glo "_law_pick" 1217, .glo "_law_field" 1224, .glo "_law_spared" 1229, .glo "_law_kinds" 1236, .glo "_law_value" 1241, .glo "_law_objects" 1246, .glo "_law_parts" 1253, .glo "_law_question" 1258, .glo "_law_field_at" 1263, .glo "_law_object" 1270, .glo "_law_given" 1275, .glo "_law_run" 1282, .glo "_law_cells" 1287, .glo "_law_less" 1292, .glo "_law_is" 1297, .glo "_law_some" 1302, .glo "_law_put" 1309, .glo "_law_undo" 1316, .glo "_law_tried" 1321, .glo "_law_deed" 1328, .glo "_law_block" 1335, .glo "_law_turn" 1342, .glo "law" 1349, .free "isinstance", .free "len", .free "all", .free "tuple", .free "list", .free "int", .free "str", .free "bool", .free "dict", .free "range", .free "enumerate", .free "zip", .int "MOST_LEVELS" 3, .int "MOST_PARTS" 8, .int "MOST_OBJECT" 5, .str "NAMES" "abcdef", .tup "FORMS" 218 ["one", "all", "gaps", "rest"], .tup "MARKS" 219 ["must", "may"], .ne 434, .ne 856, .sf 743, .sf 1134, .ns 1134, .bt 743, .glo "BadCell" 98, .exn 98, .glo "NothingDone" 215, .exn 215]
end DL
set_option maxHeartbeats 0
namespace DL
open PySem PySem.Spec PyProof.Rows L2 PySem.W PySem.Calls
/-! ### the facts, the run of the top -/
abbrev Rw : PySem.W.OpenRow := PySem.W.OpenLaw.row PySem.Challenge.rw_emptyup_k39_whole_sessions
abbrev qv : Program := PySem.W.view Rw.prog [100]
def names0 : List Str := ["_wall", "__name__", "HoleError", "BadSchema", "BadField", "BadStore", "BadCell", "BadQuestion", "BadPart", "NoFit"]
def names1 : List Str := ["BadFaults", "BadNumber", "BadAnswer", "BadPlace", "BadAsker", "NothingDone", "NAMES", "FORMS", "MARKS", "is_number"]
def names2 : List Str := ["is_name", "is_word", "is_field", "is_spare", "is_kind", "Schema", "field_at", "check_schema", "MOST_LEVELS", "MOST_PARTS"]
def names3 : List Str := ["is_part", "levels_of", "names_in", "Question", "both", "upper", "check_question", "unfit", "unfit_in", "is_data"]
def names4 : List Str := ["is_item", "is_left", "copied", "numbers_in", "is_less", "is_within", "Answer", "leads", "MOST_OBJECT", "is_cell"]
def names5 : List Str := ["all_cells", "Faults", "chosen", "check_faults", "kind_of", "is_single", "is_value", "is_object", "Store", "check_store"]
def names6 : List Str := ["Walk", "Asker", "trail_of", "check_asker", "Session", "Block", "_law_cell_at", "_law_draw", "_law_number", "_law_next"]
def names7 : List Str := ["_law_pick", "_law_field", "_law_spared", "_law_kinds", "_law_value", "_law_objects", "_law_parts", "_law_question", "_law_field_at", "_law_object"]
def names8 : List Str := ["_law_given", "_law_run", "_law_cells", "_law_less", "_law_is", "_law_some", "_law_put", "_law_undo", "_law_tried", "_law_deed"]
def names9 : List Str := ["_law_block", "_law_turn"]
def names : List Str := names0 ++ names1 ++ names2 ++ names3 ++ names4 ++ names5 ++ names6 ++ names7 ++ names8 ++ names9

abbrev hk : PySem.W.Hook := hookM fcs fns
def ob (s : PySem.W.SharedT) : AlM := obsM fcs fns (HandSHeadRun.getT s)
theorem ob_eq (s : PySem.W.SharedT) : ob s = hk.obs s.abs := obsM_eq (HandSHeadRun.getT_eq s)
noncomputable abbrev endR (w : World) (os : OsState) : Option SharedT := HandSHeadRun.endF (HandSHeadRun.stepQ (HandSHeadRun.denQ HandSHeadRun.tabQ) Rw.prog w) 20000 Rw.prog w os
theorem run1 (w : World) (os : OsState) : (endR w os).map (fun s => (HandSHeadRun.looksF Rw.prog (boot_heap w.params) s.abs, HandSHeadRun.seenQ qv names (importedModules Rw.prog.main.body) (fun s => xlAt qv [] s && recOk Rw.toRowW.records s) s.abs)) = some (true, openGood qv names) := by
  kernel_rfl
theorem run2 (w : World) (os : OsState) : (endR w os).map ob = some (hk.val w) := by
  kernel_rfl
theorem run (w : World) : HandSHeadRun.RunEq Rw qv hk ob 20000 names w := by
  intro os
  obtain ⟨s, h1, h2⟩ := Option.map_eq_some_iff.mp (run1 w os)
  obtain ⟨s', h3, h4⟩ := Option.map_eq_some_iff.mp (run2 w os)
  obtain rfl : s = s' := Option.some.inj (h1.symm.trans h3)
  show (endR w os).map _ = _
  rw [h1]
  have e1 := congrArg Prod.fst h2
  have e2 := congrArg Prod.snd h2
  exact congrArg some (Prod.ext e1 (Prod.ext e2 h4))
end DL
namespace DL
open PySem PySem.W PySem.Calls PyProof.Rows
/-! ### the statement, by the law's promise at the head's heap -/
theorem fin (hc : ∀ (w : World) (mg : PySem.Str → Option Value) (fa : Addr) (h : Heap), (∃ K : PySem.W.Frag, K.In h ∧ SaysM fcs fns h K) → h.Ns mainGlobals mg → mg ("law" : PySem.Str) = some (.ref fa) → ∃ K : PySem.W.Frag, K.In h ∧ LamX.LawAtS PySem.Challenge.rw_emptyup_k39_whole_sessions w K L2.CX0 32 63 "_law_script" mg fa h) : PySem.Challenge.rw_emptyup_k39_whole_sessions.Holds := by
  w_on; o_law
  refine HandSHeadRun.head_any (r := Rw) (q := qv) (H := hk) (ob := ob) (M := 20000) (loose := names) (d := HandSHeadRun.topDef Rw.prog 100) (kwd := []) ob_eq
    (by kernel_rfl) (fun s => by kernel_rfl) run (by kernel_rfl) (by kernel_rfl) (by kernel_rfl) (by rfl) (by first | assumption | decide +kernel) (by decide +kernel) ⟨rfl, rfl, rfl, rfl, rfl, by decide +kernel⟩ ?hw ?hc
  case hw => w_witness2
  case hc =>
    refine LamX.walk_ofTsE (l := PySem.Challenge.rw_emptyup_k39_whole_sessions) (n := 63) (k := 32) (x := "_law_script") (CX := fun _ => L2.CX0) rfl (by decide) (by kernel_rfl) ⟨rfl, by decide, by decide⟩ ?F (fun _ _ _ _ _ z => z)
    intro w mg fa h Y G hmg0
    have hmg : mg ("law" : PySem.Str) = some (.ref fa) := by
      have e : (HandSHeadRun.topDef Rw.prog 100).name = ("law" : PySem.Str) := by kernel_rfl
      rw [← e]
      exact hmg0
    exact hc w mg fa h Y G hmg
end DL
set_option maxHeartbeats 4000000
namespace DL
open PySem PySem.Spec PyProof.Rows L2

/-- a built-in type -/
inductive Bt where
  | non | bool | int | str | tuple | list | dict
  deriving DecidableEq
def Bt.name : Bt → String
  | .non => "NoneType" | .bool => "bool" | .int => "int" | .str => "str" | .tuple => "tuple" | .list => "list" | .dict => "dict"
/-- what a value stands for -/
inductive D where
  | non | bl (b : Bool) | int (i : Int) | str (x : Str) | ty (n : Bt)
  | ref (a : Addr)
  | tup (ds : List D) | lst (ds : List D)
  | dct (ks : List Key) (ds : List D)
  | dcT (ks : List (List Key)) (ds : List D)
  | ins (C : Addr) (ds : List D)
/-- what stands in a place that may be written -/
inductive M where
  | lst (ds : List D)
  | dct (ks : List Key) (ds : List D)
  | ins (C : Addr) (fs : List (Option D))
  | opq (o : HO)
  | tab (q : Str)
abbrev Mu := List (Addr × M)
abbrev Rho := List (Option D)

mutual
/-- v stands for d, by what is frozen -/
inductive Rep (K : PySem.W.Frag) (G : Hp) : V → D → Prop where
  | non : Rep K G .non .non
  | bl (b : Bool) : Rep K G (.bl b) (.bl b)
  | int (i : Int) : Rep K G (.int i) (.int i)
  | str (x : Str) : Rep K G (.str x) (.str x)
  | ty (n : Bt) : Rep K G (.ty n.name) (.ty n)
  | ref (a : Addr) : Rep K G (.ref a) (.ref a)
  | tup {a : Addr} {xs : List V} {ds : List D} : SqT K G a xs → Reps K G xs ds → Rep K G (.ref a) (.tup ds)
  | lst {a : Addr} {xs : List V} {ds : List D} : G a = some (.lst xs) → Reps K G xs ds → Rep K G (.ref a) (.lst ds)
  | dct {a : Addr} {o : Obj} {kvs : List (Key × V)} {ks : List Key} {xs : List V} {ds : List D} : G a = some (.frz o (.dK kvs)) → kvs.map (·.1) = ks → kvs.map (·.2) = xs → Reps K G xs ds → Rep K G (.ref a) (.dct ks ds)
  | dcT {a : Addr} {kvs : List (List Key × V)} {ks : List (List Key)} {xs : List V} {ds : List D} : G a = some (.dT kvs) → kvs.map (·.1) = ks → kvs.map (·.2) = xs → Reps K G xs ds → Rep K G (.ref a) (.dcT ks ds)
  | ins {a C dx : Addr} {vs : List (Option V)} {xs : List V} {ds : List D} : SlX.Slt G a C dx vs → vs = xs.map some → Reps K G xs ds → Rep K G (.ref a) (.ins C ds)
inductive Reps (K : PySem.W.Frag) (G : Hp) : List V → List D → Prop where
  | nil : Reps K G [] []
  | cons {v : V} {d : D} {vs : List V} {ds : List D} : Rep K G v d → Reps K G vs ds → Reps K G (v :: vs) (d :: ds)
end

theorem slt_same {G H : Hp} {a C dx : Addr} {vs : List (Option V)} (s : Same G H) (h : SlX.Slt G a C dx vs) : SlX.Slt H a C dx vs := by
  rcases h with ⟨h1, h2⟩ | ⟨h1, h2⟩
  · exact .inl ⟨s _ _ h1, h2⟩
  · exact .inr ⟨s _ _ h1, s _ _ h2⟩
theorem sqt_same {K : PySem.W.Frag} {G H : Hp} {a : Addr} {xs : List V} (s : Same G H) (h : SqT K G a xs) : SqT K H a xs := by
  rcases h with (h | ⟨o, h⟩) | h
  · exact .inl (.inl (s _ _ h))
  · exact .inl (.inr ⟨o, s _ _ h⟩)
  · exact .inr h

mutual
theorem Rep.same {K : PySem.W.Frag} {G H : Hp} (s : Same G H) : ∀ {v : V} {d : D}, Rep K G v d → Rep K H v d
  | _, _, .non => .non
  | _, _, .bl b => .bl b
  | _, _, .int i => .int i
  | _, _, .str x => .str x
  | _, _, .ty n => .ty n
  | _, _, .ref a => .ref a
  | _, _, .tup h r => .tup (sqt_same s h) (Reps.same s r)
  | _, _, .lst h r => .lst (s _ _ h) (Reps.same s r)
  | _, _, .dct h e f r => .dct (s _ _ h) e f (Reps.same s r)
  | _, _, .dcT h e f r => .dcT (s _ _ h) e f (Reps.same s r)
  | _, _, .ins h e r => .ins (slt_same s h) e (Reps.same s r)
theorem Reps.same {K : PySem.W.Frag} {G H : Hp} (s : Same G H) : ∀ {vs : List V} {ds : List D}, Reps K G vs ds → Reps K H vs ds
  | _, _, .nil => .nil
  | _, _, .cons h r => .cons (Rep.same s h) (Reps.same s r)
end

section
variable {K : PySem.W.Frag} {G : Hp}
theorem Reps.length : ∀ {vs : List V} {ds : List D}, Reps K G vs ds → vs.length = ds.length
  | _, _, .nil => rfl
  | _, _, .cons _ r => congrArg Nat.succ r.length
theorem Reps.get : ∀ {vs : List V} {ds : List D} {i : Nat} {d : D}, Reps K G vs ds → ds[i]? = some d → ∃ v, vs[i]? = some v ∧ Rep K G v d
  | _, _, _, _, .nil, e => by simp at e
  | _, _, 0, _, .cons r _, e => by simp at e; subst e; exact ⟨_, rfl, r⟩
  | _, _, i + 1, d, .cons _ t, e => by
    obtain ⟨v, h1, h2⟩ := Reps.get (i := i) (d := d) t (by simpa using e)
    exact ⟨v, by simpa using h1, h2⟩
theorem Reps.getV : ∀ {vs : List V} {ds : List D} {i : Nat} {v : V}, Reps K G vs ds → vs[i]? = some v → ∃ d, ds[i]? = some d ∧ Rep K G v d
  | _, _, _, _, .nil, e => by simp at e
  | _, _, 0, _, .cons r _, e => by simp at e; subst e; exact ⟨_, rfl, r⟩
  | _, _, i + 1, v, .cons _ t, e => by
    obtain ⟨d, h1, h2⟩ := Reps.getV (i := i) (v := v) t (by simpa using e)
    exact ⟨d, by simpa using h1, h2⟩
theorem Reps.app : ∀ {vs ws : List V} {ds es : List D}, Reps K G vs ds → Reps K G ws es → Reps K G (vs ++ ws) (ds ++ es)
  | _, _, _, _, .nil, s => s
  | _, _, _, _, .cons r t, s => .cons r (t.app s)
theorem Reps.set {v : V} {d : D} (r : Rep K G v d) : ∀ {vs : List V} {ds : List D} (i : Nat), Reps K G vs ds → Reps K G (vs.set i v) (ds.set i d)
  | _, _, _, .nil => .nil
  | _, _, 0, .cons _ t => .cons r t
  | _, _, i + 1, .cons q t => .cons q (Reps.set r i t)
theorem Reps.take : ∀ {vs : List V} {ds : List D} (n : Nat), Reps K G vs ds → Reps K G (vs.take n) (ds.take n)
  | _, _, 0, _ => .nil
  | _, _, _ + 1, .nil => .nil
  | _, _, n + 1, .cons r t => .cons r (t.take n)
theorem Reps.drop : ∀ {vs : List V} {ds : List D} (n : Nat), Reps K G vs ds → Reps K G (vs.drop n) (ds.drop n)
  | _, _, 0, r => r
  | _, _, _ + 1, .nil => .nil
  | _, _, n + 1, .cons _ t => t.drop n
theorem Reps.dropLast : ∀ {vs : List V} {ds : List D}, Reps K G vs ds → Reps K G vs.dropLast ds.dropLast
  | _, _, .nil => .nil
  | _, _, .cons _ .nil => .nil
  | _, _, .cons r (.cons r2 t) => .cons r (Reps.dropLast (.cons r2 t))
theorem Reps.one {v : V} {ds : List D} (h : Reps K G [v] ds) : ∃ d, ds = [d] ∧ Rep K G v d := by
  cases h with
  | cons r t => cases t; exact ⟨_, rfl, r⟩
theorem Reps.oneV {vs : List V} {d : D} (h : Reps K G vs [d]) : ∃ v, vs = [v] ∧ Rep K G v d := by
  cases h with
  | cons r t => cases t; exact ⟨_, rfl, r⟩
end

/-- a place that may be written -/
def Cell (K : PySem.W.Frag) (G H : Hp) (a : Addr) : M → Prop
  | .lst ds => G a = none ∧ ∃ xs, H a = some (.lst xs) ∧ Reps K G xs ds
  | .dct ks ds => G a = none ∧ ∃ kvs, H a = some (.dK kvs) ∧ kvs.map (·.1) = ks ∧ Reps K G (kvs.map (·.2)) ds
  | .ins C fs => G a = none ∧ ∃ (dx : Addr) (vs : List (Option V)), (G dx = none ∨ G dx = some (.xd [])) ∧ (H dx = some (.own a) ∨ H dx = some (.xd [])) ∧ SlX.Slt H a C dx vs ∧ vs.length = fs.length ∧ ∀ (i : Nat) (d : D), fs[i]? = some (some d) → ∃ v, vs[i]? = some (some v) ∧ Rep K G v d
  | .opq o => G a = none ∧ H a = some o ∧ (∀ x, o ≠ .own x) ∧ o ≠ .xd []
  | .tab q => G a = none ∧ ∃ ps : Array Value, H a = some (.tbl ps) ∧ TriplesOk ps.toList ∧ ∀ (pos : Pos) (cv : Value), codeAmong pos ps.toList = some cv → ∃ c, cv = .ref c ∧ G c = some (LamX.CodeO c q)
/-- what is frozen stands, what may be written is as told -/
structure SM (K : PySem.W.Frag) (G H : Hp) (μ : Mu) : Prop where
  same : Same G H
  nod : (μ.map (·.1)).Nodup
  cell : ∀ p ∈ μ, Cell K G H p.1 p.2
/-- the names -/
structure RS (K : PySem.W.Frag) (G : Hp) (σ : L2.St) (ρ : Rho) : Prop where
  len : ρ.length = σ.length
  at_ : ∀ (i : Nat) (d : D), ρ[i]? = some (some d) → ∃ v, σ[i]? = some (some v) ∧ Rep K G v d
theorem Cell.off {K : PySem.W.Frag} {G H : Hp} {a : Addr} {m : M} (c : Cell K G H a m) : G a = none := by
  cases m <;> exact c.1
theorem Cell.there {K : PySem.W.Frag} {G H : Hp} {a : Addr} {m : M} (c : Cell K G H a m) : ∃ o, H a = some o := by
  cases m with
  | lst ds => obtain ⟨_, xs, h, _⟩ := c; exact ⟨_, h⟩
  | dct ks ds => obtain ⟨_, xs, h, _⟩ := c; exact ⟨_, h⟩
  | ins C fs =>
    obtain ⟨_, dx, vs, _, _, h, _⟩ := c
    rcases h with ⟨h, _⟩ | ⟨h, _⟩ <;> exact ⟨_, h⟩
  | opq o => exact ⟨o, c.2.1⟩
  | tab q => obtain ⟨_, ps, h, _⟩ := c; exact ⟨_, h⟩
theorem RS.same {K : PySem.W.Frag} {G G' : Hp} {σ : L2.St} {ρ : Rho} (s : Same G G') (r : RS K G σ ρ) : RS K G' σ ρ :=
  ⟨r.len, fun i d e => let ⟨v, h1, h2⟩ := r.at_ i d e; ⟨v, h1, h2.same s⟩⟩
theorem RS.set {K : PySem.W.Frag} {G : Hp} {σ : L2.St} {ρ : Rho} {v : V} {d : D} (i : Nat) (r : RS K G σ ρ) (h : Rep K G v d) : RS K G (σ.set i (some v)) (ρ.set i (some d)) := by
  refine ⟨by rw [List.length_set, List.length_set, r.len], fun j e q => ?_⟩
  by_cases hj : i = j
  · subst hj
    by_cases hl : i < ρ.length
    · rw [List.getElem?_set_self hl] at q
      cases q
      exact ⟨v, List.getElem?_set_self (by rw [← r.len]; exact hl), h⟩
    · rw [List.getElem?_eq_none (by simpa using hl)] at q
      cases q
  · rw [List.getElem?_set_ne hj] at q
    obtain ⟨u, h1, h2⟩ := r.at_ j e q
    exact ⟨u, by rw [List.getElem?_set_ne hj]; exact h1, h2⟩

/-! ### what grows -/
structure Grow (G H G' H' : Hp) : Prop where
  g : Same G G'
  h : Same H H'
  gh : Same G' H'
  off : ∀ a o, H a = some o → G a = none → G' a = none
theorem Cell.grow {K : PySem.W.Frag} {G H G' H' : Hp} {a : Addr} {m : M} (w : Grow G H G' H') (c : Cell K G H a m) : Cell K G' H' a m := by
  obtain ⟨o, ho⟩ := c.there
  have ga : G' a = none := w.off a o ho c.off
  cases m with
  | lst ds => obtain ⟨_, xs, h, r⟩ := c; exact ⟨ga, xs, w.h _ _ h, r.same w.g⟩
  | dct ks ds => obtain ⟨_, xs, h, e, r⟩ := c; exact ⟨ga, xs, w.h _ _ h, e, r.same w.g⟩
  | ins C fs =>
    obtain ⟨_, dx, vs, gd, hd, h, hl, r⟩ := c
    refine ⟨ga, dx, vs, ?_, ?_, slt_same w.h h, hl, fun i d e => let ⟨v, h1, h2⟩ := r i d e; ⟨v, h1, h2.same w.g⟩⟩
    · rcases gd with gd | gd
      · rcases hd with z | z <;> exact .inl (w.off dx _ z gd)
      · exact .inr (w.g _ _ gd)
    · rcases hd with z | z
      · exact .inl (w.h _ _ z)
      · exact .inr (w.h _ _ z)
  | opq o => exact ⟨ga, w.h _ _ c.2.1, c.2.2⟩
  | tab q => obtain ⟨_, ps, h, t, k⟩ := c; exact ⟨ga, ps, w.h _ _ h, t, fun pos cv hc => let ⟨c, e1, e2⟩ := k pos cv hc; ⟨c, e1, w.g _ _ e2⟩⟩
theorem SM.grow {K : PySem.W.Frag} {G H G' H' : Hp} {μ : Mu} (w : Grow G H G' H') (m : SM K G H μ) : SM K G' H' μ := ⟨w.gh, m.nod, fun p hp => (m.cell p hp).grow w⟩
theorem same_new {H : Hp} {p : Addr} {o : HO} (hp : H p = none) : Same H (upd H p o) := fun b u e => by rw [upd_ne (ne_of_none e hp)]; exact e
/-- a new object, frozen at once -/
theorem grow_new {G H : Hp} {p : Addr} {o : HO} (s : Same G H) (hp : H p = none) : Grow G H (upd G p o) (upd H p o) := by
  have gp : G p = none := s.free hp
  refine ⟨same_new gp, same_new hp, fun b u e => ?_, fun a u e ge => ?_⟩
  · by_cases hb : b = p
    · subst hb; rw [upd_same] at e ⊢; exact e
    · rw [upd_ne hb] at e ⊢; exact s b u e
  · rw [upd_ne (ne_of_none e hp)]; exact ge
/-- .. a new object that may be written -/
theorem grow_mut {G H : Hp} {p : Addr} {o : HO} (s : Same G H) (hp : H p = none) : Grow G H G (upd H p o) :=
  ⟨Same.refl G, same_new hp, s.trans (same_new hp), fun _ _ _ ge => ge⟩
theorem Grow.refl {G H : Hp} (s : Same G H) : Grow G H G H := ⟨Same.refl _, Same.refl _, s, fun _ _ _ e => e⟩
theorem SM.fresh {K : PySem.W.Frag} {G H : Hp} {μ : Mu} {p : Addr} (m : SM K G H μ) (hp : H p = none) : p ∉ μ.map (·.1) := fun h => by
  obtain ⟨q, hq, e⟩ := List.mem_map.mp h
  obtain ⟨o, ho⟩ := (m.cell q hq).there
  rw [e, hp] at ho
  cases ho
theorem SM.add {K : PySem.W.Frag} {G H H' : Hp} {μ : Mu} {p : Addr} {c : M} (m : SM K G H μ) (hp : H p = none) (w : Grow G H G H') (hc : Cell K G H' p c) : SM K G H' (μ ++ [(p, c)]) := by
  refine ⟨w.gh, ?_, fun q hq => ?_⟩
  · rw [List.map_append]
    refine List.nodup_append.mpr ⟨m.nod, by simp, fun a ha b hb => ?_⟩
    have hb' : b = p := by simpa using hb
    subst hb'
    rintro rfl
    exact m.fresh hp ha
  · rcases List.mem_append.mp hq with h | h
    · exact (m.cell q h).grow w
    · have e : q = (p, c) := by simpa using h
      subst e
      exact hc
theorem SM.perm {K : PySem.W.Frag} {G H : Hp} {μ ν : Mu} (p : ν.Perm μ) (m : SM K G H μ) : SM K G H ν := ⟨m.same, ((p.map (·.1)).nodup_iff).mpr m.nod, fun q hq => m.cell q (p.mem_iff.mp hq)⟩
theorem SM.cons {K : PySem.W.Frag} {G H H' : Hp} {μ : Mu} {p : Addr} {c : M} (m : SM K G H μ) (hp : H p = none) (w : Grow G H G H') (hc : Cell K G H' p c) : SM K G H' ((p, c) :: μ) := (m.add hp w hc).perm (List.perm_append_comm (l₁ := [(p, c)]))
theorem mu_ne {μ : Mu} (nd : (μ.map (·.1)).Nodup) {i j : Nat} {a b : Addr} {c d : M} (h1 : μ[i]? = some (a, c)) (h2 : μ[j]? = some (b, d)) (ne : i ≠ j) : a ≠ b := by
  rintro rfl
  refine ne ?_
  have e1 : (μ.map (·.1))[i]? = some a := by rw [List.getElem?_map, h1]; rfl
  have e2 : (μ.map (·.1))[j]? = some a := by rw [List.getElem?_map, h2]; rfl
  obtain ⟨l1, q1⟩ := List.getElem?_eq_some_iff.mp e1
  obtain ⟨l2, q2⟩ := List.getElem?_eq_some_iff.mp e2
  exact (List.getElem_inj nd).mp (q1.trans q2.symm)
theorem slt_kind {H : Hp} {a C dx : Addr} {vs : List (Option V)} (h : SlX.Slt H a C dx vs) : ∃ o, H a = some o ∧ (∀ x, o ≠ .own x) ∧ o ≠ .xd [] := by
  rcases h with ⟨h, _⟩ | ⟨h, _⟩
  · exact ⟨_, h, (fun _ z => nomatch z), (fun z => nomatch z)⟩
  · refine ⟨_, h, fun x z => ?_, SlX.slO_not⟩
    unfold SlX.SlO at z
    cases z
theorem Cell.kind {K : PySem.W.Frag} {G H : Hp} {a : Addr} {m : M} (c : Cell K G H a m) : ∃ o, H a = some o ∧ (∀ x, o ≠ .own x) ∧ o ≠ .xd [] := by
  cases m with
  | lst ds => obtain ⟨_, xs, h, _⟩ := c; exact ⟨_, h, (fun _ z => nomatch z), (fun z => nomatch z)⟩
  | dct ks ds => obtain ⟨_, xs, h, _⟩ := c; exact ⟨_, h, (fun _ z => nomatch z), (fun z => nomatch z)⟩
  | ins C fs => obtain ⟨_, dx, vs, _, _, h, _⟩ := c; exact slt_kind h
  | opq o => exact ⟨o, c.2.1, c.2.2⟩
  | tab q => obtain ⟨_, ps, h, _⟩ := c; exact ⟨_, h, (fun _ z => nomatch z), (fun z => nomatch z)⟩
/-- one place is written: H' differs from H at a (and, maybe, at the dict dx of what stands there) -/
theorem SM.put {K : PySem.W.Frag} {G H H' : Hp} {μ : Mu} {i : Nat} {a : Addr} {c c' : M} (m : SM K G H μ) (hi : μ[i]? = some (a, c)) (dx : Addr) (hdx : dx = a ∨ ((G dx = none ∨ G dx = some (.xd [])) ∧ ∃ o, H dx = some o ∧ (o = .own a ∨ o = .xd []) ∧ H' dx = some (.xd [])))
    (k : ∀ b, b ≠ a → b ≠ dx → H' b = H b) (hc : Cell K G H' a c') : SM K G H' (μ.set i (a, c')) := by
  have hmem : (a, c) ∈ μ := List.mem_of_getElem? hi
  have ca := m.cell _ hmem
  refine ⟨fun b u e => ?_, ?_, fun q hq => ?_⟩
  · have h1 : b ≠ a := fun z => by rw [z, ca.off] at e; cases e
    by_cases h2 : b = dx
    · rcases hdx with w | ⟨w | w, _, _, _, w'⟩
      · exact absurd (h2.trans w) h1
      · rw [h2, w] at e; cases e
      · rw [h2, w] at e; rw [h2, w']; exact e
    · rw [k b h1 h2]
      exact m.same b u e
  · have e : (μ.set i (a, c')).map (·.1) = μ.map (·.1) := by
      rw [List.map_set]
      refine List.ext_getElem? fun j => ?_
      by_cases hj : i = j
      · subst hj
        have hl : i < (μ.map (·.1)).length := by rw [List.length_map]; exact (List.getElem?_eq_some_iff.mp hi).1
        rw [List.getElem?_set_self hl, List.getElem?_map, hi]
        rfl
      · rw [List.getElem?_set_ne hj]
    rw [e]
    exact m.nod
  · obtain ⟨j, hj⟩ := List.mem_iff_getElem?.mp hq
    by_cases hij : i = j
    · subst hij
      rw [List.getElem?_set_self (List.getElem?_eq_some_iff.mp hi).1] at hj
      cases hj
      exact hc
    · rw [List.getElem?_set_ne hij] at hj
      obtain ⟨b, cb⟩ := q
      have ne : b ≠ a := mu_ne m.nod hj hi (Ne.symm hij)
      have cc := m.cell _ (List.mem_of_getElem? hj)
      have nb : b ≠ dx := fun z => by
        rcases hdx with w | ⟨_, o, ho, hk, _⟩
        · exact ne (z.trans w)
        · obtain ⟨o', ho', n1, n2⟩ := cc.kind
          rw [z, ho] at ho'
          cases ho'
          rcases hk with e | e
          · exact n1 _ e
          · exact n2 e
      have hb : H' b = H b := k b ne nb
      cases cb with
      | lst ds => obtain ⟨g, xs, h, r⟩ := cc; exact ⟨g, xs, by rw [hb]; exact h, r⟩
      | dct ks ds => obtain ⟨g, xs, h, e, r⟩ := cc; exact ⟨g, xs, by rw [hb]; exact h, e, r⟩
      | ins C fs =>
        obtain ⟨g, dy, vs, gd, hd, h, hl, r⟩ := cc
        obtain ⟨oa, hoa, n1, n2⟩ := ca.kind
        have dya : dy ≠ a := fun z => by
          rcases hd with e | e
          · rw [z, hoa] at e; cases e; exact n1 _ rfl
          · rw [z, hoa] at e; cases e; exact n2 rfl
        have hdy : H' dy = some (.own b) ∨ H' dy = some (.xd []) := by
          by_cases hz : dy = dx
          · rcases hdx with w | ⟨_, _, _, _, w⟩
            · exact absurd (hz.trans w) dya
            · exact .inr (by rw [hz]; exact w)
          · rw [k dy dya hz]; exact hd
        refine ⟨g, dy, vs, gd, hdy, ?_, hl, r⟩
        rcases h with ⟨h1, h2⟩ | ⟨h1, h2⟩
        · exact .inl ⟨by rw [hb]; exact h1, h2⟩
        · refine .inr ⟨by rw [hb]; exact h1, ?_⟩
          by_cases hz : dy = dx
          · rcases hdx with w | ⟨_, _, _, _, w⟩
            · exact absurd (hz.trans w) dya
            · rw [hz]; exact w
          · rw [k dy dya hz]; exact h2
      | opq o => exact ⟨cc.1, by rw [hb]; exact cc.2.1, cc.2.2⟩
      | tab q => obtain ⟨g, ps, h, k⟩ := cc; exact ⟨g, ps, by rw [hb]; exact h, k⟩
theorem SM.putL {K : PySem.W.Frag} {G H : Hp} {μ : Mu} {i : Nat} {a : Addr} {c c' : M} {o : HO} (m : SM K G H μ) (hi : μ[i]? = some (a, c)) (hc : Cell K G (upd H a o) a c') : SM K G (upd H a o) (μ.set i (a, c')) :=
  m.put hi a (.inl rfl) (fun b h _ => upd_ne h) hc
/-- the place a holds m; with m' there the places are μ' -/
inductive At : Mu → Addr → M → M → Mu → Prop where
  | here {a : Addr} {m m' : M} {μ : Mu} : At ((a, m) :: μ) a m m' ((a, m') :: μ)
  | there {c : Addr × M} {μ μ' : Mu} {a : Addr} {m m' : M} : At μ a m m' μ' → At (c :: μ) a m m' (c :: μ')
theorem At.ix {μ μ' : Mu} {a : Addr} {m m' : M} (h : At μ a m m' μ') : ∃ i, μ[i]? = some (a, m) ∧ μ' = μ.set i (a, m') := by
  induction h with
  | here => exact ⟨0, rfl, rfl⟩
  | there _ ih =>
    obtain ⟨i, h1, h2⟩ := ih
    exact ⟨i + 1, by simpa using h1, by rw [List.set_cons_succ, h2]⟩
theorem At.mem {μ μ' : Mu} {a : Addr} {m m' : M} (h : At μ a m m' μ') : (a, m) ∈ μ := by
  obtain ⟨i, h1, _⟩ := h.ix
  exact List.mem_of_getElem? h1
/-- the place a holds m, the others are μ' -/
inductive Pick : Mu → Addr → M → Mu → Prop where
  | here {a : Addr} {m : M} {μ : Mu} : Pick ((a, m) :: μ) a m μ
  | there {c : Addr × M} {μ μ' : Mu} {a : Addr} {m : M} : Pick μ a m μ' → Pick (c :: μ) a m (c :: μ')
theorem Pick.perm {μ μ' : Mu} {a : Addr} {m : M} (h : Pick μ a m μ') : ((a, m) :: μ').Perm μ := by
  induction h with
  | here => exact List.Perm.refl _
  | there _ ih => exact (List.Perm.swap _ _ _).trans (ih.cons _)
theorem Pick.mem {μ μ' : Mu} {a : Addr} {m : M} (h : Pick μ a m μ') : (a, m) ∈ μ := h.perm.mem_iff.mp List.mem_cons_self
/-- what is known of the places may be forgotten -/
theorem SM.sub {K : PySem.W.Frag} {G H : Hp} {μ ν : Mu} (m : SM K G H μ) (h : ν.Sublist μ) : SM K G H ν := ⟨m.same, m.nod.sublist (h.map _), fun p hp => m.cell p (h.mem hp)⟩
/-- a list is frozen -/
theorem SM.frzL {K : PySem.W.Frag} {G H : Hp} {μ : Mu} {i : Nat} {a : Addr} {ds : List D} (m : SM K G H μ) (hi : μ[i]? = some (a, .lst ds)) : ∃ G', Same G G' ∧ SM K G' H (μ.eraseIdx i) ∧ Rep K G' (.ref a) (.lst ds) := by
  have hmem := List.mem_of_getElem? hi
  obtain ⟨g, xs, h, r⟩ := m.cell _ hmem
  have sG : Same G (upd G a (.lst xs)) := same_new g
  refine ⟨upd G a (.lst xs), sG, ⟨fun b u e => ?_, m.nod.sublist ((List.eraseIdx_sublist ..).map _), fun q hq => ?_⟩, .lst upd_same (r.same sG)⟩
  · by_cases hb : b = a
    · subst hb; rw [upd_same] at e; rw [h]; exact e
    · rw [upd_ne hb] at e; exact m.same b u e
  · obtain ⟨j, hji, hj⟩ := List.mem_eraseIdx_iff_getElem?.mp hq
    obtain ⟨b, cb⟩ := q
    have ne : b ≠ a := mu_ne m.nod hj hi hji
    have cc := m.cell _ (List.mem_of_getElem? hj)
    cases cb with
    | lst ds => obtain ⟨g, xs, h, r⟩ := cc; exact ⟨by rw [upd_ne ne]; exact g, xs, h, r.same sG⟩
    | dct ks ds => obtain ⟨g, xs, h, e, r⟩ := cc; exact ⟨by rw [upd_ne ne]; exact g, xs, h, e, r.same sG⟩
    | ins C fs =>
      obtain ⟨g, dy, vs, gd, hd, h', hl, r⟩ := cc
      refine ⟨by rw [upd_ne ne]; exact g, dy, vs, ?_, hd, h', hl, fun i d e => let ⟨v, h1, h2⟩ := r i d e; ⟨v, h1, h2.same sG⟩⟩
      rw [upd_ne]
      · exact gd
      · rintro rfl
        rw [h] at hd
        rcases hd with e | e <;> cases e
    | opq o => exact ⟨by rw [upd_ne ne]; exact cc.1, cc.2⟩
    | tab q => obtain ⟨g, ps, h, t, k⟩ := cc; exact ⟨by rw [upd_ne ne]; exact g, ps, h, t, fun pos cv hc => let ⟨c, e1, e2⟩ := k pos cv hc; ⟨c, e1, sG _ _ e2⟩⟩
/-- a dict is frozen, and locked -/
theorem SM.frzD {K : PySem.W.Frag} {G H : Hp} {μ : Mu} {i : Nat} {a : Addr} {ks : List Key} {ds : List D} (m : SM K G H μ) (hi : μ[i]? = some (a, .dct ks ds)) : ∃ kvs, H a = some (.dK kvs) ∧ ∀ od : Obj, ∃ G', Same G G' ∧ SM K G' (upd H a (.frz od (.dK kvs))) (μ.eraseIdx i) ∧ Rep K G' (.ref a) (.dct ks ds) := by
  have hmem := List.mem_of_getElem? hi
  obtain ⟨g, kvs, h, ek, r⟩ := m.cell _ hmem
  refine ⟨kvs, h, fun od => ?_⟩
  have sG : Same G (upd G a (.frz od (.dK kvs))) := same_new g
  refine ⟨upd G a (.frz od (.dK kvs)), sG, ⟨fun b u e => ?_, m.nod.sublist ((List.eraseIdx_sublist ..).map _), fun q hq => ?_⟩, .dct upd_same ek rfl (r.same sG)⟩
  · by_cases hb : b = a
    · subst hb; rw [upd_same] at e ⊢; exact e
    · rw [upd_ne hb] at e ⊢; exact m.same b u e
  · obtain ⟨j, hji, hj⟩ := List.mem_eraseIdx_iff_getElem?.mp hq
    obtain ⟨b, cb⟩ := q
    have ne : b ≠ a := mu_ne m.nod hj hi hji
    have cc := m.cell _ (List.mem_of_getElem? hj)
    have hH : upd H a (.frz od (.dK kvs)) b = H b := upd_ne ne
    cases cb with
    | lst ds => obtain ⟨g, xs, h, r⟩ := cc; exact ⟨by rw [upd_ne ne]; exact g, xs, by rw [hH]; exact h, r.same sG⟩
    | dct ks ds => obtain ⟨g, xs, h, e, r⟩ := cc; exact ⟨by rw [upd_ne ne]; exact g, xs, by rw [hH]; exact h, e, r.same sG⟩
    | ins C fs =>
      obtain ⟨g, dy, vs, gd, hd, h', hl, r⟩ := cc
      have nda : dy ≠ a := by
        rintro rfl
        rw [h] at hd
        rcases hd with e | e <;> cases e
      refine ⟨by rw [upd_ne ne]; exact g, dy, vs, by rw [upd_ne nda]; exact gd, by rw [upd_ne nda]; exact hd, ?_, hl, fun i d e => let ⟨v, h1, h2⟩ := r i d e; ⟨v, h1, h2.same sG⟩⟩
      rcases h' with ⟨h1, h2⟩ | ⟨h1, h2⟩
      · exact .inl ⟨by rw [hH]; exact h1, h2⟩
      · exact .inr ⟨by rw [hH]; exact h1, by rw [upd_ne nda]; exact h2⟩
    | opq o => exact ⟨by rw [upd_ne ne]; exact cc.1, by rw [hH]; exact cc.2.1, cc.2.2⟩
    | tab q => obtain ⟨g, ps, h, t, k⟩ := cc; exact ⟨by rw [upd_ne ne]; exact g, ps, by rw [hH]; exact h, t, fun pos cv hc => let ⟨c, e1, e2⟩ := k pos cv hc; ⟨c, e1, sG _ _ e2⟩⟩
theorem reps_opt {K : PySem.W.Frag} {G : Hp} : ∀ {ds : List D} {vs : List (Option V)}, vs.length = ds.length → (∀ (i : Nat) (d : D), (ds.map some)[i]? = some (some d) → ∃ v, vs[i]? = some (some v) ∧ Rep K G v d) → ∃ xs, vs = xs.map some ∧ Reps K G xs ds
  | [], [], _, _ => ⟨[], rfl, .nil⟩
  | d :: ds, v :: vs, hl, h => by
    obtain ⟨x, e1, r1⟩ := h 0 d (by simp)
    obtain ⟨xs, e2, r2⟩ := reps_opt (ds := ds) (vs := vs) (Nat.succ.inj hl) fun i d' e => by
      obtain ⟨y, f1, f2⟩ := h (i + 1) d' (by simpa using e)
      exact ⟨y, by simpa using f1, f2⟩
    have e1' : v = some x := by simpa using e1
    exact ⟨x :: xs, by rw [e1', e2]; rfl, .cons r1 r2⟩
  | [], _ :: _, hl, _ => by cases hl
  | _ :: _, [], hl, _ => by cases hl
/-- an instance is frozen, all its slots stored -/
theorem SM.frzI {K : PySem.W.Frag} {G H : Hp} {μ : Mu} {i : Nat} {a C : Addr} {ds : List D} (m : SM K G H μ) (hi : μ[i]? = some (a, .ins C (ds.map some))) (hne : ds ≠ []) : ∃ G', Same G G' ∧ SM K G' H (μ.eraseIdx i) ∧ Rep K G' (.ref a) (.ins C ds) := by
  have hmem := List.mem_of_getElem? hi
  obtain ⟨g, dx, vs, gd, hd, h, hl, r⟩ := m.cell _ hmem
  have hl' : vs.length = ds.length := by rw [hl, List.length_map]
  obtain ⟨xs, ev, rx⟩ := reps_opt hl' r
  rcases h with ⟨_, h2⟩ | ⟨h1, h2⟩
  · rw [h2] at hl'
    exact absurd (List.length_eq_zero_iff.mp hl'.symm) hne
  have nda : dx ≠ a := fun z => by
    rw [z, h1] at h2
    exact SlX.slO_not (Option.some.inj h2)
  have sG1 : Same G (upd G dx (.xd [])) := by
    rcases gd with gd | gd
    · exact same_new gd
    · intro b u e
      by_cases hb : b = dx
      · rw [hb, gd] at e; rw [hb, upd_same]; exact e
      · rw [upd_ne hb]; exact e
  have ga : upd G dx (.xd []) a = none := by rw [upd_ne (Ne.symm nda)]; exact g
  have sG : Same G (upd (upd G dx (.xd [])) a (SlX.SlO a C dx vs)) := sG1.trans (same_new ga)
  refine ⟨_, sG, ⟨fun b u e => ?_, m.nod.sublist ((List.eraseIdx_sublist ..).map _), fun q hq => ?_⟩, .ins (.inr ⟨upd_same, by rw [upd_ne nda, upd_same]⟩) ev (rx.same sG)⟩
  · by_cases hb : b = a
    · subst hb; rw [upd_same] at e; rw [h1]; exact e
    · rw [upd_ne hb] at e
      by_cases hb2 : b = dx
      · subst hb2; rw [upd_same] at e; rw [h2]; exact e
      · rw [upd_ne hb2] at e; exact m.same b u e
  · obtain ⟨j, hji, hj⟩ := List.mem_eraseIdx_iff_getElem?.mp hq
    obtain ⟨b, cb⟩ := q
    have ne : b ≠ a := mu_ne m.nod hj hi hji
    have cc := m.cell _ (List.mem_of_getElem? hj)
    have nb : b ≠ dx := fun z => by
      obtain ⟨o', ho', n1, n2⟩ := cc.kind
      rw [z, h2] at ho'
      cases ho'
      exact n2 rfl
    have gb : G b = none → upd (upd G dx (.xd [])) a (SlX.SlO a C dx vs) b = none := fun e => by rw [upd_ne ne, upd_ne nb]; exact e
    cases cb with
    | lst ds => obtain ⟨g, xs, h, r⟩ := cc; exact ⟨gb g, xs, h, r.same sG⟩
    | dct ks ds => obtain ⟨g, xs, h, e, r⟩ := cc; exact ⟨gb g, xs, h, e, r.same sG⟩
    | ins C' fs =>
      obtain ⟨g', dy, vs', gd', hd', h', hl2, r2⟩ := cc
      refine ⟨gb g', dy, vs', ?_, hd', h', hl2, fun i d e => let ⟨v, h1, h2⟩ := r2 i d e; ⟨v, h1, h2.same sG⟩⟩
      have dya : dy ≠ a := fun z => by
        obtain ⟨o, ho, n1, n2⟩ := slt_kind (.inr ⟨h1, h2⟩ : SlX.Slt H a C dx vs)
        rw [z, ho] at hd'
        rcases hd' with e | e
        · exact n1 _ (Option.some.inj e)
        · exact n2 (Option.some.inj e)
      rw [upd_ne dya]
      by_cases hz : dy = dx
      · rw [hz, upd_same]; exact .inr rfl
      · rw [upd_ne hz]; exact gd'
    | opq o => exact ⟨gb cc.1, cc.2⟩
    | tab q => obtain ⟨g, ps, h, t, k⟩ := cc; exact ⟨gb g, ps, h, t, fun pos cv hc => let ⟨c, e1, e2⟩ := k pos cv hc; ⟨c, e1, sG _ _ e2⟩⟩

/-! ### the weakest readings -/
def tW (X : Cx) (e : Expr) : TE := fun σ H Q => ∀ (pins : List (Addr × Obj)) (s : Shared), Inv X pins σ H s → wpAny (model X.prog X.w) X.A (eval e X.env) (EP X pins σ Q) X.xe s
def tWT (X : Cx) (e : Expr) : TT := fun σ H Q => ∀ (pins : List (Addr × Obj)) (s : Shared), Inv X pins σ H s → wpAny (model X.prog X.w) X.A (isTrue e X.env (eval e X.env)) (TP X pins σ Q) X.xe s
def tWA (X : Cx) (es : List Expr) : TA := fun σ H Q => ∀ (pos : Pos) (pins : List (Addr × Obj)) (s : Shared), Inv X pins σ H s → wpAny (model X.prog X.w) X.A (spliced (backTo pos (starEach es X.env))) (AP X pins σ Q) X.xe s
def tWS (X : Cx) (st : Stmt) : TS := fun D σ H => ∀ (pins : List (Addr × Obj)) (s : Shared), Inv X pins σ H s → wpAny (model X.prog X.w) X.A (exec st X.env) (SP X pins D) X.xe s
def tWB (X : Cx) (st : List Stmt) : TS := fun D σ H => ∀ (pins : List (Addr × Obj)) (s : Shared), Inv X pins σ H s → wpAny (model X.prog X.w) X.A (execs st X.env) (SP X pins D) X.xe s
theorem pe_W {X : Cx} {e : Expr} : PE X e (tW X e) := ⟨fun pins s _ _ _ I h => h pins s I⟩
theorem pt_W {X : Cx} {e : Expr} : PT X e (tWT X e) := ⟨fun pins s _ _ _ I h => h pins s I⟩
theorem pa_W {X : Cx} {es : List Expr} : PA X es (tWA X es) := ⟨fun pos pins s _ _ _ I h => h pos pins s I⟩
theorem ps_W {X : Cx} {st : Stmt} : PS X st (tWS X st) := ⟨fun pins s _ _ _ I h => h pins s I⟩
theorem pss_W {X : Cx} {st : List Stmt} : PSs X st (tWB X st) := ⟨fun pins s _ _ _ I h => h pins s I⟩
theorem toW {X : Cx} {e : Expr} {t : TE} {σ : L2.St} {H : Hp} {Q : VK} (h : PE X e t) (q : t σ H Q) : tW X e σ H Q := fun pins s I => h.run pins s σ H Q I q
theorem toWT {X : Cx} {e : Expr} {t : TT} {σ : L2.St} {H : Hp} {Q : Bool → Hp → Prop} (h : PT X e t) (q : t σ H Q) : tWT X e σ H Q := fun pins s I => h.run pins s σ H Q I q
theorem toWA {X : Cx} {es : List Expr} {t : TA} {σ : L2.St} {H : Hp} {Q : List V → Hp → Prop} (h : PA X es t) (q : t σ H Q) : tWA X es σ H Q := fun pos pins s I => h.run pos pins s σ H Q I q
theorem toWS {X : Cx} {st : Stmt} {t : TS} {σ : L2.St} {H : Hp} {E : Ends} (h : PS X st t) (q : t E σ H) : tWS X st E σ H := fun pins s I => h.run pins s σ H E I q
theorem toWB {X : Cx} {st : List Stmt} {t : TS} {σ : L2.St} {H : Hp} {E : Ends} (h : PSs X st t) (q : t E σ H) : tWB X st E σ H := fun pins s I => h.run pins s σ H E I q

/-! ### what data an expression gives -/
def DK (K : PySem.W.Frag) (G : Hp) (Φ : D → Mu → Prop) (Q : VK) : Prop := ∀ (d : D) (v : V) (G' H' : Hp) (μ' : Mu), Same G G' → SM K G' H' μ' → Rep K G' v d → Φ d μ' → Q v H'
structure WE (X : Cx) (e : Expr) (ρ : Rho) (μ : Mu) (Φ : D → Mu → Prop) : Prop where
  run : ∀ (σ : L2.St) (G H : Hp) (Q : VK), SM X.K G H μ → RS X.K G σ ρ → DK X.K G Φ Q → tW X e σ H Q
structure WT (X : Cx) (e : Expr) (ρ : Rho) (μ : Mu) (Φ : Bool → Mu → Prop) : Prop where
  run : ∀ (σ : L2.St) (G H : Hp) (Q : Bool → Hp → Prop), SM X.K G H μ → RS X.K G σ ρ → (∀ (b : Bool) (G' H' : Hp) (μ' : Mu), Same G G' → SM X.K G' H' μ' → Φ b μ' → Q b H') → tWT X e σ H Q
structure WA (X : Cx) (es : List Expr) (ρ : Rho) (μ : Mu) (Φ : List D → Mu → Prop) : Prop where
  run : ∀ (σ : L2.St) (G H : Hp) (Q : List V → Hp → Prop), SM X.K G H μ → RS X.K G σ ρ → (∀ (ds : List D) (vs : List V) (G' H' : Hp) (μ' : Mu), Same G G' → SM X.K G' H' μ' → Reps X.K G' vs ds → Φ ds μ' → Q vs H') → tWA X es σ H Q
/-- what follows a statement, what is returned -/
structure Fx where
  nx : Rho → Mu → Prop
  rt : D → Mu → Prop
structure EK (K : PySem.W.Frag) (G : Hp) (F : Fx) (E : Ends) : Prop where
  nx : ∀ (σ' : L2.St) (ρ' : Rho) (G' H' : Hp) (μ' : Mu), Same G G' → SM K G' H' μ' → RS K G' σ' ρ' → F.nx ρ' μ' → E.nx σ' H'
  rt : DK K G F.rt E.rt
theorem EK.same {K : PySem.W.Frag} {G G' : Hp} {F : Fx} {E : Ends} (s : Same G G') (k : EK K G F E) : EK K G' F E :=
  ⟨fun σ' ρ' G2 H' μ' s2 => k.nx σ' ρ' G2 H' μ' (s.trans s2), fun d v G2 H' μ' s2 => k.rt d v G2 H' μ' (s.trans s2)⟩
theorem DK.same {K : PySem.W.Frag} {G G' : Hp} {Φ : D → Mu → Prop} {Q : VK} (s : Same G G') (k : DK K G Φ Q) : DK K G' Φ Q := fun d v G2 H' μ' s2 => k d v G2 H' μ' (s.trans s2)
structure WS (X : Cx) (st : Stmt) (ρ : Rho) (μ : Mu) (F : Fx) : Prop where
  run : ∀ (σ : L2.St) (G H : Hp) (E : Ends), SM X.K G H μ → RS X.K G σ ρ → EK X.K G F E → tWS X st E σ H
structure WB (X : Cx) (st : List Stmt) (ρ : Rho) (μ : Mu) (F : Fx) : Prop where
  run : ∀ (σ : L2.St) (G H : Hp) (E : Ends), SM X.K G H μ → RS X.K G σ ρ → EK X.K G F E → tWB X st E σ H
/-- the place of a name -/
inductive Ix : List Str → Str → Nat → Prop where
  | here {x : Str} {N : List Str} : Ix (x :: N) x 0
  | there {x y : Str} {N : List Str} {i : Nat} : Ix N x i → Ix (y :: N) x (i + 1)
theorem Ix.at {N : List Str} {x : Str} {i : Nat} (h : Ix N x i) : N[i]? = some x := by
  induction h with
  | here => rfl
  | there _ ih => simpa using ih

section
variable {X : Cx} {ρ : Rho} {μ : Mu} {Φ : D → Mu → Prop} {F : Fx}
/-! ### names, constants -/
theorem we_var (i : Nat) {x : Str} {pos : Pos} {d : D} (k : Φ d μ) (hN : X.N[i]? = some x := by rfl) (e : ρ[i]? = some (some d) := by rfl) (hv : Vis X.env.scope x := by first | exact Or.inl rfl | exact Or.inr (Or.inl rfl) | exact Or.inr (Or.inr rfl)) (hd : (x == ("__debug__" : Str)) = false := by decide) (hcd : (x == ("__classdict__" : Str)) = false := by decide) :
    WE X (.Name x pos) ρ μ Φ := ⟨fun σ G H Q m r q => by
  obtain ⟨v, h1, h2⟩ := r.at_ i d e
  exact toW (pe_var hN hv hd hcd) ⟨v, h1, q d v G H μ (Same.refl G) m h2 k⟩⟩
theorem we_vx {N : List Str} {i : Nat} {x : Str} {pos : Pos} {d : D} (ix : Ix N x i) (k : Φ d μ) (hX : X.N = N := by rfl) (e : ρ[i]? = some (some d) := by rfl) (hv : Vis X.env.scope x := by first | exact Or.inl rfl | exact Or.inr (Or.inl rfl) | exact Or.inr (Or.inr rfl)) (hd : (x == ("__debug__" : Str)) = false := by decide) (hcd : (x == ("__classdict__" : Str)) = false := by decide) :
    WE X (.Name x pos) ρ μ Φ := we_var i k (by rw [hX]; exact ix.at) e hv hd hcd
theorem we_int {i : Int} {j : Nat} {pos : Pos} (k : Φ (.int i) μ) : WE X (.Constant (.int i) j pos) ρ μ Φ := ⟨fun σ G H Q m r q => toW pe_int (q _ _ G H μ (Same.refl G) m (.int i) k)⟩
theorem we_bl {b : Bool} {j : Nat} {pos : Pos} (k : Φ (.bl b) μ) : WE X (.Constant (.bool b) j pos) ρ μ Φ := ⟨fun σ G H Q m r q => toW pe_bl (q _ _ G H μ (Same.refl G) m (.bl b) k)⟩
theorem we_non {j : Nat} {pos : Pos} (k : Φ .non μ) : WE X (.Constant .none j pos) ρ μ Φ := ⟨fun σ G H Q m r q => toW pe_non (q _ _ G H μ (Same.refl G) m .non k)⟩
theorem we_str {x : Str} {j : Nat} {pos : Pos} (k : Φ (.str x) μ) : WE X (.Constant (.str x) j pos) ρ μ Φ := ⟨fun σ G H Q m r q => toW pe_str (q _ _ G H μ (Same.refl G) m (.str x) k)⟩
/-- a global constant: u its value, d what it stands for over every heap -/
theorem we_glob {x : Str} {pos : Pos} {d : D} (hm : ∃ u v, X.mg x = some u ∧ RelV v u ∧ ∀ G, Rep X.K G v d) (k : Φ d μ) (hg : Gl X x := by rfl) (hd : (x == ("__debug__" : Str)) = false := by decide) : WE X (.Name x pos) ρ μ Φ := ⟨fun σ G H Q m _ q => by
  obtain ⟨u, v, hm, r, rd⟩ := hm
  exact toW (pe_glob hg hm r hd) (q d v G H μ (Same.refl G) m (rd G) k)⟩
theorem we_bty {x : Str} {pos : Pos} {n : Bt} (hm : X.mg x = none) (hv : bootBuiltins x = some (.type n.name)) (k : Φ (.ty n) μ) (hg : Gl X x := by rfl) (hn : x ≠ "__name__" := by decide) (hd : (x == ("__debug__" : Str)) = false := by decide) : WE X (.Name x pos) ρ μ Φ := ⟨fun σ G H Q m _ q =>
  toW (pe_bltn hg hm hv (v := .ty n.name) rfl hn hd) (q (.ty n) _ G H μ (Same.refl G) m (.ty n) k)⟩

/-! ### arguments -/
theorem wa_nil {Φ : List D → Mu → Prop} (k : Φ [] μ) : WA X [] ρ μ Φ := ⟨fun σ G H Q m r q => toWA pa_nil (q [] [] G H μ (Same.refl G) m .nil k)⟩
theorem wa_cons {e : Expr} {es : List Expr} {Φ : List D → Mu → Prop} (k : WE X e ρ μ fun d μ1 => WA X es ρ μ1 fun ds μ2 => Φ (d :: ds) μ2) (hs : starEach (e :: es) X.env = (false, eval e X.env) :: starEach es X.env := by rfl) : WA X (e :: es) ρ μ Φ := ⟨fun σ G H Q m r q =>
  toWA (pa_cons pe_W pa_W hs) (k.run σ G H _ m r fun d v G1 H1 μ1 s1 m1 rd k1 => k1.run σ G1 H1 _ m1 (r.same s1) fun ds vs G2 H2 μ2 s2 m2 rds k2 =>
    q (d :: ds) (v :: vs) G2 H2 μ2 (s1.trans s2) m2 (.cons (rd.same s2) rds) k2)⟩

/-! ### blocks -/
theorem wb_nil (k : F.nx ρ μ) : WB X [] ρ μ F := ⟨fun σ G H E m r q => toWB pss_nil (q.nx σ ρ G H μ (Same.refl G) m r k)⟩
theorem wb_cons {st : Stmt} {rest : List Stmt} (k : WS X st ρ μ ⟨fun ρ1 μ1 => WB X rest ρ1 μ1 F, F.rt⟩) : WB X (st :: rest) ρ μ F := ⟨fun σ G H E m r q =>
  toWB (pss_cons ps_W pss_W) (k.run σ G H { E with nx := fun σ1 H1 => tWB X rest E σ1 H1 } m r ⟨fun σ1 ρ1 G1 H1 μ1 s1 m1 r1 k1 => k1.run σ1 G1 H1 E m1 r1 (q.same s1), q.rt⟩)⟩
theorem wb_one {st : Stmt} (k : WS X st ρ μ F) : WB X [st] ρ μ F := ⟨fun σ G H E m r q => toWB (pss_one ps_W) (k.run σ G H E m r q)⟩
theorem ws_ret {N : Rho → Mu → Prop} {R : D → Mu → Prop} {e : Expr} {pos : Pos} (k : WE X e ρ μ R) : WS X (.Return (some e) pos) ρ μ ⟨N, R⟩ := ⟨fun σ G H E m r q => toWS (ps_ret pe_W) (k.run σ G H _ m r q.rt)⟩
theorem ws_set {N : Rho → Mu → Prop} {R : D → Mu → Prop} (i : Nat) {x : Str} {e : Expr} {pos pos' : Pos} (hN : X.N.Nodup) (k : WE X e ρ μ fun d μ1 => N (ρ.set i (some d)) μ1) (hi : X.N[i]? = some x := by rfl) (hx : Loc X.env.scope x := by first | exact Or.inl rfl | exact Or.inr rfl) (hs : swapsWith e (some (.Name x pos')) pos.line X.env = pure false := by rfl)
    (hf : X.fn x = true ∨ X.env.scope.names.lookup x = some .local := by first | exact .inl rfl | exact .inr rfl) : WS X (.Assign [.Name x pos'] e pos) ρ μ ⟨N, R⟩ := ⟨fun σ G H E m r q =>
  toWS (ps_set hN hi hx pe_W hs hf) (k.run σ G H _ m r fun d v G1 H1 μ1 s1 m1 rd k1 => q.nx _ _ G1 H1 μ1 s1 m1 ((r.same s1).set i rd) k1)⟩
theorem ws_expr {N : Rho → Mu → Prop} {R : D → Mu → Prop} {e : Expr} {pos : Pos} (k : WE X e ρ μ fun _ μ1 => N ρ μ1) (hs : swapsWith e none pos.line X.env = pure false := by rfl) : WS X (.Expr e pos) ρ μ ⟨N, R⟩ := ⟨fun σ G H E m r q =>
  toWS (ps_expr pe_W hs) (k.run σ G H _ m r fun d v G1 H1 μ1 s1 m1 rd k1 => q.nx _ _ G1 H1 μ1 s1 m1 (r.same s1) k1)⟩
end
end DL
namespace DL
open PySem PySem.Spec PyProof.Rows L2

/-! ### what a def promises, over data -/
abbrev Spec := List D → Mu → (D → Mu → Prop) → (Value → Mu → Prop) → Prop
def spD (K : PySem.W.Frag) (S : Spec) : Sp := fun vs H Q E => ∃ (G : Hp) (μ : Mu) (ds : List D) (Φ : D → Mu → Prop) (Ψ : Value → Mu → Prop), SM K G H μ ∧ Reps K G vs ds ∧ S ds μ Φ Ψ ∧ DK K G Φ Q ∧
  ∀ (c : Value) (G' H' : Hp) (μ' : Mu), Same G G' → SM K G' H' μ' → Ψ c μ' → E c none H'
def noX : Value → Mu → Prop := fun _ _ => False
/-- a global def that keeps a promise -/
structure Cal (P : Program) (w : World) (K : PySem.W.Frag) (mg : Str → Option Value) (base : Heap) (k : Nat) (x : Str) (S : Spec) : Prop where
  ex : ∃ f : Addr, mg x = some (.ref f) ∧ PySem.W.keepIn K (.ref f) = true ∧ FnR P w K mg base CX0 k f (spD K S)

section
variable {P : Program} {w : World} {K : PySem.W.Frag} {mg : Str → Option Value} {base : Heap}
theorem reps_map {G : Hp} : ∀ {vs : List V} {ds : List D} {i : Nat} {d : D} (n : Nat), Reps K G vs ds → (ds.map some ++ List.replicate n (none : Option D))[i]? = some (some d) → ∃ v, (vs.map some ++ List.replicate n (none : Option V))[i]? = some (some v) ∧ Rep K G v d
  | _, _, i, d, n, .nil, e => by
    simp only [List.map_nil, List.nil_append] at e
    rw [List.getElem?_replicate] at e
    split at e <;> cases e
  | _, _, 0, d, n, .cons r t, e => by
    simp only [List.map_cons, List.cons_append, List.getElem?_cons_zero, Option.some.injEq] at e
    subst e
    exact ⟨_, by simp, r⟩
  | _, _, i + 1, d, n, .cons r t, e => by
    obtain ⟨v, h1, h2⟩ := reps_map (i := i) (d := d) n t (by simpa using e)
    exact ⟨v, by simpa using h1, h2⟩
def rho0 (N : List Str) (ds : List D) : Rho := ds.map some ++ List.replicate (N.length - ds.length) none
theorem rs_start {G : Hp} {N : List Str} {vs : List V} {ds : List D} (r : Reps K G vs ds) : RS K G (L2.start N vs) (rho0 N ds) := by
  refine ⟨?_, fun i d e => ?_⟩
  · unfold rho0 L2.start
    rw [List.length_append, List.length_append, List.length_map, List.length_map, List.length_replicate, List.length_replicate, r.length]
  · unfold rho0 at e
    unfold L2.start
    rw [r.length]
    exact reps_map _ r e
/-- a def by its body -/
theorem fn_D {x qual : Str} {params : Arguments} {body : List Stmt} {scope : Scope} {f : Addr} {fd : FuncData} {N ps : List Str} {k : Nat} {S : Spec} (F : FunD K x qual params body scope [] [] f fd) (Sc : FnScope N ps scope)
    (hb : ∀ (kV doc pm : Value) (an : Option Addr) (cdv ct : Value) (us : List Value), us.length = ps.length → bindArgs (PySem.W.fnOf x qual params body scope .none kV doc pm an cdv ct) ⟨us, []⟩ = pure (ps.zip us))
    (hlen : ∀ ds μ Φ Ψ, S ds μ Φ Ψ → ds.length = ps.length)
    (hbody : ∀ (cdv : Value) (A : Around) (outer : List Env) (s : Shared) (H : Hp) (E : XK), Room k (A.deeper (envOfC qual scope s.heap.objs.size f cdv)) → ∀ (ds : List D) (μ : Mu) (Φ : D → Mu → Prop) (Ψ : Value → Mu → Prop), S ds μ Φ Ψ →
      WB (cxOf CX0 P w K mg base N qual scope f cdv A outer s H E).nox body (rho0 N ds) μ ⟨fun _ μ' => Φ .non μ', Φ⟩) : FnR P w K mg base CX0 (k + 1) f (spD K S) := by
  have b := FunD.bindsN (ps := ps) F hb
  have ok : FnOk P w K mg base CX0 (k + 1) f fd ps (spD K S) := by
    refine F.ok Sc (fun vs H Q E h => ?_) (fun cdv A outer s H vs Q E hr h => ?_)
    · obtain ⟨G, μ, ds, Φ, Ψ, m, r, hs, _⟩ := h
      rw [r.length]
      exact hlen _ _ _ _ hs
    · obtain ⟨G, μ, ds, Φ, Ψ, m, r, hs, q, _⟩ := h
      refine ⟨_, PSs.nox pss_W, (hbody cdv A outer s H E hr ds μ Φ Ψ hs).run _ G H _ m (rs_start r) ⟨fun σ' ρ' G' H' μ' s1 m1 _ k1 => q .non .non G' H' μ' s1 m1 .non k1, q⟩⟩
  exact FnR.imp (ok.raw b .nil) fun vs H Q E h => by rw [List.append_nil]; exact h
end

section
variable {X : Cx} {ρ : Rho} {μ : Mu} {Φ : D → Mu → Prop} {F : Fx}
theorem we_vb {CX : CXT} {P : Program} {w : World} {K : PySem.W.Frag} {mg : Str → Option Value} {base : Heap} {N : List Str} {qual : Str} {scope : Scope} {f : Addr} {cdv : Value} {A : Around} {outer : List Env} {s : Shared} {H : Hp} {E : XK} {i : Nat} {x : Str} {pos : Pos} {d : D}
    (ix : Ix N x i) (k : Φ d μ) (e : ρ[i]? = some (some d) := by rfl) (hv : Vis scope x := by first | exact Or.inl rfl | exact Or.inr (Or.inl rfl) | exact Or.inr (Or.inr rfl)) (hd : (x == ("__debug__" : Str)) = false := by decide) (hcd : (x == ("__classdict__" : Str)) = false := by decide) :
    WE (cxOf CX P w K mg base N qual scope f cdv A outer s H E).nox (.Name x pos) ρ μ Φ := we_var i k ix.at e hv hd hcd
/-- the call of a def that is known -/
theorem pe_callD {k : Nat} {f : Addr} {x : Str} {sp : Sp} {E : XK} {CX : CXT} {e : Expr} {es : List Expr} {t : TA} {p pos : Pos} (F : FnR X.prog X.w X.K X.mg X.base CX k f sp) (hr : Room k X.A) (hg : Gl X x) (hm : X.mg x = some (.ref f)) (hk : PySem.W.keepIn X.K (.ref f) = true) (hx : Passes CX X E)
    (ha : PA X (e :: es) t) (hdb : (x == ("__debug__" : Str)) = false) (he : starEach (e :: es) X.env = (false, eval e X.env) :: starEach es X.env := by rfl) (hpl : (backTo pos (starEach es X.env)).any (·.1) = false := by rfl) :
    PE X (.Call (.Name x p) (e :: es) [] pos) (fun σ H Q => t σ H fun vs H1 => sp vs H1 Q E) := by
  refine ⟨fun pins s σ H Q I h => ?_⟩
  refine wpAny_Call_Name_kw (ld_glob I hg hm ?_ hdb)
  refine PySem.W.callWith_K (h₀ := X.base) I.ok.mod.kin hk (thn (ha.run pos pins s σ H _ I h) fun us s1 ⟨vs, H1, I1, r, q⟩ => ⟨I1.kIn, ?_⟩) he hpl
  exact wpAny_call (run_fnR F hr hx I1 r q)
theorem pe_callD0 {k : Nat} {f : Addr} {x : Str} {sp : Sp} {E : XK} {CX : CXT} {p pos : Pos} (F : FnR X.prog X.w X.K X.mg X.base CX k f sp) (hr : Room k X.A) (hg : Gl X x) (hm : X.mg x = some (.ref f)) (hk : PySem.W.keepIn X.K (.ref f) = true) (hx : Passes CX X E)
    (hdb : (x == ("__debug__" : Str)) = false) : PE X (.Call (.Name x p) [] [] pos) (fun σ H Q => sp [] H Q E) := by
  refine ⟨fun pins s σ H Q I h => ?_⟩
  refine wpAny_Call_Name_kw (ld_glob I hg hm ?_ hdb)
  exact PySem.W.callWith_K0 I.kIn hk (wpAny_call (run_fnR (us := []) F hr hx I .nil h))
/-- what a promise asks, as a wish -/
theorem spD_of {K : PySem.W.Frag} {S : Spec} {G H : Hp} {μ : Mu} {ds : List D} {vs : List V} {Φ : D → Mu → Prop} {Q : VK} {E : XK} (m : SM K G H μ) (r : Reps K G vs ds) (h : S ds μ Φ noX) (q : DK K G Φ Q) : spD K S vs H Q E :=
  ⟨G, μ, ds, Φ, noX, m, r, h, q, fun _ _ _ _ _ _ z => False.elim z⟩
theorem we_call {k : Nat} {x : Str} {S : Spec} {e : Expr} {es : List Expr} {p pos : Pos} (C : Cal X.prog X.w X.K X.mg X.base k x S) (hr : Room k X.A) (h : WA X (e :: es) ρ μ fun ds μ1 => S ds μ1 Φ noX) (hg : Gl X x := by rfl) (hdb : (x == ("__debug__" : Str)) = false := by decide) (he : starEach (e :: es) X.env = (false, eval e X.env) :: starEach es X.env := by rfl) (hpl : (backTo pos (starEach es X.env)).any (·.1) = false := by rfl) :
    WE X (.Call (.Name x p) (e :: es) [] pos) ρ μ Φ := ⟨fun σ G H Q m r q => by
  obtain ⟨f, hm, hk, Fr⟩ := C.ex
  exact toW (pe_callD Fr hr hg hm hk (pass0 (X := X)) pa_W hdb he hpl) (h.run σ G H _ m r fun ds vs G1 H1 μ1 s1 m1 r1 k1 => spD_of m1 r1 k1 (q.same s1))⟩
theorem we_call0 {k : Nat} {x : Str} {S : Spec} {p pos : Pos} (C : Cal X.prog X.w X.K X.mg X.base k x S) (hr : Room k X.A) (h : S [] μ Φ noX) (hg : Gl X x := by rfl) (hdb : (x == ("__debug__" : Str)) = false := by decide) :
    WE X (.Call (.Name x p) [] [] pos) ρ μ Φ := ⟨fun σ G H Q m r q => by
  obtain ⟨f, hm, hk, Fr⟩ := C.ex
  exact toW (pe_callD0 Fr hr hg hm hk (pass0 (X := X)) hdb) (spD_of m .nil h q)⟩

/-! ### built-in calls -/
def RepsL (K : PySem.W.Frag) (G : Hp) := Reps K G
theorem we_B {id : String} {r : List V → Hp → VK → Prop} {x : Str} {e : Expr} {es : List Expr} {p pos : Pos} {Ψ : List D → Mu → Prop} (hc : CallR X (.builtin id) r) (hg : Gl X x) (hm : X.mg x = none) (hv : bootBuiltins x = some (.builtin id)) (hn : x ≠ "__name__") (hdb : (x == ("__debug__" : Str)) = false)
    (h : WA X (e :: es) ρ μ Ψ) (hr : ∀ (ds : List D) (vs : List V) (G H : Hp) (μ1 : Mu) (Q : VK), SM X.K G H μ1 → Reps X.K G vs ds → Ψ ds μ1 → DK X.K G Φ Q → r vs H Q)
    (he : starEach (e :: es) X.env = (false, eval e X.env) :: starEach es X.env := by rfl) (hpl : (backTo pos (starEach es X.env)).any (·.1) = false := by rfl) : WE X (.Call (.Name x p) (e :: es) [] pos) ρ μ Φ := ⟨fun σ G H Q m r q =>
  toW (pe_callB hc hg hm hv pa_W hn hdb he hpl) (h.run σ G H _ m r fun ds vs G1 H1 μ1 s1 m1 r1 k1 => hr ds vs G1 H1 μ1 Q m1 r1 k1 (q.same s1))⟩
theorem we_Ty {T : String} {r : List V → Hp → VK → Prop} {x : Str} {e : Expr} {es : List Expr} {p pos : Pos} {Ψ : List D → Mu → Prop} (hc : CallR X (.type T) r) (hg : Gl X x) (hm : X.mg x = none) (hv : bootBuiltins x = some (.type T)) (hn : x ≠ "__name__") (hdb : (x == ("__debug__" : Str)) = false)
    (h : WA X (e :: es) ρ μ Ψ) (hr : ∀ (ds : List D) (vs : List V) (G H : Hp) (μ1 : Mu) (Q : VK), SM X.K G H μ1 → Reps X.K G vs ds → Ψ ds μ1 → DK X.K G Φ Q → r vs H Q)
    (he : starEach (e :: es) X.env = (false, eval e X.env) :: starEach es X.env := by rfl) (hpl : (backTo pos (starEach es X.env)).any (·.1) = false := by rfl) : WE X (.Call (.Name x p) (e :: es) [] pos) ρ μ Φ := ⟨fun σ G H Q m r q =>
  toW (pe_callTy hc hg hm hv pa_W hn hdb he hpl) (h.run σ G H _ m r fun ds vs G1 H1 μ1 s1 m1 r1 k1 => hr ds vs G1 H1 μ1 Q m1 r1 k1 (q.same s1))⟩

end
end DL
namespace DL
open PySem PySem.Spec PyProof.Rows L2

/-- an operation on two values, over data -/
structure RD (K : PySem.W.Frag) (r : R2) (x y : D) (μ : Mu) (Φ : D → Mu → Prop) : Prop where
  run : ∀ (G H : Hp) (vx vy : V) (Q : VK), SM K G H μ → Rep K G vx x → Rep K G vy y → DK K G Φ Q → r vx vy H Q
/-- .. on one -/
structure UD (K : PySem.W.Frag) (r : V → Hp → VK → Prop) (x : D) (μ : Mu) (Φ : D → Mu → Prop) : Prop where
  run : ∀ (G H : Hp) (vx : V) (Q : VK), SM K G H μ → Rep K G vx x → DK K G Φ Q → r vx H Q
inductive Bl (Φ : Bool → Mu → Prop) : D → Mu → Prop where
  | mk {b : Bool} {μ : Mu} : Φ b μ → Bl Φ (.bl b) μ
theorem Bl.get {Φ : Bool → Mu → Prop} {d : D} {μ : Mu} (h : Bl Φ d μ) : ∃ b, d = .bl b ∧ Φ b μ := by
  cases h with
  | mk h => exact ⟨_, rfl, h⟩
theorem bl_i {Φ : Bool → Mu → Prop} {b : Bool} {μ : Mu} (h : Φ b μ) : Bl Φ (.bl b) μ := .mk h
/-- by a truth value -/
structure It (t : Bool) (A B : Prop) : Prop where
  run : if t = true then A else B
theorem it_t {A B : Prop} (h : A) : It true A B := ⟨by rw [if_pos rfl]; exact h⟩
theorem it_f {A B : Prop} (h : B) : It false A B := ⟨by rw [if_neg Bool.false_ne_true]; exact h⟩
theorem it_c {t : Bool} {A B : Prop} (h1 : t = true → A) (h2 : t = false → B) : It t A B := by
  cases t with
  | true => exact it_t (h1 rfl)
  | false => exact it_f (h2 rfl)
theorem It.tt {A B : Prop} (h : It true A B) : A := by have := h.run; rwa [if_pos rfl] at this
theorem It.ff {A B : Prop} (h : It false A B) : B := by have := h.run; rwa [if_neg Bool.false_ne_true] at this

section
variable {X : Cx} {ρ : Rho} {μ : Mu} {Φ : D → Mu → Prop} {F : Fx} {a b c : Expr} {pos : Pos}
theorem ws_if {c : Expr} {a b : List Stmt} {pos : Pos} (k : WT X c ρ μ fun t μ1 => It t (WB X a ρ μ1 F) (WB X b ρ μ1 F)) : WS X (.If c a b pos) ρ μ F := ⟨fun σ G H E m r q =>
  toWS (ps_if pt_W pss_W pss_W) (k.run σ G H _ m r fun t G1 H1 μ1 s1 m1 k1 => by
    cases t with
    | true => exact k1.tt.run σ G1 H1 E m1 (r.same s1) (q.same s1)
    | false => exact k1.ff.run σ G1 H1 E m1 (r.same s1) (q.same s1))⟩
theorem two_W {r : R2} {σ : L2.St} {G H : Hp} {Q : VK} (m : SM X.K G H μ) (rs : RS X.K G σ ρ) (q : DK X.K G Φ Q) (h : WE X a ρ μ fun x μ1 => WE X b ρ μ1 fun y μ2 => RD X.K r x y μ2 Φ) : tOp r (tW X a) (tW X b) σ H Q :=
  h.run σ G H _ m rs fun x vx G1 H1 μ1 s1 m1 rx k1 => k1.run σ G1 H1 _ m1 (rs.same s1) fun y vy G2 H2 μ2 s2 m2 ry k2 => k2.run G2 H2 vx vy Q m2 (rx.same s2) ry (q.same (s1.trans s2))
theorem we_bin {op : Operator} {r : R2} (ho : OpR X (binaryOp op) r) (h : WE X a ρ μ fun x μ1 => WE X b ρ μ1 fun y μ2 => RD X.K r x y μ2 Φ) : WE X (.BinOp a op b pos) ρ μ Φ := ⟨fun σ G H Q m rs q => toW (pe_op ho pe_W pe_W) (two_W m rs q h)⟩
theorem we_cmp {op : CmpOp} {r : R2} (ho : OpR X (compareOp op) r) (h : WE X a ρ μ fun x μ1 => WE X b ρ μ1 fun y μ2 => RD X.K r x y μ2 Φ) (hm : behindInMarks op b = false := by first | exact nomark _ | rfl) : WE X (.Compare a [op] [b] pos) ρ μ Φ := ⟨fun σ G H Q m rs q => toW (pe_cmpR ho pe_W pe_W hm) (two_W m rs q h)⟩
theorem bl_k {K : PySem.W.Frag} {G : Hp} {Φ : Bool → Mu → Prop} {Q : Bool → Hp → Prop} (q : ∀ (b : Bool) (G' H' : Hp) (μ' : Mu), Same G G' → SM K G' H' μ' → Φ b μ' → Q b H') : DK K G (Bl Φ) fun v H' => ∃ t, v = .bl t ∧ Q t H' := by
  rintro d v G1 H1 μ1 s1 m1 rd hb
  obtain ⟨t, rfl, k⟩ := hb.get
  cases rd
  exact ⟨t, rfl, q t G1 H1 μ1 s1 m1 k⟩
theorem wt_cmp {op : CmpOp} {r : R2} {Φ : Bool → Mu → Prop} (ho : OpR X (compareOp op) r) (h : WE X a ρ μ fun x μ1 => WE X b ρ μ1 fun y μ2 => RD X.K r x y μ2 (Bl Φ)) (hm : behindInMarks op b = false := by first | exact nomark _ | rfl) : WT X (.Compare a [op] [b] pos) ρ μ Φ := ⟨fun σ G H Q m rs q =>
  toWT (pt_cmpR ho pe_W pe_W hm) (two_W (Φ := Bl Φ) m rs (bl_k q) h)⟩
theorem wt_val {e : Expr} {Φ : Bool → Mu → Prop} (h : WE X e ρ μ (Bl Φ)) (he : ∀ whole, isTrue e X.env whole = (do let v ← whole; standAt e.pos; holding [v] (truthy v)) := by intro _; rfl) : WT X e ρ μ Φ := ⟨fun σ G H Q m rs q =>
  toWT (pt_val pe_W he) (h.run σ G H _ m rs (bl_k q))⟩
theorem we_un {op : UnaryOp} {r : V → Hp → VK → Prop} (ho : UnR X (unaryOp op) r) (h : WE X a ρ μ fun x μ1 => UD X.K r x μ1 Φ) : WE X (.UnaryOp op a pos) ρ μ Φ := ⟨fun σ G H Q m rs q =>
  toW (pe_un ho pe_W) (h.run σ G H _ m rs fun x vx G1 H1 μ1 s1 m1 rx k1 => k1.run G1 H1 vx Q m1 rx (q.same s1))⟩

/-! ### and, or, not, if -/
structure WW (X : Cx) (e : Expr) (ρ : Rho) (μ : Mu) (Φ : Bool → Mu → Prop) : Prop where
  run : ∀ (whole : Sem Value) (σ : L2.St) (G H : Hp) (Q : Bool → Hp → Prop) (pins : List (Addr × Obj)) (s : Shared), SM X.K G H μ → RS X.K G σ ρ → (∀ (b : Bool) (G' H' : Hp) (μ' : Mu), Same G G' → SM X.K G' H' μ' → Φ b μ' → Q b H') → Inv X pins σ H s → wpAny (model X.prog X.w) X.A (isTrue e X.env whole) (TP X pins σ Q) X.xe s
theorem wt_ww {e : Expr} {Φ : Bool → Mu → Prop} (h : WW X e ρ μ Φ) : WT X e ρ μ Φ := ⟨fun σ G H Q m rs q pins s I => h.run _ σ G H Q pins s m rs q I⟩
theorem ww_and1 {Φ : Bool → Mu → Prop} (h : WT X a ρ μ Φ) : WW X (.BoolOp .And [a] pos) ρ μ Φ := ⟨fun wh σ G H Q pins s m rs q I => (pw_and1 pt_W).run wh pins s σ H Q I (h.run σ G H Q m rs q)⟩
theorem ww_or1 {Φ : Bool → Mu → Prop} (h : WT X a ρ μ Φ) : WW X (.BoolOp .Or [a] pos) ρ μ Φ := ⟨fun wh σ G H Q pins s m rs q I => (pw_or1 pt_W).run wh pins s σ H Q I (h.run σ G H Q m rs q)⟩
def tWW (X : Cx) (e : Expr) : TT := fun σ H Q => ∀ (whole : Sem Value) (pins : List (Addr × Obj)) (s : Shared), Inv X pins σ H s → wpAny (model X.prog X.w) X.A (isTrue e X.env whole) (TP X pins σ Q) X.xe s
theorem pw_W {e : Expr} : PW X e (tWW X e) := ⟨fun wh pins s σ H Q I h => h wh pins s I⟩
theorem ww_and {rest : List Expr} {Φ : Bool → Mu → Prop} (h : WT X a ρ μ fun t μ1 => It t (WW X (.BoolOp .And (b :: rest) pos) ρ μ1 Φ) (Φ false μ1)) : WW X (.BoolOp .And (a :: b :: rest) pos) ρ μ Φ := ⟨fun wh σ G H Q pins s m rs q I =>
  (pw_and pt_W pw_W).run wh pins s σ H Q I (h.run σ G H _ m rs fun t G1 H1 μ1 s1 m1 k1 => by
    cases t with
    | true => exact fun wh2 pins2 s2 I2 => k1.tt.run wh2 σ G1 H1 Q pins2 s2 m1 (rs.same s1) (fun b G' H' μ' s2 => q b G' H' μ' (s1.trans s2)) I2
    | false => exact q false G1 H1 μ1 s1 m1 k1.ff)⟩
theorem ww_or {rest : List Expr} {Φ : Bool → Mu → Prop} (h : WT X a ρ μ fun t μ1 => It t (Φ true μ1) (WW X (.BoolOp .Or (b :: rest) pos) ρ μ1 Φ)) : WW X (.BoolOp .Or (a :: b :: rest) pos) ρ μ Φ := ⟨fun wh σ G H Q pins s m rs q I =>
  (pw_or pt_W pw_W).run wh pins s σ H Q I (h.run σ G H _ m rs fun t G1 H1 μ1 s1 m1 k1 => by
    cases t with
    | false => exact fun wh2 pins2 s2 I2 => k1.ff.run wh2 σ G1 H1 Q pins2 s2 m1 (rs.same s1) (fun b G' H' μ' s2 => q b G' H' μ' (s1.trans s2)) I2
    | true => exact q true G1 H1 μ1 s1 m1 k1.tt)⟩
theorem wt_not {Φ : Bool → Mu → Prop} (h : WT X a ρ μ fun t μ1 => Φ (!t) μ1) : WT X (.UnaryOp .Not a pos) ρ μ Φ := ⟨fun σ G H Q m rs q => toWT (pt_not pt_W) (h.run σ G H _ m rs fun t => q (!t))⟩
theorem we_one {op : BoolOp} (h : WE X a ρ μ Φ) : WE X (.BoolOp op [a] pos) ρ μ Φ := ⟨fun σ G H Q m rs q => toW (pe_one pe_W) (h.run σ G H Q m rs q)⟩
theorem we_and {rest : List Expr} (h : WE X a ρ μ (Bl fun t μ1 => It t (WE X (.BoolOp .And (b :: rest) pos) ρ μ1 Φ) (Φ (.bl false) μ1))) : WE X (.BoolOp .And (a :: b :: rest) pos) ρ μ Φ := ⟨fun σ G H Q m rs q =>
  toW (pe_and pe_W pe_W) (h.run σ G H _ m rs fun d v G1 H1 μ1 s1 m1 rd hb => by
    obtain ⟨t, rfl, k1⟩ := hb.get
    cases rd
    refine ⟨t, rfl, ?_⟩
    cases t with
    | true => exact k1.tt.run σ G1 H1 Q m1 (rs.same s1) (q.same s1)
    | false => exact q _ _ G1 H1 μ1 s1 m1 (.bl false) k1.ff)⟩
theorem we_or {rest : List Expr} (h : WE X a ρ μ (Bl fun t μ1 => It t (Φ (.bl true) μ1) (WE X (.BoolOp .Or (b :: rest) pos) ρ μ1 Φ))) : WE X (.BoolOp .Or (a :: b :: rest) pos) ρ μ Φ := ⟨fun σ G H Q m rs q =>
  toW (pe_or pe_W pe_W) (h.run σ G H _ m rs fun d v G1 H1 μ1 s1 m1 rd hb => by
    obtain ⟨t, rfl, k1⟩ := hb.get
    cases rd
    refine ⟨t, rfl, ?_⟩
    cases t with
    | false => exact k1.ff.run σ G1 H1 Q m1 (rs.same s1) (q.same s1)
    | true => exact q _ _ G1 H1 μ1 s1 m1 (.bl true) k1.tt)⟩
theorem we_not (h : WE X a ρ μ (Bl fun t μ1 => Φ (.bl (!t)) μ1)) : WE X (.UnaryOp .Not a pos) ρ μ Φ := ⟨fun σ G H Q m rs q =>
  toW (pe_not pe_W) (h.run σ G H _ m rs fun d v G1 H1 μ1 s1 m1 rd hb => by obtain ⟨t, rfl, k1⟩ := hb.get; cases rd; exact ⟨t, rfl, q _ _ G1 H1 μ1 s1 m1 (.bl _) k1⟩)⟩
theorem we_ifx (h : WT X c ρ μ fun t μ1 => It t (WE X a ρ μ1 Φ) (WE X b ρ μ1 Φ)) : WE X (.IfExp c a b pos) ρ μ Φ := ⟨fun σ G H Q m rs q =>
  toW (pe_ifExp pt_W pe_W pe_W) (h.run σ G H _ m rs fun t G1 H1 μ1 s1 m1 k1 => by
    cases t with
    | true => exact k1.tt.run σ G1 H1 Q m1 (rs.same s1) (q.same s1)
    | false => exact k1.ff.run σ G1 H1 Q m1 (rs.same s1) (q.same s1))⟩
/-- a <= b <= c -/
theorem we_chain {op op' : CmpOp} {r r' : R2} (ho : OpR X (compareOp op) r) (ho' : OpR X (compareOp op') r')
    (h : WE X a ρ μ fun x μ1 => WE X b ρ μ1 fun y μ2 => RD X.K r x y μ2 (Bl fun t μ3 => It t (WE X c ρ μ3 fun z μ4 => RD X.K r' y z μ4 Φ) (Φ (.bl false) μ3))) (hm : lastMarks [op, op'] [b, c] = false := by with_unfolding_all rfl) : WE X (.Compare a [op, op'] [b, c] pos) ρ μ Φ := ⟨fun σ G H Q m rs q =>
  toW (pe_chain ho ho' pe_W pe_W pe_W hm) (h.run σ G H _ m rs fun x vx G1 H1 μ1 s1 m1 rx k1 => k1.run σ G1 H1 _ m1 (rs.same s1) fun y vy G2 H2 μ2 s2 m2 ry k2 => k2.run G2 H2 vx vy _ m2 (rx.same s2) ry fun d v G3 H3 μ3 s3 m3 rd hb => by
    obtain ⟨t, rfl, k3⟩ := hb.get
    cases rd
    refine ⟨t, rfl, ?_⟩
    cases t with
    | true =>
      rw [if_pos rfl]
      exact k3.tt.run σ G3 H3 _ m3 (rs.same ((s1.trans s2).trans s3)) fun z vz G4 H4 μ4 s4 m4 rz k4 => k4.run G4 H4 vy vz Q m4 (ry.same (s3.trans s4)) rz (q.same (((s1.trans s2).trans s3).trans s4))
    | false =>
      rw [if_neg Bool.false_ne_true]
      exact q _ _ G3 H3 μ3 ((s1.trans s2).trans s3) m3 (.bl false) k3.ff)⟩
theorem wt_chain {op op' : CmpOp} {r r' : R2} {Φ : Bool → Mu → Prop} (ho : OpR X (compareOp op) r) (ho' : OpR X (compareOp op') r')
    (h : WE X a ρ μ fun x μ1 => WE X b ρ μ1 fun y μ2 => RD X.K r x y μ2 (Bl fun t μ3 => It t (WE X c ρ μ3 fun z μ4 => RD X.K r' y z μ4 (Bl Φ)) (Φ false μ3))) (hm : lastMarks [op, op'] [b, c] = false := by with_unfolding_all rfl) : WT X (.Compare a [op, op'] [b, c] pos) ρ μ Φ := ⟨fun σ G H Q m rs q =>
  toWT (pt_chain ho ho' pe_W pe_W pe_W hm) (h.run σ G H _ m rs fun x vx G1 H1 μ1 s1 m1 rx k1 => k1.run σ G1 H1 _ m1 (rs.same s1) fun y vy G2 H2 μ2 s2 m2 ry k2 => k2.run G2 H2 vx vy _ m2 (rx.same s2) ry fun d v G3 H3 μ3 s3 m3 rd hb => by
    obtain ⟨t, rfl, k3⟩ := hb.get
    cases rd
    refine ⟨t, rfl, ?_⟩
    cases t with
    | true =>
      rw [if_pos rfl]
      exact k3.tt.run σ G3 H3 _ m3 (rs.same ((s1.trans s2).trans s3)) fun z vz G4 H4 μ4 s4 m4 rz k4 => k4.run G4 H4 vy vz _ m4 (ry.same (s3.trans s4)) rz (bl_k fun b G' H' μ' s5 => q b G' H' μ' ((((s1.trans s2).trans s3).trans s4).trans s5))
    | false =>
      rw [if_neg Bool.false_ne_true]
      exact ⟨false, rfl, q _ G3 H3 μ3 ((s1.trans s2).trans s3) m3 k3.ff⟩)⟩
end

/-! ### operations on ints, comparisons of plain things -/
section
variable {K : PySem.W.Frag} {μ : Mu} {Φ : D → Mu → Prop}
theorem rd_I0 {g : Int → Int → V} {i j : Int} {d : D} (hd : ∀ G, Rep K G (g i j) d) (k : Φ d μ) : RD K (rI0 g) (.int i) (.int j) μ Φ := ⟨fun G H vx vy Q m rx ry q => by
  cases rx; cases ry
  exact ⟨i, j, rfl, rfl, q d _ G H μ (Same.refl G) m (hd G) k⟩⟩
theorem rd_I {C : Int → Int → Prop} {g : Int → Int → V} {i j : Int} {d : D} (hd : ∀ G, Rep K G (g i j) d) (hc : C i j) (k : Φ d μ) : RD K (rI C g) (.int i) (.int j) μ Φ := ⟨fun G H vx vy Q m rx ry q => by
  cases rx; cases ry
  exact ⟨i, j, rfl, rfl, hc, q d _ G H μ (Same.refl G) m (hd G) k⟩⟩
/-- a plain thing and its value -/
inductive Pl : D → V → Prop where
  | non : Pl .non .non
  | bl (b : Bool) : Pl (.bl b) (.bl b)
  | int (i : Int) : Pl (.int i) (.int i)
  | str (x : Str) : Pl (.str x) (.str x)
theorem Pl.rep {G : Hp} {d : D} {v u : V} (p : Pl d v) (r : Rep K G u d) : u = v := by
  cases p <;> cases r <;> rfl
theorem rd_eq {x y : D} {vx vy : V} (px : Pl x vx) (py : Pl y vy) (hs : scal vx vy = true) (k : Φ (.bl (decide (vx = vy))) μ) : RD K rEq x y μ Φ := ⟨fun G H ux uy Q m rx ry q => by
  cases px.rep rx; cases py.rep ry
  exact ⟨hs, q _ _ G H μ (Same.refl G) m (.bl _) k⟩⟩
theorem rd_ne {x y : D} {vx vy : V} (px : Pl x vx) (py : Pl y vy) (hs : scal vx vy = true) (k : Φ (.bl (!decide (vx = vy))) μ) : RD K rNe x y μ Φ := ⟨fun G H ux uy Q m rx ry q => by
  cases px.rep rx; cases py.rep ry
  exact ⟨hs, q _ _ G H μ (Same.refl G) m (.bl _) k⟩⟩
abbrev rIsN : R2 := fun x y H Q => y = .non ∧ Q (.bl (decide (x = .non))) H
abbrev rNotN : R2 := fun x y H Q => y = .non ∧ Q (.bl (!decide (x = .non))) H
def isNonD : D → Bool | .non => true | _ => false
theorem rep_non {G : Hp} {v : V} {d : D} (r : Rep K G v d) : decide (v = .non) = isNonD d := by
  cases r <;> simp [isNonD]
theorem rd_isN {x : D} (k : Φ (.bl (isNonD x)) μ) : RD K rIsN x .non μ Φ := ⟨fun G H ux uy Q m rx ry q => by
  cases ry
  exact ⟨rfl, q _ _ G H μ (Same.refl G) m (by rw [rep_non rx]; exact .bl _) k⟩⟩
theorem rd_notN {x : D} (k : Φ (.bl (!isNonD x)) μ) : RD K rNotN x .non μ Φ := ⟨fun G H ux uy Q m rx ry q => by
  cases ry
  exact ⟨rfl, q _ _ G H μ (Same.refl G) m (by rw [rep_non rx]; exact .bl _) k⟩⟩
end

/-! ### displays -/
section
variable {X : Cx} {ρ : Rho} {μ : Mu} {Φ : D → Mu → Prop} {F : Fx} {a b c : Expr} {pos : Pos} {es : List Expr}
theorem sz1000 {n : Nat} (h : n ≤ 1000) : n ≤ sizeLine := Nat.le_of_lt (small1000 h)
theorem we_tup {x1 : Nat} (h : WA X es ρ μ fun ds μ1 => ds.length ≤ 1000 ∧ Φ (.tup ds) μ1) : WE X (.Tuple es x1 pos) ρ μ Φ := ⟨fun σ G H Q m rs q =>
  toW (pe_tup pa_W) (h.run σ G H _ m rs fun ds vs G1 H1 μ1 s1 m1 r1 ⟨l, k1⟩ => ⟨sz1000 (by rw [r1.length]; exact l), fun p hp =>
    have w := grow_new (o := .tup vs) m1.same hp
    q _ _ _ _ μ1 (s1.trans w.g) (m1.grow w) (.tup (.inl (.inl upd_same)) (r1.same w.g)) k1⟩)⟩
/-- a list that no one writes -/
theorem we_lst (h : WA X es ρ μ fun ds μ1 => ds.length ≤ 1000 ∧ Φ (.lst ds) μ1) : WE X (.List es pos) ρ μ Φ := ⟨fun σ G H Q m rs q =>
  toW (pe_lst pa_W) (h.run σ G H _ m rs fun ds vs G1 H1 μ1 s1 m1 r1 ⟨l, k1⟩ => ⟨sz1000 (by rw [r1.length]; exact l), fun p hp =>
    have w := grow_new (o := .lst vs) m1.same hp
    q _ _ _ _ μ1 (s1.trans w.g) (m1.grow w) (.lst upd_same (r1.same w.g)) k1⟩)⟩
/-- a list that will be written -/
theorem we_lstM (h : WA X es ρ μ fun ds μ1 => ds.length ≤ 1000 ∧ ∀ p, Φ (.ref p) ((p, .lst ds) :: μ1)) : WE X (.List es pos) ρ μ Φ := ⟨fun σ G H Q m rs q =>
  toW (pe_lst pa_W) (h.run σ G H _ m rs fun ds vs G1 H1 μ1 s1 m1 r1 ⟨l, k1⟩ => ⟨sz1000 (by rw [r1.length]; exact l), fun p hp =>
    have w := grow_mut (o := .lst vs) m1.same hp
    q _ _ _ _ _ s1 (m1.cons (c := .lst ds) hp w ⟨m1.same.free hp, vs, upd_same, r1⟩) (.ref p) (k1 p)⟩)⟩
theorem we_dictM (h : ∀ p, Φ (.ref p) ((p, .dct [] []) :: μ)) : WE X (.Dict [] [] pos) ρ μ Φ := ⟨fun σ G H Q m rs q =>
  toW pe_dnewK fun p hp =>
    have w := grow_mut (o := .dK []) m.same hp
    q _ _ _ _ _ (Same.refl G) (m.cons (c := .dct [] []) hp w ⟨m.same.free hp, [], upd_same, rfl, .nil⟩) (.ref p) (h p)⟩

/-! ### subscripts, slices -/
theorem we_ix {r : R2} (hr : IxR X r) (h : WE X a ρ μ fun x μ1 => WE X b ρ μ1 fun y μ2 => RD X.K r x y μ2 Φ) (hs : PlainIx b := by exact fun _ _ => rfl) : WE X (.Subscript a b pos) ρ μ Φ := ⟨fun σ G H Q m rs q => toW (pe_ix hr pe_W pe_W hs) (two_W m rs q h)⟩
end
section
variable {K : PySem.W.Frag} {μ : Mu} {Φ : D → Mu → Prop}
theorem Reps.atI {G : Hp} {vs : List V} {ds : List D} {i : Int} {d : D} (r : Reps K G vs ds) (h : L2.atI ds i = some d) : ∃ v, L2.atI vs i = some v ∧ Rep K G v d := by
  unfold L2.atI at h ⊢
  rw [r.length]
  cases e : ixN ds.length i with
  | none => rw [e] at h; cases h
  | some j => rw [e] at h; exact r.get h
theorem rd_ixT {ds : List D} {i : Int} {d : D} (h : L2.atI ds i = some d) (k : Φ d μ) : RD K (rIx K) (.tup ds) (.int i) μ Φ := ⟨fun G H vx vy Q m rx ry q => by
  cases ry
  cases rx with
  | @tup a xs _ hs rs =>
    obtain ⟨v, h1, h2⟩ := rs.atI h
    exact .inr (.inl ⟨a, xs, i, v, rfl, rfl, sqt_same m.same hs, h1, q d v G H μ (Same.refl G) m h2 k⟩)⟩
theorem rd_ixL {ds : List D} {i : Int} {d : D} (h : L2.atI ds i = some d) (k : Φ d μ) : RD K (rIx K) (.lst ds) (.int i) μ Φ := ⟨fun G H vx vy Q m rx ry q => by
  cases ry
  cases rx with
  | @lst a xs _ hs rs =>
    obtain ⟨v, h1, h2⟩ := rs.atI h
    exact .inl ⟨a, xs, i, v, rfl, rfl, SqL.of (m.same _ _ hs), h1, q d v G H μ (Same.refl G) m h2 k⟩⟩
/-- of a list that may be written, at place j -/
theorem rd_ixM {p : Addr} {ds : List D} {i : Int} {d : D} {μ' : Mu} (hj : Pick μ p (.lst ds) μ') (h : L2.atI ds i = some d) (k : Φ d μ) : RD K (rIx K) (.ref p) (.int i) μ Φ := ⟨fun G H vx vy Q m rx ry q => by
  cases ry
  cases rx
  obtain ⟨_, xs, hx, rs⟩ := m.cell _ hj.mem
  obtain ⟨v, h1, h2⟩ := rs.atI h
  exact .inl ⟨p, xs, i, v, rfl, rfl, SqL.of hx, h1, q d v G H μ (Same.refl G) m h2 k⟩⟩
theorem rd_ixS {z : Str} {i : Int} {c : Nat} (hz : z.length ≤ 1000) (h : L2.atI z.cps.toList i = some c) (k : Φ (.str ⟨#[c]⟩) μ) : RD K (rIx K) (.str z) (.int i) μ Φ := ⟨fun G H vx vy Q m rx ry q => by
  cases ry
  cases rx
  exact .inr (.inr ⟨z, i, c, rfl, rfl, sz1000 hz, h, q _ _ G H μ (Same.refl G) m (.str _) k⟩)⟩
end
end DL
namespace DL
open PySem PySem.Spec PyProof.Rows L2
def rInS : R2 := fun x y H Q => ∃ (c : Nat) (z : Str), x = .str ⟨#[c]⟩ ∧ y = .str z ∧ Q (.bl (decide (c ∈ z.cps.toList))) H
def tyD : D → Option Bt
  | .non => some .non | .bl _ => some .bool | .int _ => some .int | .str _ => some .str | .tup _ => some .tuple | .lst _ => some .list | .dct _ _ => some .dict | .dcT _ _ => some .dict | _ => none
def isB : Bt → Bt → Bool
  | .non, .non => true | .bool, .bool => true | .bool, .int => true | .int, .int => true | .str, .str => true | .tuple, .tuple => true | .list, .list => true | .dict, .dict => true | _, _ => false
theorem isB_kit {K : PySem.W.Frag} (a b : Bt) (h : b ≠ .non) : PySem.W.kitOne K (.type a.name) (.type b.name) = some (isB a b) := by
  refine kit_ty ?_
  cases b with
  | non => exact absurd rfl h
  | _ => cases a <;> decide +kernel
/-- isinstance of a built-in type -/
def IsiD (d c : D) (b : Bool) : Prop := ∃ A B, tyD d = some A ∧ c = .ty B ∧ B ≠ .non ∧ b = isB A B
theorem isi_i {d : D} {A B : Bt} (h : tyD d = some A) (hb : B ≠ .non) : IsiD d (.ty B) (isB A B) := ⟨A, B, h, rfl, hb, rfl⟩
section
variable {K : PySem.W.Frag} {μ : Mu} {Φ : D → Mu → Prop}
theorem rd_inS {c : Nat} {z : Str} (k : Φ (.bl (decide (c ∈ z.cps.toList))) μ) : RD K rInS (.str ⟨#[c]⟩) (.str z) μ Φ := ⟨fun G H vx vy Q m rx ry q => by
  cases rx; cases ry
  exact ⟨c, z, rfl, rfl, q _ _ G H μ (Same.refl G) m (.bl _) k⟩⟩
theorem sqt_ty {G : Hp} {H : Hp} {a : Addr} {xs : List V} (s : Same G H) (h : SqT K G a xs) : TyX K H (.ref a) (.type "tuple") := by
  rcases h with (h | ⟨o, h⟩) | ⟨o, its, n, h, c, _⟩
  · exact .base (.tup (s _ _ h))
  · exact .fTuple (s _ _ h)
  · exact .kTuple h c
theorem sql_ty {G : Hp} {H : Hp} {a : Addr} {xs : List V} (s : Same G H) (h : SqL K G a xs) : TyX K H (.ref a) (.type "list") := by
  rcases h with (h | ⟨o, h⟩) | ⟨o, its, n, h, c, _⟩
  · exact .base (.lst (s _ _ h))
  · exact .base (.frz (s _ _ h))
  · exact .kList h c
theorem ty_rep {G H : Hp} {v : V} {d : D} {T : Bt} (s : Same G H) (r : Rep K G v d) (h : tyD d = some T) : TyX K H v (.type T.name) := by
  cases r with
  | non => cases h; exact .base .non
  | bl b => cases h; exact .base (.bl b)
  | int i => cases h; exact .base (.int i)
  | str x => cases h; exact .base (.str x)
  | tup h1 _ => cases h; exact sqt_ty s h1
  | lst h1 _ => cases h; exact sql_ty s (SqL.of h1)
  | dct h1 _ _ _ => cases h; exact .fDict (s _ _ h1)
  | dcT h1 _ _ _ => cases h; exact .base (.dT (s _ _ h1))
  | ty n => cases h
  | ref a => cases h
  | ins _ _ _ => cases h
/-- an instance of C: frozen, or one that may be written -/
def Recv (μ : Mu) (d : D) (C : Addr) : Prop := (∃ ds, d = .ins C ds) ∨ ∃ (a : Addr) (fs : List (Option D)) (μ' : Mu), d = .ref a ∧ Pick μ a (.ins C fs) μ'
theorem recv_slt {G H : Hp} {v : V} {d : D} {C : Addr} (m : SM K G H μ) (r : Rep K G v d) (h : Recv μ d C) : ∃ (a dx : Addr) (vs : List (Option V)), v = .ref a ∧ SlX.Slt H a C dx vs := by
  rcases h with ⟨ds, rfl⟩ | ⟨a, fs, μ', rfl, hj⟩
  · cases r with
    | @ins a _ dx vs xs _ hs _ _ => exact ⟨a, dx, vs, rfl, slt_same m.same hs⟩
  · cases r
    obtain ⟨_, dx, vs, _, _, hs, _⟩ := m.cell _ hj.mem
    exact ⟨a, dx, vs, rfl, hs⟩
end
/-- a list of these, frozen or not; .. or a tuple -/
def LsD (μ : Mu) (d : D) (ds : List D) : Prop := d = .lst ds ∨ ∃ (a : Addr) (μ' : Mu), d = .ref a ∧ Pick μ a (M.lst ds) μ'
def SqD (μ : Mu) (d : D) (ds : List D) : Prop := LsD μ d ds ∨ d = .tup ds
theorem lsd_at {K : PySem.W.Frag} {μ : Mu} {G H : Hp} {v : V} {d : D} {ds : List D} (m : SM K G H μ) (r : Rep K G v d) (h : LsD μ d ds) : ∃ (a : Addr) (ys : List V), v = .ref a ∧ H a = some (.lst ys) ∧ Reps K G ys ds := by
  rcases h with rfl | ⟨a, μ', rfl, hj⟩
  · cases r with
    | @lst a ys _ h1 rs => exact ⟨a, ys, rfl, m.same _ _ h1, rs⟩
  · cases r
    obtain ⟨_, ys, hx, rs⟩ := m.cell _ hj.mem
    exact ⟨a, ys, rfl, hx, rs⟩
theorem lsd_sq {K : PySem.W.Frag} {μ : Mu} {G H : Hp} {v : V} {d : D} {ds : List D} (m : SM K G H μ) (r : Rep K G v d) (h : LsD μ d ds) : ∃ (a : Addr) (ys : List V), v = .ref a ∧ SqL K H a ys ∧ Reps K G ys ds := by
  rcases h with rfl | ⟨a, μ', rfl, hj⟩
  · cases r with
    | @lst a ys _ h1 rs => exact ⟨a, ys, rfl, SqL.of (m.same _ _ h1), rs⟩
  · cases r
    obtain ⟨_, ys, hx, rs⟩ := m.cell _ hj.mem
    exact ⟨a, ys, rfl, SqL.of hx, rs⟩
theorem sqd_sq {K : PySem.W.Frag} {μ : Mu} {G H : Hp} {v : V} {d : D} {ds : List D} (m : SM K G H μ) (r : Rep K G v d) (h : SqD μ d ds) : ∃ (a : Addr) (ys : List V), v = .ref a ∧ (SqL K H a ys ∨ SqT K H a ys) ∧ Reps K G ys ds := by
  rcases h with h | rfl
  · obtain ⟨a, ys, e, h1, rs⟩ := lsd_sq m r h
    exact ⟨a, ys, e, .inl h1, rs⟩
  · cases r with
    | @tup a ys _ h1 rs => exact ⟨a, ys, rfl, .inr (sqt_same m.same h1), rs⟩
/-- a class whose instances have slots -/
structure Kl (K : PySem.W.Frag) (C : Addr) : Prop where
  c : SlX.SCls K C
  i : SlX.SIsi K C
  self : PySem.W.kitOne K (.ref C) (.ref C) = some true
/-- a name of the module and its value -/
def Gc (K : PySem.W.Frag) (mg : Str → Option Value) (x : Str) (d : D) : Prop := ∃ u v, mg x = some u ∧ RelV v u ∧ ∀ G, Rep K G v d
/-- the built-in names that the module does not bind -/
structure Bn (mg : Str → Option Value) : Prop where
  isinstance : mg "isinstance" = none
  len : mg "len" = none
  all : mg "all" = none
  tuple : mg "tuple" = none
  list : mg "list" = none
  int : mg "int" = none
  str : mg "str" = none
  bool : mg "bool" = none
  dict : mg "dict" = none
  range : mg "range" = none
  enumerate : mg "enumerate" = none
  zip : mg "zip" = none
theorem bv_tuple : bootBuiltins "tuple" = some (.type (Bt.name .tuple)) := by decide +kernel
theorem bv_list : bootBuiltins "list" = some (.type (Bt.name .list)) := by decide +kernel
theorem bv_int : bootBuiltins "int" = some (.type (Bt.name .int)) := by decide +kernel
theorem bv_str : bootBuiltins "str" = some (.type (Bt.name .str)) := by decide +kernel
theorem bv_bool : bootBuiltins "bool" = some (.type (Bt.name .bool)) := by decide +kernel
theorem bv_dict : bootBuiltins "dict" = some (.type (Bt.name .dict)) := by decide +kernel
theorem bv_len : bootBuiltins "len" = some (.builtin "len") := by decide +kernel
theorem bv_all : bootBuiltins "all" = some (.builtin "all") := by decide +kernel
theorem bv_isinstance : bootBuiltins "isinstance" = some (.builtin "isinstance") := by decide +kernel
section
variable {X : Cx} {ρ : Rho} {μ : Mu} {Φ : D → Mu → Prop} {p pos p2 : Pos} {e e2 : Expr}
theorem wa_one {Φ : D → Mu → Prop} (h : WE X e ρ μ Φ) (he : starEach [e] X.env = (false, eval e X.env) :: starEach [] X.env := by rfl) : WA X [e] ρ μ fun ds μ1 => ∃ d, ds = [d] ∧ Φ d μ1 :=
  wa_cons ⟨fun σ G H Q m r q => h.run σ G H Q m r fun d v G' H' μ' s1 m1 rd k => q d v G' H' μ' s1 m1 rd (wa_nil ⟨d, rfl, k⟩)⟩ he
theorem wa_two {Φ : D → D → Mu → Prop} (h : WE X e ρ μ fun d μ1 => WE X e2 ρ μ1 fun d2 μ2 => Φ d d2 μ2) (he : starEach [e, e2] X.env = (false, eval e X.env) :: starEach [e2] X.env := by rfl) (he2 : starEach [e2] X.env = (false, eval e2 X.env) :: starEach [] X.env := by rfl) :
    WA X [e, e2] ρ μ fun ds μ1 => ∃ d d2, ds = [d, d2] ∧ Φ d d2 μ1 :=
  wa_cons ⟨fun σ G H Q m r q => h.run σ G H Q m r fun d v G' H' μ' s1 m1 rd k => q d v G' H' μ' s1 m1 rd (wa_cons ⟨fun σ G H Q m r q => k.run σ G H Q m r fun d2 v2 G2 H2 μ2 s2 m2 rd2 k2 => q d2 v2 G2 H2 μ2 s2 m2 rd2 (wa_nil ⟨d, d2, rfl, k2⟩)⟩ he2)⟩ he
theorem we_t1 (T : Bn X.mg) (k : Φ (.ty .int) μ) (hg : Gl X "int" := by rfl) : WE X (.Name "int" p) ρ μ Φ := we_bty T.int bv_int k hg
theorem we_t2 (T : Bn X.mg) (k : Φ (.ty .str) μ) (hg : Gl X "str" := by rfl) : WE X (.Name "str" p) ρ μ Φ := we_bty T.str bv_str k hg
theorem we_t3 (T : Bn X.mg) (k : Φ (.ty .tuple) μ) (hg : Gl X "tuple" := by rfl) : WE X (.Name "tuple" p) ρ μ Φ := we_bty T.tuple bv_tuple k hg
theorem we_t4 (T : Bn X.mg) (k : Φ (.ty .list) μ) (hg : Gl X "list" := by rfl) : WE X (.Name "list" p) ρ μ Φ := we_bty T.list bv_list k hg
theorem we_t5 (T : Bn X.mg) (k : Φ (.ty .bool) μ) (hg : Gl X "bool" := by rfl) : WE X (.Name "bool" p) ρ μ Φ := we_bty T.bool bv_bool k hg
theorem we_t6 (T : Bn X.mg) (k : Φ (.ty .dict) μ) (hg : Gl X "dict" := by rfl) : WE X (.Name "dict" p) ρ μ Φ := we_bty T.dict bv_dict k hg
/-- isinstance(x, T) of a built-in type -/
theorem we_isi (T : Bn X.mg) (h : WE X e ρ μ fun d μ1 => WE X e2 ρ μ1 fun c μ2 => ∃ b, IsiD d c b ∧ Φ (.bl b) μ2)
    (hg : Gl X "isinstance" := by rfl) (he : starEach [e, e2] X.env = (false, eval e X.env) :: starEach [e2] X.env := by rfl) (he2 : starEach [e2] X.env = (false, eval e2 X.env) :: starEach [] X.env := by rfl) (hpl : (backTo pos (starEach [e2] X.env)).any (·.1) = false := by rfl) :
    WE X (.Call (.Name "isinstance" p) [e, e2] [] pos) ρ μ Φ :=
  we_B call_isi hg T.isinstance bv_isinstance (by decide) (by decide) (wa_two h he he2) (fun ds vs G H μ1 Q m r ⟨d, c, ed, b, ⟨A, B, ht, ec, hB, eb⟩, k⟩ q => by
    subst ed ec eb
    cases r with
    | cons r1 r2 =>
      obtain ⟨v2, e, r3⟩ := r2.oneV
      subst e
      cases r3
      exact ⟨_, .ty B.name, .type A.name, .type B.name, _, rfl, .ty B.name, ty_rep m.same r1 ht, isB_kit A B hB, q _ _ G H μ1 (Same.refl G) m (.bl _) k⟩) he hpl
/-- isinstance(x, C) of an own class, x an instance of it -/
theorem we_isiC (T : Bn X.mg) (h : WE X e ρ μ fun d μ1 => WE X e2 ρ μ1 fun c μ2 => ∃ C, c = .ref C ∧ Recv μ2 d C ∧ Kl X.K C ∧ Φ (.bl true) μ2)
    (hg : Gl X "isinstance" := by rfl) (he : starEach [e, e2] X.env = (false, eval e X.env) :: starEach [e2] X.env := by rfl) (he2 : starEach [e2] X.env = (false, eval e2 X.env) :: starEach [] X.env := by rfl) (hpl : (backTo pos (starEach [e2] X.env)).any (·.1) = false := by rfl) :
    WE X (.Call (.Name "isinstance" p) [e, e2] [] pos) ρ μ Φ := by
  refine ⟨fun σ G H Q m rs q => ?_⟩
  refine toW (pe_W (X := X)) ?_
  intro pins s I
  have h2 := (wa_two h he he2).run σ G H (fun vs H' => ∃ (d : D) (C : Addr) (v : V) (G' : Hp) (μ' : Mu), vs = [v, .ref C] ∧ Same G G' ∧ SM X.K G' H' μ' ∧ Rep X.K G' v d ∧ Recv μ' d C ∧ Kl X.K C ∧ Φ (.bl true) μ') m rs (by
    rintro ds vs G' H' μ' s1 m1 r1 ⟨d, c, rfl, C, rfl, hr, hk, k⟩
    cases r1 with
    | cons r1 r2 =>
      obtain ⟨v2, e, r3⟩ := r2.oneV
      subst e
      cases r3
      exact ⟨d, C, _, G', μ', rfl, s1, m1, r1, hr, hk, k⟩)
  refine wpAny_Call_Name_kw (ld_blt I hg T.isinstance bv_isinstance ?_)
  refine PyProof.Rows.callWith_builtin1 (thn (h2 pos pins s I) fun us s1 ⟨vs, H1, I1, r1, d, C, v, G', μ', ev, sG, m1, rd, hr, hk, k⟩ => ?_) he hpl
  subst ev
  obtain ⟨a, dx, ws, ea, hs⟩ := recv_slt m1 rd hr
  subst ea
  exact SlX.call_isiSl (.ref C) pins s1 σ H1 _ us Q I1 r1 ⟨a, C, dx, ws, .ref C, true, rfl, rfl, fun w z => z, hs, hk.c, hk.i, hk.self, q _ _ G' H1 μ' sG m1 (.bl true) k⟩
/-- len of a text, of a tuple or list -/
def LenD (μ : Mu) (d : D) (n : Nat) : Prop := (∃ x, d = .str x ∧ x.length ≤ 1000 ∧ n = x.length) ∨ ∃ ds, SqD μ d ds ∧ n = ds.length
theorem we_len (T : Bn X.mg) (h : WE X e ρ μ fun d μ1 => ∃ n : Nat, LenD μ1 d n ∧ Φ (.int n) μ1) (hg : Gl X "len" := by rfl) (he : starEach [e] X.env = (false, eval e X.env) :: starEach [] X.env := by rfl) :
    WE X (.Call (.Name "len" p) [e] [] pos) ρ μ Φ :=
  we_B call_len hg T.len bv_len (by decide) (by decide) (wa_one h he)
    (fun ds vs G H μ1 Q m r ⟨d, ed, n, hl, k⟩ q => by
      subst ed
      obtain ⟨v, e, r1⟩ := r.oneV
      subst e
      refine ⟨v, n, rfl, ?_, q _ _ G H μ1 (Same.refl G) m (.int n) k⟩
      rcases hl with ⟨x, rfl, h1, h2⟩ | ⟨ds, h1, h2⟩
      · cases r1
        exact ⟨sz1000 h1, h2⟩
      · obtain ⟨a, ys, rfl, h3, rs⟩ := sqd_sq m r1 h1
        rw [h2, ← rs.length]
        rcases h3 with h3 | h3
        · exact .inl ⟨_, h3, rfl⟩
        · exact .inr ⟨_, h3, rfl⟩) he rfl
/-- int(x) -/
theorem we_intf (T : Bn X.mg) (h : WE X e ρ μ fun d μ1 => ∃ i, d = .int i ∧ Φ (.int i) μ1) (hg : Gl X "int" := by rfl) (he : starEach [e] X.env = (false, eval e X.env) :: starEach [] X.env := by rfl) :
    WE X (.Call (.Name "int" p) [e] [] pos) ρ μ Φ :=
  we_Ty call_int1 hg T.int bv_int (by decide) (by decide) (wa_one h he)
    (fun ds vs G H μ1 Q m r ⟨d, ed, i, ei, k⟩ q => by
      subst ed ei
      obtain ⟨v, e, r1⟩ := r.oneV
      subst e
      cases r1
      exact .inl ⟨i, rfl, q _ _ G H μ1 (Same.refl G) m (.int i) k⟩) he rfl
/-- tuple(a list) -/
theorem we_tupf (T : Bn X.mg) (h : WE X e ρ μ fun d μ1 => ∃ ds : List D, LsD μ1 d ds ∧ Φ (.tup ds) μ1) (hg : Gl X "tuple" := by rfl) (he : starEach [e] X.env = (false, eval e X.env) :: starEach [] X.env := by rfl) :
    WE X (.Call (.Name "tuple" p) [e] [] pos) ρ μ Φ :=
  we_Ty call_tuple_of hg T.tuple bv_tuple (by decide) (by decide) (wa_one h he)
    (fun ds vs G H μ1 Q m r ⟨d, ed, xs, ex, k⟩ q => by
      subst ed
      obtain ⟨v, e, r1⟩ := r.oneV
      subst e
      obtain ⟨a, ys, rfl, h1, rs⟩ := lsd_sq m r1 ex
      refine ⟨a, ys, rfl, .inl ⟨h1, fun l hl => ?_⟩⟩
      have w := grow_new (o := .tup ys) m.same hl
      exact q _ _ _ _ μ1 w.g (m.grow w) (.tup (.inl (.inl upd_same)) (rs.same w.g)) k) he rfl
/-- list(a tuple or list), not written -/
theorem we_lstf (T : Bn X.mg) (h : WE X e ρ μ fun d μ1 => ∃ ds : List D, SqD μ1 d ds ∧ Φ (.lst ds) μ1) (hg : Gl X "list" := by rfl) (he : starEach [e] X.env = (false, eval e X.env) :: starEach [] X.env := by rfl) :
    WE X (.Call (.Name "list" p) [e] [] pos) ρ μ Φ :=
  we_Ty call_list_of hg T.list bv_list (by decide) (by decide) (wa_one h he)
    (fun ds vs G H μ1 Q m r ⟨d, ed, xs, ex, k⟩ q => by
      subst ed
      obtain ⟨v, e, r1⟩ := r.oneV
      subst e
      obtain ⟨a, ys, rfl, h1, rs⟩ := sqd_sq m r1 ex
      refine ⟨a, ys, rfl, h1, fun l hl => ?_⟩
      have w := grow_new (o := .lst ys) m.same hl
      exact q _ _ _ _ μ1 w.g (m.grow w) (.lst upd_same (rs.same w.g)) k) he rfl
/-- list(..), to be written -/
theorem we_lstfM (T : Bn X.mg) (h : WE X e ρ μ fun d μ1 => ∃ ds : List D, SqD μ1 d ds ∧ ∀ p, Φ (.ref p) ((p, M.lst ds) :: μ1)) (hg : Gl X "list" := by rfl) (he : starEach [e] X.env = (false, eval e X.env) :: starEach [] X.env := by rfl) :
    WE X (.Call (.Name "list" p) [e] [] pos) ρ μ Φ :=
  we_Ty call_list_of hg T.list bv_list (by decide) (by decide) (wa_one h he)
    (fun ds vs G H μ1 Q m r ⟨d, ed, xs, ex, k⟩ q => by
      subst ed
      obtain ⟨v, e, r1⟩ := r.oneV
      subst e
      obtain ⟨a, ys, rfl, h1, rs⟩ := sqd_sq m r1 ex
      refine ⟨a, ys, rfl, h1, fun l hl => ?_⟩
      have w := grow_mut (o := .lst ys) m.same hl
      exact q _ _ _ _ _ w.g (m.cons (c := .lst xs) hl w ⟨m.same.free hl, ys, upd_same, rs⟩) (.ref l) (k l)) he rfl
theorem reps_bl {K : PySem.W.Frag} {G : Hp} : ∀ {bs : List Bool} {ys : List V}, Reps K G ys (bs.map D.bl) → ys = bs.map V.bl
  | [], _, .nil => rfl
  | b :: bs, _, .cons r1 r2 => by
    cases r1
    rw [reps_bl r2]
    rfl
/-- all(a list of truth values) -/
theorem we_all (T : Bn X.mg) (hc : X.calm = true) (h : WE X e ρ μ fun d μ1 => ∃ bs : List Bool, d = .lst (bs.map D.bl) ∧ Φ (.bl (bs.all id)) μ1) (hg : Gl X "all" := by rfl) (he : starEach [e] X.env = (false, eval e X.env) :: starEach [] X.env := by rfl) :
    WE X (.Call (.Name "all" p) [e] [] pos) ρ μ Φ :=
  we_B (cr_all hc) hg T.all bv_all (by decide) (by decide) (wa_one h he)
    (fun ds vs G H μ1 Q m r ⟨d, ed, bs, eb, k⟩ q => by
      subst ed eb
      obtain ⟨v, e, r1⟩ := r.oneV
      subst e
      cases r1 with
      | @lst a ys _ h1 rs =>
        have ey := reps_bl rs
        subst ey
        exact ⟨a, bs, rfl, SqL.of (m.same _ _ h1), q _ _ G H μ1 (Same.refl G) m (.bl _) k⟩) he rfl
end
end DL
namespace DL
open PySem PySem.Spec PyProof.Rows L2

/-! ### targets -/
def tWG (X : Cx) (tg : Expr) : TG := fun v σ H Q => ∀ (pins : List (Addr × Obj)) (s : Shared) (u : Value), Inv X pins σ H s → RelV v u → wpAny (model X.prog X.w) X.A (assign tg X.env u) (fun _ s' => ∃ σ' H', Inv X pins σ' H' s' ∧ Q σ' H') X.xe s
theorem pg_W {X : Cx} {tg : Expr} : PG X tg (tWG X tg) := ⟨fun pins s σ H v u Q I r h => h pins s u I r⟩
theorem toWG {X : Cx} {tg : Expr} {t : TG} {v : V} {σ : L2.St} {H : Hp} {Q : L2.St → Hp → Prop} (h : PG X tg t) (q : t v σ H Q) : tWG X tg v σ H Q := fun pins s u I r => h.run pins s σ H v u Q I r q
/-- what is assigned: S are the slots that may change -/
structure WG (X : Cx) (tg : Expr) (S : List Nat) (d : D) (ρ : Rho) (μ : Mu) (Φ : Rho → Mu → Prop) : Prop where
  run : ∀ (σ : L2.St) (G H : Hp) (v : V) (Q : L2.St → Hp → Prop), SM X.K G H μ → RS X.K G σ ρ → Rep X.K G v d → (∀ (σ' : L2.St) (ρ' : Rho) (G' H' : Hp) (μ' : Mu), wipe σ' S = wipe σ S → Same G G' → SM X.K G' H' μ' → RS X.K G' σ' ρ' → Φ ρ' μ' → Q σ' H') → tWG X tg v σ H Q
theorem wipe_at (σ : L2.St) : ∀ (vs : List Nat) (j : Nat), (wipe σ vs)[j]? = if j ∈ vs ∧ j < σ.length then some none else σ[j]?
  | [], j => by simp [wipe]
  | v :: vs, j => by
    unfold wipe
    by_cases h : v = j
    · subst h
      by_cases hl : v < σ.length
      · rw [List.getElem?_set_self (by rw [wipe_length]; exact hl), if_pos ⟨List.mem_cons_self, hl⟩]
      · rw [List.getElem?_eq_none (by rw [List.length_set, wipe_length]; omega), if_neg (fun z => hl z.2), List.getElem?_eq_none (by omega)]
    · rw [List.getElem?_set_ne h, wipe_at σ vs j]
      by_cases hm : j ∈ vs ∧ j < σ.length
      · rw [if_pos hm, if_pos ⟨List.mem_cons_of_mem _ hm.1, hm.2⟩]
      · rw [if_neg hm, if_neg]
        rintro ⟨a, b⟩
        rcases List.mem_cons.mp a with e | e
        · exact h e.symm
        · exact hm ⟨e, b⟩
theorem wipe_set {σ : L2.St} {S : List Nat} {i : Nat} {x : Option V} (h : i ∈ S) : wipe (σ.set i x) S = wipe σ S := by
  refine List.ext_getElem? fun j => ?_
  rw [wipe_at, wipe_at, List.length_set]
  by_cases hj : j ∈ S ∧ j < σ.length
  · rw [if_pos hj, if_pos hj]
  · rw [if_neg hj, if_neg hj]
    by_cases e : i = j
    · subst e
      have hl : ¬ i < σ.length := fun z => hj ⟨h, z⟩
      rw [List.getElem?_eq_none (by rw [List.length_set]; omega), List.getElem?_eq_none (by omega)]
    · rw [List.getElem?_set_ne e]
theorem wipe_wipe (σ : L2.St) (S : List Nat) : wipe (wipe σ S) S = wipe σ S := by
  refine List.ext_getElem? fun j => ?_
  rw [wipe_at, wipe_length]
  by_cases hj : j ∈ S ∧ j < σ.length
  · rw [if_pos hj, wipe_at, if_pos hj]
  · rw [if_neg hj]
def wipeR (ρ : Rho) : List Nat → Rho
  | [] => ρ
  | v :: vs => (wipeR ρ vs).set v none
theorem wipeR_len (ρ : Rho) : ∀ W : List Nat, (wipeR ρ W).length = ρ.length
  | [] => rfl
  | v :: vs => by unfold wipeR; rw [List.length_set, wipeR_len ρ vs]
theorem wipeR_at {ρ : Rho} {j : Nat} {d : D} : ∀ W : List Nat, (wipeR ρ W)[j]? = some (some d) → ρ[j]? = some (some d)
  | [], z => z
  | v :: vs, z => by
    unfold wipeR at z
    by_cases hv : v = j
    · subst hv
      by_cases hl : v < (wipeR ρ vs).length
      · rw [List.getElem?_set_self hl] at z; cases z
      · rw [List.getElem?_eq_none (by rw [List.length_set]; omega)] at z; cases z
    · rw [List.getElem?_set_ne hv] at z; exact wipeR_at vs z
theorem RS.wipeOnly {K : PySem.W.Frag} {G : Hp} {σ : L2.St} {ρ : Rho} (r : RS K G σ ρ) (W : List Nat) : RS K G σ (wipeR ρ W) := ⟨by rw [wipeR_len, r.len], fun j d e => r.at_ j d (wipeR_at W e)⟩
theorem RS.wipe {K : PySem.W.Frag} {G : Hp} {σ : L2.St} {ρ : Rho} (r : RS K G σ ρ) : ∀ vs : List Nat, RS K G (L2.wipe σ vs) (wipeR ρ vs)
  | [] => r
  | v :: vs => by
    have ih := r.wipe vs
    unfold L2.wipe wipeR
    refine ⟨by rw [List.length_set, List.length_set, ih.len], fun j d e => ?_⟩
    by_cases h : v = j
    · subst h
      by_cases hl : v < (wipeR ρ vs).length
      · rw [List.getElem?_set_self hl] at e; cases e
      · rw [List.getElem?_eq_none (by rw [List.length_set]; omega)] at e; cases e
    · rw [List.getElem?_set_ne h] at e
      obtain ⟨v', h1, h2⟩ := ih.at_ j d e
      exact ⟨v', by rw [List.getElem?_set_ne h]; exact h1, h2⟩
section
variable {X : Cx} {ρ : Rho} {μ : Mu} {S : List Nat} {Φ : Rho → Mu → Prop} {pos : Pos}
theorem wg_name {x : Str} {d : D} (i : Nat) (hN : X.N.Nodup) (k : Φ (ρ.set i (some d)) μ) (hi : X.N[i]? = some x := by rfl) (hx : Loc X.env.scope x := by first | exact Or.inl rfl | exact Or.inr rfl) (hS : i ∈ S := by decide)
    (hf : X.fn x = true ∨ X.env.scope.names.lookup x = some .local := by first | exact .inl rfl | exact .inr rfl) : WG X (.Name x pos) S d ρ μ Φ := ⟨fun σ G H v Q m r rd q =>
  toWG (pg_name hN hi hx hf) (q _ _ G H μ (wipe_set hS) (Same.refl G) m (r.set i rd) k)⟩
def tWGs (X : Cx) (ts : List Expr) : TGs := fun vs σ H Q => ∀ (pins : List (Addr × Obj)) (s : Shared) (us : List Value), Inv X pins σ H s → Vals vs us → wpAny (model X.prog X.w) X.A (assignInOrder ((assignEach ts X.env).map (·.2)) us) (fun _ s' => ∃ σ' H', Inv X pins σ' H' s' ∧ Q σ' H') X.xe s
theorem pgs_W {ts : List Expr} : PGs X ts (tWGs X ts) := ⟨fun pins s σ H vs us Q I r h => h pins s us I r⟩
structure WGs (X : Cx) (ts : List Expr) (S : List Nat) (ds : List D) (ρ : Rho) (μ : Mu) (Φ : Rho → Mu → Prop) : Prop where
  run : ∀ (σ : L2.St) (G H : Hp) (vs : List V) (Q : L2.St → Hp → Prop), SM X.K G H μ → RS X.K G σ ρ → Reps X.K G vs ds → (∀ (σ' : L2.St) (ρ' : Rho) (G' H' : Hp) (μ' : Mu), wipe σ' S = wipe σ S → Same G G' → SM X.K G' H' μ' → RS X.K G' σ' ρ' → Φ ρ' μ' → Q σ' H') → tWGs X ts vs σ H Q
theorem wgs_nil (k : Φ ρ μ) : WGs X [] S [] ρ μ Φ := ⟨fun σ G H vs Q m r rd q pins s us I rv => by
  cases rd
  exact pgs_nil.run pins s σ H [] us Q I rv ⟨rfl, q σ ρ G H μ rfl (Same.refl G) m r k⟩⟩
theorem wgs_cons {e : Expr} {es : List Expr} {d : D} {ds : List D} (k : WG X e S d ρ μ fun ρ1 μ1 => WGs X es S ds ρ1 μ1 Φ) (hs : (assignEach (e :: es) X.env).map (·.2) = assign e X.env :: (assignEach es X.env).map (·.2) := by rfl) : WGs X (e :: es) S (d :: ds) ρ μ Φ :=
  ⟨fun σ G H vs Q m r rd q pins s us I rv => by
    cases rd with
    | cons r1 r2 =>
      refine (pgs_cons pg_W pgs_W hs).run pins s σ H _ us Q I rv ⟨_, _, rfl, ?_⟩
      refine k.run σ G H _ _ m r r1 fun σ1 ρ1 G1 H1 μ1 e1 s1 m1 rs1 k1 => ?_
      exact k1.run σ1 G1 H1 _ Q m1 rs1 (r2.same s1) fun σ2 ρ2 G2 H2 μ2 e2 s2 m2 rs2 k2 => q σ2 ρ2 G2 H2 μ2 (e2.trans e1) (s1.trans s2) m2 rs2 k2⟩
theorem wg_tup {es : List Expr} {j : Nat} {ds : List D} {n : Nat} (hc : X.calm = true) (k : WGs X es S ds ρ μ Φ) (hl : ds.length = n := by rfl) (hn : (assignEach es X.env).length = n := by rfl) (hst : (assignEach es X.env).findIdx? (·.1) = none := by rfl) : WG X (.Tuple es j pos) S (.tup ds) ρ μ Φ :=
  ⟨fun σ G H v Q m r rd q => by
    cases rd with
    | @tup a xs _ h rs => exact toWG (pg_tup hc pgs_W hn hst) ⟨a, xs, rfl, sqt_same m.same h, by rw [rs.length]; exact hl, k.run σ G H xs Q m r rs q⟩⟩
theorem ws_asg {N : Rho → Mu → Prop} {R : D → Mu → Prop} {tg e : Expr} (S : List Nat) (k : WE X e ρ μ fun d μ1 => WG X tg S d ρ μ1 N) (hs : swapsWithSole [tg] e pos.line X.env = pure false := by rfl) (hw : swappedStores [tg] e X.env = pure none := by rfl)
    (h1 : (assignEach [tg] X.env).map (·.2) = [assign tg X.env] := by rfl) : WS X (.Assign [tg] e pos) ρ μ ⟨N, R⟩ := ⟨fun σ G H E m r q =>
  toWS (ps_asg pe_W pg_W hs hw h1) (k.run σ G H _ m r fun d v G1 H1 μ1 s1 m1 rd k1 => k1.run σ G1 H1 v _ m1 (r.same s1) rd fun σ' ρ' G' H' μ' _ s2 m2 r2 k2 => q.nx σ' ρ' G' H' μ' (s1.trans s2) m2 r2 k2)⟩
end

/-! ### what is walked -/
structure Yl (K : PySem.W.Frag) (G0 : Hp) (J : L2.It) (ds : List D) : Prop where
  it : ∀ (i : Nat) (d : D) (G H : Hp), ds[i]? = some d → Same G0 G → Same G H → J.go i H ∧ ∀ x H', J.yld i H x H' → ∃ G', Grow G H G' H' ∧ Rep K G' x d
  stop : ∀ (G H : Hp), Same G0 G → Same G H → J.stop ds.length H
def tWI (X : Cx) (tg iter : Expr) : TI := fun σ H R => ∀ (pins : List (Addr × Obj)) (s : Shared), Inv X pins σ H s → wpAny (model X.prog X.w) X.A (eval iter X.env) (fun v s1 => wpAny (model X.prog X.w) X.A (pyIter v) (PIE X pins σ tg R) X.xe s1) X.xe s
theorem pi_W {X : Cx} {tg iter : Expr} : PI X tg iter (tWI X tg iter) := ⟨fun pins s σ H R I h => h pins s I⟩
theorem toWI {X : Cx} {tg iter : Expr} {t : TI} {σ : L2.St} {H : Hp} {R : L2.It → Hp → Prop} (h : PI X tg iter t) (q : t σ H R) : tWI X tg iter σ H R := fun pins s I => h.run pins s σ H R I q
structure WI (X : Cx) (tg iter : Expr) (ρ : Rho) (μ : Mu) (Φ : List D → Mu → Prop) : Prop where
  run : ∀ (σ : L2.St) (G H : Hp) (R : L2.It → Hp → Prop), SM X.K G H μ → RS X.K G σ ρ → (∀ (ds : List D) (J : L2.It) (G' H' : Hp) (μ' : Mu), Same G G' → SM X.K G' H' μ' → Yl X.K G' J ds → Φ ds μ' → R J H') → tWI X tg iter σ H R
section
variable {X : Cx} {tg iter : Expr} {ρ : Rho} {μ : Mu} {Φ : List D → Mu → Prop} {pos p : Pos}
theorem yl_list {K : PySem.W.Frag} {G : Hp} {a : Addr} {xs : List V} {ds : List D} (h : SqL K G a xs) (rs : Reps K G xs ds) : Yl K G (Itl K a) ds where
  it := fun i d G1 H e s1 s2 => by
    obtain ⟨x, hx, rx⟩ := rs.get e
    have hH : SqL K H a xs := (s1.trans s2).seq h
    refine ⟨⟨xs, x, hH, hx⟩, ?_⟩
    rintro y H' ⟨rfl, hy⟩
    have e2 := hy xs hH
    rw [hx] at e2
    cases e2
    exact ⟨G1, .refl s2, rx.same s1⟩
  stop := fun G1 H s1 s2 => ⟨xs, (s1.trans s2).seq h, by rw [rs.length]; exact Nat.le_refl _⟩
theorem yl_tup {K : PySem.W.Frag} {G : Hp} {a : Addr} {xs : List V} {ds : List D} (h : SqT K G a xs) (rs : Reps K G xs ds) : Yl K G (Itt K a) ds where
  it := fun i d G1 H e s1 s2 => by
    obtain ⟨x, hx, rx⟩ := rs.get e
    have hH : SqT K H a xs := sqt_same (s1.trans s2) h
    refine ⟨⟨xs, x, hH, hx⟩, ?_⟩
    rintro y H' ⟨rfl, hy⟩
    have e2 := hy xs hH
    rw [hx] at e2
    cases e2
    exact ⟨G1, .refl s2, rx.same s1⟩
  stop := fun G1 H s1 s2 => ⟨xs, sqt_same (s1.trans s2) h, by rw [rs.length]; exact Nat.le_refl _⟩
theorem yl_range {K : PySem.W.Frag} {G : Hp} (lo : Int) (n : Nat) : Yl K G (Itr lo n) ((List.range n).map fun i => D.int (lo + (i : Nat))) where
  it := fun i d G1 H e s1 s2 => by
    rw [List.getElem?_map] at e
    cases h : (List.range n)[i]? with
    | none => rw [h] at e; cases e
    | some j =>
      rw [h] at e
      obtain ⟨hl, hj⟩ := List.getElem?_eq_some_iff.mp h
      rw [List.getElem_range] at hj
      subst hj
      have e' : D.int (lo + (i : Nat)) = d := Option.some.inj e
      subst e'
      refine ⟨(show i < n by simpa using hl), ?_⟩
      rintro y H' ⟨rfl, rfl⟩
      exact ⟨G1, .refl s2, .int _⟩
  stop := fun G1 H s1 s2 => by
    rw [List.length_map, List.length_range]
    exact Nat.le_refl _
def strD (x : Str) : List D := x.cps.toList.map fun c => D.str ⟨#[c]⟩
theorem yl_str {K : PySem.W.Frag} {G : Hp} (x : Str) : Yl K G (Its x) (strD x) where
  it := fun i d G1 H e s1 s2 => by
    unfold strD at e
    rw [List.getElem?_map, Array.getElem?_toList] at e
    cases h : x.cps[i]? with
    | none => rw [h] at e; cases e
    | some c =>
      rw [h] at e
      have e' : D.str ⟨#[c]⟩ = d := Option.some.inj e
      subst e'
      refine ⟨(Array.getElem?_eq_some_iff.mp h).1, ?_⟩
      rintro y H' ⟨rfl, c', hc', rfl⟩
      rw [h] at hc'
      cases hc'
      exact ⟨G1, .refl s2, .str _⟩
  stop := fun G1 H s1 s2 => by
    unfold strD
    rw [List.length_map, Array.length_toList]
    exact Nat.le_refl _
/-- a frozen list -/
theorem wi_lst (h : WE X iter ρ μ fun d μ1 => ∃ ds, d = .lst ds ∧ Φ ds μ1) : WI X tg iter ρ μ Φ := ⟨fun σ G H R m r q =>
  toWI (pi_list pe_W) (h.run σ G H _ m r fun d v G1 H1 μ1 s1 m1 rd ⟨ds, ed, k⟩ => by
    subst ed
    cases rd with
    | @lst a xs _ hl rs => exact ⟨a, rfl, ⟨xs, SqL.of (m1.same _ _ hl)⟩, q ds _ G1 H1 μ1 s1 m1 (yl_list (SqL.of hl) rs) k⟩)⟩
theorem wi_tup (h : WE X iter ρ μ fun d μ1 => ∃ ds, d = .tup ds ∧ Φ ds μ1) : WI X tg iter ρ μ Φ := ⟨fun σ G H R m r q =>
  toWI (pi_tup pe_W) (h.run σ G H _ m r fun d v G1 H1 μ1 s1 m1 rd ⟨ds, ed, k⟩ => by
    subst ed
    cases rd with
    | @tup a xs _ hl rs => exact ⟨a, rfl, ⟨xs, sqt_same m1.same hl⟩, q ds _ G1 H1 μ1 s1 m1 (yl_tup hl rs) k⟩)⟩
theorem wi_str (h : WE X iter ρ μ fun d μ1 => ∃ x, d = .str x ∧ Φ (strD x) μ1) : WI X tg iter ρ μ Φ := ⟨fun σ G H R m r q =>
  toWI (pi_str pe_W) (h.run σ G H _ m r fun d v G1 H1 μ1 s1 m1 rd ⟨x, ed, k⟩ => by
    subst ed
    cases rd
    exact ⟨x, rfl, q _ _ G1 H1 μ1 s1 m1 (yl_str x) k⟩)⟩
theorem wi_range {a : Expr} (T : Bn X.mg) (h : WE X a ρ μ fun d μ1 => ∃ j : Int, d = .int j ∧ -(2 ^ 62) ≤ j ∧ j < 2 ^ 62 ∧ Φ ((List.range j.toNat).map fun i => D.int (0 + (i : Nat))) μ1) (hg : Gl X "range" := by rfl) (hs : starEach [a] X.env = [(false, eval a X.env)] := by rfl) : WI X tg (.Call (.Name "range" p) [a] [] pos) ρ μ Φ := ⟨fun σ G H R m r q =>
  toWI (pi_range1 hg T.range pa_W hs) ((wa_one h hs).run σ G H _ m r fun ds vs G1 H1 μ1 s1 m1 rd ⟨d, ed, j, ej, l1, l2, k⟩ => by
    subst ed ej
    obtain ⟨v, e, r1⟩ := rd.oneV
    subst e
    cases r1
    exact ⟨j, rfl, l1, l2, q _ _ G1 H1 μ1 s1 m1 (yl_range 0 j.toNat) k⟩)⟩

/-! ### for -/
theorem ws_for {body : List Stmt} {N : Rho → Mu → Prop} {R : D → Mu → Prop} (S : List Nat) (hp : PassesOwn (model X.prog X.w) X.A X.env X.xe) (hc : X.calm = true)
    (h : WI X tg iter ρ μ fun ds μ1 => ∃ Pv : Nat → Rho → Mu → Prop, Pv 0 ρ μ1 ∧ (∀ i d ρ2 μ2, ds[i]? = some d → Pv i ρ2 μ2 → WG X tg S d ρ2 μ2 fun ρ3 μ3 => WB X body ρ3 μ3 ⟨Pv (i + 1), R⟩) ∧ ∀ ρ2 μ2, Pv ds.length ρ2 μ2 → N ρ2 μ2)
    (hs : ∀ x, foldedSetIterable iter X.env x = pure x := by intro _; rfl) : WS X (.For tg iter body [] pos) ρ μ ⟨N, R⟩ := ⟨fun σ G H E m r q =>
  toWS (ps_for hp hc pi_W pg_W pss_W hs) (h.run σ G H _ m r fun ds J G1 H1 μ1 s1 m1 y ⟨Pv, p0, ps, pd⟩ => by
    refine ⟨fun i k σ' H' => k = ds.length - i ∧ i ≤ ds.length ∧ ∃ G' ρ' μ', Same G1 G' ∧ SM X.K G' H' μ' ∧ RS X.K G' σ' ρ' ∧ Pv i ρ' μ', ⟨ds.length, by simp, Nat.zero_le _, G1, ρ, μ1, Same.refl _, m1, r.same s1, p0⟩, ?_⟩
    rintro i k σ' H' ⟨rfl, hi, G', ρ', μ', s', m', r', p'⟩
    by_cases hlt : i < ds.length
    · obtain ⟨hgo, hy⟩ := y.it i ds[i] G' H' (List.getElem?_eq_getElem hlt) s' m'.same
      refine .inr ⟨hgo, fun σ'' H'' => ∃ G'' ρ'' μ'', Same G1 G'' ∧ SM X.K G'' H'' μ'' ∧ RS X.K G'' σ'' ρ'' ∧ Pv (i + 1) ρ'' μ'', fun σ'' H'' h'' => ⟨_, by omega, rfl, hlt, h''⟩, fun x H2 hx => ?_⟩
      obtain ⟨G2, w, rx⟩ := hy x H2 hx
      refine (ps i ds[i] ρ' μ' (List.getElem?_eq_getElem hlt) p').run σ' G2 H2 x _ (m'.grow w) (r'.same w.g) rx fun σ3 ρ3 G3 H3 μ3 _ s3 m3 r3 k3 => ?_
      refine k3.run σ3 G3 H3 _ m3 r3 ⟨fun σ4 ρ4 G4 H4 μ4 s4 m4 r4 k4 => ⟨G4, ρ4, μ4, ((s'.trans w.g).trans s3).trans s4, m4, r4, k4⟩, fun d v G4 H4 μ4 s4 m4 rd k4 => q.rt d v G4 H4 μ4 ((((s1.trans s').trans w.g).trans s3).trans s4) m4 rd k4⟩
    · have e : i = ds.length := by omega
      subst e
      exact .inl ⟨y.stop G' H' s' m'.same, q.nx σ' ρ' G' H' μ' (s1.trans s') m' r' (pd ρ' μ' p')⟩)⟩

/-! ### list comprehensions -/
/-- the contexts of a comprehension's block -/
def BK (X : Cx) (scope : Scope) (Y : Cx) : Prop := ∃ (s : Shared) (H : Hp) (C : Addr) (cl : List (Str × Addr)) (fp : List Addr), Y = X.blk s H scope (compEnvC scope cl C X.env) fp
def tWTs (X : Cx) (ifs : List Expr) : TT := fun σ H Q => ∀ (pins : List (Addr × Obj)) (s : Shared), Inv X pins σ H s →
    wpAny (model X.prog X.w) X.A (forIn ifs true fun c r => if r = true then do let ok ← isTrue c X.env (eval c X.env); pure (ForInStep.yield ok) else pure (ForInStep.yield r)) (TP X pins σ Q) X.xe s
theorem pts_W {X : Cx} {ifs : List Expr} : PTs X ifs (tWTs X ifs) := ⟨fun pins s σ H Q I h => h pins s I⟩
structure WTs (X : Cx) (ifs : List Expr) (ρ : Rho) (μ : Mu) (Φ : Bool → Mu → Prop) : Prop where
  run : ∀ (σ : L2.St) (G H : Hp) (Q : Bool → Hp → Prop), SM X.K G H μ → RS X.K G σ ρ → (∀ (b : Bool) (G' H' : Hp) (μ' : Mu), Same G G' → SM X.K G' H' μ' → Φ b μ' → Q b H') → tWTs X ifs σ H Q
theorem wts_nil {Φ : Bool → Mu → Prop} (k : Φ true μ) : WTs X [] ρ μ Φ := ⟨fun σ G H Q m r q pins s I => pts_nil.run pins s σ H Q I (q true G H μ (Same.refl G) m k)⟩
theorem wts_one {c : Expr} {Φ : Bool → Mu → Prop} (k : WT X c ρ μ Φ) : WTs X [c] ρ μ Φ := ⟨fun σ G H Q m r q pins s I => (pts_one pt_W).run pins s σ H Q I (k.run σ G H Q m r q)⟩
/-- one turn of a comprehension's block -/
structure LcTurn (X : Cx) (scope : Scope) (tg elt : Expr) (ifs : List Expr) (S : List Nat) (d : D) (ρ : Rho) (μ ν : Mu) (Yes : D → Mu → Prop) (No : Mu → Prop) : Prop where
  run : ∀ Y, BK X scope Y → WG Y tg S d ρ (ν ++ μ) fun ρ2 μ2 => ∀ Y, BK X scope Y → WTs Y ifs ρ2 μ2 fun b μ3 => It b (∀ Y, BK X scope Y → WE Y elt ρ2 μ3 fun y μ4 => ∃ μ5, μ4 = ν ++ μ5 ∧ Yes y μ5) (∃ μ5, μ3 = ν ++ μ5 ∧ No μ5)
theorem BK.k {X Y : Cx} {scope : Scope} (h : BK X scope Y) : Y.K = X.K := by obtain ⟨_, _, _, _, _, rfl⟩ := h; rfl
/-- what a list comprehension gives -/
structure WLc (X : Cx) (tg iter elt : Expr) (ifs : List Expr) (scope : Scope) (own : List (Str × Nat)) (ρ : Rho) (μ : Mu) (Φ : D → Mu → Prop) : Prop where
  run : ∀ (σ : L2.St) (G H : Hp) (Q : VK), SM X.K G H μ → RS X.K G σ ρ → DK X.K G Φ Q → tLc (tWI X tg iter) (fun v σ H Q => ∀ Y, BK X scope Y → tWG Y tg v σ H Q) (fun σ H Q => ∀ Y, BK X scope Y → tWTs Y ifs σ H Q) (fun σ H Q => ∀ Y, BK X scope Y → tW Y elt σ H Q) (own.map (·.2)) σ H Q
theorem we_lcx {elt : Expr} {ifs : List Expr} {scope : Scope} {own : List (Str × Nat)} {Φ : D → Mu → Prop} (hc : X.calm = true) (hN : X.N.Nodup) (ok : BlkOk X.N X.env.scope scope own) (h : WLc X tg iter elt ifs scope own ρ μ Φ)
    (hs : ∀ x, foldedSetIterable iter X.env x = pure x := by intro _; rfl) : WE X (.ListComp elt [⟨tg, iter, ifs, 0⟩] scope pos) ρ μ Φ := ⟨fun σ G H Q m r q =>
  toW (pe_lc (g := fun v σ H Q => ∀ Y, BK X scope Y → tWG Y tg v σ H Q) (tt := fun σ H Q => ∀ Y, BK X scope Y → tWTs Y ifs σ H Q) (te := fun σ H Q => ∀ Y, BK X scope Y → tW Y elt σ H Q) hc hN pi_W ok
    (fun s H C cl fp => ⟨fun pins s' σ H' v u Q I r h => h _ ⟨s, H, C, cl, fp, rfl⟩ pins s' u I r⟩) (fun s H C cl fp => ⟨fun pins s' σ H' Q I h => h _ ⟨s, H, C, cl, fp, rfl⟩ pins s' I⟩) (fun s H C cl fp => ⟨fun pins s' σ H' Q I h => h _ ⟨s, H, C, cl, fp, rfl⟩ pins s' I⟩) hs) (h.run σ G H Q m r q)⟩
/-- name = [..] on one line -/
theorem ws_lcx {elt : Expr} {ifs : List Expr} {scope : Scope} {own : List (Str × Nat)} {N : Rho → Mu → Prop} {R : D → Mu → Prop} {i : Nat} {y : Str} {py spos : Pos} (hc : X.calm = true) (hN : X.N.Nodup) (hy : X.N[i]? = some y) (ok : BlkOk X.N X.env.scope scope own) (h : WLc X tg iter elt ifs scope own ρ μ fun d μ1 => N (ρ.set i (some d)) μ1)
    (hyl : X.env.scope.names.lookup y = some .local := by rfl)
    (hk : X.env.scope.kind = .function := by rfl) (hl : (py.line == pos.line) = true := by rfl) (ha : (scope.names.any fun (n, k) => n == y && (k == .local || k == .cell)) = false := by rfl)
    (hs : ∀ x, foldedSetIterable iter X.env x = pure x := by intro _; rfl) : WS X (.Assign [.Name y py] (.ListComp elt [⟨tg, iter, ifs, 0⟩] scope pos) spos) ρ μ ⟨N, R⟩ := ⟨fun σ G H E m r q =>
  toWS (ps_setLc (g := fun v σ H Q => ∀ Y, BK X scope Y → tWG Y tg v σ H Q) (tt := fun σ H Q => ∀ Y, BK X scope Y → tWTs Y ifs σ H Q) (te := fun σ H Q => ∀ Y, BK X scope Y → tW Y elt σ H Q) hc hN hy hyl (sw_true hk hyl hl ha) pi_W ok
    (fun s H C cl fp => ⟨fun pins s' σ H' v u Q I r h => h _ ⟨s, H, C, cl, fp, rfl⟩ pins s' u I r⟩) (fun s H C cl fp => ⟨fun pins s' σ H' Q I h => h _ ⟨s, H, C, cl, fp, rfl⟩ pins s' I⟩) (fun s H C cl fp => ⟨fun pins s' σ H' Q I h => h _ ⟨s, H, C, cl, fp, rfl⟩ pins s' I⟩) hs)
    (h.run σ G H _ m r fun d v G1 H1 μ1 s1 m1 rd k1 => q.nx _ _ G1 H1 μ1 s1 m1 ((r.same s1).set i rd) k1)⟩
theorem wlc_M {elt : Expr} {ifs : List Expr} {scope : Scope} {own : List (Str × Nat)} {Φ : D → Mu → Prop}
    (h : WI X tg iter ρ μ fun ds μ1 => ∃ Pv : Nat → List D → Mu → Prop, Pv 0 [] μ1 ∧ (∀ (D0 : Addr) i d acc μ2, ds[i]? = some d → Pv i acc μ2 → acc.length < 1000 ∧ LcTurn X scope tg elt ifs (own.map (·.2)) d (wipeR ρ (own.map (·.2))) μ2 [(D0, .lst acc)] (fun y μ5 => Pv (i + 1) (acc ++ [y]) μ5) (Pv (i + 1) acc)) ∧
      ∀ acc μ2, Pv ds.length acc μ2 → ∀ D0, Φ (.ref D0) ((D0, .lst acc) :: μ2)) : WLc X tg iter elt ifs scope own ρ μ Φ := by
  refine ⟨fun σ G H Q m r q => ?_⟩
  refine h.run σ G H _ m r fun ds J G1 H1 μ1 s1 m1 y ⟨Pv, p0, ps, pd⟩ D0 hD0 => ?_
  have w0 := grow_mut (o := .lst []) m1.same hD0
  have m10 := m1.cons (c := .lst []) hD0 w0 ⟨m1.same.free hD0, [], upd_same, .nil⟩
  refine ⟨fun i k H' => k = ds.length - i ∧ i ≤ ds.length ∧ ∃ G' acc μ', Same G1 G' ∧ SM X.K G' H' ((D0, .lst acc) :: μ') ∧ Pv i acc μ', ⟨ds.length, by simp, Nat.zero_le _, G1, [], μ1, Same.refl _, m10, p0⟩, ?_⟩
  rintro i k H' ⟨rfl, hi, G', acc, μ', s', m', p'⟩
  by_cases hlt : i < ds.length
  · obtain ⟨hgo, hy⟩ := y.it i ds[i] G' H' (List.getElem?_eq_getElem hlt) s' m'.same
    refine .inr ⟨hgo, fun H'' => ∃ G'' acc'' μ'', Same G1 G'' ∧ SM X.K G'' H'' ((D0, .lst acc'') :: μ'') ∧ Pv (i + 1) acc'' μ'', fun H'' h'' => ⟨_, by omega, rfl, hlt, h''⟩, fun x H2 hx Y hY => ?_⟩
    obtain ⟨G2, w, rx⟩ := hy x H2 hx
    obtain ⟨ha, ht⟩ := ps D0 i ds[i] acc μ' (List.getElem?_eq_getElem hlt) p'
    have m2 := m'.grow w
    have r2 := ((r.same s1).wipe (own.map (·.2))).same (s'.trans w.g)
    refine (ht.run Y hY).run _ G2 H2 x _ (by rw [hY.k]; exact m2) (by rw [hY.k]; exact r2) (by rw [hY.k]; exact rx) fun σ3 ρ3 G3 H3 μ3 e3 s3 m3 r3 k3 => ⟨e3.trans (wipe_wipe σ _), fun Z hZ => ?_⟩
    rw [hY.k] at m3 r3
    refine (k3 Z hZ).run _ G3 H3 _ (by rw [hZ.k]; exact m3) (by rw [hZ.k]; exact r3) fun b G4 H4 μ4 s4 m4 k4 => ?_
    rw [hZ.k] at m4
    cases b with
    | true =>
      rw [if_pos rfl]
      intro W hW
      refine (k4.tt W hW).run _ G4 H4 _ (by rw [hW.k]; exact m4) (by rw [hW.k]; exact r3.same s4) fun yd yv G5 H5 μ5 s5 m5 r5 ⟨μ6, e6, k6⟩ => ?_
      rw [hW.k] at m5 r5
      subst e6
      have hj : ((D0, M.lst acc) :: μ6)[0]? = some (D0, M.lst acc) := rfl
      obtain ⟨g0, xs, hx0, rs0⟩ := m5.cell _ (List.mem_of_getElem? hj)
      refine ⟨xs, hx0, by rw [rs0.length]; exact Nat.lt_of_lt_of_le ha (sz1000 (Nat.le_refl _)), G5, acc ++ [yd], μ6, (((s'.trans w.g).trans s3).trans s4).trans s5, ?_, k6⟩
      have mm := m5.putL (c' := .lst (acc ++ [yd])) (o := .lst (xs ++ [yv])) hj ⟨g0, xs ++ [yv], upd_same, rs0.app (.cons r5 .nil)⟩
      simpa using mm
    | false =>
      rw [if_neg Bool.false_ne_true]
      obtain ⟨μ5, e5, k5⟩ := k4.ff
      subst e5
      exact ⟨G4, acc, μ5, ((s'.trans w.g).trans s3).trans s4, m4, k5⟩
  · have e : i = ds.length := by omega
    subst e
    exact .inl ⟨y.stop G' H' s' m'.same, q _ _ G' H' _ (s1.trans s') m' (.ref D0) (pd acc μ' p' D0)⟩
/-- the value of an expression: a place is frozen -/
theorem we_frz {e : Expr} {Φ : D → Mu → Prop} (h : WE X e ρ μ fun d μ1 => ∃ (a : Addr) (ds : List D) (μ2 : Mu), d = .ref a ∧ μ1 = (a, M.lst ds) :: μ2 ∧ Φ (.lst ds) μ2) : WE X e ρ μ Φ := ⟨fun σ G H Q m r q =>
  h.run σ G H Q m r fun d v G1 H1 μ1 s1 m1 rd ⟨a, ds, μ2, ed, eμ, k⟩ => by
    subst ed eμ
    cases rd
    have hj : ((a, M.lst ds) :: μ2)[0]? = some (a, M.lst ds) := rfl
    obtain ⟨G2, s2, m2, r2⟩ := m1.frzL hj
    exact q _ _ G2 H1 μ2 (s1.trans s2) m2 r2 k⟩
theorem wlc_frz {elt : Expr} {ifs : List Expr} {scope : Scope} {own : List (Str × Nat)} {Φ : D → Mu → Prop} (h : WLc X tg iter elt ifs scope own ρ μ fun d μ1 => ∃ (a : Addr) (ds : List D) (μ2 : Mu), d = .ref a ∧ μ1 = (a, M.lst ds) :: μ2 ∧ Φ (.lst ds) μ2) : WLc X tg iter elt ifs scope own ρ μ Φ := ⟨fun σ G H Q m r q =>
  h.run σ G H Q m r fun d v G1 H1 μ1 s1 m1 rd ⟨a, ds, μ2, ed, eμ, k⟩ => by
    subst ed eμ
    cases rd
    have hj : ((a, M.lst ds) :: μ2)[0]? = some (a, M.lst ds) := rfl
    obtain ⟨G2, s2, m2, r2⟩ := m1.frzL hj
    exact q _ _ G2 H1 μ2 (s1.trans s2) m2 r2 k⟩
/-- .. that is not written any more -/
theorem wlc {elt : Expr} {ifs : List Expr} {scope : Scope} {own : List (Str × Nat)} {Φ : D → Mu → Prop}
    (h : WI X tg iter ρ μ fun ds μ1 => ∃ Pv : Nat → List D → Mu → Prop, Pv 0 [] μ1 ∧ (∀ (D0 : Addr) i d acc μ2, ds[i]? = some d → Pv i acc μ2 → acc.length < 1000 ∧ LcTurn X scope tg elt ifs (own.map (·.2)) d (wipeR ρ (own.map (·.2))) μ2 [(D0, .lst acc)] (fun y μ5 => Pv (i + 1) (acc ++ [y]) μ5) (Pv (i + 1) acc)) ∧
      ∀ acc μ2, Pv ds.length acc μ2 → Φ (.lst acc) μ2) : WLc X tg iter elt ifs scope own ρ μ Φ :=
  wlc_frz (wlc_M ⟨fun σ G H R m r q => h.run σ G H R m r fun ds J G' H' μ' s1 m1 y ⟨Pv, p0, ps, pd⟩ => q ds J G' H' μ' s1 m1 y ⟨Pv, p0, ps, fun acc μ2 p D0 => ⟨D0, acc, μ2, rfl, rfl, pd acc μ2 p⟩⟩⟩)
end
end DL
namespace DL
open PySem PySem.Spec PyProof.Rows L2

theorem BK.A {X Y : Cx} {scope : Scope} (h : BK X scope Y) : Y.A = X.A := by obtain ⟨_, _, _, _, _, rfl⟩ := h; rfl
theorem BK.mg {X Y : Cx} {scope : Scope} (h : BK X scope Y) : Y.mg = X.mg := by obtain ⟨_, _, _, _, _, rfl⟩ := h; rfl
theorem BK.room {X Y : Cx} {scope : Scope} {k : Nat} (h : BK X scope Y) (r : Room k X.A) : Room k Y.A := by obtain ⟨_, _, _, _, _, rfl⟩ := h; exact r
theorem BK.cal {X Y : Cx} {scope : Scope} {k : Nat} {x : Str} {S : Spec} (h : BK X scope Y) (r : Cal X.prog X.w X.K X.mg X.base k x S) : Cal Y.prog Y.w Y.K Y.mg Y.base k x S := by obtain ⟨_, _, _, _, _, rfl⟩ := h; exact r
theorem Cal.up {P : Program} {w : World} {K : PySem.W.Frag} {mg : Str → Option Value} {base : Heap} {j k : Nat} {x : Str} {S : Spec} (c : Cal P w K mg base j x S) (h : j ≤ k) : Cal P w K mg base k x S := by
  obtain ⟨f, h1, h2, h3⟩ := c.ex
  exact ⟨f, h1, h2, h3.mono h⟩

section
variable {X : Cx} {ρ : Rho} {μ : Mu} {Φ : D → Mu → Prop} {F : Fx} {a b c e o i : Expr} {pos p : Pos} {es : List Expr} {tg iter : Expr}
/-- the places in another order -/
theorem we_perm {ν : Mu} (h : ν.Perm μ) (k : WE X e ρ ν Φ) : WE X e ρ μ Φ := ⟨fun σ G H Q m r q => k.run σ G H Q (m.perm h) r q⟩
theorem ws_perm {ν : Mu} {st : Stmt} (h : ν.Perm μ) (k : WS X st ρ ν F) : WS X st ρ μ F := ⟨fun σ G H Q m r q => k.run σ G H Q (m.perm h) r q⟩
theorem wb_perm {ν : Mu} {st : List Stmt} (h : ν.Perm μ) (k : WB X st ρ ν F) : WB X st ρ μ F := ⟨fun σ G H Q m r q => k.run σ G H Q (m.perm h) r q⟩
/-- names may be forgotten -/
theorem wb_wipe {st : List Stmt} (W : List Nat) (k : WB X st (wipeR ρ W) μ F) : WB X st ρ μ F := ⟨fun σ G H E m r q => k.run σ G H E m (r.wipeOnly W) q⟩

/-! ### for: the items still to come -/
theorem ws_forL {α β : Type} {body : List Stmt} {N : Rho → Mu → Prop} {R : D → Mu → Prop} (W S : List Nat) (f : β → D) (ρI : α → Rho) (μI : α → Mu) (P : List β → α → Prop) (hp : PassesOwn (model X.prog X.w) X.A X.env X.xe) (hc : X.calm = true)
    (h : WI X tg iter ρ μ fun ds μ1 => ∃ xs : List β, ds = xs.map f ∧ ∃ a0, wipeR ρ W = ρI a0 ∧ μ1 = μI a0 ∧ P xs a0)
    (hstep : ∀ x rest a, P (x :: rest) a → WG X tg S (f x) (ρI a) (μI a) fun ρ3 μ3 => WB X body ρ3 μ3 ⟨fun ρ4 μ4 => ∃ a', wipeR ρ4 W = ρI a' ∧ μ4 = μI a' ∧ P rest a', R⟩)
    (hend : ∀ a, P [] a → N (ρI a) (μI a))
    (hs : ∀ x, foldedSetIterable iter X.env x = pure x := by intro _; rfl) : WS X (.For tg iter body [] pos) ρ μ ⟨N, R⟩ := ⟨fun σ G H E m r q =>
  toWS (ps_for hp hc pi_W pg_W pss_W hs) (h.run σ G H _ m r fun ds J G1 H1 μ1 s1 m1 y ⟨xs, ed, a0, e0, eμ, p0⟩ => by
    subst ed eμ
    refine ⟨fun i k σ' H' => k = xs.length - i ∧ i ≤ xs.length ∧ ∃ G' a, Same G1 G' ∧ SM X.K G' H' (μI a) ∧ RS X.K G' σ' (ρI a) ∧ P (xs.drop i) a, ⟨xs.length, by simp, Nat.zero_le _, G1, a0, Same.refl _, m1, e0 ▸ (RS.wipeOnly (r.same s1) W), p0⟩, ?_⟩
    rintro i k σ' H' ⟨rfl, hi, G', a, s', m', r', p'⟩
    by_cases hlt : i < xs.length
    · have hlt' : i < (xs.map f).length := by rw [List.length_map]; exact hlt
      have hget : (xs.map f)[i]? = some (f xs[i]) := by rw [List.getElem?_map, List.getElem?_eq_getElem hlt]; rfl
      obtain ⟨hgo, hy⟩ := y.it i (f xs[i]) G' H' hget s' m'.same
      refine .inr ⟨hgo, fun σ'' H'' => ∃ G'' a', Same G1 G'' ∧ SM X.K G'' H'' (μI a') ∧ RS X.K G'' σ'' (ρI a') ∧ P (xs.drop (i + 1)) a', fun σ'' H'' h'' => ⟨_, by omega, rfl, hlt, h''⟩, fun x H2 hx => ?_⟩
      obtain ⟨G2, w, rx⟩ := hy x H2 hx
      have pc : P (xs[i] :: xs.drop (i + 1)) a := by rw [← List.drop_eq_getElem_cons hlt]; exact p'
      refine (hstep xs[i] _ a pc).run σ' G2 H2 x _ (m'.grow w) (r'.same w.g) rx fun σ3 ρ3 G3 H3 μ3 _ s3 m3 r3 k3 => ?_
      refine k3.run σ3 G3 H3 _ m3 r3 ⟨fun σ4 ρ4 G4 H4 μ4 s4 m4 r4 ⟨a', e4, eμ4, k4⟩ => ⟨G4, a', ((s'.trans w.g).trans s3).trans s4, eμ4 ▸ m4, e4 ▸ (RS.wipeOnly r4 W), k4⟩, fun d v G4 H4 μ4 s4 m4 rd k4 => q.rt d v G4 H4 μ4 ((((s1.trans s').trans w.g).trans s3).trans s4) m4 rd k4⟩
    · have e : i = xs.length := by omega
      subst e
      refine .inl ⟨?_, q.nx σ' (ρI a) G' H' (μI a) (s1.trans s') m' r' (hend a (by rw [List.drop_length] at p'; exact p'))⟩
      have := y.stop G' H' s' m'.same
      rwa [List.length_map] at this)⟩
/-! ### list comprehensions: the items still to come -/
/-- one turn: the place of the list is in front -/
structure LcT (X : Cx) (scope : Scope) (tg elt : Expr) (ifs : List Expr) (S : List Nat) (d : D) (ρ : Rho) (μ : Mu) (D0 : Addr) (acc : List D) (Yes : D → Mu → Prop) (No : Mu → Prop) : Prop where
  run : ∀ Y, BK X scope Y → WG Y tg S d ρ ((D0, .lst acc) :: μ) fun ρ2 μ2 => ∀ Y, BK X scope Y → WTs Y ifs ρ2 μ2 fun b μ3 => It b (∀ Y, BK X scope Y → WE Y elt ρ2 μ3 fun y μ4 => ∃ μ5, μ4 = (D0, .lst acc) :: μ5 ∧ Yes y μ5) (∃ μ5, μ3 = (D0, .lst acc) :: μ5 ∧ No μ5)
theorem wlc_L {α β : Type} {elt : Expr} {ifs : List Expr} {scope : Scope} {own : List (Str × Nat)} (f : β → D) (μI : α → Mu) (P : List β → List D → α → Prop)
    (h : WI X tg iter ρ μ fun ds μ1 => ∃ xs : List β, ds = xs.map f ∧ ∃ a0, μ1 = μI a0 ∧ P xs [] a0)
    (hstep : ∀ D0 x rest acc a, P (x :: rest) acc a → acc.length < 1000 ∧ LcT X scope tg elt ifs (own.map (·.2)) (f x) (wipeR ρ (own.map (·.2))) (μI a) D0 acc (fun y μ5 => ∃ a', μ5 = μI a' ∧ P rest (acc ++ [y]) a') (fun μ5 => ∃ a', μ5 = μI a' ∧ P rest acc a'))
    (hend : ∀ acc a, P [] acc a → Φ (.lst acc) (μI a)) : WLc X tg iter elt ifs scope own ρ μ Φ :=
  wlc ⟨fun σ G H R m r q => h.run σ G H R m r fun ds J G' H' μ' s1 m1 y ⟨xs, ed, a0, eμ, p0⟩ => q ds J G' H' μ' s1 m1 y
    ⟨fun i acc μ2 => ∃ a, μ2 = μI a ∧ P (xs.drop i) acc a, ⟨a0, eμ, p0⟩, fun D0 i d acc μ2 hi ⟨a, ea, hp⟩ => by
      subst ed ea
      have hi' : i < xs.length := by have := (List.getElem?_eq_some_iff.mp hi).1; rwa [List.length_map] at this
      rw [List.getElem?_map, List.getElem?_eq_getElem hi'] at hi
      have ed : f xs[i] = d := Option.some.inj hi
      subst ed
      have pc : P (xs[i] :: xs.drop (i + 1)) acc a := by rw [← List.drop_eq_getElem_cons hi']; exact hp
      obtain ⟨h1, h2⟩ := hstep D0 _ _ acc a pc
      exact ⟨h1, ⟨fun Y hY => h2.run Y hY⟩⟩, fun acc μ2 ⟨a, ea, hp⟩ => by
      subst ed ea
      rw [List.length_map, List.drop_length] at hp
      exact hend acc a hp⟩⟩
/-- nothing is written, nothing left out: f gives the items, g the answers -/
theorem wlc_N {β : Type} {elt : Expr} {scope : Scope} {own : List (Str × Nat)} (f g : β → D) (xs : List β)
    (h : WI X tg iter ρ μ fun ds μ1 => ds = xs.map f ∧ μ1 = μ) (hl : xs.length ≤ 1000)
    (hstep : ∀ x, x ∈ xs → ∀ (Y : Cx), BK X scope Y → ∀ ν, WG Y tg (own.map (·.2)) (f x) (wipeR ρ (own.map (·.2))) ν fun ρ2 μ2 => ∀ Y, BK X scope Y → WE Y elt ρ2 μ2 fun y μ4 => μ4 = ν ∧ y = g x)
    (k : Φ (.lst (xs.map g)) μ) : WLc X tg iter elt [] scope own ρ μ Φ :=
  wlc_L (α := Unit) f (fun _ => μ) (fun rest acc _ => acc ++ rest.map g = xs.map g ∧ (∀ x ∈ rest, x ∈ xs) ∧ acc.length + rest.length ≤ 1000)
    ⟨fun σ G H R m r q => h.run σ G H R m r fun ds J G' H' μ' s1 m1 y ⟨e1, e2⟩ => q ds J G' H' μ' s1 m1 y ⟨xs, e1, (), e2, rfl, fun _ h => h, by simpa using hl⟩⟩
    (fun D0 x rest acc _ ⟨h1, h2, h3⟩ => ⟨by simp at h3; omega, ⟨fun Y hY => ⟨fun σ G H v Q m r rd q => (hstep x (h2 x List.mem_cons_self) Y hY _).run σ G H v Q m r rd fun σ' ρ' G' H' μ' e1 s1 m1 r1 k1 => q σ' ρ' G' H' μ' e1 s1 m1 r1 fun Z hZ => wts_nil (it_t fun W hW =>
      ⟨fun σ G H Q m r q => (k1 W hW).run σ G H Q m r fun d v G5 H5 μ5 s5 m5 r5 ⟨e5, e6⟩ => q d v G5 H5 μ5 s5 m5 r5 ⟨μ, by
        -- the places are as before
        exact e5, (), rfl, by rw [e6, ← h1]; simp, fun y hy => h2 y (List.mem_cons_of_mem _ hy), by simp at h3 ⊢; omega⟩⟩)⟩⟩⟩)
    (fun acc _ ⟨h1, _⟩ => by simp at h1; rw [h1]; exact k)
end
end DL
namespace DL
open PySem PySem.Spec PyProof.Rows L2
theorem SM.putA {K : PySem.W.Frag} {G H : Hp} {μ μ' : Mu} {a : Addr} {c c' : M} {o : HO} (m : SM K G H μ) (hi : At μ a c c' μ') (hc : Cell K G (upd H a o) a c') : SM K G (upd H a o) μ' := by
  obtain ⟨i, h1, h2⟩ := hi.ix
  rw [h2]
  exact m.putL h1 hc
section
variable {X : Cx} {ρ : Rho} {μ : Mu} {Φ : D → Mu → Prop} {F : Fx} {a b c e o i : Expr} {pos p : Pos} {es : List Expr} {tg iter : Expr}
theorem wlc_F {β : Type} {elt : Expr} {ifs : List Expr} {scope : Scope} {own : List (Str × Nat)} (f g : β → D) (pr : β → Bool) (xs : List β)
    (h : WI X tg iter ρ μ fun ds μ1 => ds = xs.map f ∧ μ1 = μ) (hl : xs.length ≤ 1000)
    (hstep : ∀ x, x ∈ xs → ∀ (Y : Cx), BK X scope Y → ∀ ν, WG Y tg (own.map (·.2)) (f x) (wipeR ρ (own.map (·.2))) ν fun ρ2 μ2 => ∀ Y, BK X scope Y → WTs Y ifs ρ2 μ2 fun b μ3 => μ3 = ν ∧ b = pr x ∧ (pr x = true → ∀ Y, BK X scope Y → WE Y elt ρ2 μ3 fun y μ4 => μ4 = ν ∧ y = g x))
    (k : Φ (.lst ((xs.filter pr).map g)) μ) : WLc X tg iter elt ifs scope own ρ μ Φ :=
  wlc_L (α := Unit) f (fun _ => μ) (fun rest acc _ => acc ++ (rest.filter pr).map g = (xs.filter pr).map g ∧ (∀ x ∈ rest, x ∈ xs) ∧ acc.length + rest.length ≤ 1000)
    ⟨fun σ G H R m r q => h.run σ G H R m r fun ds J G' H' μ' s1 m1 y ⟨e1, e2⟩ => q ds J G' H' μ' s1 m1 y ⟨xs, e1, (), e2, rfl, fun _ h => h, by simpa using hl⟩⟩
    (fun D0 x rest acc _ ⟨h1, h2, h3⟩ => ⟨by simp at h3; omega, ⟨fun Y hY => ⟨fun σ G H v Q m r rd q => (hstep x (h2 x List.mem_cons_self) Y hY _).run σ G H v Q m r rd fun σ' ρ' G' H' μ' e1 s1 m1 r1 k1 => q σ' ρ' G' H' μ' e1 s1 m1 r1 fun Z hZ =>
      ⟨fun σ G H Q m r q => (k1 Z hZ).run σ G H Q m r fun b G4 H4 μ4 s4 m4 ⟨e4, e5, k4⟩ => q b G4 H4 μ4 s4 m4 (by
        subst e5
        refine it_c (fun hb W hW => ⟨fun σ G H Q m r q => (k4 hb W hW).run σ G H Q m r fun d v G5 H5 μ5 s5 m5 r5 ⟨e5, e6⟩ => q d v G5 H5 μ5 s5 m5 r5 ⟨μ, e5, (), rfl, ?_, fun y hy => h2 y (List.mem_cons_of_mem _ hy), by simp at h3 ⊢; omega⟩⟩) fun hb => ⟨μ, e4, (), rfl, ?_, fun y hy => h2 y (List.mem_cons_of_mem _ hy), by simp at h3 ⊢; omega⟩
        · rw [e6, ← h1, List.filter_cons, if_pos hb]; simp
        · rw [← h1, List.filter_cons, if_neg (by rw [hb]; exact Bool.false_ne_true)])⟩⟩⟩⟩)
    (fun acc _ ⟨h1, _⟩ => by simp at h1; rw [h1]; exact k)

/-! ### lists: written -/
/-- o.append(e) -/
theorem we_app {apos : Pos} (h : WE X o ρ μ fun x μ1 => ∃ (q : Addr) (ds0 : List D) (μ0 : Mu), x = .ref q ∧ Pick μ1 q (.lst ds0) μ0 ∧ WE X e ρ μ1 fun d μ2 => ∃ (ds : List D) (μ' : Mu), At μ2 q (.lst ds) (.lst (ds ++ [d])) μ' ∧ ds.length < 1000 ∧ Φ .non μ')
    (hbase : attributeBase o "append" X.env (eval o X.env) = eval o X.env := by rfl)
    (hfew : ((backTo pos (starEach [e] X.env)).all (fun x => !x.1) && (backToKw pos (keywordEach [] X.env)).all (fun x => x.1.isSome) && decide ([e].length + ([] : List Keyword).length + (if ([] : List Keyword).isEmpty then 0 else 1) < 30)) = true := by rfl)
    (hline : (apos.endLine == pos.line) = true := by rfl) (hs : starEach [e] X.env = (false, eval e X.env) :: starEach [] X.env := by rfl) (hpl : (backTo pos (starEach [] X.env)).any (·.1) = false := by rfl) :
    WE X (.Call (.Attribute o "append" apos) [e] [] pos) ρ μ Φ := ⟨fun σ G H Q m r q =>
  toW (pe_bm PySem.F.plainAttrs_list PySem.F.slot_list_append PySem.F.type_list_append mt_append pe_W pa_W hbase hfew hline hs hpl)
    (h.run σ G H _ m r fun x v G1 H1 μ1 s1 m1 rx ⟨l, ds0, μ0, ex, pk, k⟩ => by
      subst ex
      cases rx
      obtain ⟨_, xs0, hx0, _⟩ := m1.cell _ pk.mem
      refine ⟨.inl ⟨rfl, xs0, SqL.of hx0⟩, ?_⟩
      refine (wa_one k hs).run σ G1 H1 _ m1 (r.same s1) fun ds' vs G2 H2 μ2 s2 m2 r2 ⟨d, ed, ds, μ', at', hl, k2⟩ => ?_
      subst ed
      obtain ⟨v, ev, rv⟩ := r2.oneV
      subst ev
      obtain ⟨g0, xs, hx, rs⟩ := m2.cell _ at'.mem
      refine ⟨l, xs, v, rfl, rfl, hx, by rw [rs.length]; exact Nat.lt_of_lt_of_le hl (sz1000 (Nat.le_refl _)), ?_⟩
      exact q .non .non G2 _ μ' (s1.trans s2) (m2.putA at' ⟨g0, _, upd_same, rs.app (.cons rv .nil)⟩) .non k2)⟩
/-- o.pop() -/
theorem we_pop {apos : Pos} (h : WE X o ρ μ fun x μ1 => ∃ (l : Addr) (ds : List D) (d : D) (μ' : Mu), x = .ref l ∧ At μ1 l (.lst (ds ++ [d])) (.lst ds) μ' ∧ Φ d μ')
    (hbase : attributeBase o "pop" X.env (eval o X.env) = eval o X.env := by rfl) (hline : (apos.endLine == pos.line) = true := by rfl) : WE X (.Call (.Attribute o "pop" apos) [] [] pos) ρ μ Φ := ⟨fun σ G H Q m r q =>
  toW (pe_bm0 PySem.F.plainAttrs_list PySem.F.slot_list_pop PySem.F.type_list_pop mt_pop pe_W hbase hline)
    (h.run σ G H _ m r fun x v G1 H1 μ1 s1 m1 rx ⟨l, ds, d, μ', ex, at', k⟩ => by
      subst ex
      cases rx
      obtain ⟨g0, xs, hx, rs⟩ := m1.cell _ at'.mem
      have hn : (ds ++ [d])[ds.length]? = some d := by simp
      obtain ⟨y, hy, ry⟩ := rs.get hn
      have hl : xs.length - 1 = ds.length := by rw [rs.length]; simp
      refine ⟨.inl ⟨rfl, xs, SqL.of hx⟩, l, xs, y, rfl, rfl, hx, by rw [hl]; exact hy, ?_⟩
      refine q d y G1 _ μ' s1 (m1.putA at' ⟨g0, _, upd_same, ?_⟩) ry k
      have := rs.dropLast
      rwa [List.dropLast_concat] at this)⟩
/-- o.extend(a list) -/
theorem we_ext {apos : Pos} (h : WE X o ρ μ fun x μ1 => ∃ (q : Addr) (ds0 : List D) (μ0 : Mu), x = .ref q ∧ Pick μ1 q (.lst ds0) μ0 ∧ WE X e ρ μ1 fun d μ2 => ∃ (ds es : List D) (μ' : Mu), LsD μ2 d es ∧ At μ2 q (.lst ds) (.lst (ds ++ es)) μ' ∧ ds.length + es.length ≤ 1000 ∧ Φ .non μ')
    (hbase : attributeBase o "extend" X.env (eval o X.env) = eval o X.env := by rfl)
    (hfew : ((backTo pos (starEach [e] X.env)).all (fun x => !x.1) && (backToKw pos (keywordEach [] X.env)).all (fun x => x.1.isSome) && decide ([e].length + ([] : List Keyword).length + (if ([] : List Keyword).isEmpty then 0 else 1) < 30)) = true := by rfl)
    (hline : (apos.endLine == pos.line) = true := by rfl) (hs : starEach [e] X.env = (false, eval e X.env) :: starEach [] X.env := by rfl) (hpl : (backTo pos (starEach [] X.env)).any (·.1) = false := by rfl) :
    WE X (.Call (.Attribute o "extend" apos) [e] [] pos) ρ μ Φ := ⟨fun σ G H Q m r q =>
  toW (pe_bm PySem.F.plainAttrs_list PySem.F.slot_list_extend PySem.F.type_list_extend mt_extend pe_W pa_W hbase hfew hline hs hpl)
    (h.run σ G H _ m r fun x v G1 H1 μ1 s1 m1 rx ⟨l, ds0, μ0, ex, pk, k⟩ => by
      subst ex
      cases rx
      obtain ⟨_, xs0, hx0, _⟩ := m1.cell _ pk.mem
      refine ⟨.inl ⟨rfl, xs0, SqL.of hx0⟩, ?_⟩
      refine (wa_one k hs).run σ G1 H1 _ m1 (r.same s1) fun ds' vs G2 H2 μ2 s2 m2 r2 ⟨d, ed, ds, es, μ', hd, at', hl, k2⟩ => ?_
      subst ed
      obtain ⟨v, ev, rv⟩ := r2.oneV
      subst ev
      obtain ⟨g0, xs, hx, rs⟩ := m2.cell _ at'.mem
      obtain ⟨b, ys, rfl, hb, rs2⟩ := lsd_at m2 rv hd
      refine ⟨l, b, xs, ys, rfl, rfl, hx, hb, by rw [rs.length, rs2.length]; exact sz1000 hl, ?_⟩
      exact q .non .non G2 _ μ' (s1.trans s2) (m2.putA at' ⟨g0, _, upd_same, rs.app rs2⟩) .non k2)⟩
/-- o[i] = .. of a list -/
theorem wg_subL {S : List Nat} {d : D} {Φ : Rho → Mu → Prop} (h : WE X o ρ μ fun x μ1 => WE X i ρ μ1 fun y μ2 => ∃ (l : Addr) (k : Int) (j : Nat) (ds : List D) (μ' : Mu), x = .ref l ∧ y = .int k ∧ At μ2 l (.lst ds) (.lst (ds.set j d)) μ' ∧ ixN ds.length k = some j ∧ Φ ρ μ')
    (ha : ∀ v, assign (.Subscript o i pos) X.env v = (do
      let ov ← holding [v] (eval o X.env)
      let iv ← holding [v, ov] (eval i X.env)
      standAt pos
      holding [v, ov, iv] (setItem ov iv v)
      release [v, ov, iv] []) := by intro _; rfl) : WG X (.Subscript o i pos) S d ρ μ Φ := ⟨fun σ G H v Q m r rd q =>
  toWG (pg_sub pe_W pe_W set_list ha) (h.run σ G H _ m r fun x vx G1 H1 μ1 s1 m1 rx k1 => k1.run σ G1 H1 _ m1 (r.same s1) fun y vy G2 H2 μ2 s2 m2 ry ⟨l, k, j, ds, μ', ex, ey, at', hj, k2⟩ => by
    subst ex ey
    cases rx; cases ry
    obtain ⟨g0, xs, hx, rs⟩ := m2.cell _ at'.mem
    refine ⟨l, xs, k, j, rfl, rfl, hx, by rw [rs.length]; exact hj, ?_⟩
    exact q σ ρ G2 _ μ' rfl (s1.trans s2) (m2.putA at' ⟨g0, _, upd_same, Reps.set (rd.same (s1.trans s2)) j rs⟩) (r.same (s1.trans s2)) k2)⟩

/-! ### +, *, slices, stars -/
end
section
variable {K : PySem.W.Frag} {μ : Mu} {Φ : D → Mu → Prop}
/-- a list + a list -/
theorem rd_cat {x y : D} {xs ys : List D} (hx : LsD μ x xs) (hy : LsD μ y ys) (hl : xs.length + ys.length ≤ 1000) (k : Φ (.lst (xs ++ ys)) μ) : RD K rCat x y μ Φ := ⟨fun G H vx vy Q m rx ry q => by
  obtain ⟨a, us, rfl, ha, ra⟩ := lsd_at m rx hx
  obtain ⟨b, vs, rfl, hb, rb⟩ := lsd_at m ry hy
  refine ⟨a, b, us, vs, rfl, rfl, ha, hb, by rw [ra.length, rb.length]; exact sz1000 hl, fun p hp => ?_⟩
  have w := grow_new (o := .lst (us ++ vs)) m.same hp
  exact q _ _ _ _ μ w.g (m.grow w) (.lst upd_same ((ra.app rb).same w.g)) k⟩
theorem reps_rep {G : Hp} {xs : List V} {ds : List D} (r : Reps K G xs ds) : ∀ n : Nat, Reps K G (List.replicate n xs).flatten (List.replicate n ds).flatten
  | 0 => .nil
  | n + 1 => by
    rw [List.replicate_succ, List.replicate_succ, List.flatten_cons, List.flatten_cons]
    exact r.app (reps_rep r n)
/-- a list * an int -/
theorem rd_rep {x : D} {xs : List D} {n : Int} (hx : LsD μ x xs) (h1 : -(2 ^ 63) ≤ n) (h2 : n < 2 ^ 63) (hl : xs.length * n.toNat ≤ 1000) (k : Φ (.lst (List.replicate n.toNat xs).flatten) μ) : RD K rRep x (.int n) μ Φ := ⟨fun G H vx vy Q m rx ry q => by
  obtain ⟨a, us, rfl, ha, ra⟩ := lsd_at m rx hx
  cases ry
  refine ⟨a, n, us, rfl, rfl, ha, h1, h2, by rw [ra.length]; exact sz1000 hl, fun p hp => ?_⟩
  have w := grow_new (o := .lst (List.replicate n.toNat us).flatten) m.same hp
  exact q _ _ _ _ μ w.g (m.grow w) (.lst upd_same ((reps_rep ra _).same w.g)) k⟩
theorem Reps.nil_of {G : Hp} {xs : List V} {ds : List D} (r : Reps K G xs ds) : xs = [] ↔ ds = [] := by
  cases r <;> simp
/-- a tuple + a tuple -/
theorem rd_catT {xs ys : List D} (hl : xs.length + ys.length ≤ 1000) (k : Φ (.tup (xs ++ ys)) μ) : RD K (rCatA K) (.tup xs) (.tup ys) μ Φ := ⟨fun G H vx vy Q m rx ry q => by
  cases rx with
  | @tup a us _ ha ra =>
    cases ry with
    | @tup b vs _ hb rb =>
      refine ⟨a, b, us, vs, rfl, rfl, sqt_same m.same ha, sqt_same m.same hb, by rw [ra.length, rb.length]; exact sz1000 hl, fun e => ?_, fun e1 e2 => ?_, fun e1 e2 p hp => ?_⟩
      · have e' := ra.nil_of.mp e
        subst e'
        exact q _ _ G H μ (Same.refl G) m (.tup hb rb) k
      · have e' := rb.nil_of.mp e2
        subst e'
        rw [List.append_nil] at k
        exact q _ _ G H μ (Same.refl G) m (.tup ha ra) k
      · have w := grow_new (o := .tup (us ++ vs)) m.same hp
        exact q _ _ _ _ μ w.g (m.grow w) (.tup (.inl (.inl upd_same)) ((ra.app rb).same w.g)) k⟩
def cutD (xs : List D) (lo hi : Option Int) : List D := (xs.drop (HT.sIx xs.length 0 lo)).take (HT.sIx xs.length xs.length hi - HT.sIx xs.length 0 lo)
theorem reps_cut {G : Hp} {xs : List V} {ds : List D} (r : Reps K G xs ds) (lo hi : Option Int) : Reps K G (cutV xs lo hi) (cutD ds lo hi) := by
  unfold cutV cutD
  rw [r.length]
  exact (r.drop _).take _
end
section
variable {X : Cx} {ρ : Rho} {μ : Mu} {Φ : D → Mu → Prop} {F : Fx} {a b c e o i : Expr} {pos p p2 : Pos} {es : List Expr} {tg iter : Expr}
def tWO (X : Cx) (e : Option Expr) : TO := fun σ H Q => ∀ (pins : List (Addr × Obj)) (s : Shared), Inv X pins σ H s → wpAny (model X.prog X.w) X.A (evalPart e X.env) (fun u s' => ∃ o H', Inv X pins σ H' s' ∧ IsPart u o ∧ Q o H') X.xe s
theorem po_W {e : Option Expr} : PO X e (tWO X e) := ⟨fun pins s σ H Q I h => h pins s I⟩
/-- a part of a slice -/
structure WO (X : Cx) (e : Option Expr) (ρ : Rho) (μ : Mu) (Φ : Option Int → Mu → Prop) : Prop where
  run : ∀ (σ : L2.St) (G H : Hp) (Q : Option Int → Hp → Prop), SM X.K G H μ → RS X.K G σ ρ → (∀ (o : Option Int) (G' H' : Hp) (μ' : Mu), Same G G' → SM X.K G' H' μ' → Φ o μ' → Q o H') → tWO X e σ H Q
theorem wo_no {Φ : Option Int → Mu → Prop} (k : Φ none μ) : WO X none ρ μ Φ := ⟨fun σ G H Q m r q pins s I => po_none.run pins s σ H Q I (q none G H μ (Same.refl G) m k)⟩
theorem wo_so {Φ : Option Int → Mu → Prop} (k : WE X e ρ μ fun d μ1 => ∃ i, d = .int i ∧ Φ (some i) μ1) : WO X (some e) ρ μ Φ := ⟨fun σ G H Q m r q pins s I => (po_some pe_W).run pins s σ H Q I (k.run σ G H _ m r fun d v G1 H1 μ1 s1 m1 rd ⟨i, ed, k1⟩ => by
  subst ed
  cases rd
  exact ⟨i, rfl, q _ G1 H1 μ1 s1 m1 k1⟩)⟩
/-- e[lo:hi] of a list, not written -/
theorem we_slL {lo hi : Option Expr} (h : WE X e ρ μ fun x μ1 => WO X lo ρ μ1 fun l μ2 => WO X hi ρ μ2 fun u μ3 => ∃ ds, LsD μ3 x ds ∧ Φ (.lst (cutD ds l u)) μ3) : WE X (.Subscript e (.Slice lo hi none p2) pos) ρ μ Φ := ⟨fun σ G H Q m r q =>
  toW (pe_slice sl_list pe_W po_W po_W) (h.run σ G H _ m r fun x v G1 H1 μ1 s1 m1 rx k1 => k1.run σ G1 H1 _ m1 (r.same s1) fun l G2 H2 μ2 s2 m2 k2 => k2.run σ G2 H2 _ m2 ((r.same s1).same s2) fun u G3 H3 μ3 s3 m3 ⟨ds, hd, k3⟩ => by
    obtain ⟨a, ys, rfl, ha, rs⟩ := lsd_sq m3 (rx.same (s2.trans s3)) hd
    refine ⟨a, ys, rfl, ha, fun p hp => ?_⟩
    have w := grow_new (o := .lst (cutV ys l u)) m3.same hp
    exact q _ _ _ _ μ3 (((s1.trans s2).trans s3).trans w.g) (m3.grow w) (.lst upd_same ((reps_cut rs l u).same w.g)) k3)⟩
theorem cutD_whole {ds : List D} {lo hi : Option Int} (h : HT.sIx ds.length 0 lo = 0 ∧ HT.sIx ds.length ds.length hi = ds.length) : cutD ds lo hi = ds := by
  unfold cutD
  rw [h.1, h.2, List.drop_zero, Nat.sub_zero, List.take_length]
/-- .. of a tuple -/
theorem we_slT {lo hi : Option Expr} (h : WE X e ρ μ fun x μ1 => WO X lo ρ μ1 fun l μ2 => WO X hi ρ μ2 fun u μ3 => ∃ ds, x = .tup ds ∧ Φ (.tup (cutD ds l u)) μ3) : WE X (.Subscript e (.Slice lo hi none p2) pos) ρ μ Φ := ⟨fun σ G H Q m r q =>
  toW (pe_slice sl_tupA pe_W po_W po_W) (h.run σ G H _ m r fun x v G1 H1 μ1 s1 m1 rx k1 => k1.run σ G1 H1 _ m1 (r.same s1) fun l G2 H2 μ2 s2 m2 k2 => k2.run σ G2 H2 _ m2 ((r.same s1).same s2) fun u G3 H3 μ3 s3 m3 ⟨ds, ed, k3⟩ => by
    subst ed
    have rx' := rx.same (s2.trans s3)
    cases rx' with
    | @tup a ys _ ha rs =>
      refine ⟨a, ys, rfl, sqt_same m3.same ha, fun hw => ?_, fun hw p hp => ?_⟩
      · rw [rs.length] at hw
        rw [cutD_whole hw] at k3
        exact q _ _ _ _ μ3 ((s1.trans s2).trans s3) m3 (.tup ha rs) k3
      · have w := grow_new (o := .tup (cutV ys l u)) m3.same hp
        exact q _ _ _ _ μ3 (((s1.trans s2).trans s3).trans w.g) (m3.grow w) (.tup (.inl (.inl upd_same)) ((reps_cut rs l u).same w.g)) k3)⟩
/-- *e in a display -/
theorem wa_star {Φ : List D → Mu → Prop} (k : WE X e ρ μ fun d μ1 => ∃ xs, SqD μ1 d xs ∧ WA X es ρ μ1 fun ds μ2 => Φ (xs ++ ds) μ2) (hs : starEach (.Starred e p :: es) X.env = (true, eval e X.env) :: starEach es X.env := by rfl) : WA X (.Starred e p :: es) ρ μ Φ := ⟨fun σ G H Q m r q =>
  toWA (StX.pa_star pe_W pa_W hs) (k.run σ G H _ m r fun d v G1 H1 μ1 s1 m1 rd ⟨xs, hd, k1⟩ => by
    obtain ⟨a, ys, rfl, ha, rs⟩ := sqd_sq m1 rd hd
    exact ⟨a, ys, rfl, ha.symm, k1.run σ G1 H1 _ m1 (r.same s1) fun ds vs G2 H2 μ2 s2 m2 rds k2 => q _ _ G2 H2 μ2 (s1.trans s2) m2 ((rs.same s2).app rds) k2⟩)⟩
/-- a, b = x, y -/
theorem ws_par {N : Rho → Mu → Prop} {R : D → Mu → Prop} (i j : Nat) {x y : Str} {px py pt : Pos} {kt k2 : Nat} {pt2 : Pos} (hc : X.calm = true) (hN : X.N.Nodup) (k : WE X a ρ μ fun d μ1 => WE X b ρ μ1 fun d2 μ2 => N ((ρ.set i (some d)).set j (some d2)) μ2)
    (hi : X.N[i]? = some x := by rfl) (hj : X.N[j]? = some y := by rfl) (hij : i ≠ j := by decide)
    (hx : X.env.scope.names.lookup x = some .local := by rfl) (hy : X.env.scope.names.lookup y = some .local := by rfl)
    (hw : swappedStores [.Tuple [.Name x px, .Name y py] kt pt] (.Tuple [a, b] k2 pt2) X.env = pure (some [x, y]) := by rfl)
    (hs : swapsWithSole [.Tuple [.Name x px, .Name y py] kt pt] (.Tuple [a, b] k2 pt2) pos.line X.env = pure false := by rfl)
    (he : starEach [a, b] X.env = (false, eval a X.env) :: starEach [b] X.env := by rfl) (he2 : starEach [b] X.env = (false, eval b X.env) :: starEach [] X.env := by rfl) :
    WS X (.Assign [.Tuple [.Name x px, .Name y py] kt pt] (.Tuple [a, b] k2 pt2) pos) ρ μ ⟨N, R⟩ := ⟨fun σ G H E m r q =>
  toWS (ps_par hc hN hi hj hij hx hy pa_W hw hs) ((wa_two k he he2).run σ G H _ m r fun ds vs G1 H1 μ1 s1 m1 r1 ⟨d, d2, ed, k1⟩ => by
    subst ed
    cases r1 with
    | cons r1 r2 =>
      obtain ⟨v2, e, r3⟩ := r2.oneV
      subst e
      exact ⟨_, v2, rfl, q.nx _ _ G1 H1 μ1 s1 m1 (((r.same s1).set i r1).set j r3) k1⟩)⟩
end
end DL
namespace DL
open PySem PySem.Spec PyProof.Rows L2


theorem p0 {X : Cx} {E : XK} : Passes CX0 X E := fun _ _ _ _ _ _ _ h => h.elim
def Sl (K : PySem.W.Frag) (C : Addr) (f : Str) (i : Nat) : Prop := ∃ p, SlX.Slot1 K C f p i
/-- what the i-th slot of an instance holds -/
def InsD (μ : Mu) (x : D) (C : Addr) (i : Nat) (d : D) : Prop := (∃ ds, x = .ins C ds ∧ ds[i]? = some d) ∨ ∃ (a : Addr) (fs : List (Option D)) (μ' : Mu), x = .ref a ∧ Pick μ a (.ins C fs) μ' ∧ fs[i]? = some (some d)
theorem insd_f {μ : Mu} {C : Addr} {i : Nat} {d : D} {ds : List D} (h : ds[i]? = some d) : InsD μ (.ins C ds) C i d := .inl ⟨ds, rfl, h⟩
theorem insd_m {μ μ' : Mu} {C a : Addr} {i : Nat} {d : D} {fs : List (Option D)} (h : Pick μ a (.ins C fs) μ') (e : fs[i]? = some (some d)) : InsD μ (.ref a) C i d := .inr ⟨a, fs, μ', rfl, h, e⟩
theorem recv_f {μ : Mu} {C : Addr} {ds : List D} : Recv μ (.ins C ds) C := .inl ⟨ds, rfl⟩
theorem recv_m {μ μ' : Mu} {C a : Addr} {fs : List (Option D)} (h : Pick μ a (.ins C fs) μ') : Recv μ (.ref a) C := .inr ⟨a, fs, μ', rfl, h⟩
def putD (i : Nat) (d : D) (fs : List (Option D)) : List (Option D) := (fs ++ List.replicate (i + 1 - fs.length) none).set i (some d)
theorem putD_len (i : Nat) (d : D) (v : V) {fs : List (Option D)} {vs : List (Option V)} (h : vs.length = fs.length) : (SlX.putS i v vs).length = (putD i d fs).length := by
  unfold SlX.putS putD
  simp [h]
section
variable {K : PySem.W.Frag} {μ : Mu}
theorem insd_at {G H : Hp} {v : V} {x d : D} {C : Addr} {i : Nat} (m : SM K G H μ) (r : Rep K G v x) (h : InsD μ x C i d) : ∃ (a dx : Addr) (vs : List (Option V)) (w : V), v = .ref a ∧ SlX.Slt H a C dx vs ∧ vs[i]? = some (some w) ∧ Rep K G w d := by
  rcases h with ⟨ds, rfl, hi⟩ | ⟨a, fs, μ', rfl, pk, hi⟩
  · cases r with
    | @ins a _ dx vs xs _ hs ev rs =>
      obtain ⟨w, hw, rw'⟩ := rs.get hi
      exact ⟨a, dx, vs, w, rfl, slt_same m.same hs, by rw [ev, List.getElem?_map, hw]; rfl, rw'⟩
  · cases r
    obtain ⟨_, dx, vs, _, _, hs, _, hv⟩ := m.cell _ pk.mem
    obtain ⟨w, hw, rw'⟩ := hv i d hi
    exact ⟨a, dx, vs, w, rfl, hs, hw, rw'⟩
/-- a slot is stored -/
theorem SM.slot {G H : Hp} {μ' : Mu} {a C : Addr} {i : Nat} {d : D} {v : V} {fs : List (Option D)} (m : SM K G H μ) (hi : At μ a (.ins C fs) (.ins C (putD i d fs)) μ') (r : Rep K G v d) :
    ∃ (dx : Addr) (vs : List (Option V)), SlX.Slt H a C dx vs ∧ SM K G (SlX.slH H a C dx (SlX.putS i v vs)) μ' := by
  obtain ⟨j, h1, h2⟩ := hi.ix
  obtain ⟨g, dx, vs, gd, hd, hs, hl, hv⟩ := m.cell _ hi.mem
  have nda : dx ≠ a := by
    rintro rfl
    obtain ⟨o, ho, n1, n2⟩ := slt_kind hs
    rw [ho] at hd
    rcases hd with e | e
    · exact n1 _ (Option.some.inj e)
    · exact n2 (Option.some.inj e)
  refine ⟨dx, vs, hs, ?_⟩
  rw [h2]
  refine m.put h1 dx (.inr ⟨gd, ?_⟩) (fun b n1 n2 => SlX.slH_ne n1 n2) ?_
  · have e2 : SlX.slH H a C dx (SlX.putS i v vs) dx = some (.xd []) := by
      unfold SlX.slH
      rw [upd_ne nda, upd_same]
    rcases hd with e | e
    · exact ⟨_, e, .inl rfl, e2⟩
    · exact ⟨_, e, .inr rfl, e2⟩
  · refine ⟨g, dx, SlX.putS i v vs, gd, .inr ?_, SlX.slH_slt nda, putD_len i d v hl, fun k e he => ?_⟩
    · unfold SlX.slH
      rw [upd_ne nda, upd_same]
    · by_cases hk : k = i
      · subst hk
        have : (putD k d fs)[k]? = some (some d) := by
          unfold putD
          exact List.getElem?_set_self (by simp only [List.length_append, List.length_replicate]; omega)
        rw [this] at he
        cases he
        exact ⟨v, SlX.putS_get k v vs, r⟩
      · have he' : fs[k]? = some (some e) := by
          unfold putD at he
          rw [List.getElem?_set_ne (Ne.symm hk)] at he
          by_cases hlt : k < fs.length
          · rwa [List.getElem?_append_left hlt] at he
          · rw [List.getElem?_append_right (by omega), List.getElem?_replicate] at he
            split at he <;> cases he
        obtain ⟨w, h3, h4⟩ := hv k e he'
        exact ⟨w, (SlX.putS_ne hk).mpr h3, h4⟩
end
section
variable {X : Cx} {ρ : Rho} {μ : Mu} {Φ : D → Mu → Prop} {F : Fx} {a b c e o i : Expr} {pos p apos : Pos} {es : List Expr} {tg iter : Expr}
/-- e.f, a slot -/
theorem we_at {f : Str} (h : WE X e ρ μ fun x μ1 => ∃ C j d, InsD μ1 x C j d ∧ Kl X.K C ∧ Sl X.K C f j ∧ Φ d μ1) (hb : attributeBase e f X.env (eval e X.env) = eval e X.env := by rfl) : WE X (.Attribute e f pos) ρ μ Φ := ⟨fun σ G H Q m r q =>
  toW (SlX.pe_sl pe_W hb) (h.run σ G H _ m r fun x v G1 H1 μ1 s1 m1 rx ⟨C, j, d, hi, kl, ⟨p, sl⟩, k⟩ => by
    obtain ⟨a, dx, vs, w, rfl, hs, hw, rw'⟩ := insd_at m1 rx hi
    exact ⟨a, C, dx, p, vs, j, w, rfl, hs, kl.c, sl, hw, q d w G1 H1 μ1 s1 m1 rw' k⟩)⟩
/-- o.f = e -/
theorem ws_at {N : Rho → Mu → Prop} {R : D → Mu → Prop} {f : Str} {pos' : Pos} (h : WE X e ρ μ fun d μ1 => WE X o ρ μ1 fun x μ2 => ∃ a C j fs μ', x = .ref a ∧ At μ2 a (.ins C fs) (.ins C (putD j d fs)) μ' ∧ Kl X.K C ∧ Sl X.K C f j ∧ N ρ μ')
    (hs : swapsWith e (some (.Attribute o f pos')) pos.line X.env = pure false := by rfl) : WS X (.Assign [.Attribute o f pos'] e pos) ρ μ ⟨N, R⟩ := ⟨fun σ G H E m r q =>
  toWS (SlX.ps_sl pe_W pe_W hs) (h.run σ G H _ m r fun d v G1 H1 μ1 s1 m1 rd k1 => k1.run σ G1 H1 _ m1 (r.same s1) fun x vx G2 H2 μ2 s2 m2 rx ⟨a, C, j, fs, μ', ex, at', kl, ⟨p, sl⟩, k2⟩ => by
    subst ex
    cases rx
    obtain ⟨dx, vs, hsl, m3⟩ := m2.slot at' (rd.same s2)
    exact ⟨a, C, dx, p, vs, j, rfl, hsl, kl.c, sl, q.nx σ ρ G2 _ μ' (s1.trans s2) m3 (r.same (s1.trans s2)) k2⟩)⟩

/-! ### own methods, special methods -/
structure Om (CX : CXT) (P : Program) (w : World) (K : PySem.W.Frag) (mg : Str → Option Value) (base : Heap) (k : Nat) (C : Addr) (m : Str) (S : Spec) : Prop where
  ex : ∃ g : Addr, PySem.W.findIn K (.ref C) m = some (some (.ref g)) ∧ PySem.W.isFn K (.ref g) = true ∧ PySem.W.fnIn K g = true ∧ PySem.W.keepIn K (.ref g) = true ∧ FnR P w K mg base CX k g (spD K S)
theorem Om.up {CX : CXT} {P : Program} {w : World} {K : PySem.W.Frag} {mg : Str → Option Value} {base : Heap} {j k : Nat} {C : Addr} {x : Str} {S : Spec} (c : Om CX P w K mg base j C x S) (h : j ≤ k) : Om CX P w K mg base k C x S := by
  obtain ⟨f, h1, h2, h3, h4, h5⟩ := c.ex
  exact ⟨f, h1, h2, h3, h4, h5.mono h⟩
abbrev Omx (X : Cx) (k : Nat) (C : Addr) (m : Str) (S : Spec) : Prop := Om CX0 X.prog X.w X.K X.mg X.base k C m S
theorem we_meth {k : Nat} {C : Addr} {m : Str} {S : Spec} {pl : Sem Bool} (M : Omx X k C m S) (kl : Kl X.K C) (hr : Room k X.A) (h : WE X o ρ μ fun x μ1 => Recv μ1 x C ∧ WA X (e :: es) ρ μ1 fun ds μ2 => S (x :: ds) μ2 Φ noX)
    (hst : starEach (e :: es) X.env = (false, eval e X.env) :: starEach es X.env := by rfl) (hpl : (backTo pos (starEach es X.env)).any (·.1) = false := by rfl)
    (ht : eval (.Call (.Attribute o m apos) (e :: es) [] pos) X.env = (do
      let ov ← eval o X.env
      standAt apos.atName
      let (f, first) ← holding [ov] (getMethod ov m pl)
      callWith pos f first (backTo pos (starEach (e :: es) X.env)) (backToKw pos (keywordEach [] X.env))) := by rfl) :
    WE X (.Call (.Attribute o m apos) (e :: es) [] pos) ρ μ Φ := ⟨fun σ G H Q mm r q => by
  obtain ⟨g, h1, h2, h3, h4, Fr⟩ := M.ex
  exact toW (SlX.pe_methSl pe_W kl.c ⟨h1, h2, h4⟩ Fr hr (p0 (E := fun _ _ _ => False)) pa_W hst hpl ht) (h.run σ G H _ mm r fun x v G1 H1 μ1 s1 m1 rx ⟨hv, k1⟩ => by
    obtain ⟨a, dx, vs, rfl, hs⟩ := recv_slt m1 rx hv
    exact ⟨a, dx, vs, rfl, hs, k1.run σ G1 H1 _ m1 (r.same s1) fun ds us G2 H2 μ2 s2 m2 rds k2 => spD_of m2 (.cons (rx.same s2) rds) k2 (q.same (s1.trans s2))⟩)⟩
theorem we_meth0 {k : Nat} {C : Addr} {m : Str} {S : Spec} {pl : Sem Bool} (M : Omx X k C m S) (kl : Kl X.K C) (hr : Room k X.A) (h : WE X o ρ μ fun x μ1 => Recv μ1 x C ∧ S [x] μ1 Φ noX)
    (ht : eval (.Call (.Attribute o m apos) [] [] pos) X.env = (do
      let ov ← eval o X.env
      standAt apos.atName
      let (f, first) ← holding [ov] (getMethod ov m pl)
      callWith pos f first (backTo pos (starEach [] X.env)) (backToKw pos (keywordEach [] X.env))) := by rfl) :
    WE X (.Call (.Attribute o m apos) [] [] pos) ρ μ Φ := ⟨fun σ G H Q mm r q => by
  obtain ⟨g, h1, h2, h3, h4, Fr⟩ := M.ex
  exact toW (SlX.pe_methSl0 pe_W kl.c ⟨h1, h2, h4⟩ Fr hr (p0 (E := fun _ _ _ => False)) ht) (h.run σ G H _ mm r fun x v G1 H1 μ1 s1 m1 rx ⟨hv, k1⟩ => by
    obtain ⟨a, dx, vs, rfl, hs⟩ := recv_slt m1 rx hv
    exact ⟨a, dx, vs, rfl, hs, spD_of (E := fun _ _ _ => False) m1 (.cons rx .nil) k1 (q.same s1)⟩)⟩
/-- a property -/
structure Pr (P : Program) (w : World) (K : PySem.W.Frag) (mg : Str → Option Value) (base : Heap) (k : Nat) (C : Addr) (f : Str) (S : Spec) : Prop where
  ex : ∃ (p g : Addr), PySem.W.findIn K (.ref C) f = some (some (.ref p)) ∧ PySem.W.specialIn K (.ref p) "__get__" = some (some (.builtin "property.__get__")) ∧ PySem.W.takesIn K (.ref p) = some true ∧ (∃ rest, PySem.W.recIn K p "property" = some (.ref g :: rest)) ∧ FnR P w K mg base CX0 k g (spD K S)
theorem Pr.up {P : Program} {w : World} {K : PySem.W.Frag} {mg : Str → Option Value} {base : Heap} {j k : Nat} {C : Addr} {x : Str} {S : Spec} (c : Pr P w K mg base j C x S) (h : j ≤ k) : Pr P w K mg base k C x S := by
  obtain ⟨p, g, h1, h2, h3, h4, h5⟩ := c.ex
  exact ⟨p, g, h1, h2, h3, h4, h5.mono h⟩
theorem we_prop {k : Nat} {C : Addr} {f : Str} {S : Spec} (M : Pr X.prog X.w X.K X.mg X.base k C f S) (kl : Kl X.K C) (hr : Room (k + 1) X.A) (h : WE X e ρ μ fun x μ1 => Recv μ1 x C ∧ S [x] μ1 Φ noX) (hb : attributeBase e f X.env (eval e X.env) = eval e X.env := by rfl) :
    WE X (.Attribute e f pos) ρ μ Φ := ⟨fun σ G H Q mm r q => by
  obtain ⟨p, g, h1, h2, h3, h4, Fr⟩ := M.ex
  exact toW (SlX.pe_propSl pe_W kl.c h1 h2 h3 h4 Fr hr (E := fun _ _ _ => True) (fun _ _ _ _ z => z) hb) (h.run σ G H _ mm r fun x v G1 H1 μ1 s1 m1 rx ⟨hv, k1⟩ => by
    obtain ⟨a, dx, vs, rfl, hs⟩ := recv_slt m1 rx hv
    exact ⟨a, dx, vs, rfl, hs, spD_of m1 (.cons rx .nil) k1 (q.same s1)⟩)⟩
end

/-! ### operators -/
section
variable {X : Cx} {K : PySem.W.Frag} {μ : Mu} {Φ : D → Mu → Prop} {C g : Addr} {k : Nat} {S : Spec} {sp : Sp}
/-- y in x, x an instance of C -/
def rInO (C : Addr) (sp : Sp) (neg : Bool) : R2 := fun y x H Q => ∃ a dx vs, x = .ref a ∧ SlX.Slt H a C dx vs ∧ sp [x, y] H (fun z H' => ∃ b, z = .bl b ∧ Q (.bl (b != neg)) H') fun _ _ _ => True
theorem op_inO (F : FnR X.prog X.w X.K X.mg X.base CX0 k g sp) (hs : PySem.W.findIn X.K (.ref C) "__contains__" = some (some (.ref g))) (hf : PySem.W.isFn X.K (.ref g) = true) (hr : Room k X.A) : OpR X (compareOp .In) (rInO C sp false) := by
  rintro pins s σ H y x u v Q I ry rx ⟨a, dx, vs, rfl, hsl, q⟩
  cases (show v = Value.ref a from rx)
  obtain ⟨sl, od, _, J, _⟩ := SlX.slt_inst I hsl
  obtain ⟨m, hF⟩ := I.fr
  refine PySem.W.in_K hF I.ok.mod.kin J hs hf (wpAny_mono (wpAny_call (run_fnR (us := [.ref a, u]) (vs := [.ref a, y]) F hr p0 I (.cons rfl (.cons ry .nil)) q)) (fun w s' z => ?_) fun _ _ z => z)
  obtain ⟨z', H', I', rz, b, ez, qz⟩ := z
  subst ez
  cases rz
  refine wpAny_truthy_bool ?_
  exact ⟨.bl b, H', I', rfl, by cases b <;> exact qz⟩
theorem op_notInO (F : FnR X.prog X.w X.K X.mg X.base CX0 k g sp) (hs : PySem.W.findIn X.K (.ref C) "__contains__" = some (some (.ref g))) (hf : PySem.W.isFn X.K (.ref g) = true) (hr : Room k X.A) : OpR X (compareOp .NotIn) (rInO C sp true) := by
  rintro pins s σ H y x u v Q I ry rx ⟨a, dx, vs, rfl, hsl, q⟩
  cases (show v = Value.ref a from rx)
  obtain ⟨sl, od, _, J, _⟩ := SlX.slt_inst I hsl
  obtain ⟨m, hF⟩ := I.fr
  refine PySem.W.notIn_K hF I.ok.mod.kin J hs hf (wpAny_mono (wpAny_call (run_fnR (us := [.ref a, u]) (vs := [.ref a, y]) F hr p0 I (.cons rfl (.cons ry .nil)) q)) (fun w s' z => ?_) fun _ _ z => z)
  obtain ⟨z', H', I', rz, b, ez, qz⟩ := z
  subst ez
  cases rz
  refine wpAny_truthy_bool ?_
  exact ⟨.bl (!b), H', I', rfl, by cases b <;> exact qz⟩
theorem bl_kk {K : PySem.W.Frag} {G : Hp} {Φ : D → Mu → Prop} {Q : VK} (n : Bool) (q : DK K G Φ Q) : DK K G (Bl fun b μ => Φ (.bl (b != n)) μ) fun z H' => ∃ b, z = .bl b ∧ Q (.bl (b != n)) H' := by
  rintro d v G1 H1 μ1 s1 m1 rd hb
  obtain ⟨t, rfl, k⟩ := hb.get
  cases rd
  exact ⟨t, rfl, q _ _ G1 H1 μ1 s1 m1 (.bl _) k⟩
theorem rd_inO {n : Bool} {x y : D} (hv : Recv μ x C) (h : S [x, y] μ (Bl fun b μ' => Φ (.bl (b != n)) μ') noX) : RD K (rInO C (spD K S) n) y x μ Φ := ⟨fun G H vy vx Q m ry rx q => by
  obtain ⟨a, dx, vs, rfl, hs⟩ := recv_slt m rx hv
  exact ⟨a, dx, vs, rfl, hs, G, μ, [x, y], _, noX, m, .cons rx (.cons ry .nil), h, bl_kk n q, fun _ _ _ _ _ _ z => False.elim z⟩⟩
theorem we_inO {ρ : Rho} {a b : Expr} {pos : Pos} (M : Omx X k C "__contains__" S) (hr : Room k X.A) (h : WE X a ρ μ fun y μ1 => WE X b ρ μ1 fun x μ2 => Recv μ2 x C ∧ S [x, y] μ2 (Bl fun t μ' => Φ (.bl t) μ') noX) (hm : behindInMarks .In b = false := by first | exact nomark _ | rfl) : WE X (.Compare a [.In] [b] pos) ρ μ Φ := by
  obtain ⟨g, h1, h2, _, _, Fr⟩ := M.ex
  refine we_cmp (op_inO Fr h1 h2 hr) ⟨fun σ G H Q m r q => h.run σ G H Q m r fun y vy G1 H1 μ1 s1 m1 ry k1 => q y vy G1 H1 μ1 s1 m1 ry ⟨fun σ G H Q m r q => k1.run σ G H Q m r fun x vx G2 H2 μ2 s2 m2 rx ⟨hv, k2⟩ => q x vx G2 H2 μ2 s2 m2 rx (rd_inO hv ?_)⟩⟩ hm
  have e : (fun b μ' => Φ (.bl (b != false)) μ') = fun b μ' => Φ (.bl b) μ' := by funext b μ'; cases b <;> rfl
  rw [e]; exact k2
theorem we_notInO {ρ : Rho} {a b : Expr} {pos : Pos} (M : Omx X k C "__contains__" S) (hr : Room k X.A) (h : WE X a ρ μ fun y μ1 => WE X b ρ μ1 fun x μ2 => Recv μ2 x C ∧ S [x, y] μ2 (Bl fun t μ' => Φ (.bl (!t)) μ') noX) (hm : behindInMarks .NotIn b = false := by first | exact nomark _ | rfl) : WE X (.Compare a [.NotIn] [b] pos) ρ μ Φ := by
  obtain ⟨g, h1, h2, _, _, Fr⟩ := M.ex
  refine we_cmp (op_notInO Fr h1 h2 hr) ⟨fun σ G H Q m r q => h.run σ G H Q m r fun y vy G1 H1 μ1 s1 m1 ry k1 => q y vy G1 H1 μ1 s1 m1 ry ⟨fun σ G H Q m r q => k1.run σ G H Q m r fun x vx G2 H2 μ2 s2 m2 rx ⟨hv, k2⟩ => q x vx G2 H2 μ2 s2 m2 rx (rd_inO hv ?_)⟩⟩ hm
  have e : (fun b μ' => Φ (.bl (b != true)) μ') = fun b μ' => Φ (.bl (!b)) μ' := by funext b μ'; cases b <;> rfl
  rw [e]; exact k2
theorem wt_of {ρ : Rho} {e : Expr} {Φ : Bool → Mu → Prop} (h : WE X e ρ μ (Bl Φ)) (he : ∀ whole, isTrue e X.env whole = (do let v ← whole; standAt e.pos; holding [v] (truthy v))) : WT X e ρ μ Φ := wt_val h he
/-- o[i], o an instance of C -/
theorem we_ixO {ρ : Rho} {a b : Expr} {pos : Pos} (M : Omx X k C "__getitem__" S) (hr : Room (k + 1) X.A) (h : WE X a ρ μ fun x μ1 => WE X b ρ μ1 fun y μ2 => Recv μ2 x C ∧ S [x, y] μ2 Φ noX)
    (hsl : ∀ x i, subscripted b true (.ref x) i = runValue (.builtin "lifetime.subscript" ⟨[.ref x, i], []⟩) := by intro _ _; with_unfolding_all rfl) : WE X (.Subscript a b pos) ρ μ Φ := ⟨fun σ G H Q m r q => by
  obtain ⟨g, h1, h2, h3, _, Fr⟩ := M.ex
  refine toW (t := tOp (fun x y H Q => ∃ a dx vs, x = .ref a ∧ SlX.Slt H a C dx vs ∧ spD X.K S [x, y] H Q fun _ _ _ => True) (tW X a) (tW X b)) ⟨fun pins s σ H Q I h => ?_⟩ ?_
  · refine Subscript_ (binT pe_W pe_W I h fun v u s2 x y H2 I2 rx ry ⟨a, dx, vs, ex, hsl', q2⟩ => ?_)
    subst ex
    cases (show v = Value.ref a from rx)
    obtain ⟨sl, od, _, J, _⟩ := SlX.slt_inst I2 hsl'
    obtain ⟨mF, hF⟩ := I2.fr
    refine PySem.W.sub_K hF I2.ok.mod.kin J h1 h3 h2 ?_ (hsl a u)
    exact wpAny_call (SlX.run_at (us := [.ref a, u]) (ws := [.ref a, y]) Fr hr.in1 I2.env0.in1 p0 I2 (.cons rfl (.cons ry .nil)) q2)
  · exact h.run σ G H _ m r fun x vx G1 H1 μ1 s1 m1 rx k1 => k1.run σ G1 H1 _ m1 (r.same s1) fun y vy G2 H2 μ2 s2 m2 ry ⟨hv, k2⟩ => by
      obtain ⟨a, dx, vs, rfl, hs⟩ := recv_slt m2 (rx.same s2) hv
      exact ⟨a, dx, vs, rfl, hs, spD_of m2 (.cons (rx.same s2) (.cons ry .nil)) k2 (q.same (s1.trans s2))⟩⟩
end
end DL
namespace DL
open PySem PySem.Spec PyProof.Rows L2
section
variable {X : Cx} {ρ : Rho} {μ : Mu} {Φ : D → Mu → Prop} {F : Fx} {a b c e o i : Expr} {pos p apos : Pos} {es : List Expr} {tg iter : Expr} {C g : Addr} {k : Nat} {S : Spec} {sp : Sp}
/-! ### making instances -/
structure Mkr (P : Program) (w : World) (K : PySem.W.Frag) (mg : Str → Option Value) (base : Heap) (k : Nat) (x : Str) (C : Addr) (S : Spec) : Prop where
  ex : ∃ f : Addr, Mk K C f ∧ mg x = some (.ref C) ∧ FnR P w K mg base CX0 k f (spD K S)
theorem Mkr.up {P : Program} {w : World} {K : PySem.W.Frag} {mg : Str → Option Value} {base : Heap} {j k : Nat} {C : Addr} {x : Str} {S : Spec} (c : Mkr P w K mg base j x C S) (h : j ≤ k) : Mkr P w K mg base k x C S := by
  obtain ⟨f, h1, h2, h3⟩ := c.ex
  exact ⟨f, h1, h2, h3.mono h⟩
/-- C(e, ..): the new instance stands in front -/
theorem we_make {x : Str} (M : Mkr X.prog X.w X.K X.mg X.base k x C S) (hr : Room (k + 1) X.A) (h : WA X (e :: es) ρ μ fun ds μ1 => ∀ q, S (.ref q :: ds) ((q, .ins C []) :: μ1) (fun d μ2 => d = .non ∧ Φ (.ref q) μ2) noX)
    (hg : Gl X x := by rfl) (hdb : (x == ("__debug__" : Str)) = false := by decide) (he : starEach (e :: es) X.env = (false, eval e X.env) :: starEach es X.env := by rfl) (hpl : (backTo pos (starEach es X.env)).any (·.1) = false := by rfl) :
    WE X (.Call (.Name x p) (e :: es) [] pos) ρ μ Φ := ⟨fun σ G H Q m r q => by
  obtain ⟨f, mk, hm, Fr⟩ := M.ex
  refine toW (StX.pe_makeR mk Fr hr hg hm (p0 (E := fun _ _ _ => False)) pa_W hdb he hpl) (h.run σ G H _ m r fun ds vs G1 H1 μ1 s1 m1 rds k1 y dy hy hdy ne => ?_)
  have w1 : Grow G1 H1 G1 (upd (upd H1 dy (.own y)) y (.ins C dy [])) := by
    have s2 : Same H1 (upd (upd H1 dy (.own y)) y (.ins C dy [])) := (same_new hdy).trans (same_new (by rw [upd_ne (Ne.symm ne)]; exact hy))
    exact ⟨Same.refl _, s2, m1.same.trans s2, fun _ _ _ ge => ge⟩
  have m2 : SM X.K G1 (upd (upd H1 dy (.own y)) y (.ins C dy [])) ((y, .ins C []) :: μ1) := m1.cons hy w1 ⟨m1.same.free hy, dy, [], .inl (m1.same.free hdy), .inl (by rw [upd_ne ne, upd_same]), .inl ⟨upd_same, rfl⟩, rfl, fun i d z => by simp at z⟩
  refine spD_of (E := fun _ _ _ => False) m2 (.cons (.ref y) rds) (k1 y) fun d v G3 H3 μ3 s3 m3 rd ⟨ed, k3⟩ => ?_
  subst ed
  cases rd
  exact ⟨rfl, q _ _ G3 H3 μ3 (s1.trans s3) m3 (.ref y) k3⟩⟩
/-- .. that is not written any more -/
theorem we_frzI {e : Expr} (h : WE X e ρ μ fun d μ1 => ∃ (a C : Addr) (ds : List D) (μ2 : Mu), d = .ref a ∧ Pick μ1 a (M.ins C (ds.map some)) μ2 ∧ ds ≠ [] ∧ Φ (.ins C ds) μ2) : WE X e ρ μ Φ := ⟨fun σ G H Q m r q =>
  h.run σ G H Q m r fun d v G1 H1 μ1 s1 m1 rd ⟨a, C, ds, μ2, ed, pk, hne, k⟩ => by
    subst ed
    cases rd
    have m1' := m1.perm pk.perm
    have hj : ((a, M.ins C (ds.map some)) :: μ2)[0]? = some (a, M.ins C (ds.map some)) := rfl
    obtain ⟨G2, s2, m2, r2⟩ := m1'.frzI hj hne
    exact q _ _ G2 H1 μ2 (s1.trans s2) m2 r2 k⟩
/-- a dict that is not written any more -/
theorem we_frzD {e : Expr} (h : WE X e ρ μ fun d μ1 => ∃ (a : Addr) (ks : List Key) (ds : List D) (μ2 : Mu), d = .ref a ∧ Pick μ1 a (M.dct ks ds) μ2 ∧ Φ (.dct ks ds) μ2) : WE X e ρ μ Φ := ⟨fun σ G H Q m r q => by
  have hh := h.run σ G H (fun v H1 => ∃ (a : Addr) (kvs : List (Key × V)), v = .ref a ∧ H1 a = some (.dK kvs) ∧ ∀ od, Q v (upd H1 a (.frz od (.dK kvs)))) m r fun d v G1 H1 μ1 s1 m1 rd ⟨a, ks, ds, μ2, ed, pk, k⟩ => by
    subst ed
    cases rd
    have m1' := m1.perm pk.perm
    have hj : ((a, M.dct ks ds) :: μ2)[0]? = some (a, M.dct ks ds) := rfl
    obtain ⟨kvs, hk, hod⟩ := m1'.frzD hj
    refine ⟨a, kvs, rfl, hk, fun od => ?_⟩
    obtain ⟨G2, s2, m2, r2⟩ := hod od
    exact q _ _ G2 _ μ2 (s1.trans s2) m2 r2 k
  intro pins s I
  refine wpAny_mono (hh pins s I) (fun u s' z => ?_) fun _ _ z => z
  obtain ⟨v, H1, I1, rv, a, kvs, ev, hk, hq⟩ := z
  obtain ⟨od, I2⟩ := I1.lock hk True.intro
  exact ⟨v, _, I2, rv, hq od⟩⟩
/-- a list that is not written any more, wherever it stands -/
theorem we_frzL {e : Expr} (h : WE X e ρ μ fun d μ1 => ∃ (a : Addr) (ds : List D) (μ2 : Mu), d = .ref a ∧ Pick μ1 a (M.lst ds) μ2 ∧ Φ (.lst ds) μ2) : WE X e ρ μ Φ := we_frz ⟨fun σ G H Q m r q => h.run σ G H Q m r fun d v G1 H1 μ1 s1 m1 rd ⟨a, ds, μ2, ed, pk, k⟩ => q d v G1 H1 _ s1 (m1.perm pk.perm) rd ⟨a, ds, μ2, ed, rfl, k⟩⟩

/-! ### operators of own classes -/
/-- x op y, y an instance of the same class -/
def rBinO (C : Addr) (sp : Sp) : R2 := fun x y H Q => ∃ a dx vs b dy ws, x = .ref a ∧ y = .ref b ∧ SlX.Slt H a C dx vs ∧ SlX.Slt H b C dy ws ∧ sp [x, y] H Q fun _ _ _ => False
theorem op_binO {op : Operator} (F : FnR X.prog X.w X.K X.mg X.base CX0 k g sp) (hc : PySem.W.selfFirst X.K C = true) (hs : PySem.W.findIn X.K (.ref C) (PySem.dunder op.info.2) = some (some (.ref g))) (hf : PySem.W.isFn X.K (.ref g) = true) (hr : Room k X.A) : OpR X (binaryOp op) (rBinO C sp) := by
  rintro pins s σ H x y v u Q I rx ry ⟨a, dx, vs, b, dy, ws, rfl, rfl, ha, hb, q⟩
  cases (show v = Value.ref a from rx)
  cases (show u = Value.ref b from ry)
  obtain ⟨sl, od, _, J, _⟩ := SlX.slt_inst I ha
  obtain ⟨sl', od', _, J', _⟩ := SlX.slt_inst I hb
  obtain ⟨m, hF⟩ := I.fr
  refine PySem.W.binop_K hF I.ok.mod.kin J J'.type hc hs hf (wpAny_mono (wpAny_call (run_fnR (us := [.ref a, .ref b]) (vs := [.ref a, .ref b]) F hr p0 I (.cons rfl (.cons rfl .nil)) q)) (fun w s' z => ?_) fun _ _ z => z)
  obtain ⟨z', H', I', rz, qz⟩ := z
  exact SlX.cmpback rz ⟨z', H', I', rz, qz⟩
theorem we_binO {op : Operator} (M : Omx X k C (PySem.dunder op.info.2) S) (hc : PySem.W.selfFirst X.K C = true) (hr : Room k X.A) (h : WE X a ρ μ fun x μ1 => WE X b ρ μ1 fun y μ2 => Recv μ2 x C ∧ Recv μ2 y C ∧ S [x, y] μ2 Φ noX) : WE X (.BinOp a op b pos) ρ μ Φ := by
  obtain ⟨g, h1, h2, _, _, Fr⟩ := M.ex
  exact we_bin (op_binO Fr hc h1 h2 hr) ⟨fun σ G H Q m r q => h.run σ G H Q m r fun x vx G1 H1 μ1 s1 m1 rx k1 => q x vx G1 H1 μ1 s1 m1 rx ⟨fun σ G H Q m r q => k1.run σ G H Q m r fun y vy G2 H2 μ2 s2 m2 ry ⟨hx, hy, k2⟩ => q y vy G2 H2 μ2 s2 m2 ry ⟨fun G H ux uy Q m rx ry q => by
    obtain ⟨a, dx, vs, rfl, hs⟩ := recv_slt m rx hx
    obtain ⟨b, dy, ws, rfl, hs2⟩ := recv_slt m ry hy
    exact ⟨a, dx, vs, b, dy, ws, rfl, rfl, hs, hs2, spD_of m (.cons rx (.cons ry .nil)) k2 q⟩⟩⟩⟩
end
end DL
namespace PySem.W
open PyProof.Rows PySem.Spec
section
variable {prog : Program} {w : World} {A : Around} {E : Value → Shared → Prop} {s : Shared} {K : Frag} {x C L f : Addr} {h₀ : Heap} {m : Str → Option Value} {ox : Obj} {od : Option Obj} {T : String}
theorem dl_binT {op : Operator} {b : Value} {fo ro rc : Option Value} {Q : Value → Shared → Prop} (F : Fr h₀ L s.heap m) (X₀ : K.In h₀) (I : InstAt s.heap x ox C od) (hb : Looks (model prog w) s.heap (typeOf b) (.type T)) (hc : selfFirst K C = true)
    (hs : findIn K (.ref C) (PySem.dunder op.info.2) = some (some (.ref f))) (hf : isFn K (.ref f) = true) (hr : findIn K (.ref C) (dunderR op.info.2) = some rc) (hp : rc = none ∨ ∃ g : Addr, rc = some (.ref g))
    (h1 : findIn K (.type T) (PySem.dunder op.info.2) = some fo) (h2 : findIn K (.type T) (dunderR op.info.2) = some ro) (hsub : subIn K (.type T) (.ref C) = some false)
    (h : wpAny (model prog w) A (call (.ref f) [.ref x, b]) (CmpBack Q) E s) : wpAny (model prog w) A (binaryOp op (.ref x) b) Q E s := by
  have X := X₀.keeps F.keep
  obtain ⟨cd, rest, hcd, hm⟩ := ksp_first hc
  rcases hi : op.info with ⟨sym, nm⟩
  rw [hi] at hs hr h1 h2
  dsimp only at hs hr h1 h2
  have one := ksp_try X I hs hf h
  obtain ⟨hh, g, d, tt, os⟩ := s
  have k1 : Looks (model prog w) hh (typeOf (.ref x)) (.ref C) := I.type
  have k2 : Looks (model prog w) hh (typeOf b) (.type T) := hb
  have k3 : Looks (model prog w) hh (fillsNumberSlot (.ref C) nm) true := fills_K X hcd hm hs
  have k4 : Looks (model prog w) hh (fillsNumberSlot (.type T) nm) ((fo.isSome && !isSeqSlot fo) || (ro.isSome && !isSeqSlot ro)) := ksp_fillsT X h1 h2
  have k5 : Looks (model prog w) hh (isSubtype (.type T) (.ref C)) false := looks_subIn X hsub
  have k6 : Looks (model prog w) hh (numberSlotInPython (.ref C) nm) true := ksp_inPy X hs hr hp
  have k7 : Looks (model prog w) hh (numberSlotInPython (.type T) nm) false := Looks.of_pure rfl
  have k8 : Looks (model prog w) hh (typeLookup (.type T) (dunderR nm)) ro := looks_findIn X h2
  generalize ((fo.isSome && !isSeqSlot fo) || (ro.isSome && !isSeqSlot ro)) = right at k4
  have hne : (Value.ref C == Value.type T) = false := Bool.eq_false_iff.mpr fun q => by cases beq_iff_eq.mp q
  simp only [binaryOp, hi]
  refine wpAny_holding (wpAny_bind ?_)
  unfold binaryOp1
  refine wpAny_bind (k1.at (wpAny_bind (k2.at (wpAny_bind (k3.at ?_)))))
  simp only [hne, Bool.false_eq_true, if_false]
  cases right <;>
  · ksp_lk
    refine wpAny_mono one (fun r s' hr' => ?_) fun _ _ e => e
    obtain ⟨v, rfl, hq⟩ := hr'
    ksp_lk
    exact hq
theorem looks_ty {M : Model} {s : Shared} {a : Addr} {T : String} (t : s.TypeIs (.ref a) T) : Looks M s.heap (typeOf (.ref a)) (.type T) := fun A Q E s k q => by
  obtain ⟨o, ho, hc⟩ := t
  exact wpAny_typeOf ⟨o, k _ _ ho, hc⟩ q
end
end PySem.W
namespace DL
open PySem PySem.Spec PyProof.Rows L2
section
variable {X : Cx} {ρ : Rho} {μ : Mu} {Φ : D → Mu → Prop} {F : Fx} {a b c e o i : Expr} {pos p apos : Pos} {es : List Expr} {tg iter : Expr} {C g : Addr} {k : Nat} {S : Spec} {sp : Sp}
/-- x op a tuple -/
structure BinT (K : PySem.W.Frag) (C : Addr) (op : Operator) : Prop where
  ex : ∃ (rc fo ro : Option Value), PySem.W.findIn K (.ref C) (PySem.dunderR op.info.2) = some rc ∧ (rc = none ∨ ∃ g : Addr, rc = some (.ref g)) ∧ PySem.W.findIn K (.type "tuple") (PySem.dunder op.info.2) = some fo ∧ PySem.W.findIn K (.type "tuple") (PySem.dunderR op.info.2) = some ro ∧ PySem.W.subIn K (.type "tuple") (.ref C) = some false
def rBinT (K : PySem.W.Frag) (C : Addr) (sp : Sp) : R2 := fun x y H Q => ∃ a dx vs b ys, x = .ref a ∧ y = .ref b ∧ SlX.Slt H a C dx vs ∧ SqT K H b ys ∧ sp [x, y] H Q fun _ _ _ => False
theorem op_binT {op : Operator} (F : FnR X.prog X.w X.K X.mg X.base CX0 k g sp) (hc : PySem.W.selfFirst X.K C = true) (B : BinT X.K C op) (hs : PySem.W.findIn X.K (.ref C) (PySem.dunder op.info.2) = some (some (.ref g))) (hf : PySem.W.isFn X.K (.ref g) = true) (hr : Room k X.A) : OpR X (binaryOp op) (rBinT X.K C sp) := by
  rintro pins s σ H x y v u Q I rx ry ⟨a, dx, vs, b, ys, rfl, rfl, ha, hb, q⟩
  cases (show v = Value.ref a from rx)
  cases (show u = Value.ref b from ry)
  obtain ⟨sl, od, _, J, _⟩ := SlX.slt_inst I ha
  obtain ⟨its, r, ht, _⟩ := I.tuple hb
  obtain ⟨m, hF⟩ := I.fr
  obtain ⟨rc, fo, ro, b1, b2, b3, b4, b5⟩ := B.ex
  refine PySem.W.dl_binT hF I.ok.mod.kin J (PySem.W.looks_ty ht.typeIs) hc hs hf b1 b2 b3 b4 b5 (wpAny_mono (wpAny_call (run_fnR (us := [.ref a, .ref b]) (vs := [.ref a, .ref b]) F hr p0 I (.cons rfl (.cons rfl .nil)) q)) (fun w s' z => ?_) fun _ _ z => z)
  obtain ⟨z', H', I', rz, qz⟩ := z
  exact SlX.cmpback rz ⟨z', H', I', rz, qz⟩
theorem we_binT {op : Operator} (M : Omx X k C (PySem.dunder op.info.2) S) (hc : PySem.W.selfFirst X.K C = true) (B : BinT X.K C op) (hr : Room k X.A) (h : WE X a ρ μ fun x μ1 => WE X b ρ μ1 fun y μ2 => Recv μ2 x C ∧ (∃ ys, y = .tup ys) ∧ S [x, y] μ2 Φ noX) : WE X (.BinOp a op b pos) ρ μ Φ := by
  obtain ⟨g, h1, h2, _, _, Fr⟩ := M.ex
  exact we_bin (op_binT Fr hc B h1 h2 hr) ⟨fun σ G H Q m r q => h.run σ G H Q m r fun x vx G1 H1 μ1 s1 m1 rx k1 => q x vx G1 H1 μ1 s1 m1 rx ⟨fun σ G H Q m r q => k1.run σ G H Q m r fun y vy G2 H2 μ2 s2 m2 ry ⟨hx, ⟨ys, hy⟩, k2⟩ => q y vy G2 H2 μ2 s2 m2 ry ⟨fun G H ux uy Q m rx ry q => by
    subst hy
    obtain ⟨a, dx, vs, rfl, hs⟩ := recv_slt m rx hx
    have ry' := ry
    cases ry' with
    | @tup b us _ ht _ => exact ⟨a, dx, vs, b, us, rfl, rfl, hs, sqt_same m.same ht, spD_of m (.cons rx (.cons ry .nil)) k2 q⟩⟩⟩⟩
/-- name op= e, by an own method -/
def ipO (C : Addr) (sp : Sp) : TIp := fun x y H Q => ∃ a dx vs, x = .ref a ∧ SlX.Slt H a C dx vs ∧ sp [x, y] H Q fun _ _ _ => False
theorem ip_own {op : Operator} (F : FnR X.prog X.w X.K X.mg X.base CX0 k g sp) (hc : PySem.W.selfFirst X.K C = true) (hs : PySem.W.findIn X.K (.ref C) (PySem.dunderI op.info.2) = some (some (.ref g))) (hf : PySem.W.isFn X.K (.ref g) = true) (hr : Room k X.A) : PIp X op (ipO C sp) := by
  rintro pins s σ H x y v u Q I rx ry ⟨a, dx, vs, rfl, ha, q⟩
  cases (show v = Value.ref a from rx)
  obtain ⟨sl, od, _, J, _⟩ := SlX.slt_inst I ha
  obtain ⟨m, hF⟩ := I.fr
  refine PySem.W.ksp_inplace hF I.ok.mod.kin J hc hs hf (wpAny_mono (wpAny_call (run_fnR (us := [.ref a, u]) (vs := [.ref a, y]) F hr p0 I (.cons rfl (.cons ry .nil)) q)) (fun w s' z => ?_) fun _ _ z => z)
  obtain ⟨z', H', I', rz, qz⟩ := z
  exact SlX.cmpback rz ⟨z', H', I', rz, qz⟩
theorem ws_augO {N : Rho → Mu → Prop} {R : D → Mu → Prop} {op : Operator} (i : Nat) {x : Str} {d : D} {pos' : Pos} (M : Omx X k C (PySem.dunderI op.info.2) S) (hc : PySem.W.selfFirst X.K C = true) (hr : Room k X.A) (hN : X.N.Nodup) (h : WE X e ρ μ fun y μ1 => Recv μ1 d C ∧ S [d, y] μ1 (fun z μ2 => N (ρ.set i (some z)) μ2) noX)
    (hi : X.N[i]? = some x := by rfl) (hd : ρ[i]? = some (some d) := by rfl) (hx : Loc X.env.scope x := by first | exact Or.inl rfl | exact Or.inr rfl) (hf : X.fn x = true ∨ X.env.scope.names.lookup x = some .local := by first | exact .inl rfl | exact .inr rfl) : WS X (.AugAssign (.Name x pos') op e pos) ρ μ ⟨N, R⟩ := ⟨fun σ G H E m r q => by
  obtain ⟨g, h1, h2, _, _, Fr⟩ := M.ex
  obtain ⟨v, hv, rv⟩ := r.at_ i d hd
  refine toWS (ps_aug hN hi hx pe_W (ip_own Fr hc h1 h2 hr) hf) ⟨v, hv, h.run σ G H _ m r fun y vy G1 H1 μ1 s1 m1 ry ⟨hrv, k1⟩ => ?_⟩
  obtain ⟨a, dx, vs, rfl, hs⟩ := recv_slt m1 (rv.same s1) hrv
  exact ⟨a, dx, vs, rfl, hs, spD_of m1 (.cons (rv.same s1) (.cons ry .nil)) k1 fun z vz G2 H2 μ2 s2 m2 rz k2 => q.nx _ _ G2 H2 μ2 (s1.trans s2) m2 ((r.same (s1.trans s2)).set i rz) k2⟩⟩
/-- o[i] = .. by an own method -/
def rSetO (C : Addr) (sp : Sp) : TSet := fun o i v H Q => ∃ a dx vs, o = .ref a ∧ SlX.Slt H a C dx vs ∧ sp [o, i, v] H (fun _ H' => Q H') fun _ _ _ => False
theorem set_own (F : FnR X.prog X.w X.K X.mg X.base CX0 k g sp) (hc : PySem.W.noSeq X.K C = true) (hs : PySem.W.findIn X.K (.ref C) "__setitem__" = some (some (.ref g))) (hf : PySem.W.isFn X.K (.ref g) = true) (hr : Room k X.A) : PSet X (rSetO C sp) := by
  rintro pins s σ H x y z v u w Q I rx ry rz ⟨a, dx, vs, rfl, ha, q⟩
  cases (show v = Value.ref a from rx)
  obtain ⟨sl, od, _, J, _⟩ := SlX.slt_inst I ha
  obtain ⟨m, hF⟩ := I.fr
  refine PySem.W.ksp_setItem hF I.ok.mod.kin J hc hs hf (wpAny_mono (wpAny_call (run_fnR (us := [.ref a, u, w]) (vs := [.ref a, y, z]) F hr p0 I (.cons rfl (.cons ry (.cons rz .nil))) q)) (fun w s' z => ?_) fun _ _ z => z)
  obtain ⟨z', H', I', rz, qz⟩ := z
  exact ⟨H', I', qz⟩
theorem wg_subO {W : List Nat} {d : D} {Φ : Rho → Mu → Prop} (M : Omx X k C "__setitem__" S) (hc : PySem.W.noSeq X.K C = true) (hr : Room k X.A) (h : WE X o ρ μ fun x μ1 => WE X i ρ μ1 fun y μ2 => Recv μ2 x C ∧ S [x, y, d] μ2 (fun _ μ' => Φ ρ μ') noX)
    (ha : ∀ v, assign (.Subscript o i pos) X.env v = (do
      let ov ← holding [v] (eval o X.env)
      let iv ← holding [v, ov] (eval i X.env)
      standAt pos
      holding [v, ov, iv] (setItem ov iv v)
      release [v, ov, iv] []) := by intro _; rfl) : WG X (.Subscript o i pos) W d ρ μ Φ := ⟨fun σ G H v Q m r rd q => by
  obtain ⟨g, h1, h2, _, _, Fr⟩ := M.ex
  exact toWG (pg_sub pe_W pe_W (set_own Fr hc h1 h2 hr) ha) (h.run σ G H _ m r fun x vx G1 H1 μ1 s1 m1 rx k1 => k1.run σ G1 H1 _ m1 (r.same s1) fun y vy G2 H2 μ2 s2 m2 ry ⟨hx, k2⟩ => by
    obtain ⟨a, dx, vs, rfl, hs⟩ := recv_slt m2 (rx.same s2) hx
    exact ⟨a, dx, vs, rfl, hs, spD_of m2 (.cons (rx.same s2) (.cons ry (.cons (rd.same (s1.trans s2)) .nil))) k2 fun _ _ G3 H3 μ3 s3 m3 _ k3 => q σ ρ G3 H3 μ3 rfl ((s1.trans s2).trans s3) m3 (r.same ((s1.trans s2).trans s3)) k3⟩)⟩
/-- len(o) -/
def rLenO (C : Addr) (sp : Sp) : List V → Hp → VK → Prop := fun xs H Q => ∃ a dx vs, xs = [.ref a] ∧ SlX.Slt H a C dx vs ∧ sp xs H (fun z H' => ∃ n : Nat, z = .int n ∧ (n : Int) < 2 ^ 63 ∧ Q (.int n) H') fun _ _ _ => False
theorem call_lenO (F : FnR X.prog X.w X.K X.mg X.base CX0 k g sp) (hs : PySem.W.findIn X.K (.ref C) "__len__" = some (some (.ref g))) (hf : PySem.W.isFn X.K (.ref g) = true) (hr : Room (k + 1) X.A) : CallR X (.builtin "len") (rLenO C sp) := by
  rintro pins s σ H xs us Q I r ⟨a, dx, vs, rfl, ha, q⟩
  obtain ⟨u, rfl, ru⟩ := r.one
  cases (show u = Value.ref a from ru)
  obtain ⟨sl, od, _, J, _⟩ := SlX.slt_inst I ha
  obtain ⟨m, hF⟩ := I.fr
  refine PySem.W.len_K hF I.ok.mod.kin J hs hf (wpAny_mono (wpAny_call (SlX.run_at (us := [.ref a]) (ws := [.ref a]) F hr.in1 I.env0.in1 p0 I (.cons rfl .nil) q)) (fun w s' z => ?_) fun _ _ z => z)
  obtain ⟨z', H', I', rz, n, rfl, hn, qz⟩ := z
  obtain ⟨t, rfl⟩ := rz
  exact ⟨⟨Int.natCast_nonneg n, hn⟩, .int n, H', I'.tok _, ⟨_, rfl⟩, qz⟩
theorem we_lenO (T : Bn X.mg) (M : Omx X k C "__len__" S) (hr : Room (k + 1) X.A) (h : WE X e ρ μ fun d μ1 => Recv μ1 d C ∧ S [d] μ1 (fun z μ2 => ∃ n : Nat, z = .int n ∧ (n : Int) < 2 ^ 63 ∧ Φ (.int n) μ2) noX) (hg : Gl X "len" := by rfl) (he : starEach [e] X.env = (false, eval e X.env) :: starEach [] X.env := by rfl) :
    WE X (.Call (.Name "len" p) [e] [] pos) ρ μ Φ := by
  obtain ⟨g, h1, h2, _, _, Fr⟩ := M.ex
  exact we_B (call_lenO Fr h1 h2 hr) hg T.len bv_len (by decide) (by decide) (wa_one h he)
    (fun ds vs G H μ1 Q m r ⟨d, ed, hv, k⟩ q => by
      subst ed
      obtain ⟨v, e, r1⟩ := r.oneV
      subst e
      obtain ⟨a, dx, ws, rfl, hs⟩ := recv_slt m r1 hv
      exact ⟨a, dx, ws, rfl, hs, spD_of m r k fun z vz G2 H2 μ2 s2 m2 rz ⟨n, ez, hn, k2⟩ => by
        subst ez
        cases rz
        exact ⟨n, rfl, hn, q _ _ G2 H2 μ2 s2 m2 (.int _) k2⟩⟩) he rfl
/-! ### calls of instances -/
theorem we_callO {fe : Expr} (M : Omx X k C "__call__" S) (hr : Room k X.A) (h : WE X fe ρ μ fun x μ1 => Recv μ1 x C ∧ WA X (e :: es) ρ μ1 fun ds μ2 => Recv μ2 x C ∧ S (x :: ds) μ2 Φ noX)
    (ht : eval (.Call fe (e :: es) [] pos) X.env = (do callWith pos (← eval fe X.env) [] (backTo pos (starEach (e :: es) X.env)) (backToKw pos (keywordEach [] X.env))) := by rfl)
    (he : starEach (e :: es) X.env = (false, eval e X.env) :: starEach es X.env := by rfl) (hpl : (backTo pos (starEach es X.env)).any (·.1) = false := by rfl) : WE X (.Call fe (e :: es) [] pos) ρ μ Φ := ⟨fun σ G H Q m r q => by
  obtain ⟨g, h1, h2, h3, _, Fr⟩ := M.ex
  refine toW (StX.pe_callO pe_W ⟨h1, h2, h3⟩ Fr hr (p0 (E := fun _ _ _ => False)) pa_W ht he hpl) (h.run σ G H _ m r fun x vx G1 H1 μ1 s1 m1 rx ⟨hx, k1⟩ => ?_)
  obtain ⟨a, dx, vs, rfl, hs⟩ := recv_slt m1 rx hx
  refine ⟨a, rfl, k1.run σ G1 H1 _ m1 (r.same s1) fun ds us G2 H2 μ2 s2 m2 rds ⟨hx2, k2⟩ => ?_⟩
  obtain ⟨a', dx', vs', ea, hs'⟩ := recv_slt m2 (rx.same s2) hx2
  cases ea
  exact ⟨.inl ⟨dx', vs', hs'⟩, spD_of m2 (.cons (rx.same s2) rds) k2 (q.same (s1.trans s2))⟩⟩
/-- o.f(e, ..): the slot f holds an instance that may be called -/
theorem we_callSl {f : Str} {pl : Sem Bool} (M : Omx X k C "__call__" S) (hr : Room k X.A) (h : WE X o ρ μ fun x μ1 => ∃ C' j d, InsD μ1 x C' j d ∧ Kl X.K C' ∧ Sl X.K C' f j ∧ Recv μ1 d C ∧ WA X (e :: es) ρ μ1 fun ds μ2 => Recv μ2 d C ∧ S (d :: ds) μ2 Φ noX)
    (he : starEach (e :: es) X.env = (false, eval e X.env) :: starEach es X.env := by rfl) (hpl : (backTo pos (starEach es X.env)).any (·.1) = false := by rfl)
    (ht : eval (.Call (.Attribute o f apos) (e :: es) [] pos) X.env = (do
      let ov ← eval o X.env
      standAt apos.atName
      let (f, first) ← holding [ov] (getMethod ov f pl)
      callWith pos f first (backTo pos (starEach (e :: es) X.env)) (backToKw pos (keywordEach [] X.env))) := by rfl) : WE X (.Call (.Attribute o f apos) (e :: es) [] pos) ρ μ Φ := ⟨fun σ G H Q m r q => by
  obtain ⟨g, h1, h2, h3, _, Fr⟩ := M.ex
  intro pins s I
  have hh := h.run σ G H (fun x H1 => ∃ (a C' dx p : Addr) (vs : List (Option V)) (j : Nat) (b : Addr) (G1 : Hp) (μ1 : Mu) (d : D), x = .ref a ∧ SlX.Slt H1 a C' dx vs ∧ SlX.SCls X.K C' ∧ SlX.Slot1 X.K C' f p j ∧ vs[j]? = some (some (.ref b)) ∧ Same G G1 ∧ SM X.K G1 H1 μ1 ∧ Rep X.K G1 (.ref b) d ∧ WA X (e :: es) ρ μ1 fun ds μ2 => Recv μ2 d C ∧ S (d :: ds) μ2 Φ noX) m r (by
    rintro x vx G1 H1 μ1 s1 m1 rx ⟨C', j, d, hi, kl, ⟨p, sl⟩, hd, k1⟩
    obtain ⟨a, dx, vs, w, rfl, hs, hw, rw'⟩ := insd_at m1 rx hi
    obtain ⟨b, _, _, rfl, _⟩ := recv_slt m1 rw' hd
    exact ⟨a, C', dx, p, vs, j, b, G1, μ1, d, rfl, hs, kl.c, sl, hw, s1, m1, rw', k1⟩)
  refine PySem.W.methodCall_KW (pl := pl) (thn (hh pins s I) fun u s1 ⟨x, H1, I1, rx, a, C', dx, p, vs, j, b, G1, μ1, d, ex, hs, c, sl, hw, sG, m1, rb, k1⟩ => ?_) ht
  subst ex
  obtain rfl : u = Value.ref a := rx
  refine SlX.getslotm_ok I1 hs c sl hw fun u2 s2 I2 ru => ?_
  obtain rfl : u2 = Value.ref b := ru
  refine StX.callO_with (thn ((k1.run σ G1 H1 (fun us H2 => StX.InsC X H2 b C ∧ spD X.K S (V.ref b :: us) H2 Q fun _ _ _ => False) m1 (r.same sG) fun ds us G2 H2 μ2 s3 m2 rds ⟨hx2, k2⟩ => ?_) pos pins s2 I2) fun us s3 ⟨vs3, H3, I3, r3, hi, q3⟩ => ?_) he hpl
  · obtain ⟨a', dx', vs', ea, hs'⟩ := recv_slt m2 (rb.same s3) hx2
    cases ea
    exact ⟨.inl ⟨dx', vs', hs'⟩, spD_of m2 (.cons (rb.same s3) rds) k2 (q.same (sG.trans s3))⟩
  · obtain ⟨ox, od, J, hd⟩ := StX.insC_at I3 hi
    exact ⟨⟨C, ox, od, J, hd⟩, StX.run_callO ⟨h1, h2, h3⟩ Fr hr p0 I3 hi r3 q3⟩⟩
end
end DL
namespace DL
open PySem PySem.Spec PyProof.Rows L2
/-- the names of a context -/
inductive Nx : Cx → List Str → Prop where
  | cx {CX : CXT} {P : Program} {w : World} {K : PySem.W.Frag} {mg : Str → Option Value} {base : Heap} {N : List Str} {qual : Str} {scope : Scope} {f : Addr} {cdv : Value} {A : Around} {outer : List Env} {s : Shared} {H : Hp} {E : XK} : Nx (cxOf CX P w K mg base N qual scope f cdv A outer s H E).nox N
  | cx0 {CX : CXT} {P : Program} {w : World} {K : PySem.W.Frag} {mg : Str → Option Value} {base : Heap} {N : List Str} {qual : Str} {scope : Scope} {f : Addr} {cdv : Value} {A : Around} {outer : List Env} {s : Shared} {H : Hp} {E : XK} : Nx (cxOf CX P w K mg base N qual scope f cdv A outer s H E) N
  | blk {X : Cx} {N : List Str} {s : Shared} {H : Hp} {scope : Scope} {env : Env} {fp : List Addr} : Nx X N → Nx (X.blk s H scope env fp) N
  | tr {X : Cx} {N : List Str} {pn : List (Addr × Obj)} {xe : Value → Shared → Prop} : Nx X N → Nx (X.tr pn xe) N
  | suite {X : Cx} {N : List Str} {a : Addr} {pn : List (Addr × Obj)} : Nx X N → Nx (X.suite a pn) N
  | any {X : Cx} {N : List Str} : X.N = N → Nx X N
theorem Nx.eq {X : Cx} {N : List Str} (h : Nx X N) : X.N = N := by
  induction h with
  | cx => rfl
  | cx0 => rfl
  | blk _ ih => exact ih
  | tr _ ih => exact ih
  | suite _ ih => exact ih
  | any h => exact h
section
variable {X : Cx} {ρ : Rho} {μ : Mu} {Φ : D → Mu → Prop} {F : Fx} {a b c e o i : Expr} {pos p apos : Pos} {es : List Expr} {tg iter : Expr} {C g : Addr} {k : Nat} {S : Spec} {sp : Sp}
theorem we_vn {N : List Str} {i : Nat} {x : Str} {d : D} (nx : Nx X N) (ix : Ix N x i) (k : Φ d μ) (e : ρ[i]? = some (some d) := by rfl) (hv : Vis X.env.scope x := by first | exact Or.inl rfl | exact Or.inr (Or.inl rfl) | exact Or.inr (Or.inr rfl)) (hd : (x == ("__debug__" : Str)) = false := by decide) (hcd : (x == ("__classdict__" : Str)) = false := by decide) :
    WE X (.Name x pos) ρ μ Φ := we_var i k (by rw [nx.eq]; exact ix.at) e hv hd hcd
theorem ws_setn {N : List Str} {R : D → Mu → Prop} {Nn : Rho → Mu → Prop} {i : Nat} {x : Str} {pos' : Pos} (nx : Nx X N) (ix : Ix N x i) (hN : N.Nodup) (k : WE X e ρ μ fun d μ1 => Nn (ρ.set i (some d)) μ1) (hx : Loc X.env.scope x := by first | exact Or.inl rfl | exact Or.inr rfl) (hs : swapsWith e (some (.Name x pos')) pos.line X.env = pure false := by rfl)
    (hf : X.fn x = true ∨ X.env.scope.names.lookup x = some .local := by first | exact .inl rfl | exact .inr rfl) : WS X (.Assign [.Name x pos'] e pos) ρ μ ⟨Nn, R⟩ := ws_set i (by rw [nx.eq]; exact hN) k (by rw [nx.eq]; exact ix.at) hx hs hf
theorem wg_n {N : List Str} {x : Str} {d : D} {S : List Nat} {Φ : Rho → Mu → Prop} {i : Nat} (nx : Nx X N) (ix : Ix N x i) (hN : N.Nodup) (k : Φ (ρ.set i (some d)) μ) (hx : Loc X.env.scope x := by first | exact Or.inl rfl | exact Or.inr rfl) (hS : i ∈ S := by decide)
    (hf : X.fn x = true ∨ X.env.scope.names.lookup x = some .local := by first | exact .inl rfl | exact .inr rfl) : WG X (.Name x pos) S d ρ μ Φ := wg_name i (by rw [nx.eq]; exact hN) k (by rw [nx.eq]; exact ix.at) hx hS hf
theorem ws_par2 {N : List Str} {R : D → Mu → Prop} {Nn : Rho → Mu → Prop} {i j : Nat} {x y : Str} {px py pt : Pos} {kt k2 : Nat} {pt2 : Pos} (nx : Nx X N) (ix : Ix N x i) (iy : Ix N y j) (hN : N.Nodup) (hc : X.calm = true) (k : WE X a ρ μ fun d μ1 => WE X b ρ μ1 fun d2 μ2 => Nn ((ρ.set i (some d)).set j (some d2)) μ2) (hij : i ≠ j := by decide)
    (hx : X.env.scope.names.lookup x = some .local := by rfl) (hy : X.env.scope.names.lookup y = some .local := by rfl)
    (hw : swappedStores [.Tuple [.Name x px, .Name y py] kt pt] (.Tuple [a, b] k2 pt2) X.env = pure (some [x, y]) := by rfl)
    (hs : swapsWithSole [.Tuple [.Name x px, .Name y py] kt pt] (.Tuple [a, b] k2 pt2) pos.line X.env = pure false := by rfl)
    (he : starEach [a, b] X.env = (false, eval a X.env) :: starEach [b] X.env := by rfl) (he2 : starEach [b] X.env = (false, eval b X.env) :: starEach [] X.env := by rfl) :
    WS X (.Assign [.Tuple [.Name x px, .Name y py] kt pt] (.Tuple [a, b] k2 pt2) pos) ρ μ ⟨Nn, R⟩ := ws_par i j hc (by rw [nx.eq]; exact hN) k (by rw [nx.eq]; exact ix.at) (by rw [nx.eq]; exact iy.at) hij hx hy hw hs he he2

/-- a list whose place, if any, is not needed any more -/
inductive TakeL : Mu → D → List D → Mu → Prop where
  | f {μ : Mu} {ds : List D} : TakeL μ (.lst ds) ds μ
  | m {μ μ' : Mu} {p : Addr} {ds : List D} : Pick μ p (.lst ds) μ' → TakeL μ (.ref p) ds μ'
/-- tuple(a list) -/
theorem we_tupT (T : Bn X.mg) (h : WE X e ρ μ fun d μ1 => ∃ (ds : List D) (μ2 : Mu), TakeL μ1 d ds μ2 ∧ Φ (.tup ds) μ2) (hg : Gl X "tuple" := by rfl) (he : starEach [e] X.env = (false, eval e X.env) :: starEach [] X.env := by rfl) : WE X (.Call (.Name "tuple" p) [e] [] pos) ρ μ Φ :=
  we_tupf T ⟨fun σ G H Q m r q => h.run σ G H Q m r fun d v G1 H1 μ1 s1 m1 rd ⟨ds, μ2, t, k⟩ => by
    cases t with
    | f => exact q _ _ G1 H1 _ s1 m1 rd ⟨ds, .inl rfl, k⟩
    | @m _ p _ pk =>
      cases rd
      have hj : ((p, M.lst ds) :: μ2)[0]? = some (p, M.lst ds) := rfl
      obtain ⟨G2, s2, m2, r2⟩ := (m1.perm pk.perm).frzL hj
      exact q _ _ G2 H1 μ2 (s1.trans s2) m2 r2 ⟨ds, .inl rfl, k⟩⟩ hg he
/-- places that are not needed any more -/
theorem we_drop (h : WE X e ρ μ fun d μ1 => ∃ μ2 : Mu, μ2.Sublist μ1 ∧ Φ d μ2) : WE X e ρ μ Φ := ⟨fun σ G H Q m r q => h.run σ G H Q m r fun d v G1 H1 μ1 s1 m1 rd ⟨μ2, hs, k⟩ => q d v G1 H1 μ2 s1 (m1.sub hs) rd k⟩
theorem wb_drop {st : List Stmt} {μ2 : Mu} (hs : μ2.Sublist μ) (h : WB X st ρ μ2 F) : WB X st ρ μ F := ⟨fun σ G H E m r q => h.run σ G H E (m.sub hs) r q⟩
/-! ### len -/
theorem len_nm {c : Nat} : LenD μ (.str ⟨#[c]⟩) 1 := .inl ⟨_, rfl, (by show (1 : Nat) ≤ 1000; omega), rfl⟩
theorem len_t {ds : List D} : LenD μ (.tup ds) ds.length := .inr ⟨ds, .inr rfl, rfl⟩
theorem len_l {ds : List D} : LenD μ (.lst ds) ds.length := .inr ⟨ds, .inl (.inl rfl), rfl⟩
theorem len_m {p : Addr} {ds : List D} {μ' : Mu} (h : Pick μ p (.lst ds) μ') : LenD μ (.ref p) ds.length := .inr ⟨ds, .inl (.inr ⟨p, μ', rfl, h⟩), rfl⟩
theorem ls_f {ds : List D} : LsD μ (.lst ds) ds := .inl rfl
theorem ls_m {p : Addr} {ds : List D} {μ' : Mu} (h : Pick μ p (.lst ds) μ') : LsD μ (.ref p) ds := .inr ⟨p, μ', rfl, h⟩
theorem sq_l {d : D} {ds : List D} (h : LsD μ d ds) : SqD μ d ds := .inl h
theorem sq_t {ds : List D} : SqD μ (.tup ds) ds := .inr rfl
/-! ### decided comparisons -/
variable {K : PySem.W.Frag}
theorem rd_eqI {i j : Int} (k : Φ (.bl (decide (i = j))) μ) : RD K rEq (.int i) (.int j) μ Φ := rd_eq (.int i) (.int j) rfl (by
  have : decide (V.int i = V.int j) = decide (i = j) := decide_eq_decide.mpr ⟨fun h => by injection h, fun h => by rw [h]⟩
  rw [this]; exact k)
theorem rd_eqS {x y : Str} (k : Φ (.bl (decide (x = y))) μ) : RD K rEq (.str x) (.str y) μ Φ := rd_eq (.str x) (.str y) rfl (by
  have : decide (V.str x = V.str y) = decide (x = y) := decide_eq_decide.mpr ⟨fun h => by injection h, fun h => by rw [h]⟩
  rw [this]; exact k)
theorem rd_neI {i j : Int} (k : Φ (.bl (!decide (i = j))) μ) : RD K rNe (.int i) (.int j) μ Φ := rd_ne (.int i) (.int j) rfl (by
  have : decide (V.int i = V.int j) = decide (i = j) := decide_eq_decide.mpr ⟨fun h => by injection h, fun h => by rw [h]⟩
  rw [this]; exact k)
theorem rd_neS {x y : Str} (k : Φ (.bl (!decide (x = y))) μ) : RD K rNe (.str x) (.str y) μ Φ := rd_ne (.str x) (.str y) rfl (by
  have : decide (V.str x = V.str y) = decide (x = y) := decide_eq_decide.mpr ⟨fun h => by injection h, fun h => by rw [h]⟩
  rw [this]; exact k)
theorem rd_eqB {x y : Bool} (k : Φ (.bl (decide (x = y))) μ) : RD K rEq (.bl x) (.bl y) μ Φ := rd_eq (.bl x) (.bl y) (by cases x <;> cases y <;> rfl) (by
  have : decide (V.bl x = V.bl y) = decide (x = y) := decide_eq_decide.mpr ⟨fun h => by injection h, fun h => by rw [h]⟩
  rw [this]; exact k)
theorem it_yes {P : Prop} [Decidable P] {A B : Prop} (h : P) (k : A) : It (decide P) A B := by rw [decide_eq_true h]; exact it_t k
theorem it_no {P : Prop} [Decidable P] {A B : Prop} (h : ¬ P) (k : B) : It (decide P) A B := by rw [decide_eq_false h]; exact it_f k
theorem it_by {P : Prop} [Decidable P] {A B : Prop} (h1 : P → A) (h2 : ¬ P → B) : It (decide P) A B := it_c (fun e => h1 (of_decide_eq_true e)) fun e => h2 (of_decide_eq_false e)
theorem it_byN {P : Prop} [Decidable P] {A B : Prop} (h1 : ¬ P → A) (h2 : P → B) : It (!decide P) A B := it_c (fun e => h1 (by simpa using e)) fun e => h2 (by simpa using e)
theorem it_yesN {P : Prop} [Decidable P] {A B : Prop} (h : ¬ P) (k : A) : It (!decide P) A B := by rw [decide_eq_false h]; exact it_t k
theorem it_noN {P : Prop} [Decidable P] {A B : Prop} (h : P) (k : B) : It (!decide P) A B := by rw [decide_eq_true h]; exact it_f k
/-! ### ints -/
theorem rd_mul {i j : Int} (h : CMul i j) (k : Φ (.int (i * j)) μ) : RD K (rI CMul fun i j => .int (i * j)) (.int i) (.int j) μ Φ := rd_I (fun _ => .int _) h k
theorem rd_mod {i j : Int} (h : 0 < j) (k : Φ (.int (i % j)) μ) : RD K (rI (fun _ j => 0 < j) fun i j => .int (i % j)) (.int i) (.int j) μ Φ := rd_I (fun _ => .int _) h k
theorem rd_fdiv {i j : Int} (h : CDivW i j) (k : Φ (.int (i / j)) μ) : RD K (rI CDivW fun i j => .int (i / j)) (.int i) (.int j) μ Φ := rd_I (fun _ => .int _) h k
theorem rd_pow {i j : Int} (h : CPow i j) (k : Φ (.int (i ^ j.toNat)) μ) : RD K (rI CPow fun i j => .int (i ^ j.toNat)) (.int i) (.int j) μ Φ := rd_I (fun _ => .int _) h k
theorem cmul_r {i j : Int} (h1 : -(2 ^ 64) < j) (h2 : j < 2 ^ 64) : CMul i j := .inr ⟨h1, h2⟩
theorem cmul_l {i j : Int} (h1 : -(2 ^ 64) < i) (h2 : i < 2 ^ 64) : CMul i j := .inl ⟨h1, h2⟩
theorem blkok_of {N : List Str} {sc scope : Scope} {own : List (Str × Nat)} (h1 : scope.kind = .function) (h2 : decide (∀ y ∈ scope.names, scope.names.lookup y.1 = some y.2) = true) (h3 : decide (∀ p ∈ own, N[p.2]? = some p.1) = true)
    (h4 : decide (∀ y ∈ scope.names, y.2 = .free → sc.names.lookup y.1 = some .cell ∨ sc.names.lookup y.1 = some .free) = true) (h5 : decide (∀ y ∈ scope.names, y.2 = .local ∨ y.2 = .cell → y.1 ∈ own.map (·.1) ∨ y.1 ∉ N) = true) : BlkOk N sc scope own :=
  ⟨h1, of_decide_eq_true h2, of_decide_eq_true h3, of_decide_eq_true h4, of_decide_eq_true h5⟩
theorem ws_lcn {N : List Str} {R : D → Mu → Prop} {Nn : Rho → Mu → Prop} {i : Nat} {y : Str} {elt : Expr} {ifs : List Expr} {scope : Scope} {py spos : Pos} (own : List (Str × Nat)) (nx : Nx X N) (ix : Ix N y i) (hN : N.Nodup) (hc : X.calm = true) (ok : BlkOk N X.env.scope scope own) (h : WLc X tg iter elt ifs scope own ρ μ fun d μ1 => Nn (ρ.set i (some d)) μ1)
    (hyl : X.env.scope.names.lookup y = some .local := by rfl) (hk : X.env.scope.kind = .function := by rfl) (hl : (py.line == pos.line) = true := by rfl) (ha : (scope.names.any fun (n, k) => n == y && (k == .local || k == .cell)) = false := by rfl)
    (hs : ∀ x, foldedSetIterable iter X.env x = pure x := by intro _; rfl) : WS X (.Assign [.Name y py] (.ListComp elt [⟨tg, iter, ifs, 0⟩] scope pos) spos) ρ μ ⟨Nn, R⟩ := ws_lcx hc (by rw [nx.eq]; exact hN) (by rw [nx.eq]; exact ix.at) (by rw [nx.eq]; exact ok) h hyl hk hl ha hs
theorem we_lcn {N : List Str} {elt : Expr} {ifs : List Expr} {scope : Scope} (own : List (Str × Nat)) (nx : Nx X N) (hN : N.Nodup) (hc : X.calm = true) (ok : BlkOk N X.env.scope scope own) (h : WLc X tg iter elt ifs scope own ρ μ Φ)
    (hs : ∀ x, foldedSetIterable iter X.env x = pure x := by intro _; rfl) : WE X (.ListComp elt [⟨tg, iter, ifs, 0⟩] scope pos) ρ μ Φ := we_lcx hc (by rw [nx.eq]; exact hN) (by rw [nx.eq]; exact ok) h hs
theorem nd_of {N : List Str} (h : decide N.Nodup = true) : N.Nodup := of_decide_eq_true h
end
/-- the def st of the text stands at f -/
abbrev Fd (K : PySem.W.Frag) (x q : Str) (st : Stmt) (f : Addr) (fd : FuncData) : Prop := FunD K x q (defArgs st) (defBody st) (defScope st) [] [] f fd
/-- a letter -/
def Nm (c : Nat) : D := .str ⟨#[c]⟩
/-! ### + and *, of any kind -/
theorem OpR.orR {X : Cx} {f : Value → Value → Sem Value} {r r' : R2} (h : OpR X f r) (h' : OpR X f r') : OpR X f (fun x y H Q => r x y H Q ∨ r' x y H Q) := by
  intro pins s σ H x y v u Q I rx ry q
  rcases q with q | q
  · exact h pins s σ H x y v u Q I rx ry q
  · exact h' pins s σ H x y v u Q I rx ry q
def rAdd (K : PySem.W.Frag) : R2 := fun x y H Q => rI0 (fun i j => .int (i + j)) x y H Q ∨ rCat x y H Q ∨ rCatA K x y H Q
theorem op_addA {X : Cx} : OpR X (binaryOp .Add) (rAdd X.K) := OpR.orR op_add (OpR.orR op_cat op_catA)
def rMul : R2 := fun x y H Q => rI CMul (fun i j => .int (i * j)) x y H Q ∨ rRep x y H Q
theorem op_mulA {X : Cx} : OpR X (binaryOp .Mult) rMul := OpR.orR op_mul op_rep
section
variable {K : PySem.W.Frag} {μ : Mu} {Φ : D → Mu → Prop}
theorem RD.mono {r r' : R2} {x y : D} (h : RD K r x y μ Φ) (hm : ∀ x y H Q, r x y H Q → r' x y H Q) : RD K r' x y μ Φ := ⟨fun G H vx vy Q m rx ry q => hm _ _ _ _ (h.run G H vx vy Q m rx ry q)⟩
theorem rd_addI {i j : Int} (k : Φ (.int (i + j)) μ) : RD K (rAdd K) (.int i) (.int j) μ Φ := (rd_I0 (g := fun i j => .int (i + j)) (fun _ => .int _) k).mono fun _ _ _ _ h => .inl h
theorem rd_addL {x y : D} {xs ys : List D} (hx : LsD μ x xs) (hy : LsD μ y ys) (hl : xs.length + ys.length ≤ 1000) (k : Φ (.lst (xs ++ ys)) μ) : RD K (rAdd K) x y μ Φ := (rd_cat hx hy hl k).mono fun _ _ _ _ h => .inr (.inl h)
theorem rd_addT {xs ys : List D} (hl : xs.length + ys.length ≤ 1000) (k : Φ (.tup (xs ++ ys)) μ) : RD K (rAdd K) (.tup xs) (.tup ys) μ Φ := (rd_catT hl k).mono fun _ _ _ _ h => .inr (.inr h)
theorem rd_mulI {i j : Int} (h : CMul i j) (k : Φ (.int (i * j)) μ) : RD K rMul (.int i) (.int j) μ Φ := (rd_mul h k).mono fun _ _ _ _ h => .inl h
theorem rd_mulL {x : D} {xs : List D} {n : Int} (hx : LsD μ x xs) (h1 : -(2 ^ 63) ≤ n) (h2 : n < 2 ^ 63) (hl : xs.length * n.toNat ≤ 1000) (k : Φ (.lst (List.replicate n.toNat xs).flatten) μ) : RD K rMul x (.int n) μ Φ := (rd_rep hx h1 h2 hl k).mono fun _ _ _ _ h => .inr h
end
/-- the place a holds m; f tells the places with another thing there -/
inductive AtF : Mu → Addr → M → (M → Mu) → Prop where
  | here {a : Addr} {m : M} {μ : Mu} : AtF ((a, m) :: μ) a m (fun m' => (a, m') :: μ)
  | there {c : Addr × M} {μ : Mu} {f : M → Mu} {a : Addr} {m : M} : AtF μ a m f → AtF (c :: μ) a m (fun m' => c :: f m')
theorem AtF.at {μ : Mu} {a : Addr} {m : M} {f : M → Mu} (h : AtF μ a m f) (m' : M) : At μ a m m' (f m') := by
  induction h with
  | here => exact .here
  | there _ ih => exact .there ih
theorem AtF.pick {μ : Mu} {a : Addr} {m : M} {f : M → Mu} (h : AtF μ a m f) : ∃ μ', Pick μ a m μ' := by
  induction h with
  | here => exact ⟨_, .here⟩
  | there _ ih => obtain ⟨μ', ih⟩ := ih; exact ⟨_, .there ih⟩
theorem AtF.self {μ : Mu} {a : Addr} {m : M} {f : M → Mu} (h : AtF μ a m f) : f m = μ := by
  induction h with
  | here => rfl
  | there _ ih => exact congrArg _ ih
theorem AtF.again {μ : Mu} {a : Addr} {m : M} {f : M → Mu} (h : AtF μ a m f) (m' : M) : AtF (f m') a m' f := by
  induction h with
  | here => exact .here
  | there _ ih => exact .there ih
/-- the draws' list -/
abbrev drM (s : List Int) (k : Nat) : M := .lst [.lst (s.map D.int), .int 0, .int k]
end DL
namespace DL
open PySem PySem.Spec PyProof.Rows L2
section
variable {X : Cx} {ρ : Rho} {μ : Mu} {Φ : D → Mu → Prop} {F : Fx} {a b c e o i : Expr} {pos p p2 apos : Pos} {es : List Expr} {tg iter : Expr} {C g : Addr} {k : Nat} {S : Spec} {sp : Sp}
def rgD (n : Nat) : List D := (List.range n).map fun i => D.int (0 + (i : Nat))
theorem reps_rg {K : PySem.W.Frag} {G : Hp} (n : Int) : Reps K G (rgV 0 n) (rgD n.toNat) := by
  unfold rgV rgD
  rw [show n - 0 = n by omega]
  have : ∀ l : List Nat, Reps K G (l.map fun i => V.int (0 + (i : Nat))) (l.map fun i => D.int (0 + (i : Nat))) := fun l => by
    induction l with
    | nil => exact .nil
    | cons a r ih => exact .cons (.int _) ih
  exact this _
/-- list(range(n)) -/
theorem we_listRg (T : Bn X.mg) (hc : X.calm = true) (h : WE X a ρ μ fun d μ1 => ∃ n : Nat, d = .int n ∧ n ≤ 1000 ∧ Φ (.lst (rgD n)) μ1) (hg : Gl X "list" := by rfl) (hg2 : Gl X "range" := by rfl)
    (na : starEach [.Call (.Name "range" p2) [a] [] pos] X.env = (false, eval (.Call (.Name "range" p2) [a] [] pos) X.env) :: starEach [] X.env := by rfl) (nb : starEach [a] X.env = (false, eval a X.env) :: starEach [] X.env := by rfl) : WE X (.Call (.Name "list" p) [.Call (.Name "range" p2) [a] [] pos] [] apos) ρ μ Φ := ⟨fun σ G H Q m r q =>
  toW (pe_listRg hc hg T.list (prg_1 hg2 T.range pe_W nb) na) (h.run σ G H _ m r fun d v G1 H1 μ1 s1 m1 rd ⟨n, ed, hn, k⟩ => by
    subst ed
    cases rd
    refine ⟨n, rfl, RgOk.of_le (by omega) (by omega) (by omega) (by omega), fun p hp => ?_⟩
    have w := grow_new (o := .lst (rgV 0 n)) m1.same hp
    exact q _ _ _ _ μ1 (s1.trans w.g) (m1.grow w) (.lst upd_same ((reps_rg (n : Int)).same w.g)) k)⟩
end
/-! ### what may be nothing -/
def opI : Option Nat → D | none => .non | some i => .int (i : Nat)
def opN : Option Nat → D | none => .non | some c => Nm c
theorem isn_opI (o : Option Nat) : isNonD (opI o) = decide (o = none) := by cases o <;> simp [opI, isNonD]
theorem isn_opN (o : Option Nat) : isNonD (opN o) = decide (o = none) := by cases o <;> simp [opN, isNonD, Nm]
theorem nm_inj {a b : Nat} : (⟨#[a]⟩ : Str) = ⟨#[b]⟩ ↔ a = b := by simp
section
variable {K : PySem.W.Frag} {μ : Mu} {Φ : D → Mu → Prop}
theorem rd_eqOI {a b : Option Nat} (k : Φ (.bl (decide (a = b))) μ) : RD K rEq (opI a) (opI b) μ Φ := by
  cases a with
  | none =>
    cases b with
    | none => exact rd_eq .non .non rfl (by simpa using k)
    | some b => exact rd_eq .non (.int _) rfl (by simpa using k)
  | some a =>
    cases b with
    | none => exact rd_eq (.int _) .non rfl (by simpa using k)
    | some b =>
      refine rd_eqI ?_
      have : decide ((a : Int) = (b : Int)) = decide (some a = some b) := decide_eq_decide.mpr ⟨fun h => by rw [Int.ofNat.inj h], fun h => by rw [Option.some.inj h]⟩
      rw [this]; exact k
theorem rd_neOI {a b : Option Nat} (k : Φ (.bl (!decide (a = b))) μ) : RD K rNe (opI a) (opI b) μ Φ := by
  cases a with
  | none =>
    cases b with
    | none => exact rd_ne .non .non rfl (by simpa using k)
    | some b => exact rd_ne .non (.int _) rfl (by simpa using k)
  | some a =>
    cases b with
    | none => exact rd_ne (.int _) .non rfl (by simpa using k)
    | some b =>
      refine rd_neI ?_
      have : decide ((a : Int) = (b : Int)) = decide (some a = some b) := decide_eq_decide.mpr ⟨fun h => by rw [Int.ofNat.inj h], fun h => by rw [Option.some.inj h]⟩
      rw [this]; exact k
theorem rd_eqNm {a b : Nat} (k : Φ (.bl (decide (a = b))) μ) : RD K rEq (Nm a) (Nm b) μ Φ := rd_eqS (by rw [decide_eq_decide.mpr nm_inj]; exact k)
theorem rd_neNm {a b : Nat} (k : Φ (.bl (!decide (a = b))) μ) : RD K rNe (Nm a) (Nm b) μ Φ := rd_neS (by rw [decide_eq_decide.mpr nm_inj]; exact k)
end
/-! ### the schemas -/
inductive Fmk where
  | one | all | gaps | rest
  deriving DecidableEq
def Fmk.s : Fmk → Str
  | .one => "one" | .all => "all" | .gaps => "gaps" | .rest => "rest"
theorem form_one (f : Fmk) : decide (f.s = "one") = decide (f = .one) := by cases f <;> decide
theorem form_all (f : Fmk) : decide (f.s = "all") = decide (f = .all) := by cases f <;> decide
theorem form_gaps (f : Fmk) : decide (f.s = "gaps") = decide (f = .gaps) := by cases f <;> decide
structure Fld where
  nm : Nat
  tg : Option Nat
  fm : Fmk
  mus : Bool
  sp : Option Nat
def mkS : Bool → Str
  | true => "must" | false => "may"
theorem mk_must (b : Bool) : decide (mkS b = "must") = b := by cases b <;> decide
abbrev fldD (f : Fld) : D := .tup [Nm f.nm, opI f.tg, .str f.fm.s, .str (mkS f.mus), opN f.sp]
abbrev kindD (fs : List Fld) : D := .tup (fs.map fldD)
abbrev kindsD (ks : List (List Fld)) : D := .tup (ks.map kindD)
/-- g may stand in for f -/
def standsFor (f g : Fld) : Prop := g.nm ≠ f.nm ∧ g.tg = f.tg ∧ (g.fm = .one ↔ f.fm = .one)
/-- a kind as the draws give it: no spares yet -/
structure Kind0 (n : Nat) (fs : List Fld) : Prop where
  ne : fs ≠ []
  few : fs.length ≤ 3
  nms : ∀ f ∈ fs, 97 ≤ f.nm ∧ f.nm ≤ 102
  dis : (fs.map Fld.nm).Nodup
  tgs : ∀ f ∈ fs, ∀ t, f.tg = some t → t < n
  hd : ∃ f ∈ fs, f.tg = none
structure KindOk (n : Nat) (fs : List Fld) : Prop extends Kind0 n fs where
  sps : ∀ f ∈ fs, ∀ c, f.sp = some c → ∃ g ∈ fs, g.nm = c ∧ standsFor f g
structure KindsOk (ks : List (List Fld)) : Prop where
  ne : ks ≠ []
  few : ks.length ≤ 3
  each : ∀ k ∈ ks, KindOk ks.length k
end DL
namespace DL
open PySem PySem.Spec PyProof.Rows L2
/-! ### plain data: deep ==, !=, in -/
mutual
inductive PyF : D → PyData → Prop where
  | non : PyF .non .none
  | bl (b : Bool) : PyF (.bl b) (.bool b)
  | int (i : Int) : PyF (.int i) (.int i)
  | str (x : Str) : PyF (.str x) (.str x)
  | tup {ds : List D} {es : List PyData} : PyFs ds es → PyF (.tup ds) (.tuple es)
  | lst {ds : List D} {es : List PyData} : PyFs ds es → PyF (.lst ds) (.list es)
inductive PyFs : List D → List PyData → Prop where
  | nil : PyFs [] []
  | cons {d : D} {ds : List D} {e : PyData} {es : List PyData} : PyF d e → PyFs ds es → PyFs (d :: ds) (e :: es)
end
theorem pyfs_map {β : Type} {f : β → D} {g : β → PyData} : ∀ {xs : List β}, (∀ x, x ∈ xs → PyF (f x) (g x)) → PyFs (xs.map f) (xs.map g)
  | [], _ => .nil
  | x :: xs, h => .cons (h x List.mem_cons_self) (pyfs_map fun y hy => h y (List.mem_cons_of_mem _ hy))
/-- .. or a list that may be written -/
def Py (μ : Mu) (d : D) (e : PyData) : Prop := PyF d e ∨ ∃ (p : Addr) (ds : List D) (es : List PyData) (μ' : Mu), d = .ref p ∧ Pick μ p (.lst ds) μ' ∧ PyFs ds es ∧ e = .list es
theorem py_f {μ : Mu} {d : D} {e : PyData} (h : PyF d e) : Py μ d e := .inl h
theorem py_m {μ μ' : Mu} {p : Addr} {ds : List D} {es : List PyData} (h : Pick μ p (.lst ds) μ') (k : PyFs ds es) : Py μ (.ref p) (.list es) := .inr ⟨p, ds, es, μ', rfl, h, k, rfl⟩
section
variable {K : PySem.W.Frag} {μ : Mu} {G H : Hp}
mutual
theorem PyF.dp (s : Same G H) : ∀ {d : D} {e : PyData} {v : V}, PyF d e → Rep K G v d → Dp K H v e
  | _, _, _, .non, r => by cases r; exact .non
  | _, _, _, .bl b, r => by cases r; exact .bl b
  | _, _, _, .int b, r => by cases r; exact .int b
  | _, _, _, .str b, r => by cases r; exact .str b
  | _, _, _, .tup h, r => by
    cases r with
    | tup ht rs => exact .tup (sqt_same s ht) (PyFs.dp s h rs)
  | _, _, _, .lst h, r => by
    cases r with
    | lst ht rs => exact .lst (SqL.of (s _ _ ht)) (PyFs.dp s h rs)
theorem PyFs.dp (s : Same G H) : ∀ {ds : List D} {es : List PyData} {vs : List V}, PyFs ds es → Reps K G vs ds → DpAll K H vs es
  | _, _, _, .nil, r => by cases r; exact .nil
  | _, _, _, .cons h t, r => by
    cases r with
    | cons r1 r2 => exact .cons (PyF.dp s h r1) (PyFs.dp s t r2)
end
theorem Py.dp {d : D} {e : PyData} {v : V} (m : SM K G H μ) (h : Py μ d e) (r : Rep K G v d) : Dp K H v e := by
  rcases h with h | ⟨p, ds, es, μ', rfl, pk, k, rfl⟩
  · exact h.dp m.same r
  · cases r
    obtain ⟨_, xs, hx, rs⟩ := m.cell _ pk.mem
    exact .lst (SqL.of hx) (k.dp m.same rs)
end
def rEqA (K : PySem.W.Frag) : R2 := fun x y H Q => rEq x y H Q ∨ rEqD K x y H Q
def rNeA (K : PySem.W.Frag) : R2 := fun x y H Q => rNe x y H Q ∨ rNeD K x y H Q
theorem op_eqA {X : Cx} {k : Nat} (hr : Room k X.A) : OpR X (compareOp .Eq) (rEqA X.K) := OpR.orR op_eq (op_eqD hr.units)
theorem op_neA {X : Cx} {k : Nat} (hr : Room k X.A) : OpR X (compareOp .NotEq) (rNeA X.K) := OpR.orR op_ne (op_neD hr.units)
section
variable {K : PySem.W.Frag} {μ : Mu} {Φ : D → Mu → Prop}
theorem rd_eqP {x y : D} (h : RD K rEq x y μ Φ) : RD K (rEqA K) x y μ Φ := h.mono fun _ _ _ _ h => .inl h
theorem rd_neP {x y : D} (h : RD K rNe x y μ Φ) : RD K (rNeA K) x y μ Φ := h.mono fun _ _ _ _ h => .inl h
theorem rd_eqDD {x y : D} {d e : PyData} (hx : Py μ x d) (hy : Py μ y e) (sd : SeqAt.shaped d = true) (se : SeqAt.shaped e = true) (k : Φ (.bl (PyData.eqv d e)) μ) : RD K (rEqA K) x y μ Φ := ⟨fun G H vx vy Q m rx ry q =>
  .inr ⟨d, e, hx.dp m rx, hy.dp m ry, sd, se, q _ _ G H μ (Same.refl G) m (.bl _) k⟩⟩
theorem rd_neDD {x y : D} {d e : PyData} (hx : Py μ x d) (hy : Py μ y e) (sd : SeqAt.shaped d = true) (se : SeqAt.shaped e = true) (k : Φ (.bl (!PyData.eqv d e)) μ) : RD K (rNeA K) x y μ Φ := ⟨fun G H vx vy Q m rx ry q =>
  .inr ⟨d, e, hx.dp m rx, hy.dp m ry, sd, se, q _ _ G H μ (Same.refl G) m (.bl _) k⟩⟩
theorem eqv_nil (es : List PyData) : PyData.eqv (.list es) (.list []) = es.isEmpty := by
  cases es <;> simp [PyData.eqv, PyData.eqvAll]
/-- a list against the empty list -/
theorem rd_neNil {x : D} {es : List PyData} (hx : Py μ x (.list es)) (sd : SeqAt.shaped (.list es) = true) (k : Φ (.bl (!es.isEmpty)) μ) : RD K (rNeA K) x (.lst []) μ Φ :=
  rd_neDD hx (.inl (.lst .nil)) sd rfl (by rw [eqv_nil]; exact k)
/-- in, not in: a list or a tuple -/
def rInDA (K : PySem.W.Frag) (neg : Bool) : R2 := fun x y H Q => ∃ d ds, Dp K H x d ∧ (Dp K H y (.list ds) ∨ Dp K H y (.tuple ds)) ∧ SeqAt.shaped d = true ∧ PyData.canLayAll0 ds = true ∧ Q (.bl ((ds.any fun z => PyData.eqv z d) != neg)) H
theorem room65 {k : Nat} {A : Around} (hr : Room k A) : A.units + 65 < cLine := by have := hr.un; omega
theorem op_inDA {X : Cx} {k : Nat} (hr : Room k X.A) : OpR X (compareOp .In) (rInDA X.K false) := by
  rintro pins s σ H x y v u Q I rx ry ⟨d, ds, hd, he, sd, se, q⟩
  rw [show ((ds.any fun z => PyData.eqv z d) != false) = ds.any fun z => PyData.eqv z d by cases ds.any fun z => PyData.eqv z d <;> rfl] at q
  obtain ⟨as, r1⟩ := Dp.reads I d x v hd rx
  rcases he with he | he
  · obtain ⟨bs, r2⟩ := Dp.reads I (.list ds) y u he ry
    exact SeqAt.in_list_reads r2 r1 se (SeqAt.canLay_of_shaped sd) (room_in_shaped sd (room65 hr)) ⟨.bl _, H, I, rfl, q⟩
  · obtain ⟨bs, r2⟩ := Dp.reads I (.tuple ds) y u he ry
    exact SeqAt.in_tuple_reads r2 r1 se (SeqAt.canLay_of_shaped sd) (room_in_shaped sd (room65 hr)) ⟨.bl _, H, I, rfl, q⟩
theorem op_notInDA {X : Cx} {k : Nat} (hr : Room k X.A) : OpR X (compareOp .NotIn) (rInDA X.K true) := by
  rintro pins s σ H x y v u Q I rx ry ⟨d, ds, hd, he, sd, se, q⟩
  rw [show ((ds.any fun z => PyData.eqv z d) != true) = !(ds.any fun z => PyData.eqv z d) by cases ds.any fun z => PyData.eqv z d <;> rfl] at q
  obtain ⟨as, r1⟩ := Dp.reads I d x v hd rx
  rcases he with he | he
  · obtain ⟨bs, r2⟩ := Dp.reads I (.list ds) y u he ry
    exact SeqAt.notIn_list_reads r2 r1 se (SeqAt.canLay_of_shaped sd) (room_in_shaped sd (room65 hr)) ⟨.bl _, H, I, rfl, q⟩
  · obtain ⟨bs, r2⟩ := Dp.reads I (.tuple ds) y u he ry
    exact SeqAt.notIn_tuple_reads r2 r1 se (SeqAt.canLay_of_shaped sd) (room_in_shaped sd (room65 hr)) ⟨.bl _, H, I, rfl, q⟩
theorem rd_inDA {n : Bool} {x y : D} {d : PyData} {ds : List PyData} (hx : Py μ x d) (hy : Py μ y (.list ds) ∨ Py μ y (.tuple ds)) (sd : SeqAt.shaped d = true) (se : PyData.canLayAll0 ds = true) (k : Φ (.bl ((ds.any fun z => PyData.eqv z d) != n)) μ) : RD K (rInDA K n) x y μ Φ := ⟨fun G H vx vy Q m rx ry q =>
  ⟨d, ds, hx.dp m rx, hy.imp (fun h => h.dp m ry) (fun h => h.dp m ry), sd, se, q _ _ G H μ (Same.refl G) m (.bl _) k⟩⟩
end
/-! ### what may be laid -/
theorem lay_all {β : Type} {g : β → PyData} : ∀ {l : List β}, (∀ x ∈ l, (g x).canLay0 = true) → PyData.canLayAll0 (l.map g) = true
  | [], _ => rfl
  | x :: l, h => by
    rw [List.map_cons, PyData.canLayAll0, h x List.mem_cons_self, lay_all fun y hy => h y (List.mem_cons_of_mem _ hy)]
    rfl
theorem dep_all {β : Type} {g : β → PyData} {n : Nat} : ∀ {l : List β}, (∀ x ∈ l, (g x).depth ≤ n) → PyData.depthAll (l.map g) ≤ n
  | [], _ => Nat.zero_le _
  | x :: l, h => by
    rw [List.map_cons, PyData.depthAll]
    exact Nat.max_le.mpr ⟨h x List.mem_cons_self, dep_all fun y hy => h y (List.mem_cons_of_mem _ hy)⟩
theorem shaped_lst {β : Type} {g : β → PyData} {l : List β} (n : Nat) (hn : n < 64) (h : ∀ x ∈ l, (g x).canLay0 = true ∧ (g x).depth ≤ n) : SeqAt.shaped (.list (l.map g)) = true := by
  unfold SeqAt.shaped
  rw [PyData.canLay0, lay_all fun x hx => (h x hx).1, PyData.depth]
  have := dep_all (n := n) fun x hx => (h x hx).2
  simp only [Bool.true_and, decide_eq_true_eq]
  omega
theorem shaped_tup {β : Type} {g : β → PyData} {l : List β} (n : Nat) (hn : n < 64) (h : ∀ x ∈ l, (g x).canLay0 = true ∧ (g x).depth ≤ n) : SeqAt.shaped (.tuple (l.map g)) = true := by
  unfold SeqAt.shaped
  rw [PyData.canLay0, lay_all fun x hx => (h x hx).1, PyData.depth]
  have := dep_all (n := n) fun x hx => (h x hx).2
  simp only [Bool.true_and, decide_eq_true_eq]
  omega
/-- a letter's data -/
def nmP (c : Nat) : PyData := .str ⟨#[c]⟩
theorem py_nm (c : Nat) : PyF (Nm c) (nmP c) := .str _
theorem lay_nm {c : Nat} (h : c ≤ 102) : (nmP c).canLay0 = true := by
  unfold nmP PyData.canLay0 PyData.strOk
  simp
  omega
def opIP : Option Nat → PyData | none => .none | some i => .int (i : Nat)
def opNP : Option Nat → PyData | none => .none | some c => nmP c
theorem py_opI (o : Option Nat) : PyF (opI o) (opIP o) := by cases o <;> constructor
theorem py_opN (o : Option Nat) : PyF (opN o) (opNP o) := by cases o <;> constructor
def fldP (f : Fld) : PyData := .tuple [nmP f.nm, opIP f.tg, .str f.fm.s, .str (mkS f.mus), opNP f.sp]
theorem py_fld (f : Fld) : PyF (fldD f) (fldP f) := .tup (.cons (py_nm _) (.cons (py_opI _) (.cons (.str _) (.cons (.str _) (.cons (py_opN _) .nil)))))
theorem lay_fld {f : Fld} (h1 : f.nm ≤ 102) (h2 : ∀ c, f.sp = some c → c ≤ 102) : (fldP f).canLay0 = true ∧ (fldP f).depth ≤ 1 := by
  obtain ⟨nm, tg, fm, mu, sp⟩ := f
  have a1 : (opIP tg).canLay0 = true ∧ (opIP tg).depth = 0 := by cases tg <;> exact ⟨rfl, rfl⟩
  have a2 : (opNP sp).canLay0 = true ∧ (opNP sp).depth = 0 := by
    cases sp with
    | none => exact ⟨rfl, rfl⟩
    | some c => exact ⟨lay_nm (h2 c rfl), rfl⟩
  have a3 : (PyData.str fm.s).canLay0 = true := by cases fm <;> decide +kernel
  have a4 : (PyData.str (mkS mu)).canLay0 = true := by cases mu <;> decide +kernel
  have a5 := lay_nm h1
  refine ⟨?_, ?_⟩
  · simp only [fldP, PyData.canLay0, PyData.canLayAll0, a1.1, a2.1] at *
    simp only [a3, a4, a5]
    rfl
  · have a6 : (nmP nm).depth = 0 := rfl
    have a7 : (PyData.str fm.s).depth = 0 := rfl
    have a8 : (PyData.str (mkS mu)).depth = 0 := rfl
    simp only [fldP, PyData.depth, PyData.depthAll, a1.2, a2.2, a6, a7, a8]
    decide
section
variable {K : PySem.W.Frag} {μ : Mu} {Φ : D → Mu → Prop}
theorem ud_neg {i : Int} (k : Φ (.int (-i)) μ) : UD K (rU fun i => .int (-i)) (.int i) μ Φ := ⟨fun G H vx Q m rx q => by
  cases rx
  exact ⟨i, rfl, q _ _ G H μ (Same.refl G) m (.int _) k⟩⟩
theorem rd_neNilF {β : Type} {f : β → D} {l : List β} (g : β → PyData) (n : Nat) (hn : n < 64) (hg : ∀ x ∈ l, PyF (f x) (g x)) (hs : ∀ x ∈ l, (g x).canLay0 = true ∧ (g x).depth ≤ n) (k : Φ (.bl (!l.isEmpty)) μ) : RD K (rNeA K) (.lst (l.map f)) (.lst []) μ Φ :=
  rd_neNil (py_f (.lst (pyfs_map hg))) (shaped_lst n hn hs) (by
    have : (l.map g).isEmpty = l.isEmpty := by cases l <;> rfl
    rw [this]; exact k)
theorem rd_neNilM {β : Type} {f : β → D} {l : List β} {p : Addr} {μ' : Mu} (g : β → PyData) (n : Nat) (hn : n < 64) (hp : Pick μ p (.lst (l.map f)) μ') (hg : ∀ x ∈ l, PyF (f x) (g x)) (hs : ∀ x ∈ l, (g x).canLay0 = true ∧ (g x).depth ≤ n) (k : Φ (.bl (!l.isEmpty)) μ) : RD K (rNeA K) (.ref p) (.lst []) μ Φ :=
  rd_neNil (py_m hp (pyfs_map hg)) (shaped_lst n hn hs) (by
    have : (l.map g).isEmpty = l.isEmpty := by cases l <;> rfl
    rw [this]; exact k)
end
end DL
namespace DL
open PySem PySem.Spec PyProof.Rows L2
section
variable {P : Program} {w : World} {K : PySem.W.Frag} {mg : Str → Option Value} {base : Heap}
theorem FnR.orR {CX : CXT} {k : Nat} {f : Addr} {sp sp' : Sp} (F : FnR P w K mg base CX k f sp) (F' : FnR P w K mg base CX k f sp') : FnR P w K mg base CX k f (fun vs H Q E => sp vs H Q E ∨ sp' vs H Q E) := by
  intro A outer s H us vs Q E hr e0 r h
  rcases h with h | h
  · exact F A outer s H us vs Q E hr e0 r h
  · exact F' A outer s H us vs Q E hr e0 r h
/-- a def by its body, bound as b tells -/
theorem fn_DB {x qual : Str} {params : Arguments} {body : List Stmt} {scope : Scope} {dvs : List V} {kws : List (Str × V)} {f : Addr} {fd : FuncData} {N ps : List Str} {k : Nat} {S : Spec} {ev : List V} {ed : List D} {es : List Value} (F : FunD K x qual params body scope dvs kws f fd) (Sc : FnScope N ps scope)
    (b : Binds K fd ps es) (hv : Vals ev es) (he : ∀ G, Reps K G ev ed)
    (hlen : ∀ ds μ Φ Ψ, S (ds ++ ed) μ Φ Ψ → (ds ++ ed).length = ps.length)
    (hbody : ∀ (cdv : Value) (A : Around) (outer : List Env) (s : Shared) (H : Hp) (E : XK), Room k (A.deeper (envOfC qual scope s.heap.objs.size f cdv)) → ∀ (ds : List D) (μ : Mu) (Φ : D → Mu → Prop) (Ψ : Value → Mu → Prop), S ds μ Φ Ψ → ds.length = ps.length →
      WB (cxOf CX0 P w K mg base N qual scope f cdv A outer s H E).nox body (rho0 N ds) μ ⟨fun _ μ' => Φ .non μ', Φ⟩) : FnR P w K mg base CX0 (k + 1) f (spD K fun ds μ Φ Ψ => S (ds ++ ed) μ Φ Ψ) := by
  have ok : FnOk P w K mg base CX0 (k + 1) f fd ps (fun vs H Q E => vs.length = ps.length ∧ spD K S vs H Q E) := by
    refine F.ok Sc (fun vs H Q E h => h.1) (fun cdv A outer s H vs Q E hr h => ?_)
    obtain ⟨hl, G, μ, ds, Φ, Ψ, m, r, hs, q, _⟩ := h
    refine ⟨_, PSs.nox pss_W, (hbody cdv A outer s H E hr ds μ Φ Ψ hs (by rw [← r.length]; exact hl)).run _ G H _ m (rs_start r) ⟨fun σ' ρ' G' H' μ' s1 m1 _ k1 => q .non .non G' H' μ' s1 m1 .non k1, q⟩⟩
  refine FnR.imp (ok.raw b hv) fun vs H Q E h => ?_
  obtain ⟨G, μ, ds, Φ, Ψ, m, r, hs, q, e⟩ := h
  refine ⟨?_, G, μ, ds ++ ed, Φ, Ψ, m, r.app (he G), hs, q, e⟩
  have h1 := (r.app (he G)).length
  rw [h1]
  exact hlen _ _ _ _ hs
/-- one default -/
theorem fn_D1 {x qual : Str} {params : Arguments} {body : List Stmt} {scope : Scope} {dv : V} {dd : D} {f : Addr} {fd : FuncData} {N ps : List Str} {k n : Nat} {S : Spec} (F : FunD K x qual params body scope [dv] [] f fd) (Sc : FnScope N ps scope) (hn : n + 1 = ps.length) (hd : ∀ G, Rep K G dv dd)
    (hb1 : ∀ (T : Addr) (kV doc pm : Value) (an : Option Addr) (cdv ct : Value) (us its : List Value), us.length = n → its.length = [dv].length →
      ∃ k, bindArgs (PySem.W.fnOf x qual params body scope (.ref T) kV doc pm an cdv ct) ⟨us, []⟩ = seqItems? (.ref T) >>= k ∧ k (some its.toArray) = pure (ps.zip (us ++ its.drop 0)))
    (hb2 : ∀ (T : Addr) (kV doc pm : Value) (an : Option Addr) (cdv ct : Value) (us its : List Value), us.length = n + 1 → its.length = [dv].length →
      ∃ k, bindArgs (PySem.W.fnOf x qual params body scope (.ref T) kV doc pm an cdv ct) ⟨us, []⟩ = seqItems? (.ref T) >>= k ∧ k (some its.toArray) = pure (ps.zip (us ++ its.drop 1)))
    (hlen : ∀ ds μ Φ Ψ, S ds μ Φ Ψ → ds.length = n + 1)
    (hbody : ∀ (cdv : Value) (A : Around) (outer : List Env) (s : Shared) (H : Hp) (E : XK), Room k (A.deeper (envOfC qual scope s.heap.objs.size f cdv)) → ∀ (ds : List D) (μ : Mu) (Φ : D → Mu → Prop) (Ψ : Value → Mu → Prop), S ds μ Φ Ψ →
      WB (cxOf CX0 P w K mg base N qual scope f cdv A outer s H E).nox body (rho0 N ds) μ ⟨fun _ μ' => Φ .non μ', Φ⟩) : FnR P w K mg base CX0 (k + 1) f (spD K fun ds μ Φ Ψ => S (ds ++ [dd]) μ Φ Ψ ∨ S ds μ Φ Ψ) := by
  obtain ⟨es, v1, b1⟩ := F.binds1 (ps := ps) n 0 (by simp) (by simpa using hn) hb1
  obtain ⟨es2, v2, b2⟩ := F.binds1 (ps := ps) (n + 1) 1 (by simp) (by simpa using hn) hb2
  have r1 := fn_DB (S := S) F Sc b1 v1 (ed := [dd]) (fun G => .cons (hd G) .nil) (fun ds μ Φ Ψ h => by rw [hlen _ _ _ _ h, hn]) (fun cdv A outer s H E hr ds μ Φ Ψ h _ => hbody cdv A outer s H E hr ds μ Φ Ψ h)
  have r2 := fn_DB (S := S) F Sc b2 v2 (ed := []) (fun G => .nil) (fun ds μ Φ Ψ h => by rw [hlen _ _ _ _ h, hn]) (fun cdv A outer s H E hr ds μ Φ Ψ h _ => hbody cdv A outer s H E hr ds μ Φ Ψ h)
  refine FnR.imp (FnR.orR r1 r2) fun vs H Q E h => ?_
  obtain ⟨G, μ, ds, Φ, Ψ, m, r, hs, q, e⟩ := h
  rcases hs with hs | hs
  · exact .inl ⟨G, μ, ds, Φ, Ψ, m, r, hs, q, e⟩
  · exact .inr ⟨G, μ, ds, Φ, Ψ, m, r, by show S (ds ++ []) μ Φ Ψ; rw [List.append_nil]; exact hs, q, e⟩
end
def opZ : Option Int → D | none => .non | some i => .int i
theorem isn_opZ (o : Option Int) : isNonD (opZ o) = decide (o = none) := by cases o <;> simp [opZ, isNonD]
/-- the def st of the text stands at f, with one default -/
abbrev Fd1 (K : PySem.W.Frag) (x q : Str) (st : Stmt) (dv : V) (f : Addr) (fd : FuncData) : Prop := FunD K x q (defArgs st) (defBody st) (defScope st) [dv] [] f fd
end DL
namespace DL
open PySem PySem.Spec PyProof.Rows L2 PpSet
section
variable {X : Cx}
/-- {elt for target in iter if ..}, elt a key: D the new set -/
def tScK (P : Program) (w : World) (wi : TI) (g : TG) (tt : TT) (te : TE) (vs : List Nat) : TE := fun σ H Q => wi σ H fun J H1 => ∀ D, H1 D = none → ∃ W : Nat → Nat → Hp → Prop, (∃ m, W 0 m (upd H1 D (SetK P w D (fun _ => false) 0))) ∧ ∀ i m H, W i m H →
  (J.stop i H ∧ Q (.ref D) H) ∨ (J.go i H ∧ ∃ Nx : Hp → Prop, (∀ H', Nx H' → ∃ m', m' < m ∧ W (i + 1) m' H') ∧ ∀ x H', J.yld i H x H' → g x (wipe σ vs) H' fun σ2 H2 => wipe σ2 vs = wipe σ vs ∧ tt σ2 H2 fun b H3 =>
    if b = true then te σ2 H3 fun y H4 => ∃ (c : Key) (S : Key → Bool) (n : Nat), y = kV c ∧ H4 D = some (SetK P w D S n) ∧ n + 1 < scanBound ∧ Nx (upd H4 D (SetK P w D (fun j => S j || decide (j = c)) (if S c = true then n else n + 1))) else Nx H3)
theorem dl_sc_core {pins : List (Addr × Obj)} {s : Shared} {σ : L2.St} {H : Hp} {Q : VK} {elt tg iter : Expr} {ifs : List Expr} {scope : Scope} {own : List (PySem.Str × Nat)} {pos pos' : Pos} {wi : TI} {g : TG} {tt : TT} {te : TE} {use : Option (Value → Sem Unit)} {Qf : Value → Shared → Prop}
    (hc : X.calm = true) (hN : X.N.Nodup) (I : Inv X pins σ H s) (hi : PI X tg iter wi) (ok : BlkOk X.N X.env.scope scope own)
    (hg : ∀ (s : Shared) (H : Hp) (C : Addr) (cl : List (PySem.Str × Addr)) (fp : List Addr), PG (X.blk s H scope (compEnvC scope cl C X.env) fp) tg g) (ht : ∀ (s : Shared) (H : Hp) (C : Addr) (cl : List (PySem.Str × Addr)) (fp : List Addr), PTs (X.blk s H scope (compEnvC scope cl C X.env) fp) ifs tt)
    (he : ∀ (s : Shared) (H : Hp) (C : Addr) (cl : List (PySem.Str × Addr)) (fp : List Addr), PE (X.blk s H scope (compEnvC scope cl C X.env) fp) elt te) (hs : ∀ x, foldedSetIterable iter X.env x = pure x)
    (h : tScK X.prog X.w wi g tt te (own.map (·.2)) σ H Q)
    (hRR : ∀ D C s' m H', Inv X pins σ H' s' → Q (.ref D) H' → s'.heap.Ns C m → FpOk X pins H' C → compPost (model X.prog X.w) X.A X.xe use Qf (.ref D) C (.ok .next) s') :
    wpAny (model X.prog X.w) X.A (comprehension (.SetComp elt [⟨tg, iter, ifs, 0⟩] scope pos) scope X.env pos' (newSet (.type "set")) false (eval iter X.env) use) Qf X.xe s := by
  have hfree : ∀ y ∈ scope.names, y.2 = .free → ∃ c, X.env.cells.lookup y.1 = some c := fun y hy e => by
    rcases ok.free y hy e with k | k
    · exact I.ok.has _ (.inl k)
    · exact I.ok.has _ (.inr k)
  refine wpAny_comprehension_free (use := use) rfl hs (closure_ok hfree) ok.kind (fun y hy e => by rw [ok.uniq y hy, e])
    (thn (hi.run pins s σ H _ I h) fun xv s1 hx => thn hx fun itv s2 h2 => ?_)
  obtain ⟨it, fp, tn, J, H2, e, I2, T, st2, f2, q⟩ := h2
  subst e
  refine newSet_ok (newEnv_comp ?_)
  generalize hD : s2.heap.objs.size = D
  have hDn : H2 D = none := I2.hok.fresh (Nat.le_of_eq hD)
  obtain ⟨W, ⟨m0, w0⟩, turn⟩ := q D hDn
  -- the new list
  generalize hs3 : ({ s2 with heap := s2.heap.push { cls := .type "set", dict := none, data := .set #[] 0 (.fresh 0 0 (!X.w.params.followText "set-order")) } } : Shared) = s3
  have I3 : Inv X pins σ (upd H2 D (SetK X.prog X.w D (fun _ => false) 0)) s3 := by
    rw [← hs3]
    refine I2.laid (t' := s2.toks) (fun b o e => Heap.get?_push_of_some _ e) (Nat.le_of_eq hD) ?_
    rw [← hD]
    exact setK_new ⟨_, #[], 0, _, Heap.get?_push_size _ rfl, ⟨rfl, rfl, rfl⟩, rfl, (fun e he => by simp at he), (fun k => by simp), (by decide), (by rfl), rfl⟩
  have h3 : s3.heap = s2.heap.push { cls := .type "set", dict := none, data := .set #[] 0 (.fresh 0 0 (!X.w.params.followText "set-order")) } := by rw [← hs3]
  have sz : ∀ b ∈ fp, b < s2.heap.objs.size := fun b hb => by
    obtain ⟨o, e, _⟩ := T.obj _ _ st2 b hb
    exact Heap.lt_size e
  have f3 : ∀ b ∈ fp, FpOk X pins (upd H2 D (SetK X.prog X.w D (fun _ => false) 0)) b ∧ b < s3.heap.objs.size := fun b hb => by
    have hlt := sz b hb
    refine ⟨⟨?_, (f2 b hb).2⟩, by rw [h3, Heap.size_push]; exact Nat.lt_succ_of_lt hlt⟩
    rw [upd_ne (by rw [← hD]; exact Nat.ne_of_lt hlt)]
    exact (f2 b hb).1
  have st3 : tn 0 s3.heap := T.keep _ _ _ st2 fun b _ o e => by rw [h3]; exact Heap.get?_push_of_some _ e
  have I4 := block_start I3 ok hN f3
  have pg := hg s3 (upd H2 D (SetK X.prog X.w D (fun _ => false) 0)) s3.heap.objs.size (cellsFrom (s3.heap.objs.size + 1) scope.names (cloFrom X.env.cells scope.names [])) fp
  have pt := ht s3 (upd H2 D (SetK X.prog X.w D (fun _ => false) 0)) s3.heap.objs.size (cellsFrom (s3.heap.objs.size + 1) scope.names (cloFrom X.env.cells scope.names [])) fp
  have pe := he s3 (upd H2 D (SetK X.prog X.w D (fun _ => false) 0)) s3.heap.objs.size (cellsFrom (s3.heap.objs.size + 1) scope.names (cloFrom X.env.cells scope.names [])) fp
  show codeAny _ _ (.compStart (.SetComp elt [⟨tg, iter, ifs, 0⟩] scope pos) 0 (.ref it) (.ref D) (compEnvC scope (cellsFrom (s3.heap.objs.size + 1) scope.names (cloFrom X.env.cells scope.names [])) s3.heap.objs.size X.env)) (compPost (model X.prog X.w) X.A X.xe use Qf (.ref D) s3.heap.objs.size) { s3 with heap := pushCells (s3.heap.push { cls := .type "dict", data := .dict #[] }) scope.names }
  have nfp : ∀ b ∈ fp, (upd H2 D (SetK X.prog X.w D (fun _ => false) 0)) b = none := fun b hb => (f3 b hb).1.1
  generalize hce : compEnvC scope (cellsFrom (s3.heap.objs.size + 1) scope.names (cloFrom X.env.cells scope.names [])) s3.heap.objs.size X.env = ce at I4 pg pt pe ⊢
  have cL : ce.locals = s3.heap.objs.size := by subst hce; rfl
  generalize hH3 : upd H2 D (SetK X.prog X.w D (fun _ => false) 0) = H3 at I3 I4 pg pt pe w0 nfp f3
  generalize hs4 : ({ s3 with heap := pushCells (s3.heap.push { cls := .type "dict", data := .dict #[] }) scope.names } : Shared) = s4 at I4 ⊢
  have st4 : tn 0 s4.heap := T.keep _ _ _ st3 fun b _ o e => by rw [← hs4]; exact pushCells_keeps _ _ _ _ (Heap.get?_push_of_some _ e)
  have stat : ∀ {σ' : L2.St} {H' : Hp} {s' : Shared}, Inv (X.blk s3 H3 scope ce fp) [] σ' H' s' → (∀ b ∈ fp, H' b = none) → ∀ b ∈ fp, FpOk (X.blk s3 H3 scope ce fp) [] H' b := fun {σ' H' s'} I' hn b hb =>
    ⟨hn b hb, (I'.ok.exf b hb).1, I'.ok.exfs b hb, .inl hb, fun x c e => (I'.ok.exf b hb).2 x c e, fun p hp => absurd (show p ∈ ([] : List (Addr × Obj)) ++ [] from hp) (by simp)⟩
  have loop : codeAny (model X.prog X.w) X.A (.compLoop (.SetComp elt [⟨tg, iter, ifs, 0⟩] scope pos) 0 (.ref it) (.ref D) ce) (compPost (model X.prog X.w) X.A X.xe use Qf (.ref D) s3.heap.objs.size) s4 := by
    refine compLoopS_any (fun n s' => ∃ i H', Inv (X.blk s3 H3 scope ce fp) [] (wipe σ (own.map (·.2))) H' s' ∧ tn i s'.heap ∧ (∀ b ∈ fp, H' b = none) ∧ W i n H') ?_ m0 ⟨0, H3, I4, st4, nfp, w0⟩
    rintro n s5 ⟨i, H5, I5, st5, n5, w5⟩
    rcases turn i n H5 w5 with ⟨stop, qq⟩ | ⟨go, Nx, hNx, step⟩
    · have td := T.done (X.blk s3 H3 scope ce fp) rfl rfl rfl hc i [] s5 _ H5 (fun _ _ => False) I5 (stat I5 n5) st5 stop
      refine thnF td fun r s6 ⟨hr, I6⟩ => ?_
      subst hr
      -- back in the def's context
      have I7 : Inv X pins σ H5 s6 := I3.call' (ch := fp) I6.os I6.base I6.hok I6.bare fun b hb => ⟨(f3 b hb).1.2.2.2.1, (f3 b hb).1.2.1, (f3 b hb).1.2.2.2.2.1, (f3 b hb).1.2.2.2.2.2⟩
      have nC : H5 s3.heap.objs.size = none := by
        have z : H5 ce.locals = none := I6.free
        rw [cL] at z
        exact z
      obtain ⟨m, hn, _⟩ := I6.loc
      have hn : s6.heap.Ns ce.locals m := hn
      rw [cL] at hn
      exact hRR D s3.heap.objs.size s6 m H5 I7 qq hn (I3.fpOk (Nat.le_refl _) nC)
    · have ti := T.item (X.blk s3 H3 scope ce fp) rfl rfl rfl hc i [] s5 _ H5 (fun _ _ => False) I5 (stat I5 n5) st5 go
      refine thnF ti fun r s6 ⟨u, hr, h6⟩ => ?_
      subst hr
      refine thnF h6 fun _ s7 ⟨x, H7, I7, r7, y7, st7, n7⟩ => ?_
      have I7' := I7.pinned (stat I7 n7) (T.obj _ _ st7)
      refine thnF (pg.run _ s7 _ H7 x u _ I7' r7 (step x H7 y7)) fun _ s8 ⟨σ8, H8, I8, hw8, q8⟩ => ?_
      refine thnF (pt.run _ s8 σ8 H8 _ I8 q8) fun b s9 ⟨H9, I9, q9⟩ => ?_
      -- the turn's end
      have fin : ∀ {s' : Shared} {H' : Hp}, Inv (X.blk s3 H3 scope ce fp) ([] ++ pinsAt fp s7.heap) σ8 H' s' → Nx H' → ∃ m, m < n ∧ ∃ i H', Inv (X.blk s3 H3 scope ce fp) [] (wipe σ (own.map (·.2))) H' s' ∧ tn i s'.heap ∧ (∀ b ∈ fp, H' b = none) ∧ W i m H' := fun {s' H'} I' nx => by
        obtain ⟨m', hm, w'⟩ := hNx H' nx
        have pin' : ∀ b ∈ fp, ∀ o, s7.heap.get? b = some o → s'.heap.get? b = some o ∧ H' b = none := fun b hb o e =>
          let z := I'.pin (b, o) (List.mem_append_right _ (List.mem_append_right _ (mem_pinsAt hb e)))
          ⟨z.1, z.2.1⟩
        have hl : (wipe σ (own.map (·.2))).length = σ8.length := by rw [← hw8, wipe_length]
        refine ⟨m', hm, i + 1, H', (I'.unpinned (pins := [])).weak hl (fun j v e => ?_), T.keep _ _ _ st7 fun b hb o e => (pin' b hb o e).1, fun b hb => ?_, w'⟩
        · rw [← hw8] at e
          exact (wipe_some e).1
        · obtain ⟨o, e, _⟩ := T.obj _ _ st7 b hb
          exact (pin' b hb o e).2
      cases b with
      | false =>
        simp only [Bool.false_eq_true, if_false] at q9 ⊢
        exact fin I9 q9
      | true =>
        simp only [if_true] at q9 ⊢
        refine thnF (pe.run _ s9 σ8 H9 _ I9 q9) fun z s10 ⟨yv, H10, I10, r10, cb, S0, n0, ey, hD10, hz10, nx⟩ => ?_
        subst ey
        refine call_set_add (kV_is r10) (key_scan r10) (setK_get (X := X.blk s3 H3 scope ce fp) I10 hD10) hz10 fun h' sb new => ?_
        have hex : ∃ u, h'.get? D = some u := by
          have ⟨o, _, _, _, ho, _⟩ := new
          exact ⟨o, ho⟩
        exact fin (I10.write (e := D) (t' := s10.toks + 1) (by rw [hD10]; trivial) (.inl rfl) (fun b u hb hu => (sb.2 b hb).trans hu) hex (setK_new new)) nx
  exact codeAny_compStart_set loop (T.self X.A 0 _ _ _ st4 loop)
theorem pe_scK {elt tg iter : Expr} {ifs : List Expr} {scope : Scope} {own : List (PySem.Str × Nat)} {pos : Pos} {wi : TI} {g : TG} {tt : TT} {te : TE} (hc : X.calm = true) (hN : X.N.Nodup) (hi : PI X tg iter wi) (ok : BlkOk X.N X.env.scope scope own)
    (hg : ∀ (s : Shared) (H : Hp) (C : Addr) (cl : List (PySem.Str × Addr)) (fp : List Addr), PG (X.blk s H scope (compEnvC scope cl C X.env) fp) tg g) (ht : ∀ (s : Shared) (H : Hp) (C : Addr) (cl : List (PySem.Str × Addr)) (fp : List Addr), PTs (X.blk s H scope (compEnvC scope cl C X.env) fp) ifs tt)
    (he : ∀ (s : Shared) (H : Hp) (C : Addr) (cl : List (PySem.Str × Addr)) (fp : List Addr), PE (X.blk s H scope (compEnvC scope cl C X.env) fp) elt te) (hs : ∀ x, foldedSetIterable iter X.env x = pure x) :
    PE X (.SetComp elt [⟨tg, iter, ifs, 0⟩] scope pos) (tScK X.prog X.w wi g tt te (own.map (·.2))) := ⟨fun pins s σ H Q I h => by
  rw [eval_SetComp]
  refine dl_sc_core hc hN I hi ok hg ht he hs h fun D C s' m H' I' q hn f => ⟨m, hn, fun h'' sb => ?_⟩
  obtain ⟨f0, f1, f2, f3, f4, f5⟩ := f
  exact ⟨.ref D, H', I'.turned (t' := s'.toks) (fun b o hb e => (sb.2 b hb).trans e) f0 f1 f3 f4 f5, rfl, q⟩⟩
theorem call_lenK : CallR X (.builtin "len") (fun xs H Q => ∃ (a : Addr) (S : Key → Bool) (n : Nat), xs = [.ref a] ∧ H a = some (SetK X.prog X.w a S n) ∧ Q (.int n) H) := by
  rintro pins s σ H xs us Q I r ⟨a, S, n, rfl, ha, q⟩
  obtain ⟨u, rfl, ru⟩ := r.one
  cases (show u = Value.ref a from ru)
  obtain ⟨o, es, ep, t, ho, hex, hd, _, _, hb, hf, hn⟩ := setK_get I ha
  have hsb : scanBound ≤ 2 ^ 62 := by decide
  exact call_len_set ho hex hd hf (by omega) ⟨.int n, H, I.tok _, ⟨_, by rw [hn]⟩, q⟩
def keyD : Key → D
  | .inl i => .int i | .inr x => .str x
theorem rep_key {K : PySem.W.Frag} {G : Hp} {v : V} {k : Key} (r : Rep K G v (keyD k)) : v = kV k := by
  cases k <;> (cases r; rfl)
theorem setK_kind {P : Program} {w : World} {a : Addr} {S : Key → Bool} {n : Nat} : (∀ x, SetK P w a S n ≠ .own x) ∧ SetK P w a S n ≠ .xd [] := by
  refine ⟨fun x z => ?_, fun z => ?_⟩ <;> (unfold SetK at z; cases z)
variable {ρ : Rho} {μ : Mu} {Φ : D → Mu → Prop} {elt tg iter : Expr} {scope : Scope} {pos p spos : Pos}
def inK (l : List Key) (k : Key) : Bool := l.any fun z => decide (k = z)
theorem inK_iff (l : List Key) (k : Key) : inK l k = true ↔ k ∈ l := by
  unfold inK
  rw [List.any_eq_true]
  exact ⟨fun ⟨z, hz, e⟩ => (of_decide_eq_true e) ▸ hz, fun h => ⟨k, h, decide_eq_true rfl⟩⟩
/-- len({elt for ..}), the answers different -/
theorem we_lenSc {β : Type} {N : List Str} (own : List (Str × Nat)) (f : β → D) (key : β → Key) (xs : List β) (T : Bn X.mg) (nx : Nx X N) (hN : N.Nodup) (hc : X.calm = true) (ok : BlkOk N X.env.scope scope own)
    (h : WI X tg iter ρ μ fun ds μ1 => ds = xs.map f ∧ μ1 = μ) (hl : xs.length ≤ 1000) (hd : (xs.map key).Nodup)
    (hstep : ∀ x, x ∈ xs → ∀ (Y : Cx), BK X scope Y → ∀ ν, WG Y tg (own.map (·.2)) (f x) (wipeR ρ (own.map (·.2))) ν fun ρ2 μ2 => ∀ Y, BK X scope Y → WE Y elt ρ2 μ2 fun y μ4 => μ4 = ν ∧ y = keyD (key x))
    (k : Φ (.int xs.length) μ) (hg : Gl X "len" := by rfl) (hs : ∀ x, foldedSetIterable iter X.env x = pure x := by intro _; rfl)
    (he : starEach [.SetComp elt [⟨tg, iter, [], 0⟩] scope spos] X.env = (false, eval (.SetComp elt [⟨tg, iter, [], 0⟩] scope spos) X.env) :: starEach [] X.env := by rfl) :
    WE X (.Call (.Name "len" p) [.SetComp elt [⟨tg, iter, [], 0⟩] scope spos] [] pos) ρ μ Φ := by
  have hN' : X.N.Nodup := by rw [nx.eq]; exact hN
  have ok' : BlkOk X.N X.env.scope scope own := by rw [nx.eq]; exact ok
  refine ⟨fun σ G H Q m r q => ?_⟩
  refine toW (pe_callB call_lenK hg T.len bv_len (pa_cons (pe_scK (g := fun v σ H Q => ∀ Y, BK X scope Y → tWG Y tg v σ H Q) (tt := fun σ H Q => ∀ Y, BK X scope Y → tWTs Y [] σ H Q) (te := fun σ H Q => ∀ Y, BK X scope Y → tW Y elt σ H Q) hc hN' pi_W ok'
    (fun s H C cl fp => ⟨fun pins s' σ H' v u Q I r h => h _ ⟨s, H, C, cl, fp, rfl⟩ pins s' u I r⟩) (fun s H C cl fp => ⟨fun pins s' σ H' Q I h => h _ ⟨s, H, C, cl, fp, rfl⟩ pins s' I⟩) (fun s H C cl fp => ⟨fun pins s' σ H' Q I h => h _ ⟨s, H, C, cl, fp, rfl⟩ pins s' I⟩) hs) pa_nil he) (by decide) (by decide) he rfl) ?_
  refine h.run σ G H _ m r fun ds J G1 H1 μ1 s1 m1 y ⟨ed, eμ⟩ D0 hD0 => ?_
  subst ed eμ
  obtain ⟨ck1, ck2⟩ := setK_kind (P := X.prog) (w := X.w) (a := D0) (S := fun _ => false) (n := 0)
  have w0 := grow_mut (o := SetK X.prog X.w D0 (fun _ => false) 0) m1.same hD0
  have m10 := m1.cons (c := .opq (SetK X.prog X.w D0 (fun _ => false) 0)) hD0 w0 ⟨m1.same.free hD0, upd_same, ck1, ck2⟩
  refine ⟨fun i k H' => k = xs.length - i ∧ i ≤ xs.length ∧ ∃ G', Same G1 G' ∧ SM X.K G' H' ((D0, .opq (SetK X.prog X.w D0 (inK ((xs.take i).map key)) i)) :: μ1), ⟨xs.length, by simp, Nat.zero_le _, G1, Same.refl _, m10⟩, ?_⟩
  rintro i k H' ⟨rfl, hi, G', s', m'⟩
  by_cases hlt : i < xs.length
  · have hget : (xs.map f)[i]? = some (f xs[i]) := by rw [List.getElem?_map, List.getElem?_eq_getElem hlt]; rfl
    obtain ⟨hgo, hy⟩ := y.it i (f xs[i]) G' H' hget s' m'.same
    refine .inr ⟨hgo, fun H'' => ∃ G'', Same G1 G'' ∧ SM X.K G'' H'' ((D0, .opq (SetK X.prog X.w D0 (inK ((xs.take (i + 1)).map key)) (i + 1))) :: μ1), fun H'' h'' => ⟨_, by omega, rfl, hlt, h''⟩, fun x H2 hx Y hY => ?_⟩
    obtain ⟨G2, w, rx⟩ := hy x H2 hx
    have m2 := m'.grow w
    have r2 := ((r.same s1).wipe (own.map (·.2))).same (s'.trans w.g)
    refine (hstep xs[i] (List.getElem_mem hlt) Y hY _).run _ G2 H2 x _ (by rw [hY.k]; exact m2) (by rw [hY.k]; exact r2) (by rw [hY.k]; exact rx) fun σ3 ρ3 G3 H3 μ3 e3 s3 m3 r3 k3 => ⟨e3.trans (wipe_wipe σ _), fun Z hZ => ?_⟩
    rw [hY.k] at m3 r3
    refine (wts_nil (X := Z) (ρ := ρ3) (μ := μ3) (Φ := fun b μ => b = true ∧ μ = μ3) ⟨rfl, rfl⟩).run _ G3 H3 _ (by rw [hZ.k]; exact m3) (by rw [hZ.k]; exact r3) fun b G4 H4 μ4 s4 m4 ⟨eb, e4⟩ => ?_
    subst eb e4
    rw [hZ.k] at m4
    rw [if_pos rfl]
    intro W hW
    refine (k3 W hW).run _ G4 H4 _ (by rw [hW.k]; exact m4) (by rw [hW.k]; exact r3.same s4) fun yd yv G5 H5 μ5 s5 m5 r5 ⟨e6, e7⟩ => ?_
    rw [hW.k] at m5 r5
    subst e6 e7
    have hj : ((D0, M.opq (SetK X.prog X.w D0 (inK ((xs.take i).map key)) i)) :: μ1)[0]? = some (D0, M.opq (SetK X.prog X.w D0 (inK ((xs.take i).map key)) i)) := rfl
    obtain ⟨g0, hx0, _⟩ := m5.cell _ (List.mem_of_getElem? hj)
    have hsb : 2000 < scanBound := by decide
    refine ⟨key xs[i], _, i, rep_key r5, hx0, by omega, G5, (((s'.trans w.g).trans s3).trans s4).trans s5, ?_⟩
    have hnew : key xs[i] ∉ (xs.take i).map key := fun hm => by
      obtain ⟨z, hz, e⟩ := List.mem_map.mp hm
      obtain ⟨j, hj2⟩ := List.mem_iff_getElem?.mp hz
      rw [List.getElem?_take] at hj2
      split at hj2
      · rename_i hji
        obtain ⟨l1, q1⟩ := List.getElem?_eq_some_iff.mp hj2
        have := (List.getElem_inj (xs := xs.map key) (h₀ := by simpa using l1) (h₁ := by simpa using hlt) hd).mp (by rw [List.getElem_map, List.getElem_map, q1, e])
        omega
      · cases hj2
    have hS : (fun j => inK ((xs.take i).map key) j || decide (j = key xs[i])) = inK ((xs.take (i + 1)).map key) := by
      funext j
      have e2 : (xs.take (i + 1)).map key = (xs.take i).map key ++ [key xs[i]] := by
        rw [List.take_add_one, List.getElem?_eq_getElem hlt, List.map_append]; rfl
      rw [e2]
      unfold inK
      rw [List.any_append, List.any_cons, List.any_nil, Bool.or_false]
    have hno : inK ((xs.take i).map key) (key xs[i]) = false := by
      cases e : inK ((xs.take i).map key) (key xs[i]) with
      | false => rfl
      | true => exact absurd ((inK_iff _ _).mp e) hnew
    rw [hno, if_neg Bool.false_ne_true, hS]
    obtain ⟨c1, c2⟩ := setK_kind (P := X.prog) (w := X.w) (a := D0) (S := inK ((xs.take (i + 1)).map key)) (n := i + 1)
    exact m5.putL (c' := .opq _) (o := SetK X.prog X.w D0 (inK ((xs.take (i + 1)).map key)) (i + 1)) hj ⟨g0, upd_same, c1, c2⟩
  · have e : i = xs.length := by omega
    subst e
    have hj : ((D0, M.opq (SetK X.prog X.w D0 (inK ((xs.take xs.length).map key)) xs.length)) :: μ1)[0]? = some (D0, M.opq (SetK X.prog X.w D0 (inK ((xs.take xs.length).map key)) xs.length)) := rfl
    obtain ⟨g0, hx0, _⟩ := m'.cell _ (List.mem_of_getElem? hj)
    refine .inl ⟨?_, D0, _, _, rfl, hx0, q _ _ G' H' μ1 (s1.trans s') (m'.sub (List.sublist_cons_self _ _)) (.int _) k⟩
    have := y.stop G' H' s' m'.same
    rwa [List.length_map] at this
end
end DL
namespace PySem
open Sem (wp)
/-! ### enumerate(a tuple) -/
set_option maxHeartbeats 1000000 in
theorem dl_enum_new {v : Value} {o : Obj} {H : Heap → Prop} (B : Begins v o H) :
    Meets (Builtin.«enumerate.__new__» ⟨[.type "enumerate", v], []⟩) (fun _ R s => H s.heap ∧
      R (.ok (.ret (.ref (s.heap.push o).objs.size))) { s with heap := (s.heap.push o).push { cls := .type "enumerate", data := .fields #[.none, .bool false, .ref s.heap.objs.size, rawInt 0, .none, .none] } }) :=
  .of_wp fun prog w A R s h => by
    obtain ⟨hp, g, d, tk, os⟩ := s; obtain ⟨h1, h⟩ := h
    have hsub := sub_enumerate
    have q1 : ∀ {A' : Around} {E : Value → Shared → Prop} {Q : Value → Shared → Prop}, Q (.ref hp.objs.size) ⟨hp.push o, g, d, tk, os⟩ → wpAny (model prog w) A' (pyIter v) Q E ⟨hp, g, d, tk, os⟩ :=
      fun q => B.iter prog w _ _ ⟨hp, g, d, tk, os⟩ _ h1 q
    wp_walk using q1
    refine wpAny_stack_any fun st => wpAny_pure ?_
    split
    · rename_i c _ _ _ _ _
      cases (c == Value.type "enumerate")
      · wp_walk using q1
        exact ⟨_, rfl, h⟩
      · wp_walk using q1
        exact ⟨_, rfl, h⟩
    · wp_walk using q1
      exact ⟨_, rfl, h⟩
theorem dl_enum_begins {prog : Program} {w : World} {A : Around} {E : Value → Shared → Prop} {s : Shared} {v : Value} {o : Obj} {H : Heap → Prop} {Q : Value → Shared → Prop} (B : Begins v o H) (h1 : H s.heap)
    (h : ∀ h', IsEnum h' (s.heap.objs.size + 1) s.heap.objs.size 0 .none → h'.get? s.heap.objs.size = some o → h'.objs.size = s.heap.objs.size + 2 →
      (∀ b o, s.heap.get? b = some o → h'.get? b = some o) → Q (.ref (s.heap.objs.size + 1)) { s with heap := h' }) :
    wpAny (model prog w) A (call (.type "enumerate") [v]) Q E s := by
  refine callType_new F.called_enumerate (by decide) (F.typeCall_enumerate_1 _) (F.newCall_enumerate_1 _) (fun obj => F.args_object_init_2 obj _) F.entry_enumerate_new (dl_enum_new B) ⟨h1, ?_⟩
  have hz : (s.heap.push o).objs.size = s.heap.objs.size + 1 := Heap.size_push ..
  show _ ∧ _
  rw [hz]
  have he : IsEnum ((s.heap.push o).push { cls := .type "enumerate", data := .fields #[.none, .bool false, .ref s.heap.objs.size, rawInt 0, .none, .none] }) (s.heap.objs.size + 1) s.heap.objs.size 0 .none := by
    have := Heap.get?_push_size (s.heap.push o) (o := { cls := .type "enumerate", data := .fields #[.none, .bool false, .ref s.heap.objs.size, rawInt 0, .none, .none] }) rfl
    rw [hz] at this; exact this
  exact ⟨⟨_, he, rfl⟩, h _ he (Heap.get?_push_of_some _ (Heap.get?_push_size _ B.free)) (by rw [Heap.size_push, hz]) fun b o x => Heap.get?_push_of_some _ (Heap.get?_push_of_some _ x)⟩
end PySem
namespace DL
open PySem PySem.Spec PyProof.Rows L2
/-- the tuple at a as it stands at each turn, each item in a new pair -/
def IteT (K : PySem.W.Frag) (a : Addr) : L2.It :=
  ⟨fun i H => ∃ (xs : List V) (x : V), SqT K H a xs ∧ xs[i]? = some x, fun i H v H' => ∃ T x, v = .ref T ∧ H T = none ∧ H' = upd H T (.tup [.int (i : Nat), x]) ∧ ∀ xs, SqT K H a xs → xs[i]? = some x, fun i H => ∃ xs : List V, SqT K H a xs ∧ xs.length ≤ i⟩
theorem turn_enumT {P : Program} {w : World} {K : PySem.W.Frag} {elts : List Expr} {kk : Nat} {tpos : Pos} (a e it : Addr) :
    Turn P w K (.Tuple elts kk tpos) (IteT K a) [e, it] e (fun i h => (∃ old, IsEnum h e it ((i : Nat) : Int) old) ∧ h.IsTupleIter it a i ∧ e ≠ it) where
  mem := by simp
  obj := fun i h st b hb => by
    obtain ⟨⟨old, he⟩, ⟨o, ho, hc, hd⟩, _⟩ := st
    have e' : b = e ∨ b = it := by simpa using hb
    rcases e' with z | z
    · rw [z]; exact ⟨_, he, fun v q => nomatch q⟩
    · rw [z]; exact ⟨o, ho, fun v q => by rw [hd] at q; cases q⟩
  keep := fun i h h' st k => let ⟨⟨old, he⟩, hi, hne⟩ := st; ⟨⟨old, k e (by simp) _ he⟩, hi.at fun o q => k it (by simp) o q, hne⟩
  item := by
    intro X hP hw hK hc i pins s σ H E I hf st hg
    subst hP hw hK
    obtain ⟨⟨old, he⟩, hit, hne⟩ := st
    obtain ⟨xs, x, hq, hx⟩ := hg
    obtain ⟨its, rv, p, hz⟩ := I.tuple hq
    have hel : e < s.heap.objs.size := Heap.lt_size he
    have hil : it < s.heap.objs.size := by obtain ⟨_, q, _⟩ := hit; exact Heap.lt_size q
    have hai : a ≠ it := fun z => by
      obtain ⟨o1, q1, c1, _⟩ := hit
      obtain ⟨o2, q2, c2, _⟩ := p
      rw [z, q1] at q2; cases q2; rw [c1] at c2; exact absurd (Value.type.inj c2) (by decide)
    have hea : e ≠ a := fun z => by
      obtain ⟨o2, q2, c2, _⟩ := p
      rw [← z] at q2
      rw [show s.heap.get? e = _ from he] at q2; cases q2; exact absurd (Value.type.inj c2) (by decide)
    have hi : i < its.toArray.size := by
      have := (List.getElem?_eq_some_iff.mp hx).1
      rw [List.size_toArray, ← rv.length]; exact this
    have D := Draws.tuple (prog := X.prog) (w := X.w) (A := X.A.in1) (show X.A.in1.handled = none from I.ok.hd hc) it a hai its.toArray
    refine wpAny_pyNext_enum_itemD D he ⟨hit, p⟩ hi hne (by simp [hne, hea]) fun u h' tk hPu ho hst' hT hsz hk => ?_
    have ru : RelV x u := by
      obtain ⟨u', hu', ru'⟩ := rv.get hx
      have : some u = some u' := by rw [← hPu, ← hu', ← Array.getElem?_toList]
      rw [Option.some.inj this]; exact ru'
    refine ⟨_, rfl, wpAny_letOwnedTupleGo_enum (s := { s with heap := h', toks := tk + 1 }) ho fun h'' he' sb => ?_⟩
    have hT2 : h''.get? s.heap.objs.size = some { cls := .type "tuple", data := .seq #[.int i tk, u] } := (sb.2 _ (Nat.ne_of_gt hel)).trans hT
    have new : ObjOk X.prog X.w (upd H s.heap.objs.size (.tup [.int (i : Nat), x])) h'' s.heap.objs.size (.tup [.int (i : Nat), x]) :=
      ⟨by show 2 ≤ sizeLine; decide, [.int i tk, u], .cons ⟨_, rfl⟩ (.cons ru .nil), ⟨_, hT2, rfl, _, rfl⟩⟩
    have I1 : Inv X pins σ (upd H s.heap.objs.size (.tup [.int (i : Nat), x])) { s with heap := h'', toks := tk + 1 } :=
      I.turnedNew (ch := [e, it]) (fun b ob hb q => (sb.2 b (fun z => hb (by simp [z]))).trans (hk b ob (fun z => hb (by simp [z])) (fun z => hb (by simp [z])) q)) hf (Nat.le_refl _) new
    refine ⟨.ref s.heap.objs.size, _, I1, rfl, ⟨_, x, rfl, I.hok.fresh (Nat.le_refl _), rfl, fun ys hy => by rw [I.tuple_inj hy hq]; exact hx⟩, ⟨⟨u, ?_⟩, hst'.1.at fun o q => (sb.2 it (Ne.symm hne)).trans q, hne⟩, fun b hb => ?_⟩
    · have e1 : ((i + 1 : Nat) : Int) = (i : Int) + 1 := by omega
      rw [e1]; exact he'
    · have hb' : b < s.heap.objs.size := by
        have e' : b = e ∨ b = it := by simpa using hb
        rcases e' with z | z
        · rw [z]; exact hel
        · rw [z]; exact hil
      rw [upd_ne (Nat.ne_of_lt hb')]
      exact (hf b hb).1
  done := by
    intro X hP hw hK hc i pins s σ H E I hf st hg
    subst hP hw hK
    obtain ⟨⟨old, he⟩, hit, hne⟩ := st
    obtain ⟨xs, hq, hx⟩ := hg
    obtain ⟨its, rv, p, hz⟩ := I.tuple hq
    obtain ⟨f0, f1, f2, f3, f4, f5⟩ := hf it (by simp)
    have hai : a ≠ it := fun z => by
      obtain ⟨o1, q1, c1, _⟩ := hit
      obtain ⟨o2, q2, c2, _⟩ := p
      rw [z, q1] at q2; cases q2; rw [c1] at c2; exact absurd (Value.type.inj c2) (by decide)
    have hT : s.TypeIs (.ref e) "enumerate" := ⟨_, he, rfl⟩
    unfold pyNext
    refine wpAny_bind (wpAny_attempt (wpAny_callSpecial?_slot (name := Str.ofString "__next__") hT F.slot_enumerate_next
      (wpAny_call_entry F.slot_enumerate_next hT F.entry_enumerate_next ?_ (F.args_enumerate_next_1 _))))
    show wpAny _ _ (field (.ref e) 2 >>= _) _ _ _
    refine wpAny_bind (wpAny_field he rfl (x := .ref it) rfl ?_)
    refine wpAny_bind (wpAny_nextOf_tuple_end (show X.A.in1.in1.handled = none from I.ok.hd hc) hit p (by
      have := rv.length
      rw [Array.getElem?_eq_none (by rw [List.size_toArray]; omega)]) fun h' x he' hx' => ?_)
    obtain ⟨o, ho, hcl⟩ := hx'
    refine wpAny_bind (wpAny_isInstance (T := "StopIteration") (b := true) ⟨o, ho, hcl⟩ isSubtype_stop ?_)
    exact wpAny_pure ⟨rfl, I.turned (t' := s.toks) (fun b o hb q => he' b o hb q) f0 f1 f3 f4 f5⟩
  self := fun A i s Q E st h => let ⟨⟨_, he⟩, _⟩ := st; wpAny_pyIter_enum he h
def iEnumT (K : PySem.W.Frag) (ta : TA) : TI := fun σ H R => ta σ H fun vs H1 => ∃ a xs, vs = [V.ref a] ∧ SqT K H1 a xs ∧ R (IteT K a) H1
theorem pi_enumT {X : Cx} {e : Expr} {ta : TA} {p pos tpos : Pos} {elts : List Expr} {kk : Nat} (hg : Gl X "enumerate") (hm : X.mg "enumerate" = none) (ha : PA X [e] ta) (hs : starEach [e] X.env = [(false, eval e X.env)] := by rfl) :
    PI X (.Tuple elts kk tpos) (.Call (.Name "enumerate" p) [e] [] pos) (iEnumT X.K ta) := by
  refine ⟨fun pins s σ H R I h => ?_⟩
  refine Call_ (ld_blt I hg hm boot_enumerate (PyProof.Rows.callWith_type1 (thn (ha.run pos pins s σ H _ I h) fun us s1 ⟨vs, H1, I1, r1, q1⟩ => ?_) hs rfl))
  obtain ⟨a, xs, ex, hq, q⟩ := q1
  subst ex
  cases r1 with
  | cons r rr =>
    cases rr
    cases r
    obtain ⟨its, rv, p', hz⟩ := I1.tuple hq
    refine dl_enum_begins (begins_tuple a its.toArray) p' fun h' he hit hsz hk => wpAny_pyIter_enum he ?_
    have I2 : Inv X pins σ H1 { s1 with heap := h' } := I1.kept (t' := s1.toks) hk
    refine ⟨s1.heap.objs.size + 1, [s1.heap.objs.size + 1, s1.heap.objs.size], _, _, H1, rfl, I2, turn_enumT a (s1.heap.objs.size + 1) s1.heap.objs.size, ⟨⟨.none, he⟩, ⟨_, hit, rfl, rfl⟩, Nat.succ_ne_self _⟩, fun b hb => ?_, q⟩
    have e' : b = s1.heap.objs.size + 1 ∨ b = s1.heap.objs.size := by simpa using hb
    have hle : s1.heap.objs.size ≤ b := by
      rcases e' with z | z
      · rw [z]; exact Nat.le_add_right _ _
      · rw [z]; exact Nat.le_refl _
    exact I1.fpOk hle (I1.hok.fresh hle)
/-- the pairs of a walk by number -/
def enumD (i : Nat) : List D → List D
  | [] => []
  | d :: ds => .tup [.int (i : Nat), d] :: enumD (i + 1) ds
theorem enumD_get : ∀ (ds : List D) (i j : Nat), (enumD i ds)[j]? = ds[j]?.map fun d => .tup [.int ((i + j : Nat) : Int), d]
  | [], _, _ => rfl
  | d :: ds, i, 0 => rfl
  | d :: ds, i, j + 1 => by
    rw [enumD, List.getElem?_cons_succ, enumD_get ds (i + 1) j, List.getElem?_cons_succ, show i + 1 + j = i + (j + 1) by omega]
theorem enumD_len : ∀ (ds : List D) (i : Nat), (enumD i ds).length = ds.length
  | [], _ => rfl
  | d :: ds, i => congrArg Nat.succ (enumD_len ds (i + 1))
theorem yl_enumT {K : PySem.W.Frag} {G : Hp} {a : Addr} {xs : List V} {ds : List D} (h : SqT K G a xs) (rs : Reps K G xs ds) : Yl K G (IteT K a) (enumD 0 ds) where
  it := fun i d G1 H e s1 s2 => by
    rw [enumD_get] at e
    obtain ⟨d', hd', ed⟩ := Option.map_eq_some_iff.mp e
    obtain ⟨x, hx, rx⟩ := rs.get hd'
    have hH : SqT K H a xs := sqt_same (s1.trans s2) h
    refine ⟨⟨xs, x, hH, hx⟩, ?_⟩
    rintro y H' ⟨T, x', rfl, hT, rfl, hy⟩
    have e2 := hy xs hH
    rw [hx] at e2
    cases e2
    have w := grow_new (o := .tup [.int (i : Nat), x]) s2 hT
    subst ed
    exact ⟨_, w, .tup (.inl (.inl upd_same)) (.cons (by rw [Nat.zero_add]; exact .int _) (.cons (rx.same (s1.trans w.g)) .nil))⟩
  stop := fun G1 H s1 s2 => ⟨xs, sqt_same (s1.trans s2) h, by rw [enumD_len, rs.length]; exact Nat.le_refl _⟩
section
variable {X : Cx} {iter e e2 : Expr} {ρ : Rho} {μ : Mu} {Φ : List D → Mu → Prop} {pos p tpos : Pos} {elts : List Expr} {kk : Nat}
theorem wi_enumT (T : Bn X.mg) (h : WE X e ρ μ fun d μ1 => ∃ ds, d = .tup ds ∧ Φ (enumD 0 ds) μ1) (hg : Gl X "enumerate" := by rfl) (hs : starEach [e] X.env = [(false, eval e X.env)] := by rfl) : WI X (.Tuple elts kk tpos) (.Call (.Name "enumerate" p) [e] [] pos) ρ μ Φ := ⟨fun σ G H R m r q =>
  toWI (pi_enumT hg T.enumerate pa_W hs) ((wa_one h hs).run σ G H _ m r fun ds vs G1 H1 μ1 s1 m1 rd ⟨d, ed, es, ee, k⟩ => by
    subst ed ee
    obtain ⟨v, e, r1⟩ := rd.oneV
    subst e
    cases r1 with
    | @tup a xs _ hl rs => exact ⟨a, xs, rfl, sqt_same m1.same hl, q _ _ G1 H1 μ1 s1 m1 (yl_enumT hl rs) k⟩)⟩
/-- zip of two tuples -/
def zipD : List D → List D → List D
  | a :: as, b :: bs => .tup [a, b] :: zipD as bs
  | _, _ => []
theorem zipD_get : ∀ (as bs : List D) (j : Nat), (zipD as bs)[j]? = match as[j]?, bs[j]? with | some a, some b => some (.tup [a, b]) | _, _ => none
  | [], _, _ => rfl
  | a :: as, [], j => by cases j <;> (simp [zipD]; try (cases as[_]? <;> rfl))
  | a :: as, b :: bs, 0 => rfl
  | a :: as, b :: bs, j + 1 => by simp only [zipD, List.getElem?_cons_succ]; exact zipD_get as bs j
theorem zipD_len : ∀ (as bs : List D), as.length ≤ (zipD as bs).length ∨ bs.length ≤ (zipD as bs).length
  | [], _ => .inl (Nat.zero_le _)
  | _ :: _, [] => .inr (Nat.zero_le _)
  | a :: as, b :: bs => (zipD_len as bs).imp Nat.succ_le_succ Nat.succ_le_succ
theorem yl_zipT {K : PySem.W.Frag} {G : Hp} {a b : Addr} {xs ys : List V} {ds es : List D} (h : SqT K G a xs) (rs : Reps K G xs ds) (h2 : SqT K G b ys) (rs2 : Reps K G ys es) : Yl K G (RZ.ItzT K a b) (zipD ds es) where
  it := fun i d G1 H e s1 s2 => by
    rw [zipD_get] at e
    cases e1 : ds[i]? with
    | none => rw [e1] at e; cases e
    | some d1 =>
      cases e2 : es[i]? with
      | none => rw [e1, e2] at e; cases e
      | some d2 =>
        rw [e1, e2] at e
        have ed : D.tup [d1, d2] = d := Option.some.inj e
        obtain ⟨x, hx, rx⟩ := rs.get e1
        obtain ⟨y, hy, ry⟩ := rs2.get e2
        have hH : SqT K H a xs := sqt_same (s1.trans s2) h
        have hH2 : SqT K H b ys := sqt_same (s1.trans s2) h2
        refine ⟨⟨xs, ys, x, y, hH, hH2, hx, hy⟩, ?_⟩
        rintro z H' ⟨T, x', y', rfl, hT, rfl, q1, q2⟩
        have e3 := q1 xs hH
        have e4 := q2 ys hH2
        rw [hx] at e3; rw [hy] at e4
        cases e3; cases e4
        have w := grow_new (o := .tup [x, y]) s2 hT
        subst ed
        exact ⟨_, w, .tup (.inl (.inl upd_same)) (.cons (rx.same (s1.trans w.g)) (.cons (ry.same (s1.trans w.g)) .nil))⟩
  stop := fun G1 H s1 s2 => ⟨xs, ys, sqt_same (s1.trans s2) h, sqt_same (s1.trans s2) h2, by rw [rs.length, rs2.length]; exact zipD_len ds es⟩
theorem wi_zipT (T : Bn X.mg) (h : WE X e ρ μ fun d μ1 => WE X e2 ρ μ1 fun d2 μ2 => ∃ ds es, d = .tup ds ∧ d2 = .tup es ∧ Φ (zipD ds es) μ2) (hg : Gl X "zip" := by rfl) (hs : starEach [e, e2] X.env = (false, eval e X.env) :: starEach [e2] X.env := by rfl) (hs2 : starEach [e2] X.env = (false, eval e2 X.env) :: starEach [] X.env := by rfl) (hpl : (backTo pos (starEach [e2] X.env)).any (·.1) = false := by rfl) : WI X (.Tuple elts kk tpos) (.Call (.Name "zip" p) [e, e2] [] pos) ρ μ Φ := ⟨fun σ G H R m r q =>
  toWI (RZ.pi_zipA hg T.zip pa_W hs hpl) ((wa_two h hs hs2).run σ G H _ m r fun ds vs G1 H1 μ1 s1 m1 rd ⟨d, d2, ed, es, es2, ee, ee2, k⟩ => by
    subst ed ee ee2
    cases rd with
    | cons r1 r2 =>
      obtain ⟨v, e, r3⟩ := r2.oneV
      subst e
      cases r1 with
      | @tup a xs _ hl rs =>
        cases r3 with
        | @tup b ys _ hl2 rs2 => exact ⟨a, b, xs, ys, rfl, .inr ⟨sqt_same m1.same hl, sqt_same m1.same hl2, q _ _ G1 H1 μ1 s1 m1 (yl_zipT hl rs hl2 rs2) k⟩⟩)⟩
end
end DL
namespace DL
open PySem PySem.Spec PyProof.Rows L2
section
variable {X : Cx} {ρ : Rho} {μ : Mu} {Φ : Bool → Mu → Prop} {a b c e o i : Expr} {pos p apos : Pos} {C g : Addr} {k : Nat} {S : Spec}
theorem wt_inO (M : Omx X k C "__contains__" S) (hr : Room k X.A) (h : WE X a ρ μ fun y μ1 => WE X b ρ μ1 fun x μ2 => Recv μ2 x C ∧ S [x, y] μ2 (Bl Φ) noX) (hm : behindInMarks .In b = false := by first | exact nomark _ | rfl) : WT X (.Compare a [.In] [b] pos) ρ μ Φ := by
  obtain ⟨g, h1, h2, _, _, Fr⟩ := M.ex
  refine wt_cmp (op_inO Fr h1 h2 hr) ⟨fun σ G H Q m r q => h.run σ G H Q m r fun y vy G1 H1 μ1 s1 m1 ry k1 => q y vy G1 H1 μ1 s1 m1 ry ⟨fun σ G H Q m r q => k1.run σ G H Q m r fun x vx G2 H2 μ2 s2 m2 rx ⟨hv, k2⟩ => q x vx G2 H2 μ2 s2 m2 rx (rd_inO hv ?_)⟩⟩ hm
  have e : (fun b μ' => Bl Φ (.bl (b != false)) μ') = fun b μ' => Bl Φ (.bl b) μ' := by funext b μ'; cases b <;> rfl
  rw [e]
  have e2 : (Bl fun b μ' => Bl Φ (.bl b) μ') = Bl Φ := by
    funext d μ'
    refine propext ⟨fun h => ?_, fun h => ?_⟩
    · obtain ⟨t, e3, h2⟩ := h.get; subst e3; exact h2
    · obtain ⟨t, e3, h2⟩ := h.get; subst e3; exact .mk (.mk h2)
  rw [e2]; exact k2
theorem wt_notInO (M : Omx X k C "__contains__" S) (hr : Room k X.A) (h : WE X a ρ μ fun y μ1 => WE X b ρ μ1 fun x μ2 => Recv μ2 x C ∧ S [x, y] μ2 (Bl fun t μ' => Φ (!t) μ') noX) (hm : behindInMarks .NotIn b = false := by first | exact nomark _ | rfl) : WT X (.Compare a [.NotIn] [b] pos) ρ μ Φ := by
  obtain ⟨g, h1, h2, _, _, Fr⟩ := M.ex
  refine wt_cmp (op_notInO Fr h1 h2 hr) ⟨fun σ G H Q m r q => h.run σ G H Q m r fun y vy G1 H1 μ1 s1 m1 ry k1 => q y vy G1 H1 μ1 s1 m1 ry ⟨fun σ G H Q m r q => k1.run σ G H Q m r fun x vx G2 H2 μ2 s2 m2 rx ⟨hv, k2⟩ => q x vx G2 H2 μ2 s2 m2 rx (rd_inO hv ?_)⟩⟩ hm
  have e : (fun b μ' => Bl Φ (.bl (b != true)) μ') = fun b μ' => Bl Φ (.bl (!b)) μ' := by funext b μ'; cases b <;> rfl
  rw [e]
  have e2 : (Bl fun b μ' => Bl Φ (.bl (!b)) μ') = Bl fun t μ' => Φ (!t) μ' := by
    funext d μ'
    refine propext ⟨fun h => ?_, fun h => ?_⟩
    · obtain ⟨t, e3, h2⟩ := h.get
      subst e3
      obtain ⟨t', e4, h3⟩ := h2.get
      cases e4
      exact .mk h3
    · obtain ⟨t, e3, h2⟩ := h.get; subst e3; exact .mk (.mk h2)
  rw [e2]; exact k2
end
theorem enumD_map {β : Type} (g : β → D) : ∀ (ks : List β) (i : Nat), enumD i (ks.map g) = (ks.zipIdx i).map fun p => .tup [.int (p.2 : Nat), g p.1]
  | [], _ => rfl
  | k :: ks, i => by rw [List.map_cons, enumD, enumD_map g ks (i + 1), List.zipIdx_cons, List.map_cons]
theorem zipD_map {β γ : Type} (f : β → D) (g : γ → D) : ∀ (as : List β) (bs : List γ), zipD (as.map f) (bs.map g) = (as.zip bs).map fun p => .tup [f p.1, g p.2]
  | [], _ => rfl
  | _ :: _, [] => rfl
  | a :: as, b :: bs => by rw [List.map_cons, List.map_cons, zipD, zipD_map f g as bs]; rfl
end DL
namespace DL
open PySem PySem.Spec PyProof.Rows L2
section
variable {X : Cx} {ρ : Rho} {μ : Mu} {F : Fx} {a e : Expr} {pos p p2 p3 p4 pos2 : Pos} {j : Nat}
/-- if a and (x := e) is not None -/
theorem ws_ifWal {N : List Str} {i : Nat} {x : Str} {body orelse : List Stmt} (nx : Nx X N) (ix : Ix N x i) (hN : N.Nodup) (h : WT X a ρ μ fun t μ1 => It t (WE X e ρ μ1 fun d μ2 => It (!isNonD d) (WB X body (ρ.set i (some d)) μ2 F) (WB X orelse (ρ.set i (some d)) μ2 F)) (WB X orelse ρ μ1 F))
    (hx : Loc X.env.scope x := by first | exact Or.inl rfl | exact Or.inr rfl) (hf : X.fn x = true ∨ X.env.scope.names.lookup x = some .local := by first | exact .inl rfl | exact .inr rfl) :
    WS X (.If (.BoolOp .And [a, .Compare (.NamedExpr (.Name x p) e p2) [.IsNot] [.Constant .none j p3] p4] pos2) body orelse pos) ρ μ F := ⟨fun σ G H E m r q => by
  have hc : PTw X (.Compare (.NamedExpr (.Name x p) e p2) [.IsNot] [.Constant .none j p3] p4) (wCmp rNotN (wNm (wE (tW X e)) i) (tW X (.Constant .none j p3))) :=
    ptw_cmp op_notN (pew_named (by rw [nx.eq]; exact hN) (by rw [nx.eq]; exact ix.at) hx (pew_of pe_W) hf) pe_W (by rfl)
  have hand : PTw X (.BoolOp .And [a, .Compare (.NamedExpr (.Name x p) e p2) [.IsNot] [.Constant .none j p3] p4] pos2) (fun σ H Q => tWT X a σ H fun c H1 => if c = true then wCmp rNotN (wNm (wE (tW X e)) i) (tW X (.Constant .none j p3)) σ H1 Q else Q false σ H1) := by
    refine ⟨fun pins s σ H Q I h => ?_⟩
    refine isTrue_and (thn ((pt_W (X := X) (e := a)).run pins s σ H _ I h) fun c s1 ⟨H1, I1, q1⟩ => ?_)
    cases c with
    | true =>
      refine isTrue_and (thn (hc.run pins s1 σ H1 Q I1 q1) fun c2 s2 q2 => ?_)
      cases c2 with
      | true => exact isTrue_and_nil q2
      | false => exact q2
    | false => exact ⟨σ, H1, I1, q1⟩
  refine toWS (ps_ifW hand pss_W pss_W) (h.run σ G H _ m r fun t G1 H1 μ1 s1 m1 k1 => ?_)
  cases t with
  | false =>
    rw [if_neg Bool.false_ne_true]
    show (if (false : Bool) = true then tWB X body E σ H1 else tWB X orelse E σ H1)
    rw [if_neg Bool.false_ne_true]
    exact k1.ff.run σ G1 H1 E m1 (r.same s1) (q.same s1)
  | true =>
    rw [if_pos rfl]
    refine k1.tt.run σ G1 H1 _ m1 (r.same s1) fun d v G2 H2 μ2 s2 m2 rd k2 => ?_
    refine (we_non (X := X) (ρ := ρ.set i (some d)) (Φ := fun d' μ' => d' = .non ∧ μ' = μ2) ⟨rfl, rfl⟩).run _ G2 H2 _ m2 ((r.same (s1.trans s2)).set i rd) fun d' v' G3 H3 μ3 s3 m3 rd' ⟨e1, e2⟩ => ?_
    subst e1 e2
    cases rd'
    refine ⟨rfl, _, rfl, ?_⟩
    have rd3 := rd.same s3
    rw [rep_non rd3]
    cases hn : isNonD d with
    | true =>
      rw [hn] at k2
      exact k2.ff.run _ G3 H3 E m3 ((r.same ((s1.trans s2).trans s3)).set i rd3) (q.same ((s1.trans s2).trans s3))
    | false =>
      rw [hn] at k2
      exact k2.tt.run _ G3 H3 E m3 ((r.same ((s1.trans s2).trans s3)).set i rd3) (q.same ((s1.trans s2).trans s3))⟩
end
theorem rd_neB {K : PySem.W.Frag} {μ : Mu} {Φ : D → Mu → Prop} {x y : Bool} (k : Φ (.bl (!decide (x = y))) μ) : RD K (rNeA K) (.bl x) (.bl y) μ Φ := rd_neP (rd_ne (.bl x) (.bl y) (by cases x <;> cases y <;> rfl) (by
  have : decide (V.bl x = V.bl y) = decide (x = y) := decide_eq_decide.mpr ⟨fun h => by injection h, fun h => by rw [h]⟩
  rw [this]; exact k))
end DL
namespace DL
open PySem PySem.Spec PyProof.Rows L2
section
variable {X : Cx} {ρ : Rho} {μ : Mu} {Φ : D → Mu → Prop} {tg iter tg1 iter1 elt : Expr} {ifs1 : List Expr} {scope : Scope} {pos : Pos}
/-- [elt for .. in .. for .. in .. if ..]: nothing is written -/
theorem we_lc2 {β γ : Type} {N : List Str} (own : List (Str × Nat)) (vs1 : List Nat) (f : β → D) (f1 : γ → D) (ys : β → List γ) (pr : β → γ → Bool) (g : β → γ → D) (xs : List β) (nx : Nx X N) (hN : N.Nodup) (hc : X.calm = true) (ok : BlkOk N X.env.scope scope own)
    (hv : ∀ i ∈ vs1, i ∈ own.map (·.2))
    (h : WI X tg iter ρ μ fun ds μ1 => ds = xs.map f ∧ μ1 = μ) (hl : (xs.flatMap ys).length ≤ 1000)
    (hstep : ∀ x, x ∈ xs → ∀ (Y : Cx), BK X scope Y → ∀ ν, WG Y tg (own.map (·.2)) (f x) (wipeR ρ (own.map (·.2))) ν fun ρ2 μ2 => μ2 = ν ∧ (∀ Y, BK X scope Y → WI Y tg1 iter1 ρ2 ν fun ds μ3 => μ3 = ν ∧ ds = (ys x).map f1) ∧
      ∀ y, y ∈ ys x → ∀ Y, BK X scope Y → ∀ ν, WG Y tg1 vs1 (f1 y) (wipeR ρ2 vs1) ν fun ρ3 μ4 => ∀ Y, BK X scope Y → WTs Y ifs1 ρ3 μ4 fun b μ5 => μ5 = ν ∧ b = pr x y ∧ (pr x y = true → ∀ Y, BK X scope Y → WE Y elt ρ3 μ5 fun z μ6 => μ6 = ν ∧ z = g x y))
    (k : Φ (.lst (xs.flatMap fun x => ((ys x).filter (pr x)).map (g x))) μ)
    (hs : ∀ x, foldedSetIterable iter X.env x = pure x := by intro _; rfl) (hs1 : ∀ env x, foldedSetIterable iter1 env x = pure x := by intro _ _; rfl) :
    WE X (.ListComp elt [⟨tg, iter, [], 0⟩, ⟨tg1, iter1, ifs1, 0⟩] scope pos) ρ μ Φ := by
  have hN' : X.N.Nodup := by rw [nx.eq]; exact hN
  have ok' : BlkOk X.N X.env.scope scope own := by rw [nx.eq]; exact ok
  refine we_frz ⟨fun σ G H Q m r q => ?_⟩
  refine toW (pe_lc2 (vs1 := vs1) (g := fun v σ H Q => ∀ Y, BK X scope Y → tWG Y tg v σ H Q) (tt := fun σ H Q => ∀ Y, BK X scope Y → tWTs Y [] σ H Q) (wi1 := fun σ H R => ∀ Y, BK X scope Y → tWI Y tg1 iter1 σ H R) (g1 := fun v σ H Q => ∀ Y, BK X scope Y → tWG Y tg1 v σ H Q) (tt1 := fun σ H Q => ∀ Y, BK X scope Y → tWTs Y ifs1 σ H Q) (te := fun σ H Q => ∀ Y, BK X scope Y → tW Y elt σ H Q) hc hN' pi_W ok' hv
    (fun s H C cl fp => ⟨fun pins s' σ H' v u Q I r h => h _ ⟨s, H, C, cl, fp, rfl⟩ pins s' u I r⟩) (fun s H C cl fp => ⟨fun pins s' σ H' Q I h => h _ ⟨s, H, C, cl, fp, rfl⟩ pins s' I⟩) (fun s H C cl fp => ⟨fun pins s' σ H' R I h => h _ ⟨s, H, C, cl, fp, rfl⟩ pins s' I⟩)
    (fun s H C cl fp => ⟨fun pins s' σ H' v u Q I r h => h _ ⟨s, H, C, cl, fp, rfl⟩ pins s' u I r⟩) (fun s H C cl fp => ⟨fun pins s' σ H' Q I h => h _ ⟨s, H, C, cl, fp, rfl⟩ pins s' I⟩) (fun s H C cl fp => ⟨fun pins s' σ H' Q I h => h _ ⟨s, H, C, cl, fp, rfl⟩ pins s' I⟩) hs hs1) ?_
  refine h.run σ G H _ m r fun ds J G1 H1 μ1 s1 m1 y ⟨ed, eμ⟩ D0 hD0 => ?_
  subst ed eμ
  have w0 := grow_mut (o := .lst []) m1.same hD0
  have m10 := m1.cons (c := .lst []) hD0 w0 ⟨m1.same.free hD0, [], upd_same, .nil⟩
  have hlen : ∀ i, ((xs.take i).flatMap fun x => ((ys x).filter (pr x)).map (g x)).length ≤ ((xs.take i).flatMap ys).length := fun i => by
    generalize xs.take i = zs
    induction zs with
    | nil => exact Nat.le_refl _
    | cons z zs ih =>
      rw [List.flatMap_cons, List.flatMap_cons, List.length_append, List.length_append, List.length_map]
      have := List.length_filter_le (pr z) (ys z)
      omega
  refine ⟨fun i k H' => k = xs.length - i ∧ i ≤ xs.length ∧ ∃ G', Same G1 G' ∧ SM X.K G' H' ((D0, .lst ((xs.take i).flatMap fun x => ((ys x).filter (pr x)).map (g x))) :: μ1), ⟨xs.length, by simp, Nat.zero_le _, G1, Same.refl _, m10⟩, ?_⟩
  rintro i k2 H' ⟨rfl, hi, G', s', m'⟩
  by_cases hlt : i < xs.length
  · have hget : (xs.map f)[i]? = some (f xs[i]) := by rw [List.getElem?_map, List.getElem?_eq_getElem hlt]; rfl
    obtain ⟨hgo, hy⟩ := y.it i (f xs[i]) G' H' hget s' m'.same
    refine .inr ⟨hgo, fun H'' => ∃ G'', Same G1 G'' ∧ SM X.K G'' H'' ((D0, .lst ((xs.take (i + 1)).flatMap fun x => ((ys x).filter (pr x)).map (g x))) :: μ1), fun H'' h'' => ⟨_, by omega, rfl, hlt, h''⟩, fun x H2 hx Y hY => ?_⟩
    obtain ⟨G2, w, rx⟩ := hy x H2 hx
    have m2 := m'.grow w
    have r2 := ((r.same s1).wipe (own.map (·.2))).same (s'.trans w.g)
    refine (hstep xs[i] (List.getElem_mem hlt) Y hY ((D0, .lst ((xs.take i).flatMap fun x => ((ys x).filter (pr x)).map (g x))) :: μ1)).run _ G2 H2 x _ (by rw [hY.k]; exact m2) (by rw [hY.k]; exact r2) (by rw [hY.k]; exact rx) fun σ3 ρ3 G3 H3 μ3 e3 s3 m3 r3 ⟨eμ3, k3, k3'⟩ => ⟨e3.trans (wipe_wipe σ _), fun Z hZ => ?_⟩
    subst eμ3
    rw [hY.k] at m3 r3
    refine (wts_nil (X := Z) (ρ := ρ3) (μ := ((D0, M.lst ((xs.take i).flatMap fun x => ((ys x).filter (pr x)).map (g x))) :: μ1)) (Φ := fun b μ => b = true ∧ μ = ((D0, M.lst ((xs.take i).flatMap fun x => ((ys x).filter (pr x)).map (g x))) :: μ1)) ⟨rfl, rfl⟩).run _ G3 H3 _ (by rw [hZ.k]; exact m3) (by rw [hZ.k]; exact r3) fun b G4 H4 μ4 s4 m4 ⟨eb, e4⟩ => ?_
    subst eb e4
    rw [hZ.k] at m4
    rw [if_pos rfl]
    intro W hW
    refine (k3 W hW).run _ G4 H4 _ (by rw [hW.k]; exact m4) (by rw [hW.k]; exact r3.same s4) fun ds1 J1 G5 H5 μ5 s5 m5 y1 ⟨e5, e6⟩ => ?_
    subst e5 e6
    rw [hW.k] at m5 y1
    have sA : Same G1 G5 := (((s'.trans w.g).trans s3).trans s4).trans s5
    have htake : (xs.take (i + 1)).flatMap (fun x => ((ys x).filter (pr x)).map (g x)) = ((xs.take i).flatMap fun x => ((ys x).filter (pr x)).map (g x)) ++ ((ys xs[i]).filter (pr xs[i])).map (g xs[i]) := by
      rw [List.take_add_one, List.getElem?_eq_getElem hlt, List.flatMap_append]
      simp
    refine ⟨fun j k H' => k = (ys xs[i]).length - j ∧ j ≤ (ys xs[i]).length ∧ ∃ G', Same G5 G' ∧ SM X.K G' H' ((D0, .lst (((xs.take i).flatMap fun x => ((ys x).filter (pr x)).map (g x)) ++ (((ys xs[i]).take j).filter (pr xs[i])).map (g xs[i]))) :: μ1), ⟨(ys xs[i]).length, by simp, Nat.zero_le _, G5, Same.refl _, by simpa using m5⟩, ?_⟩
    rintro j k4 H6 ⟨rfl, hj, G6, s6, m6⟩
    by_cases hjl : j < (ys xs[i]).length
    · have hget1 : ((ys xs[i]).map f1)[j]? = some (f1 (ys xs[i])[j]) := by rw [List.getElem?_map, List.getElem?_eq_getElem hjl]; rfl
      obtain ⟨hgo1, hy1⟩ := y1.it j (f1 (ys xs[i])[j]) G6 H6 hget1 s6 m6.same
      refine .inr ⟨hgo1, fun H'' => ∃ G'', Same G5 G'' ∧ SM X.K G'' H'' ((D0, .lst (((xs.take i).flatMap fun x => ((ys x).filter (pr x)).map (g x)) ++ (((ys xs[i]).take (j + 1)).filter (pr xs[i])).map (g xs[i]))) :: μ1), fun H'' h'' => ⟨_, by omega, rfl, hjl, h''⟩, fun x1 H7 hx1 Y1 hY1 => ?_⟩
      obtain ⟨G7, w7, rx7⟩ := hy1 x1 H7 hx1
      have m7 := m6.grow w7
      have r7 : RS X.K G7 (wipe σ3 vs1) (wipeR ρ3 vs1) := (r3.same ((s4.trans s5).trans (s6.trans w7.g))).wipe vs1
      refine (k3' _ (List.getElem_mem hjl) Y1 hY1 ((D0, .lst (((xs.take i).flatMap fun x => ((ys x).filter (pr x)).map (g x)) ++ (((ys xs[i]).take j).filter (pr xs[i])).map (g xs[i]))) :: μ1)).run _ G7 H7 x1 _ (by rw [hY1.k]; exact m7) (by rw [hY1.k]; exact r7) (by rw [hY1.k]; exact rx7) fun σ8 ρ8 G8 H8 μ8 e8 s8 m8 r8 k8 => ⟨e8.trans (wipe_wipe σ3 _), fun Z1 hZ1 => ?_⟩
      rw [hY1.k] at m8 r8
      refine (k8 Z1 hZ1).run _ G8 H8 _ (by rw [hZ1.k]; exact m8) (by rw [hZ1.k]; exact r8) fun b G9 H9 μ9 s9 m9 ⟨e9, eb, k9⟩ => ?_
      subst e9 eb
      rw [hZ1.k] at m9
      have hnext : ((ys xs[i]).take (j + 1)) = (ys xs[i]).take j ++ [(ys xs[i])[j]] := by rw [List.take_add_one, List.getElem?_eq_getElem hjl]; rfl
      cases hp : pr xs[i] (ys xs[i])[j] with
      | true =>
        rw [if_pos rfl]
        intro W1 hW1
        refine (k9 hp W1 hW1).run _ G9 H9 _ (by rw [hW1.k]; exact m9) (by rw [hW1.k]; exact r8.same s9) fun zd zv G10 H10 μ10 s10 m10 r10 ⟨e10, e11⟩ => ?_
        subst e10 e11
        rw [hW1.k] at m10 r10
        have hjj : ((D0, M.lst (((xs.take i).flatMap fun x => ((ys x).filter (pr x)).map (g x)) ++ (((ys xs[i]).take j).filter (pr xs[i])).map (g xs[i]))) :: μ1)[0]? = some (D0, M.lst (((xs.take i).flatMap fun x => ((ys x).filter (pr x)).map (g x)) ++ (((ys xs[i]).take j).filter (pr xs[i])).map (g xs[i]))) := rfl
        obtain ⟨g0, vs, hx0, rs0⟩ := m10.cell _ (List.mem_of_getElem? hjj)
        refine ⟨vs, hx0, ?_, G10, (((s6.trans w7.g).trans s8).trans s9).trans s10, ?_⟩
        · rw [rs0.length, List.length_append, List.length_map]
          have h1 := hlen i
          have h2 := List.length_filter_le (pr xs[i]) ((ys xs[i]).take j)
          have h3 : ((ys xs[i]).take j).length ≤ j := by rw [List.length_take]; omega
          have h4 : ((xs.take (i + 1)).flatMap ys).length ≤ (xs.flatMap ys).length := by
            conv => rhs; rw [← List.take_append_drop (i + 1) xs]
            rw [List.flatMap_append, List.length_append]; omega
          have h5 : ((xs.take (i + 1)).flatMap ys).length = ((xs.take i).flatMap ys).length + (ys xs[i]).length := by
            rw [List.take_add_one, List.getElem?_eq_getElem hlt, List.flatMap_append, List.length_append]; simp
          refine Nat.lt_of_lt_of_le ?_ (sz1000 (Nat.le_refl _))
          omega
        · have mm := m10.putL (c' := .lst ((((xs.take i).flatMap fun x => ((ys x).filter (pr x)).map (g x)) ++ (((ys xs[i]).take j).filter (pr xs[i])).map (g xs[i])) ++ [g xs[i] (ys xs[i])[j]])) (o := .lst (vs ++ [zv])) hjj ⟨g0, vs ++ [zv], upd_same, rs0.app (.cons r10 .nil)⟩
          rw [hnext, List.filter_append, List.map_append, ← List.append_assoc]
          simpa [hp] using mm
      | false =>
        rw [if_neg Bool.false_ne_true]
        refine ⟨G9, ((s6.trans w7.g).trans s8).trans s9, ?_⟩
        rw [hnext, List.filter_append, List.map_append]
        simpa [hp] using m9
    · have e : j = (ys xs[i]).length := by omega
      subst e
      refine .inl ⟨?_, G6, sA.trans s6, ?_⟩
      · have := y1.stop G6 H6 s6 m6.same
        rwa [List.length_map] at this
      · rw [htake]
        rw [List.take_length] at m6
        exact m6
  · have e : i = xs.length := by omega
    subst e
    rw [List.take_length] at m'
    refine .inl ⟨?_, q _ _ G' H' _ (s1.trans s') m' (.ref D0) ⟨D0, _, _, rfl, rfl, k⟩⟩
    have := y.stop G' H' s' m'.same
    rwa [List.length_map] at this
end
section
variable {X : Cx} {ρ : Rho} {μ : Mu} {Φ : D → Mu → Prop} {e : Expr} {p p1 p2 pt pos : Pos} {n : Nat}
/-- isinstance(e, (list, tuple)) -/
theorem we_isiLT (T : Bn X.mg) (h : WE X e ρ μ fun d μ1 => ∃ A, tyD d = some A ∧ Φ (.bl (isB A .list || isB A .tuple)) μ1)
    (hg : Gl X "isinstance" := by rfl) (hg1 : Gl X "list" := by rfl) (hg2 : Gl X "tuple" := by rfl)
    (he : starEach [e, .Tuple [.Name "list" p1, .Name "tuple" p2] n pt] X.env = (false, eval e X.env) :: starEach [.Tuple [.Name "list" p1, .Name "tuple" p2] n pt] X.env := by rfl) (he2 : starEach [.Tuple [.Name "list" p1, .Name "tuple" p2] n pt] X.env = (false, eval (.Tuple [.Name "list" p1, .Name "tuple" p2] n pt) X.env) :: starEach [] X.env := by rfl)
    (he3 : starEach [.Name "list" p1, .Name "tuple" p2] X.env = (false, eval (.Name "list" p1) X.env) :: starEach [.Name "tuple" p2] X.env := by rfl) (he4 : starEach [.Name "tuple" p2] X.env = (false, eval (.Name "tuple" p2) X.env) :: starEach [] X.env := by rfl) (hpl : (backTo pos (starEach [.Tuple [.Name "list" p1, .Name "tuple" p2] n pt] X.env)).any (·.1) = false := by rfl) :
    WE X (.Call (.Name "isinstance" p) [e, .Tuple [.Name "list" p1, .Name "tuple" p2] n pt] [] pos) ρ μ Φ := ⟨fun σ G H Q m r q => by
  refine toW (pe_callB call_isiT hg T.isinstance bv_isinstance (pa_cons pe_W (pa_cons (pe_tup (pa_cons (pe_bltn hg1 T.list bv_list (v := .ty (Bt.name .list)) rfl (by decide) (by decide)) (pa_cons (pe_bltn hg2 T.tuple bv_tuple (v := .ty (Bt.name .tuple)) rfl (by decide) (by decide)) pa_nil he4) he3)) pa_nil he2) he) (by decide) (by decide) he hpl) ?_
  refine h.run σ G H _ m r fun d v G1 H1 μ1 s1 m1 rd ⟨A, hA, k⟩ => ?_
  refine ⟨sz1000 (by show 2 ≤ 1000; omega), fun tp htp => ?_⟩
  have w := grow_new (o := .tup [.ty (Bt.name .list), .ty (Bt.name .tuple)]) m1.same htp
  have m2 := m1.grow w
  refine ⟨v, tp, [.ty (Bt.name .list), .ty (Bt.name .tuple)], .type A.name, [.type (Bt.name .list), .type (Bt.name .tuple)], _, rfl, upd_same, .cons (.ty _) (.cons (.ty _) .nil), ty_rep m2.same (rd.same w.g) hA, ?_, q _ _ _ _ μ1 (s1.trans w.g) m2 (.bl _) k⟩
  refine kitAny_cons (isB_kit A .list (by decide)) (fun h1 => ?_) (fun h1 => by rw [h1]; rfl)
  rw [h1, Bool.false_or]
  exact kitAny_cons (isB_kit A .tuple (by decide)) (fun h2 => by rw [h2]; exact kitAny_nil) (fun h2 => by rw [h2])⟩
end
end DL
namespace DL
open PySem PySem.Spec PyProof.Rows L2
/-- C.m is a static def -/
structure St0 (P : Program) (w : World) (K : PySem.W.Frag) (mg : Str → Option Value) (base : Heap) (k : Nat) (C : Addr) (m : Str) (S : Spec) : Prop where
  ex : ∃ (mc : Value) (p g : Addr) (rest : List Value), PySem.W.typeIn K (.ref C) = some mc ∧ PySem.W.readsIn K C mc = true ∧ PySem.W.specialIn K (.ref C) "__getattribute__" = some (some (.builtin "type.__getattribute__")) ∧
    PySem.W.findCls K (.ref C) mc m = some (.get (.builtin "staticmethod.__get__") (.ref p) .none (.ref C)) ∧ PySem.W.recIn K p "staticmethod" = some (.ref g :: rest) ∧ PySem.W.keepIn K (.ref g) = true ∧ FnR P w K mg base CX0 k g (spD K S)
section
variable {X : Cx} {ρ : Rho} {μ : Mu} {Φ : D → Mu → Prop} {o : Expr} {p pos apos : Pos} {C : Addr} {k : Nat} {S : Spec} {m : Str}
/-- C.m() -/
theorem we_stat0 {pl : Sem Bool} (M : St0 X.prog X.w X.K X.mg X.base k C m S) (hr : Room k X.A) (h : WE X o ρ μ fun x μ1 => x = .ref C ∧ S [] μ1 Φ noX)
    (ht : eval (.Call (.Attribute o m apos) [] [] pos) X.env = (do
      let ov ← eval o X.env
      standAt apos.atName
      let (f, first) ← holding [ov] (getMethod ov m pl)
      callWith pos f first (backTo pos (starEach [] X.env)) (backToKw pos (keywordEach [] X.env))) := by rfl) :
    WE X (.Call (.Attribute o m apos) [] [] pos) ρ μ Φ := ⟨fun σ G H Q mm r q pins s I => by
  obtain ⟨mc, p, g, rest, h1, h2, h3, h4, h5, h6, Fr⟩ := M.ex
  have hh := h.run σ G H (fun x H1 => x = .ref C ∧ spD X.K S [] H1 Q fun _ _ _ => False) mm r (by
    rintro d v G1 H1 μ1 s1 m1 rd ⟨rfl, k1⟩
    cases rd
    exact ⟨rfl, spD_of m1 .nil k1 (q.same s1)⟩)
  refine PySem.W.methodCall_KW (pl := pl) (thn (hh pins s I) fun u s1 ⟨x, H1, I1, rx, ex, q1⟩ => ?_) ht
  subst ex
  obtain rfl : u = Value.ref C := rx
  obtain ⟨mF, hF⟩ := I1.fr
  refine PySem.W.method_cls I1.kIn h3 (PySem.W.cls_sm hF I1.ok.mod.kin h1 h2 h4 h5 rfl ?_)
  have I2 : Inv X pins σ H1 { s1 with toks := s1.toks + 1 } := I1.tok _
  exact PySem.W.callWith_K0 (first := []) I2.kIn h6 (wpAny_call (run_fnR (us := []) (vs := []) Fr hr p0 I2 .nil q1))⟩
end
end DL
namespace DL
open PySem PySem.Spec PyProof.Rows L2
section
variable {X : Cx} {ρ : Rho} {μ : Mu} {F : Fx} {e v : Expr} {p1 p2 pos : Pos} {b1 b2 : List Stmt}
/-- match e: case v: b1; case _: b2 -/
theorem ws_match2 (h : WE X e ρ μ fun d μ1 => WE X v ρ μ1 fun d2 μ2 => RD X.K rEq d d2 μ2 (Bl fun t μ3 => It t (WB X b1 ρ μ3 F) (WB X b2 ρ μ3 F))) :
    WS X (.Match e [⟨.MatchValue v p1, none, b1⟩, ⟨.MatchAs none none p2, none, b2⟩] pos) ρ μ F := ⟨fun σ G H E m r q pins s I => by
  refine wpAny_Match ?_
  have h1 := h.run σ G H (fun x H1 => ∃ G1 μ1 d, Same G G1 ∧ SM X.K G1 H1 μ1 ∧ Rep X.K G1 x d ∧ WE X v ρ μ1 fun d2 μ2 => RD X.K rEq d d2 μ2 (Bl fun t μ3 => It t (WB X b1 ρ μ3 F) (WB X b2 ρ μ3 F))) m r fun d x G1 H1 μ1 s1 m1 rd k => ⟨G1, μ1, d, s1, m1, rd, k⟩
  refine thn (h1 pins s I) fun u s1 ⟨x, H1, I1, rx, G1, μ1, d, sG, m1, rd, k1⟩ => ?_
  refine wpAny_matchCases_cons (wpAny_matchPattern_Value ?_)
  have h2 := k1.run σ G1 H1 (fun y H2 => rEq x y H2 fun z H3 => ∃ t, z = .bl t ∧ ((t = true ∧ tWB X b1 E σ H3) ∨ (t = false ∧ tWB X b2 E σ H3))) m1 (r.same sG) fun d2 y G2 H2 μ2 s2 m2 rd2 k2 => k2.run G2 H2 x y _ m2 (rd.same s2) rd2 fun d3 z G3 H3 μ3 s3 m3 rd3 hb => by
    obtain ⟨t, e3, k3⟩ := hb.get
    subst e3
    cases rd3
    refine ⟨t, rfl, ?_⟩
    have sA : Same G G3 := (sG.trans s2).trans s3
    cases t with
    | true => exact .inl ⟨rfl, k3.tt.run σ G3 H3 E m3 (r.same sA) (q.same sA)⟩
    | false => exact .inr ⟨rfl, k3.ff.run σ G3 H3 E m3 (r.same sA) (q.same sA)⟩
  refine thn (h2 pins s1 I1) fun w s2 ⟨y, H2, I2, ry, q2⟩ => ?_
  refine thn (op_eq pins s2 σ H2 x y u w _ I2 rx ry q2) fun c s3 ⟨z, H3, I3, rz, t, ez, q3⟩ => ?_
  subst ez
  cases rz
  refine wpAny_truthy_bool ?_
  rcases q3 with ⟨rfl, q3⟩ | ⟨rfl, q3⟩
  · rw [if_pos rfl]
    exact wpAny_assignInOrder_none (q3 pins s3 I3)
  · rw [if_neg Bool.false_ne_true]
    refine wpAny_matchCases_cons (wpAny_matchPattern_Capture ?_)
    exact wpAny_assignInOrder_none (q3 pins s3 I3)⟩
end
end DL
namespace DL
open PySem PySem.Spec PyProof.Rows L2
theorem dcTurn2_out (kx vx t0 i0 t1 i1 : Expr) (ifs0 ifs1 : List Expr) (scope : Scope) (pos : Pos) (it : Value) (D : Addr) (env : Env) :
    compTurn (.DictComp kx vx [⟨t0, i0, ifs0, 0⟩, ⟨t1, i1, ifs1, 0⟩] scope pos) 0 it (.ref D) env = (do
      standAt i0.pos
      match ← pyNext it with
      | none => pure (.done .next)
      | some v =>
        letOwnedTupleGo t0 it v
        assign t0 env v
        let mut ok := true
        for c in ifs0 do
          if ok then ok ← isTrue c env (eval c env)
        if ok then
          let x ← eval i1 env
          standAt i1.pos
          let x ← foldedSetIterable i1 env x
          let _ ← runOwn (.compStart (.DictComp kx vx [⟨t0, i0, ifs0, 0⟩, ⟨t1, i1, ifs1, 0⟩] scope pos) 1 (← holding [x] (pyIter x)) (.ref D) env) env
        again (.compLoop (.DictComp kx vx [⟨t0, i0, ifs0, 0⟩, ⟨t1, i1, ifs1, 0⟩] scope pos) 0 it (.ref D) env)) := by rfl
theorem dcTurn2_in (kx vx t0 i0 t1 i1 : Expr) (ifs0 ifs1 : List Expr) (scope : Scope) (pos : Pos) (it : Value) (D : Addr) (env : Env) :
    compTurn (.DictComp kx vx [⟨t0, i0, ifs0, 0⟩, ⟨t1, i1, ifs1, 0⟩] scope pos) 1 it (.ref D) env = (do
      standAt i1.pos
      match ← pyNext it with
      | none => pure (.done .next)
      | some v =>
        letOwnedTupleGo t1 it v
        assign t1 env v
        let mut ok := true
        for c in ifs1 do
          if ok then ok ← isTrue c env (eval c env)
        if ok then
          (do
            let kv ← eval kx env
            let vv ← holding [kv] (eval vx env)
            standAt { kx.pos with endLine := vx.pos.endLine, endCol := vx.pos.endCol }
            holding [kv, vv] (dictSet D kv vv))
        again (.compLoop (.DictComp kx vx [⟨t0, i0, ifs0, 0⟩, ⟨t1, i1, ifs1, 0⟩] scope pos) 1 it (.ref D) env)) := by rfl

section
variable {prog : Program} {w : World} {A : Around} {R : Result → Shared → Prop} {s : Shared} {kx vx t0 i0 t1 i1 : Expr} {ifs0 ifs1 : List Expr} {scope : Scope} {pos : Pos} {it : Value} {D : Addr} {env : Env}
/-- the loop of the first clause -/
theorem dcLoop2_out (hs : ∀ x, foldedSetIterable i1 env x = pure x) (I : Nat → Shared → Prop)
    (turn : ∀ n s, I n s → wpAny (model prog w) A (pyNext it) (fun r s₁ => match r with
      | none => R (.ok .next) s₁
      | some v => wpAny (model prog w) A (letOwnedTupleGo t0 it v) (fun _ s₁' => wpAny (model prog w) A (assign t0 env v) (fun _ s₂ =>
          wpAny (model prog w) A (forIn ifs0 true fun c r => if r = true then do let ok ← isTrue c env (eval c env); pure (ForInStep.yield ok) else pure (ForInStep.yield r)) (fun ok s₃ =>
            if ok = true then wpAny (model prog w) A (eval i1 env) (fun x s₄ => wpAny (model prog w) A (pyIter x) (fun it1 s₅ =>
              codeAny (model prog w) A (.compStart (.DictComp kx vx [⟨t0, i0, ifs0, 0⟩, ⟨t1, i1, ifs1, 0⟩] scope pos) 1 it1 (.ref D) env) (fun r s' => match r with
                | .ok _ => ∃ m, m < n ∧ I m s'
                | .error _ => False) s₅) (notedBy (model prog w) A env fun e s' => R (.error e) s') s₄) (notedBy (model prog w) A env fun e s' => R (.error e) s') s₃
            else ∃ m, m < n ∧ I m s₃) (notedBy (model prog w) A env fun e s' => R (.error e) s') s₂) (notedBy (model prog w) A env fun e s' => R (.error e) s') s₁') (notedBy (model prog w) A env fun e s' => R (.error e) s') s₁) (notedBy (model prog w) A env fun e s' => R (.error e) s') s)
    (n : Nat) (h : I n s) :
    codeAny (model prog w) A (.compLoop (.DictComp kx vx [⟨t0, i0, ifs0, 0⟩, ⟨t1, i1, ifs1, 0⟩] scope pos) 0 it (.ref D) env) R s := by
  refine codeAny_loop rfl I (fun n s hI => ?_) n h
  show wpAny _ A ((compTurn (.DictComp kx vx [⟨t0, i0, ifs0, 0⟩, ⟨t1, i1, ifs1, 0⟩] scope pos) 0 it (.ref D) env).onRaise (fun x => do noteFrame x env; theTreesLotGoes x)) _ _ s
  refine wpAny_noted ?_
  rw [dcTurn2_out]
  refine wpAny_bind (wpAny_standAt (wpAny_bind (wpAny_mono (turn n s hI) (fun r s₁ h₁ => ?_) fun _ _ h' => h')))
  cases r with
  | none => exact wpAny_pure h₁
  | some v =>
    refine wpAny_bind (wpAny_mono h₁ (fun _ s₁' h₁' => ?_) fun _ _ h' => h')
    refine wpAny_bind (wpAny_mono h₁' (fun _ s₂ h₂ => wpAny_bind (wpAny_mono h₂ (fun ok s₃ h₃ => ?_) fun _ _ h' => h')) fun _ _ h' => h')
    cases ok with
    | false => exact wpAny_pure ⟨rfl, h₃⟩
    | true =>
      refine wpAny_bind (wpAny_mono h₃ (fun x s₄ h₄ => ?_) fun _ _ h' => h')
      refine wpAny_bind (wpAny_standAt (wpAny_bind (wpAny_of_eq (hs x) (wpAny_bind (wpAny_holding (wpAny_mono h₄ (fun it1 s₅ h₅ => ?_) fun _ _ h' => h'))))))
      refine wpAny_bind (wpAny_runOwn ?_)
      rw [Around.mark_none]
      refine codeAny_mono h₅ fun r s' hr => ?_
      cases r with
      | ok f =>
        first
          | exact wpAny_pure ⟨rfl, hr⟩
          | exact wpAny_bind (wpAny_pure (wpAny_pure ⟨rfl, hr⟩))
      | error e => exact hr.elim
/-- the loop of the second -/
theorem dcLoop2_in (I : Nat → Shared → Prop)
    (turn : ∀ n s, I n s → wpAny (model prog w) A (pyNext it) (fun r s₁ => match r with
      | none => R (.ok .next) s₁
      | some v => wpAny (model prog w) A (letOwnedTupleGo t1 it v) (fun _ s₁' => wpAny (model prog w) A (assign t1 env v) (fun _ s₂ =>
          wpAny (model prog w) A (forIn ifs1 true fun c r => if r = true then do let ok ← isTrue c env (eval c env); pure (ForInStep.yield ok) else pure (ForInStep.yield r)) (fun ok s₃ =>
            if ok = true then wpAny (model prog w) A (eval kx env) (fun kv s₄ => wpAny (model prog w) A (eval vx env) (fun vv s₅ =>
              wpAny (model prog w) A (dictSet D kv vv) (fun _ s₆ => ∃ m, m < n ∧ I m s₆) (notedBy (model prog w) A env fun e s' => R (.error e) s') s₅) (notedBy (model prog w) A env fun e s' => R (.error e) s') s₄) (notedBy (model prog w) A env fun e s' => R (.error e) s') s₃
            else ∃ m, m < n ∧ I m s₃) (notedBy (model prog w) A env fun e s' => R (.error e) s') s₂) (notedBy (model prog w) A env fun e s' => R (.error e) s') s₁') (notedBy (model prog w) A env fun e s' => R (.error e) s') s₁) (notedBy (model prog w) A env fun e s' => R (.error e) s') s)
    (n : Nat) (h : I n s) :
    codeAny (model prog w) A (.compLoop (.DictComp kx vx [⟨t0, i0, ifs0, 0⟩, ⟨t1, i1, ifs1, 0⟩] scope pos) 1 it (.ref D) env) R s := by
  refine codeAny_loop rfl I (fun n s hI => ?_) n h
  show wpAny _ A ((compTurn (.DictComp kx vx [⟨t0, i0, ifs0, 0⟩, ⟨t1, i1, ifs1, 0⟩] scope pos) 1 it (.ref D) env).onRaise (fun x => do noteFrame x env; theTreesLotGoes x)) _ _ s
  refine wpAny_noted ?_
  rw [dcTurn2_in]
  refine wpAny_bind (wpAny_standAt (wpAny_bind (wpAny_mono (turn n s hI) (fun r s₁ h₁ => ?_) fun _ _ h' => h')))
  cases r with
  | none => exact wpAny_pure h₁
  | some v =>
    refine wpAny_bind (wpAny_mono h₁ (fun _ s₁' h₁' => ?_) fun _ _ h' => h')
    refine wpAny_bind (wpAny_mono h₁' (fun _ s₂ h₂ => wpAny_bind (wpAny_mono h₂ (fun ok s₃ h₃ => ?_) fun _ _ h' => h')) fun _ _ h' => h')
    cases ok with
    | false => exact wpAny_pure ⟨rfl, h₃⟩
    | true =>
      exact wpAny_bind (wpAny_bind (wpAny_mono h₃ (fun kv s₄ h₄ => wpAny_bind (wpAny_holding (wpAny_mono h₄ (fun vv s₅ h₅ => wpAny_bind (wpAny_standAt (wpAny_holding (wpAny_mono h₅ (fun _ s₆ h₆ => wpAny_pure ⟨rfl, h₆⟩) fun _ _ h' => h')))) fun _ _ h' => h'))) fun _ _ h' => h'))
/-- the second clause's start -/
theorem dcStart1_ok (h0 : codeAny (model prog w) A (.compLoop (.DictComp kx vx [⟨t0, i0, ifs0, 0⟩, ⟨t1, i1, ifs1, 0⟩] scope pos) 1 it (.ref D) env) R s)
    (h : wpAny (model prog w) A (pyIter it) (fun it' s' => codeAny (model prog w) A (.compLoop (.DictComp kx vx [⟨t0, i0, ifs0, 0⟩, ⟨t1, i1, ifs1, 0⟩] scope pos) 1 it' (.ref D) env) R s')
      (notedBy (model prog w) A env fun x s' => R (.error x) s') s) :
    codeAny (model prog w) A (.compStart (.DictComp kx vx [⟨t0, i0, ifs0, 0⟩, ⟨t1, i1, ifs1, 0⟩] scope pos) 1 it (.ref D) env) R s := by
  refine codeAny_of_tree ?_
  show wpAny _ _ ((compStart (.DictComp kx vx [⟨t0, i0, ifs0, 0⟩, ⟨t1, i1, ifs1, 0⟩] scope pos) 1 it (.ref D) env).onRaise (fun x => do noteFrame x env; standAt theWindowsPlace)) _ _ s
  refine wpAny_notedAt ?_
  unfold compStart
  show wpAny _ _ (ask >>= _) _ _ s
  refine wpAny_bind (wpAny_askSetting (wpAny_ite ?_))
  split
  · first
      | exact wpAny_bind (wpAny_pure (wpAny_pure (And.intro rfl h0)))
      | exact wpAny_pure (And.intro rfl h0)
  · first
      | exact wpAny_bind (wpAny_rule (wpAny_bind (wpAny_standAt (wpAny_bind (wpAny_mono h (fun it' s' h' => wpAny_pure (And.intro rfl h')) fun _ _ x => x)))))
      | (refine wpAny_bind (wpAny_rule ?_); show wpAny _ _ (standAt i1.pos >>= _) _ _ s; exact wpAny_bind (wpAny_standAt (wpAny_bind (wpAny_mono h (fun it' s' h' => wpAny_pure (And.intro rfl h')) fun _ _ x => x))))
end


section
variable {X : Cx}
/-- d[k] = v by a comprehension, tuples as keys -/
theorem d_dictSetT {pins : List (Addr × Obj)} {σ : L2.St} {H : Hp} {s : Shared} {E : Value → Shared → Prop} {D b : Addr} {kvs : List (List Key × V)} {k : List Key} {v : V} {u r : Value} {Q : Unit → Shared → Prop} (hu : X.A.units + 1 < cLine) (I : Inv X pins σ H s) (hD : H D = some (.dT kvs)) (eb : H b = some (.tup (k.map kV))) (hl0 : kvs.length < sizeLine)
    (ry : RelV (.ref b) u) (rv : RelV v r) (h : ∀ s', Inv X pins σ (upd H D (.dT (putK kvs k v))) s' → Q () s') : wpAny (model X.prog X.w) X.A (dictSet D u r) Q E s := by
  cases (show u = Value.ref b from ry)
  obtain ⟨z, hd, xs, rel, dd⟩ := dt_of I.hok hD
  have hz : xs.length ≤ sizeLine := by rw [← Paired.length rel]; exact z
  have hl : (putK kvs k v).length ≤ sizeLine := by have := length_putK kvs k v; omega
  refine wpAny_dictSet_heap (hsz := hz) (show X.A.units < cLine from Nat.lt_of_succ_lt hu) (key_of I.hok eb) dd fun h' dd' hs => h _ ?_
  obtain ⟨q, es, ep, hq, h2, h3, h4, _, h5⟩ := dd'
  refine d_write I (by rw [hD]; exact True.intro) hs ⟨q, hq⟩ ⟨hl, hd, _, (rel.put k eb rv).keeps fun c ys ec => ?_, q, es, ep, hq, h2, h3, h4, h5⟩
  rw [upd_ne (ne_of ec hD (fun z => nomatch z))]
  exact ec
/-- [elt for tg in iter if .. for tg1 in iter1 if ..]: behind the first clause's store and tests the second source's own loop, from which Nx is reached. vs: the block's names; vs1: those of the second target -/
def tDc2 (wi : TI) (g : TG) (tt : TT) (wi1 : TI) (g1 : TG) (tt1 : TT) (tk tv : TE) (vs vs1 : List Nat) : TE := fun σ H Q => wi σ H fun J H1 => ∀ D, H1 D = none → ∃ W : Nat → Nat → Hp → Prop, (∃ m, W 0 m (upd H1 D (.dT []))) ∧ ∀ i m H, W i m H →
  (J.stop i H ∧ Q (.ref D) H) ∨ (J.go i H ∧ ∃ Nx : Hp → Prop, (∀ H', Nx H' → ∃ m', m' < m ∧ W (i + 1) m' H') ∧ ∀ x H', J.yld i H x H' → g x (wipe σ vs) H' fun σ2 H2 => wipe σ2 vs = wipe σ vs ∧ tt σ2 H2 fun b H3 =>
    if b = true then wi1 σ2 H3 fun J1 H4 => ∃ W1 : Nat → Nat → Hp → Prop, (∃ m, W1 0 m H4) ∧ ∀ j k H, W1 j k H →
      (J1.stop j H ∧ Nx H) ∨ (J1.go j H ∧ ∃ Nx1 : Hp → Prop, (∀ H', Nx1 H' → ∃ k', k' < k ∧ W1 (j + 1) k' H') ∧ ∀ x H', J1.yld j H x H' → g1 x (wipe σ2 vs1) H' fun σ3 H5 => wipe σ3 vs1 = wipe σ2 vs1 ∧ tt1 σ3 H5 fun b H6 =>
        if b = true then tk σ3 H6 fun y H7 => tv σ3 H7 fun z H8 => ∃ kvs k b, y = .ref b ∧ H8 b = some (.tup (k.map kV)) ∧ H8 D = some (.dT kvs) ∧ kvs.length < sizeLine ∧ Nx1 (upd H8 D (.dT (putK kvs k z))) else Nx1 H6)
    else Nx H3)
theorem dc2_core {pins : List (Addr × Obj)} {s : Shared} {σ : L2.St} {H : Hp} {Q : VK} {kx vx tg iter tg1 iter1 : Expr} {ifs ifs1 : List Expr} {scope : Scope} {own : List (Str × Nat)} {vs1 : List Nat} {pos pos' : Pos} {wi wi1 : TI} {g g1 : TG} {tt tt1 : TT} {tk tv : TE} {use : Option (Value → Sem Unit)} {Qf : Value → Shared → Prop}
    (hu : X.A.units + 1 < cLine) (hc : X.calm = true) (hN : X.N.Nodup) (I : Inv X pins σ H s) (hi : PI X tg iter wi) (ok : BlkOk X.N X.env.scope scope own) (hv : ∀ i ∈ vs1, i ∈ own.map (·.2))
    (hg : ∀ (s : Shared) (H : Hp) (C : Addr) (cl : List (Str × Addr)) (fp : List Addr), PG (X.blk s H scope (compEnvC scope cl C X.env) fp) tg g) (ht : ∀ (s : Shared) (H : Hp) (C : Addr) (cl : List (Str × Addr)) (fp : List Addr), PTs (X.blk s H scope (compEnvC scope cl C X.env) fp) ifs tt)
    (hk : ∀ (s : Shared) (H : Hp) (C : Addr) (cl : List (Str × Addr)) (fp : List Addr), PE (X.blk s H scope (compEnvC scope cl C X.env) fp) kx tk) (he : ∀ (s : Shared) (H : Hp) (C : Addr) (cl : List (Str × Addr)) (fp : List Addr), PE (X.blk s H scope (compEnvC scope cl C X.env) fp) vx tv) (hs : ∀ x, foldedSetIterable iter X.env x = pure x)
    (hi1 : ∀ (s : Shared) (H : Hp) (C : Addr) (cl : List (Str × Addr)) (fp : List Addr), PI (X.blk s H scope (compEnvC scope cl C X.env) fp) tg1 iter1 wi1)
    (hg1 : ∀ (s : Shared) (H : Hp) (C : Addr) (cl : List (Str × Addr)) (fp : List Addr), PG (X.blk s H scope (compEnvC scope cl C X.env) fp) tg1 g1)
    (ht1 : ∀ (s : Shared) (H : Hp) (C : Addr) (cl : List (Str × Addr)) (fp : List Addr), PTs (X.blk s H scope (compEnvC scope cl C X.env) fp) ifs1 tt1)
    (hs1 : ∀ env x, foldedSetIterable iter1 env x = pure x)
    (h : tDc2 wi g tt wi1 g1 tt1 tk tv (own.map (·.2)) vs1 σ H Q)
    (hRR : ∀ D C s' m H', Inv X pins σ H' s' → Q (.ref D) H' → s'.heap.Ns C m → FpOk X pins H' C → compPost (model X.prog X.w) X.A X.xe use Qf (.ref D) C (.ok .next) s') :
    wpAny (model X.prog X.w) X.A (comprehension (.DictComp kx vx [⟨tg, iter, ifs, 0⟩, ⟨tg1, iter1, ifs1, 0⟩] scope pos) scope X.env pos' newDict false (eval iter X.env) use) Qf X.xe s := by
  have hfree : ∀ y ∈ scope.names, y.2 = .free → ∃ c, X.env.cells.lookup y.1 = some c := fun y hy e => by
    rcases ok.free y hy e with k | k
    · exact I.ok.has _ (.inl k)
    · exact I.ok.has _ (.inr k)
  refine wpAny_comprehension_free (use := use) rfl hs (closure_ok hfree) ok.kind (fun y hy e => by rw [ok.uniq y hy, e])
    (thn (hi.run pins s σ H _ I h) fun xv s1 hx => thn hx fun itv s2 h2 => ?_)
  obtain ⟨it, fp, tn, J, H2, e, I2, T, st2, f2, q⟩ := h2
  subst e
  refine wpAny_newObj_type (newEnv_comp ?_)
  generalize hD : s2.heap.objs.size = D
  have hDn : H2 D = none := I2.hok.fresh (Nat.le_of_eq hD)
  obtain ⟨W, ⟨m0, w0⟩, turn⟩ := q D hDn
  -- the new list
  generalize hs3 : ({ s2 with heap := s2.heap.push { cls := .type "dict", data := .dict #[] } } : Shared) = s3
  have I3 : Inv X pins σ (upd H2 D (.dT [])) s3 := by
    rw [← hs3]
    refine I2.laid (t' := s2.toks) (fun b o e => Heap.get?_push_of_some _ e) (Nat.le_of_eq hD) ?_
    rw [← hD]
    exact dt_empty s2.heap I2.big
  have h3 : s3.heap = s2.heap.push { cls := .type "dict", data := .dict #[] } := by rw [← hs3]
  have sz : ∀ b ∈ fp, b < s2.heap.objs.size := fun b hb => by
    obtain ⟨o, e, _⟩ := T.obj _ _ st2 b hb
    exact Heap.lt_size e
  have f3 : ∀ b ∈ fp, FpOk X pins (upd H2 D (.dT [])) b ∧ b < s3.heap.objs.size := fun b hb => by
    have hlt := sz b hb
    refine ⟨⟨?_, (f2 b hb).2⟩, by rw [h3, Heap.size_push]; exact Nat.lt_succ_of_lt hlt⟩
    rw [upd_ne (by rw [← hD]; exact Nat.ne_of_lt hlt)]
    exact (f2 b hb).1
  have st3 : tn 0 s3.heap := T.keep _ _ _ st2 fun b _ o e => by rw [h3]; exact Heap.get?_push_of_some _ e
  have I4 := block_start I3 ok hN f3
  have pg := hg s3 (upd H2 D (.dT [])) s3.heap.objs.size (cellsFrom (s3.heap.objs.size + 1) scope.names (cloFrom X.env.cells scope.names [])) fp
  have pt := ht s3 (upd H2 D (.dT [])) s3.heap.objs.size (cellsFrom (s3.heap.objs.size + 1) scope.names (cloFrom X.env.cells scope.names [])) fp
  have pk := hk s3 (upd H2 D (.dT [])) s3.heap.objs.size (cellsFrom (s3.heap.objs.size + 1) scope.names (cloFrom X.env.cells scope.names [])) fp
  have pe := he s3 (upd H2 D (.dT [])) s3.heap.objs.size (cellsFrom (s3.heap.objs.size + 1) scope.names (cloFrom X.env.cells scope.names [])) fp
  have pi1 := hi1 s3 (upd H2 D (.dT [])) s3.heap.objs.size (cellsFrom (s3.heap.objs.size + 1) scope.names (cloFrom X.env.cells scope.names [])) fp
  have pg1 := hg1 s3 (upd H2 D (.dT [])) s3.heap.objs.size (cellsFrom (s3.heap.objs.size + 1) scope.names (cloFrom X.env.cells scope.names [])) fp
  have pt1 := ht1 s3 (upd H2 D (.dT [])) s3.heap.objs.size (cellsFrom (s3.heap.objs.size + 1) scope.names (cloFrom X.env.cells scope.names [])) fp
  show codeAny _ _ (.compStart (.DictComp kx vx [⟨tg, iter, ifs, 0⟩, ⟨tg1, iter1, ifs1, 0⟩] scope pos) 0 (.ref it) (.ref D) (compEnvC scope (cellsFrom (s3.heap.objs.size + 1) scope.names (cloFrom X.env.cells scope.names [])) s3.heap.objs.size X.env)) (compPost (model X.prog X.w) X.A X.xe use Qf (.ref D) s3.heap.objs.size) { s3 with heap := pushCells (s3.heap.push { cls := .type "dict", data := .dict #[] }) scope.names }
  have nfp : ∀ b ∈ fp, (upd H2 D (.dT [])) b = none := fun b hb => (f3 b hb).1.1
  generalize hce : compEnvC scope (cellsFrom (s3.heap.objs.size + 1) scope.names (cloFrom X.env.cells scope.names [])) s3.heap.objs.size X.env = ce at I4 pg pt pk pe pi1 pg1 pt1 ⊢
  have cL : ce.locals = s3.heap.objs.size := by subst hce; rfl
  generalize hH3 : upd H2 D (.dT []) = H3 at I3 I4 pg pt pk pe pi1 pg1 pt1 w0 nfp f3
  generalize hs4 : ({ s3 with heap := pushCells (s3.heap.push { cls := .type "dict", data := .dict #[] }) scope.names } : Shared) = s4 at I4 ⊢
  have st4 : tn 0 s4.heap := T.keep _ _ _ st3 fun b _ o e => by rw [← hs4]; exact pushCells_keeps _ _ _ _ (Heap.get?_push_of_some _ e)
  have stat : ∀ {σ' : L2.St} {H' : Hp} {s' : Shared}, Inv (X.blk s3 H3 scope ce fp) [] σ' H' s' → (∀ b ∈ fp, H' b = none) → ∀ b ∈ fp, FpOk (X.blk s3 H3 scope ce fp) [] H' b := fun {σ' H' s'} I' hn b hb =>
    ⟨hn b hb, (I'.ok.exf b hb).1, I'.ok.exfs b hb, .inl hb, fun x c e => (I'.ok.exf b hb).2 x c e, fun p hp => absurd (show p ∈ ([] : List (Addr × Obj)) ++ [] from hp) (by simp)⟩
  have loop : codeAny (model X.prog X.w) X.A (.compLoop (.DictComp kx vx [⟨tg, iter, ifs, 0⟩, ⟨tg1, iter1, ifs1, 0⟩] scope pos) 0 (.ref it) (.ref D) ce) (compPost (model X.prog X.w) X.A X.xe use Qf (.ref D) s3.heap.objs.size) s4 := by
    refine dcLoop2_out (hs1 ce) (fun n s' => ∃ i H', Inv (X.blk s3 H3 scope ce fp) [] (wipe σ (own.map (·.2))) H' s' ∧ tn i s'.heap ∧ (∀ b ∈ fp, H' b = none) ∧ W i n H') ?_ m0 ⟨0, H3, I4, st4, nfp, w0⟩
    rintro n s5 ⟨i, H5, I5, st5, n5, w5⟩
    rcases turn i n H5 w5 with ⟨stop, qq⟩ | ⟨go, Nx, hNx, step⟩
    · have td := T.done (X.blk s3 H3 scope ce fp) rfl rfl rfl hc i [] s5 _ H5 (fun _ _ => False) I5 (stat I5 n5) st5 stop
      refine thnF td fun r s6 ⟨hr, I6⟩ => ?_
      subst hr
      -- back in the def's context
      have I7 : Inv X pins σ H5 s6 := I3.call' (ch := fp) I6.os I6.base I6.hok I6.bare fun b hb => ⟨(f3 b hb).1.2.2.2.1, (f3 b hb).1.2.1, (f3 b hb).1.2.2.2.2.1, (f3 b hb).1.2.2.2.2.2⟩
      have nC : H5 s3.heap.objs.size = none := by
        have z : H5 ce.locals = none := I6.free
        rw [cL] at z
        exact z
      obtain ⟨m, hn, _⟩ := I6.loc
      have hn : s6.heap.Ns ce.locals m := hn
      rw [cL] at hn
      exact hRR D s3.heap.objs.size s6 m H5 I7 qq hn (I3.fpOk (Nat.le_refl _) nC)
    · have ti := T.item (X.blk s3 H3 scope ce fp) rfl rfl rfl hc i [] s5 _ H5 (fun _ _ => False) I5 (stat I5 n5) st5 go
      refine thnF ti fun r s6 ⟨u, hr, h6⟩ => ?_
      subst hr
      refine thnF h6 fun _ s7 ⟨x, H7, I7, r7, y7, st7, n7⟩ => ?_
      have I7' := I7.pinned (stat I7 n7) (T.obj _ _ st7)
      refine thnF (pg.run _ s7 _ H7 x u _ I7' r7 (step x H7 y7)) fun _ s8 ⟨σ8, H8, I8, hw8, q8⟩ => ?_
      refine thnF (pt.run _ s8 σ8 H8 _ I8 q8) fun b s9 ⟨H9, I9, q9⟩ => ?_
      -- the turn's end, from any slots that know what the block knew at its start
      have fin : ∀ {σ9 : L2.St} {s' : Shared} {H' : Hp}, Inv (X.blk s3 H3 scope ce fp) ([] ++ pinsAt fp s7.heap) σ9 H' s' → (wipe σ (own.map (·.2))).length = σ9.length → (∀ (j : Nat) v, (wipe σ (own.map (·.2)))[j]? = some (some v) → σ9[j]? = some (some v)) → Nx H' →
          ∃ m, m < n ∧ ∃ i H', Inv (X.blk s3 H3 scope ce fp) [] (wipe σ (own.map (·.2))) H' s' ∧ tn i s'.heap ∧ (∀ b ∈ fp, H' b = none) ∧ W i m H' := fun {σ9 s' H'} I' hl hk nx => by
        obtain ⟨m', hm, w'⟩ := hNx H' nx
        have pin' : ∀ b ∈ fp, ∀ o, s7.heap.get? b = some o → s'.heap.get? b = some o ∧ H' b = none := fun b hb o e =>
          let z := I'.pin (b, o) (List.mem_append_right _ (List.mem_append_right _ (mem_pinsAt hb e)))
          ⟨z.1, z.2.1⟩
        refine ⟨m', hm, i + 1, H', (I'.unpinned (pins := [])).weak hl hk, T.keep _ _ _ st7 fun b hb o e => (pin' b hb o e).1, fun b hb => ?_, w'⟩
        obtain ⟨o, e, _⟩ := T.obj _ _ st7 b hb
        exact (pin' b hb o e).2
      have hl8 : (wipe σ (own.map (·.2))).length = σ8.length := by rw [← hw8, wipe_length]
      have hk8 : ∀ (j : Nat) v, (wipe σ (own.map (·.2)))[j]? = some (some v) → σ8[j]? = some (some v) := fun j v e => by
        rw [← hw8] at e
        exact (wipe_some e).1
      have hk9 : ∀ (j : Nat) v, (wipe σ (own.map (·.2)))[j]? = some (some v) → (wipe σ8 vs1)[j]? = some (some v) := fun j v e => by
        rw [← hw8] at e
        obtain ⟨e1, e2⟩ := wipe_some e
        rw [wipe_out fun z => e2 (hv j z)]
        exact e1
      cases b with
      | false =>
        simp only [Bool.false_eq_true, if_false] at q9 ⊢
        exact fin I9 hl8 hk8 q9
      | true =>
        simp only [if_true] at q9 ⊢
        refine thnF (pi1.run _ s9 σ8 H9 _ I9 q9) fun xv s10 hx => thnF hx fun itv s11 h11 => ?_
        obtain ⟨it1, fp1, tn1, J1, H11, e1, I11, T1, st11, f11, W1, ⟨m1, w1⟩, turn1⟩ := h11
        subst e1
        -- the inner loop
        have stat1 : ∀ {H' : Hp}, (∀ b ∈ fp1, H' b = none) → ∀ b ∈ fp1, FpOk (X.blk s3 H3 scope ce fp) ([] ++ pinsAt fp s7.heap) H' b := fun hn b hb => ⟨hn b hb, (f11 b hb).2⟩
        have loop1 : codeAny (model X.prog X.w) X.A (.compLoop (.DictComp kx vx [⟨tg, iter, ifs, 0⟩, ⟨tg1, iter1, ifs1, 0⟩] scope pos) 1 (.ref it1) (.ref D) ce)
            (fun r s' => match r with
              | .ok _ => ∃ m, m < n ∧ ∃ i H', Inv (X.blk s3 H3 scope ce fp) [] (wipe σ (own.map (·.2))) H' s' ∧ tn i s'.heap ∧ (∀ b ∈ fp, H' b = none) ∧ W i m H'
              | .error _ => False) s11 := by
          refine dcLoop2_in (fun k s' => ∃ j H', Inv (X.blk s3 H3 scope ce fp) ([] ++ pinsAt fp s7.heap) (wipe σ8 vs1) H' s' ∧ tn1 j s'.heap ∧ (∀ b ∈ fp1, H' b = none) ∧ W1 j k H') ?_ m1 ⟨0, H11, I11.weak (wipe_length _ _) (fun j v e => (wipe_some e).1), st11, fun b hb => (f11 b hb).1, w1⟩
          rintro k s12 ⟨j, H12, I12, st12, n12, w12⟩
          rcases turn1 j k H12 w12 with ⟨stop1, nx1⟩ | ⟨go1, Nx1, hNx1, step1⟩
          · refine thnF (T1.done (X.blk s3 H3 scope ce fp) rfl rfl rfl hc j _ s12 (wipe σ8 vs1) H12 (fun _ _ => False) I12 (stat1 n12) st12 stop1) fun r s13 ⟨hr, I13⟩ => ?_
            subst hr
            exact fin I13 (hl8.trans (wipe_length σ8 vs1).symm) hk9 nx1
          · refine thnF (T1.item (X.blk s3 H3 scope ce fp) rfl rfl rfl hc j _ s12 (wipe σ8 vs1) H12 (fun _ _ => False) I12 (stat1 n12) st12 go1) fun r s13 ⟨u1, hr, h13⟩ => ?_
            subst hr
            refine thnF h13 fun _ s14 ⟨x1, H14, I14, r14, y14, st14, n14⟩ => ?_
            have I14' := I14.pinned (stat1 n14) (T1.obj _ _ st14)
            refine thnF (pg1.run _ s14 (wipe σ8 vs1) H14 x1 u1 _ I14' r14 (step1 x1 H14 y14)) fun _ s15 ⟨σ15, H15, I15, hw15, q15⟩ => ?_
            refine thnF (pt1.run _ s15 σ15 H15 _ I15 q15) fun b1 s16 ⟨H16, I16, q16⟩ => ?_
            have fin1 : ∀ {s' : Shared} {H' : Hp}, Inv (X.blk s3 H3 scope ce fp) (([] ++ pinsAt fp s7.heap) ++ pinsAt fp1 s14.heap) σ15 H' s' → Nx1 H' → ∃ m, m < k ∧ ∃ j H', Inv (X.blk s3 H3 scope ce fp) ([] ++ pinsAt fp s7.heap) (wipe σ8 vs1) H' s' ∧ tn1 j s'.heap ∧ (∀ b ∈ fp1, H' b = none) ∧ W1 j m H' := fun {s' H'} I' nx => by
              obtain ⟨m', hm, w'⟩ := hNx1 H' nx
              have pin' : ∀ b ∈ fp1, ∀ o, s14.heap.get? b = some o → s'.heap.get? b = some o ∧ H' b = none := fun b hb o e =>
                let z := I'.pin (b, o) (List.mem_append_right _ (List.mem_append_right _ (mem_pinsAt hb e)))
                ⟨z.1, z.2.1⟩
              refine ⟨m', hm, j + 1, H', I'.unpinned.weak (by rw [← hw15, wipe_length]) (fun j v e => by rw [← hw15] at e; exact (wipe_some e).1), T1.keep _ _ _ st14 fun b hb o e => (pin' b hb o e).1, fun b hb => ?_, w'⟩
              obtain ⟨o, e, _⟩ := T1.obj _ _ st14 b hb
              exact (pin' b hb o e).2
            cases b1 with
            | false =>
              simp only [Bool.false_eq_true, if_false] at q16 ⊢
              exact fin1 I16 q16
            | true =>
              simp only [if_true] at q16 ⊢
              refine thnF (pk.run _ s16 σ15 H16 _ I16 q16) fun z s17 ⟨yk, H17, I17, r17, q17⟩ => ?_
              refine thnF (pe.run _ s17 σ15 H17 _ I17 q17) fun z2 s18 ⟨yv, H18, I18, r18, kvs, k2, b2, ek, hb2, hD18, hz18, nx⟩ => ?_
              subst ek
              exact d_dictSetT (X := X.blk s3 H3 scope ce fp) hu I18 hD18 hb2 hz18 r17 r18 fun s19 I19 => fin1 I19 nx
        exact dcStart1_ok loop1 (T1.self X.A 0 _ _ _ st11 loop1)
  exact codeAny_compStart_dict loop (T.self X.A 0 _ _ _ st4 loop)
/-- as a value -/
theorem pe_dc2 {kx vx tg iter tg1 iter1 : Expr} {ifs ifs1 : List Expr} {scope : Scope} {own : List (Str × Nat)} {vs1 : List Nat} {pos : Pos} {wi wi1 : TI} {g g1 : TG} {tt tt1 : TT} {tk tv : TE} (hu : X.A.units + 1 < cLine) (hc : X.calm = true) (hN : X.N.Nodup) (hi : PI X tg iter wi) (ok : BlkOk X.N X.env.scope scope own) (hv : ∀ i ∈ vs1, i ∈ own.map (·.2))
    (hg : ∀ (s : Shared) (H : Hp) (C : Addr) (cl : List (Str × Addr)) (fp : List Addr), PG (X.blk s H scope (compEnvC scope cl C X.env) fp) tg g) (ht : ∀ (s : Shared) (H : Hp) (C : Addr) (cl : List (Str × Addr)) (fp : List Addr), PTs (X.blk s H scope (compEnvC scope cl C X.env) fp) ifs tt)
    (hi1 : ∀ (s : Shared) (H : Hp) (C : Addr) (cl : List (Str × Addr)) (fp : List Addr), PI (X.blk s H scope (compEnvC scope cl C X.env) fp) tg1 iter1 wi1)
    (hg1 : ∀ (s : Shared) (H : Hp) (C : Addr) (cl : List (Str × Addr)) (fp : List Addr), PG (X.blk s H scope (compEnvC scope cl C X.env) fp) tg1 g1) (ht1 : ∀ (s : Shared) (H : Hp) (C : Addr) (cl : List (Str × Addr)) (fp : List Addr), PTs (X.blk s H scope (compEnvC scope cl C X.env) fp) ifs1 tt1)
    (hk : ∀ (s : Shared) (H : Hp) (C : Addr) (cl : List (Str × Addr)) (fp : List Addr), PE (X.blk s H scope (compEnvC scope cl C X.env) fp) kx tk) (he : ∀ (s : Shared) (H : Hp) (C : Addr) (cl : List (Str × Addr)) (fp : List Addr), PE (X.blk s H scope (compEnvC scope cl C X.env) fp) vx tv) (hs : ∀ x, foldedSetIterable iter X.env x = pure x := by intro _; rfl) (hs1 : ∀ env x, foldedSetIterable iter1 env x = pure x := by intro _ _; rfl) :
    PE X (.DictComp kx vx [⟨tg, iter, ifs, 0⟩, ⟨tg1, iter1, ifs1, 0⟩] scope pos) (tDc2 wi g tt wi1 g1 tt1 tk tv (own.map (·.2)) vs1) := by
  refine ⟨fun pins s σ H Q I h => ?_⟩
  rw [arm_eval_DictComp]
  refine dc2_core hu hc hN I hi ok hv hg ht hk he hs hi1 hg1 ht1 hs1 h fun D C s' m H' I' q hn f => ⟨m, hn, fun h'' sb => ?_⟩
  obtain ⟨f0, f1, f2, f3, f4, f5⟩ := f
  exact ⟨.ref D, H', I'.turned (t' := s'.toks) (fun b o hb e => (sb.2 b hb).trans e) f0 f1 f3 f4 f5, rfl, q⟩
end
end DL
namespace DL
open PySem PySem.Spec PyProof.Rows L2
theorem SM.frzT {K : PySem.W.Frag} {G H : Hp} {μ : Mu} {i : Nat} {a : Addr} {kvs : List (List Key × V)} {ds : List D} (m : SM K G H μ) (hi : μ[i]? = some (a, .opq (.dT kvs))) (r : Reps K G (kvs.map (·.2)) ds) : ∃ G', Same G G' ∧ SM K G' H (μ.eraseIdx i) ∧ Rep K G' (.ref a) (.dcT (kvs.map (·.1)) ds) := by
  have hmem := List.mem_of_getElem? hi
  obtain ⟨g, h, _, _⟩ := m.cell _ hmem
  have sG : Same G (upd G a (.dT kvs)) := same_new g
  refine ⟨upd G a (.dT kvs), sG, ⟨fun b u e => ?_, m.nod.sublist ((List.eraseIdx_sublist ..).map _), fun q hq => ?_⟩, .dcT upd_same rfl rfl (r.same sG)⟩
  · by_cases hb : b = a
    · subst hb; rw [upd_same] at e; rw [h]; exact e
    · rw [upd_ne hb] at e; exact m.same b u e
  · obtain ⟨j, hji, hj⟩ := List.mem_eraseIdx_iff_getElem?.mp hq
    obtain ⟨b, cb⟩ := q
    have ne : b ≠ a := mu_ne m.nod hj hi hji
    have cc := m.cell _ (List.mem_of_getElem? hj)
    cases cb with
    | lst ds => obtain ⟨g, xs, h, r⟩ := cc; exact ⟨by rw [upd_ne ne]; exact g, xs, h, r.same sG⟩
    | dct ks ds => obtain ⟨g, xs, h, e, r⟩ := cc; exact ⟨by rw [upd_ne ne]; exact g, xs, h, e, r.same sG⟩
    | tab q => obtain ⟨g, ps, h, t, k⟩ := cc; exact ⟨by rw [upd_ne ne]; exact g, ps, h, t, fun pos cv hc => let ⟨c, e1, e2⟩ := k pos cv hc; ⟨c, e1, sG _ _ e2⟩⟩
    | ins C fs =>
      obtain ⟨g, dy, vs, gd, hd, h', hl, r⟩ := cc
      refine ⟨by rw [upd_ne ne]; exact g, dy, vs, ?_, hd, h', hl, fun i d e => let ⟨v, h1, h2⟩ := r i d e; ⟨v, h1, h2.same sG⟩⟩
      rw [upd_ne]
      · exact gd
      · rintro rfl
        rw [h] at hd
        rcases hd with e | e <;> cases e
    | opq o => exact ⟨by rw [upd_ne ne]; exact cc.1, cc.2⟩

def kD : Key → D
  | .inl i => .int i
  | .inr x => .str x
theorem rep_kD {K : PySem.W.Frag} {G : Hp} {v : V} : ∀ {k : Key}, Rep K G v (kD k) → v = kV k
  | .inl i, h => by cases h; rfl
  | .inr x, h => by cases h; rfl
theorem reps_kD {K : PySem.W.Frag} {G : Hp} : ∀ {ks : List Key} {vs : List V}, Reps K G vs (ks.map kD) → vs = ks.map kV
  | [], _, h => by cases h; rfl
  | k :: ks, _, h => by
    cases h with
    | cons r t => rw [rep_kD r, reps_kD t]; rfl
/-- the pairs of a dict -/
def DRel (K : PySem.W.Frag) (G : Hp) (kvs : List (List Key × V)) (L : List (List Key × D)) : Prop := kvs.map (·.1) = L.map (·.1) ∧ Reps K G (kvs.map (·.2)) (L.map (·.2))
theorem DRel.same {K : PySem.W.Frag} {G G' : Hp} {kvs : List (List Key × V)} {L : List (List Key × D)} (h : DRel K G kvs L) (s : Same G G') : DRel K G' kvs L := ⟨h.1, h.2.same s⟩
theorem DRel.app {K : PySem.W.Frag} {G : Hp} {kvs : List (List Key × V)} {L : List (List Key × D)} {k : List Key} {v : V} {d : D} (h : DRel K G kvs L) (r : Rep K G v d) : DRel K G (kvs ++ [(k, v)]) (L ++ [(k, d)]) := by
  refine ⟨by rw [List.map_append, List.map_append, h.1]; rfl, ?_⟩
  rw [List.map_append, List.map_append]
  exact h.2.app (.cons r .nil)
theorem putK_new {kvs : List (List Key × V)} {k : List Key} {v : V} (h : k ∉ kvs.map (·.1)) : putK kvs k v = kvs ++ [(k, v)] := by
  unfold putK
  rw [if_neg]
  intro e
  obtain ⟨p, hp, e2⟩ := List.any_eq_true.mp e
  exact h (List.mem_map.mpr ⟨p, hp, of_decide_eq_true e2⟩)
section
variable {X : Cx} {ρ : Rho} {μ : Mu} {Φ : D → Mu → Prop} {tg iter tg1 iter1 vx : Expr} {kes : List Expr} {n : Nat} {pk : Pos} {ifs1 : List Expr} {scope : Scope} {pos : Pos}
/-- {(..): v for .. in .. for .. in ..}: nothing is written -/
theorem we_dc2 {β γ : Type} {N : List Str} (own : List (Str × Nat)) (vs1 : List Nat) (f : β → D) (f1 : γ → D) (ys : β → List γ) (key : β → γ → List Key) (val : β → γ → D) (xs : List β) (nx : Nx X N) (hN : N.Nodup) (hu : X.A.units + 1 < cLine) (hc : X.calm = true) (ok : BlkOk N X.env.scope scope own)
    (hv : ∀ i ∈ vs1, i ∈ own.map (·.2))
    (h : WI X tg iter ρ μ fun ds μ1 => ds = xs.map f ∧ μ1 = μ) (hl : (xs.flatMap ys).length ≤ 1000) (hnd : (xs.flatMap fun x => (ys x).map (key x)).Nodup)
    (hstep : ∀ x, x ∈ xs → ∀ (Y : Cx), BK X scope Y → ∀ ν, WG Y tg (own.map (·.2)) (f x) (wipeR ρ (own.map (·.2))) ν fun ρ2 μ2 => μ2 = ν ∧ (∀ Y, BK X scope Y → WI Y tg1 iter1 ρ2 ν fun ds μ3 => μ3 = ν ∧ ds = (ys x).map f1) ∧
      ∀ y, y ∈ ys x → ∀ Y, BK X scope Y → ∀ ν, WG Y tg1 vs1 (f1 y) (wipeR ρ2 vs1) ν fun ρ3 μ4 => ∀ Y, BK X scope Y → WTs Y ifs1 ρ3 μ4 fun b μ5 => μ5 = ν ∧ b = true ∧ (∀ Y, BK X scope Y → WA Y kes ρ3 μ5 fun zs μ6 => μ6 = ν ∧ zs = (key x y).map kD ∧ (key x y).length ≤ 1000 ∧ ∀ Y, BK X scope Y → WE Y vx ρ3 μ6 fun z μ7 => μ7 = ν ∧ z = val x y))
    (k : Φ (.dcT (xs.flatMap fun x => (ys x).map (key x)) (xs.flatMap fun x => (ys x).map (val x))) μ)
    (hs : ∀ x, foldedSetIterable iter X.env x = pure x := by intro _; rfl) (hs1 : ∀ env x, foldedSetIterable iter1 env x = pure x := by intro _ _; rfl) :
    WE X (.DictComp (.Tuple kes n pk) vx [⟨tg, iter, [], 0⟩, ⟨tg1, iter1, ifs1, 0⟩] scope pos) ρ μ Φ := by
  have hN' : X.N.Nodup := by rw [nx.eq]; exact hN
  have ok' : BlkOk X.N X.env.scope scope own := by rw [nx.eq]; exact ok
  refine ⟨fun σ G H Q m r q => ?_⟩
  refine toW (pe_dc2 (vs1 := vs1) (g := fun v σ H Q => ∀ Y, BK X scope Y → tWG Y tg v σ H Q) (tt := fun σ H Q => ∀ Y, BK X scope Y → tWTs Y [] σ H Q) (wi1 := fun σ H R => ∀ Y, BK X scope Y → tWI Y tg1 iter1 σ H R) (g1 := fun v σ H Q => ∀ Y, BK X scope Y → tWG Y tg1 v σ H Q) (tt1 := fun σ H Q => ∀ Y, BK X scope Y → tWTs Y ifs1 σ H Q) (tk := tTup fun σ H Q => ∀ Y, BK X scope Y → tWA Y kes σ H Q) (tv := fun σ H Q => ∀ Y, BK X scope Y → tW Y vx σ H Q) hu hc hN' pi_W ok' hv
    (fun s H C cl fp => ⟨fun pins s' σ H' v u Q I r h => h _ ⟨s, H, C, cl, fp, rfl⟩ pins s' u I r⟩) (fun s H C cl fp => ⟨fun pins s' σ H' Q I h => h _ ⟨s, H, C, cl, fp, rfl⟩ pins s' I⟩) (fun s H C cl fp => ⟨fun pins s' σ H' R I h => h _ ⟨s, H, C, cl, fp, rfl⟩ pins s' I⟩)
    (fun s H C cl fp => ⟨fun pins s' σ H' v u Q I r h => h _ ⟨s, H, C, cl, fp, rfl⟩ pins s' u I r⟩) (fun s H C cl fp => ⟨fun pins s' σ H' Q I h => h _ ⟨s, H, C, cl, fp, rfl⟩ pins s' I⟩)
    (fun s H C cl fp => pe_tup ⟨fun pos pins s' σ H' Q I h => h _ ⟨s, H, C, cl, fp, rfl⟩ pos pins s' I⟩) (fun s H C cl fp => ⟨fun pins s' σ H' Q I h => h _ ⟨s, H, C, cl, fp, rfl⟩ pins s' I⟩) hs hs1) ?_
  refine h.run σ G H _ m r fun ds J G1 H1 μ1 s1 m1 y ⟨ed, eμ⟩ D0 hD0 => ?_
  subst ed eμ
  have w0 := grow_mut (o := .dT []) m1.same hD0
  have m10 := m1.cons (c := .opq (.dT [])) hD0 w0 ⟨m1.same.free hD0, upd_same, (fun _ e => nomatch e), (fun e => nomatch e)⟩
  let pr : β → List (List Key × D) := fun x => (ys x).map fun y => (key x y, val x y)
  have hlen : ∀ zs : List β, (zs.flatMap pr).length = (zs.flatMap ys).length := fun zs => by
    induction zs with
    | nil => rfl
    | cons z zs ih => rw [List.flatMap_cons, List.flatMap_cons, List.length_append, List.length_append, ih]; simp [pr]
  have hks : ∀ zs : List β, (zs.flatMap pr).map (·.1) = zs.flatMap fun x => (ys x).map (key x) := fun zs => by
    induction zs with
    | nil => rfl
    | cons z zs ih => rw [List.flatMap_cons, List.flatMap_cons, List.map_append, ih]; simp [pr, Function.comp_def]
  have hvs : ∀ zs : List β, (zs.flatMap pr).map (·.2) = zs.flatMap fun x => (ys x).map (val x) := fun zs => by
    induction zs with
    | nil => rfl
    | cons z zs ih => rw [List.flatMap_cons, List.flatMap_cons, List.map_append, ih]; simp [pr, Function.comp_def]
  refine ⟨fun i k H' => k = xs.length - i ∧ i ≤ xs.length ∧ ∃ G' kvs, Same G1 G' ∧ SM X.K G' H' ((D0, .opq (.dT kvs)) :: μ1) ∧ DRel X.K G' kvs ((xs.take i).flatMap pr), ⟨xs.length, by simp, Nat.zero_le _, G1, [], Same.refl _, m10, rfl, .nil⟩, ?_⟩
  rintro i k2 H' ⟨rfl, hi, G', kvs, s', m', dr⟩
  by_cases hlt : i < xs.length
  · have hget : (xs.map f)[i]? = some (f xs[i]) := by rw [List.getElem?_map, List.getElem?_eq_getElem hlt]; rfl
    obtain ⟨hgo, hy⟩ := y.it i (f xs[i]) G' H' hget s' m'.same
    refine .inr ⟨hgo, fun H'' => ∃ G'' kvs, Same G1 G'' ∧ SM X.K G'' H'' ((D0, .opq (.dT kvs)) :: μ1) ∧ DRel X.K G'' kvs ((xs.take (i + 1)).flatMap pr), fun H'' h'' => ⟨_, by omega, rfl, hlt, h''⟩, fun x H2 hx Y hY => ?_⟩
    obtain ⟨G2, w, rx⟩ := hy x H2 hx
    have m2 := m'.grow w
    have r2 := ((r.same s1).wipe (own.map (·.2))).same (s'.trans w.g)
    refine (hstep xs[i] (List.getElem_mem hlt) Y hY ((D0, .opq (.dT kvs)) :: μ1)).run _ G2 H2 x _ (by rw [hY.k]; exact m2) (by rw [hY.k]; exact r2) (by rw [hY.k]; exact rx) fun σ3 ρ3 G3 H3 μ3 e3 s3 m3 r3 ⟨eμ3, k3, k3'⟩ => ⟨e3.trans (wipe_wipe σ _), fun Z hZ => ?_⟩
    subst eμ3
    rw [hY.k] at m3 r3
    refine (wts_nil (X := Z) (ρ := ρ3) (μ := ((D0, M.opq (.dT kvs)) :: μ1)) (Φ := fun b μ => b = true ∧ μ = ((D0, M.opq (.dT kvs)) :: μ1)) ⟨rfl, rfl⟩).run _ G3 H3 _ (by rw [hZ.k]; exact m3) (by rw [hZ.k]; exact r3) fun b G4 H4 μ4 s4 m4 ⟨eb, e4⟩ => ?_
    subst eb e4
    rw [hZ.k] at m4
    rw [if_pos rfl]
    intro W hW
    refine (k3 W hW).run _ G4 H4 _ (by rw [hW.k]; exact m4) (by rw [hW.k]; exact r3.same s4) fun ds1 J1 G5 H5 μ5 s5 m5 y1 ⟨e5, e6⟩ => ?_
    subst e5 e6
    rw [hW.k] at m5 y1
    have sA : Same G1 G5 := (((s'.trans w.g).trans s3).trans s4).trans s5
    have htake : (xs.take (i + 1)).flatMap pr = ((xs.take i).flatMap pr) ++ pr xs[i] := by
      rw [List.take_add_one, List.getElem?_eq_getElem hlt, List.flatMap_append]
      simp
    have dr5 : DRel X.K G5 kvs ((xs.take i).flatMap pr) := dr.same (((w.g.trans s3).trans s4).trans s5)
    refine ⟨fun j k H' => k = (ys xs[i]).length - j ∧ j ≤ (ys xs[i]).length ∧ ∃ G' kvs, Same G5 G' ∧ SM X.K G' H' ((D0, .opq (.dT kvs)) :: μ1) ∧ DRel X.K G' kvs (((xs.take i).flatMap pr) ++ (pr xs[i]).take j), ⟨(ys xs[i]).length, by simp, Nat.zero_le _, G5, kvs, Same.refl _, m5, by simpa using dr5⟩, ?_⟩
    rintro j k4 H6 ⟨rfl, hj, G6, kv6, s6, m6, dr6⟩
    by_cases hjl : j < (ys xs[i]).length
    · have hget1 : ((ys xs[i]).map f1)[j]? = some (f1 (ys xs[i])[j]) := by rw [List.getElem?_map, List.getElem?_eq_getElem hjl]; rfl
      obtain ⟨hgo1, hy1⟩ := y1.it j (f1 (ys xs[i])[j]) G6 H6 hget1 s6 m6.same
      refine .inr ⟨hgo1, fun H'' => ∃ G'' kvs, Same G5 G'' ∧ SM X.K G'' H'' ((D0, .opq (.dT kvs)) :: μ1) ∧ DRel X.K G'' kvs (((xs.take i).flatMap pr) ++ (pr xs[i]).take (j + 1)), fun H'' h'' => ⟨_, by omega, rfl, hjl, h''⟩, fun x1 H7 hx1 Y1 hY1 => ?_⟩
      obtain ⟨G7, w7, rx7⟩ := hy1 x1 H7 hx1
      have m7 := m6.grow w7
      have r7 : RS X.K G7 (wipe σ3 vs1) (wipeR ρ3 vs1) := (r3.same ((s4.trans s5).trans (s6.trans w7.g))).wipe vs1
      refine (k3' _ (List.getElem_mem hjl) Y1 hY1 ((D0, .opq (.dT kv6)) :: μ1)).run _ G7 H7 x1 _ (by rw [hY1.k]; exact m7) (by rw [hY1.k]; exact r7) (by rw [hY1.k]; exact rx7) fun σ8 ρ8 G8 H8 μ8 e8 s8 m8 r8 k8 => ⟨e8.trans (wipe_wipe σ3 _), fun Z1 hZ1 => ?_⟩
      rw [hY1.k] at m8 r8
      refine (k8 Z1 hZ1).run _ G8 H8 _ (by rw [hZ1.k]; exact m8) (by rw [hZ1.k]; exact r8) fun b G9 H9 μ9 s9 m9 ⟨e9, eb, k9⟩ => ?_
      subst e9 eb
      rw [hZ1.k] at m9
      rw [if_pos rfl]
      intro W1 hW1
      refine (k9 W1 hW1).run _ G9 H9 _ (by rw [hW1.k]; exact m9) (by rw [hW1.k]; exact r8.same s9) fun zs zvs G10 H10 μ10 s10 m10 r10 ⟨e10, e11, hkl, k11⟩ => ?_
      subst e10 e11
      rw [hW1.k] at m10 r10
      have ek := reps_kD r10
      refine ⟨sz1000 (by rw [ek, List.length_map]; exact hkl), fun p hp => ?_⟩
      have wp := grow_new (o := .tup zvs) m10.same hp
      have m11 := m10.grow wp
      intro W2 hW2
      refine (k11 W2 hW2).run _ _ _ _ (by rw [hW2.k]; exact m11) (by rw [hW2.k]; exact (r8.same (s9.trans s10)).same wp.g) fun zd zv G12 H12 μ12 s12 m12 r12 ⟨e12, e13⟩ => ?_
      subst e12 e13
      rw [hW2.k] at m12 r12
      have hjj : ((D0, M.opq (.dT kv6)) :: μ1)[0]? = some (D0, M.opq (.dT kv6)) := rfl
      obtain ⟨g0, hx0, _, _⟩ := m12.cell _ (List.mem_of_getElem? hjj)
      have sB : Same G6 G12 := ((((w7.g.trans s8).trans s9).trans s10).trans wp.g).trans s12
      have dr12 := dr6.same sB
      have hnext : (pr xs[i]).take (j + 1) = (pr xs[i]).take j ++ [(key xs[i] (ys xs[i])[j], val xs[i] (ys xs[i])[j])] := by
        rw [List.take_add_one]
        congr 1
        show ((ys xs[i]).map _)[j]?.toList = _
        rw [List.getElem?_map, List.getElem?_eq_getElem hjl]
        rfl
      -- the keys stay apart
      have hpre : ∃ t, (xs.flatMap fun x => (ys x).map (key x)) = (((xs.take i).flatMap pr ++ (pr xs[i]).take (j + 1)).map (·.1)) ++ t := by
        refine ⟨((pr xs[i]).drop (j + 1)).map (·.1) ++ ((xs.drop (i + 1)).flatMap pr).map (·.1), ?_⟩
        rw [← hks, ← List.append_assoc, ← List.map_append, ← List.map_append, List.append_assoc, List.append_assoc, ← List.append_assoc (List.take _ _), List.take_append_drop, ← List.append_assoc, ← htake, ← List.flatMap_append, List.take_append_drop]
      obtain ⟨t, ht⟩ := hpre
      have hn2 : (((xs.take i).flatMap pr ++ (pr xs[i]).take j).map (·.1) ++ [key xs[i] (ys xs[i])[j]]).Nodup := by
        rw [ht, hnext, ← List.append_assoc, List.map_append] at hnd
        exact (List.nodup_append.mp hnd).1
      have hfresh : key xs[i] (ys xs[i])[j] ∉ kv6.map (·.1) := fun hm => by
        rw [dr6.1] at hm
        exact (List.nodup_append.mp hn2).2.2 _ hm _ (List.mem_singleton_self _) rfl
      have hkl6 : kv6.length < sizeLine := by
        have e1 : kv6.length = ((xs.take i).flatMap pr ++ (pr xs[i]).take j).length := by
          have := congrArg List.length dr6.1
          simpa using this
        have e2 := congrArg List.length ht
        rw [← hks, List.length_map, hlen, hnext, ← List.append_assoc, List.length_append, List.length_map, List.length_append (bs := [_]), ← e1] at e2
        refine Nat.lt_of_lt_of_le ?_ (sz1000 (Nat.le_refl _))
        simp only [List.length_singleton] at e2
        omega
      refine ⟨kv6, key xs[i] (ys xs[i])[j], p, rfl, ?_, hx0, hkl6, G12, kv6 ++ [(key xs[i] (ys xs[i])[j], zv)], s6.trans sB, ?_, ?_⟩
      · rw [← ek]
        exact m12.same _ _ (s12 _ _ upd_same)
      · rw [putK_new hfresh]
        exact m12.putL (c' := .opq (.dT (kv6 ++ [(key xs[i] (ys xs[i])[j], zv)]))) (o := .dT (kv6 ++ [(key xs[i] (ys xs[i])[j], zv)])) hjj ⟨g0, upd_same, (fun _ e => nomatch e), (fun e => nomatch e)⟩
      · rw [hnext, ← List.append_assoc]
        exact dr12.app r12
    · have e : j = (ys xs[i]).length := by omega
      subst e
      refine .inl ⟨?_, G6, kv6, sA.trans s6, m6, ?_⟩
      · have := y1.stop G6 H6 s6 m6.same
        rwa [List.length_map] at this
      · rw [htake]
        have e2 : (pr xs[i]).take (ys xs[i]).length = pr xs[i] := List.take_of_length_le (by simp [pr])
        rw [e2] at dr6
        exact dr6
  · have e : i = xs.length := by omega
    subst e
    rw [List.take_length] at dr
    have hjj : ((D0, M.opq (.dT kvs)) :: μ1)[0]? = some (D0, M.opq (.dT kvs)) := rfl
    obtain ⟨Gz, sz, mz, rz⟩ := m'.frzT hjj dr.2
    rw [dr.1, hks, hvs] at rz
    refine .inl ⟨?_, q _ _ Gz H' _ ((s1.trans s').trans sz) mz rz k⟩
    have := y.stop G' H' s' m'.same
    rwa [List.length_map] at this
end
end DL
namespace DL
open PySem PySem.Spec PyProof.Rows L2
theorem key_sq {X : Cx} {pins : List (Addr × Obj)} {σ : L2.St} {H : Hp} {s : Shared} {b : Addr} {k : List Key} (I : Inv X pins σ H s) (h : SqT X.K H b (k.map kV)) : (tupleKind (mixKind X.prog X.w)).is s.heap k b := by
  obtain ⟨its, r, ⟨o, h1, h2, n, h3⟩, _⟩ := I.tuple h
  exact ⟨o, its.toArray, n, h1, h2, h3, by simpa using items_are r⟩
/-- the dict at y holds at the tuple x -/
def DtAt (K : PySem.W.Frag) (H : Hp) (x y : V) (r : Option V) : Prop := ∃ (a b : Addr) (kvs : List (List Key × V)) (k : List Key), x = .ref b ∧ y = .ref a ∧ SqT K H b (k.map kV) ∧ H a = some (.dT kvs) ∧ r = valV kvs k
def rInDT (K : PySem.W.Frag) (neg : Bool) : R2 := fun x y H Q => ∃ r, DtAt K H x y r ∧ Q (.bl (r.isSome != neg)) H
theorem op_inDT {X : Cx} {j : Nat} (hr : Room j X.A) : OpR X (compareOp .In) (rInDT X.K false) := by
  rintro pins s σ H x y v u Q I rx ry ⟨_, ⟨a, b, kvs, k, rfl, rfl, hb, ha, rfl⟩, q⟩
  cases (show v = Value.ref b from rx)
  cases (show u = Value.ref a from ry)
  obtain ⟨z, hd, xs, rel, dd⟩ := dt_of I.hok ha
  refine wpAny_in_heap (tupleKind_room_in1 (by have := room65 hr; omega)) (key_sq I hb) hd dd ?_
  have e := (rel.val k).isSome_eq
  rw [Option.isSome_map] at e
  rw [← e]
  exact ⟨.bl _, H, I.tok _, rfl, by simpa using q⟩
theorem op_notInDT {X : Cx} {j : Nat} (hr : Room j X.A) : OpR X (compareOp .NotIn) (rInDT X.K true) := by
  rintro pins s σ H x y v u Q I rx ry ⟨_, ⟨a, b, kvs, k, rfl, rfl, hb, ha, rfl⟩, q⟩
  cases (show v = Value.ref b from rx)
  cases (show u = Value.ref a from ry)
  obtain ⟨z, hd, xs, rel, dd⟩ := dt_of I.hok ha
  refine wpAny_notIn_heap (tupleKind_room_in1 (by have := room65 hr; omega)) (key_sq I hb) hd dd ?_
  have e := (rel.val k).isSome_eq
  rw [Option.isSome_map] at e
  rw [← e]
  exact ⟨.bl _, H, I.tok _, rfl, by simpa using q⟩
def rIxDT (K : PySem.W.Frag) : R2 := fun y x H Q => ∃ v, DtAt K H x y (some v) ∧ Q v H
theorem ix_DT {X : Cx} {j : Nat} (hr : Room j X.A) : IxR X (rIxDT X.K) := by
  rintro value slice pins s σ H x y v u Q I rx ry ⟨v0, ⟨a, b, kvs, k, rfl, rfl, hb, ha, e⟩, q⟩ hs
  cases (show v = Value.ref a from rx)
  cases (show u = Value.ref b from ry)
  obtain ⟨z, hd, xs, rel, dd⟩ := dt_of I.hok ha
  obtain ⟨w', hw, rw'⟩ := RelO.some_of (v := v0) (o := (atKey xs k).map (·.2)) (by rw [e]; exact rel.val k)
  obtain ⟨p, hp, hp2⟩ := Option.map_eq_some_iff.mp hw
  exact subscriptTail_builtinR (x := w') dd.typeIs PySem.F.slot_dict_getitem.lookup
    (wpAny_getItem_heap (Q := fun r s' => r = w' ∧ EP X pins σ Q r s') (tupleKind_room_in1 (by have := room65 hr; omega)) (key_sq I hb) dd hp ⟨hp2, by rw [hp2]; exact ⟨v0, H, I.tok _, rw', q⟩⟩) hs
/-- the data at a key -/
def lkT : List (List Key) → List D → List Key → Option D
  | k :: ks, d :: ds, x => if k = x then some d else lkT ks ds x
  | _, _, _ => none
theorem lkT_val {K : PySem.W.Frag} {G : Hp} : ∀ {kvs : List (List Key × V)} {ds : List D} (x : List Key), Reps K G (kvs.map (·.2)) ds → (valV kvs x = none ∧ lkT (kvs.map (·.1)) ds x = none) ∨ ∃ v d, valV kvs x = some v ∧ lkT (kvs.map (·.1)) ds x = some d ∧ Rep K G v d
  | [], _, x, h => .inl ⟨rfl, rfl⟩
  | p :: kvs, _, x, h => by
    cases h with
    | @cons v d vs ds r t =>
      show (valV (p :: kvs) x = none ∧ (if p.1 = x then some d else lkT (kvs.map (·.1)) ds x) = none) ∨ ∃ v d', valV (p :: kvs) x = some v ∧ (if p.1 = x then some d else lkT (kvs.map (·.1)) ds x) = some d' ∧ Rep K G v d'
      by_cases e : p.1 = x
      · rw [valV_pos e, if_pos e]
        exact .inr ⟨_, _, rfl, rfl, r⟩
      · rw [valV_neg e, if_neg e]
        exact lkT_val x t
section
variable {K : PySem.W.Frag} {μ : Mu} {Φ : D → Mu → Prop}
theorem rd_inDT {n : Bool} {ks : List (List Key)} {ds : List D} {x : List Key} (k : Φ (.bl ((lkT ks ds x).isSome != n)) μ) : RD K (rInDT K n) (.tup (x.map kD)) (.dcT ks ds) μ Φ := ⟨fun G H vx vy Q m rx ry q => by
  cases rx with
  | @tup b xs _ hs rs =>
    cases ry with
    | @dcT a kvs _ _ _ ha e1 e2 rd =>
      subst e1 e2
      refine ⟨_, ⟨a, b, kvs, x, rfl, rfl, ?_, m.same _ _ ha, rfl⟩, ?_⟩
      · rw [← reps_kD rs]; exact sqt_same m.same hs
      · have e : (valV kvs x).isSome = (lkT (kvs.map (·.1)) ds x).isSome := by
          rcases lkT_val x rd with ⟨h1, h2⟩ | ⟨v, d, h1, h2, _⟩ <;> rw [h1, h2] <;> rfl
        rw [e]
        exact q _ _ G H μ (Same.refl G) m (.bl _) k⟩
theorem rd_ixDT {ks : List (List Key)} {ds : List D} {x : List Key} {d : D} (h : lkT ks ds x = some d) (k : Φ d μ) : RD K (rIxDT K) (.dcT ks ds) (.tup (x.map kD)) μ Φ := ⟨fun G H vx vy Q m rx ry q => by
  cases ry with
  | @tup b xs _ hs rs =>
    cases rx with
    | @dcT a kvs _ _ _ ha e1 e2 rd =>
      subst e1 e2
      rcases lkT_val x rd with ⟨h1, h2⟩ | ⟨v, d', h1, h2, r⟩
      · rw [h] at h2; cases h2
      · rw [h] at h2
        cases h2
        refine ⟨v, ⟨a, b, kvs, x, rfl, rfl, ?_, m.same _ _ ha, h1.symm⟩, q _ _ G H μ (Same.refl G) m r k⟩
        rw [← reps_kD rs]; exact sqt_same m.same hs⟩
end
end DL
namespace DL
open PySem PySem.Spec PyProof.Rows L2
/-! ### dicts with plain keys: stored to, walked, made by a comprehension -/
theorem kD_rep {K : PySem.W.Frag} {G : Hp} (k : Key) : Rep K G (kV k) (kD k) := by
  cases k with
  | inl i => exact .int i
  | inr x => exact .str x
theorem valV_no {kvs : List (Key × V)} {k : Key} (h : k ∉ kvs.map (·.1)) : valV kvs k = none := by
  induction kvs with
  | nil => rfl
  | cons p r ih =>
    rw [List.map_cons, List.mem_cons, not_or] at h
    rw [valV_neg (fun e => h.1 e.symm)]
    exact ih h.2
section
variable {X : Cx} {ρ : Rho} {μ : Mu} {Φ : D → Mu → Prop} {F : Fx} {a b c e o i : Expr} {pos p apos cpos : Pos} {es : List Expr} {tg iter : Expr} {C g : Addr} {k : Nat}
/-- o[i] = .. of a dict, a new key -/
theorem wg_subD {S : List Nat} {d : D} {Φ : Rho → Mu → Prop} (hr : Room k X.A) (h : WE X o ρ μ fun x μ1 => WE X i ρ μ1 fun y μ2 => ∃ (l : Addr) (z : Key) (ks : List Key) (ds : List D) (μ' : Mu), x = .ref l ∧ y = kD z ∧ At μ2 l (.dct ks ds) (.dct (ks ++ [z]) (ds ++ [d])) μ' ∧ z ∉ ks ∧ ks.length < 1000 ∧ Φ ρ μ')
    (ha : ∀ v, assign (.Subscript o i pos) X.env v = (do
      let ov ← holding [v] (eval o X.env)
      let iv ← holding [v, ov] (eval i X.env)
      standAt pos
      holding [v, ov, iv] (setItem ov iv v)
      release [v, ov, iv] []) := by intro _; rfl) : WG X (.Subscript o i pos) S d ρ μ Φ := ⟨fun σ G H v Q m r rd q =>
  toWG (pg_sub pe_W pe_W (set_dict (by have := room65 hr; omega)) ha) (h.run σ G H _ m r fun x vx G1 H1 μ1 s1 m1 rx k1 => k1.run σ G1 H1 _ m1 (r.same s1) fun y vy G2 H2 μ2 s2 m2 ry ⟨l, z, ks, ds, μ', ex, ey, at', hz, hl, k2⟩ => by
    subst ex ey
    cases rx
    have ev := rep_kD ry
    subst ev
    obtain ⟨g0, kvs, hx, ek, rs⟩ := m2.cell _ at'.mem
    have hl' : kvs.length < sizeLine := by
      have e1 : kvs.length = ks.length := by rw [← ek, List.length_map]
      rw [e1]
      exact Nat.lt_of_lt_of_le hl (sz1000 (Nat.le_refl _))
    refine ⟨l, _, rfl, DPut.k hx hl', ?_⟩
    rw [L2.putK_new _ (valV_no (by rw [ek]; exact hz))]
    refine q σ ρ G2 _ μ' rfl (s1.trans s2) (m2.putA at' ⟨g0, _, upd_same, ?_, ?_⟩) (r.same (s1.trans s2)) k2
    · rw [List.map_append, ek]
      rfl
    · rw [List.map_append]
      exact rs.app (.cons (rd.same (s1.trans s2)) .nil))⟩
/-- the pairs of a dict -/
def itemsD : List Key → List D → List D
  | k :: ks, d :: ds => .tup [kD k, d] :: itemsD ks ds
  | _, _ => []
theorem itemsD_get : ∀ (ks : List Key) (ds : List D) (j : Nat), (itemsD ks ds)[j]? = match ks[j]?, ds[j]? with | some k, some d => some (.tup [kD k, d]) | _, _ => none
  | [], ds, j => by simp [itemsD]
  | k :: ks, [], j => by
    simp only [itemsD, List.getElem?_nil]
    split <;> simp_all
  | k :: ks, d :: ds, 0 => by simp [itemsD]
  | k :: ks, d :: ds, j + 1 => by
    simp only [itemsD, List.getElem?_cons_succ]
    exact itemsD_get ks ds j
theorem itemsD_len : ∀ (ks : List Key) (ds : List D), ks.length = ds.length → (itemsD ks ds).length = ks.length
  | [], _, _ => rfl
  | k :: ks, [], h => by simp at h
  | k :: ks, d :: ds, h => by simp only [itemsD, List.length_cons]; rw [itemsD_len ks ds (by simpa using h)]
theorem itemsD_map {β : Type} (f : β → Key) (g : β → D) : ∀ l : List β, itemsD (l.map f) (l.map g) = l.map fun x => .tup [kD (f x), g x]
  | [] => rfl
  | x :: l => by simp only [List.map_cons, itemsD]; rw [itemsD_map f g l]
theorem yl_items {K : PySem.W.Frag} {G : Hp} {a : Addr} {od : Obj} {kvs : List (Key × V)} {ks : List Key} {ds : List D} (h : G a = some (.frz od (.dK kvs))) (ek : kvs.map (·.1) = ks) (rs : Reps K G (kvs.map (·.2)) ds) : Yl K G (Iti a od kvs) (itemsD ks ds) where
  it := fun i d G1 H e s1 s2 => by
    have hH := s2 _ _ (s1 _ _ h)
    rw [itemsD_get] at e
    cases hk : ks[i]? with
    | none => rw [hk] at e; cases e
    | some k =>
      cases hd : ds[i]? with
      | none => rw [hk, hd] at e; cases e
      | some d' =>
        rw [hk, hd] at e
        have e' : D.tup [kD k, d'] = d := Option.some.inj e
        subst e'
        obtain ⟨x, hx, rx⟩ := rs.get hd
        have hi : i < kvs.length := by
          have := (List.getElem?_eq_some_iff.mp hk).1
          rw [← ek] at this
          simpa using this
        refine ⟨⟨hH, hi⟩, ?_⟩
        rintro y H' ⟨T, k', v', hkv, rfl, hT, rfl⟩
        have e1 : k' = k := by
          rw [← ek, List.getElem?_map, hkv] at hk
          exact Option.some.inj hk
        have e2 : v' = x := by
          rw [List.getElem?_map, hkv] at hx
          exact Option.some.inj hx
        subst e1 e2
        have w := grow_new (o := .tup [kV k', v']) s2 hT
        exact ⟨_, w, .tup (.inl (.inl upd_same)) (.cons (kD_rep k') (.cons ((rx.same s1).same w.g) .nil))⟩
  stop := fun G1 H s1 s2 => by
    refine ⟨s2 _ _ (s1 _ _ h), ?_⟩
    have e1 : ks.length = kvs.length := by rw [← ek, List.length_map]
    have e2 : ds.length = kvs.length := by rw [← rs.length, List.length_map]
    rw [itemsD_len _ _ (by omega)]
    omega
theorem wi_items {elts : List Expr} {kk : Nat} {tpos : Pos} {Φ : List D → Mu → Prop} (h : WE X e ρ μ fun d μ1 => ∃ ks ds, d = .dct ks ds ∧ Φ (itemsD ks ds) μ1) (hbase : attributeBase e "items" X.env (eval e X.env) = eval e X.env := by rfl) (hline : (apos.endLine == cpos.line) = true := by rfl) :
    WI X (.Tuple elts kk tpos) (.Call (.Attribute e "items" apos) [] [] cpos) ρ μ Φ := ⟨fun σ G H R m r q =>
  toWI (pi_items pe_W hbase hline) (h.run σ G H _ m r fun d v G1 H1 μ1 s1 m1 rd ⟨ks, ds, ed, k⟩ => by
    subst ed
    cases rd with
    | @dct a od kvs _ _ _ hl ek ev rs =>
      subst ev
      exact ⟨a, od, kvs, rfl, m1.same _ _ hl, q _ _ G1 H1 μ1 s1 m1 (yl_items hl ek rs) k⟩)⟩
/-- {..: .. for .. in ..}: nothing is written -/
theorem we_dc1 {β : Type} {N : List Str} {kx vx : Expr} {scope : Scope} (own : List (Str × Nat)) (f : β → D) (key : β → Key) (val : β → D) (xs : List β) (nx : Nx X N) (hN : N.Nodup) (hc : X.calm = true) (ok : BlkOk N X.env.scope scope own)
    (h : WI X tg iter ρ μ fun ds μ1 => ds = xs.map f ∧ μ1 = μ) (hl : xs.length ≤ 1000) (hnd : (xs.map key).Nodup)
    (hstep : ∀ x, x ∈ xs → ∀ (Y : Cx), BK X scope Y → ∀ ν, WG Y tg (own.map (·.2)) (f x) (wipeR ρ (own.map (·.2))) ν fun ρ2 μ2 => ∀ Y, BK X scope Y → WE Y kx ρ2 μ2 fun y μ3 => y = kD (key x) ∧ ∀ Y, BK X scope Y → WE Y vx ρ2 μ3 fun z μ4 => μ4 = ν ∧ z = val x)
    (k : Φ (.dct (xs.map key) (xs.map val)) μ) (hs : ∀ x, foldedSetIterable iter X.env x = pure x := by intro _; rfl) : WE X (.DictComp kx vx [⟨tg, iter, [], 0⟩] scope pos) ρ μ Φ := by
  have hN' : X.N.Nodup := by rw [nx.eq]; exact hN
  have ok' : BlkOk X.N X.env.scope scope own := by rw [nx.eq]; exact ok
  refine we_frzD ⟨fun σ G H Q m r q => ?_⟩
  refine toW (pe_dc (g := fun v σ H Q => ∀ Y, BK X scope Y → tWG Y tg v σ H Q) (tt := fun σ H Q => ∀ Y, BK X scope Y → tWTs Y [] σ H Q) (tk := fun σ H Q => ∀ Y, BK X scope Y → tW Y kx σ H Q) (tv := fun σ H Q => ∀ Y, BK X scope Y → tW Y vx σ H Q) hc hN' pi_W ok'
    (fun s H C cl fp => ⟨fun pins s' σ H' v u Q I r h => h _ ⟨s, H, C, cl, fp, rfl⟩ pins s' u I r⟩) (fun s H C cl fp => ⟨fun pins s' σ H' Q I h => h _ ⟨s, H, C, cl, fp, rfl⟩ pins s' I⟩) (fun s H C cl fp => ⟨fun pins s' σ H' Q I h => h _ ⟨s, H, C, cl, fp, rfl⟩ pins s' I⟩) (fun s H C cl fp => ⟨fun pins s' σ H' Q I h => h _ ⟨s, H, C, cl, fp, rfl⟩ pins s' I⟩) hs) ?_
  refine h.run σ G H _ m r fun ds J G1 H1 μ1 s1 m1 y ⟨ed, eμ⟩ D0 hD0 => ?_
  subst ed eμ
  have w0 := grow_mut (o := .dK []) m1.same hD0
  have m10 := m1.cons (c := .dct [] []) hD0 w0 ⟨m1.same.free hD0, [], upd_same, rfl, .nil⟩
  refine ⟨fun i k H' => k = xs.length - i ∧ i ≤ xs.length ∧ ∃ G', Same G1 G' ∧ SM X.K G' H' ((D0, .dct ((xs.take i).map key) ((xs.take i).map val)) :: μ1), ⟨xs.length, by simp, Nat.zero_le _, G1, Same.refl _, m10⟩, ?_⟩
  rintro i k2 H' ⟨rfl, hi, G', s', m'⟩
  by_cases hlt : i < xs.length
  · have hget : (xs.map f)[i]? = some (f xs[i]) := by rw [List.getElem?_map, List.getElem?_eq_getElem hlt]; rfl
    obtain ⟨hgo, hy⟩ := y.it i (f xs[i]) G' H' hget s' m'.same
    refine .inr ⟨hgo, fun H'' => ∃ G'', Same G1 G'' ∧ SM X.K G'' H'' ((D0, .dct ((xs.take (i + 1)).map key) ((xs.take (i + 1)).map val)) :: μ1), fun H'' h'' => ⟨_, by omega, rfl, hlt, h''⟩, fun x H2 hx Y hY => ?_⟩
    obtain ⟨G2, w, rx⟩ := hy x H2 hx
    have m2 := m'.grow w
    have r2 := ((r.same s1).wipe (own.map (·.2))).same (s'.trans w.g)
    refine (hstep xs[i] (List.getElem_mem hlt) Y hY ((D0, .dct ((xs.take i).map key) ((xs.take i).map val)) :: μ1)).run _ G2 H2 x _ (by rw [hY.k]; exact m2) (by rw [hY.k]; exact r2) (by rw [hY.k]; exact rx) fun σ3 ρ3 G3 H3 μ3 e3 s3 m3 r3 k3 => ⟨e3.trans (wipe_wipe σ _), fun Z hZ => ?_⟩
    rw [hY.k] at m3 r3
    refine (wts_nil (X := Z) (ρ := ρ3) (μ := μ3) (Φ := fun b μ => b = true ∧ μ = μ3) ⟨rfl, rfl⟩).run _ G3 H3 _ (by rw [hZ.k]; exact m3) (by rw [hZ.k]; exact r3) fun b G4 H4 μ4 s4 m4 ⟨eb, e4⟩ => ?_
    subst eb e4
    rw [hZ.k] at m4
    rw [if_pos rfl]
    intro W hW
    refine (k3 W hW).run _ G4 H4 _ (by rw [hW.k]; exact m4) (by rw [hW.k]; exact r3.same s4) fun kd kv G5 H5 μ5 s5 m5 r5 ⟨e5, k5⟩ => ?_
    rw [hW.k] at m5 r5
    subst e5
    intro W2 hW2
    refine (k5 W2 hW2).run _ G5 H5 _ (by rw [hW2.k]; exact m5) (by rw [hW2.k]; exact r3.same (s4.trans s5)) fun zd zv G6 H6 μ6 s6 m6 r6 ⟨e6, e7⟩ => ?_
    rw [hW2.k] at m6 r6
    subst e6 e7
    have hj : ((D0, M.dct ((xs.take i).map key) ((xs.take i).map val)) :: μ1)[0]? = some (D0, M.dct ((xs.take i).map key) ((xs.take i).map val)) := rfl
    obtain ⟨g0, kvs, hx0, ek, rs0⟩ := m6.cell _ (List.mem_of_getElem? hj)
    have hsz : kvs.length < sizeLine := by
      have e1 : kvs.length = i := by
        have := congrArg List.length ek
        simpa [Nat.min_eq_left (Nat.le_of_lt hlt)] using this
      rw [e1]
      exact Nat.lt_of_lt_of_le (Nat.lt_of_lt_of_le hlt hl) (sz1000 (Nat.le_refl _))
    have htk : xs.take (i + 1) = xs.take i ++ [xs[i]] := by
      rw [List.take_add_one, List.getElem?_eq_getElem hlt]
      rfl
    have hfresh : key xs[i] ∉ kvs.map (·.1) := by
      rw [ek]
      have hh : ((xs.take (i + 1)).map key).Nodup := hnd.sublist ((List.take_sublist _ _).map _)
      rw [htk, List.map_append] at hh
      intro hm
      exact (List.nodup_append.mp hh).2.2 _ hm _ (List.mem_singleton_self _) rfl
    refine ⟨kvs, key xs[i], rep_kD r5, hx0, hsz, G6, ((((s'.trans w.g).trans s3).trans s4).trans s5).trans s6, ?_⟩
    rw [L2.putK_new _ (valV_no hfresh), htk]
    have mm := m6.putL (c' := .dct ((xs.take i ++ [xs[i]]).map key) ((xs.take i ++ [xs[i]]).map val)) (o := .dK (kvs ++ [(key xs[i], zv)])) hj ⟨g0, _, upd_same, by rw [List.map_append, List.map_append, ek]; rfl, by rw [List.map_append, List.map_append]; exact rs0.app (.cons r6 .nil)⟩
    simpa using mm
  · have e : i = xs.length := by omega
    subst e
    rw [List.take_length] at m'
    refine .inl ⟨?_, q _ _ G' H' _ (s1.trans s') m' (.ref D0) ⟨D0, _, _, μ1, rfl, .here, k⟩⟩
    have := y.stop G' H' s' m'.same
    rwa [List.length_map] at this
end
end DL
namespace DL
open PySem PySem.Spec PyProof.Rows L2
/-! ### equal data are equal: lists, dicts, instances with their own == -/
/-- data of ints, texts and None, in lists and dicts -/
def EqD : Nat → D → Prop
  | _, .non => True
  | _, .int _ => True
  | _, .str _ => True
  | n + 1, .lst ds => ∀ d ∈ ds, EqD n d
  | n + 1, .dct ks ds => ks.Nodup ∧ ks.length = ds.length ∧ ∀ d ∈ ds, EqD n d
  | _, _ => False
theorem paired_reps {K : PySem.W.Frag} {G : Hp} {n : Nat} : ∀ {ds : List D} {xs ys : List V}, (∀ d ∈ ds, EqD n d) → Reps K G xs ds → Reps K G ys ds → Paired (fun x y => ∃ d, EqD n d ∧ Rep K G x d ∧ Rep K G y d) xs ys
  | _, _, _, h, .nil, r2 => by cases r2; exact .nil
  | _, _, _, h, .cons a b, r2 => by
    cases r2 with
    | cons a' b' => exact .cons ⟨_, h _ List.mem_cons_self, a, a'⟩ (paired_reps (fun d hd => h d (List.mem_cons_of_mem _ hd)) b b')
theorem valV_at {ls : List (Key × V)} {i : Nat} {p : Key × V} (hn : (ls.map (·.1)).Nodup) (h : ls[i]? = some p) : valV ls p.1 = some p.2 := by
  induction ls generalizing i with
  | nil => simp at h
  | cons q r ih =>
    rw [List.map_cons, List.nodup_cons] at hn
    cases i with
    | zero =>
      simp at h
      subst h
      exact valV_pos rfl
    | succ i =>
      have h' : r[i]? = some p := by simpa using h
      rw [valV_neg (fun e => hn.1 (by rw [e]; exact List.mem_map.mpr ⟨p, List.mem_of_getElem? h', rfl⟩))]
      exact ih hn.2 h'
theorem hits_reps {K : PySem.W.Frag} {G : Hp} {n : Nat} {ks : List Key} {ds : List D} {kvs ls : List (Key × V)} (hn : ks.Nodup) (hd : ∀ d ∈ ds, EqD n d) (e1 : kvs.map (·.1) = ks) (e2 : ls.map (·.1) = ks) (r1 : Reps K G (kvs.map (·.2)) ds) (r2 : Reps K G (ls.map (·.2)) ds) :
    ∀ p ∈ kvs, ∃ u, valV ls p.1 = some u ∧ ∃ d, EqD n d ∧ Rep K G p.2 d ∧ Rep K G u d := fun p hp => by
  obtain ⟨i, hi⟩ := List.mem_iff_getElem?.mp hp
  have hk : ks[i]? = some p.1 := by rw [← e1, List.getElem?_map, hi]; rfl
  have hv : (kvs.map (·.2))[i]? = some p.2 := by rw [List.getElem?_map, hi]; rfl
  obtain ⟨d, h1, h2⟩ := r1.getV hv
  obtain ⟨u, h3, h4⟩ := r2.get h1
  have hq : ∃ q, ls[i]? = some q ∧ q.2 = u := by
    rw [List.getElem?_map] at h3
    cases e : ls[i]? with
    | none => rw [e] at h3; cases h3
    | some q => rw [e] at h3; exact ⟨q, rfl, Option.some.inj h3⟩
  obtain ⟨q, hq, rfl⟩ := hq
  have hk2 : q.1 = p.1 := by
    rw [← e2, List.getElem?_map, hq] at hk
    exact Option.some.inj hk
  refine ⟨q.2, ?_, d, hd d (List.mem_of_getElem? h1), h2, h4⟩
  rw [← hk2]
  exact valV_at (by rw [e2]; exact hn) hq
section
variable {X : Cx} {pins : List (Addr × Obj)} {σ : L2.St} {G H : Hp} {s : Shared}
/-- the rich comparison of two readings of a list or a dict -/
def RcP (X : Cx) (s : Shared) (op : CmpOp) (A : Around) (v u : Value) (b : Bool) : Prop := ∀ (E Q : Value → Shared → Prop), Q (.bool b) s → wpAny (model X.prog X.w) A (richCompare op v u) Q E s
theorem keys_len {kvs ls : List (Key × V)} {ks : List Key} (e1 : kvs.map (·.1) = ks) (e2 : ls.map (·.1) = ks) : kvs.length = ls.length := by
  have := congrArg List.length (e1.trans e2.symm)
  simpa using this
theorem rcp_lst (I : Inv X pins σ H s) (sG : Same G H) {n : Nat} {A : Around} (hu : A.units < cLine) {a b : Addr} {xs ys : List V} {ds : List D} (ih : ∀ (d : D) (x y : V) (v u : Value), EqD n d → Rep X.K G x d → Rep X.K G y d → RelV x v → RelV y u → SeqAt.EqP X.prog X.w A.in1 s v u true)
    (ha : G a = some (.lst xs)) (hb : G b = some (.lst ys)) (r1 : Reps X.K G xs ds) (r2 : Reps X.K G ys ds) (hd : ∀ d ∈ ds, EqD n d) : RcP X s .Eq A (.ref a) (.ref b) true := fun E Q q => by
  obtain ⟨us, v1, p1, _⟩ := I.list (SqL.of (sG _ _ ha))
  obtain ⟨ws, v2, p2, _⟩ := I.list (SqL.of (sG _ _ hb))
  have hsz : us.toArray.size = ws.toArray.size := by rw [List.size_toArray, List.size_toArray, ← v1.length, ← v2.length, r1.length, r2.length]
  refine SeqAt.rcP_lists (e := fun _ => true) p1.isList p2.isList hsz hu (fun j h1 h2 => ?_) E Q ?_
  · have k := items_run (P := X.prog) (w := X.w) (A := A.in1) (s := s) (F := fun x y => ∃ d, EqD n d ∧ Rep X.K G x d ∧ Rep X.K G y d) (fun x y v u ⟨d, z1, z2, z3⟩ rx ry => ih d x y v u z1 z2 z3 rx ry) (paired_reps hd r1 r2) v1 v2 j (by simpa using h1) (by simpa using h2)
    simpa using k
  · rw [show ((List.range us.toArray.size).all fun _ => true) = true from List.all_eq_true.mpr fun _ _ => rfl]
    exact q
theorem dict_hits (I : Inv X pins σ H s) (sG : Same G H) {n : Nat} {A : Around} {a b : Addr} {o1 o2 : Obj} {kvs ls : List (Key × V)} {ks : List Key} {ds : List D} (ih : ∀ (d : D) (x y : V) (v u : Value), EqD n d → Rep X.K G x d → Rep X.K G y d → RelV x v → RelV y u → SeqAt.EqP X.prog X.w A.in1 s v u true)
    (ha : G a = some (.frz o1 (.dK kvs))) (hb : G b = some (.frz o2 (.dK ls))) (e1 : kvs.map (·.1) = ks) (e2 : ls.map (·.1) = ks) (r1 : Reps X.K G (kvs.map (·.2)) ds) (r2 : Reps X.K G (ls.map (·.2)) ds) (hn : ks.Nodup) (hd : ∀ d ∈ ds, EqD n d) :
    ∃ va vb, (a == sysModules) = false ∧ (b == sysModules) = false ∧ s.heap.DictOf (mixKind X.prog X.w) a va ∧ s.heap.DictOf (mixKind X.prog X.w) b vb ∧ va.length = vb.length ∧ PySem.W.KeqHitsP X.prog X.w A.in1 s vb va true := by
  obtain ⟨_, ya, va, ra, da⟩ := (I.hok a _ (sG _ _ ha)).2
  obtain ⟨_, yb, vb, rb, db⟩ := (I.hok b _ (sG _ _ hb)).2
  exact ⟨va, vb, ya, yb, da, db, by rw [← ra.length, ← rb.length]; exact keys_len e1 e2, hits_run (F := fun x y => ∃ d, EqD n d ∧ Rep X.K G x d ∧ Rep X.K G y d) (fun x y v u ⟨d, z1, z2, z3⟩ rx ry => ih d x y v u z1 z2 z3 rx ry) rb ra (hits_reps hn hd e1 e2 r1 r2)⟩
theorem rcp_ne {a b : Addr} {ka kb : List (Key × Value)} {A : Around} (ha : (a == sysModules) = false) (hb : (b == sysModules) = false) (da : s.heap.DictOf (mixKind X.prog X.w) a ka) (db : s.heap.DictOf (mixKind X.prog X.w) b kb) (hu : A.units < cLine) (hl : ka.length = kb.length)
    (hits : PySem.W.KeqHitsP X.prog X.w A.in1 s kb ka true) : RcP X s .NotEq A (.ref a) (.ref b) false := fun E Q h => by
  refine wpAny_richCompare_same_room (op := .NotEq) da.typeIs db.typeIs PySem.F.slot_dict_ne (wpAny_call_entry PySem.F.slot_dict_ne da.typeIs PySem.F.entry_dict_ne ?_ (PySem.F.args_dict_ne_2 _ _)) hu
  show wpAny _ _ (Builtin.Dict.dictSlotArgs "__ne__" ⟨[.ref a, .ref b], []⟩ >>= _) _ _ s
  refine wpAny_bind ?_
  unfold Builtin.Dict.dictSlotArgs
  refine wpAny_bind (wpAny_notOrdered_dict da.typeIs ?_)
  show wpAny _ _ (pure (Value.ref a, Value.ref b)) _ _ s
  refine wpAny_pure (wpAny_bind (wpAny_isInstance (T := "dict") db.typeIs PySem.F.sub_dict_dict ?_))
  simp only [Bool.not_true, Bool.false_eq_true, if_false]
  refine wpAny_bind (wpAny_pure (wpAny_bind (wpAny_pure (wpAny_bind (PySem.W.samePairsP ha hb da db (fun _ => hits) ?_)))))
  exact wpAny_pure ⟨_, rfl, (fun x => nomatch x), by simpa [hl] using h⟩
theorem eqP_reps (I : Inv X pins σ H s) (sG : Same G H) : ∀ (n : Nat) (A : Around), A.units + n < cLine → ∀ (d : D) (x y : V) (v u : Value), EqD n d → Rep X.K G x d → Rep X.K G y d → RelV x v → RelV y u → SeqAt.EqP X.prog X.w A s v u true := by
  intro n
  induction n with
  | zero =>
    intro A hu d x y v u h r1 r2 rx ry
    cases d with
    | non => cases r1; cases r2; exact (eqAt_same rx ry rfl).eqP
    | int i => cases r1; cases r2; exact (eqAt_same rx ry rfl).eqP
    | str x => cases r1; cases r2; exact (eqAt_same rx ry rfl).eqP
    | _ => exact h.elim
  | succ n ih =>
    intro A hu d x y v u h r1 r2 rx ry
    have ih' := ih A.in1 (by show A.units + 1 + n < cLine; omega)
    have go : ∀ a b : Addr, x = .ref a → y = .ref b → RcP X s .Eq A (.ref a) (.ref b) true → SeqAt.EqP X.prog X.w A s v u true := by
      rintro a b rfl rfl step
      cases (show v = Value.ref a from rx)
      cases (show u = Value.ref b from ry)
      by_cases e : a = b
      · subst e; exact (SeqAt.EqAt.same _).eqP
      · exact SeqAt.eqP_refs e step
    cases d with
    | non => cases r1; cases r2; exact (eqAt_same rx ry rfl).eqP
    | int i => cases r1; cases r2; exact (eqAt_same rx ry rfl).eqP
    | str x => cases r1; cases r2; exact (eqAt_same rx ry rfl).eqP
    | lst ds =>
      cases r1 with
      | lst ha ra =>
        cases r2 with
        | lst hb rb => exact go _ _ rfl rfl (rcp_lst I sG (by omega) ih' ha hb ra rb h)
    | dct ks ds =>
      cases r1 with
      | dct ha ea va ra =>
        cases r2 with
        | dct hb eb vb rb =>
          subst va vb
          obtain ⟨hn, _, hd⟩ := h
          obtain ⟨va, vb, ya, yb, da, db, hl, hits⟩ := dict_hits I sG ih' ha hb ea eb ra rb hn hd
          refine go _ _ rfl rfl fun E Q q => PySem.W.rcP_dicts (knd := mixKind X.prog X.w) (r := true) ya yb da db (by omega) (fun _ => hits) E Q ?_
          rw [show (va.length == vb.length && true) = true from by rw [hl]; simp]
          exact q
    | _ => exact h.elim
end
section
variable {X : Cx} {K : PySem.W.Frag} {μ : Mu} {Φ : D → Mu → Prop}
/-- lists == lists, dicts != dicts: the same data -/
def rEqE (K : PySem.W.Frag) : R2 := fun x y H Q => ∃ (G : Hp) (ds : List D) (n : Nat), Same G H ∧ Rep K G x (.lst ds) ∧ Rep K G y (.lst ds) ∧ (∀ d ∈ ds, EqD n d) ∧ n ≤ 60 ∧ Q (.bl true) H
def rNeE (K : PySem.W.Frag) : R2 := fun x y H Q => ∃ (G : Hp) (ks : List Key) (ds : List D) (n : Nat), Same G H ∧ Rep K G x (.dct ks ds) ∧ Rep K G y (.dct ks ds) ∧ ks.Nodup ∧ (∀ d ∈ ds, EqD n d) ∧ n ≤ 60 ∧ Q (.bl false) H
theorem op_eqE {k : Nat} (hr : Room k X.A) : OpR X (compareOp .Eq) (rEqE X.K) := by
  rintro pins s σ H x y v u Q I rx ry ⟨G, ds, n, sG, r1, r2, hd, hn, q⟩
  have hu := room65 hr
  cases r1 with
  | lst ha ra =>
    cases r2 with
    | lst hb rb =>
      cases (show v = Value.ref _ from rx)
      cases (show u = Value.ref _ from ry)
      exact rcp_lst I sG (A := X.A) (by omega) (eqP_reps I sG n X.A.in1 (by show X.A.units + 1 + n < cLine; omega)) ha hb ra rb hd _ _ ⟨.bl true, H, I, rfl, q⟩
theorem op_neE {k : Nat} (hr : Room k X.A) : OpR X (compareOp .NotEq) (rNeE X.K) := by
  rintro pins s σ H x y v u Q I rx ry ⟨G, ks, ds, n, sG, r1, r2, hk, hd, hn, q⟩
  have hu := room65 hr
  cases r1 with
  | dct ha ea va ra =>
    cases r2 with
    | dct hb eb vb rb =>
      subst va vb
      cases (show v = Value.ref _ from rx)
      cases (show u = Value.ref _ from ry)
      obtain ⟨va, vb, ya, yb, da, db, hl, hits⟩ := dict_hits I sG (A := X.A) (eqP_reps I sG n X.A.in1 (by show X.A.units + 1 + n < cLine; omega)) ha hb ea eb ra rb hk hd
      exact rcp_ne ya yb da db (by omega) hl hits _ _ ⟨.bl false, H, I, rfl, q⟩
theorem rd_eqE {ds : List D} (n : Nat) (hd : ∀ d ∈ ds, EqD n d) (hn : n ≤ 60) (k : Φ (.bl true) μ) : RD K (rEqE K) (.lst ds) (.lst ds) μ Φ := ⟨fun G H vx vy Q m rx ry q => ⟨G, ds, n, m.same, rx, ry, hd, hn, q _ _ G H μ (Same.refl G) m (.bl _) k⟩⟩
theorem rd_neE {ks : List Key} {ds : List D} (n : Nat) (hk : ks.Nodup) (hd : ∀ d ∈ ds, EqD n d) (hn : n ≤ 60) (k : Φ (.bl false) μ) : RD K (rNeE K) (.dct ks ds) (.dct ks ds) μ Φ := ⟨fun G H vx vy Q m rx ry q => ⟨G, ks, ds, n, m.same, rx, ry, hk, hd, hn, q _ _ G H μ (Same.refl G) m (.bl _) k⟩⟩
end
end DL
namespace PySem.W
open PyProof.Rows PySem.Calls
section
variable {prog : Program} {w : World} {A : Around} {E : Value → Shared → Prop} {s : Shared} {K : Frag} {x y C L f : Addr} {h₀ : Heap} {m : Str → Option Value} {ox oy : Obj} {od od2 : Option Obj}
/-- x != y by the class's own == -/
theorem dl_ne {Q : Value → Shared → Prop} (hu : A.units + 1 < cLine) (F : Fr h₀ L s.heap m) (X₀ : K.In h₀) (I : InstAt s.heap x ox C od) (J : InstAt s.heap y oy C od2)
    (hs : findIn K (.ref C) "__ne__" = some (some (.builtin "object.__ne__"))) (ho : subIn K (.ref C) (.type "object") = some true) (he : findIn K (.ref C) "__eq__" = some (some (.ref f))) (hf : isFn K (.ref f) = true)
    (h : wpAny (model prog w) A.in1 (call (.ref f) [.ref x, .ref y]) (fun v s' => ∃ t, v = .bool t ∧ Q (.bool (!t)) s') E s) : wpAny (model prog w) A (richCompare .NotEq (.ref x) (.ref y)) Q E s := by
  have X := X₀.keeps F.keep
  have FB := PySem.F.cmp_object
  have sub : Looks (model prog w) s.heap (isInstance (.ref x) (.type "object")) true := I.type.andThen (looks_subIn X ho)
  have entry : wpAny (model prog w) A.in1 (Builtin.«object.__ne__» ⟨[.ref x, .ref y], []⟩) (fun fin s' => match fin with
      | .done f => ∃ t, f = .ret (.bool t) ∧ Q (.bool t) s'
      | .again _ => False) E s := by
    unfold Builtin.«object.__ne__»
    refine wpAny_bind (wpAny_of_eq (a := ((Value.ref x : Value), [Value.ref y])) (by first | rfl | (simp only [Builtin.slotArgs]; rfl)) ?_)
    refine wpAny_bind (wpAny_cRoomFor (by show A.units + 1 < cLine; exact hu) ?_)
    refine wpAny_bind (ifBound_K X I he hf (wpAny_mono h (fun v s' hv => ?_) fun _ _ z => z))
    obtain ⟨t, rfl, q⟩ := hv
    show wpAny _ _ (truthy (.bool t) >>= _) _ _ _
    refine wpAny_bind (wpAny_truthy_bool ?_)
    exact wpAny_pure ⟨_, rfl, q⟩
  have one : wpAny (model prog w) A (tryCompare (.ref x) "__ne__" (.ref y)) (fun r s' => ∃ v, r = some v ∧ Q v s') E s := by
    unfold tryCompare
    refine wpAny_bind ?_
    simp only [callSpecialIfBound?, bindSpecialIfBound?]
    refine wpAny_holding (wpAny_bind (wpAny_bind (wpAny_bind (I.type.here ((looks_findIn X hs).here ?_)))))
    have hb := FB.ne.bind (.ref x)
    have hc : wpAny (model prog w) A (call (.builtin "object.__ne__") [.ref x, .ref y]) (fun v s' => ∃ t, v = .bool t ∧ Q (.bool t) s') E s := by
      refine wpAny_call (codeAny_call_builtin FB.ne.plain PySem.F.cmpEntry_ne ?_)
      refine check_slot PySem.F.cmpKind_ne PySem.F.cmpSplit_ne sub (PySem.F.cmpArgs_ne _ _) (wpAny_mono entry (fun fin s' hq => ?_) fun _ _ z => z)
      cases fin with
      | done fl =>
        obtain ⟨t, rfl, q⟩ := hq
        exact ⟨t, rfl, q⟩
      | again c => exact hq.elim
    refine wpAny_bind (wpAny_askSetting (wpAny_ite ?_))
    have fin : wpAny (model prog w) A (call (.builtin "object.__ne__") ([.ref x] ++ [.ref y]) >>= fun v => pure (some v)) (fun a s' => wpAny (model prog w) A (match a with | some .notImplemented | none => pure none | some v => pure (some v)) (fun r s' => ∃ v, r = some v ∧ Q v s') E s') E s :=
      wpAny_bind (wpAny_mono hc (fun v s' ⟨t, e, q⟩ => by subst e; exact wpAny_pure (wpAny_pure ⟨_, rfl, q⟩)) fun _ _ z => z)
    rw [hb]
    split
    · exact wpAny_bind (wpAny_pure (wpAny_pure (by exact fin)))
    · exact wpAny_tryCatch (wpAny_bind (wpAny_pure (wpAny_pure (by exact fin))))
  unfold richCompare
  simp only [oneThing_ref]
  refine wpAny_holding (wpAny_bind (wpAny_cRoomFor (Nat.lt_of_succ_lt hu) ?_))
  refine wpAny_bind (I.type.here (wpAny_bind (J.type.here ?_)))
  rw [if_neg (show ¬ ((Value.ref C != Value.ref C) = true) from by simp)]
  refine wpAny_bind (wpAny_pure ?_)
  simp only [Bool.false_eq_true, if_false]
  refine wpAny_bind (wpAny_mono one (fun r s' z => ?_) fun _ _ e => e)
  obtain ⟨v, rfl, hq⟩ := z
  exact wpAny_pure hq
end
end PySem.W
namespace DL
open PySem PySem.Spec PyProof.Rows L2
/-! ### instances of an own class: ==, !=, lists of them -/
/-- a class whose != is object's -/
structure NeK (K : PySem.W.Frag) (C : Addr) : Prop where
  ne : PySem.W.findIn K (.ref C) "__ne__" = some (some (.builtin "object.__ne__"))
  ob : PySem.W.subIn K (.ref C) (.type "object") = some true
section
variable {X : Cx} {pins : List (Addr × Obj)} {σ : L2.St} {G H : Hp} {s : Shared} {C : Addr} {S : Spec} {n : Nat} {μ : Mu}
/-- what a comparison keeps -/
def Kp (X : Cx) (pins : List (Addr × Obj)) (σ : L2.St) (G : Hp) (μ : Mu) (s' : Shared) : Prop := ∃ (G' H' : Hp), Same G G' ∧ SM X.K G' H' μ ∧ Inv X pins σ H' s'
theorem env_at {A : Around} (I : Inv X pins σ H s) (hf : A.frames = X.A.frames) : Env0 X.prog X.w X.K X.mg X.base A X.stack s H := by
  have e := I.env0
  exact ⟨by rw [hf]; exact e.frames, e.mod, e.bs, e.bsz, e.funs, e.frf, e.hok, e.bare⟩
theorem rep_inst {v : V} {u : Value} {ds : List D} (m : SM X.K G H μ) (r : Rep X.K G v (.ins C ds)) (I : Inv X pins σ H s) (rv : RelV v u) : ∃ (a dx : Addr) (vs : List (Option V)), v = .ref a ∧ u = .ref a ∧ SlX.Slt H a C dx vs := by
  obtain ⟨a, dx, vs, rfl, hs⟩ := recv_slt m r (.inl ⟨ds, rfl⟩)
  exact ⟨a, dx, vs, rfl, rv, hs⟩
/-- the own == is called -/
theorem call_eq {A : Around} {g : Addr} {ds : List D} {v1 v2 : V} {a b : Addr} (Fr : FnR X.prog X.w X.K X.mg X.base CX0 n g (spD X.K S)) (hr : Room n A) (hf : A.frames = X.A.frames) (I : Inv X pins σ H s) (m : SM X.K G H μ) (r1 : Rep X.K G (.ref a) (.ins C ds)) (r2 : Rep X.K G (.ref b) (.ins C ds))
    (hS : ∀ Φ : D → Mu → Prop, Φ (.bl true) μ → S [.ins C ds, .ins C ds] μ Φ noX) : wpAny (model X.prog X.w) A (call (.ref g) [.ref a, .ref b]) (fun v s' => v = .bool true ∧ Kp X pins σ G μ s') X.xe s := by
  refine wpAny_call (codeAny_mono (SlX.run_at (us := [.ref a, .ref b]) (ws := [.ref a, .ref b]) (Q := fun v H' => ∃ G', v = .bl true ∧ Same G G' ∧ SM X.K G' H' μ) Fr hr (env_at I hf) (p0 (E := fun _ _ _ => False)) I (.cons rfl (.cons rfl .nil)) (spD_of m (.cons r1 (.cons r2 .nil)) (hS (fun d μ' => d = .bl true ∧ μ' = μ) ⟨rfl, rfl⟩) fun d v G' H' μ' s1 m1 rd ⟨ed, eμ⟩ => ?_)) fun r s' z => ?_)
  · subst ed eμ
    cases rd
    exact ⟨G', rfl, s1, m1⟩
  · cases r with
    | error e => exact z
    | ok fl =>
      cases fl with
      | ret u =>
        obtain ⟨v, H', I', rv, G', ev, s1, m1⟩ := z
        subst ev
        exact ⟨rv, G', H', s1, m1, I'⟩
      | next => exact z.elim
      | brk => exact z.elim
      | cont => exact z.elim
theorem rc_in {A : Around} {g : Addr} {ds : List D} {a b : Addr} (Fr : FnR X.prog X.w X.K X.mg X.base CX0 n g (spD X.K S)) (h1 : PySem.W.findIn X.K (.ref C) "__eq__" = some (some (.ref g))) (h2 : PySem.W.isFn X.K (.ref g) = true) (hr : Room n A) (hf : A.frames = X.A.frames) (I : Inv X pins σ H s) (m : SM X.K G H μ)
    (r1 : Rep X.K G (.ref a) (.ins C ds)) (r2 : Rep X.K G (.ref b) (.ins C ds)) (hS : ∀ Φ : D → Mu → Prop, Φ (.bl true) μ → S [.ins C ds, .ins C ds] μ Φ noX) :
    wpAny (model X.prog X.w) A (richCompare .Eq (.ref a) (.ref b)) (fun v s' => v = .bool true ∧ Kp X pins σ G μ s') X.xe s := by
  obtain ⟨_, dx, vs, e1, _, hs1⟩ := rep_inst m r1 I rfl
  cases e1
  obtain ⟨_, dy, ws, e2, _, hs2⟩ := rep_inst m r2 I rfl
  cases e2
  obtain ⟨sl, od, _, J, _⟩ := SlX.slt_inst I hs1
  obtain ⟨sl2, od2, _, J2, _⟩ := SlX.slt_inst I hs2
  obtain ⟨mF, hF⟩ := I.fr
  refine PySem.W.cmp_K (op := .Eq) (tb := .ref C) hr.units0 hF I.ok.mod.kin J J2.type (by simp [PySem.W.notFirst]) h1 h2 ?_
  refine wpAny_mono (call_eq (v1 := .non) (v2 := .non) Fr hr hf I m r1 r2 hS) (fun v s' ⟨ev, k⟩ => ?_) fun _ _ z => z
  subst ev
  exact ⟨rfl, k⟩
theorem eqB_in {A : Around} {g : Addr} {ds : List D} {a b : Addr} (Fr : FnR X.prog X.w X.K X.mg X.base CX0 n g (spD X.K S)) (h1 : PySem.W.findIn X.K (.ref C) "__eq__" = some (some (.ref g))) (h2 : PySem.W.isFn X.K (.ref g) = true) (hr : Room n A) (hf : A.frames = X.A.frames) (I : Inv X pins σ H s) (m : SM X.K G H μ)
    (r1 : Rep X.K G (.ref a) (.ins C ds)) (r2 : Rep X.K G (.ref b) (.ins C ds)) (hS : ∀ Φ : D → Mu → Prop, Φ (.bl true) μ → S [.ins C ds, .ins C ds] μ Φ noX) :
    wpAny (model X.prog X.w) A (eqBool (.ref a) (.ref b)) (fun r s' => r = true ∧ Kp X pins σ G μ s') X.xe s := by
  by_cases e : a = b
  · subst e
    exact SeqAt.EqAt.same (A := A) (s := s) (.ref a) X.prog X.w X.xe _ ⟨rfl, G, H, Same.refl _, m, I⟩
  · refine GQ.eqBool_refG e (wpAny_mono (rc_in Fr h1 h2 hr hf I m r1 r2 hS) (fun v s' ⟨ev, k⟩ => ?_) fun _ _ z => z)
    exact ⟨true, ev, rfl, k⟩
/-- x == y, x != y of two instances of C; lists of such -/
def rEqI (K : PySem.W.Frag) (C : Addr) (S : Spec) (b : Bool) : R2 := fun x y H Q => ∃ (G : Hp) (μ : Mu) (ds : List D), SM K G H μ ∧ Rep K G x (.ins C ds) ∧ Rep K G y (.ins C ds) ∧ (∀ Φ : D → Mu → Prop, Φ (.bl true) μ → S [.ins C ds, .ins C ds] μ Φ noX) ∧ ∀ G' H', Same G G' → SM K G' H' μ → Q (.bl b) H'
theorem rep_ref {K : PySem.W.Frag} {v : V} {ds : List D} (r : Rep K G v (.ins C ds)) : ∃ a, v = .ref a := by cases r; exact ⟨_, rfl⟩
theorem op_eqI (M : Omx X n C "__eq__" S) (hr : Room n X.A) : OpR X (compareOp .Eq) (rEqI X.K C S true) := by
  rintro pins s σ H x y v u Q I rx ry ⟨G, μ, ds, m, r1, r2, hS, q⟩
  obtain ⟨g, h1, h2, _, _, Fr⟩ := M.ex
  obtain ⟨a, rfl⟩ := rep_ref r1
  obtain ⟨b, rfl⟩ := rep_ref r2
  cases (show v = Value.ref a from rx)
  cases (show u = Value.ref b from ry)
  refine wpAny_mono (rc_in Fr h1 h2 hr rfl I m r1 r2 hS) (fun v s' ⟨ev, G', H', s1, m1, I1⟩ => ?_) fun _ _ z => z
  subst ev
  exact ⟨.bl true, H', I1, rfl, q G' H' s1 m1⟩
theorem op_neI (M : Omx X n C "__eq__" S) (N : NeK X.K C) (hr : Room (n + 1) X.A) : OpR X (compareOp .NotEq) (rEqI X.K C S false) := by
  rintro pins s σ H x y v u Q I rx ry ⟨G, μ, ds, m, r1, r2, hS, q⟩
  obtain ⟨g, h1, h2, _, _, Fr⟩ := M.ex
  obtain ⟨a, rfl⟩ := rep_ref r1
  obtain ⟨b, rfl⟩ := rep_ref r2
  cases (show v = Value.ref a from rx)
  cases (show u = Value.ref b from ry)
  obtain ⟨_, dx, vs, e1, _, hs1⟩ := rep_inst m r1 I rfl
  cases e1
  obtain ⟨_, dy, ws, e2, _, hs2⟩ := rep_inst m r2 I rfl
  cases e2
  obtain ⟨sl, od, _, J, _⟩ := SlX.slt_inst I hs1
  obtain ⟨sl2, od2, _, J2, _⟩ := SlX.slt_inst I hs2
  obtain ⟨mF, hF⟩ := I.fr
  refine PySem.W.dl_ne (by have := room65 hr; omega) hF I.ok.mod.kin J J2 N.ne N.ob h1 h2 (wpAny_mono (call_eq (v1 := .non) (v2 := .non) Fr hr.in1 rfl I m r1 r2 hS) (fun v s' ⟨ev, G', H', s1, m1, I1⟩ => ?_) fun _ _ z => z)
  subst ev
  exact ⟨true, rfl, .bl false, H', I1, rfl, q G' H' s1 m1⟩
def rEqL (K : PySem.W.Frag) (C : Addr) (S : Spec) : R2 := fun x y H Q => ∃ (G : Hp) (μ : Mu) (dss : List (List D)), SM K G H μ ∧ Rep K G x (.lst (dss.map (D.ins C))) ∧ Rep K G y (.lst (dss.map (D.ins C))) ∧ (∀ ds ∈ dss, ∀ Φ : D → Mu → Prop, Φ (.bl true) μ → S [.ins C ds, .ins C ds] μ Φ noX) ∧ ∀ G' H', Same G G' → SM K G' H' μ → Q (.bl true) H'
theorem op_eqL (M : Omx X n C "__eq__" S) (hr : Room (n + 1) X.A) : OpR X (compareOp .Eq) (rEqL X.K C S) := by
  rintro pins s σ H x y v u Q I rx ry ⟨G, μ, dss, m, r1, r2, hS, q⟩
  obtain ⟨g, h1, h2, _, _, Fr⟩ := M.ex
  cases r1 with
  | @lst a xs _ ha ra =>
    cases r2 with
    | @lst b ys _ hb rb =>
      cases (show v = Value.ref a from rx)
      cases (show u = Value.ref b from ry)
      refine GQ.rc_listG (N := dss.length) hr.units0 (fun _ s' => Kp X pins σ G μ s') (fun i s' kp => ?_) (fun s' ⟨G', H', s1, m1, I1⟩ => ⟨.bl true, H', I1, rfl, q G' H' s1 m1⟩) ⟨G, H, Same.refl _, m, I⟩
      obtain ⟨G1, H1, s1, m1, I1⟩ := kp
      obtain ⟨z, its, k, rr, e⟩ := I1.hok a _ (m1.same _ _ (s1 _ _ ha))
      obtain ⟨z2, its2, k2, rr2, e2⟩ := I1.hok b _ (m1.same _ _ (s1 _ _ hb))
      have l1 : its.length = dss.length := by rw [← rr.length, ra.length, List.length_map]
      have l2 : its2.length = dss.length := by rw [← rr2.length, rb.length, List.length_map]
      refine ⟨its.toArray, its2.toArray, k, k2, e, e2, by rw [List.size_toArray, l1], by rw [List.size_toArray, l2], fun j1 j2 => ?_⟩
      have j1' : i < dss.length := by rw [← l1]; simpa using j1
      have hd : (dss.map (D.ins C))[i]? = some (D.ins C dss[i]) := by rw [List.getElem?_map, List.getElem?_eq_getElem j1']; rfl
      obtain ⟨x1, hx1, rx1⟩ := ra.get hd
      obtain ⟨y1, hy1, ry1⟩ := rb.get hd
      obtain ⟨u1, hu1, ru1⟩ := rr.get hx1
      obtain ⟨u2, hu2, ru2⟩ := rr2.get hy1
      obtain ⟨p, rfl⟩ := rep_ref rx1
      obtain ⟨p2, rfl⟩ := rep_ref ry1
      cases (show u1 = Value.ref p from ru1)
      cases (show u2 = Value.ref p2 from ru2)
      have g1 : its.toArray[i] = Value.ref p := by
        have := (List.getElem?_eq_some_iff.mp hu1).2
        simpa using this
      have g2 : its2.toArray[i] = Value.ref p2 := by
        have := (List.getElem?_eq_some_iff.mp hu2).2
        simpa using this
      rw [g1, g2]
      refine wpAny_mono (eqB_in Fr h1 h2 hr.in1 rfl I1 m1 (rx1.same s1) (ry1.same s1) (hS _ (List.getElem_mem j1'))) (fun r s2 ⟨er, G2, H2, s3, m2, I2⟩ => ?_) fun _ _ z => z
      exact ⟨er, G2, H2, s1.trans s3, m2, I2⟩
end
section
variable {K : PySem.W.Frag} {μ : Mu} {Φ : D → Mu → Prop} {C : Addr} {S : Spec}
theorem rd_eqIn {ds : List D} {b : Bool} (hS : ∀ Φ : D → Mu → Prop, Φ (.bl true) μ → S [.ins C ds, .ins C ds] μ Φ noX) (k : Φ (.bl b) μ) : RD K (rEqI K C S b) (.ins C ds) (.ins C ds) μ Φ := ⟨fun G H vx vy Q m rx ry q => ⟨G, μ, ds, m, rx, ry, hS, fun G' H' s1 m1 => q _ _ G' H' μ s1 m1 (.bl b) k⟩⟩
theorem rd_eqLi {dss : List (List D)} (hS : ∀ ds ∈ dss, ∀ Φ : D → Mu → Prop, Φ (.bl true) μ → S [.ins C ds, .ins C ds] μ Φ noX) (k : Φ (.bl true) μ) : RD K (rEqL K C S) (.lst (dss.map (D.ins C))) (.lst (dss.map (D.ins C))) μ Φ := ⟨fun G H vx vy Q m rx ry q => ⟨G, μ, dss, m, rx, ry, hS, fun G' H' s1 m1 => q _ _ G' H' μ s1 m1 (.bl true) k⟩⟩
end
end DL
namespace DL
open PySem PySem.Spec PyProof.Rows L2
section
variable {X : Cx} {ρ : Rho} {μ : Mu} {Φ : D → Mu → Prop} {F : Fx} {e : Expr} {p pos : Pos}
theorem call_lenD : CallR X (.builtin "len") (fun xs H Q => ∃ (a : Addr) (o : Obj) (kvs : List (Key × V)), xs = [.ref a] ∧ H a = some (.frz o (.dK kvs)) ∧ Q (.int kvs.length) H) := by
  rintro pins s σ H xs us Q I r ⟨a, o, kvs, rfl, ha, q⟩
  obtain ⟨u, rfl, ru⟩ := r.one
  cases (show u = Value.ref a from ru)
  exact d_len I (.inr ⟨o, ha⟩) fun t s' I' => ⟨.int kvs.length, H, I', ⟨t, rfl⟩, q⟩
/-- len of a dict -/
theorem we_lenDc (T : Bn X.mg) (h : WE X e ρ μ fun d μ1 => ∃ ks ds, d = .dct ks ds ∧ Φ (.int (ks.length : Nat)) μ1) (hg : Gl X "len" := by rfl) (he : starEach [e] X.env = (false, eval e X.env) :: starEach [] X.env := by rfl) :
    WE X (.Call (.Name "len" p) [e] [] pos) ρ μ Φ :=
  we_B call_lenD hg T.len bv_len (by decide) (by decide) (wa_one h he)
    (fun ds vs G H μ1 Q m r ⟨d, ed, ks, xs, ex, k⟩ q => by
      subst ed ex
      obtain ⟨v, e, r1⟩ := r.oneV
      subst e
      cases r1 with
      | @dct a o kvs _ _ _ hl ek ev rs =>
        refine ⟨a, o, kvs, rfl, m.same _ _ hl, ?_⟩
        have : kvs.length = ks.length := by rw [← ek, List.length_map]
        rw [this]
        exact q _ _ G H μ1 (Same.refl G) m (.int _) k) he rfl
/-- what a name holds is not written any more -/
theorem wb_frzN {st : List Stmt} (i : Nat) {a : Addr} {ds : List D} {μ' : Mu} (hρ : ρ[i]? = some (some (.ref a))) (pk : Pick μ a (.lst ds) μ') (k : WB X st (ρ.set i (some (.lst ds))) μ' F) : WB X st ρ μ F := ⟨fun σ G H E m r q => by
  obtain ⟨v, hv, rv⟩ := r.at_ i _ hρ
  cases rv
  have hj : ((a, M.lst ds) :: μ')[0]? = some (a, M.lst ds) := rfl
  obtain ⟨G2, s2, m2, r2⟩ := (m.perm pk.perm).frzL hj
  have r' := (r.same s2).set i r2
  have e : σ.set i (some (.ref a)) = σ := by
    refine List.ext_getElem? fun j => ?_
    by_cases hij : i = j
    · subst hij
      rw [List.getElem?_set_self (List.getElem?_eq_some_iff.mp hv).1, hv]
    · rw [List.getElem?_set_ne hij]
  rw [e] at r'
  exact k.run σ G2 H E m2 r' (q.same s2)⟩
/-- .. at an expression -/
theorem we_frzNm {e : Expr} (i : Nat) {a : Addr} {ds : List D} {μ' : Mu} (hρ : ρ[i]? = some (some (.ref a))) (pk : Pick μ a (.lst ds) μ') (k : WE X e (ρ.set i (some (.lst ds))) μ' Φ) : WE X e ρ μ Φ := ⟨fun σ G H Q m r q => by
  obtain ⟨v, hv, rv⟩ := r.at_ i _ hρ
  cases rv
  have hj : ((a, M.lst ds) :: μ')[0]? = some (a, M.lst ds) := rfl
  obtain ⟨G2, s2, m2, r2⟩ := (m.perm pk.perm).frzL hj
  have r' := (r.same s2).set i r2
  have e : σ.set i (some (.ref a)) = σ := by
    refine List.ext_getElem? fun j => ?_
    by_cases hij : i = j
    · subst hij
      rw [List.getElem?_set_self (List.getElem?_eq_some_iff.mp hv).1, hv]
    · rw [List.getElem?_set_ne hij]
  rw [e] at r'
  exact k.run σ G2 H Q m2 r' (q.same s2)⟩
end
end DL
namespace DL
open PySem PySem.Spec PyProof.Rows L2
/-! ### tuples with instances within -/
section
variable {X : Cx} {pins : List (Addr × Obj)} {σ : L2.St} {G : Hp} {C : Addr} {S : Spec} {n : Nat} {μ : Mu} {x y : V}
/-- == inside a container gives True, and keeps what is known; .. the rich comparison -/
def EqB (X : Cx) (n : Nat) (pins : List (Addr × Obj)) (σ : L2.St) (G : Hp) (μ : Mu) (x y : V) : Prop := ∀ (A : Around) (s : Shared) (u v : Value), Room n A → A.frames = X.A.frames → Kp X pins σ G μ s → RelV x u → RelV y v →
  wpAny (model X.prog X.w) A (eqBool u v) (fun r s' => r = true ∧ Kp X pins σ G μ s') X.xe s
def RcB (X : Cx) (n : Nat) (pins : List (Addr × Obj)) (σ : L2.St) (G : Hp) (μ : Mu) (x y : V) : Prop := ∀ (A : Around) (s : Shared) (u v : Value), Room n A → A.frames = X.A.frames → Kp X pins σ G μ s → RelV x u → RelV y v →
  wpAny (model X.prog X.w) A (richCompare .Eq u v) (fun r s' => r = .bool true ∧ Kp X pins σ G μ s') X.xe s
theorem eqB_flat {x : V} (hf : flatB x = true) : EqB X n pins σ G μ x x := fun A s u v _ _ k rx ry => (eqAt_same rx ry hf).eqP _ _ ⟨rfl, k⟩
theorem RcB.eqB {a b : Addr} (h : RcB X n pins σ G μ (.ref a) (.ref b)) : EqB X n pins σ G μ (.ref a) (.ref b) := fun A s u v hr hf k rx ry => by
  cases (show u = Value.ref a from rx)
  cases (show v = Value.ref b from ry)
  by_cases e : a = b
  · subst e
    exact SeqAt.EqAt.same (A := A) (s := s) (.ref a) X.prog X.w X.xe _ ⟨rfl, k⟩
  · refine GQ.eqBool_refG e (wpAny_mono (h A s _ _ hr hf k rfl rfl) (fun v s' ⟨ev, k⟩ => ?_) fun _ _ z => z)
    exact ⟨true, ev, rfl, k⟩
theorem RcB.ins {a b : Addr} {ds : List D} (M : Omx X n C "__eq__" S) (r1 : Rep X.K G (.ref a) (.ins C ds)) (r2 : Rep X.K G (.ref b) (.ins C ds)) (hS : ∀ Φ : D → Mu → Prop, Φ (.bl true) μ → S [.ins C ds, .ins C ds] μ Φ noX) : RcB X n pins σ G μ (.ref a) (.ref b) := fun A s u v hr hf ⟨G1, H1, s1, m1, I1⟩ rx ry => by
  obtain ⟨g, h1, h2, _, _, Fr⟩ := M.ex
  cases (show u = Value.ref a from rx)
  cases (show v = Value.ref b from ry)
  refine wpAny_mono (rc_in Fr h1 h2 hr hf I1 m1 (r1.same s1) (r2.same s1) hS) (fun r s2 ⟨er, G2, H2, s3, m2, I2⟩ => ?_) fun _ _ z => z
  exact ⟨er, G2, H2, s1.trans s3, m2, I2⟩
theorem RcB.tup {a b : Addr} {xs ys : List V} (ha : SqT X.K G a xs) (hb : SqT X.K G b ys) (hl : xs.length = ys.length) (h : ∀ (i : Nat) (x y : V), xs[i]? = some x → ys[i]? = some y → EqB X n pins σ G μ x y) : RcB X (n + 1) pins σ G μ (.ref a) (.ref b) := fun A s u v hr hf kp rx ry => by
  cases (show u = Value.ref a from rx)
  cases (show v = Value.ref b from ry)
  obtain ⟨G1, H1, s1, m1, I1⟩ := id kp
  obtain ⟨its, r, e, z⟩ := I1.tuple (sqt_same (s1.trans m1.same) ha)
  obtain ⟨its2, r2, e2, z2⟩ := I1.tuple (sqt_same (s1.trans m1.same) hb)
  have hsz : its.toArray.size = its2.toArray.size := by rw [List.size_toArray, List.size_toArray, ← r.length, ← r2.length]; exact hl
  refine GQ.rc_tupG hsz hr.units0 (fun _ s' => Kp X pins σ G μ s') e e2 (fun i j1 j2 s' k => ?_) (fun s' k => ⟨rfl, k⟩) kp
  have q1 : i < xs.length := by rw [r.length]; simpa using j1
  have q2 : i < ys.length := by rw [r2.length]; simpa using j2
  obtain ⟨u1, hu1, ru1⟩ := r.get (List.getElem?_eq_getElem q1)
  obtain ⟨u2, hu2, ru2⟩ := r2.get (List.getElem?_eq_getElem q2)
  have g1 : its.toArray[i] = u1 := by
    have := (List.getElem?_eq_some_iff.mp hu1).2
    simpa using this
  have g2 : its2.toArray[i] = u2 := by
    have := (List.getElem?_eq_some_iff.mp hu2).2
    simpa using this
  rw [g1, g2]
  exact h i _ _ (List.getElem?_eq_getElem q1) (List.getElem?_eq_getElem q2) A.in1 s' u1 u2 hr.in1 hf k ru1 ru2
/-- x == y, seen so -/
def rEqK (X : Cx) (n : Nat) : R2 := fun x y H Q => ∃ (G : Hp) (μ : Mu), SM X.K G H μ ∧ (∀ pins σ, RcB X n pins σ G μ x y) ∧ ∀ G' H', Same G G' → SM X.K G' H' μ → Q (.bl true) H'
theorem op_eqK (hr : Room n X.A) : OpR X (compareOp .Eq) (rEqK X n) := by
  rintro pins s σ H x y v u Q I rx ry ⟨G, μ, m, h, q⟩
  refine wpAny_mono (h pins σ X.A s v u hr rfl ⟨G, H, Same.refl _, m, I⟩ rx ry) (fun v s' ⟨ev, G', H', s1, m1, I1⟩ => ?_) fun _ _ z => z
  subst ev
  exact ⟨.bl true, H', I1, rfl, q G' H' s1 m1⟩
end
end DL
namespace DL
open PySem PySem.Spec PyProof.Rows L2
/-! ### exceptions, over data -/
/-- the context takes an exception of this class, the names and places so -/
structure TKs (X : Cx) (G : Hp) (Ψ : Value → Rho → Mu → Prop) : Prop where
  ex : ∃ W : WX, L2N.Takes X W ∧ ∀ (cls : Value) (σ : L2.St) (G' H : Hp) (ρ : Rho) (μ : Mu), Same G G' → SM X.K G' H μ → RS X.K G' σ ρ → Ψ cls ρ μ → W cls none σ H
theorem TKs.same {X : Cx} {G G' : Hp} {Ψ : Value → Rho → Mu → Prop} (t : TKs X G Ψ) (s : Same G G') : TKs X G' Ψ := by
  obtain ⟨W, h1, h2⟩ := t.ex
  exact ⟨W, h1, fun cls σ G2 H ρ μ s2 => h2 cls σ G2 H ρ μ (s.trans s2)⟩
theorem TKs.imp {X : Cx} {G : Hp} {Ψ Ψ' : Value → Rho → Mu → Prop} (t : TKs X G Ψ) (h : ∀ c ρ μ, Ψ' c ρ μ → Ψ c ρ μ) : TKs X G Ψ' := by
  obtain ⟨W, h1, h2⟩ := t.ex
  exact ⟨W, h1, fun cls σ G2 H ρ μ s2 m r k => h2 cls σ G2 H ρ μ s2 m r (h _ _ _ k)⟩
/-- judgements over what grew out of G0 -/
structure WEg (X : Cx) (G0 : Hp) (e : Expr) (ρ : Rho) (μ : Mu) (Φ : D → Mu → Prop) : Prop where
  run : ∀ (σ : L2.St) (G H : Hp) (Q : VK), Same G0 G → SM X.K G H μ → RS X.K G σ ρ → DK X.K G Φ Q → tW X e σ H Q
structure WSg (X : Cx) (G0 : Hp) (st : Stmt) (ρ : Rho) (μ : Mu) (F : Fx) : Prop where
  run : ∀ (σ : L2.St) (G H : Hp) (E : Ends), Same G0 G → SM X.K G H μ → RS X.K G σ ρ → EK X.K G F E → tWS X st E σ H
structure WBg (X : Cx) (G0 : Hp) (st : List Stmt) (ρ : Rho) (μ : Mu) (F : Fx) : Prop where
  run : ∀ (σ : L2.St) (G H : Hp) (E : Ends), Same G0 G → SM X.K G H μ → RS X.K G σ ρ → EK X.K G F E → tWB X st E σ H
section
variable {X : Cx} {G0 : Hp} {ρ : Rho} {μ : Mu} {Φ : D → Mu → Prop} {F : Fx} {Ψ : Value → Rho → Mu → Prop} {e o : Expr} {es : List Expr} {p p2 pos apos : Pos}
theorem weg_of (h : WE X e ρ μ Φ) : WEg X G0 e ρ μ Φ := ⟨fun σ G H Q _ => h.run σ G H Q⟩
theorem wsg_of {st : Stmt} (h : WS X st ρ μ F) : WSg X G0 st ρ μ F := ⟨fun σ G H E _ => h.run σ G H E⟩
theorem wbg_of {st : List Stmt} (h : WB X st ρ μ F) : WBg X G0 st ρ μ F := ⟨fun σ G H E _ => h.run σ G H E⟩
theorem wbg_nil (k : F.nx ρ μ) : WBg X G0 [] ρ μ F := wbg_of (wb_nil k)
theorem wbg_cons {st : Stmt} {rest : List Stmt} (k : WSg X G0 st ρ μ ⟨fun ρ1 μ1 => WBg X G0 rest ρ1 μ1 F, F.rt⟩) : WBg X G0 (st :: rest) ρ μ F := ⟨fun σ G H E s0 m r q =>
  toWB (pss_cons ps_W pss_W) (k.run σ G H { E with nx := fun σ1 H1 => tWB X rest E σ1 H1 } s0 m r ⟨fun σ1 ρ1 G1 H1 μ1 s1 m1 r1 k1 => k1.run σ1 G1 H1 E (s0.trans s1) m1 r1 (q.same s1), q.rt⟩)⟩
theorem wbg_one {st : Stmt} (k : WSg X G0 st ρ μ F) : WBg X G0 [st] ρ μ F := ⟨fun σ G H E s0 m r q => toWB (pss_one ps_W) (k.run σ G H E s0 m r q)⟩
theorem wsg_if {c : Expr} {a b : List Stmt} (k : WT X c ρ μ fun t μ1 => It t (WBg X G0 a ρ μ1 F) (WBg X G0 b ρ μ1 F)) : WSg X G0 (.If c a b pos) ρ μ F := ⟨fun σ G H E s0 m r q =>
  toWS (ps_if pt_W pss_W pss_W) (k.run σ G H _ m r fun t G1 H1 μ1 s1 m1 k1 => by
    cases t with
    | true => exact k1.tt.run σ G1 H1 E (s0.trans s1) m1 (r.same s1) (q.same s1)
    | false => exact k1.ff.run σ G1 H1 E (s0.trans s1) m1 (r.same s1) (q.same s1))⟩
theorem wsg_ret {N : Rho → Mu → Prop} {R : D → Mu → Prop} (k : WEg X G0 e ρ μ R) : WSg X G0 (.Return (some e) pos) ρ μ ⟨N, R⟩ := ⟨fun σ G H E s0 m r q => toWS (ps_ret pe_W) (k.run σ G H _ s0 m r q.rt)⟩
theorem wsg_set {N : Rho → Mu → Prop} {R : D → Mu → Prop} (i : Nat) {x : Str} {pos' : Pos} (hN : X.N.Nodup) (k : WEg X G0 e ρ μ fun d μ1 => N (ρ.set i (some d)) μ1) (hi : X.N[i]? = some x := by rfl) (hx : Loc X.env.scope x := by first | exact Or.inl rfl | exact Or.inr rfl) (hs : swapsWith e (some (.Name x pos')) pos.line X.env = pure false := by rfl)
    (hf : X.fn x = true ∨ X.env.scope.names.lookup x = some .local := by first | exact .inl rfl | exact .inr rfl) : WSg X G0 (.Assign [.Name x pos'] e pos) ρ μ ⟨N, R⟩ := ⟨fun σ G H E s0 m r q =>
  toWS (ps_set hN hi hx pe_W hs hf) (k.run σ G H _ s0 m r fun d v G1 H1 μ1 s1 m1 rd k1 => q.nx _ _ G1 H1 μ1 s1 m1 ((r.same s1).set i rd) k1)⟩
/-- an own exception class -/
structure Exn (K : PySem.W.Frag) (mg : Str → Option Value) (x : Str) (C : Addr) : Prop where
  ex : ∃ (B newId initId : String) (bm : List Value), ExcBaseFacts B newId initId bm ∧ PySem.W.excIn K C bm newId = true
  g : mg x = some (.ref C)
  kp : PySem.W.keepIn K (.ref C) = true
  sb : PySem.W.subIn K (.ref C) (.type "BaseException") = some true
  ty : PySem.W.typeIn K (.ref C) = some (.type "type")
  self : PySem.W.exmOne K (.ref C) (.ref C) = some true
/-- raise X('..') -/
theorem wsg_raise {x m : Str} {j : Nat} {C : Addr} {pos2 : Pos} (tk : TKs X G0 Ψ) (hc : X.calm = true) (E : Exn X.K X.mg x C) (k : Ψ (.ref C) ρ μ) (hg : Gl X x := by rfl) (hdb : (x == ("__debug__" : Str)) = false := by decide) : WSg X G0 (.Raise (some (.Call (.Name x p) [.Constant (.str m) j p2] [] pos)) none pos2) ρ μ F := ⟨fun σ G H En s0 mm r q => by
  obtain ⟨W, h1, h2⟩ := tk.ex
  obtain ⟨B, newId, initId, bm, f1, f2⟩ := E.ex
  exact toWS (L2N.ps_raise hc h1 (L2N.pmk_own f1 f2 E.g E.kp (raises_own E.sb E.ty) hg hdb)) (h2 (.ref C) σ G H ρ μ s0 mm r k)⟩
/-! ### calls that may raise -/
abbrev Omn (X : Cx) (k : Nat) (C : Addr) (m : Str) (S : Spec) : Prop := Om (L2N.CX X.prog X.w) X.prog X.w X.K X.mg X.base k C m S
theorem run_fnE {k : Nat} {f : Addr} {sp : Sp} {W : WX} {A : Around} {pins : List (Addr × Obj)} {σ : L2.St} {H : Hp} {s : Shared} {Q : VK} {us : List Value} {vs : List V} (F : FnR X.prog X.w X.K X.mg X.base (L2N.CX X.prog X.w) k f sp) (hr : Room k A) (e0 : Env0 X.prog X.w X.K X.mg X.base A X.stack s H) (tk : L2N.Takes X W) (I : Inv X pins σ H s) (r : Vals vs us) (h : sp vs H Q fun cls d H' => W cls d σ H') :
    codeAny (model X.prog X.w) A (.call (.ref f) ⟨us, []⟩) (fun r s' => match r with | .ok (.ret v) => EP X pins σ Q v s' | .ok _ => False | .error e => X.xe e s') s := by
  refine codeAny_mono (F A X.stack s H us vs Q _ hr e0 r h) fun r s' hq => ?_
  cases r with
  | error e => exact tk e s' (L2N.XE.of_call I (fun _ _ _ z => z) hq)
  | ok fl =>
    cases fl with
    | ret u => exact I.after hq
    | next => exact False.elim hq
    | brk => exact False.elim hq
    | cont => exact False.elim hq
theorem spD_ex {S : Spec} {G H : Hp} {ds : List D} {vs : List V} {Q : VK} {W : WX} {σ : L2.St} (tk : ∀ (cls : Value) (σ : L2.St) (G' H : Hp) (ρ : Rho) (μ : Mu), Same G0 G' → SM X.K G' H μ → RS X.K G' σ ρ → Ψ cls ρ μ → W cls none σ H) (s0 : Same G0 G) (rs : RS X.K G σ ρ) (m : SM X.K G H μ) (r : Reps X.K G vs ds) (h : S ds μ Φ fun c μ2 => Ψ c ρ μ2) (q : DK X.K G Φ Q) : spD X.K S vs H Q fun cls d H' => W cls d σ H' :=
  ⟨G, μ, ds, Φ, _, m, r, h, q, fun c G' H' μ' s1 m1 z => tk c σ G' H' ρ μ' (s0.trans s1) m1 (rs.same s1) z⟩
/-- o.m() -/
theorem weg_meth0 {k : Nat} {C : Addr} {m : Str} {S : Spec} {pl : Sem Bool} (tk : TKs X G0 Ψ) (M : Omn X k C m S) (kl : Kl X.K C) (hr : Room k X.A) (h : WE X o ρ μ fun x μ1 => Recv μ1 x C ∧ S [x] μ1 Φ fun c μ2 => Ψ c ρ μ2)
    (ht : eval (.Call (.Attribute o m apos) [] [] pos) X.env = (do
      let ov ← eval o X.env
      standAt apos.atName
      let (f, first) ← holding [ov] (getMethod ov m pl)
      callWith pos f first (backTo pos (starEach [] X.env)) (backToKw pos (keywordEach [] X.env))) := by rfl) :
    WEg X G0 (.Call (.Attribute o m apos) [] [] pos) ρ μ Φ := ⟨fun σ G H Q s0 mm r q => by
  obtain ⟨g, h1, h2, h3, h4, Fr⟩ := M.ex
  obtain ⟨W, t1, t2⟩ := tk.ex
  intro pins s I
  have hh := h.run σ G H (fun x H1 => ∃ (a dx : Addr) (vs : List (Option V)) (G1 : Hp) (μ1 : Mu) (d : D), x = .ref a ∧ SlX.Slt H1 a C dx vs ∧ Same G G1 ∧ SM X.K G1 H1 μ1 ∧ Rep X.K G1 x d ∧ S [d] μ1 Φ fun c μ2 => Ψ c ρ μ2) mm r fun x v G1 H1 μ1 s1 m1 rx ⟨hv, k1⟩ => by
    obtain ⟨a, dx, vs, rfl, hs⟩ := recv_slt m1 rx hv
    exact ⟨a, dx, vs, G1, μ1, x, rfl, hs, s1, m1, rx, k1⟩
  refine PySem.W.methodCall_KW (pl := pl) (thn (hh pins s I) fun u s1 ⟨x, H1, I1, rx, a, dx, vs, G1, μ1, d, ex, hsl, sG, m1, rd, k1⟩ => ?_) ht
  subst ex
  obtain rfl : u = Value.ref a := rx
  refine SlX.getmethsl_ok I1 hsl kl.c ⟨h1, h2, h4⟩ ?_
  exact PySem.W.callWith_K0 (first := [.ref a]) I1.kIn h4 (wpAny_call (run_fnE (us := [.ref a]) (vs := [.ref a]) Fr hr I1.env0 t1 I1 (.cons rfl .nil) (spD_ex t2 (s0.trans sG) (r.same sG) m1 (.cons rd .nil) k1 (q.same sG))))⟩
/-- o[i] -/
theorem weg_ixO {k : Nat} {C : Addr} {S : Spec} {a b : Expr} (tk : TKs X G0 Ψ) (M : Omn X k C "__getitem__" S) (hr : Room (k + 1) X.A) (h : WE X a ρ μ fun x μ1 => WE X b ρ μ1 fun y μ2 => Recv μ2 x C ∧ S [x, y] μ2 Φ fun c μ3 => Ψ c ρ μ3)
    (hsl : ∀ x i, subscripted b true (.ref x) i = runValue (.builtin "lifetime.subscript" ⟨[.ref x, i], []⟩) := by intro _ _; with_unfolding_all rfl) : WEg X G0 (.Subscript a b pos) ρ μ Φ := ⟨fun σ G H Q s0 m r q => by
  obtain ⟨g, h1, h2, h3, _, Fr⟩ := M.ex
  obtain ⟨W, t1, t2⟩ := tk.ex
  refine toW (t := tOp (fun x y H Q => ∃ a dx vs, x = .ref a ∧ SlX.Slt H a C dx vs ∧ spD X.K S [x, y] H Q fun cls d H' => W cls d σ H') (fun σ' H Q => σ' = σ ∧ tW X a σ' H Q) (fun σ' H Q => σ' = σ ∧ tW X b σ' H Q)) ⟨fun pins s σ' H Q I h => ?_⟩ ?_
  · obtain ⟨rfl, h⟩ := h
    refine Subscript_ (binT (ta := tW X a) (tb := fun σ'' H Q => σ'' = σ' ∧ tW X b σ'' H Q) pe_W ⟨fun pins s σ H Q I h => h.2 pins s I⟩ I h fun v u s2 x y H2 I2 rx ry ⟨a, dx, vs, ex, hsl', q2⟩ => ?_)
    subst ex
    cases (show v = Value.ref a from rx)
    obtain ⟨sl, od, _, J, _⟩ := SlX.slt_inst I2 hsl'
    obtain ⟨mF, hF⟩ := I2.fr
    refine PySem.W.sub_K hF I2.ok.mod.kin J h1 h3 h2 ?_ (hsl a u)
    exact wpAny_call (run_fnE (us := [.ref a, u]) (vs := [.ref a, y]) Fr hr.in1 I2.env0.in1 t1 I2 (.cons rfl (.cons ry .nil)) q2)
  · refine ⟨rfl, h.run σ G H _ m r fun x vx G1 H1 μ1 s1 m1 rx k1 => ⟨rfl, k1.run σ G1 H1 _ m1 (r.same s1) fun y vy G2 H2 μ2 s2 m2 ry ⟨hv, k2⟩ => ?_⟩⟩
    obtain ⟨a, dx, vs, rfl, hs⟩ := recv_slt m2 (rx.same s2) hv
    exact ⟨a, dx, vs, rfl, hs, spD_ex t2 (s0.trans (s1.trans s2)) (r.same (s1.trans s2)) m2 (.cons (rx.same s2) (.cons ry .nil)) k2 (q.same (s1.trans s2))⟩⟩
/-- a global def that may raise -/
structure Caln (P : Program) (w : World) (K : PySem.W.Frag) (mg : Str → Option Value) (base : Heap) (k : Nat) (x : Str) (S : Spec) : Prop where
  ex : ∃ f : Addr, mg x = some (.ref f) ∧ PySem.W.keepIn K (.ref f) = true ∧ FnR P w K mg base (L2N.CX P w) k f (spD K S)
theorem weg_call {k : Nat} {x : Str} {S : Spec} (tk : TKs X G0 Ψ) (C : Caln X.prog X.w X.K X.mg X.base k x S) (hr : Room k X.A) (h : WA X (e :: es) ρ μ fun ds μ1 => S ds μ1 Φ fun c μ2 => Ψ c ρ μ2) (hg : Gl X x := by rfl) (hdb : (x == ("__debug__" : Str)) = false := by decide) (he : starEach (e :: es) X.env = (false, eval e X.env) :: starEach es X.env := by rfl) (hpl : (backTo pos (starEach es X.env)).any (·.1) = false := by rfl) :
    WEg X G0 (.Call (.Name x p) (e :: es) [] pos) ρ μ Φ := ⟨fun σ G H Q s0 m r q => by
  obtain ⟨f, hm, hk, Fr⟩ := C.ex
  obtain ⟨W, t1, t2⟩ := tk.ex
  intro pins s I
  have hh := h.run σ G H (fun vs H1 => spD X.K S vs H1 Q fun cls d H' => W cls d σ H') m r fun ds vs G1 H1 μ1 s1 m1 rds k1 => spD_ex t2 (s0.trans s1) (r.same s1) m1 rds k1 (q.same s1)
  refine wpAny_Call_Name_kw (ld_glob I hg hm ?_ hdb)
  refine PySem.W.callWith_K (h₀ := X.base) I.ok.mod.kin hk (thn (hh pos pins s I) fun us s1 ⟨vs, H1, I1, rr, q1⟩ => ⟨I1.kIn, ?_⟩) he hpl
  exact wpAny_call (run_fnE Fr hr I1.env0 t1 I1 rr q1)⟩
/-! ### try -/
/-- try: body / except x: suite, where only x is raised -/
theorem wsg_try {x : Str} {C : Addr} {body suite : List Stmt} {b₀ : Stmt} {np pos' : Pos} {Ψi : Value → Rho → Mu → Prop} (hs : X.stack = X.env :: X.outer) (hf : X.env.frame = some X.env.locals) (E : Exn X.K X.mg x C) (tk : TKs X G0 Ψ)
    (hb : ∀ (pn : List (Addr × Obj)) (xe : Value → Shared → Prop) (G1 : Hp), TKs (X.tr pn xe) G1 Ψi → PassesOwn (model X.prog X.w) X.A X.env xe → WBg (X.tr pn xe) G1 body ρ μ F)
    (hc : ∀ cls ρ μ, Ψi cls ρ μ → cls = .ref C ∧ ∀ (a : Addr) (oe : Obj) (pn : List (Addr × Obj)), WB (X.suite a ((a, oe) :: pn)) (b₀ :: suite) ρ μ F)
    (hg : Gl X x := by rfl) (hdb : (x == ("__debug__" : Str)) = false := by decide) : WSg X G0 (.Try body [.ExceptHandler (some (.Name x np)) none (b₀ :: suite) pos'] [] [] pos) ρ μ F := ⟨fun σ G H En s0 m r q => by
  obtain ⟨Wout, t1, t2⟩ := tk.ex
  have hd : L2N.HdsOk X [.ExceptHandler (some (.Name x np)) none (b₀ :: suite) pos'] [(.ref C, fun a cls d D σ H => ∀ (oe : Obj) (pn : List (Addr × Obj)), tWB (X.suite a ((a, oe) :: pn)) (b₀ :: suite) D σ H)] :=
    .cons ⟨hg, hdb, .inl E.g⟩ (fun a oe cls d pn _ _ => ⟨fun pins s σ H D I h => h oe pn pins s I⟩) .nil
  refine toWS (L2N.ps_try_many (tb := fun W D σ H => ∀ (pn : List (Addr × Obj)) (xe : Value → Shared → Prop), L2N.Takes (X.tr pn xe) W → PassesOwn (model X.prog X.w) X.A X.env xe → tWB (X.tr pn xe) body D σ H) hs hf t1 (fun W pn xe tkW hp => ⟨fun pins s σ H D I h => h pn xe tkW hp pins s I⟩) hd) ?_
  intro pn xe tkW hp
  refine (hb pn xe G ⟨_, tkW, fun cls σ' G' H' ρ' μ' s1 m1 r1 z => ?_⟩ hp).run σ G H En (Same.refl G) m r q
  obtain ⟨rfl, hsu⟩ := hc cls ρ' μ' z
  exact ⟨true, E.self, fun _ a _ oe pn => (hsu a oe pn).run σ' G' H' En m1 r1 (q.same s1), fun z => Bool.noConfusion z⟩⟩
end
/-- a def by its body, that may raise -/
theorem fn_DX {P : Program} {w : World} {K : PySem.W.Frag} {mg : Str → Option Value} {base : Heap} {x qual : Str} {params : Arguments} {body : List Stmt} {scope : Scope} {f : Addr} {fd : FuncData} {N ps : List Str} {k : Nat} {S : Spec} (F : FunD K x qual params body scope [] [] f fd) (Sc : FnScope N ps scope)
    (hb : ∀ (kV doc pm : Value) (an : Option Addr) (cdv ct : Value) (us : List Value), us.length = ps.length → bindArgs (PySem.W.fnOf x qual params body scope .none kV doc pm an cdv ct) ⟨us, []⟩ = pure (ps.zip us))
    (hlen : ∀ ds μ Φ Ψ, S ds μ Φ Ψ → ds.length = ps.length)
    (hbody : ∀ (cdv : Value) (A : Around) (outer : List Env) (s : Shared) (H : Hp) (E : XK), Room k (A.deeper (envOfC qual scope s.heap.objs.size f cdv)) → ∀ (G0 : Hp) (ds : List D) (μ : Mu) (Φ : D → Mu → Prop) (Ψ : Value → Mu → Prop), S ds μ Φ Ψ →
      TKs (cxOf (L2N.CX P w) P w K mg base N qual scope f cdv A outer s H E) G0 (fun c _ μ' => Ψ c μ') →
      WBg (cxOf (L2N.CX P w) P w K mg base N qual scope f cdv A outer s H E) G0 body (rho0 N ds) μ ⟨fun _ μ' => Φ .non μ', Φ⟩) : FnR P w K mg base (L2N.CX P w) (k + 1) f (spD K S) := by
  have b := FunD.bindsN (ps := ps) F hb
  have ok : FnOk P w K mg base (L2N.CX P w) (k + 1) f fd ps (spD K S) := by
    refine F.ok Sc (fun vs H Q E h => ?_) (fun cdv A outer s H vs Q E hr h => ?_)
    · obtain ⟨G, μ, ds, Φ, Ψ, m, r, hs, _⟩ := h
      rw [r.length]
      exact hlen _ _ _ _ hs
    · obtain ⟨G, μ, ds, Φ, Ψ, m, r, hs, q, qe⟩ := h
      have tk : TKs (cxOf (L2N.CX P w) P w K mg base N qual scope f cdv A outer s H E) G (fun c _ μ' => Ψ c μ') := ⟨_, L2N.takes_of rfl rfl rfl rfl, fun cls σ G' H' ρ μ' s1 m1 _ z => qe cls G' H' μ' s1 m1 z⟩
      exact ⟨_, pss_W, (hbody cdv A outer s H E hr G ds μ Φ Ψ hs tk).run _ G H _ (Same.refl G) m (rs_start r) ⟨fun σ' ρ' G' H' μ' s1 m1 _ k1 => q .non .non G' H' μ' s1 m1 .non k1, q⟩⟩
  exact FnR.imp (ok.raw b .nil) fun vs H Q E h => by rw [List.append_nil]; exact h
end DL
namespace PySem.W
open PySem PySem.Calls PyProof.Rows
section
variable {prog : Program} {w : World} {A : Around} {E : Value → Shared → Prop} {s : Shared} {env : Env} {K : Frag} {x C fe fx : Addr} {ox : Obj} {od : Option Obj} {pos : Pos}
/-- what stands ready for the error's way out of the block -/
def OutX (prog : Program) (w : World) (A : Around) (E : Value → Shared → Prop) (env : Env) (x fx : Addr) (Q : Flow → Shared → Prop) (e : Value) (s6 : Shared) : Prop :=
  ∃ (a T : Addr) (oe oT : Obj) (vs ts : Array Value) (t1 : Value), e = .ref a ∧ s6.heap.get? a = some oe ∧ oe.data = .fields vs ∧ vs[1]? = some (.ref T) ∧ s6.heap.get? T = some oT ∧ oT.data = .fields ts ∧ ts[1]? = some t1 ∧
    ∀ tb : Value, tb = .none ∨ tb = .ref T → codeAny (model prog w) (A.mark (some (.ref a))) (.call (.ref fx) ⟨[.ref x, oe.cls, .ref a, tb], []⟩) (fun r s7 => match r with | .ok fl => fl = .ret .none ∧ wpAny (model prog w) A (passOn "with" (.ref a) env : Sem Flow) Q E s7 | .error _ => False) s6
theorem dl_withX {b : Value → Sem Unit} {bdy : Sem Flow} {Q : Flow → Shared → Prop} {PX : Value → Shared → Prop} (X : K.In s.heap) (I : InstAt s.heap x ox C od) (he : findIn K (.ref C) "__enter__" = some (some (.ref fe))) (hfe : isFn K (.ref fe) = true) (hx : findIn K (.ref C) "__exit__" = some (some (.ref fx))) (hfx : isFn K (.ref fx) = true)
    (h : wpAny (model prog w) A (call (.ref fe) [.ref x]) (fun v s₂ => wpAny (model prog w) A (b v) (fun _ s₃ => wpAny (model prog w) A bdy (fun f s₄ => wpAny (model prog w) A (call (.ref fx) [.ref x, .none, .none, .none]) (fun _ s₅ => Q f s₅) E s₄) PX s₃) (fun _ _ => False) s₂) E s)
    (herr : ∀ e s4, PX e s4 → wpAny (model prog w) A (noteFrame e env) (fun _ s5 => wpAny (model prog w) A (setFlight e none) (OutX prog w A E env x fx Q e |> fun P _ s6 => P s6) E s5) E s4) :
    wpAny (model prog w) A (withItem false pos env (pure (.ref x)) (some b) bdy) Q E s := by
  obtain ⟨cd, hcd, ae⟩ := kw_along he
  obtain ⟨cd', hcd', ax⟩ := kw_along hx
  cases hcd.symm.trans hcd'
  obtain ⟨hh, g, d, tt, os⟩ := s
  have L1 : Looks (model prog w) hh (specialOnItsLine (.ref x) "__enter__") (some (.ref fe), cd.mro) := kw_special X I hcd ae
  have L2 : Looks (model prog w) hh (specialOnItsLine (.ref x) "__exit__") (some (.ref fx), cd.mro) := kw_special X I hcd ax
  have L3 : Looks (model prog w) hh (bindSpecial (.ref fe) (.ref x)) (.ref fe, [.ref x]) := bind_fn X _ (beq_iff_eq.mp hfe)
  have L4 : Looks (model prog w) hh (bindSpecial (.ref fx) (.ref x)) (.ref fx, [.ref x]) := bind_fn X _ (beq_iff_eq.mp hfx)
  have L5 : Looks (model prog w) hh (aMethodOfAnotherBuiltinTypeStops (.ref fe) cd.mro) () := Looks.of_pure rfl
  have L6 : Looks (model prog w) hh (aMethodOfAnotherBuiltinTypeStops (.ref fx) cd.mro) () := Looks.of_pure rfl
  unfold withItem
  refine wpAny_bind (wpAny_pure (wpAny_bind (wpAny_standAt ?_)))
  simp only [Bool.false_eq_true, if_false]
  kw_lk
  refine wpAny_mono h (fun v s₂ h₂ => ?_) fun _ _ z => z
  kw_lk
  refine wpAny_attempt (kw_held ?_)
  show wpAny _ _ (b v >>= fun _ => bdy) _ _ _
  refine wpAny_bind (wpAny_mono h₂ (fun _ s₃ h₃ => wpAny_mono h₃ (fun f s₄ h₄ => ?_) fun e s4 he => ?_) fun _ _ z => z.elim)
  · kw_lk
    refine wpAny_mono h₄ (fun _ s₅ h₅ => ?_) fun _ _ z => z
    kw_lk
    exact h₅
  · refine wpAny_bind (wpAny_mono (herr e s4 he) (fun _ s5 h5 => ?_) fun _ _ z => z)
    refine wpAny_bind (wpAny_mono h5 (fun _ s6 h6 => ?_) fun _ _ z => z)
    obtain ⟨a, T, oe, oT, vs, ts, t1, rfl, ha, hd, hv, hT, hdT, ht1, hc⟩ := h6
    refine wpAny_bind (wpAny_standAt (wpAny_holding ?_))
    refine wpAny_bind (wpAny_typeOf_ref ha ?_)
    have tbk : ∀ {Q' : Value → Shared → Prop}, Q' .none s6 → Q' (.ref T) s6 → wpAny (model prog w) A (tracebackOf (.ref a)) Q' E s6 := fun {Q'} q1 q2 => by
      unfold tracebackOf
      refine wpAny_bind (wpAny_field ha hd hv ?_)
      dsimp only
      refine wpAny_bind (wpAny_field hT hdT ht1 ?_)
      split
      · exact wpAny_pure q1
      · exact wpAny_pure q2
    have fin : ∀ tb : Value, tb = .none ∨ tb = .ref T → codeAny (model prog w) (A.mark (some (.ref a))) (.call (.ref fx) ⟨[.ref x, oe.cls, .ref a, tb], []⟩) (fun r s7 => match r with | .ok fl => fl = .ret .none ∧ wpAny (model prog w) A (passOn "with" (.ref a) env : Sem Flow) Q E s7 | .error _ => False) s6 := hc
    refine wpAny_bind (tbk ?_ ?_)
    all_goals
      unfold withItem.marked
      first
      | refine wpAny_bind (wpAny_bind (wpAny_run (codeAny_mono (fin .none (.inl rfl)) (fun r s7 z => ?_))))
      | refine wpAny_bind (wpAny_bind (wpAny_run (codeAny_mono (fin (.ref T) (.inr rfl)) (fun r s7 z => ?_))))
      cases r with
      | error e => exact z.elim
      | ok fl =>
        obtain ⟨rfl, z⟩ := z
        refine wpAny_pure ?_
        refine wpAny_bind (wpAny_pure ?_)
        refine wpAny_bind (wpAny_pure ?_)
        rw [if_neg Bool.false_ne_true]
        exact z
end
end PySem.W
namespace DL
open PySem PySem.Spec PyProof.Rows L2
/-! ### a def called while an exception is handled -/
structure OmH (P : Program) (w : World) (K : PySem.W.Frag) (mg : Str → Option Value) (base : Heap) (k : Nat) (C : Addr) (m : Str) (S : Spec) : Prop where
  ex : ∃ (g : Addr) (fd : FuncData) (ps : List Str), PySem.W.findIn K (.ref C) m = some (some (.ref g)) ∧ PySem.W.isFn K (.ref g) = true ∧ L2H.FnH P w K mg base (L2N.CX P w) k g fd ps (spD K S) ∧ L2.Binds K fd ps [] ∧ FnR P w K mg base CX0 k g (spD K S)
theorem fn_DH {P : Program} {w : World} {K : PySem.W.Frag} {mg : Str → Option Value} {base : Heap} {x qual : Str} {params : Arguments} {body : List Stmt} {scope : Scope} {f : Addr} {fd : FuncData} {N ps : List Str} {k : Nat} {S : Spec} {CX : CXT} (F : FunD K x qual params body scope [] [] f fd) (Sc : FnScope N ps scope)
    (hlen : ∀ ds μ Φ Ψ, S ds μ Φ Ψ → ds.length = ps.length)
    (hbody : ∀ (cdv : Value) (A : Around) (outer : List Env) (s : Shared) (H : Hp) (E : XK) (p : Addr × Obj), ∀ (ds : List D) (μ : Mu) (Φ : D → Mu → Prop) (Ψ : Value → Mu → Prop), S ds μ Φ Ψ →
      WB (L2H.cxH CX P w K mg base N qual scope f cdv A outer s H E p).nox body (rho0 N ds) μ ⟨fun _ μ' => Φ .non μ', Φ⟩) : L2H.FnH P w K mg base CX (k + 1) f fd ps (spD K S) := by
  obtain ⟨oc, od, dV, kV, doc, pm, an, cdv, ct, osl, rfl, lk, hcd, _, _⟩ := F.ex
  refine L2H.fn_ofH lk hcd Sc (fun vs H Q E h => ?_) fun A outer s H vs Q E p _ _ h => ?_
  · obtain ⟨G, μ, ds, Φ, Ψ, m, r, hs, _⟩ := h
    rw [r.length]
    exact hlen _ _ _ _ hs
  · obtain ⟨G, μ, ds, Φ, Ψ, m, r, hs, q, _⟩ := h
    exact ⟨_, PSs.nox pss_W, (hbody cdv A outer s H E p ds μ Φ Ψ hs).run _ G H _ m (rs_start r) ⟨fun σ' ρ' G' H' μ' s1 m1 _ k1 => q .non .non G' H' μ' s1 m1 .non k1, q⟩⟩
section
variable {X : Cx} {pins : List (Addr × Obj)} {σ σ' : L2.St} {H H' H2 : Hp} {s sI s3 s7 : Shared} {B : Heap} {a T : Addr} {oe oT : Obj} {vs ts : Array Value} {cls : Value} {d : Option Addr}
theorem hok_hide {P : Program} {w : World} {h G : Heap} (x : HOk P w H h) (ha : H a = none) (hT : H T = none) (g1 : ∀ b, b ≠ a → b ≠ T → G.get? b = h.get? b) : HOk P w H G := fun b o q =>
  (x b o q).stay (fun c u hc r => by
    rw [g1 c (fun z => ?_) (fun z => ?_)]
    · exact r
    · rcases hc with hc | hc
      · rw [← hc, z, ha] at q; cases q
      · rw [z, ha] at hc; cases hc
    · rcases hc with hc | hc
      · rw [← hc, z, hT] at q; cases q
      · rw [z, hT] at hc; cases hc) (fun _ r => r) fun _ _ r => r
/-- from the state s3 that was reached by the exception, a call led to s7: the exception is in our air again -/
theorem fly_on (hs : X.stack = X.env :: X.outer) (J : Inv X pins σ H' sI) (nb : ∀ b o, sI.heap.get? b = some o → b ∉ frs X.stack → B.get? b = some o) (up : sI.heap.UpToSlots s3.heap) (st : B.StaysIn s3.heap) (os : s7.os = sI.os) (ag : AllBare s7.gens) (na : H' a = none) (nT : H' T = none)
    (ba : B.get? a = none) (bT : B.get? T = none) (af : a ∉ frs X.stack) (Tf : T ∉ frs X.stack) (un : Un (frs X.stack) [] H' H2 s3.heap s7.heap) (hok : HOk X.prog X.w H2 s7.heap)
    (he : s3.heap.get? a = some oe) (hz : L2N.Zn cls d oe) (hd : oe.data = .fields vs) (h1 : vs[1]? = some (.ref T)) (neT : T ≠ a) (hT : s3.heap.get? T = some oT) (hdT : oT.data = .fields ts) (h3 : ts[3]? = some .none) (W : WX) (w : W cls d σ H2) (tk : L2N.Takes X W) (hf : X.env.frame = some X.env.locals) {Q : Flow → Shared → Prop} :
    wpAny (model X.prog X.w) X.A (passOn "with" (.ref a) X.env : Sem Flow) Q X.xe s7 := by
  have he7 : s7.heap.get? a = some oe := un.keep a oe he na af (by simp)
  have hT7 : s7.heap.get? T = some oT := un.keep T oT hT nT Tf (by simp)
  have na2 : H2 a = none := un.free a oe he na (by simp)
  have nT2 : H2 T = none := un.free T oT hT nT (by simp)
  obtain ⟨G, g1, g2⟩ := restrict s7.heap fun b => decide (b ≠ a ∧ b ≠ T)
  have gG : ∀ b, b ≠ a → b ≠ T → G.get? b = s7.heap.get? b := fun b x1 x2 => g1 b (by simp [x1, x2])
  have og : ∀ b o, G.get? b = some o → s7.heap.get? b = some o ∧ b ≠ a ∧ b ≠ T := fun b o e => by
    by_cases q : b ≠ a ∧ b ≠ T
    · rw [gG b q.1 q.2] at e; exact ⟨e, q⟩
    · rw [g2 b (by simpa using q)] at e; cases e
  have nsI : ∀ b o, sI.heap.get? b = some o → b ≠ a ∧ b ≠ T := fun b o e => by
    constructor
    · rintro rfl
      have := nb b o e af
      rw [ba] at this; cases this
    · rintro rfl
      have := nb b o e Tf
      rw [bT] at this; cases this
  have J7 : Inv X pins σ H2 { s7 with heap := G } := by
    refine J.call' (ch := []) os ⟨fun b o e n hb _ => ?_, fun b o e n hb _ => ?_, fun b o e n _ => ?_, fun b o e _ => ?_, un.tups, un.frzs, un.tbls⟩ (hok_hide hok na2 nT2 gG) ag (fun _ z => nomatch z)
    · obtain ⟨x1, x2⟩ := nsI b o e
      rw [gG b x1 x2]
      exact un.keep b o (st b o (nb b o e hb)) n hb (by simp)
    · obtain ⟨x1, x2⟩ := nsI b o e
      rw [gG b x1 x2]
      obtain ⟨_, o', e', hnf⟩ := J.stack.mem hb
      rw [e] at e'; cases e'
      obtain ⟨sl, q⟩ := up b o e hnf
      obtain ⟨sl2, q2⟩ := un.slot b _ q n hb (by simp)
      exact ⟨sl2, q2⟩
    · by_cases hb : b ∈ frs X.stack
      · obtain ⟨_, o', e', hnf⟩ := J.stack.mem hb
        rw [e] at e'; cases e'
        obtain ⟨sl, q⟩ := up b o e hnf
        exact un.free b _ q n (by simp)
      · exact un.free b o (st b o (nb b o e hb)) n (by simp)
    · obtain ⟨x1, x2⟩ := nsI b o e
      rw [gG b x1 x2]
      by_cases hb : b ∈ frs X.stack
      · obtain ⟨_, o', e', hnf⟩ := J.stack.mem hb
        rw [e] at e'; cases e'
        obtain ⟨sl, q⟩ := up b o e hnf
        exact un.there b _ q (by simp)
      · exact un.there b o (st b o (nb b o e hb)) (by simp)
  have hB7 : ∀ b o, (PySem.W.hideAll G (frs X.stack)).get? b = some o → s7.heap.get? b = some o := fun b o e => (og b o (PySem.W.of_hideAll _ e)).1
  have none_of : ∀ b, (b = a ∨ b = T) → (PySem.W.hideAll G (frs X.stack)).get? b = none := fun b hb => by
    cases q : (PySem.W.hideAll G (frs X.stack)).get? b with
    | none => rfl
    | some o =>
      have z := og b o (PySem.W.of_hideAll _ q)
      rcases hb with hb | hb
      · exact absurd hb z.2.1
      · exact absurd hb z.2.2
  have fl : HandSPX.FlyingZ (PySem.W.hideAll G (frs X.stack)) X.stack a (L2N.Zn cls d) s7.heap := by
    refine ⟨fun b o e => hB7 b o e, none_of a (.inl rfl), ?_, oe, vs, T, oT, ts, he7, hz, hd, h1, none_of T (.inr rfl), neT, hT7, hdT, h3⟩
    exact Heap.FunFrames.of_keeps (fun b o e _ => ⟨o, (og b o e).1, rfl⟩) (funFrames_none J7.stack fun b hb => PySem.W.hideAll_none _ hb)
  unfold PySem.passOn
  refine wpAny_bind (wpAny_field he7 hd h1 ?_)
  rw [if_neg (show ¬ ((Value.ref T == Value.none) = true) from by simp)]
  have fin : wpAny (model X.prog X.w) X.A (setFlight (.ref a) X.env.frame) (fun _ s4 => wpAny (model X.prog X.w) X.A (throw (.ref a) : Sem Flow) Q X.xe s4) X.xe s7 := by
    rw [hf]
    refine HandSPX.setFlight_upZ fl fun h4 hh4 up4 => wpAny_throw (tk _ _ ?_)
    refine ⟨a, _, { s7 with heap := G }, pins, σ, H2, cls, d, rfl, J7, fun b o e hb => PySem.W.hideAll_get _ e hb, ?_, .inr (.inr hh4), na2, rfl, ag, w⟩
    exact (Heap.UpToSlots.of_keeps fun b o e => (og b o e).1).trans up4
  first
    | exact wpAny_bind (wpAny_pure (wpAny_bind fin))
    | exact wpAny_bind fin
end
end DL
namespace DL
open PySem PySem.Spec PyProof.Rows L2
section
variable {X : Cx} {G0 : Hp} {ρ : Rho} {μ : Mu} {Φ : D → Mu → Prop} {F : Fx} {Ψ : Value → Rho → Mu → Prop}
/-- what the body of the block is to do -/
def WthB (X : Cx) (G0 : Hp) (F : Fx) (Ψ : Value → Rho → Mu → Prop) (Sx : Spec) (i : Nat) (ρ : Rho) (body : List Stmt) (x : D) (v : D) (μ2 : Mu) : Prop :=
  ∀ (pn : List (Addr × Obj)) (xe : Value → Shared → Prop) (G1 : Hp), Same G0 G1 →
    TKs (X.tr pn xe) G1 (fun cls ρ3 μ3 => ∃ Cc : Addr, cls = .ref Cc ∧ ∀ (a : Addr) (tb : D), Sx [x, .ref Cc, .ref a, tb] μ3 (fun d μ4 => d = .non ∧ Ψ cls ρ3 μ4) noX) → PassesOwn (model X.prog X.w) X.A X.env xe →
      WBg (X.tr pn xe) G1 body (ρ.set i (some v)) μ2 ⟨fun ρ3 μ3 => Sx [x, .non, .non, .non] μ3 (fun _ μ4 => F.nx ρ3 μ4) noX, fun d μ3 => Sx [x, .non, .non, .non] μ3 (fun _ μ4 => F.rt d μ4) noX⟩
/-- with ctx as y: body -/
theorem wsg_with {k : Nat} {C : Addr} {Se Sx : Spec} {ctx : Expr} {y : Str} {py pos : Pos} {body : List Stmt} (i : Nat) (hs : X.stack = X.env :: X.outer) (hf : X.env.frame = some X.env.locals) (hN : X.N.Nodup) (tk : TKs X G0 Ψ)
    (kl : Kl X.K C) (En : Omx X k C "__enter__" Se) (Ex : OmH X.prog X.w X.K X.mg X.base k C "__exit__" Sx) (hr : Room k X.A)
    (h : WE X ctx ρ μ fun x μ1 => Recv μ1 x C ∧ Se [x] μ1 (WthB X G0 F Ψ Sx i ρ body x) noX)
    (hi : X.N[i]? = some y := by rfl) (hx : Loc X.env.scope y := by first | exact Or.inl rfl | exact Or.inr rfl) (hfy : X.fn y = true ∨ X.env.scope.names.lookup y = some .local := by first | exact .inl rfl | exact .inr rfl) :
    WSg X G0 (.With [⟨ctx, some (.Name y py)⟩] body pos) ρ μ F := ⟨fun σ G H E s0 m r q => by
  obtain ⟨ge, he1, he2, _, _, Fe⟩ := En.ex
  obtain ⟨gx, fdx, psx, hx1, hx2, FH, hbd, Fx⟩ := Ex.ex
  obtain ⟨W, t1', t2⟩ := tk.ex
  intro pins s I
  have ok := I.ok
  have hfr : X.A.frames = some (X.env :: X.outer) := by rw [ok.frames, hs]
  have hh := h.run σ G H (fun x H1 => ∃ (a dx : Addr) (vs : List (Option V)) (G1 : Hp) (μ1 : Mu) (d : D), x = .ref a ∧ SlX.Slt H1 a C dx vs ∧ Same G G1 ∧ SM X.K G1 H1 μ1 ∧ Rep X.K G1 x d ∧ Se [d] μ1 (WthB X G0 F Ψ Sx i ρ body d) noX) m r fun x v G1 H1 μ1 s1 m1 rx ⟨hv, k1⟩ => by
    obtain ⟨a, dx, vs, rfl, hs⟩ := recv_slt m1 rx hv
    exact ⟨a, dx, vs, G1, μ1, x, rfl, hs, s1, m1, rx, k1⟩
  refine PySem.W.kw_execN (thn (hh pins s I) fun u sA ⟨x, H1, I1, rx, a, dx, vs, G1, μ1, d, ex, hsl, sG1, m1, rd, k1⟩ => ?_)
  subst ex
  obtain rfl : u = Value.ref a := rx
  obtain ⟨sl, od, _, J, _⟩ := SlX.slt_inst I1 hsl
  unfold PySem.W.KwIn
  refine PySem.W.dl_withX (PX := fun e s4 => wpAny (model X.prog X.w) X.A (noteFrame e X.env) (fun _ s5 => wpAny (model X.prog X.w) X.A (setFlight e none) (fun _ s6 => PySem.W.OutX X.prog X.w X.A X.xe X.env a gx (SP X pins E) e s6) X.xe s5) X.xe s4) I1.kIn J he1 he2 hx1 hx2 ?_ (fun e s4 z => z)
  -- a call of the own __exit__ with three None
  have leave : ∀ {G2 H2 : Hp} {μ2 : Mu} {σ2 : L2.St} {s2 : Shared} {Θ : D → Mu → Prop} {R : Flow → Shared → Prop} {f : Flow}, Inv X pins σ2 H2 s2 → SM X.K G2 H2 μ2 → Rep X.K G2 (.ref a) d → Sx [d, .non, .non, .non] μ2 Θ noX →
      (∀ s' G3 H3 μ3 dr, Inv X pins σ2 H3 s' → Same G2 G3 → SM X.K G3 H3 μ3 → Θ dr μ3 → R f s') →
      wpAny (model X.prog X.w) X.A (call (.ref gx) [.ref a, .none, .none, .none]) (fun _ s5 => R f s5) X.xe s2 := fun {G2 H2 μ2 σ2 s2 Θ R f} I2 m2 r2 k2 kk => by
    refine wpAny_call (codeAny_mono (SlX.run_at (us := [.ref a, .none, .none, .none]) (ws := [.ref a, .non, .non, .non]) (Q := fun v H' => ∃ G' μ' dr, Same G2 G' ∧ SM X.K G' H' μ' ∧ Θ dr μ') Fx hr I2.env0 (p0 (E := fun _ _ _ => False)) I2 (.cons rfl (.cons rfl (.cons rfl (.cons rfl .nil)))) (spD_of m2 (.cons r2 (.cons .non (.cons .non (.cons .non .nil)))) k2 fun dr v G' H' μ' s1 m1 rd z => ⟨G', μ', dr, s1, m1, z⟩)) fun r s' z => ?_)
    cases r with
    | error e => exact z
    | ok fl =>
      cases fl with
      | ret u =>
        obtain ⟨v, H', I', rv, G', μ', dr, s1, m1, zz⟩ := z
        exact kk s' G' H' μ' dr I' s1 m1 zz
      | next => exact z.elim
      | brk => exact z.elim
      | cont => exact z.elim
  refine wpAny_call (codeAny_mono (SlX.run_at (us := [.ref a]) (ws := [.ref a]) (Q := fun v H' => ∃ G' μ' dr, Rep X.K G' v dr ∧ Same G1 G' ∧ SM X.K G' H' μ' ∧ WthB X G0 F Ψ Sx i ρ body d dr μ') Fe hr I1.env0 (p0 (E := fun _ _ _ => False)) I1 (.cons rfl .nil) (spD_of m1 (.cons rd .nil) k1 fun dr v G' H' μ' s1 m1 rd z => ⟨G', μ', dr, rd, s1, m1, z⟩)) fun r2 s2 z => ?_)
  cases r2 with
  | error e => exact z
  | ok fl =>
    cases fl with
    | next => exact z.elim
    | brk => exact z.elim
    | cont => exact z.elim
    | ret u =>
      obtain ⟨v, H2, I2, rv, G2, μ2, dr, rr, s2', m2, zz⟩ := z
      have rs2 := (r.same (sG1.trans s2')).set i rr
      refine wpAny_assign_Name (store_ok I2 hN hi hx rv (fun s3 I3 => ?_) hfy)
      have body_ := (zz (X.pn ++ pins) (fun e s4 => wpAny (model X.prog X.w) X.A (noteFrame e X.env) (fun _ s5 => wpAny (model X.prog X.w) X.A (setFlight e none) (fun _ s6 => PySem.W.OutX X.prog X.w X.A X.xe X.env a gx (SP X pins E) e s6) X.xe s5) X.xe s4) G2 (s0.trans (sG1.trans s2')) ?_ PassesOwn.looking).run (σ.set i (some v)) G2 H2
        { nx := fun σ3 H3 => ∃ G3 μ3 ρ3, Same G2 G3 ∧ SM X.K G3 H3 μ3 ∧ RS X.K G3 σ3 ρ3 ∧ Sx [d, .non, .non, .non] μ3 (fun _ μ4 => F.nx ρ3 μ4) noX,
          rt := fun v H3 => ∃ G3 μ3 dv, Same G2 G3 ∧ SM X.K G3 H3 μ3 ∧ Rep X.K G3 v dv ∧ Sx [d, .non, .non, .non] μ3 (fun _ μ4 => F.rt dv μ4) noX }
        (Same.refl G2) m2 rs2 ⟨fun σ3 ρ3 G3 H3 μ3 s3 m3 r3 k3 => ⟨G3, μ3, ρ3, s3, m3, r3, k3⟩, fun dv v G3 H3 μ3 s3 m3 r3 k3 => ⟨G3, μ3, dv, s3, m3, r3, k3⟩⟩
      · refine wpAny_mono (body_ [] s3 (I3.toTry _)) (fun f s4 hsp => ?_) (fun e s4 z => z)
        cases f with
        | brk => obtain ⟨_, _, _, z⟩ := hsp; exact z.elim
        | cont => obtain ⟨_, _, _, z⟩ := hsp; exact z.elim
        | next =>
          obtain ⟨σ4, H4, I4, G4, μ4, ρ4, s4', m4, r4, k4⟩ := hsp
          refine leave (R := SP X pins E) (f := .next) (I4.ofTry ok) m4 ((rd.same s2').same s4') k4 fun s' G5 H5 μ5 dr I5 s5 m5 z => ?_
          exact ⟨σ4, H5, I5, q.nx σ4 ρ4 G5 H5 μ5 (((sG1.trans s2').trans s4').trans s5) m5 (r4.same s5) z⟩
        | ret u4 =>
          obtain ⟨v4, σ4, H4, I4, rv4, G4, μ4, dv, s4', m4, r4, k4⟩ := hsp
          refine leave (R := SP X pins E) (f := .ret u4) (I4.ofTry ok) m4 ((rd.same s2').same s4') k4 fun s' G5 H5 μ5 dr I5 s5 m5 z => ?_
          exact ⟨v4, σ4, H5, I5, rv4, q.rt dv v4 G5 H5 μ5 (((sG1.trans s2').trans s4').trans s5) m5 (r4.same s5) z⟩
      · -- the way out with an exception
        refine ⟨fun cls dx σ' H' => dx = none ∧ ∃ (G' : Hp) (ρ' : Rho) (μ' : Mu), Same G2 G' ∧ SM X.K G' H' μ' ∧ RS X.K G' σ' ρ' ∧ ∃ Cc : Addr, cls = .ref Cc ∧ ∀ (a : Addr) (tb : D), Sx [d, .ref Cc, .ref a, tb] μ' (fun d μ4 => d = .non ∧ Ψ cls ρ' μ4) noX, ?_, fun cls σ' G' H' ρ' μ' s1 m1 r1 z => ⟨rfl, G', ρ', μ', s1, m1, r1, z⟩⟩
        intro u s' xx
        obtain ⟨b, B, sI, pins', σ', H', cls, dd, rfl, J', nb, up, sky, na, os, ag, rfl, G', ρ', μ', sG', mG', rG', Cc, rfl, hSx⟩ := xx
        have Jv : Inv X pins σ' H' sI := J'.ofTry ok
        have sky' : Sky B (X.env :: X.outer) b (L2N.Zn (.ref Cc) none) X.env.locals s'.heap := by rw [← hs]; exact sky
        show wpAny (model X.prog X.w) X.A (noteFrame (.ref b) X.env) _ _ _
        refine L2N.Sky.land L2N.Zn.steady hfr hf sky' fun h3 fl3 up3 => ?_
        have J3 : Inv X pins σ' H' { s' with heap := h3 } := Jv.landed nb fl3.1 (up.trans up3) os ag
        obtain ⟨kst, kba, kff, oe, vse, T, oT, tse, he3, hz3, hd3, h13, hBT, neT, hT3, hdT3, h33⟩ := id fl3
        have notFr : ∀ {c : Addr} {o : Obj} {vs : Array Value}, h3.get? c = some o → o.data = .fields vs → c ∉ frs X.stack := fun {c o vs} e dd hm => by
          rw [hs] at hm
          obtain ⟨_, o', e', hnf⟩ := kff.mem hm
          rw [e] at e'; cases e'
          exact hnf _ dd
        have nfr := notFr he3 hd3
        have nfT := notFr hT3 hdT3
        have nT : H' T = none := L2.HOk.gone (Jv.inGround nb) hBT
        have hotA : L2H.Hot1 (X.A.mark (some (.ref b))) (b, oe) := ⟨rfl, vse, hd3, hz3.2.2 vse hd3⟩
        have hpin : L2H.PinOk X.stack H' { s' with heap := h3 } (b, oe) := ⟨he3, na, nfr, fun v z => by
          have z' : oe.data = .cell v := z
          rw [hd3] at z'; cases z'⟩
        obtain ⟨t1, ht1⟩ : ∃ t1, tse[1]? = some t1 := by
          have h4 : 3 < tse.size := (Array.getElem?_eq_some_iff.mp h33).1
          exact ⟨tse[1], Array.getElem?_eq_getElem (by omega)⟩
        refine ⟨b, T, oe, oT, vse, tse, t1, rfl, he3, hd3, h13, hT3, hdT3, ht1, fun tb htb => ?_⟩
        rw [hz3.1]
        obtain ⟨tbd, tbv, htr, htv⟩ : ∃ (tbd : D) (tbv : V), Rep X.K G' tbv tbd ∧ RelV tbv tb := by
          rcases htb with rfl | rfl
          · exact ⟨.non, .non, .non, rfl⟩
          · exact ⟨.ref T, .ref T, .ref T, rfl⟩
        have spx : spD X.K Sx [.ref a, .ref Cc, .ref b, tbv] H' (fun v H2 => v = .non ∧ ∃ (G2' : Hp) (μ2' : Mu), Same G' G2' ∧ SM X.K G2' H2 μ2' ∧ Ψ (.ref Cc) ρ' μ2') (fun _ _ _ => False) :=
          spD_of mG' (.cons ((rd.same s2').same sG') (.cons (.ref Cc) (.cons (.ref b) (.cons htr .nil)))) (hSx b tbd) fun dr v G'' H'' μ'' s1 m1 rd z => by
            obtain ⟨rfl, z⟩ := z
            cases rd
            exact ⟨rfl, G'', μ'', s1, m1, z⟩
        have hv4 : Vals [.ref a, .ref Cc, .ref b, tbv] [.ref a, .ref Cc, .ref b, tb] := .cons rfl (.cons rfl (.cons rfl (.cons htv .nil)))
        have b0 := hbd { s' with heap := h3 } [.ref a, .ref Cc, .ref b, tb] J3.kIn (by rw [List.append_nil, ← hv4.length]; exact FH.len _ H' _ _ spx)
        rw [List.append_nil] at b0
        refine codeAny_mono (FH.run (X.A.mark (some (.ref b))) X.stack { s' with heap := h3 } H' ⟨[.ref a, .ref Cc, .ref b, tb], []⟩ _ _ _ (fun _ _ _ => False) (b, oe) ⟨hr.dp, hr.un⟩ hotA hpin (env_at J3 rfl) b0 hv4 spx) fun r7 s7 z7 => ?_
        cases r7 with
        | error e =>
          obtain ⟨_, _, _, _, _, _, _, _, _, _, _, _, z⟩ := z7
          exact z.elim
        | ok fl =>
          cases fl with
          | next => exact z7.elim
          | brk => exact z7.elim
          | cont => exact z7.elim
          | ret u7 =>
            obtain ⟨v7, H7, os7, ag7, un7, hok7, rv7, rfl, G7, μ7, sG7, m7, z⟩ := z7
            refine ⟨by rw [show u7 = Value.none from rv7], ?_⟩
            exact fly_on (pins := pins) (cls := .ref Cc) (d := none) hs Jv nb (up.trans up3) kst (os7.trans os) ag7 na nT kba hBT nfr nfT un7 hok7 he3 hz3 hd3 h13 neT hT3 hdT3 h33 W (t2 (.ref Cc) σ' G7 H7 ρ' μ7 (s0.trans (sG1.trans (s2'.trans (sG'.trans sG7)))) m7 (rG'.same sG7) z) t1' hf⟩
end
end DL
namespace DL
open PySem PySem.Spec PyProof.Rows L2 LamX NdefX
/-! ### a lambda with one parameter, handed to a method -/
section
variable {X : Cx} {pins : List (Addr × Obj)} {σ : L2.St} {G H : Hp} {s : Shared} {μ : Mu}
/-- the lambda is made -/
theorem lam_makeD {c P : Addr} {q : Str} {params : Arguments} {body : Expr} {scope : Scope} {pos : Pos} {E : Value → Shared → Prop} {Q : Value → Shared → Prop} (I : Inv X pins σ H s) (m : SM X.K G H μ) (pk : At μ P (.tab q) (.tab q) μ) (hq : X.env.qual ++ "<lambda>" = q)
    (TB : TabB X.base X.mg c P) (hcode : X.env.code = .ref c) (hdef : defaultsOf params X.env = ([], [])) (hfree : ∀ y ∈ scope.names, y.2 = .free → ∃ c, X.env.cells.lookup y.1 = some c)
    (h : ∀ (f c' : Addr) (pm ctv : Value) (G1 H1 : Hp) (s' : Shared), Inv X pins σ H1 s' → Same G G1 → SM X.K G1 H1 μ → s'.heap.get? f = some (PySem.W.kla_obj "<lambda>" q params body scope (cloFrom X.env.cells scope.names []) pm c' ctv) → H1 f = none → f ∉ frs X.stack → G1 c' = some (CodeO c' q) → Q (.ref f) s') :
    wpAny (model X.prog X.w) X.A (eval (.Lambda params body scope pos) X.env) Q E s := by
  obtain ⟨i, hi, eμ⟩ := pk.ix
  obtain ⟨gP, ps, hP, ht, ha⟩ := m.cell _ (List.mem_of_getElem? hi)
  refine PySem.W.kla_eval hdef ?_
  rw [hq]
  have bP : s.heap.BuiltinsAt X.mg P := TB.bm.keeps I.bk
  have hP' : s.heap.get? P = some { cls := .none, data := .fields ps } := I.hok P _ hP
  have nofr : ∀ f, s.heap.objs.size ≤ f → f ∉ frs X.stack := fun f hf z => by
    rcases List.mem_cons.mp (I.stkSub _ z) with e | e
    · have h1 := I.lt
      rw [← e] at h1
      exact Nat.lt_irrefl _ (Nat.lt_of_lt_of_le h1 hf)
    · exact I.nofs hf e
  cases hc : codeAmong pos ps.toList with
  | none =>
    refine PySem.W.kla_makeFunction (mg := X.mg) (c := c) (P := P) (ps := ps) (closure_ok hfree) I.ok.glob (I.mod.glob.keeps I.bk) hcode (TB.code.keeps I.bk) hP' ht hc TB.gP bP fun c' ctv h' tk hx hge hlt hrec htb => ?_
    obtain ⟨c2, oc, vs, t, e2, hoc, hd, hv⟩ := hrec
    cases e2
    have hsz : s.heap.objs.size ≤ h'.objs.size := Nat.le_trans hge (Nat.le_of_lt hlt)
    have nC : H c' = none := I.hok.fresh hge
    have nPc : P ≠ c' := ne_of_none hP nC
    have I1 := inv_table (t' := tk) (more := #[rawInt pos.line, rawInt pos.col, .ref c']) (h' := h'.push (PySem.W.kla_obj "<lambda>" q params body scope (cloFrom X.env.cells scope.names []) ((X.mg "__name__").getD .none) c' ctv)) I hP
      (fun b o hb e => Heap.get?_push_of_some _ (hx b o hb e)) (Heap.get?_push_of_some _ htb) hge ⟨oc, vs, t, Heap.get?_push_of_some _ hoc, hd, hv⟩
    have eH : upd (upd H P (.tbl (ps ++ #[rawInt pos.line, rawInt pos.col, .ref c']))) c' (CodeO c' q) = upd (upd H c' (CodeO c' q)) P (.tbl (ps ++ #[rawInt pos.line, rawInt pos.col, .ref c'])) := by
      funext b
      by_cases h1 : b = c'
      · subst h1
        rw [upd_same, upd_ne (Ne.symm nPc), upd_same]
      · by_cases h2 : b = P
        · subst h2
          rw [upd_ne h1, upd_same, upd_same]
        · rw [upd_ne h1, upd_ne h2, upd_ne h2, upd_ne h1]
    have w := grow_new (o := CodeO c' q) m.same nC
    have m1 := m.grow w
    have eL : (ps ++ #[rawInt pos.line, rawInt pos.col, .ref c']).toList = ps.toList ++ [rawInt pos.line, rawInt pos.col, .ref c'] := by simp
    have m2 : SM X.K (upd G c' (CodeO c' q)) (upd (upd H c' (CodeO c' q)) P (.tbl (ps ++ #[rawInt pos.line, rawInt pos.col, .ref c']))) (μ.set i (P, .tab q)) := m1.putL hi ⟨by rw [upd_ne nPc]; exact gP, _, upd_same, by rw [eL]; exact PySem.TriplesOk_snoc _ _ _ _ ht, fun p' cv hcv => by
      rw [eL] at hcv
      rcases among_app _ ht hcv with z | z
      · obtain ⟨c0, e1, e2⟩ := ha p' cv z
        exact ⟨c0, e1, w.g _ _ e2⟩
      · exact ⟨c', z, upd_same⟩⟩
    rw [← eμ, ← eH] at m2
    refine h h'.objs.size c' ((X.mg "__name__").getD .none) ctv _ _ _ I1 w.g m2 (Heap.get?_push_size _ rfl) ?_ (nofr _ hsz) upd_same
    have n1 : h'.objs.size ≠ c' := Nat.ne_of_gt hlt
    have n2 : h'.objs.size ≠ P := Nat.ne_of_gt (Nat.lt_of_lt_of_le (Heap.lt_size hP') hsz)
    rw [upd_ne n1, upd_ne n2]
    exact I.hok.fresh hsz
  | some cv =>
    obtain ⟨c', e, hco⟩ := ha pos cv hc
    subst e
    refine PySem.W.kla_makeFunctionHit (mg := X.mg) (c := c) (P := P) (ps := ps) (closure_ok hfree) I.ok.glob (I.mod.glob.keeps I.bk) hcode (TB.code.keeps I.bk) hP' ht hc bP fun ctv h' tk hx hsz => ?_
    have I1 : Inv X pins σ H { s with heap := h'.push (PySem.W.kla_obj "<lambda>" q params body scope (cloFrom X.env.cells scope.names []) ((X.mg "__name__").getD .none) c' ctv), toks := tk } := I.kept fun b o e => Heap.get?_push_of_some _ (hx b o e)
    exact h h'.objs.size c' ((X.mg "__name__").getD .none) ctv G H _ I1 (Same.refl G) m (Heap.get?_push_size _ rfl) (I.hok.fresh hsz) (nofr _ hsz) hco
end
/-- what calls of the lambda at f do, from the state (s0, H0) on -/
structure LamF (P : Program) (w : World) (K : PySem.W.Frag) (mg : Str → Option Value) (base : Heap) (k : Nat) (f : Addr) (fs0 : List Addr) (s0 : Shared) (H0 G1 : Hp) (S : Spec) : Prop where
  fn : PySem.W.FnAt f s0.heap
  fr : H0 f = none
  nf : f ∉ fs0
  run : ∀ (A : Around) (outer : List Env) (s : Shared) (H G : Hp) (us : List Value) (vs : List V) (ds : List D) (μ : Mu) (Φ : D → Mu → Prop) (Ψ : Value → Mu → Prop) (Q : VK) (E : XK), Room k A → Env0 P w K mg base A outer s H → Un fs0 [] H0 H s0.heap s.heap → Same G1 G → SM K G H μ → Vals vs us → Reps K G vs ds →
    S ds μ Φ Ψ → DK K G Φ Q → (∀ c G' H' μ', Same G G' → SM K G' H' μ' → Ψ c μ' → E c none H') → codeAny (model P w) A (.call (.ref f) ⟨us, []⟩) (CR (L2N.CX P w) outer P w H s Q E) s
/-- captured cells, later -/
theorem cells_later {cl : List (Str × Addr)} {fr : List Str} {ws : List (Option V)} {h h' : Heap} {H H' : Hp} {fs : List Addr} (C : CellsAt cl fr ws h H) (un : Un fs [] H H' h h') : CellsAt cl fr ws h' H' := by
  have kp : ∀ (c : Addr) (v : Option Value), H c = none → h.IsCell c v → H' c = none ∧ h'.IsCell c v := fun c v n ⟨o, ho, hd⟩ => by
    obtain ⟨sl, q⟩ := un.any ho n (by simp)
    exact ⟨un.free c o ho n (by simp), _, q, hd⟩
  refine ⟨C.len, fun y c e => ?_, C.inj, fun i y e => ?_⟩
  · obtain ⟨n, v, z⟩ := C.all y c e
    obtain ⟨h1, h2⟩ := kp c v n z
    exact ⟨h1, v, h2⟩
  · obtain ⟨c, hc, hv⟩ := C.has i y e
    refine ⟨c, hc, fun v ev => ?_⟩
    obtain ⟨u, r, z⟩ := hv v ev
    exact ⟨u, r, (kp c _ (C.all y c hc).1 z).2⟩
def slotR (ρ : Rho) (j : Nat) : Option D := match ρ[j]? with
  | some o => o
  | none => none
/-- the names of the lambda's body at its start -/
def rhoF (N : List Str) (ds : List D) (ws : List (Option D)) : Rho := ds.map some ++ (ws ++ List.replicate (N.length - ds.length - ws.length) none)
theorem rs_startF {K : PySem.W.Frag} {G1 G : Hp} {σ : L2.St} {ρ : Rho} {N : List Str} {js : List Nat} {vs : List V} {ds : List D} (s : Same G1 G) (r : RS K G1 σ ρ) (rv : Reps K G vs ds) : RS K G (startF N vs (js.map (slotAt σ))) (rhoF N ds (js.map (slotR ρ))) := by
  have hl := rv.length
  refine ⟨?_, fun i d e => ?_⟩
  · unfold rhoF startF
    simp only [List.length_append, List.length_map, List.length_replicate, hl]
  · unfold rhoF at e
    unfold startF
    by_cases h1 : i < ds.length
    · rw [List.getElem?_append_left (by rw [List.length_map]; exact h1), List.getElem?_map] at e
      rw [List.getElem?_append_left (by rw [List.length_map]; omega), List.getElem?_map]
      cases ed : ds[i]? with
      | none => rw [ed] at e; cases e
      | some d' =>
        rw [ed] at e
        cases e
        obtain ⟨v, hv, rr⟩ := rv.get ed
        exact ⟨v, by rw [hv]; rfl, rr⟩
    · have ed : (ds.map (some : D → Option D)).length = ds.length := List.length_map _
      have ev : (vs.map (some : V → Option V)).length = ds.length := by rw [List.length_map]; exact hl
      have er : (js.map (slotR ρ)).length = js.length := List.length_map _
      have es : (js.map (slotAt σ)).length = js.length := List.length_map _
      rw [List.getElem?_append_right (by rw [ed]; omega), ed] at e
      rw [List.getElem?_append_right (by rw [ev]; omega), ev]
      generalize i - ds.length = n at e ⊢
      by_cases h2 : n < js.length
      · rw [List.getElem?_append_left (by rw [er]; exact h2), List.getElem?_map] at e
        rw [List.getElem?_append_left (by rw [es]; exact h2), List.getElem?_map]
        cases ej : js[n]? with
        | none => rw [ej] at e; cases e
        | some j =>
          rw [ej] at e
          have e' : slotR ρ j = some d := Option.some.inj e
          have e2 : ρ[j]? = some (some d) := by
            unfold slotR at e'
            cases er : ρ[j]? with
            | none => rw [er] at e'; cases e'
            | some o => rw [er] at e'; rw [show o = some d from e']
          obtain ⟨v, hv, rr⟩ := r.at_ j d e2
          exact ⟨v, by show some (slotAt σ j) = _; rw [slotAt_of hv], rr.same s⟩
      · rw [List.getElem?_append_right (by rw [er]; omega), List.getElem?_replicate] at e
        split at e <;> cases e
section
variable {X : Cx} {pins : List (Addr × Obj)} {σ : L2.St} {G G1 H : Hp} {s : Shared} {μ : Mu} {ρ : Rho}
/-- the function's words, told of the lambda -/
abbrev lamN (X : Cx) (q : Str) (params : Arguments) (scope : Scope) (c' : Addr) : NF := ⟨"<lambda>", q, params, [], scope, cloFrom X.env.cells scope.names [], c'⟩
theorem lamF_of {k : Nat} {f c' : Addr} {q : Str} {params : Arguments} {body : Expr} {scope : Scope} {pm ctv : Value} {N ps fr : List Str} {js : List Nat} {S : Spec} (I : Inv X pins σ H s) (m : SM X.K G1 H μ) (r : RS X.K G1 σ ρ)
    (hf : s.heap.get? f = some (PySem.W.kla_obj "<lambda>" q params body scope (cloFrom X.env.cells scope.names []) pm c' ctv)) (hfn : H f = none) (hfr : f ∉ frs X.stack) (hco : G1 c' = some (CodeO c' q)) (Sc : NScope N ps fr scope) (cp : Caps X (cloFrom X.env.cells scope.names []) fr js)
    (hbind : ∀ (q : Str) (cl : List (Str × Addr)) (pm cv ctv : Value) (us : List Value), us.length = ps.length → bindArgs (PySem.W.kla_fn "<lambda>" q params body scope cl pm cv ctv) ⟨us, []⟩ = pure (ps.zip us))
    (hlen : ∀ ds μ Φ Ψ, S ds μ Φ Ψ → ds.length = ps.length)
    (hbody : ∀ (A : Around) (outer : List Env) (s : Shared) (H : Hp) (E : XK), Room k (A.deeper (envF (lamN X q params scope c') f s.heap.objs.size)) → ∀ (G0 : Hp) (ds : List D) (μ : Mu) (Φ : D → Mu → Prop) (Ψ : Value → Mu → Prop), S ds μ Φ Ψ →
      TKs (ncx (L2N.CX X.prog X.w) X.prog X.w X.K X.mg X.base N (lamN X q params scope c') f A outer s H E) G0 (fun c _ μ' => Ψ c μ') →
      WEg (ncx (L2N.CX X.prog X.w) X.prog X.w X.K X.mg X.base N (lamN X q params scope c') f A outer s H E) G0 body (rhoF N ds (js.map (slotR ρ))) μ Φ) :
    LamF X.prog X.w X.K X.mg X.base (k + 1) f (frs X.stack) s H G1 S := by
  have C := cells_of I cp
  refine ⟨⟨_, _, _, _, hf⟩, hfn, hfr, fun A outer s1 H1 G us vs ds μ1 Φ Ψ Q E hr e0 un sG m1 hv rv hS qq qe => ?_⟩
  have of1 := un.keep f _ hf hfn hfr (by simp)
  have hl := hlen _ _ _ _ hS
  obtain ⟨⟨oc, ovs, t, hoc, hdc, hvc⟩, _, _⟩ := e0.hok c' _ (m1.same _ _ (sG _ _ hco))
  have lim : s1.heap.NoLimit := e0.mod.nolimit.keeps fun b o e => (e0.bs b o e).1
  refine PySem.W.kla_callFunE hr.depth of1 rfl Sc.co Sc.gen rfl ⟨c', oc, ovs, t, rfl, hoc, hdc, hvc⟩ ?_
  rw [hbind _ _ _ _ _ us (by rw [← hv.length, rv.length]; exact hl)]
  refine wpAny_pure (wpAny_newFunctionEnv Sc.nocell (fun ⟨n, _⟩ hy => Sc.par n (List.of_mem_zip hy).1) (fun h₁ hns hsb => ⟨lim.fresh _ hsb, ?_⟩) Sc.kind)
  show codeAny _ _ (.expr body (envF (lamN X q params scope c') f s1.heap.objs.size)) _ _
  have kp : ∀ b o, s1.heap.get? b = some o → h₁.get? b = some o := fun b o e => hsb.extBut b o (Nat.ne_of_lt (Heap.lt_size e)) (Heap.get?_push_of_some _ e)
  have J : Inv (ncx (L2N.CX X.prog X.w) X.prog X.w X.K X.mg X.base N (lamN X q params scope c') f A outer s1 H1 E) [] (startF N vs (js.map (slotAt σ))) H1 { s1 with heap := h₁, toks := s1.toks + (ps.zip us).length } :=
    inv_startN Sc hr.hd e0 (by rw [rv.length]; exact hl) hv (cells_later C un) hns kp
  have tk : TKs (ncx (L2N.CX X.prog X.w) X.prog X.w X.K X.mg X.base N (lamN X q params scope c') f A outer s1 H1 E) G (fun c _ μ' => Ψ c μ') := ⟨_, L2N.takes_of rfl rfl rfl rfl, fun cls σ' G' H' ρ' μ' sg mg' _ z => qe cls G' H' μ' sg mg' z⟩
  refine PySem.W.kla_codeExpr (wpAny_mono ((hbody A outer s1 H1 E (hr.deeper _) G ds μ1 Φ Ψ hS tk).run _ G H1 Q (Same.refl G) m1 (rs_startF sG r rv) qq [] _ J) (fun v s' hq => ?_) fun e s' hq => hq)
  obtain ⟨w', H', J', rv', q'⟩ := hq
  exact ⟨w', H', J'.os, J'.bare, J'.base, J'.hok, rv', q'⟩
end
section
variable {X : Cx} {G0 : Hp} {ρ : Rho} {μ : Mu} {Φ : D → Mu → Prop} {F : Fx} {Ψ : Value → Rho → Mu → Prop} {e o : Expr} {es : List Expr} {p p2 pos apos : Pos}
/-- f(..), f a name that holds the lambda -/
theorem weg_lamf {k i : Nat} {x : Str} {S : Spec} {f : Addr} {G1 : Hp} (tk : TKs X G0 Ψ) (L : LamF X.prog X.w X.K X.mg X.base k f X.fs X.s_0 X.H_0 G1 S) (sG : Same G1 G0) (hex : X.ex = []) (hr : Room k X.A) (hρ : ρ[i]? = some (some (.ref f))) (h : WA X (e :: es) ρ μ fun ds μ1 => S ds μ1 Φ fun c μ2 => Ψ c ρ μ2)
    (hN : X.N[i]? = some x := by rfl) (hv : Vis X.env.scope x := by first | exact .inl rfl | exact .inr (.inl rfl) | exact .inr (.inr rfl)) (hd : (x == ("__debug__" : Str)) = false := by decide) (hcd : (x == ("__classdict__" : Str)) = false := by decide)
    (he : starEach (e :: es) X.env = (false, eval e X.env) :: starEach es X.env := by rfl) (hpl : (backTo pos (starEach es X.env)).any (·.1) = false := by rfl) :
    WEg X G0 (.Call (.Name x p) (e :: es) [] pos) ρ μ Φ := ⟨fun σ G H Q s0 m r q => by
  obtain ⟨W, t1, t2⟩ := tk.ex
  intro pins s I
  obtain ⟨v, hσ, rv⟩ := r.at_ i _ hρ
  cases rv
  refine wpAny_Call_Name_kw (thn ((pe_var (pos := p) hN hv hd hcd).run pins s σ H (fun v H1 => v = .ref f ∧ H1 = H) I ⟨.ref f, hσ, rfl, rfl⟩) fun u s1 ⟨v, H1, I1, r1, q1⟩ => ?_)
  obtain ⟨ev, eH⟩ := q1
  subst ev
  rw [eH] at I1
  obtain rfl : u = Value.ref f := r1
  have fnA : ∀ {σ' : L2.St} {H' : Hp} {s' : Shared}, Inv X pins σ' H' s' → PySem.W.FnAt f s'.heap := fun {σ' H' s'} I' => by
    obtain ⟨a1, a2, a3, a4, a5⟩ := L.fn
    exact ⟨_, _, _, _, I'.base.keep f _ a5 L.fr L.nf (by rw [hex]; simp)⟩
  have hh := h.run σ G H (fun vs H1 => ∃ (G2 : Hp) (μ2 : Mu) (ds : List D), Same G G2 ∧ SM X.K G2 H1 μ2 ∧ Reps X.K G2 vs ds ∧ S ds μ2 Φ fun c μ3 => Ψ c ρ μ3) m r fun ds vs G2 H2 μ2 s2 m2 rds k2 => ⟨G2, μ2, ds, s2, m2, rds, k2⟩
  refine PySem.W.callWith_F (first := []) (fnA I1) (thn (hh pos pins s1 I1) fun us s2 ⟨vs, H2, I2, rr, G2, μ2, ds, s2', m2, rds, k2⟩ => ⟨fnA I2, ?_⟩) he hpl
  show wpAny _ _ (call (.ref f) us) _ _ _
  have hb : Un X.fs [] X.H_0 H2 X.s_0.heap s2.heap := by
    have z := I2.base
    rw [hex] at z
    exact z
  refine wpAny_call (codeAny_mono (L.run X.A X.stack s2 H2 G2 us vs ds μ2 Φ _ Q (fun cls d H' => W cls d σ H') hr I2.env0 hb (sG.trans (s0.trans s2')) m2 rr rds k2 (q.same s2') fun c G' H' μ' s1 m1 z => t2 c σ G' H' ρ μ' (s0.trans (s2'.trans s1)) m1 (r.same (s2'.trans s1)) z) fun r s' hq => ?_)
  cases r with
  | error e => exact t1 e s' (L2N.XE.of_call I2 (fun _ _ _ z => z) hq)
  | ok fl =>
    cases fl with
    | ret u => exact I2.after hq
    | next => exact False.elim hq
    | brk => exact False.elim hq
    | cont => exact False.elim hq⟩
end
end DL
namespace DL
open PySem PySem.Spec PyProof.Rows L2 LamX NdefX
/-- what a method promises that calls the lambda it got (level kl) -/
structure AttP (P : Program) (w : World) (K : PySem.W.Frag) (mg : Str → Option Value) (base : Heap) (k kl : Nat) (C : Addr) (m : Str) (SA : Spec → Spec) : Prop where
  ex : ∃ g : Addr, PySem.W.findIn K (.ref C) m = some (some (.ref g)) ∧ PySem.W.isFn K (.ref g) = true ∧ PySem.W.keepIn K (.ref g) = true ∧
    ∀ (A : Around) (outer : List Env) (s : Shared) (H G : Hp) (us : List Value) (vs : List V) (x y : D) (f : Addr) (μ : Mu) (S : Spec) (Φ : D → Mu → Prop) (Ψ : Value → Mu → Prop) (Q : VK) (E : XK), Room k A → Env0 P w K mg base A outer s H →
      LamF P w K mg base kl f (frs outer) s H G S → SM K G H μ → Vals vs us → Reps K G vs [x, y, .ref f] → SA S [x, y, .ref f] μ Φ Ψ → DK K G Φ Q → (∀ c G' H' μ', Same G G' → SM K G' H' μ' → Ψ c μ' → E c none H') →
      codeAny (model P w) A (.call (.ref g) ⟨us, []⟩) (CR (L2N.CX P w) outer P w H s Q E) s
theorem attP_of {P : Program} {w : World} {K : PySem.W.Frag} {mg : Str → Option Value} {base : Heap} {x qual : Str} {params : Arguments} {body : List Stmt} {scope : Scope} {g C : Addr} {fd : FuncData} {N ps : List Str} {k kl : Nat} {m : Str} {SA : Spec → Spec}
    (h1 : PySem.W.findIn K (.ref C) m = some (some (.ref g))) (h2 : PySem.W.isFn K (.ref g) = true) (F : FunD K x qual params body scope [] [] g fd) (Sc : FnScope N ps scope) (hl : ps.length = 3)
    (hb : ∀ (kV doc pm : Value) (an : Option Addr) (cdv ct : Value) (us : List Value), us.length = ps.length → bindArgs (PySem.W.fnOf x qual params body scope .none kV doc pm an cdv ct) ⟨us, []⟩ = pure (ps.zip us))
    (hbody : ∀ (cdv : Value) (A : Around) (outer : List Env) (s : Shared) (H : Hp) (E : XK), Room k (A.deeper (envOfC qual scope s.heap.objs.size g cdv)) → ∀ (G0 : Hp) (d1 d2 : D) (f : Addr) (μ : Mu) (S : Spec) (Φ : D → Mu → Prop) (Ψ : Value → Mu → Prop),
      LamF P w K mg base kl f (frs outer) s H G0 S → SA S [d1, d2, .ref f] μ Φ Ψ →
      TKs (cxOf (L2N.CX P w) P w K mg base N qual scope g cdv A outer s H E) G0 (fun c _ μ' => Ψ c μ') →
      WBg (cxOf (L2N.CX P w) P w K mg base N qual scope g cdv A outer s H E) G0 body (rho0 N [d1, d2, .ref f]) μ ⟨fun _ μ' => Φ .non μ', Φ⟩) : AttP P w K mg base (k + 1) kl C m SA := by
  have b := FunD.bindsN (ps := ps) F hb
  refine ⟨g, h1, h2, F.kp, fun A outer s H G us vs d1 d2 f μ S Φ Ψ Q E hr e0 L m0 rv rp hS q qe => ?_⟩
  obtain ⟨oc, od, dV, kV, doc, pm, an, cdv, ct, osl, rfl, lk, hcd, _, _⟩ := F.ex
  have hlv : vs.length = ps.length := by rw [rp.length, hl]; rfl
  have KX : K.In s.heap := e0.mod.kin.keeps fun b o e => (e0.bs b o e).1
  have bb := b s us KX (by rw [List.append_nil, ← rv.length]; exact hlv)
  rw [List.append_nil] at bb
  refine LamX.run_ofS (N := N) (ps := ps) lk hcd Sc hr e0 bb rv hlv fun hr' => ?_
  have tk : TKs (cxOf (L2N.CX P w) P w K mg base N qual scope g cdv A outer s H E) G (fun c _ μ' => Ψ c μ') := ⟨_, L2N.takes_of rfl rfl rfl rfl, fun cls σ G' H' ρ μ' s1 m1 _ z => qe cls G' H' μ' s1 m1 z⟩
  exact ⟨_, pss_W, (hbody cdv A outer s H E hr' G d1 d2 f μ S Φ Ψ L hS tk).run _ G H _ (Same.refl G) m0 (rs_start rp) ⟨fun σ' ρ' G' H' μ' s1 m1 _ k1 => q .non .non G' H' μ' s1 m1 .non k1, q⟩⟩
section
variable {X : Cx} {G0 : Hp} {ρ : Rho} {μ : Mu} {Φ : D → Mu → Prop} {F : Fx} {Ψ : Value → Rho → Mu → Prop} {e o : Expr} {lpos pos apos : Pos}
/-- o.m(e, lambda p: body) -/
theorem weg_att {k kl : Nat} {C c P : Addr} {m q : Str} {SA : Spec → Spec} {S : Spec} {params : Arguments} {body : Expr} {scope : Scope} {N ps fr : List Str} {js : List Nat} {pl : Sem Bool} (tk : TKs X G0 Ψ) (AP : AttP X.prog X.w X.K X.mg X.base k (kl + 1) C m SA) (kc : Kl X.K C) (hr : Room k X.A)
    (TB : TabB X.base X.mg c P) (hcode : X.env.code = .ref c) (hq : X.env.qual ++ "<lambda>" = q) (hdef : defaultsOf params X.env = ([], [])) (Sc : NScope N ps fr scope) (hjs : js.map (fun j => X.N[j]?) = fr.map some)
    (hfree : ∀ y ∈ scope.names, y.2 = .free → X.env.scope.names.lookup y.1 = some .cell ∨ X.env.scope.names.lookup y.1 = some .free) (hfr : ∀ y ∈ fr, (y, NameKind.free) ∈ scope.names)
    (hbind : ∀ (q : Str) (cl : List (Str × Addr)) (pm cv ctv : Value) (us : List Value), us.length = ps.length → bindArgs (PySem.W.kla_fn "<lambda>" q params body scope cl pm cv ctv) ⟨us, []⟩ = pure (ps.zip us))
    (hlen : ∀ ds μ Φ Ψ, S ds μ Φ Ψ → ds.length = ps.length)
    (hbody : ∀ (f c' : Addr) (A : Around) (outer : List Env) (s : Shared) (H : Hp) (E : XK), Room kl (A.deeper (envF (lamN X q params scope c') f s.heap.objs.size)) → ∀ (G0 : Hp) (ds : List D) (μ : Mu) (Φ : D → Mu → Prop) (Ψ : Value → Mu → Prop), S ds μ Φ Ψ →
      TKs (ncx (L2N.CX X.prog X.w) X.prog X.w X.K X.mg X.base N (lamN X q params scope c') f A outer s H E) G0 (fun c _ μ' => Ψ c μ') →
      WEg (ncx (L2N.CX X.prog X.w) X.prog X.w X.K X.mg X.base N (lamN X q params scope c') f A outer s H E) G0 body (rhoF N ds (js.map (slotR ρ))) μ Φ)
    (h : WE X o ρ μ fun x μ1 => Recv μ1 x C ∧ WE X e ρ μ1 fun y μ2 => At μ2 P (.tab q) (.tab q) μ2 ∧ ∀ f, SA S [x, y, .ref f] μ2 Φ fun c μ3 => Ψ c ρ μ3)
    (he : starEach [e, .Lambda params body scope lpos] X.env = (false, eval e X.env) :: starEach [.Lambda params body scope lpos] X.env := by rfl) (he2 : starEach [.Lambda params body scope lpos] X.env = (false, eval (.Lambda params body scope lpos) X.env) :: starEach [] X.env := by rfl)
    (hpl : (backTo pos (starEach [.Lambda params body scope lpos] X.env)).any (·.1) = false := by rfl)
    (ht : eval (.Call (.Attribute o m apos) [e, .Lambda params body scope lpos] [] pos) X.env = (do
      let ov ← eval o X.env
      standAt apos.atName
      let (f, first) ← holding [ov] (getMethod ov m pl)
      callWith pos f first (backTo pos (starEach [e, .Lambda params body scope lpos] X.env)) (backToKw pos (keywordEach [] X.env))) := by rfl) :
    WEg X G0 (.Call (.Attribute o m apos) [e, .Lambda params body scope lpos] [] pos) ρ μ Φ := ⟨fun σ G H Q s0 mm r qk => by
  obtain ⟨g, h1, h2, h4, Fr⟩ := AP.ex
  obtain ⟨W, t1, t2⟩ := tk.ex
  intro pins s I
  have hh := h.run σ G H (fun x H1 => ∃ (a dx : Addr) (vs : List (Option V)) (G1 : Hp) (μ1 : Mu) (d : D), x = .ref a ∧ SlX.Slt H1 a C dx vs ∧ Same G G1 ∧ SM X.K G1 H1 μ1 ∧ Rep X.K G1 x d ∧ WE X e ρ μ1 fun y μ2 => At μ2 P (.tab q) (.tab q) μ2 ∧ ∀ f, SA S [d, y, .ref f] μ2 Φ fun c μ3 => Ψ c ρ μ3) mm r fun x v G1 H1 μ1 s1 m1 rx ⟨hv, k1⟩ => by
    obtain ⟨a, dx, vs, rfl, hs⟩ := recv_slt m1 rx hv
    exact ⟨a, dx, vs, G1, μ1, x, rfl, hs, s1, m1, rx, k1⟩
  refine PySem.W.methodCall_KW (pl := pl) (thn (hh pins s I) fun u s1 ⟨x, H1, I1, rx, a, dx, vs, G1, μ1, d, ex, hsl, sG, m1, rd, k1⟩ => ?_) ht
  subst ex
  obtain rfl : u = Value.ref a := rx
  refine SlX.getmethsl_ok I1 hsl kc.c ⟨h1, h2, h4⟩ ?_
  refine PySem.W.callWith_K (h₀ := X.base) (first := [.ref a]) I1.ok.mod.kin h4 ?_ he hpl
  rw [he, he2]
  show wpAny _ _ (spliced ((false, eval e X.env) :: (false, _) :: backTo pos (starEach [] X.env))) _ _ s1
  have hy := k1.run σ G1 H1 (fun y H2 => ∃ (G2 : Hp) (μ2 : Mu) (d2 : D), Same G1 G2 ∧ SM X.K G2 H2 μ2 ∧ Rep X.K G2 y d2 ∧ At μ2 P (.tab q) (.tab q) μ2 ∧ ∀ f, SA S [d, d2, .ref f] μ2 Φ fun c μ3 => Ψ c ρ μ3) m1 (r.same sG) fun y v G2 H2 μ2 s2 m2 ry ⟨z1, z2⟩ => ⟨G2, μ2, y, s2, m2, ry, z1, z2⟩
  refine Calls.spliced_cons (thn (hy pins s1 I1) fun u2 s2 ⟨y, H2, I2, ry, G2, μ2, d2, sG2, m2, rd2, hat, hSA⟩ => ?_)
  have hfree' : ∀ y ∈ scope.names, y.2 = .free → ∃ c, X.env.cells.lookup y.1 = some c := fun y hy e => (hfree y hy e).elim (fun z => I2.ok.has _ (.inl z)) fun z => I2.ok.has _ (.inr z)
  refine Calls.spliced_cons (lam_makeD I2 m2 hat hq TB hcode hdef hfree' fun f c' pm ctv G3 H3 s3 I3 sG3 m3 hf hfn hff hco => ?_)
  refine Calls.spliced_nil ⟨I3.kIn, ?_⟩
  have r3 := r.same (sG.trans (sG2.trans sG3))
  have L := lamF_of I3 m3 r3 hf hfn hff hco Sc (Caps.made I3.ok hfree hfr hjs) hbind hlen (fun A outer s H E hr' G0 ds μ Φ Ψ hS tk' => hbody f c' A outer s H E hr' G0 ds μ Φ Ψ hS tk')
  show wpAny _ _ (call (.ref g) [.ref a, u2, .ref f]) _ _ _
  refine wpAny_call (codeAny_mono (Fr X.A X.stack s3 H3 G3 [.ref a, u2, .ref f] [.ref a, y, .ref f] d d2 f μ2 S Φ _ Q (fun cls d H' => W cls d σ H') hr I3.env0 L m3 (.cons rfl (.cons ry (.cons rfl .nil))) (.cons ((rd.same sG2).same sG3) (.cons (rd2.same sG3) (.cons (.ref f) .nil))) (hSA f) (qk.same (sG.trans (sG2.trans sG3)))
    fun c G' H' μ' s1 m1 z => t2 c σ G' H' ρ μ' (s0.trans ((sG.trans (sG2.trans sG3)).trans s1)) m1 (r3.same s1) z) fun rr s' hq => ?_)
  cases rr with
  | error e => exact t1 e s' (L2N.XE.of_call I3 (fun _ _ _ z => z) hq)
  | ok fl =>
    cases fl with
    | ret u => exact I3.after hq
    | next => exact False.elim hq
    | brk => exact False.elim hq
    | cont => exact False.elim hq⟩
end
end DL
namespace DL
open PySem PySem.Spec PyProof.Rows L2 LamX NdefX
theorem Nx.nc {CX : CXT} {P : Program} {w : World} {K : PySem.W.Frag} {mg : Str → Option Value} {base : Heap} {N : List Str} {F : NF} {f : Addr} {A : Around} {outer : List Env} {s : Shared} {H : Hp} {E : XK} : Nx (ncx CX P w K mg base N F f A outer s H E) N := .any rfl
theorem Nx.hot {CX : CXT} {P : Program} {w : World} {K : PySem.W.Frag} {mg : Str → Option Value} {base : Heap} {N : List Str} {qual : Str} {scope : Scope} {f : Addr} {cd : Value} {A : Around} {outer : List Env} {s : Shared} {H : Hp} {E : XK} {p : Addr × Obj} : Nx (L2H.cxH CX P w K mg base N qual scope f cd A outer s H E p).nox N := .any rfl
section
variable {X : Cx} {G0 : Hp} {ρ : Rho} {μ : Mu} {Φ : D → Mu → Prop} {F : Fx} {Ψ : Value → Rho → Mu → Prop} {e : Expr}
/-- what an exception leaves may be less, in any order -/
theorem TKs.less (t : TKs X G0 Ψ) : TKs X G0 (fun c ρ μ => ∃ μ2 μ3 : Mu, μ2.Sublist μ ∧ μ3.Perm μ2 ∧ Ψ c ρ μ3) := by
  obtain ⟨W, h1, h2⟩ := t.ex
  exact ⟨W, h1, fun cls σ G' H ρ μ s m r ⟨μ2, μ3, hs, hp, k⟩ => h2 cls σ G' H ρ μ3 s ((m.sub hs).perm hp) r k⟩
theorem weg_perm {ν : Mu} (h : ν.Perm μ) (k : WEg X G0 e ρ ν Φ) : WEg X G0 e ρ μ Φ := ⟨fun σ G H Q s0 m r q => k.run σ G H Q s0 (m.perm h) r q⟩
theorem wsg_perm {ν : Mu} {st : Stmt} (h : ν.Perm μ) (k : WSg X G0 st ρ ν F) : WSg X G0 st ρ μ F := ⟨fun σ G H Q s0 m r q => k.run σ G H Q s0 (m.perm h) r q⟩
theorem wbg_perm {ν : Mu} {st : List Stmt} (h : ν.Perm μ) (k : WBg X G0 st ρ ν F) : WBg X G0 st ρ μ F := ⟨fun σ G H Q s0 m r q => k.run σ G H Q s0 (m.perm h) r q⟩
/-- the places that an answer leaves: less, in any order -/
theorem weg_less (h : WEg X G0 e ρ μ fun d μ1 => ∃ μ2 μ3 : Mu, μ2.Sublist μ1 ∧ μ3.Perm μ2 ∧ Φ d μ3) : WEg X G0 e ρ μ Φ := ⟨fun σ G H Q s0 m r q => h.run σ G H Q s0 m r fun d v G1 H1 μ1 s1 m1 rd ⟨μ2, μ3, hs, hp, k⟩ => q d v G1 H1 μ3 s1 ((m1.sub hs).perm hp) rd k⟩
theorem we_less (h : WE X e ρ μ fun d μ1 => ∃ μ2 μ3 : Mu, μ2.Sublist μ1 ∧ μ3.Perm μ2 ∧ Φ d μ3) : WE X e ρ μ Φ := ⟨fun σ G H Q m r q => h.run σ G H Q m r fun d v G1 H1 μ1 s1 m1 rd ⟨μ2, μ3, hs, hp, k⟩ => q d v G1 H1 μ3 s1 ((m1.sub hs).perm hp) rd k⟩
theorem wsg_expr {N : Rho → Mu → Prop} {R : D → Mu → Prop} {pos : Pos} (k : WEg X G0 e ρ μ fun _ μ1 => N ρ μ1) (hs : swapsWith e none pos.line X.env = pure false := by rfl) : WSg X G0 (.Expr e pos) ρ μ ⟨N, R⟩ := ⟨fun σ G H E s0 m r q =>
  toWS (ps_expr pe_W hs) (k.run σ G H _ s0 m r fun d v G1 H1 μ1 s1 m1 rd k1 => q.nx _ _ G1 H1 μ1 s1 m1 (r.same s1) k1)⟩
end
end DL
namespace DL
open PySem PySem.Spec PyProof.Rows L2
section
variable {X : Cx} {G0 : Hp} {ρ : Rho} {μ : Mu} {Φ : D → Mu → Prop} {F : Fx} {Ψ : Value → Rho → Mu → Prop} {e c : Expr} {pos : Pos}
/-- while c: body -/
theorem ws_while {α : Type} {body : List Stmt} {N : Rho → Mu → Prop} {R : D → Mu → Prop} (ρf : α → Rho) (μf : α → Mu) (meas : α → Nat) (Pv : α → Prop) (a0 : α) (hp : PassesOwn (model X.prog X.w) X.A X.env X.xe) (e0 : ρ = ρf a0) (e1 : μ = μf a0) (p0 : Pv a0)
    (step : ∀ a, Pv a → WT X c (ρf a) (μf a) fun t μ1 => It t (WB X body (ρf a) μ1 ⟨fun ρ2 μ2 => ∃ a', Pv a' ∧ meas a' < meas a ∧ ρ2 = ρf a' ∧ μ2 = μf a', R⟩) (N (ρf a) μ1)) : WS X (.While c body [] pos) ρ μ ⟨N, R⟩ := ⟨fun σ G H E m r q => by
  subst e0 e1
  refine toWS (ps_while hp pt_W pss_W) ⟨fun n σ' H' => ∃ a G', Pv a ∧ meas a = n ∧ Same G G' ∧ SM X.K G' H' (μf a) ∧ RS X.K G' σ' (ρf a), ⟨meas a0, a0, G, p0, rfl, Same.refl G, m, r⟩, ?_⟩
  rintro n σ' H' ⟨a, G', pa, rfl, s1, m1, r1⟩
  refine (step a pa).run σ' G' H' _ m1 r1 fun t G2 H2 μ2 s2 m2 k2 => ?_
  cases t with
  | true =>
    rw [if_pos rfl]
    refine ⟨fun σ3 H3 => ∃ a' G3, Pv a' ∧ meas a' < meas a ∧ Same G G3 ∧ SM X.K G3 H3 (μf a') ∧ RS X.K G3 σ3 (ρf a'), fun σ3 H3 ⟨a', G3, pa', hl, s3, m3, r3⟩ => ⟨_, hl, a', G3, pa', rfl, s3, m3, r3⟩, ?_⟩
    refine k2.tt.run σ' G2 H2 _ m2 (r1.same s2) ⟨fun σ3 ρ3 G3 H3 μ3 s3 m3 r3 k3 => ?_, (q.same (s1.trans s2)).rt⟩
    obtain ⟨a', pa', hl, rfl, rfl⟩ := k3
    exact ⟨a', G3, pa', hl, (s1.trans s2).trans s3, m3, r3⟩
  | false =>
    rw [if_neg Bool.false_ne_true]
    exact q.nx σ' (ρf a) G2 H2 μ2 (s1.trans s2) m2 (r1.same s2) k2.ff⟩
/-- where nothing is raised -/
theorem ws_nox {st : Stmt} (h : WS X.nox st ρ μ F) : WS X st ρ μ F := ⟨fun σ G H E m r q => fun pins s I => wpAny_mono (h.run σ G H E m r q pins s (I.wish _)) (fun _ _ z => z.unwish) fun _ _ z => False.elim z⟩
theorem wb_nox {st : List Stmt} (h : WB X.nox st ρ μ F) : WB X st ρ μ F := ⟨fun σ G H E m r q => toWB (PSs.nox pss_W) (h.run σ G H E m r q)⟩
end
end DL
namespace DL
open PySem PySem.Spec PyProof.Rows L2 LamX NdefX
theorem op_isB {X : Cx} : OpR X (compareOp .Is) (fun x y H Q => ∃ a b, x = .bl a ∧ y = .bl b ∧ Q (.bl (decide (a = b))) H) := by
  intro pins s σ H x y v u Q I rx ry h
  obtain ⟨a, b, rfl, rfl, q⟩ := h
  cases rx
  cases ry
  refine PySem.wpAny_is_plain rfl (fin_bl I q ?_)
  cases a <;> cases b <;> rfl
theorem rd_isB {K : PySem.W.Frag} {μ : Mu} {Φ : D → Mu → Prop} {a b : Bool} (k : Φ (.bl (decide (a = b))) μ) : RD K (fun x y H Q => ∃ a b, x = .bl a ∧ y = .bl b ∧ Q (.bl (decide (a = b))) H) (.bl a) (.bl b) μ Φ := ⟨fun G H ux uy Q m rx ry q => by
  cases rx; cases ry
  exact ⟨a, b, rfl, rfl, q _ _ G H μ (Same.refl G) m (.bl _) k⟩⟩
/-- the script's list: a constant, or a place of its own -/
def ScriptAt (K : PySem.W.Frag) (μ : Mu) (a : Addr) (ns : List Int) : Prop := (∀ H, SqL K H a (ns.map V.int)) ∨ ∃ (o : HO) (μ' : Mu), (o = .lst (ns.map V.int) ∨ ∃ ob, o = .frz ob (.lst (ns.map V.int))) ∧ Pick μ a (.opq o) μ'
theorem ScriptAt.sq {K : PySem.W.Frag} {μ : Mu} {a : Addr} {ns : List Int} {G H : Hp} (h : ScriptAt K μ a ns) (m : SM K G H μ) : SqL K H a (ns.map V.int) := by
  rcases h with h | ⟨o, μ', ho, pk⟩
  · exact h H
  · obtain ⟨_, e, _⟩ := m.cell _ pk.mem
    rcases ho with rfl | ⟨ob, rfl⟩
    · exact .inl (.inl e)
    · exact .inl (.inr ⟨ob, e⟩)
theorem reps_ints {K : PySem.W.Frag} {G : Hp} : ∀ ns : List Int, Reps K G (ns.map V.int) (ns.map D.int)
  | [] => .nil
  | n :: ns => .cons (.int n) (reps_ints ns)
theorem we_slS {X : Cx} {ρ : Rho} {μ : Mu} {Φ : D → Mu → Prop} {e : Expr} {pos p2 : Pos} {lo hi : Option Expr} (h : WE X e ρ μ fun x μ1 => WO X lo ρ μ1 fun l μ2 => WO X hi ρ μ2 fun u μ3 => ∃ (a : Addr) (ns : List Int), x = .ref a ∧ ScriptAt X.K μ3 a ns ∧ Φ (.lst (cutD (ns.map D.int) l u)) μ3) : WE X (.Subscript e (.Slice lo hi none p2) pos) ρ μ Φ := ⟨fun σ G H Q m r q =>
  toW (pe_slice sl_list pe_W po_W po_W) (h.run σ G H _ m r fun x v G1 H1 μ1 s1 m1 rx k1 => k1.run σ G1 H1 _ m1 (r.same s1) fun l G2 H2 μ2 s2 m2 k2 => k2.run σ G2 H2 _ m2 ((r.same s1).same s2) fun u G3 H3 μ3 s3 m3 ⟨a, ns, ex, hs, k3⟩ => by
    subst ex
    cases rx
    refine ⟨a, _, rfl, hs.sq m3, fun p hp => ?_⟩
    have w := grow_new (o := .lst (cutV (ns.map V.int) l u)) m3.same hp
    exact q _ _ _ _ μ3 (((s1.trans s2).trans s3).trans w.g) (m3.grow w) (.lst upd_same ((reps_cut (reps_ints ns) l u).same w.g)) k3)⟩
/-- a def by its body, the promise told of all ways to bind -/
theorem fn_DO {P : Program} {w : World} {K : PySem.W.Frag} {mg : Str → Option Value} {base : Heap} {x qual : Str} {params : Arguments} {body : List Stmt} {scope : Scope} {f : Addr} {fd : FuncData} {N ps : List Str} {k : Nat} {S : Spec} (F : FunD K x qual params body scope [] [] f fd) (Sc : FnScope N ps scope)
    (hlen : ∀ ds μ Φ Ψ, S ds μ Φ Ψ → ds.length = ps.length)
    (hbody : ∀ (cdv : Value) (A : Around) (outer : List Env) (s : Shared) (H : Hp) (E : XK), Room k (A.deeper (envOfC qual scope s.heap.objs.size f cdv)) → ∀ (ds : List D) (μ : Mu) (Φ : D → Mu → Prop) (Ψ : Value → Mu → Prop), S ds μ Φ Ψ →
      WB (cxOf CX0 P w K mg base N qual scope f cdv A outer s H E).nox body (rho0 N ds) μ ⟨fun _ μ' => Φ .non μ', Φ⟩) : FnOk P w K mg base CX0 (k + 1) f fd ps (spD K S) := by
  refine F.ok Sc (fun vs H Q E h => ?_) (fun cdv A outer s H vs Q E hr h => ?_)
  · obtain ⟨G, μ, ds, Φ, Ψ, m, r, hs, _⟩ := h
    rw [r.length]
    exact hlen _ _ _ _ hs
  · obtain ⟨G, μ, ds, Φ, Ψ, m, r, hs, q, _⟩ := h
    exact ⟨_, PSs.nox pss_W, (hbody cdv A outer s H E hr ds μ Φ Ψ hs).run _ G H _ m (rs_start r) ⟨fun σ' ρ' G' H' μ' s1 m1 _ k1 => q .non .non G' H' μ' s1 m1 .non k1, q⟩⟩
/-- a def by its body, its code object told -/
theorem fn_DC {P : Program} {w : World} {K : PySem.W.Frag} {mg : Str → Option Value} {base : Heap} {x qual : Str} {params : Arguments} {body : List Stmt} {scope : Scope} {f cB : Addr} {fd : FuncData} {N ps : List Str} {k : Nat} {S : Spec} (F : FunD K x qual params body scope [] [] f fd) (hc : fd.code = .ref cB) (Sc : FnScope N ps scope)
    (hb : ∀ (kV doc pm : Value) (an : Option Addr) (cdv ct : Value) (us : List Value), us.length = ps.length → bindArgs (PySem.W.fnOf x qual params body scope .none kV doc pm an cdv ct) ⟨us, []⟩ = pure (ps.zip us))
    (hlen : ∀ ds μ Φ Ψ, S ds μ Φ Ψ → ds.length = ps.length)
    (hbody : ∀ (A : Around) (outer : List Env) (s : Shared) (H : Hp) (E : XK), Room k (A.deeper (envOfC qual scope s.heap.objs.size f (.ref cB))) → ∀ (ds : List D) (μ : Mu) (Φ : D → Mu → Prop) (Ψ : Value → Mu → Prop), S ds μ Φ Ψ →
      WB (cxOf CX0 P w K mg base N qual scope f (.ref cB) A outer s H E).nox body (rho0 N ds) μ ⟨fun _ μ' => Φ .non μ', Φ⟩) : FnR P w K mg base CX0 (k + 1) f (spD K S) := by
  have b := FunD.bindsN (ps := ps) F hb
  have ok : FnOk P w K mg base CX0 (k + 1) f fd ps (spD K S) := by
    obtain ⟨oc, od, dV, kV, doc, pm, an, cdv, ct, osl, rfl, lk, hcd, _, _⟩ := F.ex
    obtain rfl : cdv = .ref cB := hc
    refine fn_of lk hcd Sc (fun vs H Q E h => ?_) (fun A outer s H vs Q E hr h => ?_)
    · obtain ⟨G, μ, ds, Φ, Ψ, m, r, hs, _⟩ := h
      rw [r.length]
      exact hlen _ _ _ _ hs
    · obtain ⟨G, μ, ds, Φ, Ψ, m, r, hs, q, _⟩ := h
      exact ⟨_, PSs.nox pss_W, (hbody A outer s H E hr ds μ Φ Ψ hs).run _ G H _ m (rs_start r) ⟨fun σ' ρ' G' H' μ' s1 m1 _ k1 => q .non .non G' H' μ' s1 m1 .non k1, q⟩⟩
  exact FnR.imp (ok.raw b .nil) fun vs H Q E h => by rw [List.append_nil]; exact h
end DL
namespace DL
open PySem PySem.Spec PyProof.Rows L2
/-! ### what the facts say -/
section
variable {K : PySem.W.Frag} {h : Heap} {mg : Str → Option Value}
theorem glo_ok {x : Str} {a : Addr} (X : K.In h) (G : h.Ns mainGlobals mg) (c : (Fc.glo x a).ok K = true) : mg x = some (.ref a) := PySem.W.mg_of X G (He.eqO_ok (He.ba c).1)
theorem kl_ok {C : Addr} (c : (Fc.kl C).ok K = true) : Kl K C := by
  obtain ⟨c1, c2⟩ := He.ba c
  obtain ⟨a1, a2⟩ := He.ba c1
  obtain ⟨a2, a3⟩ := He.ba a2
  obtain ⟨a3, a4⟩ := He.ba a3
  obtain ⟨b1, b2⟩ := He.ba c2
  obtain ⟨d1, d2⟩ := He.ba b1
  obtain ⟨d2, d3⟩ := He.ba d2
  obtain ⟨d3, d4⟩ := He.ba d3
  exact ⟨⟨a1, a2, a3, He.eqO_ok a4⟩, ⟨He.eqO_ok d1, He.eqO_ok d2, of_decide_eq_true d3, of_decide_eq_true d4⟩, of_decide_eq_true b2⟩
theorem sl_ok {C p : Addr} {f : Str} {i : Nat} (c : (Fc.sl C f i p).ok K = true) : Sl K C f i := by
  obtain ⟨c1, c⟩ := He.ba c
  obtain ⟨c2, c⟩ := He.ba c
  obtain ⟨c3, c⟩ := He.ba c
  obtain ⟨c4, c⟩ := He.ba c
  obtain ⟨c5, c6⟩ := He.ba c
  exact ⟨_, He.eqO_ok c1, He.eqO_ok c2, of_decide_eq_true c3, of_decide_eq_true c4, of_decide_eq_true c5, of_decide_eq_true c6⟩
theorem meth_ok {C g : Addr} {m : Str} (c : (Fc.meth C m g).ok K = true) : PySem.W.findIn K (.ref C) m = some (some (.ref g)) ∧ PySem.W.isFn K (.ref g) = true ∧ PySem.W.fnIn K g = true ∧ PySem.W.keepIn K (.ref g) = true := by
  obtain ⟨c1, c⟩ := He.ba c
  obtain ⟨c2, c⟩ := He.ba c
  obtain ⟨c3, c4⟩ := He.ba c
  exact ⟨He.eqO_ok c1, c2, c3, c4⟩
theorem ne_ok {C : Addr} (c : (Fc.ne C).ok K = true) : NeK K C := by
  obtain ⟨c1, c2⟩ := He.ba c
  exact ⟨He.eqO_ok c1, of_decide_eq_true c2⟩
theorem bt_ok {C : Addr} (c : (Fc.bt C).ok K = true) : BinT K C .LShift := by
  obtain ⟨c1, c⟩ := He.ba c
  obtain ⟨c2, c⟩ := He.ba c
  obtain ⟨c3, c4⟩ := He.ba c
  obtain ⟨fo, hfo⟩ := Option.isSome_iff_exists.mp c2
  obtain ⟨ro, hro⟩ := Option.isSome_iff_exists.mp c3
  have hrc : ∃ rc : Option Value, PySem.W.findIn K (.ref C) (PySem.dunderR Operator.LShift.info.2) = some rc ∧ (rc = none ∨ ∃ g : Addr, rc = some (.ref g)) := by
    revert c1
    cases PySem.W.findIn K (.ref C) (PySem.dunderR Operator.LShift.info.2) with
    | none => intro c1; cases c1
    | some r =>
      intro c1
      cases r with
      | none => exact ⟨_, rfl, .inl rfl⟩
      | some v =>
        cases v with
        | ref g => exact ⟨_, rfl, .inr ⟨g, rfl⟩⟩
        | _ => cases c1
  obtain ⟨rc, h1, h2⟩ := hrc
  exact ⟨rc, fo, ro, h1, h2, hfo, hro, of_decide_eq_true c4⟩
theorem exn_ok (X : K.In h) (G : h.Ns mainGlobals mg) {x : Str} {C : Addr} (g : (Fc.glo x C).ok K = true) (c : (Fc.exn C).ok K = true) : Exn K mg x C := by
  obtain ⟨c1, c⟩ := He.ba c
  obtain ⟨c2, c⟩ := He.ba c
  obtain ⟨c3, c4⟩ := He.ba c
  exact ⟨⟨_, _, _, _, PySem.F.excBase_ValueError, c1⟩, glo_ok X G g, (He.ba g).2, of_decide_eq_true c2, of_decide_eq_true c3, of_decide_eq_true c4⟩
theorem tup_ok (X : K.In h) (G : h.Ns mainGlobals mg) {x : Str} {a : Addr} {xs : List Str} (c : (Fc.tup x a xs).ok K = true) : Gc K mg x (.tup (xs.map D.str)) := by
  obtain ⟨c1, c0⟩ := He.ba c
  clear c
  refine ⟨_, .ref a, PySem.W.mg_of X G (He.eqO_ok c1), rfl, fun H => ?_⟩
  have z : SqT K H a (xs.map V.str) := by
    have c2 : (match K.lookup a with
      | some ⟨.type c, _, .seq its _, _⟩ => decide (c = "tuple") && (decide (its.size ≤ sizeLine) && He.relAll (xs.map V.str) its.toList)
      | _ => false) = true := c0
    revert c2
    split
    · rename_i c od its n sl q
      intro c2
      obtain ⟨h1, c3⟩ := He.ba c2
      obtain ⟨h2, h3⟩ := He.ba c3
      obtain rfl := of_decide_eq_true h1
      exact .inr ⟨_, its, n, q, rfl, rfl, of_decide_eq_true h2, He.relAll_ok h3⟩
    · intro c2; cases c2
  refine .tup z ?_
  clear z c0
  induction xs with
  | nil => exact .nil
  | cons y ys ih => exact .cons (.str y) ih
theorem int_ok (X : K.In h) (G : h.Ns mainGlobals mg) {x : Str} {i : Int} (c : (Fc.int x i).ok K = true) : Gc K mg x (.int i) := by
  obtain ⟨t, e⟩ := He.int_ok X G c
  exact ⟨_, .int i, e, ⟨t, rfl⟩, fun _ => .int i⟩
theorem str_ok (X : K.In h) (G : h.Ns mainGlobals mg) {x z : Str} (c : (Fc.str x z).ok K = true) : Gc K mg x (.str z) := by
  obtain ⟨t, e⟩ := He.str_ok X G c
  exact ⟨_, .str z, e, ⟨t, rfl⟩, fun _ => .str z⟩
theorem cls_gc (X : K.In h) (G : h.Ns mainGlobals mg) {x : Str} {a : Addr} (c : (Fc.glo x a).ok K = true) : Gc K mg x (.ref a) := ⟨_, .ref _, glo_ok X G c, rfl, fun _ => .ref _⟩
theorem free_ok (X : K.In h) (G : h.Ns mainGlobals mg) {x : Str} (c : (Fc.free x).ok K = true) : mg x = none := He.free_ok X G c
theorem mkr_of {P : Program} {w : World} {base : Heap} {k : Nat} {S : Spec} (X : K.In h) (G : h.Ns mainGlobals mg) {x : Str} {C g : Addr} (c : (Fc.mk C g).ok K = true) (gl : (Fc.glo x C).ok K = true) (F : FnR P w K mg base CX0 k g (spD K S)) : Mkr P w K mg base k x C S := by
  obtain ⟨c1, c⟩ := He.ba c
  obtain ⟨c2, c⟩ := He.ba c
  obtain ⟨c3, c4⟩ := He.ba c
  exact ⟨_, ⟨c1, He.eqO_ok c2, c3, c4⟩, glo_ok X G gl, F⟩
theorem pr_of {P : Program} {w : World} {base : Heap} {k : Nat} {S : Spec} {C p g : Addr} {f : Str} (c : (Fc.prop C f p g).ok K = true) (F : FnR P w K mg base CX0 k g (spD K S)) : Pr P w K mg base k C f S := by
  obtain ⟨c1, c⟩ := He.ba c
  obtain ⟨c2, c⟩ := He.ba c
  obtain ⟨c3, c4⟩ := He.ba c
  refine ⟨_, g, He.eqO_ok c1, He.eqO_ok c2, of_decide_eq_true c3, ?_, F⟩
  revert c4
  split
  · rename_i g' r q
    intro c4
    obtain rfl := of_decide_eq_true c4
    exact ⟨r, q⟩
  · intro c4; cases c4
theorem cal_of {P : Program} {w : World} {base : Heap} {k : Nat} {S : Spec} (X : K.In h) (G : h.Ns mainGlobals mg) {x : Str} {a : Addr} (g : (Fc.glo x a).ok K = true) (F : FnR P w K mg base CX0 k a (spD K S)) : Cal P w K mg base k x S := ⟨_, glo_ok X G g, (He.ba g).2, F⟩
theorem caln_of {P : Program} {w : World} {base : Heap} {k : Nat} {S : Spec} (X : K.In h) (G : h.Ns mainGlobals mg) {x : Str} {a : Addr} (g : (Fc.glo x a).ok K = true) (F : FnR P w K mg base (L2N.CX P w) k a (spD K S)) : Caln P w K mg base k x S := ⟨_, glo_ok X G g, (He.ba g).2, F⟩
theorem om_of {CX : CXT} {P : Program} {w : World} {base : Heap} {k : Nat} {S : Spec} {C g : Addr} {m : Str} (c : (Fc.meth C m g).ok K = true) (F : FnR P w K mg base CX k g (spD K S)) : Om CX P w K mg base k C m S := by
  obtain ⟨h1, h2, h3, h4⟩ := meth_ok c
  exact ⟨_, h1, h2, h3, h4, F⟩
theorem st_of {P : Program} {w : World} {base : Heap} {k : Nat} {S : Spec} {C p g : Addr} {m : Str} (c : (Fc.stat C m p g).ok K = true) (F : FnR P w K mg base CX0 k g (spD K S)) : St0 P w K mg base k C m S := by
  obtain ⟨c1, c⟩ := He.ba c
  obtain ⟨c2, c⟩ := He.ba c
  obtain ⟨c3, c4⟩ := He.ba c
  cases em : PySem.W.typeIn K (.ref C) with
  | none => rw [em] at c1; cases c1
  | some mc =>
    rw [em] at c1
    obtain ⟨d1, d2⟩ := He.ba c1
    have hf : PySem.W.findCls K (.ref C) mc m = some (.get (.builtin "staticmethod.__get__") (.ref p) .none (.ref C)) := by
      revert d2
      split
      · rename_i i p' C' e
        intro d2
        obtain ⟨e1, e2⟩ := He.ba d2
        obtain ⟨e2, e3⟩ := He.ba e2
        have e1 := of_decide_eq_true e1
        have e2 := of_decide_eq_true e2
        have e3 := of_decide_eq_true e3
        subst e1 e2 e3
        exact e
      · intro d2; cases d2
    have hr : ∃ rest, PySem.W.recIn K p "staticmethod" = some (.ref g :: rest) := by
      revert c3
      split
      · rename_i g' r q
        intro c3
        obtain rfl := of_decide_eq_true c3
        exact ⟨r, q⟩
      · intro c3; cases c3
    obtain ⟨rest, hr⟩ := hr
    exact ⟨mc, p, g, rest, em, d1, He.eqO_ok c2, hf, hr, c4, F⟩
end
end DL
namespace DL
open PySem PySem.Spec PyProof.Rows L2
local macro_rules | `(tactic| kqd_ok) => `(tactic| repeat (first | with_reducible exact Ix.here | with_reducible apply Ix.there))
local macro_rules | `(tactic| kp_flats) => `(tactic| repeat (first | with_reducible exact Nx.cx | with_reducible exact Nx.cx0 | with_reducible apply Nx.blk))
local macro_rules | `(tactic| kpc_turns) => `(tactic| repeat (first | with_reducible exact At.here | with_reducible exact Pick.here | with_reducible exact AtF.here | with_reducible assumption | with_reducible apply At.there | with_reducible apply Pick.there | with_reducible apply AtF.there))
local macro_rules | `(tactic| kmj_zero) => `(tactic| refine we_vn (by kp_flats) (by kqd_ok) ?_)
local macro_rules | `(tactic| kj_one) => `(tactic| first
  | ((with_reducible show WE _ (Expr.Call (Expr.Name "isinstance" _) _ _ _) _ _ _); refine we_isi (by assumption) ?_)
  | ((with_reducible show WE _ (Expr.Call (Expr.Name "len" _) _ _ _) _ _ _); (fail_if_success (with_reducible show WE _ (Expr.Call _ [Expr.SetComp _ _ _ _] _ _) _ _ _)); (fail_if_success (with_reducible show WE _ (Expr.Call _ [Expr.Name "self" _] _ _) _ _ _)); (fail_if_success (with_reducible show WE _ (Expr.Call _ [Expr.Name "schema" _] _ _) _ _ _)); (fail_if_success (with_reducible show WE _ (Expr.Call _ [Expr.Name "_law_session" _] _ _) _ _ _)); refine we_len (by assumption) ?_)
  | ((with_reducible show WE _ (Expr.Call (Expr.Name "all" _) _ _ _) _ _ _); refine we_all (by assumption) rfl ?_)
  | ((with_reducible show WE _ (Expr.Call (Expr.Name "int" _) _ _ _) _ _ _); refine we_intf (by assumption) ?_)
  | ((with_reducible show WE _ (Expr.Call (Expr.Name "tuple" _) _ _ _) _ _ _); refine we_tupT (by assumption) ?_)
  | ((with_reducible show WE _ (Expr.Call (Expr.Attribute _ "append" _) _ _ _) _ _ _); refine we_app ?_))
local macro_rules | `(tactic| top_args) => `(tactic| first
  | ((with_reducible show WE _ (Expr.Name "int" _) _ _ _); refine we_t1 (by assumption) ?_)
  | ((with_reducible show WE _ (Expr.Name "str" _) _ _ _); refine we_t2 (by assumption) ?_)
  | ((with_reducible show WE _ (Expr.Name "tuple" _) _ _ _); refine we_t3 (by assumption) ?_)
  | ((with_reducible show WE _ (Expr.Name "list" _) _ _ _); refine we_t4 (by assumption) ?_)
  | ((with_reducible show WE _ (Expr.Name "bool" _) _ _ _); refine we_t5 (by assumption) ?_)
  | ((with_reducible show WE _ (Expr.Name "dict" _) _ _ _); refine we_t6 (by assumption) ?_))
local macro_rules | `(tactic| kmk_pure) => `(tactic| first
  | refine we_cmp (op := .Eq) (op_eqA (by assumption)) ?_ | refine we_cmp (op := .NotEq) (op_neA (by assumption)) ?_ | refine we_cmp (op := .Is) (r := rIsN) op_isN ?_ | refine we_cmp (op := .IsNot) (r := rNotN) op_notN ?_
  | refine we_cmp (op := .Lt) op_lt ?_ | refine we_cmp (op := .LtE) op_le ?_ | refine we_cmp (op := .Gt) op_gt ?_ | refine we_cmp (op := .GtE) op_ge ?_
  | refine we_chain op_le op_le ?_)
local macro_rules | `(tactic| kmk_part) => `(tactic| first
  | refine wt_cmp (op := .Eq) (op_eqA (by assumption)) ?_ | refine wt_cmp (op := .NotEq) (op_neA (by assumption)) ?_ | refine wt_cmp (op := .Is) (r := rIsN) op_isN ?_ | refine wt_cmp (op := .IsNot) (r := rNotN) op_notN ?_
  | refine wt_cmp (op := .Lt) op_lt ?_ | refine wt_cmp (op := .LtE) op_le ?_ | refine wt_cmp (op := .Gt) op_gt ?_ | refine wt_cmp (op := .GtE) op_ge ?_
  | refine wt_chain op_le op_le ?_)
local macro_rules | `(tactic| kpc_none) => `(tactic| first
  | ((with_reducible show WE _ (Expr.BinOp _ Operator.Add _ _) _ _ _); refine we_bin (op := .Add) op_addA ?_)
  | ((with_reducible show WE _ (Expr.BinOp _ Operator.Sub _ _) _ _ _); refine we_bin (op := .Sub) op_sub ?_)
  | ((with_reducible show WE _ (Expr.BinOp _ Operator.Mult _ _) _ _ _); refine we_bin (op := .Mult) op_mulA ?_)
  | ((with_reducible show WE _ (Expr.BinOp _ Operator.Mod _ _) _ _ _); refine we_bin (op := .Mod) op_mod ?_)
  | ((with_reducible show WE _ (Expr.BinOp _ Operator.FloorDiv _ _) _ _ _); refine we_bin (op := .FloorDiv) op_fdivW ?_)
  | ((with_reducible show WE _ (Expr.BinOp _ Operator.Pow _ _) _ _ _); refine we_bin (op := .Pow) op_pow ?_))
local macro_rules | `(tactic| tb_rel) => `(tactic| first
  | ((with_reducible show WE _ (Expr.Name _ _) _ _ _); first | kmj_zero | top_args)
  | ((with_reducible show WE _ (Expr.Constant _ _ _) _ _ _); first | refine we_int ?_ | refine we_str ?_ | refine we_non ?_ | refine we_bl ?_)
  | ((with_reducible show WE _ (Expr.Call _ _ _ _) _ _ _); kj_one)
  | ((with_reducible show WE _ (Expr.BoolOp _ _ _) _ _ _); first | refine we_one ?_ | refine we_and ?_ | refine we_or ?_)
  | ((with_reducible show WE _ (Expr.UnaryOp _ _ _) _ _ _); first | refine we_not ?_ | refine we_un un_neg ?_)
  | ((with_reducible show WE _ (Expr.IfExp _ _ _ _) _ _ _); refine we_ifx ?_)
  | ((with_reducible show WE _ (Expr.Compare _ _ _ _) _ _ _); kmk_pure)
  | ((with_reducible show WE _ (Expr.BinOp _ _ _ _) _ _ _); kpc_none)
  | ((with_reducible show WE _ (Expr.Subscript _ (Expr.Slice _ _ _ _) _) _ _ _); fail)
  | ((with_reducible show WE _ (Expr.Subscript _ _ _) _ _ _); (fail_if_success (with_reducible show WE _ (Expr.Subscript _ (Expr.Tuple _ _ _) _) _ _ _)); refine we_ix ix_seq ?_)
  | ((with_reducible show WE _ (Expr.Tuple _ _ _) _ _ _); refine we_tup ?_)
  | ((with_reducible show WE _ (Expr.List (_ :: _) _) _ _ _); refine we_lst ?_)
  | ((with_reducible show WA _ _ _ _ _); first | refine wa_nil ?_ | refine wa_cons ?_)
  | ((with_reducible show WO _ _ _ _ _); first | refine wo_no ?_ | refine wo_so ?_))
local macro_rules | `(tactic| tb_start) => `(tactic| first
  | ((with_reducible show WT _ (Expr.UnaryOp _ _ _) _ _ _); refine wt_not ?_)
  | ((with_reducible show WT _ (Expr.BoolOp _ _ _) _ _ _); first | refine wt_ww (ww_and ?_) | refine wt_ww (ww_or ?_))
  | ((with_reducible show WW _ (Expr.BoolOp _ _ _) _ _ _); first | refine ww_and1 ?_ | refine ww_or1 ?_ | refine ww_and ?_ | refine ww_or ?_)
  | ((with_reducible show WT _ (Expr.Compare _ _ _ _) _ _ _); kmk_part)
  | ((with_reducible show WT _ _ _ _ _); refine wt_val ?_))
local macro_rules | `(tactic| kpe_step) => `(tactic| first
  | ((with_reducible show WB _ _ _ _ _); refine wb_cons ?_)
  | ((with_reducible show WS _ (Stmt.Return _ _) _ _ _); refine ws_ret ?_)
  | ((with_reducible show WS _ (Stmt.Expr _ _) _ _ _); refine ws_expr ?_)
  | ((with_reducible show WS _ (Stmt.Assign [Expr.Name _ _] _ _) _ _ _); refine ws_setn (by kp_flats) (by kqd_ok) (by assumption) ?_)
  | ((with_reducible show WS _ (Stmt.Assign [Expr.Tuple [Expr.Name _ _, Expr.Name _ _] _ _] (Expr.Tuple [_, _] _ _) _) _ _ _); refine ws_par2 (by kp_flats) (by kqd_ok) (by kqd_ok) (by assumption) rfl ?_)
  | ((with_reducible show WS _ (Stmt.If _ _ _ _) _ _ _); refine ws_if ?_)
  | ((with_reducible show WG _ (Expr.Name _ _) _ _ _ _ _); refine wg_n (by kp_flats) (by kqd_ok) (by assumption) ?_)
  | ((with_reducible show WG _ (Expr.Tuple _ _ _) _ _ _ _ _); refine wg_tup rfl ?_)
  | ((with_reducible show WGs _ _ _ _ _ _ _); first | refine wgs_nil ?_ | refine wgs_cons ?_)
  | ((with_reducible show WTs _ _ _ _ _); first | refine wts_nil ?_ | refine wts_one ?_))
local macro_rules | `(tactic| kj_step) => `(tactic| first
  | ((with_reducible show Bl _ _ _); refine bl_i ?_)
  | ((with_reducible show It true _ _); refine it_t ?_)
  | ((with_reducible show It false _ _); refine it_f ?_)
  | ((with_reducible show It (!isB _ _) _ _); first | refine it_f ?_ | refine it_t ?_)
  | ((with_reducible show It (isB _ _) _ _); first | refine it_f ?_ | refine it_t ?_)
  | ((with_reducible show It (decide _) _ _); first | refine it_yes (by first | decide | exact rfl) ?_ | refine it_no (by decide) ?_)
  | ((with_reducible show It (!decide _) _ _); first | refine it_noN (by first | decide | exact rfl) ?_ | refine it_yesN (by decide) ?_)
  | ((with_reducible show It (!false) _ _); refine it_t ?_)
  | ((with_reducible show It (!true) _ _); refine it_f ?_)
  | ((with_reducible show UD _ _ _ _ _); refine ud_neg ?_)
  | ((with_reducible show RD _ _ _ _ _ _); first
    | ((with_reducible show RD _ (rEqA _) _ _ _ _); first | with_reducible refine rd_eqP (rd_eqNm ?_) | with_reducible refine rd_eqP (rd_eqOI ?_) | with_reducible refine rd_eqP (rd_eqS ?_) | with_reducible refine rd_eqP (rd_eqI ?_) | with_reducible refine rd_eqP (rd_eqB ?_) | refine rd_eqP (rd_eq .non (.int _) rfl ?_) | refine rd_eqP (rd_eq (.int _) .non rfl ?_) | refine rd_eqP (rd_eq .non .non rfl ?_))
    | ((with_reducible show RD _ (rNeA _) _ _ _ _); first | with_reducible refine rd_neP (rd_neNm ?_) | with_reducible refine rd_neP (rd_neOI ?_) | with_reducible refine rd_neP (rd_neS ?_) | with_reducible refine rd_neP (rd_neI ?_))
    | ((with_reducible show RD _ rIsN _ _ _ _); refine rd_isN ?_) | ((with_reducible show RD _ rNotN _ _ _ _); refine rd_notN ?_)
    | ((with_reducible show RD _ (rI0 _) _ _ _ _); first | refine rd_I0 (fun _ => .int _) ?_ | refine rd_I0 (fun _ => .bl _) ?_)
    | ((with_reducible show RD _ (rAdd _) (D.int _) (D.int _) _ _); refine rd_addI ?_)
    | ((with_reducible show RD _ rMul (D.int _) (D.int _) _ _); refine rd_mulI (by first | exact cmul_r (by decide) (by decide) | exact cmul_l (by decide) (by decide)) ?_)
    | ((with_reducible show RD _ (rI CPow _) _ _ _ _); refine rd_pow ⟨by decide, by decide, by decide⟩ ?_)
    | ((with_reducible show RD _ (rI CDivW _) _ _ _ _); refine rd_fdiv ⟨by decide, by decide⟩ ?_)
    | ((with_reducible show RD _ (rI _ _) _ _ _ _); refine rd_mod (by first | decide | assumption) ?_)
    | ((with_reducible show RD _ (rIx _) _ _ _ _); first | refine rd_ixT (d := _) rfl ?_ | refine rd_ixL (d := _) rfl ?_ | refine rd_ixM (by kpc_turns) (d := _) rfl ?_))
  | ((with_reducible show ∃ b, IsiD _ _ b ∧ _); refine ⟨_, isi_i rfl (by decide), ?_⟩)
  | ((with_reducible show ∃ i, D.int _ = D.int i ∧ _); refine ⟨_, rfl, ?_⟩)
  | ((with_reducible show ∃ q ds0 μ0, D.ref _ = D.ref q ∧ _); refine ⟨_, _, _, rfl, by kpc_turns, ?_⟩)
  | ((with_reducible show ∃ ds μ', At _ _ _ _ μ' ∧ List.length _ < 1000 ∧ _); refine ⟨_, _, by kpc_turns, ?_, ?_⟩)
  | ((with_reducible show ∃ ds μ2, TakeL _ _ ds μ2 ∧ _); first | refine ⟨_, _, .f, ?_⟩ | refine ⟨_, _, .m (by kpc_turns), ?_⟩)
  | ((with_reducible show List.length _ ≤ 1000 ∧ _); refine ⟨Nat.le_of_ble_eq_true rfl, ?_⟩)
  | ((with_reducible show ∃ n, LenD _ _ n ∧ _); first | refine ⟨_, len_t, ?_⟩ | refine ⟨_, len_l, ?_⟩ | refine ⟨_, len_nm, ?_⟩ | refine ⟨_, len_m (by kpc_turns), ?_⟩))
local macro_rules | `(tactic| kpc_obj) => `(tactic| repeat (first | kj_step | tb_rel | tb_start | with_reducible assumption | kpe_step))
local macro_rules | `(tactic| kqd_all) => `(tactic| repeat (first | kj_step | tb_rel | tb_start | with_reducible assumption | kpe_step | ((with_reducible show WB _ _ _ _ _); refine wb_nil ?_)))
local macro_rules | `(tactic| kpc_if) => `(tactic| exact blkok_of rfl (by kernel_rfl) (by kernel_rfl) (by kernel_rfl) (by kernel_rfl))
section
theorem atI_nat {α : Type} {ds : List α} {j : Nat} {d : α} (h : ds[j]? = some d) : L2.atI ds (j : Int) = some d := by
  have hl := (List.getElem?_eq_some_iff.mp h).1
  unfold L2.atI ixN
  simp [hl]
  exact (List.getElem?_eq_some_iff.mp h).2
/-! ### the draws -/
section
variable {P : Program} {w : World} {K : PySem.W.Frag} {mg : Str → Option Value} {base : Heap} {f : Addr} {fd : FuncData}
def sCellAt : Spec := fun ds μ Φ _ => ∃ (s : List Int) (k : Int), ds = [.lst (s.map D.int), .int k] ∧ 0 ≤ k ∧ ∀ c, Φ (.int c) μ
theorem ok_cell_at (F : Fd K "_law_cell_at" "_law_cell_at" s_law_cell_at f fd) (T : Bn mg) : FnR P w K mg base CX0 1 f (spD K sCellAt) := by
  refine fn_D F sc_law_cell_at (fun _ _ _ _ _ _ us hl => match us, hl with | [_, _], _ => rfl) (fun ds μ Φ Ψ h => by obtain ⟨s, k, rfl, _⟩ := h; rfl) ?_
  rintro cdv A outer s0 H E hr ds μ Φ Ψ ⟨s, k, rfl, h0, q⟩
  kqd_all
  refine it_by (fun h => ?_) fun _ => ?_
  · kqd_all
    rw [List.length_map] at h
    obtain ⟨j, rfl⟩ : ∃ j : Nat, k = j := ⟨k.toNat, by omega⟩
    have hj : j < s.length := by omega
    exact rd_ixL (atI_nat (by rw [List.getElem?_map, List.getElem?_eq_getElem hj]; rfl)) (q _)
  · kqd_all
    exact q 0
theorem ix_of {α : Type} {ds : List α} {i : Int} (h0 : 0 ≤ i) (h1 : i < ds.length) : ∃ d, L2.atI ds i = some d ∧ d ∈ ds := by
  obtain ⟨j, rfl⟩ : ∃ j : Nat, i = j := ⟨i.toNat, by omega⟩
  have hj : j < ds.length := by omega
  exact ⟨ds[j], atI_nat (List.getElem?_eq_getElem hj), List.getElem_mem hj⟩
/-- any number from 0 to below n -/
def sDraw : Spec := fun ds μ Φ _ => ∃ (c k n : Int), ds = [.int c, .int k, .int n] ∧ 0 ≤ k ∧ k < 1000 ∧ 0 < n ∧ ∀ r, 0 ≤ r → r < n → Φ (.int r) μ
theorem ok_draw (F : Fd K "_law_draw" "_law_draw" s_law_draw f fd) (T : Bn mg) : FnR P w K mg base CX0 1 f (spD K sDraw) := by
  refine fn_D F sc_law_draw (fun _ _ _ _ _ _ us hl => match us, hl with | [_, _, _], _ => rfl) (fun ds μ Φ Ψ h => by obtain ⟨s, k, n, rfl, _⟩ := h; rfl) ?_
  have hN := sc_law_draw.nd
  rintro cdv A outer s0 H E hr ds μ Φ Ψ ⟨c, k, n, rfl, h0, h1, hn, q⟩
  kqd_all
  obtain ⟨d, hd, hm⟩ := ix_of (ds := [D.int 1000003, D.int 1000033, D.int 1000037, D.int 1000039, D.int 1000081, D.int 1000099, D.int 1000117, D.int 1000121, D.int 1000133, D.int 1000151, D.int 1000159, D.int 1000171, D.int 1000183, D.int 1000187, D.int 1000193, D.int 1000199]) (i := k % 16) (by omega) (by show k % 16 < 16; omega)
  obtain ⟨m, rfl, hm⟩ : ∃ m : Int, d = .int m ∧ 0 < m := by
    simp only [List.mem_cons, List.not_mem_nil, or_false] at hm
    rcases hm with h | h | h | h | h | h | h | h | h | h | h | h | h | h | h | h <;> exact ⟨_, h, by decide⟩
  refine rd_ixT hd ?_
  kqd_all
  exact q _ (Int.emod_nonneg _ (by omega)) (Int.emod_lt_of_pos _ hn)
/-- .. of any cell -/
def sNumber : Spec := fun ds μ Φ _ => ∃ (c k n : Int), ds = [.int c, .int k, .int n] ∧ 0 ≤ k ∧ k < 1000 ∧ 0 < n ∧ ∀ r, 0 ≤ r → r < n → Φ (.int r) μ
theorem ok_number (F : Fd K "_law_number" "_law_number" s_law_number f fd) (T : Bn mg) (c_draw : Cal P w K mg base 1 "_law_draw" sDraw) : FnR P w K mg base CX0 2 f (spD K sNumber) := by
  refine fn_D F sc_law_number (fun _ _ _ _ _ _ us hl => match us, hl with | [_, _, _], _ => rfl) (fun ds μ Φ Ψ h => by obtain ⟨s, k, n, rfl, _⟩ := h; rfl) ?_
  have hN := sc_law_number.nd
  rintro cdv A outer s0 H E hr ds μ Φ Ψ ⟨c, k, n, rfl, h0, h1, hn, q⟩
  kqd_all
  refine ws_forL (α := Nat) (β := Nat) [4] [4] (fun i => D.int (0 + (i : Nat))) (fun j => [some (.int c), some (.int k), some (.int n), some (.int (1009 ^ j)), none, none, none]) (fun _ => μ) (fun rest j => j + rest.length ≤ 23) PassesOwn.never rfl ?_ ?_ ?_
  · refine wi_range T ?_
    kqd_all
    exact ⟨by omega, by omega, List.range _, rfl, 0, rfl, rfl, by rw [List.length_range]; omega⟩
  · intro x rest j hj
    kqd_all
    exact ⟨j + 1, by simp only [wipeR, List.set, Int.pow_succ], rfl, by simp at hj; omega⟩
  · intro j hj
    have hp : CDivW (c - 10 ^ (Int.toNat 18)) (1009 ^ j) := by
      have h3 : j ≤ 23 := by simpa using hj
      have z : ∀ j : _root_.Fin 24, 0 < (1009 : Int) ^ j.val ∧ ((1009 : Int) ^ j.val).natAbs.log2 < 9000 := by decide +kernel
      exact z ⟨j, by omega⟩
    kqd_all
    refine rd_fdiv hp ?_
    kqd_all
    refine it_by (fun h => ?_) fun _ => ?_
    · kqd_all
      exact q _ (Int.emod_nonneg _ (by omega)) (Int.emod_lt_of_pos _ hn)
    · kqd_all
      refine we_call c_draw (hr.mono (by decide)) ?_
      kqd_all
      refine rd_mulI (cmul_r (by omega) (by omega)) ?_
      kqd_all
      refine ⟨_, _, _, rfl, by omega, by omega, by omega, fun r _ _ => ?_⟩
      kqd_all
      exact q _ (Int.emod_nonneg _ (by omega)) (Int.emod_lt_of_pos _ hn)
/-- the next draw: any number from 0 to below n -/
def sNext : Spec := fun ds μ Φ _ => ∃ (a : Addr) (s : List Int) (k : Nat) (n : Int) (g : M → Mu), ds = [.ref a, .int n] ∧ 0 < n ∧ AtF μ a (drM s k) g ∧ ∀ r k', 0 ≤ r → r < n → Φ (.int r) (g (drM s k'))
theorem ok_next (F : Fd K "_law_next" "_law_next" s_law_next f fd) (T : Bn mg) (c_cell : Cal P w K mg base 1 "_law_cell_at" sCellAt) (c_number : Cal P w K mg base 2 "_law_number" sNumber) : FnR P w K mg base CX0 3 f (spD K sNext) := by
  refine fn_D F sc_law_next (fun _ _ _ _ _ _ us hl => match us, hl with | [_, _], _ => rfl) (fun ds μ Φ Ψ h => by obtain ⟨s, k, n, _, _, rfl, _⟩ := h; rfl) ?_
  have hN := sc_law_next.nd
  rintro cdv A outer s0 H E hr ds μ Φ Ψ ⟨a, s, k, n, g, rfl, hn, pk, q⟩
  obtain ⟨μ0, pk0⟩ := pk.pick
  refine wb_cons (ws_asg [] ?_)
  kqd_all
  refine wg_subL ?_
  kqd_all
  have e : (D.int ((k : Int) + 1)) = D.int ((k + 1 : Nat) : Int) := by congr 1
  refine ⟨a, 2, 2, _, _, rfl, rfl, pk.at (drM s (k + 1)), rfl, ?_⟩
  have pk2 := pk.again (drM s (k + 1))
  obtain ⟨μ2, pk3⟩ := pk2.pick
  kqd_all
  refine we_call c_cell (hr.mono (by decide)) ?_
  kqd_all
  refine ⟨s, _, rfl, by omega, fun c => ?_⟩
  kqd_all
  refine we_call c_number (hr.mono (by decide)) ?_
  kqd_all
  exact ⟨_, _, _, rfl, by omega, by omega, hn, fun r h1 h2 => q r (k + 1) h1 h2⟩
/-- one of these -/
def sPick : Spec := fun ds μ Φ _ => ∃ (a : Addr) (s : List Int) (k : Nat) (t : D) (xs : List D) (g : M → Mu), ds = [.ref a, t] ∧ t = .lst xs ∧ xs ≠ [] ∧ AtF μ a (drM s k) g ∧ ∀ x k', x ∈ xs → Φ x (g (drM s k'))
theorem ok_pick (F : Fd K "_law_pick" "_law_pick" s_law_pick f fd) (T : Bn mg) (c_next : Cal P w K mg base 3 "_law_next" sNext) : FnR P w K mg base CX0 4 f (spD K sPick) := by
  refine fn_D F sc_law_pick (fun _ _ _ _ _ _ us hl => match us, hl with | [_, _], _ => rfl) (fun ds μ Φ Ψ h => by obtain ⟨s, k, n, _, _, _, rfl, _⟩ := h; rfl) ?_
  have hN := sc_law_pick.nd
  rintro cdv A outer s0 H E hr ds μ Φ Ψ ⟨a, s, k, t, xs, g, rfl, rfl, hn, pk, q⟩
  kqd_all
  refine we_call c_next (hr.mono (by decide)) ?_
  kqd_all
  have hpos : 0 < xs.length := List.length_pos_iff.mpr hn
  refine ⟨a, s, k, _, g, rfl, by omega, pk, fun r k' h1 h2 => ?_⟩
  obtain ⟨d, hd, hm⟩ := ix_of h1 h2
  exact rd_ixL hd (q d k' hm)
end
end
section
def lastD : Option Fld → D | none => .non | some l => fldD l
section
variable {P : Program} {w : World} {K : PySem.W.Frag} {mg : Str → Option Value} {base : Heap} {f : Addr} {fd : FuncData}
/-- a field of this name, its target among the kinds -/
def sField : Spec := fun ds μ Φ _ => ∃ (a : Addr) (s : List Int) (k n c : Nat) (l : Option Fld) (g : M → Mu), ds = [.ref a, .int n, Nm c, (lastD l)] ∧ 0 < n ∧ n ≤ 3 ∧ (∀ f, l = some f → ∀ t, f.tg = some t → t < n) ∧ AtF μ a (drM s k) g ∧
  ∀ (f : Fld) k', f.nm = c → f.sp = none → (∀ t, f.tg = some t → t < n) → Φ (fldD f) (g (drM s k'))
theorem ok_field (F : Fd K "_law_field" "_law_field" s_law_field f fd) (T : Bn mg) (c_next : Cal P w K mg base 3 "_law_next" sNext) (c_pick : Cal P w K mg base 4 "_law_pick" sPick) : FnR P w K mg base CX0 5 f (spD K sField) := by
  refine fn_D F sc_law_field (fun _ _ _ _ _ _ us hl => match us, hl with | [_, _, _, _], _ => rfl) (fun ds μ Φ Ψ h => by obtain ⟨s, k, n, _, _, _, _, rfl, _⟩ := h; rfl) ?_
  have hN := sc_law_field.nd
  rintro cdv A outer s0 H E hr ds μ Φ Ψ ⟨a, s, k, n, c, l, g, rfl, hn, hn3, hl, pk, q⟩
  -- what follows the first branch
  have tail : ∀ (t : Option Nat) (fm : Fmk) (k : Nat), (∀ i, t = some i → i < n) → WB (cxOf CX0 P w K mg base n_law_field "_law_field" (defScope s_law_field) f cdv A outer s0 H E).nox ((defBody s_law_field).drop 1) [some (.ref a), some (.int n), some (Nm c), some (lastD l), some (opI t), some (.str fm.s)] (g (drM s k)) ⟨fun _ μ' => Φ .non μ', Φ⟩ := by
    intro t fm k ht
    have fin : ∀ (fm : Fmk) (k : Nat), WB (cxOf CX0 P w K mg base n_law_field "_law_field" (defScope s_law_field) f cdv A outer s0 H E).nox ((defBody s_law_field).drop 2) [some (.ref a), some (.int n), some (Nm c), some (lastD l), some (opI t), some (.str fm.s)] (g (drM s k)) ⟨fun _ μ' => Φ .non μ', Φ⟩ := by
      intro fm k
      kqd_all
      refine we_call c_pick (hr.mono (by decide)) ?_
      kqd_all
      refine ⟨a, s, k, _, _, g, rfl, rfl, by simp, pk.again _, fun x k' hx => ?_⟩
      obtain ⟨m, rfl⟩ : ∃ m : Bool, x = .str (mkS m) := by
        simp only [List.mem_cons, List.not_mem_nil, or_false] at hx
        rcases hx with h | h | h
        · exact ⟨true, h⟩
        · exact ⟨true, h⟩
        · exact ⟨false, h⟩
      kqd_all
      exact q ⟨c, t, fm, m, none⟩ k' rfl rfl ht
    kqd_all
    rw [form_one]
    refine it_byN (fun h => ?_) fun h => ?_
    · kqd_all
      refine we_call c_pick (hr.mono (by decide)) ?_
      kqd_all
      refine ⟨a, s, k, _, _, g, rfl, rfl, by simp, pk.again _, fun x k' hx => ?_⟩
      obtain ⟨fm, rfl⟩ : ∃ fm : Fmk, x = .str fm.s := by
        simp only [List.mem_cons, List.not_mem_nil, or_false] at hx
        rcases hx with h | h | h
        · exact ⟨.all, h⟩
        · exact ⟨.gaps, h⟩
        · exact ⟨.rest, h⟩
      refine wb_nil ?_
      exact fin fm k'
    · refine wb_nil ?_
      exact fin fm k
  -- the second branch
  have two : ∀ k : Nat, WB (cxOf CX0 P w K mg base n_law_field "_law_field" (defScope s_law_field) f cdv A outer s0 H E).nox ((match (defBody s_law_field).getD 0 (.Pass ⟨0, 0, 0, 0⟩) with | .If _ _ e _ => e | _ => [])) [some (.ref a), some (.int n), some (Nm c), some (lastD l), none, none] (g (drM s k)) ⟨fun ρ μ' => WB (cxOf CX0 P w K mg base n_law_field "_law_field" (defScope s_law_field) f cdv A outer s0 H E).nox ((defBody s_law_field).drop 1) ρ μ' ⟨fun _ μ' => Φ .non μ', Φ⟩, Φ⟩ := by
    intro k
    kqd_all
    refine we_call c_pick (hr.mono (by decide)) ?_
    kqd_all
    refine we_listRg T rfl ?_
    kqd_all
    refine ⟨n, rfl, by omega, ?_⟩
    kqd_all
    refine rd_mulL ls_f (by omega) (by omega) (by unfold rgD; simp; omega) ?_
    refine rd_addL ls_f ls_f (by unfold rgD; simp; omega) ?_
    kqd_all
    refine ⟨a, s, k, _, _, g, rfl, rfl, by simp, pk.again _, fun x k' hx => ?_⟩
    obtain ⟨t, ht, rfl⟩ : ∃ t : Option Nat, (∀ i, t = some i → i < n) ∧ x = opI t := by
      simp only [List.mem_append, List.mem_flatten, List.mem_replicate, rgD] at hx
      rcases hx with hx | ⟨l, ⟨_, rfl⟩, hx⟩
      · simp at hx
        exact ⟨none, (by intro i z; cases z), hx⟩
      · obtain ⟨i, hi, rfl⟩ := List.mem_map.mp hx
        exact ⟨some i, fun j e => by cases e; simpa using hi, by simp [opI]⟩
    kqd_all
    refine we_call c_pick (hr.mono (by decide)) ?_
    kqd_all
    refine ⟨a, s, k', _, _, g, rfl, rfl, by simp, pk.again _, fun x k2 hx => ?_⟩
    obtain ⟨fm, rfl⟩ : ∃ fm : Fmk, x = .str fm.s := by
      simp only [List.mem_cons, List.not_mem_nil, or_false] at hx
      rcases hx with h | h | h | h | h
      · exact ⟨.one, h⟩
      · exact ⟨.one, h⟩
      · exact ⟨.all, h⟩
      · exact ⟨.gaps, h⟩
      · exact ⟨.rest, h⟩
    refine wb_nil ?_
    exact tail t fm k2 ht
  kqd_all
  cases l with
  | none =>
    refine it_f (it_f ?_)
    have z := two k
    rw [pk.self] at z
    exact z
  | some l =>
    refine it_t ?_
    kqd_all
    refine we_call c_next (hr.mono (by decide)) ?_
    kqd_all
    refine ⟨a, s, k, _, g, rfl, by omega, pk, fun r k' _ _ => ?_⟩
    kqd_all
    refine it_by (fun _ => ?_) fun _ => two k'
    kpc_obj
    refine wb_nil ?_
    exact tail l.tg l.fm k' (hl l rfl)
end
end
section
/-- spares are given -/
inductive Spd (fs0 : List Fld) : List Fld → List Fld → Prop where
  | nil : Spd fs0 [] []
  | snoc {fs gs : List Fld} {f : Fld} {c : Option Nat} : Spd fs0 fs gs → (∀ x, c = some x → ∃ g ∈ fs0, g.nm = x ∧ standsFor f g) → Spd fs0 (fs ++ [f]) (gs ++ [{ f with sp := c }])
def canStand (h o : Fld) : Bool := (!decide (o.nm = h.nm)) && (decide (o.tg = h.tg) && decide (decide (o.fm = .one) = decide (h.fm = .one)))
theorem canStand_iff {h o : Fld} (c : canStand h o = true) : standsFor h o := by
  unfold canStand at c
  simp only [Bool.and_eq_true, Bool.not_eq_true', decide_eq_false_iff_not, decide_eq_true_eq, decide_eq_decide] at c
  exact ⟨c.1, c.2.1, c.2.2⟩
theorem Spd.same {fs0 fs gs : List Fld} (h : Spd fs0 fs gs) : gs.length = fs.length ∧ gs.map Fld.nm = fs.map Fld.nm ∧ (∀ g ∈ gs, ∃ f ∈ fs, ∃ c, g = { f with sp := c } ∧ ∀ x, c = some x → ∃ o ∈ fs0, o.nm = x ∧ standsFor f o) ∧ ∀ f ∈ fs, ∃ c, { f with sp := c } ∈ gs := by
  induction h with
  | nil => exact ⟨rfl, rfl, fun _ h => by simp at h, fun _ h => by simp at h⟩
  | @snoc fs gs f c _ hc ih =>
    obtain ⟨h1, h2, h3, h4⟩ := ih
    refine ⟨by simp [h1], by simp [h2], fun g hg => ?_, fun x hx => ?_⟩
    · rcases List.mem_append.mp hg with hg | hg
      · obtain ⟨f', hf', c', e, k⟩ := h3 g hg
        exact ⟨f', List.mem_append_left _ hf', c', e, k⟩
      · rw [List.mem_singleton.mp hg]
        exact ⟨f, by simp, c, rfl, hc⟩
    · rcases List.mem_append.mp hx with hx | hx
      · obtain ⟨c', k⟩ := h4 x hx
        exact ⟨c', List.mem_append_left _ k⟩
      · rw [List.mem_singleton.mp hx]
        exact ⟨c, by simp⟩
theorem Spd.kind {n : Nat} {fs gs : List Fld} (h : Spd fs fs gs) (k : Kind0 n fs) : KindOk n gs := by
  obtain ⟨h1, h2, h3, h4⟩ := h.same
  refine ⟨⟨fun e => ?_, by rw [h1]; exact k.few, fun g hg => ?_, by rw [h2]; exact k.dis, fun g hg t ht => ?_, ?_⟩, fun g hg x hx => ?_⟩
  · rw [e] at h1
    exact k.ne (List.length_eq_zero_iff.mp h1.symm)
  · obtain ⟨f, hf, c, rfl, _⟩ := h3 g hg
    exact k.nms f hf
  · obtain ⟨f, hf, c, rfl, _⟩ := h3 g hg
    exact k.tgs f hf t ht
  · obtain ⟨f, hf, e⟩ := k.hd
    obtain ⟨c, hc⟩ := h4 f hf
    exact ⟨_, hc, e⟩
  · obtain ⟨f, hf, c, rfl, hs⟩ := h3 g hg
    obtain ⟨o, ho, e, st⟩ := hs x hx
    obtain ⟨c', hc'⟩ := h4 o ho
    exact ⟨_, hc', e, st⟩
section
variable {P : Program} {w : World} {K : PySem.W.Frag} {mg : Str → Option Value} {base : Heap} {f : Addr} {fd : FuncData}
def sSpared : Spec := fun ds μ Φ _ => ∃ (a : Addr) (s : List Int) (k : Nat) (fs : List Fld) (g : M → Mu), ds = [.ref a, .lst (fs.map fldD)] ∧ fs.length ≤ 3 ∧ (∀ f ∈ fs, 97 ≤ f.nm ∧ f.nm ≤ 102) ∧ AtF μ a (drM s k) g ∧
  ∀ (gs : List Fld) k', Spd fs fs gs → Φ (kindD gs) (g (drM s k'))
theorem ok_spared (F : Fd K "_law_spared" "_law_spared" s_law_spared f fd) (T : Bn mg) (c_next : Cal P w K mg base 3 "_law_next" sNext) (c_pick : Cal P w K mg base 4 "_law_pick" sPick) : FnR P w K mg base CX0 5 f (spD K sSpared) := by
  refine fn_D F sc_law_spared (fun _ _ _ _ _ _ us hl => match us, hl with | [_, _], _ => rfl) (fun ds μ Φ Ψ h => by obtain ⟨s, k, n, _, _, rfl, _⟩ := h; rfl) ?_
  have hN := sc_law_spared.nd
  rintro cdv A outer s0 H E hr ds μ Φ Ψ ⟨a, s, k, fs, g, rfl, hn, hnm, pk, q⟩
  kpc_obj
  refine we_lstM ?_
  kpc_obj
  intro p
  kpc_obj
  refine ws_forL (α := List Fld × Nat) (β := Fld) [3, 4, 5, 6] [3] fldD (fun x => [some (.ref a), some (.lst (fs.map fldD)), some (.ref p), none, none, none, none]) (fun x => (p, .lst (x.1.map fldD)) :: g (drM s x.2)) (fun rest x => ∃ pre, pre ++ rest = fs ∧ Spd fs pre x.1 ∧ x.1.length + rest.length ≤ 3) PassesOwn.never rfl ?_ ?_ ?_
  · refine wi_lst ?_
    kpc_obj
    exact ⟨_, rfl, fs, rfl, ([], k), rfl, by rw [pk.self]; rfl, [], rfl, .nil, by simpa using hn⟩
  · rintro x rest ⟨acc, k⟩ ⟨pre, hpre, hsp, hlen⟩
    have hx : x ∈ fs := by rw [← hpre]; simp
    kpc_obj
    refine ws_lcn [("_law_one", 5)] (by kp_flats) (by kqd_ok) (by assumption) rfl (by kpc_if) ?_
    refine wlc_F fldD (fun o => Nm o.nm) (canStand x) fs ?_ (by omega) ?_ ?_
    · refine wi_lst ?_
      kpc_obj
      exact ⟨_, rfl, rfl, rfl⟩
    · rintro o ho Y ⟨s1, H1, C1, cl1, fp1, rfl⟩ ν
      kpc_obj
      rintro Y ⟨s1, H1, C1, cl1, fp1, rfl⟩
      kpc_obj
      have ce : canStand x o = ((!decide (o.nm = x.nm)) && (decide (o.tg = x.tg) && decide (decide (o.fm = .one) = decide (x.fm = .one)))) := rfl
      refine it_byN (fun h1 => ?_) fun h1 => ?_
      · kpc_obj
        refine it_by (fun h2 => ?_) fun h2 => ?_
        · kpc_obj
          rw [form_one, form_one]
          refine ⟨rfl, by rw [ce]; simp [h1, h2], fun hc => ?_⟩
          rintro Y ⟨s1, H1, C1, cl1, fp1, rfl⟩
          kpc_obj
          exact ⟨rfl, rfl⟩
        · have : canStand x o = false := by rw [ce]; simp [h2]
          exact ⟨rfl, this.symm, fun h => by rw [this] at h; cases h⟩
      · have : canStand x o = false := by rw [ce]; simp [h1]
        exact ⟨rfl, this.symm, fun h => by rw [this] at h; cases h⟩
    · -- the pick
      have app : ∀ (c : Option Nat) (k : Nat), (∀ y, c = some y → ∃ g ∈ fs, g.nm = y ∧ standsFor x g) → WB (cxOf CX0 P w K mg base n_law_spared "_law_spared" (defScope s_law_spared) f cdv A outer s0 H E).nox ((match (defBody s_law_spared).getD 1 (.Pass ⟨0, 0, 0, 0⟩) with | .For _ _ b _ _ => b | _ => []).drop 2) [some (.ref a), some (.lst (fs.map fldD)), some (.ref p), some (fldD x), some (.lst ((fs.filter (canStand x)).map fun o => Nm o.nm)), none, some (opN c)] ((p, .lst (acc.map fldD)) :: g (drM s k)) ⟨fun ρ4 μ4 => ∃ a' : List Fld × Nat, wipeR ρ4 [3, 4, 5, 6] = [some (.ref a), some (.lst (fs.map fldD)), some (.ref p), none, none, none, none] ∧ μ4 = (p, .lst (a'.1.map fldD)) :: g (drM s a'.2) ∧ ∃ pre, pre ++ rest = fs ∧ Spd fs pre a'.1 ∧ a'.1.length + rest.length ≤ 3, Φ⟩ := by
        intro c k hc
        kpc_obj
        refine we_slT ?_
        kpc_obj
        refine ⟨_, rfl, ?_⟩
        kpc_obj
        refine rd_addT (by show 4 + 1 ≤ 1000; omega) ?_
        kpc_obj
        · simp at hlen ⊢; omega
        · refine wb_nil ?_
          exact ⟨(acc ++ [{ x with sp := c }], k), rfl, by simp [cutD, HT.sIx], pre ++ [x], by rw [List.append_assoc]; exact hpre, hsp.snoc hc, by simp at hlen ⊢; omega⟩
      kpc_obj
      refine we_lst ?_
      kpc_obj
      refine rd_neNilF (fun o => nmP o.nm) 0 (by omega) (fun o _ => py_nm _) (fun o ho => ⟨lay_nm (hnm o (List.mem_filter.mp ho).1).2, Nat.le_refl _⟩) ?_
      kpc_obj
      refine it_c (fun hne => ?_) fun _ => ?_
      · kpc_obj
        refine we_call c_next (hr.mono (by decide)) ?_
        kpc_obj
        refine ⟨a, s, k, _, _, rfl, by omega, .there (pk.again _), fun r k1 _ _ => ?_⟩
        kpc_obj
        refine it_by (fun _ => ?_) fun _ => ?_
        · refine we_call c_pick (hr.mono (by decide)) ?_
          kpc_obj
          refine rd_addL ls_f ls_f (by have := List.length_filter_le (canStand x) fs; simp; omega) ?_
          kpc_obj
          refine ⟨a, s, k1, _, _, _, rfl, rfl, by simp, .there (pk.again _), fun y k2 hy => ?_⟩
          rcases List.mem_append.mp hy with hy | hy
          · obtain ⟨o, ho, rfl⟩ := List.mem_map.mp hy
            have hf := List.mem_filter.mp ho
            exact app (some o.nm) k2 (by intro y z; cases z; exact ⟨o, hf.1, rfl, canStand_iff hf.2⟩)
          · rw [List.mem_singleton.mp hy]
            exact app none k2 (by intro y z; cases z)
        · refine we_non ?_
          exact app none k1 (by intro y z; cases z)
      · refine it_f ?_
        refine we_non ?_
        exact app none k (by intro y z; cases z)
  · rintro ⟨gs, k⟩ ⟨pre, hpre, hsp, _⟩
    kpc_obj
    rw [List.append_nil] at hpre
    subst hpre
    exact q gs k hsp
end
end
section
theorem atI_last {α : Type} (xs : List α) (x : α) : L2.atI (xs ++ [x]) (-1) = some x := by
  unfold L2.atI ixN
  have h1 : ¬ (0 : Int) ≤ -1 := by omega
  have h2 : -(((xs ++ [x]).length : Nat) : Int) ≤ -1 := by simp; omega
  rw [if_neg h1, if_pos h2]
  have h3 : (-1 + (((xs ++ [x]).length : Nat) : Int)).toNat = xs.length := by simp; omega
  simp only [Option.bind_some, h3]
  simp
theorem at_abc {i : Int} (h0 : 0 ≤ i) (h1 : i < 6) : ∃ c : Nat, L2.atI (Str.ofString "abcdef").cps.toList i = some c ∧ (c : Int) = 97 + i := by
  obtain ⟨j, rfl⟩ : ∃ j : Nat, i = j := ⟨i.toNat, by omega⟩
  have h : ∀ j : _root_.Fin 6, L2.atI (Str.ofString "abcdef").cps.toList (j.val : Int) = some (97 + j.val) := by decide +kernel
  exact ⟨97 + j, h ⟨j, by omega⟩, by omega⟩
/-- the fields drawn so far -/
structure InvF (st m : Nat) (fs : List Fld) : Prop where
  nm : fs.map Fld.nm = (List.range fs.length).map (fun i => 97 + (st + i) % 6)
  sp : ∀ f ∈ fs, f.sp = none
  tg : ∀ f ∈ fs, ∀ t, f.tg = some t → t < m
  hd : ∀ f, fs.head? = some f → f.tg = none
theorem invF_nil {st m : Nat} : InvF st m [] := ⟨rfl, fun _ h => by simp at h, fun _ h => by simp at h, fun _ h => by simp at h⟩
theorem InvF.snoc {st m : Nat} {fs : List Fld} {f : Fld} (h : InvF st m fs) (hn : f.nm = 97 + (st + fs.length) % 6) (hs : f.sp = none) (ht : ∀ t, f.tg = some t → t < m) (h0 : fs = [] → f.tg = none) : InvF st m (fs ++ [f]) := by
  refine ⟨?_, fun x hx => ?_, fun x hx => ?_, fun x hx => ?_⟩
  · rw [List.map_append, h.nm, List.length_append, List.length_singleton, List.range_succ, List.map_append]
    simp [hn]
  · rcases List.mem_append.mp hx with hx | hx
    · exact h.sp x hx
    · rw [List.mem_singleton.mp hx]; exact hs
  · rcases List.mem_append.mp hx with hx | hx
    · exact h.tg x hx
    · rw [List.mem_singleton.mp hx]; exact ht
  · cases fs with
    | nil => simp at hx; subst hx; exact h0 rfl
    | cons y ys => exact h.hd x (by simpa using hx)
theorem InvF.may {st m : Nat} {f : Fld} {fs : List Fld} (h : InvF st m (f :: fs)) : InvF st m ({ f with mus := false, sp := none } :: fs) := by
  refine ⟨by have := h.nm; simpa using this, fun x hx => ?_, fun x hx => ?_, fun x hx => ?_⟩
  · rcases List.mem_cons.mp hx with hx | hx
    · rw [hx]
    · exact h.sp x (List.mem_cons_of_mem _ hx)
  · rcases List.mem_cons.mp hx with hx | hx
    · rw [hx]; exact h.tg f List.mem_cons_self
    · exact h.tg x (List.mem_cons_of_mem _ hx)
  · simp at hx; subst hx; exact h.hd f rfl
theorem InvF.kind {st m : Nat} {fs : List Fld} (h : InvF st m fs) (h1 : fs ≠ []) (h2 : fs.length ≤ 3) (hst : st < 6) : Kind0 m fs := by
  refine ⟨h1, h2, fun f hf => ?_, ?_, h.tg, ?_⟩
  · have : f.nm ∈ fs.map Fld.nm := List.mem_map.mpr ⟨f, hf, rfl⟩
    rw [h.nm] at this
    obtain ⟨i, _, e⟩ := List.mem_map.mp this
    omega
  · rw [h.nm]
    have z : ∀ st : _root_.Fin 6, ∀ n : _root_.Fin 4, ((List.range n.val).map (fun i => 97 + (st.val + i) % 6)).Nodup := by decide +kernel
    exact z ⟨st, hst⟩ ⟨fs.length, by omega⟩
  · cases fs with
    | nil => exact absurd rfl h1
    | cons f r => exact ⟨f, List.mem_cons_self, h.hd f rfl⟩
section
variable {P : Program} {w : World} {K : PySem.W.Frag} {mg : Str → Option Value} {base : Heap} {f : Addr} {fd : FuncData}
/-- kinds that may be -/
def sKinds : Spec := fun ds μ Φ _ => ∃ (a : Addr) (s : List Int) (k : Nat) (g : M → Mu), ds = [.ref a, .int 3] ∧ AtF μ a (drM s k) g ∧ ∀ (ks : List (List Fld)) k', KindsOk ks → Φ (kindsD ks) (g (drM s k'))
theorem ok_kinds (F : Fd K "_law_kinds" "_law_kinds" s_law_kinds f fd) (T : Bn mg) (c_next : Cal P w K mg base 3 "_law_next" sNext) (c_field : Cal P w K mg base 5 "_law_field" sField) (c_spared : Cal P w K mg base 5 "_law_spared" sSpared) : FnR P w K mg base CX0 6 f (spD K sKinds) := by
  refine fn_D F sc_law_kinds (fun _ _ _ _ _ _ us hl => match us, hl with | [_, _], _ => rfl) (fun ds μ Φ Ψ h => by obtain ⟨s, k, n, _, rfl, _⟩ := h; rfl) ?_
  have hN := sc_law_kinds.nd
  rintro cdv A outer s0 H E hr ds μ Φ Ψ ⟨a, s, k, g, rfl, pk, q⟩
  kpc_obj
  refine we_call c_next (hr.mono (by decide)) ?_
  kpc_obj
  refine ⟨a, s, k, _, _, rfl, by omega, pk, fun r k1 h0 h1 => ?_⟩
  kpc_obj
  refine we_lstM ?_
  kpc_obj
  intro p
  kpc_obj
  obtain ⟨m, hm⟩ : ∃ m : Nat, 1 + r = m := ⟨(1 + r).toNat, by omega⟩
  have hm1 : 1 ≤ m ∧ m ≤ 3 := by omega
  rw [hm]
  refine ws_forL (α := List (List Fld) × Nat) (β := Nat) [4, 5, 6, 7, 8, 9] [4] (fun i => .int (0 + (i : Nat))) (fun _ => [some (.ref a), some (.int 3), some (.int m), some (.ref p), none, none, none, none, none, none]) (fun x => (p, .lst (x.1.map kindD)) :: g (drM s x.2)) (fun rest x => x.1.length + rest.length = m ∧ ∀ k ∈ x.1, KindOk m k) PassesOwn.never rfl ?_ ?_ ?_
  · refine wi_range T ?_
    kpc_obj
    exact ⟨by omega, by omega, List.range m, by rw [Int.toNat_natCast], ([], k1), rfl, rfl, by simp, by simp⟩
  · rintro x rest ⟨acc, k⟩ ⟨hl, hk⟩
    kpc_obj
    refine we_call c_next (hr.mono (by decide)) ?_
    kpc_obj
    refine ⟨a, s, k, _, _, rfl, by omega, .there (pk.again _), fun st k2 h2 h3 => ?_⟩
    kpc_obj
    refine we_lstM ?_
    kpc_obj
    intro p2
    kpc_obj
    obtain ⟨sn, rfl⟩ : ∃ n : Nat, st = n := ⟨st.toNat, by omega⟩
    refine ws_forL (α := List Fld × Nat) (β := Nat) [7, 8, 9] [7] (fun i => .int (0 + (i : Nat))) (fun _ => [some (.ref a), some (.int 3), some (.int m), some (.ref p), some (.int (0 + (x : Nat))), some (.int sn), some (.ref p2), none, none, none]) (fun y => (p2, .lst (y.1.map fldD)) :: (p, .lst (acc.map kindD)) :: g (drM s y.2))
      (fun rest y => rest = List.range' y.1.length rest.length ∧ y.1.length + rest.length ≤ 3 ∧ 2 ≤ y.1.length + rest.length ∧ InvF sn m y.1) PassesOwn.never rfl ?_ ?_ ?_
    · refine wi_range T ?_
      kpc_obj
      refine we_call c_next (hr.mono (by decide)) ?_
      kpc_obj
      refine ⟨a, s, k2, _, _, rfl, by omega, .there (.there (pk.again _)), fun n k3 h4 h5 => ?_⟩
      kpc_obj
      obtain ⟨n, rfl⟩ : ∃ j : Nat, n = j := ⟨n.toNat, by omega⟩
      have e : ((2 : Int) + (n : Int)).toNat = 2 + n := by omega
      exact ⟨by omega, by omega, List.range (2 + n), by rw [e], ([], k3), rfl, rfl, by simp [List.range_eq_range'], by simp; omega, by simp, invF_nil⟩
    · rintro y rest2 ⟨fs, k3⟩ ⟨hrest, h4, h5, hinv⟩
      have hy : y = fs.length := by
        simp only [List.length_cons, List.range'_succ] at hrest
        exact (List.cons.inj hrest).1
      have hrest2 : rest2 = List.range' (fs.length + 1) rest2.length := by
        simp only [List.length_cons, List.range'_succ] at hrest
        exact (List.cons.inj hrest).2
      subst hy
      kpc_obj
      obtain ⟨c, hc, ec⟩ := at_abc (i := ((sn : Int) + (0 + (fs.length : Nat))) % 6) (by omega) (by omega)
      refine rd_ixS (by decide) hc ?_
      kpc_obj
      have hlay : ∀ f ∈ fs, (fldP f).canLay0 = true ∧ (fldP f).depth ≤ 1 := by
        intro f hf
        refine lay_fld ?_ (by rw [hinv.sp f hf]; intro c z; cases z)
        have : f.nm ∈ fs.map Fld.nm := List.mem_map.mpr ⟨f, hf, rfl⟩
        rw [hinv.nm] at this
        obtain ⟨i, _, e⟩ := List.mem_map.mp this
        omega
      refine we_lst ?_
      kpc_obj
      refine rd_neNilM fldP 1 (by omega) (by kpc_turns) (fun f _ => py_fld f) hlay ?_
      have ec' : c = 97 + (sn + fs.length) % 6 := by omega
      have fin : ∀ (f : Fld) (k : Nat) (l : D), f.nm = c → f.sp = none → (∀ t, f.tg = some t → t < m) → (fs = [] → f.tg = none) → ∃ a' : List Fld × Nat, wipeR [some (.ref a), some (.int 3), some (.int m), some (.ref p), some (.int (0 + (x : Nat))), some (.int sn), some (.ref p2), some (.int (0 + (fs.length : Nat))), some (Nm c), some l] [7, 8, 9] = [some (.ref a), some (.int 3), some (.int m), some (.ref p), some (.int (0 + (x : Nat))), some (.int sn), some (.ref p2), none, none, none] ∧
          (p2, M.lst (fs.map fldD ++ [fldD f])) :: (p, .lst (acc.map kindD)) :: g (drM s k) = (p2, .lst (a'.1.map fldD)) :: (p, .lst (acc.map kindD)) :: g (drM s a'.2) ∧ rest2 = List.range' a'.1.length rest2.length ∧ a'.1.length + rest2.length ≤ 3 ∧ 2 ≤ a'.1.length + rest2.length ∧ InvF sn m a'.1 := by
        intro f k l h1 h2 h3 h6
        refine ⟨(fs ++ [f], k), rfl, by simp, by simpa using hrest2, by simp at h4 ⊢; omega, by simp at h5 ⊢; omega, hinv.snoc (by rw [h1, ec']) h2 h3 h6⟩
      by_cases he : fs = []
      · subst he
        kpc_obj
        refine it_f ?_
        kpc_obj
        try (refine it_no (by simp) ?_; kpc_obj)
        · simp
        · refine wb_nil ?_
          exact fin ⟨c, none, .one, true, none⟩ k3 .non rfl rfl (by intro t z; cases z) (fun _ => rfl)
      · obtain ⟨ini, l, rfl⟩ : ∃ ini l, fs = ini ++ [l] := ⟨fs.dropLast, fs.getLast he, (List.dropLast_concat_getLast he).symm⟩
        kpc_obj
        refine it_c (fun _ => ?_) (fun h => by simp at h)
        kpc_obj
        refine rd_ixM (by kpc_turns) (d := fldD l) (by rw [List.map_append]; exact atI_last _ _) ?_
        kpc_obj
        refine it_yes (by simp) ?_
        refine we_call c_field (hr.mono (by decide)) ?_
        kpc_obj
        refine ⟨a, s, k3, m, c, some l, _, rfl, by omega, by omega, fun f hf t ht => by cases hf; exact hinv.tg l (by simp) t ht, .there (.there (pk.again _)), fun f k4 h6 h7 h8 => ?_⟩
        kpc_obj
        · simp at h4 ⊢; omega
        · refine wb_nil ?_
          exact fin f k4 (fldD l) h6 h7 h8 (fun z => absurd z he)
    · rintro ⟨fs, k3⟩ ⟨_, h4, h5, hinv⟩
      simp at h4 h5
      obtain ⟨f0, fr, rfl⟩ : ∃ f0 fr, fs = f0 :: fr := by
        cases fs with
        | nil => simp at h5
        | cons f0 fr => exact ⟨f0, fr, rfl⟩
      -- the last of a kind
      have fin : ∀ (fs : List Fld) (k : Nat), InvF sn m fs → fs ≠ [] → fs.length ≤ 3 → WB (cxOf CX0 P w K mg base n_law_kinds "_law_kinds" (defScope s_law_kinds) f cdv A outer s0 H E).nox
          ((match (defBody s_law_kinds).getD 1 (.Pass ⟨0, 0, 0, 0⟩) with | .For _ _ b _ _ => b | _ => []).drop 3) [some (.ref a), some (.int 3), some (.int m), some (.ref p), some (.int (0 + (x : Nat))), some (.int sn), some (.ref p2), none, none, none] ((p2, .lst (fs.map fldD)) :: (p, .lst (acc.map kindD)) :: g (drM s k))
          ⟨fun ρ4 μ4 => ∃ a' : List (List Fld) × Nat, wipeR ρ4 [4, 5, 6, 7, 8, 9] = [some (.ref a), some (.int 3), some (.int m), some (.ref p), none, none, none, none, none, none] ∧ μ4 = (p, .lst (a'.1.map kindD)) :: g (drM s a'.2) ∧ a'.1.length + rest.length = m ∧ ∀ k ∈ a'.1, KindOk m k, Φ⟩ := by
        intro fs k hi hne hlen
        have hk2 := hi.kind hne hlen (by omega)
        kpc_obj
        refine we_call c_spared (hr.mono (by decide)) ?_
        tb_rel
        tb_rel
        tb_rel
        refine we_frzL ?_
        kpc_obj
        refine ⟨a, s, k, fs, _, rfl, hlen, hk2.nms, .there (pk.again _), fun gs k5 hsp => ?_⟩
        kpc_obj
        · simp at hl ⊢; omega
        · refine wb_nil ?_
          exact ⟨(acc ++ [gs], k5), rfl, by simp, by simp at hl ⊢; omega, fun k' hk' => by
            rcases List.mem_append.mp hk' with h | h
            · exact hk k' h
            · rw [List.mem_singleton.mp h]; exact hsp.kind hk2⟩
      kpc_obj
      refine we_call c_next (hr.mono (by decide)) ?_
      kpc_obj
      refine ⟨a, s, k3, _, _, rfl, by omega, .there (.there (pk.again _)), fun n k4 h6 h7 => ?_⟩
      kpc_obj
      refine it_by (fun _ => ?_) fun _ => ?_
      · refine wb_cons (ws_asg [] ?_)
        kpc_obj
        refine we_slT ?_
        kpc_obj
        refine rd_ixM (by kpc_turns) (d := fldD f0) (atI_nat (j := 0) rfl) ?_
        kpc_obj
        refine ⟨_, rfl, ?_⟩
        kpc_obj
        refine rd_addT (by show 3 + 2 ≤ 1000; omega) ?_
        refine wg_subL ?_
        kpc_obj
        refine ⟨p2, 0, 0, _, _, rfl, rfl, by kpc_turns, by simp [ixN], ?_⟩
        refine wb_nil ?_
        exact fin ({ f0 with mus := false, sp := none } :: fr) k4 hinv.may (by simp) (by simpa using h4)
      · refine wb_nil ?_
        exact fin (f0 :: fr) k4 hinv (by simp) (by simpa using h4)
  · rintro ⟨acc, k⟩ ⟨hl, hk⟩
    kpc_obj
    exact q acc k ⟨by rintro rfl; simp at hl; omega, by simp at hl; omega, by simp at hl; rw [hl]; exact hk⟩
end
end
section
/-! ### objects -/
inductive Val where
  | one (n : Nat) | many (ns : List Nat)
def natD (n : Nat) : D := .int (n : Nat)
def valD : Val → D
  | .one n => .int (n : Nat) | .many ns => .tup (ns.map natD)
abbrev Ob := Nat × List Val
abbrev objD (o : Ob) : D := .tup [.int (o.1 : Nat), .tup (o.2.map valD)]
abbrev objsD (os : List Ob) : D := .tup (os.map objD)
def FitOne (sorts : List Nat) (f : Fld) (n : Nat) : Prop := match f.tg with | none => n ≤ 9 | some t => sorts[n]? = some t
def FitV (sorts : List Nat) (f : Fld) : Val → Prop
  | .one n => f.fm = .one ∧ FitOne sorts f n
  | .many ns => f.fm ≠ .one ∧ ns.length ≤ 3 ∧ ∀ n ∈ ns, FitOne sorts f n
inductive Fits (sorts : List Nat) : List Fld → List Val → Prop where
  | nil : Fits sorts [] []
  | cons {f : Fld} {v : Val} {fs : List Fld} {vs : List Val} : FitV sorts f v → Fits sorts fs vs → Fits sorts (f :: fs) (v :: vs)
theorem Fits.snoc {sorts : List Nat} {f : Fld} {v : Val} : ∀ {fs : List Fld} {vs : List Val}, Fits sorts fs vs → FitV sorts f v → Fits sorts (fs ++ [f]) (vs ++ [v])
  | _, _, .nil, h => .cons h .nil
  | _, _, .cons a b, h => .cons a (b.snoc h)
theorem Fits.length {sorts : List Nat} : ∀ {fs : List Fld} {vs : List Val}, Fits sorts fs vs → vs.length = fs.length
  | _, _, .nil => rfl
  | _, _, .cons _ b => congrArg Nat.succ b.length
structure ObjsOk (ks : List (List Fld)) (os : List Ob) : Prop where
  few : os.length ≤ 6
  hd : ∃ vs rest, os = (0, vs) :: rest
  each : ∀ o ∈ os, ∃ fs, ks[o.1]? = some fs ∧ Fits (os.map (·.1)) fs o.2
section
variable {P : Program} {w : World} {K : PySem.W.Frag} {mg : Str → Option Value} {base : Heap} {f : Addr} {fd : FuncData}
def sValue : Spec := fun ds μ Φ _ => ∃ (a : Addr) (s : List Int) (k : Nat) (sorts : List Nat) (f : Fld) (g : M → Mu), ds = [.ref a, .lst (sorts.map natD), fldD f] ∧ sorts.length ≤ 10 ∧ (∀ t, f.tg = some t → ∃ n : Nat, sorts[n]? = some t) ∧ AtF μ a (drM s k) g ∧ ∀ v k', FitV sorts f v → Φ (valD v) (g (drM s k'))
theorem ok_value (F : Fd K "_law_value" "_law_value" s_law_value f fd) (T : Bn mg) (c_pick : Cal P w K mg base 4 "_law_pick" sPick) : FnR P w K mg base CX0 5 f (spD K sValue) := by
  refine fn_D F sc_law_value (fun _ _ _ _ _ _ us hl => match us, hl with | [_, _, _], _ => rfl) (fun ds μ Φ Ψ h => by obtain ⟨s, k, n, _, _, _, rfl, _⟩ := h; rfl) ?_
  have hN := sc_law_value.nd
  rintro cdv A outer s0 H E hr ds μ Φ Ψ ⟨a, s, k, sorts, fl, g, rfl, hlen, hable, pk, q⟩
  have fin : ∀ able : List Nat, able ≠ [] → able.length ≤ 10 → (∀ n ∈ able, FitOne sorts fl n) → WB (cxOf CX0 P w K mg base n_law_value "_law_value" (defScope s_law_value) f cdv A outer s0 H E).nox ((defBody s_law_value).drop 2) [some (.ref a), some (.lst (sorts.map natD)), some (fldD fl), some (.lst (able.map natD)), none, none] μ ⟨fun _ μ' => Φ .non μ', Φ⟩ := by
    intro able h1 h2 h3
    kpc_obj
    rw [form_one]
    refine it_by (fun hf => ?_) fun hf => ?_
    · kpc_obj
      refine we_call c_pick (hr.mono (by decide)) ?_
      kpc_obj
      refine ⟨a, s, k, _, _, g, rfl, rfl, by simpa using h1, pk, fun x k' hx => ?_⟩
      obtain ⟨n, hn, rfl⟩ := List.mem_map.mp hx
      exact q (.one n) k' ⟨hf, h3 n hn⟩
    · refine wb_nil ?_
      kpc_obj
      refine we_lcn [("_law_turn_here", 5)] (by kp_flats) (by assumption) rfl (by kpc_if) ?_
      refine wlc_L (α := Nat) (β := Nat) (fun i => .int (0 + (i : Nat))) (fun k => g (drM s k)) (fun rest acc _ => ∃ ns : List Nat, acc = ns.map natD ∧ ns.length + rest.length ≤ 3 ∧ ∀ n ∈ ns, FitOne sorts fl n) ?_ ?_ ?_
      · refine wi_range T ?_
        refine we_call c_pick (hr.mono (by decide)) ?_
        kpc_obj
        refine ⟨a, s, k, _, _, g, rfl, rfl, by simp, pk, fun x k' hx => ?_⟩
        obtain ⟨n, hn, rfl⟩ : ∃ n : Nat, n ≤ 3 ∧ x = .int n := by
          simp only [List.mem_cons, List.not_mem_nil, or_false] at hx
          rcases hx with h | h | h | h | h | h
          · exact ⟨1, by omega, h⟩
          · exact ⟨2, by omega, h⟩
          · exact ⟨1, by omega, h⟩
          · exact ⟨2, by omega, h⟩
          · exact ⟨0, by omega, h⟩
          · exact ⟨3, by omega, h⟩
        exact ⟨n, rfl, by omega, by omega, List.range n, by rw [Int.toNat_natCast], k', rfl, [], rfl, by simpa using hn, by simp⟩
      · rintro D0 x rest acc k1 ⟨ns, rfl, hns, hfit⟩
        refine ⟨by simp at hns ⊢; omega, ⟨?_⟩⟩
        rintro Y ⟨s1, H1, C1, cl1, fp1, rfl⟩
        kpc_obj
        rintro Y ⟨s1, H1, C1, cl1, fp1, rfl⟩
        kpc_obj
        rintro Y ⟨s1, H1, C1, cl1, fp1, rfl⟩
        refine we_call c_pick (hr.mono (by decide)) ?_
        kpc_obj
        refine ⟨a, s, k1, _, _, _, rfl, rfl, by simpa using h1, .there (pk.again _), fun x k' hx => ?_⟩
        obtain ⟨n, hn, rfl⟩ := List.mem_map.mp hx
        exact ⟨_, rfl, k', rfl, ns ++ [n], by simp, by simp at hns ⊢; omega, fun m hm => by
          rcases List.mem_append.mp hm with h | h
          · exact hfit m h
          · rw [List.mem_singleton.mp h]; exact h3 n hn⟩
      · rintro acc k1 ⟨ns, rfl, hns, hfit⟩
        kpc_obj
        exact q (.many ns) k1 ⟨hf, by simpa using hns, hfit⟩
  kpc_obj
  refine we_listRg T rfl ?_
  kpc_obj
  refine ⟨10, rfl, by omega, ?_⟩
  kpc_obj
  cases ht : fl.tg with
  | none =>
    kpc_obj
    refine it_f ?_
    refine wb_nil ?_
    exact fin (List.range 10) (by simp) (by simp) (fun n hn => by unfold FitOne; rw [ht]; show n ≤ 9; simp at hn; omega)
  | some t =>
    kpc_obj
    refine it_t ?_
    kpc_obj
    refine we_lcn [("_law_at", 4)] (by kp_flats) (by assumption) rfl (by kpc_if) ?_
    refine wlc_F (β := Nat) (fun i => .int (0 + (i : Nat))) (fun i => .int (0 + (i : Nat))) (fun i => decide (sorts[i]? = some t)) (List.range sorts.length) ?_ (by simp; omega) ?_ ?_
    · refine wi_range T ?_
      kpc_obj
      rw [List.length_map]
      exact ⟨by omega, by omega, by rw [Int.toNat_natCast], rfl⟩
    · rintro i hi Y ⟨s1, H1, C1, cl1, fp1, rfl⟩ ν
      have hi' : i < sorts.length := by simpa using hi
      kpc_obj
      rintro Y ⟨s1, H1, C1, cl1, fp1, rfl⟩
      kpc_obj
      refine rd_ixL (d := natD sorts[i]) (by rw [Int.zero_add]; exact atI_nat (by rw [List.getElem?_map, List.getElem?_eq_getElem hi']; rfl)) ?_
      kpc_obj
      rw [ht]
      refine rd_eqP (rd_eqI ?_)
      kpc_obj
      have e : decide ((sorts[i] : Int) = (t : Int)) = decide (sorts[i]? = some t) := by
        rw [List.getElem?_eq_getElem hi']
        exact decide_eq_decide.mpr ⟨fun h => by rw [Int.ofNat.inj h], fun h => by rw [Option.some.inj h]⟩
      refine ⟨rfl, e, fun _ => ?_⟩
      rintro Y ⟨s1, H1, C1, cl1, fp1, rfl⟩
      kpc_obj
      exact ⟨rfl, rfl⟩
    · refine wb_nil ?_
      obtain ⟨n, hn⟩ := hable t ht
      have hn' := (List.getElem?_eq_some_iff.mp hn).1
      have z := fin ((List.range sorts.length).filter fun i => decide (sorts[i]? = some t)) (fun h => by
        have : n ∈ (List.range sorts.length).filter fun i => decide (sorts[i]? = some t) := List.mem_filter.mpr ⟨by simpa using hn', by simpa using hn⟩
        rw [h] at this; cases this) (Nat.le_trans (List.length_filter_le _ _) (by simpa using hlen)) (fun i hi => by
        unfold FitOne; rw [ht]
        exact by simpa using (List.mem_filter.mp hi).2)
      have e : (fun i : Nat => D.int (0 + (i : Int))) = natD := by funext i; unfold natD; rw [Int.zero_add]
      rw [e]
      exact z
end
end
section
section
variable {P : Program} {w : World} {K : PySem.W.Frag} {mg : Str → Option Value} {base : Heap} {f : Addr} {fd : FuncData}
def sObjects : Spec := fun ds μ Φ _ => ∃ (a : Addr) (s : List Int) (k : Nat) (ks : List (List Fld)) (g : M → Mu), ds = [.ref a, kindsD ks] ∧ KindsOk ks ∧ AtF μ a (drM s k) g ∧ ∀ os k', ObjsOk ks os → Φ (objsD os) (g (drM s k'))
theorem ok_objects (F : Fd K "_law_objects" "_law_objects" s_law_objects f fd) (T : Bn mg) (c_next : Cal P w K mg base 3 "_law_next" sNext) (c_value : Cal P w K mg base 5 "_law_value" sValue) : FnR P w K mg base CX0 6 f (spD K sObjects) := by
  refine fn_D F sc_law_objects (fun _ _ _ _ _ _ us hl => match us, hl with | [_, _], _ => rfl) (fun ds μ Φ Ψ h => by obtain ⟨s, k, n, _, _, rfl, _⟩ := h; rfl) ?_
  have hN := sc_law_objects.nd
  rintro cdv A outer s0 H E hr ds μ Φ Ψ ⟨a, s, k, ks, g, rfl, hks, pk, q⟩
  have hk1 : 0 < ks.length := List.length_pos_iff.mpr hks.ne
  have hk3 := hks.few
  kpc_obj
  refine we_listRg T rfl ?_
  kpc_obj
  rw [List.length_map]
  refine ⟨ks.length, rfl, by omega, ?_⟩
  refine we_lcn [("_law_turn_here", 3)] (by kp_flats) (by assumption) rfl (by kpc_if) ?_
  refine wlc_L (α := Nat) (β := Nat) (fun i => .int (0 + (i : Nat))) (fun k => g (drM s k)) (fun rest acc _ => ∃ ns : List Nat, acc = ns.map natD ∧ ns.length + rest.length ≤ 2 ∧ ∀ n ∈ ns, n < ks.length) ?_ ?_ ?_
  · refine wi_range T ?_
    refine we_call c_next (hr.mono (by decide)) ?_
    kpc_obj
    refine ⟨a, s, k, _, _, rfl, by omega, pk, fun n k' h0 h1 => ?_⟩
    obtain ⟨n, rfl⟩ : ∃ j : Nat, n = j := ⟨n.toNat, by omega⟩
    exact ⟨n, rfl, by omega, by omega, List.range n, by rw [Int.toNat_natCast], k', rfl, [], rfl, by simp; omega, by simp⟩
  · rintro D0 x rest acc k1 ⟨ns, rfl, hns, hfit⟩
    refine ⟨by simp at hns ⊢; omega, ⟨?_⟩⟩
    rintro Y ⟨s1, H1, C1, cl1, fp1, rfl⟩
    kpc_obj
    rintro Y ⟨s1, H1, C1, cl1, fp1, rfl⟩
    kpc_obj
    rintro Y ⟨s1, H1, C1, cl1, fp1, rfl⟩
    refine we_call c_next (hr.mono (by decide)) ?_
    kpc_obj
    rw [List.length_map]
    refine ⟨a, s, k1, _, _, rfl, by omega, .there (pk.again _), fun n k' h0 h1 => ?_⟩
    obtain ⟨n, rfl⟩ : ∃ j : Nat, n = j := ⟨n.toNat, by omega⟩
    exact ⟨_, rfl, k', rfl, ns ++ [n], by simp [natD], by simp at hns ⊢; omega, fun m hm => by
      rcases List.mem_append.mp hm with h | h
      · exact hfit m h
      · rw [List.mem_singleton.mp h]; omega⟩
  · rintro acc k1 ⟨ns, rfl, hns, hfit⟩
    refine rd_addL ls_f ls_f (by simp [rgD] at hns ⊢; omega) ?_
    obtain ⟨sorts, hs⟩ : ∃ sorts, sorts = List.range ks.length ++ ns := ⟨_, rfl⟩
    have e : rgD ks.length ++ ns.map natD = sorts.map natD := by
      rw [hs, List.map_append]
      congr 1
      unfold rgD natD
      simp
    rw [e]
    have hsl : sorts.length ≤ 5 := by rw [hs]; simp at hns ⊢; omega
    have hsn : ∀ n ∈ sorts, n < ks.length := fun n hn => by
      rw [hs] at hn
      rcases List.mem_append.mp hn with h | h
      · simpa using h
      · exact hfit n h
    have hst : ∀ t, t < ks.length → ∃ n : Nat, sorts[n]? = some t := fun t ht => ⟨t, by
      rw [hs, List.getElem?_append_left (by simpa using ht), List.getElem?_range ht]⟩
    kpc_obj
    refine we_lcn [("_law_sort", 5)] (by kp_flats) (by assumption) rfl (by kpc_if) ?_
    refine wlc_L (α := Nat) (β := Nat) natD (fun k => g (drM s k)) (fun rest acc _ => ∃ os : List Ob, acc = os.map objD ∧ os.map (·.1) ++ rest = sorts ∧ ∀ o ∈ os, ∃ fs, ks[o.1]? = some fs ∧ Fits sorts fs o.2) ?_ ?_ ?_
    · refine wi_lst ?_
      kpc_obj
      exact ⟨_, rfl, sorts, rfl, k1, rfl, [], rfl, rfl, by simp⟩
    · rintro D0 x rest acc k2 ⟨os, rfl, hos, hfits⟩
      have hx : x < ks.length := hsn x (by rw [← hos]; simp)
      have hlen : os.length + rest.length + 1 = sorts.length := by rw [← hos]; simp; omega
      refine ⟨by simp; omega, ⟨?_⟩⟩
      rintro Y ⟨s1, H1, C1, cl1, fp1, rfl⟩
      kpc_obj
      rintro Y ⟨s1, H1, C1, cl1, fp1, rfl⟩
      kpc_obj
      rintro Y ⟨s1, H1, C1, cl1, fp1, rfl⟩
      kpc_obj
      refine we_lcn [("_law_field_here", 4)] (by kp_flats) (by assumption) rfl (by kpc_if) ?_
      obtain ⟨fs, hfs⟩ : ∃ fs, ks[x]? = some fs := ⟨ks[x], List.getElem?_eq_getElem hx⟩
      have hko := hks.each fs (List.mem_of_getElem? hfs)
      refine wlc_L (α := Nat) (β := Fld) fldD (fun k => (D0, .lst (os.map objD)) :: g (drM s k)) (fun rest acc _ => ∃ (vs : List Val) (pre : List Fld), acc = vs.map valD ∧ pre ++ rest = fs ∧ Fits sorts pre vs) ?_ ?_ ?_
      · refine wi_tup ?_
        kpc_obj
        refine rd_ixT (d := kindD fs) (atI_nat (by rw [List.getElem?_map, hfs]; rfl)) ?_
        exact ⟨_, rfl, fs, rfl, k2, rfl, [], [], rfl, rfl, .nil⟩
      · rintro D1 y rest2 acc2 k3 ⟨vs, pre, rfl, hpre, hft⟩
        have hy : y ∈ fs := by rw [← hpre]; simp
        have hpl : pre.length + rest2.length + 1 = fs.length := by rw [← hpre]; simp; omega
        have := hko.few
        have := hft.length
        refine ⟨by simp; omega, ⟨?_⟩⟩
        rintro Y ⟨s2, H2, C2, cl2, fp2, rfl⟩
        kpc_obj
        rintro Y ⟨s2, H2, C2, cl2, fp2, rfl⟩
        kpc_obj
        rintro Y ⟨s2, H2, C2, cl2, fp2, rfl⟩
        refine we_call c_value (hr.mono (by decide)) ?_
        kpc_obj
        refine ⟨a, s, k3, sorts, y, _, rfl, by omega, fun t ht => hst t (hko.tgs y hy t ht), .there (.there (pk.again _)), fun v k' hv => ?_⟩
        exact ⟨_, rfl, k', rfl, vs ++ [v], pre ++ [y], by simp, by rw [List.append_assoc]; exact hpre, hft.snoc hv⟩
      · rintro acc2 k3 ⟨vs, pre, rfl, hpre, hft⟩
        kpc_obj
        rw [List.append_nil] at hpre
        subst hpre
        exact ⟨_, rfl, k3, rfl, os ++ [(x, vs)], by simp [natD], by simp [← hos], fun o ho => by
          rcases List.mem_append.mp ho with h | h
          · exact hfits o h
          · rw [List.mem_singleton.mp h]; exact ⟨pre, hfs, hft⟩⟩
    · rintro acc k2 ⟨os, rfl, hos, hfits⟩
      kpc_obj
      rw [List.append_nil] at hos
      have hl : os.length = sorts.length := by rw [← hos, List.length_map]
      refine q os k2 ⟨by omega, ?_, fun o ho => by rw [hos]; exact hfits o ho⟩
      have h0 : sorts[0]? = some 0 := by
        rw [hs, List.getElem?_append_left (by simpa using hk1), List.getElem?_range hk1]
      cases os with
      | nil => rw [← hos] at h0; simp at h0
      | cons o r =>
        rw [← hos] at h0
        obtain ⟨n, vs⟩ := o
        simp at h0
        subst h0
        exact ⟨vs, r, rfl⟩
end
end
section
/-! ### the questions' parts -/
inductive Pt where
  | leaf (nm : Nat) | node (nm : Nat) (inner : List Pt)
def Pt.nm : Pt → Nat
  | .leaf n => n | .node n _ => n
mutual
def ptD : Pt → D
  | .leaf n => .tup [Nm n, .non]
  | .node n ps => .tup [Nm n, .tup (ptDs ps)]
def ptDs : List Pt → List D
  | [] => []
  | p :: ps => ptD p :: ptDs ps
end
mutual
def szP : Pt → Nat
  | .leaf _ => 1
  | .node _ ps => 1 + szPs ps
def szPs : List Pt → Nat
  | [] => 0
  | p :: ps => szP p + szPs ps
end
theorem ptDs_map : ∀ ps : List Pt, ptDs ps = ps.map ptD
  | [] => rfl
  | p :: ps => by rw [ptDs, ptDs_map ps]; rfl
theorem ptD_leaf (n : Nat) : ptD (.leaf n) = .tup [Nm n, .non] := by rw [ptD]
theorem ptD_node (n : Nat) (ps : List Pt) : ptD (.node n ps) = .tup [Nm n, .tup (ps.map ptD)] := by rw [ptD, ptDs_map]
theorem szPs_app : ∀ (ps qs : List Pt), szPs (ps ++ qs) = szPs ps + szPs qs
  | [], qs => by simp [szPs]
  | p :: ps, qs => by rw [List.cons_append, szPs, szPs, szPs_app ps qs]; omega
abbrev ptsD (ps : List Pt) : D := .tup (ps.map ptD)
def POk (ks : List (List Fld)) : Nat → Nat → Pt → Prop
  | 0, kd, p => ∃ fs f, ks[kd]? = some fs ∧ f ∈ fs ∧ f.tg = none ∧ p = .leaf f.nm
  | lv + 1, kd, p => (∃ fs f, ks[kd]? = some fs ∧ f ∈ fs ∧ f.tg = none ∧ p = .leaf f.nm) ∨
      ∃ fs f t qs, ks[kd]? = some fs ∧ f ∈ fs ∧ f.tg = some t ∧ p = .node f.nm qs ∧ qs ≠ [] ∧ qs.length ≤ 3 ∧ (qs.map Pt.nm).Nodup ∧ ∀ q ∈ qs, POk ks lv t q
structure PsOk (ks : List (List Fld)) (lv kd : Nat) (ps : List Pt) : Prop where
  ne : ps ≠ []
  few : ps.length ≤ 3
  dis : (ps.map Pt.nm).Nodup
  each : ∀ p ∈ ps, POk ks lv kd p
theorem pok_leaf {ks : List (List Fld)} {lv kd : Nat} {fs : List Fld} {f : Fld} (h1 : ks[kd]? = some fs) (h2 : f ∈ fs) (h3 : f.tg = none) : POk ks lv kd (.leaf f.nm) := by
  cases lv with
  | zero => exact ⟨fs, f, h1, h2, h3, rfl⟩
  | succ n => exact .inl ⟨fs, f, h1, h2, h3, rfl⟩
theorem pok_node {ks : List (List Fld)} {lv kd t : Nat} {fs : List Fld} {f : Fld} {qs : List Pt} (h1 : ks[kd]? = some fs) (h2 : f ∈ fs) (h3 : f.tg = some t) (h : PsOk ks lv t qs) : POk ks (lv + 1) kd (.node f.nm qs) :=
  .inr ⟨fs, f, t, qs, h1, h2, h3, rfl, h.ne, h.few, h.dis, h.each⟩
section
variable {P : Program} {w : World} {K : PySem.W.Frag} {mg : Str → Option Value} {base : Heap} {f : Addr} {fd : FuncData}
def sParts (lv : Nat) : Spec := fun ds μ Φ _ => ∃ (a r : Addr) (s : List Int) (k n : Nat) (ks : List (List Fld)) (kd : Nat) (rest : Mu), ds = [.ref a, kindsD ks, .int (kd : Nat), .int ((lv + 1 : Nat) : Int), .ref r] ∧ KindsOk ks ∧ kd < ks.length ∧ 1 ≤ n ∧ μ = (a, drM s k) :: (r, .lst [.int (n : Nat)]) :: rest ∧
  ∀ (ps : List Pt) (k' n' : Nat), PsOk ks lv kd ps → szPs ps + n' = n → Φ (ptsD ps) ((a, drM s k') :: (r, .lst [.int (n' : Nat)]) :: rest)
/-- what the loop over the fields keeps -/
structure InvP (ks : List (List Fld)) (lv kd : Nat) (fs : List Fld) (st many n : Nat) (i : Nat) (ps : List Pt) (n' : Nat) : Prop where
  few : ps.length ≤ many
  dis : (ps.map Pt.nm).Nodup
  each : ∀ p ∈ ps, POk ks lv kd p
  nms : ∀ p ∈ ps, ∃ (j : Nat) (f : Fld), j < i ∧ fs[(st + j) % fs.length]? = some f ∧ p.nm = f.nm
  sz : szPs ps + n' = n
  nil : ps = [] → ∀ (j : Nat) (f : Fld), j < i → fs[(st + j) % fs.length]? = some f → f.tg ≠ none
theorem InvP.skip {ks : List (List Fld)} {lv kd : Nat} {fs : List Fld} {st many n i n' : Nat} {ps : List Pt} {f : Fld} (h : InvP ks lv kd fs st many n i ps n') (hf : fs[(st + i) % fs.length]? = some f) (ht : f.tg ≠ none) : InvP ks lv kd fs st many n (i + 1) ps n' := by
  refine ⟨h.few, h.dis, h.each, fun p hp => ?_, h.sz, fun he j g hj hg => ?_⟩
  · obtain ⟨j, g, a, b, c⟩ := h.nms p hp
    exact ⟨j, g, by omega, b, c⟩
  · by_cases e : j = i
    · subst e
      rw [hf] at hg
      cases hg
      exact ht
    · exact h.nil he j g (by omega) hg
theorem mod_inj {st len i j : Nat} (hi : i < len) (hj : j < len) (h : (st + i) % len = (st + j) % len) : i = j := by
  have h1 : (st + i) % len = (st % len + i) % len := by rw [Nat.mod_add_mod]
  have h2 : (st + j) % len = (st % len + j) % len := by rw [Nat.mod_add_mod]
  rw [h1, h2] at h
  have hs : st % len < len := Nat.mod_lt _ (by omega)
  generalize st % len = s at *
  have e : ∀ x, x < 2 * len → x % len = if x < len then x else x - len := fun x hx => by
    split
    · exact Nat.mod_eq_of_lt ‹_›
    · rw [Nat.mod_eq_sub_mod (by omega)]; exact Nat.mod_eq_of_lt (by omega)
  rw [e _ (by omega), e _ (by omega)] at h
  split at h <;> split at h <;> omega
theorem InvP.snoc {ks : List (List Fld)} {lv kd : Nat} {fs : List Fld} {st many n i n' n2 : Nat} {ps : List Pt} {f : Fld} {p : Pt} (h : InvP ks lv kd fs st many n i ps n') (hk : Kind0 ks.length fs) (hi : i < fs.length) (hf : fs[(st + i) % fs.length]? = some f) (hp : p.nm = f.nm) (ho : POk ks lv kd p) (hm : ps.length ≠ many) (hz : szP p + n2 = n') :
    InvP ks lv kd fs st many n (i + 1) (ps ++ [p]) n2 := by
  refine ⟨by have := h.few; simp; omega, ?_, fun q hq => ?_, fun q hq => ?_, ?_, fun he => by simp at he⟩
  · rw [List.map_append]
    refine List.nodup_append.mpr ⟨h.dis, by simp, fun x hx y hy => ?_⟩
    have hy' : y = p.nm := by simpa using hy
    subst hy'
    rintro rfl
    obtain ⟨q, hq, e⟩ := List.mem_map.mp hx
    obtain ⟨j, g, hj, hg, e2⟩ := h.nms q hq
    have e3 : g.nm = f.nm := by rw [← e2, e, hp]
    obtain ⟨l1, q1⟩ := List.getElem?_eq_some_iff.mp hg
    obtain ⟨l2, q2⟩ := List.getElem?_eq_some_iff.mp hf
    have e4 : (st + j) % fs.length = (st + i) % fs.length := by
      refine (List.getElem_inj (xs := fs.map Fld.nm) (h₀ := by simpa using l1) (h₁ := by simpa using l2) hk.dis).mp ?_
      rw [List.getElem_map, List.getElem_map, q1, q2, e3]
    have := mod_inj (by omega) hi e4
    omega
  · rcases List.mem_append.mp hq with hq | hq
    · exact h.each q hq
    · rw [List.mem_singleton.mp hq]; exact ho
  · rcases List.mem_append.mp hq with hq | hq
    · obtain ⟨j, g, a, b, c⟩ := h.nms q hq
      exact ⟨j, g, by omega, b, c⟩
    · rw [List.mem_singleton.mp hq]; exact ⟨i, f, by omega, hf, hp⟩
  · have := h.sz
    rw [szPs_app, szPs, szPs]; omega
theorem InvP.done {ks : List (List Fld)} {lv kd : Nat} {fs : List Fld} {st many n n' : Nat} {ps : List Pt} (h : InvP ks lv kd fs st many n fs.length ps n') (hk : Kind0 ks.length fs) : ps ≠ [] := by
  intro he
  obtain ⟨f, hf, ht⟩ := hk.hd
  obtain ⟨m, hm⟩ := List.mem_iff_getElem?.mp hf
  have hl := (List.getElem?_eq_some_iff.mp hm).1
  have hs : st % fs.length < fs.length := Nat.mod_lt _ (by omega)
  obtain ⟨j, hj, e⟩ : ∃ j, j < fs.length ∧ (st + j) % fs.length = m := by
    have e0 : ∀ j, (st + j) % fs.length = (st % fs.length + j) % fs.length := fun j => by rw [Nat.mod_add_mod]
    by_cases hc : st % fs.length ≤ m
    · refine ⟨m - st % fs.length, by omega, ?_⟩
      rw [e0, show st % fs.length + (m - st % fs.length) = m by omega]
      exact Nat.mod_eq_of_lt hl
    · refine ⟨m + fs.length - st % fs.length, by omega, ?_⟩
      rw [e0, show st % fs.length + (m + fs.length - st % fs.length) = m + fs.length by omega, Nat.add_mod_right]
      exact Nat.mod_eq_of_lt hl
  exact h.nil he j f hj (by rw [e]; exact hm) ht
end
end
section
section
variable {P : Program} {w : World} {K : PySem.W.Frag} {mg : Str → Option Value} {base : Heap} {f : Addr} {fd : FuncData}
theorem parts_body (F : Fd K "_law_parts" "_law_parts" s_law_parts f fd) (T : Bn mg) (c_next : Cal P w K mg base 3 "_law_next" sNext) (lv : Nat) (hrec : ∀ l, lv = l + 1 → Cal P w K mg base (4 + l + 1) "_law_parts" (sParts l)) : FnR P w K mg base CX0 (4 + lv + 1) f (spD K (sParts lv)) := by
  refine fn_D F sc_law_parts (fun _ _ _ _ _ _ us hl => match us, hl with | [_, _, _, _, _], _ => rfl) (fun ds μ Φ Ψ h => by obtain ⟨_, _, _, _, _, _, _, _, rfl, _⟩ := h; rfl) ?_
  have hN := sc_law_parts.nd
  rintro cdv A outer s0 H E hr ds μ Φ Ψ ⟨a, r, s, k, n, ks, kd, rest, rfl, hks, hkd, hn, rfl, q⟩
  obtain ⟨fs, hfs⟩ : ∃ fs, ks[kd]? = some fs := ⟨ks[kd], List.getElem?_eq_getElem hkd⟩
  have hko := hks.each fs (List.mem_of_getElem? hfs)
  have hfl : 0 < fs.length := List.length_pos_iff.mpr hko.ne
  have hf3 := hko.few
  have hkx : L2.atI (ks.map kindD) (kd : Int) = some (kindD fs) := atI_nat (by rw [List.getElem?_map, hfs]; rfl)
  kpc_obj
  refine rd_ixT (d := kindD fs) hkx ?_
  refine we_lstM ?_
  kpc_obj
  intro p
  kpc_obj
  refine we_call c_next (hr.mono (by omega)) ?_
  kpc_obj
  refine ⟨a, s, k, _, _, rfl, by omega, by kpc_turns, fun x k1 h0 h1 => ?_⟩
  kpc_obj
  refine we_call c_next (hr.mono (by omega)) ?_
  kpc_obj
  refine rd_ixT (d := kindD fs) hkx ?_
  kpc_obj
  rw [List.length_map]
  refine ⟨a, s, k1, _, _, rfl, by omega, by kpc_turns, fun y k2 h2 h3 => ?_⟩
  obtain ⟨many, hm⟩ : ∃ m : Nat, 1 + x = m := ⟨(1 + x).toNat, by omega⟩
  obtain ⟨st, rfl⟩ : ∃ m : Nat, y = m := ⟨y.toNat, by omega⟩
  have hm3 : 1 ≤ many ∧ many ≤ 3 := by omega
  rw [hm]
  refine wb_cons ?_
  refine ws_perm (ν := (a, drM s k2) :: (r, .lst [.int (n : Nat)]) :: (p, .lst []) :: rest) (by
    exact ((List.Perm.swap _ _ _).trans ((List.Perm.swap _ _ _).cons _)).symm) ?_
  refine ws_forL (α := List Pt × Nat × Nat) (β := Nat) [9, 10] [9] (fun i => .int (0 + (i : Nat))) (fun _ => [some (.ref a), some (kindsD ks), some (.int (kd : Nat)), some (.int ((lv + 1 : Nat) : Int)), some (.ref r), some (kindD fs), some (.ref p), some (.int (many : Nat)), some (.int (st : Nat)), none, none])
    (fun z => (a, drM s z.2.1) :: (r, .lst [.int (z.2.2 : Nat)]) :: (p, .lst (z.1.map ptD)) :: rest) (fun re z => ∃ i, re = List.range' i re.length ∧ i + re.length = fs.length ∧ InvP ks lv kd fs st many n i z.1 z.2.2) PassesOwn.never rfl ?_ ?_ ?_
  · refine wi_range T ?_
    kpc_obj
    rw [List.length_map]
    exact ⟨by omega, by omega, List.range fs.length, by rw [Int.toNat_natCast], ([], k2, n), rfl, rfl, 0, by simp [List.range_eq_range'], by simp, ⟨by simp, by simp, by simp, by simp, by simp [szPs], fun _ j f hj => by omega⟩⟩
  · rintro i re ⟨ps, k3, n'⟩ ⟨i', hre, hil, hinv⟩
    change InvP ks lv kd fs st many n i' ps n' at hinv
    have hi : i = i' := by
      simp only [List.length_cons, List.range'_succ] at hre
      exact (List.cons.inj hre).1
    have hre2 : re = List.range' (i' + 1) re.length := by
      simp only [List.length_cons, List.range'_succ] at hre
      exact (List.cons.inj hre).2
    subst hi
    simp at hil
    have hil' : i < fs.length := by omega
    obtain ⟨fl, hfl'⟩ : ∃ fl, fs[(st + i) % fs.length]? = some fl := ⟨fs[(st + i) % fs.length]'(Nat.mod_lt _ hfl), List.getElem?_eq_getElem _⟩
    have hmem := List.mem_of_getElem? hfl'
    kpc_obj
    rw [List.length_map]
    refine rd_mod (by omega) ?_
    have em : (((st : Int) + (0 + (i : Int))) % (fs.length : Int)) = (((st + i) % fs.length : Nat) : Int) := by rw [Int.zero_add]; rfl
    rw [em]
    refine rd_ixT (d := fldD fl) (atI_nat (by rw [List.getElem?_map, hfl']; rfl)) ?_
    kpc_obj
    rw [List.length_map]
    refine it_by (fun he => ?_) fun he => ?_
    · kpc_obj
      have hne : ps ≠ [] := by rintro rfl; simp at he; omega
      exact q ps k3 n' ⟨hne, by have := hinv.few; omega, hinv.dis, hinv.each⟩ hinv.sz
    · kpc_obj
      refine it_by (fun hz => ?_) fun hz => ?_
      · kpc_obj
        have hne : ps ≠ [] := by
          rintro rfl
          have := hinv.sz
          have hz' : (n' : Int) = 0 := hz
          simp [szPs] at this
          omega
        exact q ps k3 n' ⟨hne, by have := hinv.few; omega, hinv.dis, hinv.each⟩ hinv.sz
      · have hz' : ¬ (n' : Int) = 0 := hz
        have hmany : ps.length ≠ many := fun e => he (by simp [e])
        refine wb_nil ?_
        kpc_obj
        have fin : ∀ (p' : Pt) (d : D) (k n2 : Nat), ptD p' = d → p'.nm = fl.nm → POk ks lv kd p' → szP p' + n2 = n' → ∃ a' : List Pt × Nat × Nat, wipeR [some (.ref a), some (kindsD ks), some (.int (kd : Nat)), some (.int ((lv + 1 : Nat) : Int)), some (.ref r), some (kindD fs), some (.ref p), some (.int (many : Nat)), some (.int (st : Nat)), some (.int (0 + (i : Nat))), some (fldD fl)] [9, 10] = [some (.ref a), some (kindsD ks), some (.int (kd : Nat)), some (.int ((lv + 1 : Nat) : Int)), some (.ref r), some (kindD fs), some (.ref p), some (.int (many : Nat)), some (.int (st : Nat)), none, none] ∧
            (a, drM s k) :: (r, M.lst [.int (n2 : Nat)]) :: (p, .lst (ps.map ptD ++ [d])) :: rest = (a, drM s a'.2.1) :: (r, .lst [.int (a'.2.2 : Nat)]) :: (p, .lst (a'.1.map ptD)) :: rest ∧ ∃ i, re = List.range' i re.length ∧ i + re.length = fs.length ∧ InvP ks lv kd fs st many n i a'.1 a'.2.2 := by
          intro p' d k n2 e0 e1 e2 e3
          exact ⟨(ps ++ [p'], k, n2), rfl, by simp [e0], i + 1, hre2, by omega, hinv.snoc hko.toKind0 hil' hfl' e1 e2 hmany e3⟩
        have en : ∀ m : Nat, n' = m + 1 → D.int ((n' : Int) - 1) = D.int (m : Int) := fun m e => by rw [e]; congr 1; omega
        obtain ⟨m, em2⟩ : ∃ m, n' = m + 1 := ⟨n' - 1, by omega⟩
        cases ht : fl.tg with
        | none =>
          kpc_obj
          refine it_t ?_
          refine wb_cons (ws_asg [] ?_)
          kpc_obj
          refine wg_subL ?_
          kpc_obj
          rw [show D.int (((ps, k3, n').2.2 : Nat) - 1 : Int) = D.int (m : Int) from en m em2]
          refine ⟨r, 0, 0, _, _, rfl, rfl, by kpc_turns, by simp [ixN], ?_⟩
          kpc_obj
          · simp; have := hinv.few; omega
          · repeat refine wb_nil ?_
            exact fin (.leaf fl.nm) _ k3 m (ptD_leaf _) rfl (pok_leaf hfs hmem ht) (by simp [szP]; omega)
        | some t =>
          kpc_obj
          refine it_f ?_
          have skip : ∃ a' : List Pt × Nat × Nat, wipeR [some (.ref a), some (kindsD ks), some (.int (kd : Nat)), some (.int ((lv + 1 : Nat) : Int)), some (.ref r), some (kindD fs), some (.ref p), some (.int (many : Nat)), some (.int (st : Nat)), some (.int (0 + (i : Nat))), some (fldD fl)] [9, 10] = [some (.ref a), some (kindsD ks), some (.int (kd : Nat)), some (.int ((lv + 1 : Nat) : Int)), some (.ref r), some (kindD fs), some (.ref p), some (.int (many : Nat)), some (.int (st : Nat)), none, none] ∧
            (a, drM s k3) :: (r, M.lst [.int (n' : Nat)]) :: (p, .lst (ps.map ptD)) :: rest = (a, drM s a'.2.1) :: (r, .lst [.int (a'.2.2 : Nat)]) :: (p, .lst (a'.1.map ptD)) :: rest ∧ ∃ i, re = List.range' i re.length ∧ i + re.length = fs.length ∧ InvP ks lv kd fs st many n i a'.1 a'.2.2 :=
            ⟨(ps, k3, n'), rfl, rfl, i + 1, hre2, by omega, hinv.skip hfl' (by rw [ht]; exact fun z => nomatch z)⟩
          kpc_obj
          refine it_by (fun hlv => ?_) fun hlv => ?_
          · kpc_obj
            refine it_by (fun hr1 => ?_) fun hr1 => ?_
            · obtain ⟨l, rfl⟩ : ∃ l, lv = l + 1 := ⟨lv - 1, by omega⟩
              have hr1' : (1 : Int) < (n' : Int) := hr1
              refine wb_cons (ws_asg [] ?_)
              kpc_obj
              refine wg_subL ?_
              kpc_obj
              rw [show D.int (((ps, k3, n').2.2 : Nat) - 1 : Int) = D.int (m : Int) from en m em2]
              refine ⟨r, 0, 0, _, _, rfl, rfl, by kpc_turns, by simp [ixN], ?_⟩
              kpc_obj
              refine we_call (hrec l rfl) (hr.mono (by omega)) ?_
              kpc_obj
              refine ⟨a, r, s, k3, m, ks, t, _, by rw [ht, show (((l + 1 + 1 : Nat) : Int)) - 1 = ((l + 1 : Nat) : Int) by omega]; rfl, hks, hko.tgs fl hmem t ht, by omega, rfl, fun qs k4 n2 hqs hsz => ?_⟩
              kpc_obj
              · simp; have := hinv.few; omega
              · repeat refine wb_nil ?_
                exact fin (.node fl.nm qs) _ k4 n2 (ptD_node _ _) rfl (pok_node hfs hmem ht hqs) (by simp [szP]; omega)
            · repeat refine wb_nil ?_
              exact skip
          · refine it_f ?_
            repeat refine wb_nil ?_
            exact skip
  · rintro ⟨ps, k3, n'⟩ ⟨i, hre, hil, hinv⟩
    change InvP ks lv kd fs st many n i ps n' at hinv
    simp at hil
    subst hil
    kpc_obj
    have hne := hinv.done hko.toKind0
    exact q ps k3 n' ⟨hne, by have := hinv.few; omega, hinv.dis, hinv.each⟩ hinv.sz
theorem ok_parts (F : Fd K "_law_parts" "_law_parts" s_law_parts f fd) (T : Bn mg) (c_next : Cal P w K mg base 3 "_law_next" sNext) (hself : mg "_law_parts" = some (.ref f) ∧ PySem.W.keepIn K (.ref f) = true) : ∀ lv, FnR P w K mg base CX0 (4 + lv + 1) f (spD K (sParts lv))
  | 0 => parts_body F T c_next 0 (fun l e => by omega)
  | lv + 1 => parts_body F T c_next (lv + 1) (fun l e => by cases (Nat.succ.inj e); exact ⟨f, hself.1, hself.2, ok_parts F T c_next hself lv⟩)
end
end
section
section
variable {P : Program} {w : World} {K : PySem.W.Frag} {mg : Str → Option Value} {base : Heap} {f : Addr} {fd : FuncData}
def sIsNumber3 : Spec := fun ds μ Φ _ => ∃ (t : D) (lo : Int) (hi : Option Int), ds = [t, .int lo, opZ hi] ∧ ((∃ i, t = .int i ∧ Φ (.bl (decide (lo ≤ i) && (match hi with | none => true | some h => decide (i ≤ h)))) μ) ∨ ∃ A, tyD t = some A ∧ isB A .int = false ∧ Φ (.bl false) μ)
abbrev sIsNumber : Spec := fun ds μ Φ Ψ => sIsNumber3 (ds ++ [.non]) μ Φ Ψ ∨ sIsNumber3 ds μ Φ Ψ
theorem ok_is_number (F : Fd1 K "is_number" "is_number" s_is_number .non f fd) (T : Bn mg) : FnR P w K mg base CX0 1 f (spD K sIsNumber) := by
  refine fn_D1 (dd := .non) (n := 2) F sc_is_number rfl (fun _ => .non) (fun _ _ _ _ _ _ _ us its h1 h2 => ?_) (fun _ _ _ _ _ _ _ us its h1 h2 => ?_) (fun ds μ Φ Ψ h => by obtain ⟨_, _, _, rfl, _⟩ := h; rfl) ?_
  · match us, its, h1, h2 with
    | [_, _], [_], _, _ => exact ⟨_, rfl, rfl⟩
  · match us, its, h1, h2 with
    | [_, _, _], [_], _, _ => exact ⟨_, rfl, rfl⟩
  have hN := sc_is_number.nd
  rintro cdv A outer s0 H E hr ds μ Φ Ψ ⟨t, lo, hi, rfl, q⟩
  rcases q with ⟨i, rfl, q⟩ | ⟨A, hA, hb, q⟩
  · kqd_all
    refine it_by (fun h1 => ?_) fun h1 => ?_
    · kqd_all
      rw [isn_opZ]
      rw [decide_eq_true h1, Bool.true_and] at q
      cases hi with
      | none => exact it_yes rfl q
      | some h =>
        refine it_no (by simp) ?_
        kqd_all
    · rw [decide_eq_false h1, Bool.false_and] at q
      exact q
  · kqd_all
    refine ⟨_, isi_i hA (by decide), ?_⟩
    kqd_all
    rw [hb]
    kqd_all
/-- is_name of a letter; of something else -/
def sIsName : Spec := fun ds μ Φ _ => ∃ c, ds = [Nm c] ∧ 97 ≤ c ∧ c ≤ 102 ∧ Φ (.bl true) μ
theorem nm_in {c : Nat} (h1 : 97 ≤ c) (h2 : c ≤ 102) : decide (c ∈ (Str.ofString "abcdef").cps.toList) = true := by
  have h : c = 97 ∨ c = 98 ∨ c = 99 ∨ c = 100 ∨ c = 101 ∨ c = 102 := by omega
  rcases h with rfl | rfl | rfl | rfl | rfl | rfl <;> decide
theorem ok_is_name (F : Fd K "is_name" "is_name" s_is_name f fd) (T : Bn mg) (g4 : Gc K mg "NAMES" (.str "abcdef")) : FnR P w K mg base CX0 1 f (spD K sIsName) := by
  refine fn_D F sc_is_name (fun _ _ _ _ _ _ us hl => match us, hl with | [_], _ => rfl) (fun ds μ Φ Ψ h => by obtain ⟨c, rfl, _⟩ := h; rfl) ?_
  have hN := sc_is_name.nd
  rintro cdv A outer s H E hr ds μ Φ Ψ ⟨c, rfl, h1, h2, k⟩
  kqd_all
  refine we_cmp (op := .In) (r := rInS) op_in_sign ?_
  kqd_all
  refine we_glob g4 ?_
  refine rd_inS ?_
  rw [nm_in h1 h2]
  exact k
/-- a word among these -/
def sIsWord : Spec := fun ds μ Φ _ => ∃ (x : Str) (ws : List Str), ds = [.str x, .tup (ws.map D.str)] ∧ x ∈ ws ∧ (∀ y ∈ ws, (PyData.str y).canLay0 = true) ∧ Φ (.bl true) μ
theorem ok_is_word (F : Fd K "is_word" "is_word" s_is_word f fd) (T : Bn mg) : FnR P w K mg base CX0 1 f (spD K sIsWord) := by
  refine fn_D F sc_is_word (fun _ _ _ _ _ _ us hl => match us, hl with | [_, _], _ => rfl) (fun ds μ Φ Ψ h => by obtain ⟨_, _, rfl, _⟩ := h; rfl) ?_
  have hN := sc_is_word.nd
  rintro cdv A outer s H E hr ds μ Φ Ψ ⟨x, ws, rfl, hx, hlay, k⟩
  kqd_all
  refine we_cmp (op := .In) (op_inDA (by assumption)) ?_
  kqd_all
  refine rd_inDA (d := .str x) (ds := ws.map PyData.str) (py_f (.str x)) (.inr (py_f (.tup (pyfs_map fun y _ => .str y)))) (by
    unfold SeqAt.shaped
    rw [hlay x hx]; rfl) (lay_all hlay) ?_
  have e : ((ws.map PyData.str).any fun z => PyData.eqv z (.str x)) = true := List.any_eq_true.mpr ⟨.str x, List.mem_map.mpr ⟨x, hx, rfl⟩, by simp [PyData.eqv]⟩
  rw [e]
  exact k
end
end
section
section
variable {P : Program} {w : World} {K : PySem.W.Frag} {mg : Str → Option Value} {base : Heap} {f : Addr} {fd : FuncData}
def formsD : D := .tup ((["one", "all", "gaps", "rest"] : List Str).map D.str)
def marksD : D := .tup ((["must", "may"] : List Str).map D.str)
theorem form_mem (m : Fmk) : m.s ∈ (["one", "all", "gaps", "rest"] : List Str) := by cases m <;> simp [Fmk.s]
theorem mark_mem (m : Bool) : mkS m ∈ (["must", "may"] : List Str) := by cases m <;> simp [mkS]
theorem forms_lay : ∀ y ∈ (["one", "all", "gaps", "rest"] : List Str), (PyData.str y).canLay0 = true := by
  intro y hy
  simp only [List.mem_cons, List.not_mem_nil, or_false] at hy
  rcases hy with rfl | rfl | rfl | rfl <;> decide +kernel
theorem marks_lay : ∀ y ∈ (["must", "may"] : List Str), (PyData.str y).canLay0 = true := by
  intro y hy
  simp only [List.mem_cons, List.not_mem_nil, or_false] at hy
  rcases hy with rfl | rfl <;> decide +kernel
def sIsField : Spec := fun ds μ Φ _ => ∃ (g : Fld) (n : Nat), ds = [fldD g, .int (n : Nat)] ∧ 97 ≤ g.nm ∧ g.nm ≤ 102 ∧ (∀ t, g.tg = some t → t < n) ∧ Φ (.bl true) μ
theorem ok_is_field (F : Fd K "is_field" "is_field" s_is_field f fd) (T : Bn mg) (c_number : Cal P w K mg base 1 "is_number" sIsNumber) (c_name : Cal P w K mg base 1 "is_name" sIsName) (c_word : Cal P w K mg base 1 "is_word" sIsWord) (gF : Gc K mg "FORMS" formsD) (gM : Gc K mg "MARKS" marksD) : FnR P w K mg base CX0 2 f (spD K sIsField) := by
  refine fn_D F sc_is_field (fun _ _ _ _ _ _ us hl => match us, hl with | [_, _], _ => rfl) (fun ds μ Φ Ψ h => by obtain ⟨_, _, rfl, _⟩ := h; rfl) ?_
  have hN := sc_is_field.nd
  rintro cdv A outer s H E hr ds μ Φ Ψ ⟨g, n, rfl, h1, h2, h3, k⟩
  kqd_all
  refine ws_asg [2, 3, 4, 5, 6] ?_
  kqd_all
  refine we_call c_name (hr.mono (by decide)) ?_
  kqd_all
  refine ⟨g.nm, rfl, h1, h2, ?_⟩
  kqd_all
  refine we_call c_word (hr.mono (by decide)) ?_
  kqd_all
  refine we_glob gF ?_
  kqd_all
  refine ⟨_, _, rfl, form_mem _, forms_lay, ?_⟩
  kqd_all
  refine we_call c_word (hr.mono (by decide)) ?_
  kqd_all
  refine we_glob gM ?_
  kqd_all
  refine ⟨_, _, rfl, mark_mem _, marks_lay, ?_⟩
  kqd_all
  cases ht : g.tg with
  | none => exact it_t k
  | some t =>
    refine it_f ?_
    kqd_all
    refine we_call c_number (hr.mono (by decide)) ?_
    kqd_all
    have := h3 t ht
    refine .inr ⟨_, 0, some ((n : Int) - 1), rfl, .inl ⟨(t : Int), rfl, ?_⟩⟩
    have e : (decide ((0 : Int) ≤ (t : Int)) && decide ((t : Int) ≤ (n : Int) - 1)) = true := by simp; omega
    show Φ (.bl (decide ((0 : Int) ≤ (t : Int)) && decide ((t : Int) ≤ (n : Int) - 1))) μ
    rw [e]
    exact k
def sIsSpare : Spec := fun ds μ Φ _ => ∃ (fs : List Fld) (g : Fld) (n : Nat), ds = [kindD fs, fldD g] ∧ KindOk n fs ∧ g ∈ fs ∧ Φ (.bl true) μ
theorem ok_is_spare (F : Fd K "is_spare" "is_spare" s_is_spare f fd) (T : Bn mg) (c_name : Cal P w K mg base 1 "is_name" sIsName) : FnR P w K mg base CX0 2 f (spD K sIsSpare) := by
  refine fn_D F sc_is_spare (fun _ _ _ _ _ _ us hl => match us, hl with | [_, _], _ => rfl) (fun ds μ Φ Ψ h => by obtain ⟨_, _, _, rfl, _⟩ := h; rfl) ?_
  have hN := sc_is_spare.nd
  rintro cdv A outer s H E hr ds μ Φ Ψ ⟨fs, g, n, rfl, hk, hg, k⟩
  kqd_all
  cases hs : g.sp with
  | none =>
    refine it_t ?_
    kqd_all
    all_goals exact k
  | some c =>
    obtain ⟨o, ho, ec, st⟩ := hk.sps g hg c hs
    refine it_f ?_
    kqd_all
    refine we_call c_name (hr.mono (by decide)) ?_
    kqd_all
    rw [hs]
    refine ⟨c, rfl, by rw [← ec]; exact (hk.nms o ho).1, by rw [← ec]; exact (hk.nms o ho).2, ?_⟩
    kqd_all
    rw [hs]
    refine rd_eqP (rd_eqNm ?_)
    kqd_all
    refine it_no (fun e => st.1 (by rw [ec]; exact e)) ?_
    refine wb_nil ?_
    refine wb_cons ?_
    refine ws_forL (α := Unit) (β := Fld) [2] [2] fldD (fun _ => [some (kindD fs), some (fldD g), none]) (fun _ => μ) (fun rest _ => o ∈ rest ∧ ∀ x ∈ rest, x ∈ fs) PassesOwn.never rfl ?_ ?_ ?_
    · refine wi_tup ?_
      kpc_obj
      exact ⟨_, rfl, fs, rfl, (), rfl, rfl, ho, fun _ h => h⟩
    · rintro x rest _ ⟨hx, hsub⟩
      kpc_obj
      rw [hs]
      refine rd_eqP (rd_eqNm ?_)
      kpc_obj
      refine it_by (fun he => ?_) fun he => ?_
      · have hxo : x = o := by
          have h1 := hsub x List.mem_cons_self
          have e2 : x.nm = o.nm := he.trans ec.symm
          obtain ⟨i, hi⟩ := List.mem_iff_getElem?.mp h1
          obtain ⟨j, hj⟩ := List.mem_iff_getElem?.mp ho
          obtain ⟨l1, q1⟩ := List.getElem?_eq_some_iff.mp hi
          obtain ⟨l2, q2⟩ := List.getElem?_eq_some_iff.mp hj
          have := (List.getElem_inj (xs := fs.map Fld.nm) (h₀ := by simpa using l1) (h₁ := by simpa using l2) hk.dis).mp (by rw [List.getElem_map, List.getElem_map, q1, q2, e2])
          subst this
          rw [← q1, ← q2]
        subst hxo
        kpc_obj
        rw [decide_eq_true st.2.1]
        kpc_obj
        rw [form_one, form_one]
        have e3 : decide (decide (x.fm = .one) = decide (g.fm = .one)) = true := by
          rw [decide_eq_true_eq]; exact decide_eq_decide.mpr st.2.2
        rw [e3]
        exact k
      · repeat refine wb_nil ?_
        refine ⟨(), rfl, rfl, ?_, fun y hy => hsub y (List.mem_cons_of_mem _ hy)⟩
        rcases List.mem_cons.mp hx with h | h
        · exact absurd (by rw [← h]; exact ec) he
        · exact h
    · rintro _ ⟨h, _⟩
      cases h
/-- a kind that may be -/
def sIsKind : Spec := fun ds μ Φ _ => ∃ (fs : List Fld) (n : Nat), ds = [kindD fs, .int (n : Nat)] ∧ KindOk n fs ∧ Φ (.bl true) μ
theorem all_true {β : Type} : ∀ xs : List β, (xs.map fun _ => true).all id = true
  | [] => rfl
  | _ :: r => all_true r
theorem ok_is_kind (F : Fd K "is_kind" "is_kind" s_is_kind f fd) (T : Bn mg) (c_field : Cal P w K mg base 2 "is_field" sIsField) (c_spare : Cal P w K mg base 2 "is_spare" sIsSpare) : FnR P w K mg base CX0 3 f (spD K sIsKind) := by
  refine fn_D F sc_is_kind (fun _ _ _ _ _ _ us hl => match us, hl with | [_, _], _ => rfl) (fun ds μ Φ Ψ h => by obtain ⟨_, _, rfl, _⟩ := h; rfl) ?_
  have hN := sc_is_kind.nd
  rintro cdv A outer s H E hr ds μ Φ Ψ ⟨fs, n, rfl, hk, k⟩
  have hl0 : 0 < fs.length := List.length_pos_iff.mpr hk.ne
  have hl3 := hk.few
  kqd_all
  refine it_yes (by rw [List.length_map]; omega) ?_
  kqd_all
  rw [decide_eq_true (show ((fs.map fldD).length : Int) ≤ 4 by rw [List.length_map]; omega)]
  kqd_all
  refine we_lcn [("field", 2)] (by kp_flats) (by assumption) rfl (by kpc_if) ?_
  refine wlc_N fldD (fun _ => .bl true) fs ?_ (by omega) ?_ ?_
  · refine wi_tup ?_
    kqd_all
    exact ⟨_, rfl, rfl, rfl⟩
  · rintro x hx Y ⟨s1, H1, C1, cl1, fp1, rfl⟩ ν
    kqd_all
    rintro Y ⟨s1, H1, C1, cl1, fp1, rfl⟩
    refine we_call c_field (hr.mono (by decide)) ?_
    kqd_all
    exact ⟨x, n, rfl, (hk.nms x hx).1, (hk.nms x hx).2, hk.tgs x hx, rfl, rfl⟩
  refine ⟨fs.map fun _ => true, by rw [List.map_map]; rfl, ?_⟩
  rw [all_true]
  kqd_all
  refine we_lenSc [("field", 2)] fldD (fun g => .inr ⟨#[g.nm]⟩) fs T (by kp_flats) (by assumption) rfl (by kpc_if) ?_ (by omega) ?_ ?_ ?_
  · refine wi_tup ?_
    kqd_all
    exact ⟨_, rfl, rfl, rfl⟩
  · have h := hk.dis
    have e : fs.map (fun g => (Sum.inr ⟨#[g.nm]⟩ : Key)) = (fs.map Fld.nm).map fun c => (Sum.inr ⟨#[c]⟩ : Key) := by rw [List.map_map]; rfl
    rw [e]
    exact List.Pairwise.map _ (fun a b hab e => hab (by simpa using e)) h
  · rintro x hx Y ⟨s1, H1, C1, cl1, fp1, rfl⟩ ν
    kqd_all
    rintro Y ⟨s1, H1, C1, cl1, fp1, rfl⟩
    kqd_all
    exact ⟨rfl, rfl⟩
  kqd_all
  refine it_no (by rw [List.length_map]; omega) ?_
  kqd_all
  refine we_lcn [("field", 2)] (by kp_flats) (by assumption) rfl (by kpc_if) ?_
  refine wlc_N fldD (fun _ => .bl true) fs ?_ (by omega) ?_ ?_
  · refine wi_tup ?_
    kqd_all
    exact ⟨_, rfl, rfl, rfl⟩
  · rintro x hx Y ⟨s1, H1, C1, cl1, fp1, rfl⟩ ν
    kqd_all
    rintro Y ⟨s1, H1, C1, cl1, fp1, rfl⟩
    refine we_call c_spare (hr.mono (by decide)) ?_
    kqd_all
    exact ⟨fs, x, n, rfl, hk, hx, rfl, rfl⟩
  refine ⟨fs.map fun _ => true, by rw [List.map_map]; rfl, ?_⟩
  rw [all_true]
  exact k
end
end
section
section
variable {P : Program} {w : World} {K : PySem.W.Frag} {mg : Str → Option Value} {base : Heap} {f : Addr} {fd : FuncData} {C : Addr}
/-- a schema -/
abbrev schD (C : Addr) (ks : List (List Fld)) : D := .ins C [kindsD ks]
def sSchemaInit (C : Addr) : Spec := fun ds μ Φ _ => ∃ (q : Addr) (ks : List (List Fld)) (g : M → Mu), ds = [.ref q, kindsD ks] ∧ KindsOk ks ∧ AtF μ q (.ins C []) g ∧ Φ .non (g (.ins C [some (kindsD ks)]))
theorem ok_Schema_init (F : Fd K "__init__" "Schema.__init__" s_Schema_xinit f fd) (T : Bn mg) (kl : Kl K C) (sl : Sl K C "rows" 0) (c_kind : Cal P w K mg base 3 "is_kind" sIsKind) : FnR P w K mg base CX0 4 f (spD K (sSchemaInit C)) := by
  refine fn_D F sc_Schema_xinit (fun _ _ _ _ _ _ us hl => match us, hl with | [_, _], _ => rfl) (fun ds μ Φ Ψ h => by obtain ⟨_, _, _, rfl, _⟩ := h; rfl) ?_
  have hN := sc_Schema_xinit.nd
  rintro cdv A outer s H E hr ds μ Φ Ψ ⟨q, ks, g, rfl, hks, pk, k⟩
  have hl0 : 0 < ks.length := List.length_pos_iff.mpr hks.ne
  have hl3 := hks.few
  kqd_all
  refine it_yes (by rw [List.length_map]; omega) ?_
  kqd_all
  rw [decide_eq_true (show ((ks.map kindD).length : Int) ≤ 3 by rw [List.length_map]; omega)]
  kqd_all
  refine we_lcn [("kind", 2)] (by kp_flats) (by assumption) rfl (by kpc_if) ?_
  refine wlc_N kindD (fun _ => .bl true) ks ?_ (by omega) ?_ ?_
  · refine wi_tup ?_
    kqd_all
    exact ⟨_, rfl, rfl, rfl⟩
  · rintro x hx Y ⟨s1, H1, C1, cl1, fp1, rfl⟩ ν
    kqd_all
    rintro Y ⟨s1, H1, C1, cl1, fp1, rfl⟩
    kqd_all
    exact ⟨rfl, rfl⟩
  refine ⟨ks.map fun _ => true, by rw [List.map_map]; rfl, ?_⟩
  rw [all_true]
  kqd_all
  refine ws_forL (α := Unit) (β := List Fld × Nat) [2, 3] [2, 3] (fun p => .tup [.int (p.2 : Nat), kindD p.1]) (fun _ => [some (.ref q), some (kindsD ks), none, none]) (fun _ => μ) (fun rest _ => ∀ p ∈ rest, p.1 ∈ ks) PassesOwn.never rfl ?_ ?_ ?_
  · refine wi_enumT T ?_
    kqd_all
    refine ⟨_, rfl, ks.zipIdx 0, enumD_map kindD ks 0, (), rfl, rfl, fun p hp => ?_⟩
    exact (List.mem_zipIdx' hp).2 ▸ List.getElem_mem _
  · rintro x rest _ hsub
    kqd_all
    refine we_call c_kind (hr.mono (by decide)) ?_
    kqd_all
    rw [List.length_map]
    refine ⟨x.1, ks.length, rfl, hks.each _ (hsub x List.mem_cons_self), ?_⟩
    kqd_all
    exact ⟨(), rfl, rfl, fun p hp => hsub p (List.mem_cons_of_mem _ hp)⟩
  · rintro _ _
    kpc_obj
    refine ws_at ?_
    kpc_obj
    exact ⟨q, C, 0, _, _, rfl, pk.at _, kl, sl, wb_nil k⟩
end
end
section
section
variable {P : Program} {w : World} {K : PySem.W.Frag} {mg : Str → Option Value} {base : Heap} {f : Addr} {fd : FuncData} {C : Addr}
def sSchemaKinds (C : Addr) : Spec := fun ds μ Φ _ => ∃ ks : List (List Fld), ds = [schD C ks] ∧ Φ (kindsD ks) μ
theorem ok_Schema_kinds (F : Fd K "kinds" "Schema.kinds" s_Schema_kinds f fd) (kl : Kl K C) (sl : Sl K C "rows" 0) : FnR P w K mg base CX0 1 f (spD K (sSchemaKinds C)) := by
  refine fn_D F sc_Schema_kinds (fun _ _ _ _ _ _ us hl => match us, hl with | [_], _ => rfl) (fun ds μ Φ Ψ h => by obtain ⟨_, rfl, _⟩ := h; rfl) ?_
  have hN := sc_Schema_kinds.nd
  rintro cdv A outer s H E hr ds μ Φ Ψ ⟨ks, rfl, k⟩
  kqd_all
  refine we_at ?_
  kqd_all
  exact ⟨C, 0, _, insd_f rfl, kl, sl, k⟩
def sSchemaLen (C : Addr) : Spec := fun ds μ Φ _ => ∃ ks : List (List Fld), ds = [schD C ks] ∧ Φ (.int (ks.length : Nat)) μ
theorem ok_Schema_len (F : Fd K "__len__" "Schema.__len__" s_Schema_xlen f fd) (T : Bn mg) (kl : Kl K C) (sl : Sl K C "rows" 0) : FnR P w K mg base CX0 1 f (spD K (sSchemaLen C)) := by
  refine fn_D F sc_Schema_xlen (fun _ _ _ _ _ _ us hl => match us, hl with | [_], _ => rfl) (fun ds μ Φ Ψ h => by obtain ⟨_, rfl, _⟩ := h; rfl) ?_
  have hN := sc_Schema_xlen.nd
  rintro cdv A outer s H E hr ds μ Φ Ψ ⟨ks, rfl, k⟩
  kqd_all
  refine we_at ?_
  kqd_all
  refine ⟨C, 0, _, insd_f rfl, kl, sl, ?_⟩
  kqd_all
  rw [List.length_map]
  all_goals exact k
/-- (kind, name) in schema, a field of this name there -/
def sSchemaIn (C : Addr) : Spec := fun ds μ Φ _ => ∃ (ks : List (List Fld)) (kd : Nat) (fs : List Fld) (g : Fld), ds = [schD C ks, .tup [.int (kd : Nat), Nm g.nm]] ∧ ks[kd]? = some fs ∧ g ∈ fs ∧ (∀ f ∈ fs, 97 ≤ f.nm ∧ f.nm ≤ 102) ∧ fs.length ≤ 3 ∧ Φ (.bl true) μ
theorem ok_Schema_in (F : Fd K "__contains__" "Schema.__contains__" s_Schema_xcontains f fd) (T : Bn mg) (kl : Kl K C) (sl : Sl K C "rows" 0) (c_number : Cal P w K mg base 1 "is_number" sIsNumber) (c_name : Cal P w K mg base 1 "is_name" sIsName) : FnR P w K mg base CX0 2 f (spD K (sSchemaIn C)) := by
  refine fn_D F sc_Schema_xcontains (fun _ _ _ _ _ _ us hl => match us, hl with | [_, _], _ => rfl) (fun ds μ Φ Ψ h => by obtain ⟨_, _, _, _, rfl, _⟩ := h; rfl) ?_
  have hN := sc_Schema_xcontains.nd
  rintro cdv A outer s H E hr ds μ Φ Ψ ⟨ks, kd, fs, g, rfl, hfs, hg, hnm, hl, k⟩
  have hkd := (List.getElem?_eq_some_iff.mp hfs).1
  kqd_all
  refine we_call c_number (hr.mono (by decide)) ?_
  kqd_all
  refine we_at ?_
  kqd_all
  refine ⟨C, 0, _, insd_f rfl, kl, sl, ?_⟩
  kqd_all
  rw [List.length_map]
  refine .inr ⟨_, 0, some ((ks.length : Int) - 1), rfl, .inl ⟨(kd : Int), rfl, ?_⟩⟩
  have e : (decide ((0 : Int) ≤ (kd : Int)) && decide ((kd : Int) ≤ (ks.length : Int) - 1)) = true := by simp; omega
  rw [e]
  kqd_all
  refine we_call c_name (hr.mono (by decide)) ?_
  kqd_all
  refine ⟨g.nm, rfl, (hnm g hg).1, (hnm g hg).2, ?_⟩
  kqd_all
  refine we_cmp (op := .In) (op_inDA (by assumption)) ?_
  kqd_all
  refine we_lcn [("field", 2)] (by kp_flats) (by assumption) rfl (by kpc_if) ?_
  refine wlc_N fldD (fun g => Nm g.nm) fs ?_ (by omega) ?_ ?_
  · refine wi_tup ?_
    refine we_ix ix_seq ?_
    refine we_at ?_
    kqd_all
    refine ⟨C, 0, _, insd_f rfl, kl, sl, ?_⟩
    kqd_all
    refine rd_ixT (d := kindD fs) (atI_nat (by rw [List.getElem?_map, hfs]; rfl)) ?_
    exact ⟨_, rfl, rfl, rfl⟩
  · rintro x hx Y ⟨s1, H1, C1, cl1, fp1, rfl⟩ ν
    kqd_all
    rintro Y ⟨s1, H1, C1, cl1, fp1, rfl⟩
    kqd_all
    exact ⟨rfl, rfl⟩
  refine rd_inDA (d := nmP g.nm) (ds := fs.map fun g => nmP g.nm) (py_f (py_nm _)) (.inl (py_f (.lst (pyfs_map fun x _ => py_nm _)))) (by
    unfold SeqAt.shaped
    rw [lay_nm (hnm g hg).2]; rfl) (lay_all fun x hx => lay_nm (hnm x hx).2) ?_
  have e2 : ((fs.map fun g => nmP g.nm).any fun z => PyData.eqv z (nmP g.nm)) = true := List.any_eq_true.mpr ⟨nmP g.nm, List.mem_map.mpr ⟨g, hg, rfl⟩, by simp [nmP, PyData.eqv]⟩
  rw [e2]
  all_goals exact k
/-- schema[kind, name] -/
def sSchemaGet (C : Addr) : Spec := fun ds μ Φ _ => ∃ (ks : List (List Fld)) (kd : Nat) (fs : List Fld) (g : Fld), ds = [schD C ks, .tup [.int (kd : Nat), Nm g.nm]] ∧ ks[kd]? = some fs ∧ g ∈ fs ∧ (∀ f ∈ fs, 97 ≤ f.nm ∧ f.nm ≤ 102) ∧ fs.length ≤ 3 ∧ (fs.map Fld.nm).Nodup ∧ Φ (fldD g) μ
theorem filter_one {fs : List Fld} {g : Fld} (hg : g ∈ fs) (hd : (fs.map Fld.nm).Nodup) : fs.filter (fun x => decide (x.nm = g.nm)) = [g] := by
  induction fs with
  | nil => cases hg
  | cons x r ih =>
    rw [List.map_cons, List.nodup_cons] at hd
    rw [List.filter_cons]
    rcases List.mem_cons.mp hg with e | h
    · subst e
      rw [if_pos (by simp)]
      congr 1
      refine List.filter_eq_nil_iff.mpr fun y hy => ?_
      simp only [decide_eq_true_eq]
      intro e2
      exact hd.1 (List.mem_map.mpr ⟨y, hy, e2⟩)
    · rw [if_neg, ih h hd.2]
      simp only [decide_eq_true_eq]
      intro e2
      exact hd.1 (List.mem_map.mpr ⟨g, h, e2.symm⟩)
theorem ok_Schema_get (F : Fd K "__getitem__" "Schema.__getitem__" s_Schema_xgetitem f fd) (T : Bn mg) (kl : Kl K C) (sl : Sl K C "rows" 0) (m_in : Om CX0 P w K mg base 2 C "__contains__" (sSchemaIn C)) : FnR P w K mg base CX0 3 f (spD K (sSchemaGet C)) := by
  refine fn_D F sc_Schema_xgetitem (fun _ _ _ _ _ _ us hl => match us, hl with | [_, _], _ => rfl) (fun ds μ Φ Ψ h => by obtain ⟨_, _, _, _, rfl, _⟩ := h; rfl) ?_
  have hN := sc_Schema_xgetitem.nd
  rintro cdv A outer s H E hr ds μ Φ Ψ ⟨ks, kd, fs, g, rfl, hfs, hg, hnm, hl, hd, k⟩
  kqd_all
  refine wt_notInO m_in (hr.mono (by decide)) ?_
  kqd_all
  refine ⟨recv_f, ks, kd, fs, g, rfl, hfs, hg, hnm, hl, ?_⟩
  kpc_obj
  refine wb_nil (wb_cons ?_)
  refine ws_asg [2, 3] ?_
  kpc_obj
  refine we_lcn [("field", 4)] (by kp_flats) (by assumption) rfl (by kpc_if) ?_
  refine wlc_F fldD fldD (fun x => decide (x.nm = g.nm)) fs ?_ (by omega) ?_ ?_
  · refine wi_tup ?_
    refine we_ix ix_seq ?_
    refine we_at ?_
    kqd_all
    refine ⟨C, 0, _, insd_f rfl, kl, sl, ?_⟩
    kqd_all
    refine rd_ixT (d := kindD fs) (atI_nat (by rw [List.getElem?_map, hfs]; rfl)) ?_
    exact ⟨_, rfl, rfl, rfl⟩
  · rintro x hx Y ⟨s1, H1, C1, cl1, fp1, rfl⟩ ν
    kpc_obj
    rintro Y ⟨s1, H1, C1, cl1, fp1, rfl⟩
    kpc_obj
    refine ⟨rfl, rfl, fun _ => ?_⟩
    rintro Y ⟨s1, H1, C1, cl1, fp1, rfl⟩
    kpc_obj
    exact ⟨rfl, rfl⟩
  rw [filter_one hg hd]
  kpc_obj
  all_goals exact k
def sCheckSchema (C : Addr) : Spec := fun ds μ Φ _ => ∃ ks : List (List Fld), ds = [schD C ks] ∧ Φ .non μ
theorem ok_check_schema (F : Fd K "check_schema" "check_schema" s_check_schema f fd) (T : Bn mg) (kl : Kl K C) (gS : Gc K mg "Schema" (.ref C)) : FnR P w K mg base CX0 1 f (spD K (sCheckSchema C)) := by
  refine fn_D F sc_check_schema (fun _ _ _ _ _ _ us hl => match us, hl with | [_], _ => rfl) (fun ds μ Φ Ψ h => by obtain ⟨_, rfl, _⟩ := h; rfl) ?_
  have hN := sc_check_schema.nd
  rintro cdv A outer s H E hr ds μ Φ Ψ ⟨ks, rfl, k⟩
  refine wb_one (ws_if (wt_not (wt_val ?_)))
  refine we_isiC T ?_
  kpc_obj
  refine we_glob gS ?_
  refine ⟨C, rfl, recv_f, kl, ?_⟩
  kqd_all
  all_goals exact k
end
end
section
/-! ### questions -/
mutual
def qpD (C : Addr) : Pt → D
  | .leaf n => .tup [Nm n, .non]
  | .node n ps => .tup [Nm n, .ins C [.tup (qpDs C ps)]]
def qpDs (C : Addr) : List Pt → List D
  | [] => []
  | p :: ps => qpD C p :: qpDs C ps
end
theorem qpDs_map (C : Addr) : ∀ ps : List Pt, qpDs C ps = ps.map (qpD C)
  | [] => rfl
  | p :: ps => by rw [qpDs, qpDs_map C ps]; rfl
abbrev qD (C : Addr) (ps : List Pt) : D := .ins C [.tup (ps.map (qpD C))]
/-- the inner question, if any -/
def innerD (C : Addr) : Pt → D
  | .leaf _ => .non
  | .node _ ps => qD C ps
theorem qpD_eq (C : Addr) (p : Pt) : qpD C p = .tup [Nm p.nm, innerD C p] := by
  cases p with
  | leaf n => rw [qpD]; rfl
  | node n ps => rw [qpD, qpDs_map]; rfl
mutual
def lvP : Pt → Nat
  | .leaf _ => 0
  | .node _ ps => 1 + mxP ps
def mxP : List Pt → Nat
  | [] => 0
  | p :: ps => max (lvP p) (mxP ps)
end
theorem lvP_node (n : Nat) (ps : List Pt) : lvP (.node n ps) = 1 + mxP ps := by rw [lvP]
theorem lvP_leaf (n : Nat) : lvP (.leaf n) = 0 := by rw [lvP]
theorem mxP_cons (p : Pt) (ps : List Pt) : mxP (p :: ps) = max (lvP p) (mxP ps) := by rw [mxP]
theorem mxP_le {l : Nat} : ∀ {ps : List Pt}, mxP ps ≤ l → ∀ p ∈ ps, lvP p ≤ l
  | [], _, p, hp => by cases hp
  | q :: ps, h, p, hp => by
    rw [mxP_cons] at h
    rcases List.mem_cons.mp hp with e | hp
    · rw [e]; omega
    · exact mxP_le (ps := ps) (by omega) p hp
theorem mxP_app (ps qs : List Pt) : mxP (ps ++ qs) = max (mxP ps) (mxP qs) := by
  induction ps with
  | nil => simp [mxP]
  | cons p ps ih => rw [List.cons_append, mxP_cons, mxP_cons, ih]; omega
section
variable {P : Program} {w : World} {K : PySem.W.Frag} {mg : Str → Option Value} {base : Heap} {f : Addr} {fd : FuncData} {C : Addr}
/-- question.parts -/
def sQParts (C : Addr) : Spec := fun ds μ Φ _ => ∃ (x d : D), ds = [x] ∧ InsD μ x C 0 d ∧ Φ d μ
theorem ok_Question_parts (F : Fd K "parts" "Question.parts" s_Question_parts f fd) (kl : Kl K C) (sl : Sl K C "rows" 0) : FnR P w K mg base CX0 1 f (spD K (sQParts C)) := by
  refine fn_D F sc_Question_parts (fun _ _ _ _ _ _ us hl => match us, hl with | [_], _ => rfl) (fun ds μ Φ Ψ h => by obtain ⟨_, _, rfl, _⟩ := h; rfl) ?_
  have hN := sc_Question_parts.nd
  rintro cdv A outer s H E hr ds μ Φ Ψ ⟨x, d, rfl, hi, k⟩
  kqd_all
  refine we_at ?_
  kqd_all
  exact ⟨C, 0, _, hi, kl, sl, k⟩
def sLevels (C : Addr) (l : Nat) : Spec := fun ds μ Φ _ => ∃ ps : List Pt, ds = [.tup (ps.map (qpD C))] ∧ mxP ps ≤ l ∧ Φ (.int ((1 + mxP ps : Nat) : Int)) μ
theorem levels_body (F : Fd K "levels_of" "levels_of" s_levels_of f fd) (T : Bn mg) (kl : Kl K C) (p_parts : Pr P w K mg base 1 C "parts" (sQParts C)) (l : Nat) (hrec : ∀ l', l = l' + 1 → Cal P w K mg base (3 + l' + 1) "levels_of" (sLevels C l')) : FnR P w K mg base CX0 (3 + l + 1) f (spD K (sLevels C l)) := by
  refine fn_D F sc_levels_of (fun _ _ _ _ _ _ us hl => match us, hl with | [_], _ => rfl) (fun ds μ Φ Ψ h => by obtain ⟨_, rfl, _⟩ := h; rfl) ?_
  have hN := sc_levels_of.nd
  rintro cdv A outer s H E hr ds μ Φ Ψ ⟨ps, rfl, hm, k⟩
  kpc_obj
  refine ws_forL (α := List Pt) (β := Pt) [2, 3] [2, 3] (qpD C) (fun done => [some (.tup (ps.map (qpD C))), some (.int (mxP done : Nat)), none, none]) (fun _ => μ) (fun rest done => done ++ rest = ps) PassesOwn.never rfl ?_ ?_ ?_
  · refine wi_tup ?_
    kpc_obj
    exact ⟨_, rfl, ps, rfl, [], by simp [mxP]; rfl, rfl, rfl⟩
  · rintro x rest done hd
    have hx : lvP x ≤ l := mxP_le hm x (by rw [← hd]; simp)
    rw [qpD_eq]
    kpc_obj
    cases x with
    | leaf n =>
      refine it_f ?_
      refine it_f ?_
      repeat refine wb_nil ?_
      exact ⟨done ++ [.leaf n], by rw [mxP_app, mxP_cons, lvP_leaf]; simp [mxP]; rfl, rfl, by rw [← hd]; simp⟩
    | node n qs =>
      rw [lvP_node] at hx
      obtain ⟨l', rfl⟩ : ∃ l', l = l' + 1 := ⟨l - 1, by omega⟩
      have c_self := hrec l' rfl
      have lev : ∀ (ρ : Rho) (Φ : D → Mu → Prop), ρ[3]? = some (some (qD C qs)) → Φ (.int ((1 + mxP qs : Nat) : Int)) μ → WE (cxOf CX0 P w K mg base n_levels_of "levels_of" (defScope s_levels_of) f cdv A outer s H E).nox
          (.Call (.Name "levels_of" ⟨131, 33, 131, 42⟩) [.Attribute (.Name "inner" ⟨131, 43, 131, 48⟩) "parts" ⟨131, 43, 131, 54⟩] [] ⟨131, 33, 131, 55⟩) ρ μ Φ := by
        intro ρ Φ hρ hΦ
        refine we_call c_self (hr.mono (by omega)) ?_
        refine wa_cons ?_
        refine we_prop p_parts kl (hr.mono (by omega)) ?_
        refine we_vn (by kp_flats) (by kqd_ok) ?_ hρ
        refine ⟨recv_f, _, _, rfl, insd_f rfl, ?_⟩
        kpc_obj
        exact ⟨qs, rfl, by omega, hΦ⟩
      refine it_t ?_
      kpc_obj
      refine lev _ _ rfl ?_
      kpc_obj
      refine it_by (fun hgt => ?_) fun hgt => ?_
      · kpc_obj
        refine we_call c_self (hr.mono (by omega)) ?_
        refine wa_cons ?_
        refine we_prop p_parts kl (hr.mono (by omega)) ?_
        kpc_obj
        refine ⟨recv_f, _, _, rfl, insd_f rfl, ?_⟩
        kpc_obj
        refine ⟨qs, rfl, by omega, ?_⟩
        repeat refine wb_nil ?_
        refine ⟨done ++ [.node n qs], ?_, rfl, by rw [← hd]; simp⟩
        rw [mxP_app, mxP_cons, lvP_node]
        have e : max (mxP done) (max (1 + mxP qs) (mxP [])) = 1 + mxP qs := by
          have : mxP [] = 0 := by rw [mxP]
          rw [this]; omega
        rw [e]
        rfl
      · repeat refine wb_nil ?_
        refine ⟨done ++ [.node n qs], ?_, rfl, by rw [← hd]; simp⟩
        rw [mxP_app, mxP_cons, lvP_node]
        have e : max (mxP done) (max (1 + mxP qs) (mxP [])) = mxP done := by
          have : mxP [] = 0 := by rw [mxP]
          rw [this]; omega
        rw [e]
        rfl
  · rintro done hd
    rw [List.append_nil] at hd
    subst hd
    kqd_all
    exact k
theorem ok_levels_of (F : Fd K "levels_of" "levels_of" s_levels_of f fd) (T : Bn mg) (kl : Kl K C) (p_parts : Pr P w K mg base 1 C "parts" (sQParts C)) (hself : mg "levels_of" = some (.ref f) ∧ PySem.W.keepIn K (.ref f) = true) : ∀ l, FnR P w K mg base CX0 (3 + l + 1) f (spD K (sLevels C l))
  | 0 => levels_body F T kl p_parts 0 (fun l e => by omega)
  | l + 1 => levels_body F T kl p_parts (l + 1) (fun l' e => by cases (Nat.succ.inj e); exact ⟨f, hself.1, hself.2, ok_levels_of F T kl p_parts hself l⟩)
/-- the names of a question: as many as it has parts, at all levels -/
def sNames (C : Addr) (l : Nat) : Spec := fun ds μ Φ _ => ∃ ps : List Pt, ds = [.tup (ps.map (qpD C))] ∧ mxP ps ≤ l ∧ szPs ps ≤ 900 ∧ ∀ ns : List D, ns.length = szPs ps → Φ (.lst ns) μ
theorem names_body (F : Fd K "names_in" "names_in" s_names_in f fd) (T : Bn mg) (kl : Kl K C) (p_parts : Pr P w K mg base 1 C "parts" (sQParts C)) (l : Nat) (hrec : ∀ l', l = l' + 1 → Cal P w K mg base (3 + l' + 1) "names_in" (sNames C l')) : FnR P w K mg base CX0 (3 + l + 1) f (spD K (sNames C l)) := by
  refine fn_D F sc_names_in (fun _ _ _ _ _ _ us hl => match us, hl with | [_], _ => rfl) (fun ds μ Φ Ψ h => by obtain ⟨_, rfl, _⟩ := h; rfl) ?_
  have hN := sc_names_in.nd
  rintro cdv A outer s H E hr ds μ Φ Ψ ⟨ps, rfl, hm, hz, k⟩
  kpc_obj
  refine we_lstM ?_
  kpc_obj
  intro p
  kpc_obj
  refine ws_forL (α := List Pt × List D) (β := Pt) [2, 3] [2, 3] (qpD C) (fun _ => [some (.tup (ps.map (qpD C))), some (.ref p), none, none]) (fun z => (p, .lst z.2) :: μ) (fun rest z => z.1 ++ rest = ps ∧ z.2.length = szPs z.1) PassesOwn.never rfl ?_ ?_ ?_
  · refine wi_tup ?_
    kpc_obj
    exact ⟨_, rfl, ps, rfl, ([], []), rfl, rfl, rfl, by simp [szPs]⟩
  · rintro x rest ⟨done, ns⟩ ⟨hd, hn⟩
    change done ++ x :: rest = ps at hd
    change ns.length = szPs done at hn
    have hx : lvP x ≤ l := mxP_le hm x (by rw [← hd]; simp)
    have hsz : szPs done + szP x + szPs rest = szPs ps := by rw [← hd, szPs_app, szPs]; omega
    have hlt : ns.length < 1000 := by
      have : ns.length = szPs done := hn
      omega
    rw [qpD_eq]
    kpc_obj
    cases x with
    | leaf n =>
      refine it_f ?_
      repeat refine wb_nil ?_
      exact ⟨(done ++ [.leaf n], ns ++ [Nm n]), rfl, rfl, by rw [← hd]; simp, by rw [szPs_app, List.length_append, hn]; simp [szPs, szP]⟩
    | node n qs =>
      rw [lvP_node] at hx
      obtain ⟨l', rfl⟩ : ∃ l', l = l' + 1 := ⟨l - 1, by omega⟩
      have c_self := hrec l' rfl
      refine it_t ?_
      kpc_obj
      refine we_ext ?_
      kpc_obj
      refine we_call c_self (hr.mono (by omega)) ?_
      refine wa_cons ?_
      refine we_prop p_parts kl (hr.mono (by omega)) ?_
      kpc_obj
      refine ⟨recv_f, _, _, rfl, insd_f rfl, ?_⟩
      kpc_obj
      have hq : szPs qs ≤ 900 := by simp only [szP] at hsz; omega
      refine ⟨qs, rfl, by omega, hq, fun ms hms => ?_⟩
      refine ⟨_, ms, _, ls_f, by kpc_turns, by
        have : ns.length = szPs done := hn
        simp only [szP] at hsz
        simp; omega, ?_⟩
      repeat refine wb_nil ?_
      exact ⟨(done ++ [.node n qs], ns ++ [Nm n] ++ ms), rfl, rfl, by rw [← hd]; simp, by
        have : ns.length = szPs done := hn
        rw [szPs_app]; simp [szPs, szP, hms, this]; omega⟩
    all_goals exact hlt
  · rintro ⟨done, ns⟩ ⟨hd, hn⟩
    rw [List.append_nil] at hd
    subst hd
    refine wb_one (ws_ret (we_frzL ?_))
    kqd_all
    exact k ns hn
theorem ok_names_in (F : Fd K "names_in" "names_in" s_names_in f fd) (T : Bn mg) (kl : Kl K C) (p_parts : Pr P w K mg base 1 C "parts" (sQParts C)) (hself : mg "names_in" = some (.ref f) ∧ PySem.W.keepIn K (.ref f) = true) : ∀ l, FnR P w K mg base CX0 (3 + l + 1) f (spD K (sNames C l))
  | 0 => names_body F T kl p_parts 0 (fun l e => by omega)
  | l + 1 => names_body F T kl p_parts (l + 1) (fun l' e => by cases (Nat.succ.inj e); exact ⟨f, hself.1, hself.2, ok_names_in F T kl p_parts hself l⟩)
end
end
section
section
variable {P : Program} {w : World} {K : PySem.W.Frag} {mg : Str → Option Value} {base : Heap} {f : Addr} {fd : FuncData} {C : Addr}
def letter (c : Nat) : Prop := 97 ≤ c ∧ c ≤ 102
def sIsPart (C : Addr) : Spec := fun ds μ Φ _ => ∃ p : Pt, ds = [qpD C p] ∧ letter p.nm ∧ Φ (.bl true) μ
theorem ok_is_part (F : Fd K "is_part" "is_part" s_is_part f fd) (T : Bn mg) (kl : Kl K C) (gQ : Gc K mg "Question" (.ref C)) (c_name : Cal P w K mg base 1 "is_name" sIsName) : FnR P w K mg base CX0 2 f (spD K (sIsPart C)) := by
  refine fn_D F sc_is_part (fun _ _ _ _ _ _ us hl => match us, hl with | [_], _ => rfl) (fun ds μ Φ Ψ h => by obtain ⟨_, rfl, _⟩ := h; rfl) ?_
  have hN := sc_is_part.nd
  rintro cdv A outer s H E hr ds μ Φ Ψ ⟨p, rfl, hl, k⟩
  rw [qpD_eq]
  kqd_all
  refine we_call c_name (hr.mono (by decide)) ?_
  kqd_all
  refine ⟨p.nm, rfl, hl.1, hl.2, ?_⟩
  kqd_all
  cases p with
  | leaf n => exact it_t k
  | node n qs =>
    refine it_f ?_
    refine we_one ?_
    refine we_isiC T ?_
    kqd_all
    refine we_glob gQ ?_
    exact ⟨C, rfl, recv_f, kl, k⟩
def sQLen (C : Addr) : Spec := fun ds μ Φ _ => ∃ (x : D) (ps : List Pt), ds = [x] ∧ InsD μ x C 0 (.tup (ps.map (qpD C))) ∧ mxP ps ≤ 2 ∧ szPs ps ≤ 900 ∧ Φ (.int (szPs ps : Nat)) μ
theorem ok_Question_len (F : Fd K "__len__" "Question.__len__" s_Question_xlen f fd) (T : Bn mg) (kl : Kl K C) (sl : Sl K C "rows" 0) (c_names : Cal P w K mg base 6 "names_in" (sNames C 2)) : FnR P w K mg base CX0 7 f (spD K (sQLen C)) := by
  refine fn_D F sc_Question_xlen (fun _ _ _ _ _ _ us hl => match us, hl with | [_], _ => rfl) (fun ds μ Φ Ψ h => by obtain ⟨_, _, rfl, _⟩ := h; rfl) ?_
  have hN := sc_Question_xlen.nd
  rintro cdv A outer s H E hr ds μ Φ Ψ ⟨x, ps, rfl, hi, hm, hz, k⟩
  kqd_all
  refine we_call c_names hr ?_
  kqd_all
  refine we_at ?_
  kqd_all
  refine ⟨C, 0, _, hi, kl, sl, ?_⟩
  kqd_all
  refine ⟨ps, rfl, hm, hz, fun ns hn => ?_⟩
  kqd_all
  rw [hn]
  exact k
/-- a question that may be -/
structure QOk (ps : List Pt) : Prop where
  ne : ps ≠ []
  few : ps.length ≤ 3
  nms : ∀ p ∈ ps, letter p.nm
  dis : (ps.map Pt.nm).Nodup
  lv : mxP ps ≤ 2
  sz : szPs ps ≤ 8
def sQInit (C : Addr) : Spec := fun ds μ Φ _ => ∃ (q : Addr) (ps : List Pt) (g : M → Mu), ds = [.ref q, .tup (ps.map (qpD C))] ∧ QOk ps ∧ AtF μ q (.ins C []) g ∧ Φ .non (g (.ins C [some (.tup (ps.map (qpD C)))]))
theorem ok_Question_init (F : Fd K "__init__" "Question.__init__" s_Question_xinit f fd) (T : Bn mg) (kl : Kl K C) (sl : Sl K C "rows" 0) (c_part : Cal P w K mg base 2 "is_part" (sIsPart C)) (c_levels : Cal P w K mg base 6 "levels_of" (sLevels C 2)) (m_len : Om CX0 P w K mg base 7 C "__len__" (sQLen C))
    (g1 : Gc K mg "MOST_LEVELS" (.int 3)) (g2 : Gc K mg "MOST_PARTS" (.int 8)) : FnR P w K mg base CX0 9 f (spD K (sQInit C)) := by
  refine fn_D F sc_Question_xinit (fun _ _ _ _ _ _ us hl => match us, hl with | [_, _], _ => rfl) (fun ds μ Φ Ψ h => by obtain ⟨_, _, _, rfl, _⟩ := h; rfl) ?_
  have hN := sc_Question_xinit.nd
  rintro cdv A outer s H E hr ds μ Φ Ψ ⟨q, ps, g, rfl, hq, pk, k⟩
  have hl0 : 0 < ps.length := List.length_pos_iff.mpr hq.ne
  have hl3 := hq.few
  kqd_all
  refine it_yes (by rw [List.length_map]; omega) ?_
  kqd_all
  rw [decide_eq_true (show ((ps.map (qpD C)).length : Int) ≤ 3 by rw [List.length_map]; omega)]
  kqd_all
  refine we_lcn [("part", 2)] (by kp_flats) (by assumption) rfl (by kpc_if) ?_
  refine wlc_N (qpD C) (fun _ => .bl true) ps ?_ (by omega) ?_ ?_
  · refine wi_tup ?_
    kqd_all
    exact ⟨_, rfl, rfl, rfl⟩
  · rintro x hx Y ⟨s1, H1, C1, cl1, fp1, rfl⟩ ν
    kqd_all
    rintro Y ⟨s1, H1, C1, cl1, fp1, rfl⟩
    refine we_call c_part (hr.mono (by decide)) ?_
    kqd_all
    exact ⟨x, rfl, hq.nms x hx, rfl, rfl⟩
  refine ⟨ps.map fun _ => true, by rw [List.map_map]; rfl, ?_⟩
  rw [all_true]
  kqd_all
  refine we_lenSc [("name", 3), ("inner", 4)] (qpD C) (fun p => .inr ⟨#[p.nm]⟩) ps T (by kp_flats) (by assumption) rfl (by kpc_if) ?_ (by omega) ?_ ?_ ?_
  · refine wi_tup ?_
    kqd_all
    exact ⟨_, rfl, rfl, rfl⟩
  · have e : ps.map (fun p => (Sum.inr ⟨#[p.nm]⟩ : Key)) = (ps.map Pt.nm).map fun c => (Sum.inr ⟨#[c]⟩ : Key) := by rw [List.map_map]; rfl
    rw [e]
    exact List.Pairwise.map _ (fun a b hab e => hab (by simpa using e)) hq.dis
  · rintro x hx Y ⟨s1, H1, C1, cl1, fp1, rfl⟩ ν
    rw [qpD_eq]
    kqd_all
    rintro Y ⟨s1, H1, C1, cl1, fp1, rfl⟩
    kqd_all
    exact ⟨rfl, rfl⟩
  kqd_all
  refine it_no (by rw [List.length_map]; omega) ?_
  refine wb_nil (wb_cons (ws_at ?_))
  kqd_all
  refine ⟨q, C, 0, _, _, rfl, pk.at _, kl, sl, ?_⟩
  have pk2 := pk.again (.ins C (putD 0 (.tup (ps.map (qpD C))) []))
  obtain ⟨μ2, pk3⟩ := pk2.pick
  refine wb_cons ?_
  kqd_all
  refine we_call c_levels (hr.mono (by decide)) ?_
  kqd_all
  refine ⟨ps, rfl, hq.lv, ?_⟩
  refine we_glob g1 ?_
  kqd_all
  have := hq.lv
  refine it_no (by omega) ?_
  kqd_all
  refine we_lenO T m_len (hr.mono (by decide)) ?_
  kqd_all
  refine ⟨recv_m pk3, _, ps, rfl, insd_m pk3 rfl, hq.lv, Nat.le_trans hq.sz (by omega), _, rfl, by have := hq.sz; omega, ?_⟩
  refine we_glob g2 ?_
  kqd_all
  have := hq.sz
  refine it_no (by omega) ?_
  kqd_all
  all_goals exact k
def sCheckQ (C : Addr) : Spec := fun ds μ Φ _ => ∃ ps : List Pt, ds = [qD C ps] ∧ Φ .non μ
theorem ok_check_question (F : Fd K "check_question" "check_question" s_check_question f fd) (T : Bn mg) (kl : Kl K C) (gQ : Gc K mg "Question" (.ref C)) : FnR P w K mg base CX0 1 f (spD K (sCheckQ C)) := by
  refine fn_D F sc_check_question (fun _ _ _ _ _ _ us hl => match us, hl with | [_], _ => rfl) (fun ds μ Φ Ψ h => by obtain ⟨_, rfl, _⟩ := h; rfl) ?_
  have hN := sc_check_question.nd
  rintro cdv A outer s H E hr ds μ Φ Ψ ⟨ks, rfl, k⟩
  refine wb_one (ws_if (wt_not (wt_val ?_)))
  refine we_isiC T ?_
  kpc_obj
  refine we_glob gQ ?_
  refine ⟨C, rfl, recv_f, kl, ?_⟩
  kqd_all
  all_goals exact k
/-! ### the questions drawn may be -/
theorem pok_nm {ks : List (List Fld)} (hks : KindsOk ks) {lv kd : Nat} {p : Pt} (h : POk ks lv kd p) : letter p.nm := by
  have leaf : (∃ fs f, ks[kd]? = some fs ∧ f ∈ fs ∧ f.tg = none ∧ p = .leaf f.nm) → letter p.nm := by
    rintro ⟨fs, f, h1, h2, _, rfl⟩
    exact (hks.each fs (List.mem_of_getElem? h1)).nms f h2
  cases lv with
  | zero => exact leaf h
  | succ l =>
    rcases h with h | ⟨fs, f, t, qs, h1, h2, _, rfl, _⟩
    · exact leaf h
    · exact (hks.each fs (List.mem_of_getElem? h1)).nms f h2
theorem mxP_of {l : Nat} : ∀ {ps : List Pt}, (∀ p ∈ ps, lvP p ≤ l) → mxP ps ≤ l
  | [], _ => by rw [mxP]; omega
  | p :: ps, h => by
    rw [mxP_cons]
    have h1 := h p List.mem_cons_self
    have h2 := mxP_of (ps := ps) fun x hx => h x (List.mem_cons_of_mem _ hx)
    omega
theorem pok_lv {ks : List (List Fld)} : ∀ (lv kd : Nat) (p : Pt), POk ks lv kd p → lvP p ≤ lv
  | 0, kd, p, h => by
    obtain ⟨fs, f, _, _, _, rfl⟩ := h
    rw [lvP_leaf]; omega
  | lv + 1, kd, p, h => by
    rcases h with ⟨fs, f, _, _, _, rfl⟩ | ⟨fs, f, t, qs, _, _, _, rfl, _, _, _, hq⟩
    · rw [lvP_leaf]; omega
    · rw [lvP_node]
      have : mxP qs ≤ lv := mxP_of fun q hx => pok_lv lv t q (hq q hx)
      omega
theorem PsOk.mx {ks : List (List Fld)} {lv kd : Nat} {ps : List Pt} (h : PsOk ks lv kd ps) : mxP ps ≤ lv := mxP_of fun p hp => pok_lv lv kd p (h.each p hp)
theorem PsOk.qok {ks : List (List Fld)} (hks : KindsOk ks) {lv kd : Nat} {ps : List Pt} (h : PsOk ks lv kd ps) (hl : lv ≤ 2) (hz : szPs ps ≤ 8) : QOk ps :=
  ⟨h.ne, h.few, fun p hp => pok_nm hks (h.each p hp), h.dis, Nat.le_trans h.mx hl, hz⟩
theorem szP_le : ∀ {ps : List Pt} {p : Pt}, p ∈ ps → szP p ≤ szPs ps
  | q :: ps, p, hp => by
    rw [szPs]
    rcases List.mem_cons.mp hp with e | h
    · rw [e]; omega
    · have := szP_le h; omega
/-- the parts of an inner question may be, at one level less -/
theorem pok_inner {ks : List (List Fld)} {lv kd n : Nat} {qs : List Pt} (h : POk ks lv kd (.node n qs)) : ∃ l fs f t, lv = l + 1 ∧ ks[kd]? = some fs ∧ f ∈ fs ∧ f.nm = n ∧ f.tg = some t ∧ PsOk ks l t qs := by
  cases lv with
  | zero => obtain ⟨_, _, _, _, _, e⟩ := h; cases e
  | succ l =>
    rcases h with ⟨_, _, _, _, _, e⟩ | ⟨fs, f, t, qs', h1, h2, h3, e, h4, h5, h6, h7⟩
    · cases e
    · cases e
      exact ⟨l, fs, f, t, rfl, h1, h2, rfl, h3, h4, h5, h6, h7⟩
theorem pok_leaf_inv {ks : List (List Fld)} {lv kd n : Nat} (h : POk ks lv kd (.leaf n)) : ∃ fs f, ks[kd]? = some fs ∧ f ∈ fs ∧ f.nm = n ∧ f.tg = none := by
  cases lv with
  | zero => obtain ⟨fs, f, h1, h2, h3, e⟩ := h; cases e; exact ⟨fs, f, h1, h2, rfl, h3⟩
  | succ l =>
    rcases h with ⟨fs, f, h1, h2, h3, e⟩ | ⟨fs, f, t, qs', h1, h2, h3, e, h4⟩
    · cases e; exact ⟨fs, f, h1, h2, rfl, h3⟩
    · cases e
end
end
section
section
variable {P : Program} {w : World} {K : PySem.W.Frag} {mg : Str → Option Value} {base : Heap} {f : Addr} {fd : FuncData} {C CS : Addr}
/-- _law_question: the question of these parts -/
def sQuestion (C : Addr) (lv : Nat) : Spec := fun ds μ Φ _ => ∃ (ks : List (List Fld)) (kd : Nat) (ps : List Pt), ds = [ptsD ps] ∧ KindsOk ks ∧ PsOk ks lv kd ps ∧ lv ≤ 2 ∧ szPs ps ≤ 8 ∧ Φ (qD C ps) μ
theorem ptD_eq (p : Pt) : ptD p = .tup [Nm p.nm, match p with | .leaf _ => .non | .node _ qs => ptsD qs] := by
  cases p with
  | leaf n => rw [ptD_leaf]; rfl
  | node n qs => rw [ptD_node]; rfl
theorem question_body (F : Fd K "_law_question" "_law_question" s_law_question f fd) (T : Bn mg) (kl : Kl K C) (mk : Mkr P w K mg base 9 "Question" C (sQInit C)) (lv : Nat) (hrec : ∀ l, lv = l + 1 → Cal P w K mg base (10 + l + 1) "_law_question" (sQuestion C l)) : FnR P w K mg base CX0 (10 + lv + 1) f (spD K (sQuestion C lv)) := by
  refine fn_D F sc_law_question (fun _ _ _ _ _ _ us hl => match us, hl with | [_], _ => rfl) (fun ds μ Φ Ψ h => by obtain ⟨_, _, _, rfl, _⟩ := h; rfl) ?_
  have hN := sc_law_question.nd
  rintro cdv A outer s H E hr ds μ Φ Ψ ⟨ks, kd, ps, rfl, hks, hps, hlv, hsz, k⟩
  have hf := hps.few
  refine wb_one (ws_ret (we_frzI ?_))
  refine we_make mk (hr.mono (by omega)) ?_
  kqd_all
  refine we_lcn [("_law_name", 1), ("_law_inner", 2)] (by kp_flats) (by assumption) rfl (by kpc_if) ?_
  refine wlc_N ptD (qpD C) ps ?_ (by omega) ?_ ?_
  · refine wi_tup ?_
    kqd_all
    exact ⟨_, rfl, rfl, rfl⟩
  · rintro x hx Y ⟨s1, H1, C1, cl1, fp1, rfl⟩ ν
    have hxo := hps.each x hx
    have hxs := szP_le hx
    rw [ptD_eq, qpD_eq]
    cases x with
    | leaf n =>
      kqd_all
      rintro Y ⟨s1, H1, C1, cl1, fp1, rfl⟩
      kqd_all
      refine it_t ?_
      kqd_all
      exact ⟨rfl, rfl⟩
    | node n qs =>
      obtain ⟨l, fs, fl, t, rfl, _, _, _, _, hqs⟩ := pok_inner hxo
      kqd_all
      rintro Y ⟨s1, H1, C1, cl1, fp1, rfl⟩
      kqd_all
      refine it_f ?_
      refine we_call (hrec l rfl) (hr.mono (by omega)) ?_
      kqd_all
      refine ⟨ks, t, qs, rfl, hks, hqs, by omega, by simp only [szP] at hxs; omega, ?_⟩
      kqd_all
      exact ⟨rfl, rfl⟩
  kqd_all
  intro q
  exact ⟨q, ps, _, rfl, hps.qok hks hlv hsz, .here, rfl, q, C, [.tup (ps.map (qpD C))], _, rfl, .here, by simp, k⟩
theorem ok_law_question (F : Fd K "_law_question" "_law_question" s_law_question f fd) (T : Bn mg) (kl : Kl K C) (mk : Mkr P w K mg base 9 "Question" C (sQInit C)) (hself : mg "_law_question" = some (.ref f) ∧ PySem.W.keepIn K (.ref f) = true) : ∀ lv, FnR P w K mg base CX0 (10 + lv + 1) f (spD K (sQuestion C lv))
  | 0 => question_body F T kl mk 0 (fun l e => by omega)
  | lv + 1 => question_body F T kl mk (lv + 1) (fun l e => by cases (Nat.succ.inj e); exact ⟨f, hself.1, hself.2, ok_law_question F T kl mk hself lv⟩)
/-- unfit_in: nothing is unfit -/
def sUnfitIn (CS C : Addr) (lv : Nat) : Spec := fun ds μ Φ _ => ∃ (ks : List (List Fld)) (kd : Nat) (ps : List Pt), ds = [schD CS ks, qD C ps, .int (kd : Nat)] ∧ KindsOk ks ∧ PsOk ks lv kd ps ∧ Φ .non μ
theorem unfit_body (F : Fd K "unfit_in" "unfit_in" s_unfit_in f fd) (T : Bn mg) (kl : Kl K C) (klS : Kl K CS) (p_parts : Pr P w K mg base 1 C "parts" (sQParts C)) (m_in : Om CX0 P w K mg base 2 CS "__contains__" (sSchemaIn CS)) (m_get : Om CX0 P w K mg base 3 CS "__getitem__" (sSchemaGet CS)) (lv : Nat)
    (hrec : ∀ l, lv = l + 1 → Cal P w K mg base (5 + l + 1) "unfit_in" (sUnfitIn CS C l)) : FnR P w K mg base CX0 (5 + lv + 1) f (spD K (sUnfitIn CS C lv)) := by
  refine fn_D F sc_unfit_in (fun _ _ _ _ _ _ us hl => match us, hl with | [_, _, _], _ => rfl) (fun ds μ Φ Ψ h => by obtain ⟨_, _, _, rfl, _⟩ := h; rfl) ?_
  have hN := sc_unfit_in.nd
  rintro cdv A outer s H E hr ds μ Φ Ψ ⟨ks, kd, ps, rfl, hks, hps, k⟩
  refine wb_cons ?_
  refine ws_forL (α := Unit) (β := Pt) [3, 4, 5, 6] [3, 4] (qpD C) (fun _ => [some (schD CS ks), some (qD C ps), some (.int (kd : Nat)), none, none, none, none]) (fun _ => μ) (fun rest _ => ∀ p ∈ rest, p ∈ ps) PassesOwn.never rfl ?_ ?_ ?_
  · refine wi_tup ?_
    refine we_prop p_parts kl (hr.mono (by omega)) ?_
    kpc_obj
    exact ⟨recv_f, _, _, rfl, insd_f rfl, _, rfl, ps, rfl, (), rfl, rfl, fun _ h => h⟩
  · rintro x rest _ hsub
    have hxo := hps.each x (hsub x List.mem_cons_self)
    obtain ⟨fs, fl, hfs, hfl, hnm, htg⟩ : ∃ fs fl, ks[kd]? = some fs ∧ fl ∈ fs ∧ fl.nm = x.nm ∧ (fl.tg = none ↔ innerD C x = .non) := by
      cases x with
      | leaf n => obtain ⟨fs, f, h1, h2, h3, h4⟩ := pok_leaf_inv hxo; exact ⟨fs, f, h1, h2, h3, by simp [h4, innerD]⟩
      | node n qs => obtain ⟨l, fs, f, t, _, h1, h2, h3, h4, _⟩ := pok_inner hxo; exact ⟨fs, f, h1, h2, h3, by simp [h4, innerD]⟩
    have hko := hks.each fs (List.mem_of_getElem? hfs)
    rw [qpD_eq]
    kpc_obj
    refine wt_notInO m_in (hr.mono (by omega)) ?_
    kpc_obj
    refine ⟨recv_f, ks, kd, fs, fl, by rw [hnm], hfs, hfl, hko.nms, hko.few, ?_⟩
    kpc_obj
    refine wb_nil ?_
    kpc_obj
    refine we_ixO m_get (hr.mono (by omega)) ?_
    kpc_obj
    refine ⟨recv_f, ks, kd, fs, fl, by rw [hnm], hfs, hfl, hko.nms, hko.few, hko.dis, ?_⟩
    kpc_obj
    rw [isn_opI]
    have e1 : isNonD (innerD C x) = decide (fl.tg = none) := by
      cases x with
      | leaf n => rw [decide_eq_true (htg.mpr rfl)]; rfl
      | node n qs => rw [decide_eq_false (fun h => by have := htg.mp h; cases this)]; rfl
    rw [e1]
    kpc_obj
    refine rd_neB ?_
    refine bl_i (it_noN rfl ?_)
    refine wb_nil ?_
    refine wb_cons (ws_ifWal (by kp_flats) (by kqd_ok) (by assumption) ?_)
    kpc_obj
    cases x with
    | leaf n =>
      refine it_f ?_
      repeat refine wb_nil ?_
      exact ⟨(), rfl, rfl, fun p hp => hsub p (List.mem_cons_of_mem _ hp)⟩
    | node n qs =>
      obtain ⟨l, fs2, f2, t, rfl, h1, h2, h3, h4, hqs⟩ := pok_inner hxo
      have hf2 : f2 = fl := by
        rw [hfs] at h1
        cases h1
        have e2 : f2.nm = fl.nm := by rw [h3, hnm]; rfl
        obtain ⟨i, hi⟩ := List.mem_iff_getElem?.mp h2
        obtain ⟨j, hj⟩ := List.mem_iff_getElem?.mp hfl
        obtain ⟨l1, q1⟩ := List.getElem?_eq_some_iff.mp hi
        obtain ⟨l2, q2⟩ := List.getElem?_eq_some_iff.mp hj
        have := (List.getElem_inj (xs := fs.map Fld.nm) (h₀ := by simpa using l1) (h₁ := by simpa using l2) hko.dis).mp (by rw [List.getElem_map, List.getElem_map, q1, q2, e2])
        subst this
        rw [← q1, ← q2]
      subst hf2
      refine it_t ?_
      refine we_call (hrec l rfl) (hr.mono (by omega)) ?_
      kpc_obj
      refine ⟨ks, t, qs, by rw [h4]; rfl, hks, hqs, ?_⟩
      kpc_obj
      refine it_f ?_
      repeat refine wb_nil ?_
      exact ⟨(), rfl, rfl, fun p hp => hsub p (List.mem_cons_of_mem _ hp)⟩
  · rintro _ _
    kqd_all
    all_goals exact k
theorem ok_unfit_in (F : Fd K "unfit_in" "unfit_in" s_unfit_in f fd) (T : Bn mg) (kl : Kl K C) (klS : Kl K CS) (p_parts : Pr P w K mg base 1 C "parts" (sQParts C)) (m_in : Om CX0 P w K mg base 2 CS "__contains__" (sSchemaIn CS)) (m_get : Om CX0 P w K mg base 3 CS "__getitem__" (sSchemaGet CS)) (hself : mg "unfit_in" = some (.ref f) ∧ PySem.W.keepIn K (.ref f) = true) :
    ∀ lv, FnR P w K mg base CX0 (5 + lv + 1) f (spD K (sUnfitIn CS C lv))
  | 0 => unfit_body F T kl klS p_parts m_in m_get 0 (fun l e => by omega)
  | lv + 1 => unfit_body F T kl klS p_parts m_in m_get (lv + 1) (fun l e => by cases (Nat.succ.inj e); exact ⟨f, hself.1, hself.2, ok_unfit_in F T kl klS p_parts m_in m_get hself lv⟩)
/-- unfit: nothing is unfit -/
def sUnfit3 (CS C : Addr) : Spec := fun ds μ Φ _ => ∃ (ks : List (List Fld)) (ps : List Pt), ds = [schD CS ks, qD C ps, .int 0] ∧ KindsOk ks ∧ PsOk ks 2 0 ps ∧ Φ .non μ
def sUnfit (CS C : Addr) : Spec := fun ds μ Φ Ψ => sUnfit3 CS C (ds ++ [.int 0]) μ Φ Ψ
theorem ok_unfit (F : FunD K "unfit" "unfit" (defArgs s_unfit) (defBody s_unfit) (defScope s_unfit) [] [("kind", V.int 0)] f fd) (T : Bn mg) (klS : Kl K CS) (c_cs : Cal P w K mg base 1 "check_schema" (sCheckSchema CS)) (c_cq : Cal P w K mg base 1 "check_question" (sCheckQ C)) (c_number : Cal P w K mg base 1 "is_number" sIsNumber)
    (m_len : Om CX0 P w K mg base 1 CS "__len__" (sSchemaLen CS)) (c_in : Cal P w K mg base 8 "unfit_in" (sUnfitIn CS C 2)) : FnR P w K mg base CX0 9 f (spD K (sUnfit CS C)) := by
  obtain ⟨es, v1, b1⟩ := F.binds0 (ps := p_unfit) 2 (by simp) rfl (fun D doc pm an cdv ct us its h1 h2 => by
    match us, its, h1, h2 with
    | [_, _], [_], _, _ => exact ⟨_, _, _, _, _, _, rfl, rfl, rfl⟩)
  have hN := sc_unfit.nd
  refine fn_DB (S := sUnfit3 CS C) F sc_unfit b1 v1 (ed := [.int 0]) (fun G => .cons (.int 0) .nil) (fun ds μ Φ Ψ h => by obtain ⟨_, _, e, _⟩ := h; rw [e]; rfl) ?_
  rintro cdv A outer s H E hr ds μ Φ Ψ ⟨ks, ps, rfl, hks, hps, k⟩ _
  have hl0 : 0 < ks.length := List.length_pos_iff.mpr hks.ne
  kqd_all
  refine we_call c_cs (hr.mono (by decide)) ?_
  kqd_all
  refine ⟨ks, rfl, ?_⟩
  kqd_all
  refine we_call c_cq (hr.mono (by decide)) ?_
  kqd_all
  refine ⟨ps, rfl, ?_⟩
  kqd_all
  refine we_call c_number (hr.mono (by decide)) ?_
  kqd_all
  refine we_lenO T m_len (hr.mono (by decide)) ?_
  kqd_all
  refine ⟨recv_f, ks, rfl, ks.length, rfl, by have := hks.few; omega, ?_⟩
  kqd_all
  refine .inr ⟨_, 0, some ((ks.length : Int) - 1), rfl, .inl ⟨0, rfl, ?_⟩⟩
  have e : (decide ((0 : Int) ≤ 0) && decide ((0 : Int) ≤ (ks.length : Int) - 1)) = true := by simp; omega
  rw [e]
  kqd_all
  refine we_call c_in hr ?_
  kqd_all
  exact ⟨ks, 0, ps, rfl, hks, hps, k⟩
end
end
section
/-! ### cells and faults -/
abbrev Cl := Nat × Nat
abbrev clD (c : Cl) : D := .tup [.int (c.1 : Nat), Nm c.2]
def clP (c : Cl) : PyData := .tuple [.int (c.1 : Nat), nmP c.2]
theorem py_cl (c : Cl) : PyF (clD c) (clP c) := .tup (.cons (.int _) (.cons (py_nm _) .nil))
theorem eqv_cl (a b : Cl) : PyData.eqv (clP a) (clP b) = decide (a = b) := by
  obtain ⟨a1, a2⟩ := a
  obtain ⟨b1, b2⟩ := b
  simp only [clP, nmP, PyData.eqv, PyData.eqvAll, Bool.and_true]
  rw [Bool.eq_iff_iff]
  simp [Prod.ext_iff]
  intro _
  omega
theorem lay_cl {c : Cl} (h : letter c.2) : (clP c).canLay0 = true ∧ (clP c).depth ≤ 1 := by
  have h1 := lay_nm h.2
  refine ⟨?_, ?_⟩
  · simp only [clP, PyData.canLay0, PyData.canLayAll0, h1]
    rfl
  · have h2 : (nmP c.2).depth = 0 := rfl
    simp only [clP, PyData.depth, PyData.depthAll, h2]
    decide
def lets : List Nat := [97, 98, 99, 100, 101, 102]
def allC : List Cl := (List.range 6).flatMap fun n => lets.map fun c => (n, c)
def okCl (c : Cl) : Prop := c.1 ≤ 5 ∧ letter c.2
theorem mem_allC {c : Cl} : c ∈ allC ↔ okCl c := by
  obtain ⟨n, l⟩ := c
  unfold allC okCl letter lets
  simp only [List.mem_flatMap, List.mem_range, List.mem_map, List.mem_cons, List.not_mem_nil, or_false, Prod.mk.injEq]
  constructor
  · rintro ⟨m, hm, c, hc, rfl, rfl⟩
    omega
  · rintro ⟨h1, h2, h3⟩
    exact ⟨n, by omega, l, by omega, rfl, rfl⟩
/-- the cells in their order, each once -/
def norm (cs : List Cl) : List Cl := allC.filter fun c => decide (c ∈ cs)
abbrev faD (C : Addr) (cs : List Cl) : D := .ins C [.tup (cs.map clD)]
theorem allC_len : allC.length = 36 := by decide +kernel
theorem norm_len (cs : List Cl) : (norm cs).length ≤ 36 := by
  have := List.length_filter_le (fun c => decide (c ∈ cs)) allC
  rw [allC_len] at this
  exact this
theorem norm_ok {cs : List Cl} {c : Cl} (h : c ∈ norm cs) : okCl c := mem_allC.mp (List.mem_filter.mp h).1
section
variable {K : PySem.W.Frag} {μ : Mu} {Φ : D → Mu → Prop}
/-- a cell in cells, by a list or a tuple -/
theorem rd_inCl {n : Bool} {c : Cl} {cs : List Cl} {y : D} (hy : Py μ y (.list (cs.map clP)) ∨ Py μ y (.tuple (cs.map clP))) (hc : letter c.2) (hcs : ∀ x ∈ cs, letter x.2) (k : Φ (.bl (decide (c ∈ cs) != n)) μ) : RD K (rInDA K n) (clD c) y μ Φ := by
  refine rd_inDA (d := clP c) (py_f (py_cl c)) hy (by
    have h := lay_cl hc
    unfold SeqAt.shaped
    rw [h.1]; simp; omega) (lay_all fun x hx => (lay_cl (hcs x hx)).1) ?_
  have e : ((cs.map clP).any fun z => PyData.eqv z (clP c)) = decide (c ∈ cs) := by
    rw [Bool.eq_iff_iff, List.any_eq_true, decide_eq_true_eq]
    constructor
    · rintro ⟨z, hz, e⟩
      obtain ⟨x, hx, rfl⟩ := List.mem_map.mp hz
      rw [eqv_cl, decide_eq_true_eq] at e
      exact e ▸ hx
    · intro h
      exact ⟨clP c, List.mem_map.mpr ⟨c, h, rfl⟩, by rw [eqv_cl]; simp⟩
  rw [e]
  exact k
theorem py_clT (cs : List Cl) : Py μ (.tup (cs.map clD)) (.tuple (cs.map clP)) := py_f (.tup (pyfs_map fun x _ => py_cl x))
theorem py_clL (cs : List Cl) : Py μ (.lst (cs.map clD)) (.list (cs.map clP)) := py_f (.lst (pyfs_map fun x _ => py_cl x))
end
section
variable {P : Program} {w : World} {K : PySem.W.Frag} {mg : Str → Option Value} {base : Heap} {f : Addr} {fd : FuncData} {C : Addr}
def sIsCell : Spec := fun ds μ Φ _ => ∃ c : Cl, ds = [clD c] ∧ letter c.2 ∧ Φ (.bl (decide (c.1 ≤ 5))) μ
theorem ok_is_cell (F : Fd K "is_cell" "is_cell" s_is_cell f fd) (T : Bn mg) (c_number : Cal P w K mg base 1 "is_number" sIsNumber) (c_name : Cal P w K mg base 1 "is_name" sIsName) (g5 : Gc K mg "MOST_OBJECT" (.int 5)) : FnR P w K mg base CX0 2 f (spD K sIsCell) := by
  refine fn_D F sc_is_cell (fun _ _ _ _ _ _ us hl => match us, hl with | [_], _ => rfl) (fun ds μ Φ Ψ h => by obtain ⟨_, rfl, _⟩ := h; rfl) ?_
  have hN := sc_is_cell.nd
  rintro cdv A outer s H E hr ds μ Φ Ψ ⟨c, rfl, hl, k⟩
  kqd_all
  refine we_call c_number (hr.mono (by decide)) ?_
  kqd_all
  refine we_glob g5 ?_
  kqd_all
  refine .inr ⟨_, 0, some 5, rfl, .inl ⟨(c.1 : Int), rfl, ?_⟩⟩
  by_cases h5 : c.1 ≤ 5
  · have e : (decide ((0 : Int) ≤ (c.1 : Int)) && decide ((c.1 : Int) ≤ 5)) = true := by simp; omega
    rw [e]
    kqd_all
    refine we_call c_name (hr.mono (by decide)) ?_
    kqd_all
    rw [decide_eq_true h5] at k
    exact ⟨c.2, rfl, hl.1, hl.2, k⟩
  · have e : (decide ((0 : Int) ≤ (c.1 : Int)) && decide ((c.1 : Int) ≤ 5)) = false := by simp; omega
    rw [e]
    rw [decide_eq_false h5] at k
    exact bl_i (it_f k)
def sAllCells : Spec := fun ds μ Φ _ => ds = [] ∧ Φ (.lst (allC.map clD)) μ
theorem ok_all_cells (F : Fd K "all_cells" "all_cells" s_all_cells f fd) (T : Bn mg) (g5 : Gc K mg "MOST_OBJECT" (.int 5)) (g4 : Gc K mg "NAMES" (.str "abcdef")) : FnR P w K mg base CX0 1 f (spD K sAllCells) := by
  refine fn_D F sc_all_cells (fun _ _ _ _ _ _ us hl => match us, hl with | [], _ => rfl) (fun ds μ Φ Ψ h => by obtain ⟨rfl, _⟩ := h; rfl) ?_
  have hN := sc_all_cells.nd
  rintro cdv A outer s H E hr ds μ Φ Ψ ⟨rfl, k⟩
  kqd_all
  refine we_lc2 (β := Nat) (γ := Nat) [("number", 0), ("name", 1)] [1] (fun i => .int (0 + (i : Nat))) Nm (fun _ => lets) (fun _ _ => true) (fun n c => clD (n, c)) (List.range 6) (by kp_flats) (by assumption) rfl (by kpc_if) (by decide) ?_ (by decide) ?_ ?_
  · refine wi_range T ?_
    kqd_all
    refine we_glob g5 ?_
    kqd_all
    exact ⟨by omega, by omega, rfl, rfl⟩
  · rintro x hx Y ⟨s1, H1, C1, cl1, fp1, rfl⟩ ν
    kqd_all
    refine ⟨rfl, ?_, ?_⟩
    · rintro Y ⟨s1, H1, C1, cl1, fp1, rfl⟩
      refine wi_str ?_
      refine we_glob g4 ?_
      exact ⟨_, rfl, rfl, rfl⟩
    · rintro y hy Y ⟨s1, H1, C1, cl1, fp1, rfl⟩ ν
      kqd_all
      rintro Y ⟨s1, H1, C1, cl1, fp1, rfl⟩
      kqd_all
      refine ⟨rfl, rfl, fun _ => ?_⟩
      rintro Y ⟨s1, H1, C1, cl1, fp1, rfl⟩
      kqd_all
      exact ⟨rfl, by simp⟩
  · exact k
end
end
section
section
variable {P : Program} {w : World} {K : PySem.W.Frag} {mg : Str → Option Value} {base : Heap} {f : Addr} {fd : FuncData} {C : Addr}
/-- a list or a tuple of these -/
def SeqD (y : D) (ds : List D) : Prop := y = .lst ds ∨ y = .tup ds
def sFaultsInit (C : Addr) : Spec := fun ds μ Φ _ => ∃ (q : Addr) (y : D) (cs : List Cl) (g : M → Mu), ds = [.ref q, y] ∧ SeqD y (cs.map clD) ∧ (∀ c ∈ cs, okCl c) ∧ cs.length ≤ 100 ∧ AtF μ q (.ins C []) g ∧ Φ .non (g (.ins C [some (.tup ((norm cs).map clD))]))
theorem ok_Faults_init (F : Fd K "__init__" "Faults.__init__" s_Faults_xinit f fd) (T : Bn mg) (kl : Kl K C) (sl : Sl K C "kept" 0) (c_cell : Cal P w K mg base 2 "is_cell" sIsCell) (c_all : Cal P w K mg base 1 "all_cells" sAllCells) : FnR P w K mg base CX0 3 f (spD K (sFaultsInit C)) := by
  refine fn_D F sc_Faults_xinit (fun _ _ _ _ _ _ us hl => match us, hl with | [_, _], _ => rfl) (fun ds μ Φ Ψ h => by obtain ⟨_, _, _, _, rfl, _⟩ := h; rfl) ?_
  have hN := sc_Faults_xinit.nd
  rintro cdv A outer s H E hr ds μ Φ Ψ ⟨q, y, cs, g, rfl, hy, hok, hlen, pk, k⟩
  have hty : ∃ A, tyD y = some A ∧ (isB A .list || isB A .tuple) = true := by
    rcases hy with rfl | rfl
    · exact ⟨.list, rfl, rfl⟩
    · exact ⟨.tuple, rfl, rfl⟩
  obtain ⟨A', hA, hB⟩ := hty
  have hpy : ∀ μ, Py μ y (.list (cs.map clP)) ∨ Py μ y (.tuple (cs.map clP)) := fun μ => by
    rcases hy with rfl | rfl
    · exact .inl (py_clL cs)
    · exact .inr (py_clT cs)
  refine wb_cons (ws_if (wt_ww (ww_or ?_)))
  refine wt_not (wt_val (we_isiLT T ?_))
  kqd_all
  refine ⟨A', hA, ?_⟩
  rw [hB]
  kqd_all
  refine we_lcn [("cell", 2)] (by kp_flats) (by assumption) rfl (by kpc_if) ?_
  refine wlc_N clD (fun _ => .bl true) cs ?_ (by omega) ?_ ?_
  · rcases hy with rfl | rfl
    · refine wi_lst ?_
      kqd_all
      exact ⟨_, rfl, rfl, rfl⟩
    · refine wi_tup ?_
      kqd_all
      exact ⟨_, rfl, rfl, rfl⟩
  · rintro x hx Y ⟨s1, H1, C1, cl1, fp1, rfl⟩ ν
    kqd_all
    rintro Y ⟨s1, H1, C1, cl1, fp1, rfl⟩
    refine we_call c_cell (hr.mono (by decide)) ?_
    kqd_all
    have := hok x hx
    exact ⟨x, rfl, this.2, rfl, by rw [decide_eq_true this.1]⟩
  refine ⟨cs.map fun _ => true, by rw [List.map_map]; rfl, ?_⟩
  rw [all_true]
  kqd_all
  refine ws_at ?_
  kqd_all
  refine we_lcn [("cell", 2)] (by kp_flats) (by assumption) rfl (by kpc_if) ?_
  refine wlc_F clD clD (fun c => decide (c ∈ cs)) allC ?_ (by rw [allC_len]; omega) ?_ ?_
  · refine wi_lst ?_
    refine we_call0 c_all (hr.mono (by decide)) ?_
    exact ⟨rfl, _, rfl, rfl, rfl⟩
  · rintro x hx Y ⟨s1, H1, C1, cl1, fp1, rfl⟩ ν
    kpc_obj
    rintro Y ⟨s1, H1, C1, cl1, fp1, rfl⟩
    refine wts_one (wt_cmp (op := .In) (op_inDA (by assumption)) ?_)
    kpc_obj
    refine rd_inCl (hpy _) (mem_allC.mp hx).2 (fun c hc => (hok c hc).2) ?_
    refine bl_i ⟨rfl, by simp, fun _ => ?_⟩
    rintro Y ⟨s1, H1, C1, cl1, fp1, rfl⟩
    kpc_obj
    exact ⟨rfl, rfl⟩
  kpc_obj
  refine ⟨q, C, 0, _, _, rfl, pk.at _, kl, sl, ?_⟩
  exact wb_nil k
def sFaultsCells (C : Addr) : Spec := fun ds μ Φ _ => ∃ cs : List Cl, ds = [faD C cs] ∧ Φ (.tup (cs.map clD)) μ
theorem ok_Faults_cells (F : Fd K "cells" "Faults.cells" s_Faults_cells f fd) (kl : Kl K C) (sl : Sl K C "kept" 0) : FnR P w K mg base CX0 1 f (spD K (sFaultsCells C)) := by
  refine fn_D F sc_Faults_cells (fun _ _ _ _ _ _ us hl => match us, hl with | [_], _ => rfl) (fun ds μ Φ Ψ h => by obtain ⟨_, rfl, _⟩ := h; rfl) ?_
  have hN := sc_Faults_cells.nd
  rintro cdv A outer s H E hr ds μ Φ Ψ ⟨ks, rfl, k⟩
  kqd_all
  refine we_at ?_
  kqd_all
  exact ⟨C, 0, _, insd_f rfl, kl, sl, k⟩
def sFaultsLen (C : Addr) : Spec := fun ds μ Φ _ => ∃ cs : List Cl, ds = [faD C cs] ∧ Φ (.int (cs.length : Nat)) μ
theorem ok_Faults_len (F : Fd K "__len__" "Faults.__len__" s_Faults_xlen f fd) (T : Bn mg) (kl : Kl K C) (sl : Sl K C "kept" 0) : FnR P w K mg base CX0 1 f (spD K (sFaultsLen C)) := by
  refine fn_D F sc_Faults_xlen (fun _ _ _ _ _ _ us hl => match us, hl with | [_], _ => rfl) (fun ds μ Φ Ψ h => by obtain ⟨_, rfl, _⟩ := h; rfl) ?_
  have hN := sc_Faults_xlen.nd
  rintro cdv A outer s H E hr ds μ Φ Ψ ⟨ks, rfl, k⟩
  kqd_all
  refine we_at ?_
  kqd_all
  refine ⟨C, 0, _, insd_f rfl, kl, sl, ?_⟩
  kqd_all
  rw [List.length_map]
  exact k
def sFaultsIn (C : Addr) : Spec := fun ds μ Φ _ => ∃ (cs : List Cl) (c : Cl), ds = [faD C cs, clD c] ∧ letter c.2 ∧ (∀ x ∈ cs, okCl x) ∧ Φ (.bl (decide (c ∈ cs))) μ
theorem ok_Faults_in (F : Fd K "__contains__" "Faults.__contains__" s_Faults_xcontains f fd) (T : Bn mg) (kl : Kl K C) (sl : Sl K C "kept" 0) (c_cell : Cal P w K mg base 2 "is_cell" sIsCell) : FnR P w K mg base CX0 3 f (spD K (sFaultsIn C)) := by
  refine fn_D F sc_Faults_xcontains (fun _ _ _ _ _ _ us hl => match us, hl with | [_, _], _ => rfl) (fun ds μ Φ Ψ h => by obtain ⟨_, _, rfl, _⟩ := h; rfl) ?_
  have hN := sc_Faults_xcontains.nd
  rintro cdv A outer s H E hr ds μ Φ Ψ ⟨cs, c, rfl, hl, hcs, k⟩
  kqd_all
  refine we_call c_cell (hr.mono (by decide)) ?_
  kqd_all
  refine ⟨c, rfl, hl, ?_⟩
  kqd_all
  refine it_by (fun h5 => ?_) fun h5 => ?_
  · refine we_one (we_cmp (op := .In) (op_inDA (by assumption)) ?_)
    kqd_all
    refine we_at ?_
    kqd_all
    refine ⟨C, 0, _, insd_f rfl, kl, sl, ?_⟩
    refine rd_inCl (.inr (py_clT cs)) hl (fun x hx => (hcs x hx).2) ?_
    have e : (decide (c ∈ cs) != false) = decide (c ∈ cs) := by simp
    rw [e]
    exact k
  · have e : decide (c ∈ cs) = false := decide_eq_false fun h => h5 (hcs c h).1
    rw [e] at k
    exact k
def sCheckFaults (C : Addr) : Spec := fun ds μ Φ _ => ∃ cs : List Cl, ds = [faD C cs] ∧ Φ .non μ
theorem ok_check_faults (F : Fd K "check_faults" "check_faults" s_check_faults f fd) (T : Bn mg) (kl : Kl K C) (gF : Gc K mg "Faults" (.ref C)) : FnR P w K mg base CX0 1 f (spD K (sCheckFaults C)) := by
  refine fn_D F sc_check_faults (fun _ _ _ _ _ _ us hl => match us, hl with | [_], _ => rfl) (fun ds μ Φ Ψ h => by obtain ⟨_, rfl, _⟩ := h; rfl) ?_
  have hN := sc_check_faults.nd
  rintro cdv A outer s H E hr ds μ Φ Ψ ⟨ks, rfl, k⟩
  refine wb_one (ws_if (wt_not (wt_val ?_)))
  refine we_isiC T ?_
  kpc_obj
  refine we_glob gF ?_
  refine ⟨C, rfl, recv_f, kl, ?_⟩
  kqd_all
  all_goals exact k
/-- Faults(..), as a value -/
theorem we_faults {X : Cx} {ρ : Rho} {μ : Mu} {Φ : D → Mu → Prop} {e : Expr} {p pos : Pos} (mk : Mkr X.prog X.w X.K X.mg X.base 3 "Faults" C (sFaultsInit C)) (hr : Room 4 X.A) (h : WE X e ρ μ fun y μ1 => ∃ cs : List Cl, SeqD y (cs.map clD) ∧ (∀ c ∈ cs, okCl c) ∧ cs.length ≤ 100 ∧ Φ (faD C (norm cs)) μ1)
    (hg : Gl X "Faults" := by rfl) (he : starEach [e] X.env = (false, eval e X.env) :: starEach [] X.env := by rfl) (hpl : (backTo pos (starEach [] X.env)).any (·.1) = false := by rfl) : WE X (.Call (.Name "Faults" p) [e] [] pos) ρ μ Φ :=
  we_frzI (we_make mk hr (wa_cons ⟨fun σ G H Q m r q => h.run σ G H Q m r fun y v G1 H1 μ1 s1 m1 rd ⟨cs, h1, h2, h3, h4⟩ => q y v G1 H1 μ1 s1 m1 rd (wa_nil fun qa => ⟨qa, y, cs, _, rfl, h1, h2, h3, .here, rfl, qa, C, [.tup ((norm cs).map clD)], _, rfl, .here, by simp, h4⟩)⟩ he) hg (by decide) he hpl)
end
end
section
section
variable {P : Program} {w : World} {K : PySem.W.Frag} {mg : Str → Option Value} {base : Heap} {f : Addr} {fd : FuncData} {C : Addr}
/-- faults as they stand -/
structure FOk (cs : List Cl) : Prop where
  ok : ∀ c ∈ cs, okCl c
  few : cs.length ≤ 40
theorem fok_norm (cs : List Cl) : FOk (norm cs) := ⟨fun _ h => norm_ok h, Nat.le_trans (norm_len cs) (by omega)⟩
def sFaultsOr (C : Addr) : Spec := fun ds μ Φ _ => ∃ cs es : List Cl, ds = [faD C cs, faD C es] ∧ FOk cs ∧ FOk es ∧ Φ (faD C (norm (cs ++ es))) μ
theorem ok_Faults_or (F : Fd K "__or__" "Faults.__or__" s_Faults_xor f fd) (kl : Kl K C) (sl : Sl K C "kept" 0) (p_cells : Pr P w K mg base 1 C "cells" (sFaultsCells C)) (mk : Mkr P w K mg base 3 "Faults" C (sFaultsInit C)) : FnR P w K mg base CX0 5 f (spD K (sFaultsOr C)) := by
  refine fn_D F sc_Faults_xor (fun _ _ _ _ _ _ us hl => match us, hl with | [_, _], _ => rfl) (fun ds μ Φ Ψ h => by obtain ⟨_, _, rfl, _⟩ := h; rfl) ?_
  have hN := sc_Faults_xor.nd
  rintro cdv A outer s H E hr ds μ Φ Ψ ⟨cs, es, rfl, h1, h2, k⟩
  have := h1.few
  have := h2.few
  refine wb_one (ws_ret (we_faults mk hr ?_))
  kqd_all
  refine we_at ?_
  kqd_all
  refine ⟨C, 0, _, insd_f rfl, kl, sl, ?_⟩
  refine we_prop p_cells kl (hr.mono (by decide)) ?_
  kqd_all
  refine ⟨recv_f, es, rfl, ?_⟩
  refine rd_addT (by simp; omega) ?_
  refine ⟨cs ++ es, .inr (by rw [List.map_append]), fun c hc => ?_, by simp; omega, k⟩
  rcases List.mem_append.mp hc with h | h
  · exact h1.ok c h
  · exact h2.ok c h
def sFaultsSub (C : Addr) : Spec := fun ds μ Φ _ => ∃ cs es : List Cl, ds = [faD C cs, faD C es] ∧ FOk cs ∧ FOk es ∧ Φ (faD C (norm (cs.filter fun c => !decide (c ∈ es)))) μ
theorem ok_Faults_sub (F : Fd K "__sub__" "Faults.__sub__" s_Faults_xsub f fd) (kl : Kl K C) (sl : Sl K C "kept" 0) (m_in : Om CX0 P w K mg base 3 C "__contains__" (sFaultsIn C)) (mk : Mkr P w K mg base 3 "Faults" C (sFaultsInit C)) : FnR P w K mg base CX0 5 f (spD K (sFaultsSub C)) := by
  refine fn_D F sc_Faults_xsub (fun _ _ _ _ _ _ us hl => match us, hl with | [_, _], _ => rfl) (fun ds μ Φ Ψ h => by obtain ⟨_, _, rfl, _⟩ := h; rfl) ?_
  have hN := sc_Faults_xsub.nd
  rintro cdv A outer s H E hr ds μ Φ Ψ ⟨cs, es, rfl, h1, h2, k⟩
  have := h1.few
  refine wb_one (ws_ret (we_faults mk hr ?_))
  refine we_lcn [("cell", 2)] (by kp_flats) (by assumption) rfl (by kpc_if) ?_
  refine wlc_F clD clD (fun c => !decide (c ∈ es)) cs ?_ (by omega) ?_ ?_
  · refine wi_tup ?_
    refine we_at ?_
    kqd_all
    exact ⟨C, 0, _, insd_f rfl, kl, sl, _, rfl, rfl, rfl⟩
  · rintro x hx Y ⟨s1, H1, C1, cl1, fp1, rfl⟩ ν
    kpc_obj
    rintro Y ⟨s1, H1, C1, cl1, fp1, rfl⟩
    refine wts_one (wt_notInO m_in (hr.mono (by decide)) ?_)
    kpc_obj
    refine ⟨recv_f, es, x, rfl, (h1.ok x hx).2, h2.ok, ?_⟩
    refine bl_i ⟨rfl, rfl, fun _ => ?_⟩
    rintro Y ⟨s1, H1, C1, cl1, fp1, rfl⟩
    kpc_obj
    exact ⟨rfl, rfl⟩
  exact ⟨cs.filter fun c => !decide (c ∈ es), .inl rfl, fun c hc => h1.ok c (List.mem_filter.mp hc).1, by have := List.length_filter_le (fun c => !decide (c ∈ es)) cs; omega, k⟩
def sFaultsShl (C : Addr) : Spec := fun ds μ Φ _ => ∃ (cs : List Cl) (c : Cl), ds = [faD C cs, clD c] ∧ FOk cs ∧ okCl c ∧ Φ (faD C (norm (cs ++ [c]))) μ
theorem ok_Faults_shl (F : Fd K "__lshift__" "Faults.__lshift__" s_Faults_xlshift f fd) (T : Bn mg) (kl : Kl K C) (sl : Sl K C "kept" 0) (c_cell : Cal P w K mg base 2 "is_cell" sIsCell) (mk : Mkr P w K mg base 3 "Faults" C (sFaultsInit C)) : FnR P w K mg base CX0 5 f (spD K (sFaultsShl C)) := by
  refine fn_D F sc_Faults_xlshift (fun _ _ _ _ _ _ us hl => match us, hl with | [_, _], _ => rfl) (fun ds μ Φ Ψ h => by obtain ⟨_, _, rfl, _⟩ := h; rfl) ?_
  have hN := sc_Faults_xlshift.nd
  rintro cdv A outer s H E hr ds μ Φ Ψ ⟨cs, c, rfl, h1, h2, k⟩
  have := h1.few
  kqd_all
  refine we_call c_cell (hr.mono (by decide)) ?_
  kqd_all
  refine ⟨c, rfl, h2.2, ?_⟩
  rw [decide_eq_true h2.1]
  kqd_all
  refine we_faults mk hr ?_
  refine we_tup (wa_star ?_)
  refine we_at ?_
  kqd_all
  refine ⟨C, 0, _, insd_f rfl, kl, sl, _, sq_t, ?_⟩
  kqd_all
  refine ⟨by simp; omega, cs ++ [c], .inr (by rw [List.map_append]; rfl), fun x hx => ?_, by simp; omega, k⟩
  rcases List.mem_append.mp hx with h | h
  · exact h1.ok x h
  · rw [List.mem_singleton.mp h]; exact h2
def sFaultsNone (C : Addr) : Spec := fun ds μ Φ _ => ds = [] ∧ Φ (faD C []) μ
theorem norm_nil : norm [] = [] := by unfold norm; simp
theorem ok_Faults_none (F : Fd K "none" "Faults.none" s_Faults_none f fd) (mk : Mkr P w K mg base 3 "Faults" C (sFaultsInit C)) : FnR P w K mg base CX0 5 f (spD K (sFaultsNone C)) := by
  refine fn_D F sc_Faults_none (fun _ _ _ _ _ _ us hl => match us, hl with | [], _ => rfl) (fun ds μ Φ Ψ h => by obtain ⟨rfl, _⟩ := h; rfl) ?_
  rintro cdv A outer s H E hr ds μ Φ Ψ ⟨rfl, k⟩
  refine wb_one (ws_ret (we_faults mk hr ?_))
  kqd_all
  refine ⟨[], .inr rfl, by simp, by simp, ?_⟩
  rw [norm_nil]
  exact k
end
end
section
section
variable {P : Program} {w : World} {K : PySem.W.Frag} {mg : Str → Option Value} {base : Heap} {f : Addr} {fd : FuncData} {CS : Addr}
/-- kind_of: the kind of an object -/
def sKindOf (CS : Addr) : Spec := fun ds μ Φ _ => ∃ (ks : List (List Fld)) (o : Ob), ds = [schD CS ks, objD o] ∧ ks.length ≤ 3 ∧ o.1 < ks.length ∧ Φ (.int (o.1 : Nat)) μ
theorem ok_kind_of (F : Fd K "kind_of" "kind_of" s_kind_of f fd) (T : Bn mg) (c_number : Cal P w K mg base 1 "is_number" sIsNumber) (m_len : Om CX0 P w K mg base 1 CS "__len__" (sSchemaLen CS)) : FnR P w K mg base CX0 3 f (spD K (sKindOf CS)) := by
  refine fn_D F sc_kind_of (fun _ _ _ _ _ _ us hl => match us, hl with | [_, _], _ => rfl) (fun ds μ Φ Ψ h => by obtain ⟨_, _, rfl, _⟩ := h; rfl) ?_
  have hN := sc_kind_of.nd
  rintro cdv A outer s H E hr ds μ Φ Ψ ⟨ks, o, rfl, hl, ho, k⟩
  kqd_all
  refine we_call c_number (hr.mono (by decide)) ?_
  kqd_all
  refine we_lenO T m_len (hr.mono (by decide)) ?_
  kqd_all
  refine ⟨recv_f, ks, rfl, ks.length, rfl, by omega, ?_⟩
  kqd_all
  refine .inr ⟨_, 0, some ((ks.length : Int) - 1), rfl, .inl ⟨(o.1 : Int), rfl, ?_⟩⟩
  have e : (decide ((0 : Int) ≤ (o.1 : Int)) && decide ((o.1 : Int) ≤ (ks.length : Int) - 1)) = true := by simp; omega
  rw [e]
  kqd_all
  all_goals exact k
/-- is_single: one value that fits -/
def sIsSingle (CS : Addr) : Spec := fun ds μ Φ _ => ∃ (ks : List (List Fld)) (os : List Ob) (g : Fld) (n : Nat), ds = [schD CS ks, objsD os, opI g.tg, .int (n : Nat)] ∧ ks.length ≤ 3 ∧ (∀ o ∈ os, o.1 < ks.length) ∧ FitOne (os.map (·.1)) g n ∧ Φ (.bl true) μ
theorem ok_is_single (F : Fd K "is_single" "is_single" s_is_single f fd) (T : Bn mg) (c_number : Cal P w K mg base 1 "is_number" sIsNumber) (c_kind : Cal P w K mg base 3 "kind_of" (sKindOf CS)) : FnR P w K mg base CX0 4 f (spD K (sIsSingle CS)) := by
  refine fn_D F sc_is_single (fun _ _ _ _ _ _ us hl => match us, hl with | [_, _, _, _], _ => rfl) (fun ds μ Φ Ψ h => by obtain ⟨_, _, _, _, rfl, _⟩ := h; rfl) ?_
  have hN := sc_is_single.nd
  rintro cdv A outer s H E hr ds μ Φ Ψ ⟨ks, os, g, n, rfl, hl, hos, hf, k⟩
  kqd_all
  unfold FitOne at hf
  cases ht : g.tg with
  | none =>
    rw [ht] at hf
    refine it_t ?_
    kqd_all
    refine we_call c_number (hr.mono (by decide)) ?_
    kqd_all
    refine .inr ⟨_, 0, some 9, rfl, .inl ⟨(n : Int), rfl, ?_⟩⟩
    have hf' : n ≤ 9 := hf
    have e : (decide ((0 : Int) ≤ (n : Int)) && decide ((n : Int) ≤ 9)) = true := by simp; omega
    rw [e]
    exact k
  | some t =>
    rw [ht] at hf
    have hf' : (os.map (·.1))[n]? = some t := hf
    have hn : n < os.length := by have := (List.getElem?_eq_some_iff.mp hf').1; simpa using this
    have ho : os[n].1 = t := by rw [List.getElem?_map, List.getElem?_eq_getElem hn] at hf'; exact Option.some.inj hf'
    refine it_f ?_
    refine wb_nil ?_
    kqd_all
    refine we_call c_number (hr.mono (by decide)) ?_
    kqd_all
    rw [List.length_map]
    refine .inr ⟨_, 0, some ((os.length : Int) - 1), rfl, .inl ⟨(n : Int), rfl, ?_⟩⟩
    have e : (decide ((0 : Int) ≤ (n : Int)) && decide ((n : Int) ≤ (os.length : Int) - 1)) = true := by simp; omega
    rw [e]
    kqd_all
    refine we_call c_kind hr ?_
    kqd_all
    refine rd_ixT (d := objD os[n]) (atI_nat (by rw [List.getElem?_map, List.getElem?_eq_getElem hn]; rfl)) ?_
    kqd_all
    refine ⟨ks, os[n], rfl, hl, hos _ (List.getElem_mem hn), ?_⟩
    kqd_all
    have e : decide ((os[n].1 : Int) = (t : Int)) = true := by rw [ho]; simp
    rw [e]
    exact k
/-- is_value -/
def sIsValue (CS : Addr) : Spec := fun ds μ Φ _ => ∃ (ks : List (List Fld)) (os : List Ob) (g : Fld) (v : Val), ds = [schD CS ks, objsD os, fldD g, valD v] ∧ ks.length ≤ 3 ∧ (∀ o ∈ os, o.1 < ks.length) ∧ FitV (os.map (·.1)) g v ∧ Φ (.bl true) μ
theorem ok_is_value (F : Fd K "is_value" "is_value" s_is_value f fd) (T : Bn mg) (c_single : Cal P w K mg base 4 "is_single" (sIsSingle CS)) : FnR P w K mg base CX0 5 f (spD K (sIsValue CS)) := by
  refine fn_D F sc_is_value (fun _ _ _ _ _ _ us hl => match us, hl with | [_, _, _, _], _ => rfl) (fun ds μ Φ Ψ h => by obtain ⟨_, _, _, _, rfl, _⟩ := h; rfl) ?_
  have hN := sc_is_value.nd
  rintro cdv A outer s H E hr ds μ Φ Ψ ⟨ks, os, g, v, rfl, hl, hos, hf, k⟩
  refine wb_cons (ws_match2 ?_)
  kqd_all
  refine rd_eqS ?_
  rw [form_one]
  cases v with
  | one n =>
    refine bl_i (it_yes hf.1 ?_)
    kqd_all
    refine we_call c_single hr ?_
    kqd_all
    exact ⟨ks, os, g, n, rfl, hl, hos, hf.2, k⟩
  | many ns =>
    refine bl_i (it_no hf.1 ?_)
    have hn := hf.2.1
    kqd_all
    rw [List.length_map]
    refine it_no (by omega) ?_
    kqd_all
    refine we_lcn [("item", 4)] (by kp_flats) (by assumption) rfl (by kpc_if) ?_
    refine wlc_N natD (fun _ => .bl true) ns ?_ (by omega) ?_ ?_
    · refine wi_tup ?_
      kqd_all
      exact ⟨_, rfl, rfl, rfl⟩
    · rintro x hx Y ⟨s1, H1, C1, cl1, fp1, rfl⟩ ν
      kqd_all
      rintro Y ⟨s1, H1, C1, cl1, fp1, rfl⟩
      refine we_call c_single hr ?_
      kqd_all
      exact ⟨ks, os, g, x, rfl, hl, hos, hf.2.2 x hx, rfl, rfl⟩
    refine ⟨ns.map fun _ => true, by rw [List.map_map]; rfl, ?_⟩
    rw [all_true]
    exact k
/-- is_object -/
def sIsObject (CS : Addr) : Spec := fun ds μ Φ _ => ∃ (ks : List (List Fld)) (os : List Ob) (o : Ob) (fs : List Fld), ds = [schD CS ks, objsD os, objD o] ∧ ks.length ≤ 3 ∧ (∀ o ∈ os, o.1 < ks.length) ∧ ks[o.1]? = some fs ∧ fs.length ≤ 3 ∧ Fits (os.map (·.1)) fs o.2 ∧ Φ (.bl true) μ
theorem Fits.zip {sorts : List Nat} : ∀ {fs : List Fld} {vs : List Val}, Fits sorts fs vs → ∀ p ∈ fs.zip vs, FitV sorts p.1 p.2
  | _, _, .nil, p, hp => by cases hp
  | _, _, .cons a b, p, hp => by
    rcases List.mem_cons.mp hp with e | h
    · rw [e]; exact a
    · exact b.zip p h
theorem ok_is_object (F : Fd K "is_object" "is_object" s_is_object f fd) (T : Bn mg) (klS : Kl K CS) (p_kinds : Pr P w K mg base 1 CS "kinds" (sSchemaKinds CS)) (c_kind : Cal P w K mg base 3 "kind_of" (sKindOf CS)) (c_value : Cal P w K mg base 5 "is_value" (sIsValue CS)) : FnR P w K mg base CX0 6 f (spD K (sIsObject CS)) := by
  refine fn_D F sc_is_object (fun _ _ _ _ _ _ us hl => match us, hl with | [_, _, _], _ => rfl) (fun ds μ Φ Ψ h => by obtain ⟨_, _, _, _, rfl, _⟩ := h; rfl) ?_
  have hN := sc_is_object.nd
  rintro cdv A outer s H E hr ds μ Φ Ψ ⟨ks, os, o, fs, rfl, hl, hos, hfs, hf3, hfit, k⟩
  have ho := (List.getElem?_eq_some_iff.mp hfs).1
  have hlen := hfit.length
  kqd_all
  refine we_call c_kind (hr.mono (by decide)) ?_
  kqd_all
  refine ⟨ks, o, rfl, hl, ho, ?_⟩
  kqd_all
  refine it_f ?_
  kqd_all
  refine we_prop p_kinds klS (hr.mono (by decide)) ?_
  kqd_all
  refine ⟨recv_f, ks, rfl, ?_⟩
  kqd_all
  refine rd_ixT (d := kindD fs) (atI_nat (by rw [List.getElem?_map, hfs]; rfl)) ?_
  kqd_all
  rw [List.length_map, List.length_map, hlen]
  refine it_noN rfl ?_
  refine wb_nil ?_
  kqd_all
  refine we_prop p_kinds klS (hr.mono (by decide)) ?_
  kqd_all
  refine ⟨recv_f, ks, rfl, ?_⟩
  kqd_all
  refine rd_ixT (d := kindD fs) (atI_nat (by rw [List.getElem?_map, hfs]; rfl)) ?_
  kqd_all
  refine we_lcn [("field", 5), ("value", 6)] (by kp_flats) (by assumption) rfl (by kpc_if) ?_
  refine wlc_N (fun p : Fld × Val => .tup [fldD p.1, valD p.2]) (fun _ => .bl true) (fs.zip o.2) ?_ (by rw [List.length_zip]; omega) ?_ ?_
  · refine wi_zipT T ?_
    kqd_all
    exact ⟨_, _, rfl, rfl, zipD_map fldD valD fs o.2, rfl⟩
  · rintro x hx Y ⟨s1, H1, C1, cl1, fp1, rfl⟩ ν
    kqd_all
    rintro Y ⟨s1, H1, C1, cl1, fp1, rfl⟩
    refine we_call c_value hr ?_
    kqd_all
    exact ⟨ks, os, x.1, x.2, rfl, hl, hos, hfit.zip x hx, rfl, rfl⟩
  refine ⟨(fs.zip o.2).map fun _ => true, by rw [List.map_map]; rfl, ?_⟩
  rw [all_true]
  exact k
end
end
section
/-! ### Store -/
/-- a cell's key -/
abbrev clK (i c : Nat) : List Key := [Sum.inl (i : Int), Sum.inr ⟨#[c]⟩]
/-- the rows of the table: an object with its place -/
def rowsT (ks : List (List Fld)) (os : List Ob) : List (Ob × Nat) := os.zipIdx 0
def fldsT (ks : List (List Fld)) (x : Ob × Nat) : List (Fld × Val) := ((ks[x.1.1]?).getD []).zip x.1.2
def tabK (ks : List (List Fld)) (os : List Ob) : List (List Key) := (os.zipIdx 0).flatMap fun x => (fldsT ks x).map fun y => clK x.2 y.1.nm
def tabV (ks : List (List Fld)) (os : List Ob) : List D := (os.zipIdx 0).flatMap fun x => (fldsT ks x).map fun y => valD y.2
abbrev stoD (C CS : Addr) (ks : List (List Fld)) (os : List Ob) : D := .ins C [schD CS ks, objsD os, .dcT (tabK ks os) (tabV ks os)]
section
variable {P : Program} {w : World} {K : PySem.W.Frag} {mg : Str → Option Value} {base : Heap} {f : Addr} {fd : FuncData} {C CS : Addr}
def sStoreSchema (C CS : Addr) : Spec := fun ds μ Φ _ => ∃ (ks : List (List Fld)) (os : List Ob), ds = [stoD C CS ks os] ∧ Φ (schD CS ks) μ
theorem ok_Store_schema (F : Fd K "schema" "Store.schema" s_Store_schema f fd) (kl : Kl K C) (sl : Sl K C "plan" 0) : FnR P w K mg base CX0 1 f (spD K (sStoreSchema C CS)) := by
  refine fn_D F sc_Store_schema (fun _ _ _ _ _ _ us hl => match us, hl with | [_], _ => rfl) (fun ds μ Φ Ψ h => by obtain ⟨_, _, rfl, _⟩ := h; rfl) ?_
  have hN := sc_Store_schema.nd
  rintro cdv A outer s H E hr ds μ Φ Ψ ⟨ks, os, rfl, k⟩
  kqd_all
  refine we_at ?_
  kqd_all
  exact ⟨C, 0, _, insd_f rfl, kl, sl, k⟩
def sStoreObjects (C CS : Addr) : Spec := fun ds μ Φ _ => ∃ (ks : List (List Fld)) (os : List Ob), ds = [stoD C CS ks os] ∧ Φ (objsD os) μ
theorem ok_Store_objects (F : Fd K "objects" "Store.objects" s_Store_objects f fd) (kl : Kl K C) (sl : Sl K C "rows" 1) : FnR P w K mg base CX0 1 f (spD K (sStoreObjects C CS)) := by
  refine fn_D F sc_Store_objects (fun _ _ _ _ _ _ us hl => match us, hl with | [_], _ => rfl) (fun ds μ Φ Ψ h => by obtain ⟨_, _, rfl, _⟩ := h; rfl) ?_
  have hN := sc_Store_objects.nd
  rintro cdv A outer s H E hr ds μ Φ Ψ ⟨ks, os, rfl, k⟩
  kqd_all
  refine we_at ?_
  kqd_all
  exact ⟨C, 1, _, insd_f rfl, kl, sl, k⟩
def sCheckStore (C CS : Addr) : Spec := fun ds μ Φ _ => ∃ (ks : List (List Fld)) (os : List Ob), ds = [stoD C CS ks os] ∧ Φ .non μ
theorem ok_check_store (F : Fd K "check_store" "check_store" s_check_store f fd) (T : Bn mg) (kl : Kl K C) (gS : Gc K mg "Store" (.ref C)) : FnR P w K mg base CX0 1 f (spD K (sCheckStore C CS)) := by
  refine fn_D F sc_check_store (fun _ _ _ _ _ _ us hl => match us, hl with | [_], _ => rfl) (fun ds μ Φ Ψ h => by obtain ⟨_, _, rfl, _⟩ := h; rfl) ?_
  have hN := sc_check_store.nd
  rintro cdv A outer s H E hr ds μ Φ Ψ ⟨ks, os, rfl, k⟩
  refine wb_one (ws_if (wt_not (wt_val ?_)))
  refine we_isiC T ?_
  kpc_obj
  refine we_glob gS ?_
  refine ⟨C, rfl, recv_f, kl, ?_⟩
  kqd_all
  all_goals exact k
end
end
section
section
variable {P : Program} {w : World} {K : PySem.W.Frag} {mg : Str → Option Value} {base : Heap} {f : Addr} {fd : FuncData} {C CS : Addr}
/-- cell in store -/
def sStoreIn (C CS : Addr) : Spec := fun ds μ Φ _ => ∃ (ks : List (List Fld)) (os : List Ob) (c : Cl), ds = [stoD C CS ks os, clD c] ∧ letter c.2 ∧ Φ (.bl (lkT (tabK ks os) (tabV ks os) (clK c.1 c.2)).isSome) μ
theorem ok_Store_in (F : Fd K "__contains__" "Store.__contains__" s_Store_xcontains f fd) (T : Bn mg) (kl : Kl K C) (sl : Sl K C "table" 2) (c_number : Cal P w K mg base 1 "is_number" sIsNumber) (c_name : Cal P w K mg base 1 "is_name" sIsName) : FnR P w K mg base CX0 2 f (spD K (sStoreIn C CS)) := by
  refine fn_D F sc_Store_xcontains (fun _ _ _ _ _ _ us hl => match us, hl with | [_, _], _ => rfl) (fun ds μ Φ Ψ h => by obtain ⟨_, _, _, rfl, _⟩ := h; rfl) ?_
  have hN := sc_Store_xcontains.nd
  rintro cdv A outer s H E hr ds μ Φ Ψ ⟨ks, os, c, rfl, hl, k⟩
  kqd_all
  refine we_call c_number (hr.mono (by decide)) ?_
  kqd_all
  refine .inl ⟨_, 0, none, rfl, .inl ⟨(c.1 : Int), rfl, ?_⟩⟩
  have e : (decide ((0 : Int) ≤ (c.1 : Int)) && (match (none : Option Int) with | none => true | some h => decide ((c.1 : Int) ≤ h))) = true := by simp
  rw [e]
  kqd_all
  refine we_call c_name (hr.mono (by decide)) ?_
  kqd_all
  refine ⟨c.2, rfl, hl.1, hl.2, ?_⟩
  kqd_all
  refine we_cmp (op := .In) (op_inDT (by assumption)) ?_
  kqd_all
  refine we_at ?_
  kqd_all
  refine ⟨C, 2, _, insd_f rfl, kl, sl, ?_⟩
  refine rd_inDT (x := clK c.1 c.2) ?_
  simpa using k
/-- store[cell] -/
def sStoreGet (C CS : Addr) : Spec := fun ds μ Φ _ => ∃ (ks : List (List Fld)) (os : List Ob) (c : Cl) (d : D), ds = [stoD C CS ks os, clD c] ∧ letter c.2 ∧ lkT (tabK ks os) (tabV ks os) (clK c.1 c.2) = some d ∧ Φ d μ
theorem ok_Store_get (F : Fd K "__getitem__" "Store.__getitem__" s_Store_xgetitem f fd) (T : Bn mg) (kl : Kl K C) (sl : Sl K C "table" 2) (m_in : Om CX0 P w K mg base 2 C "__contains__" (sStoreIn C CS)) : FnR P w K mg base CX0 3 f (spD K (sStoreGet C CS)) := by
  refine fn_D F sc_Store_xgetitem (fun _ _ _ _ _ _ us hl => match us, hl with | [_, _], _ => rfl) (fun ds μ Φ Ψ h => by obtain ⟨_, _, _, _, rfl, _⟩ := h; rfl) ?_
  have hN := sc_Store_xgetitem.nd
  rintro cdv A outer s H E hr ds μ Φ Ψ ⟨ks, os, c, d, rfl, hl, hd, k⟩
  kqd_all
  refine wt_notInO m_in (hr.mono (by decide)) ?_
  kqd_all
  refine ⟨recv_f, ks, os, c, rfl, hl, ?_⟩
  rw [hd]
  kpc_obj
  refine it_f ?_
  refine wb_nil ?_
  refine wb_one (ws_ret ?_)
  refine we_ix (ix_DT (by assumption)) ?_
  refine we_at ?_
  kqd_all
  refine ⟨C, 2, _, insd_f rfl, kl, sl, ?_⟩
  kqd_all
  exact rd_ixDT (x := clK c.1 c.2) hd k
end
end
section
theorem nodup_flat {α β : Type} {f : α → List β} : ∀ {l : List α}, (∀ x ∈ l, (f x).Nodup) → l.Pairwise (fun x y => ∀ a ∈ f x, ∀ b ∈ f y, a ≠ b) → (l.flatMap f).Nodup
  | [], _, _ => by simp
  | x :: l, h, p => by
    rw [List.flatMap_cons, List.nodup_append]
    rw [List.pairwise_cons] at p
    refine ⟨h x List.mem_cons_self, nodup_flat (fun y hy => h y (List.mem_cons_of_mem _ hy)) p.2, fun a ha b hb => ?_⟩
    obtain ⟨y, hy, hb⟩ := List.mem_flatMap.mp hb
    exact p.1 y hy a ha b hb
theorem zipIdx_pw {α : Type} : ∀ (l : List α) (n : Nat), (l.zipIdx n).Pairwise (fun x y => x.2 ≠ y.2)
  | [], _ => .nil
  | x :: l, n => by
    rw [List.zipIdx_cons, List.pairwise_cons]
    refine ⟨fun y hy => ?_, zipIdx_pw l (n + 1)⟩
    have := List.le_snd_of_mem_zipIdx hy
    show n ≠ y.2
    omega
theorem flds_le {ks : List (List Fld)} {os : List Ob} (hks : KindsOk ks) (hos : ObjsOk ks os) : ∀ x ∈ os.zipIdx 0, (fldsT ks x).length ≤ 3 := fun x hx => by
  have h := List.mem_zipIdx' hx
  obtain ⟨fs, hfs, _⟩ := hos.each x.1 (h.2 ▸ List.getElem_mem _)
  unfold fldsT
  rw [hfs, List.length_zip]
  have := (hks.each _ (List.mem_of_getElem? hfs)).few
  show min fs.length _ ≤ 3
  omega
theorem flat_le {α β : Type} {n : Nat} {f : α → List β} : ∀ {l : List α}, (∀ x ∈ l, (f x).length ≤ n) → (l.flatMap f).length ≤ l.length * n
  | [], _ => by simp
  | x :: l, h => by
    rw [List.flatMap_cons, List.length_append, List.length_cons, Nat.succ_mul]
    have h1 := h x List.mem_cons_self
    have h2 := flat_le (l := l) fun y hy => h y (List.mem_cons_of_mem _ hy)
    omega
theorem tab_len {ks : List (List Fld)} {os : List Ob} (hks : KindsOk ks) (hos : ObjsOk ks os) : ((os.zipIdx 0).flatMap (fldsT ks)).length ≤ 1000 := by
  have h := flat_le (flds_le hks hos)
  rw [List.length_zipIdx] at h
  have := hos.few
  omega
theorem tab_nodup {ks : List (List Fld)} {os : List Ob} (hks : KindsOk ks) (hos : ObjsOk ks os) : ((os.zipIdx 0).flatMap fun x => (fldsT ks x).map fun y => clK x.2 y.1.nm).Nodup := by
  refine nodup_flat (fun x hx => ?_) ?_
  · have h := List.mem_zipIdx' hx
    obtain ⟨fs, hfs, hfit⟩ := hos.each x.1 (h.2 ▸ List.getElem_mem _)
    have hd := (hks.each _ (List.mem_of_getElem? hfs)).dis
    have hl := hfit.length
    have e : (fldsT ks x).map (fun y => clK x.2 y.1.nm) = (fs.map Fld.nm).map (clK x.2) := by
      unfold fldsT
      rw [hfs]
      show ((fs.zip x.1.2).map _) = _
      rw [List.map_map]
      conv => rhs; rw [← List.map_fst_zip (l₁ := fs) (l₂ := x.1.2) (by omega)]
      rw [List.map_map]
      rfl
    rw [e]
    refine List.Pairwise.map _ (fun a b hab he => hab ?_) hd
    simpa [clK] using he
  · refine (zipIdx_pw os 0).imp fun {x y} hne a ha b hb he => hne ?_
    obtain ⟨u, _, rfl⟩ := List.mem_map.mp ha
    obtain ⟨v, _, rfl⟩ := List.mem_map.mp hb
    have := List.cons.inj he
    have h2 := Sum.inl.inj this.1
    omega
section
variable {P : Program} {w : World} {K : PySem.W.Frag} {mg : Str → Option Value} {base : Heap} {f : Addr} {fd : FuncData} {C CS : Addr}
def sStoreInit (C CS : Addr) : Spec := fun ds μ Φ _ => ∃ (q : Addr) (ks : List (List Fld)) (os : List Ob) (g : M → Mu), ds = [.ref q, schD CS ks, objsD os] ∧ KindsOk ks ∧ ObjsOk ks os ∧ AtF μ q (.ins C []) g ∧ Φ .non (g (.ins C [some (schD CS ks), some (objsD os), some (.dcT (tabK ks os) (tabV ks os))]))
theorem ok_Store_init (F : Fd K "__init__" "Store.__init__" s_Store_xinit f fd) (T : Bn mg) (kl : Kl K C) (sl0 : Sl K C "plan" 0) (sl1 : Sl K C "rows" 1) (sl2 : Sl K C "table" 2) (klS : Kl K CS) (p_kinds : Pr P w K mg base 1 CS "kinds" (sSchemaKinds CS)) (c_check : Cal P w K mg base 1 "check_schema" (sCheckSchema CS)) (c_object : Cal P w K mg base 6 "is_object" (sIsObject CS)) : FnR P w K mg base CX0 7 f (spD K (sStoreInit C CS)) := by
  refine fn_D F sc_Store_xinit (fun _ _ _ _ _ _ us hl => match us, hl with | [_, _, _], _ => rfl) (fun ds μ Φ Ψ h => by obtain ⟨_, _, _, _, rfl, _⟩ := h; rfl) ?_
  have hN := sc_Store_xinit.nd
  rintro cdv A outer s H E hr ds μ Φ Ψ ⟨q, ks, os, g, rfl, hks, hos, pk, k⟩
  kqd_all
  refine we_call c_check (hr.mono (by decide)) ?_
  kqd_all
  refine ⟨ks, rfl, ?_⟩
  kqd_all
  rw [List.length_map]
  have h1 : 1 ≤ os.length := by obtain ⟨vs, rest, e⟩ := hos.hd; rw [e]; simp
  have h6 := hos.few
  refine it_yes (by omega) ?_
  kqd_all
  have e6 : decide ((os.length : Int) ≤ 6) = true := by simp; omega
  rw [e6]
  kqd_all
  refine ws_forL (α := Unit) (β := Ob × Nat) [3, 4] [3, 4] (fun p => .tup [.int (p.2 : Nat), objD p.1]) (fun _ => [some (.ref q), some (schD CS ks), some (objsD os), none, none, none, none, none, none]) (fun _ => μ) (fun rest _ => ∀ p ∈ rest, p.1 ∈ os ∧ (p.2 = 0 → p.1.1 = 0)) PassesOwn.never rfl ?_ ?_ ?_
  · refine wi_enumT T ?_
    kqd_all
    refine ⟨_, rfl, os.zipIdx 0, enumD_map objD os 0, (), rfl, rfl, fun p hp => ?_⟩
    have hp2 := List.mem_zipIdx' hp
    refine ⟨hp2.2 ▸ List.getElem_mem _, fun h0 => ?_⟩
    obtain ⟨vs, rest, e⟩ := hos.hd
    rw [hp2.2]
    simp [h0, e]
  · rintro x rest _ hsub
    obtain ⟨hx1, hx2⟩ := hsub x List.mem_cons_self
    obtain ⟨fs, hfs, hfit⟩ := hos.each _ hx1
    kqd_all
    refine we_call c_object (hr.mono (by decide)) ?_
    kqd_all
    have hlt : ∀ o ∈ os, o.1 < ks.length := fun o ho => by
      obtain ⟨f2, h2, _⟩ := hos.each o ho
      exact (List.getElem?_eq_some_iff.mp h2).1
    refine ⟨ks, os, x.1, fs, rfl, hks.few, hlt, hfs, (hks.each _ (List.mem_of_getElem? hfs)).few, hfit, ?_⟩
    refine bl_i ?_
    refine it_f ?_
    kqd_all
    by_cases h0 : x.2 = 0
    · refine it_yes (by omega) ?_
      kqd_all
      rw [hx2 h0]
      refine it_noN rfl ?_
      kqd_all
      exact ⟨(), rfl, rfl, fun p hp => hsub p (List.mem_cons_of_mem _ hp)⟩
    · refine it_no (by omega) ?_
      kqd_all
      exact ⟨(), rfl, rfl, fun p hp => hsub p (List.mem_cons_of_mem _ hp)⟩
  · rintro _ _
    kpc_obj
    refine ws_at ?_
    kpc_obj
    refine ⟨q, C, 0, _, _, rfl, pk.at _, kl, sl0, ?_⟩
    kpc_obj
    refine ws_at ?_
    kpc_obj
    refine ⟨q, C, 1, _, _, rfl, (pk.again _).at _, kl, sl1, ?_⟩
    kpc_obj
    refine ws_at ?_
    kpc_obj
    refine we_dc2 (β := Ob × Nat) (γ := Fld × Val) [("index", 3), ("kind", 5), ("values", 6), ("field", 7), ("value", 8)] [7, 8] (fun p => .tup [.int (p.2 : Nat), objD p.1]) (fun p => .tup [fldD p.1, valD p.2]) (fldsT ks) (fun x y => clK x.2 y.1.nm) (fun x y => valD y.2) (os.zipIdx 0) (by kp_flats) (by assumption) (by exact Nat.lt_of_le_of_lt (Nat.add_le_add_left (by decide : 1 ≤ 65) _) (room65 hr)) rfl (by kpc_if) (by decide) ?_ ?_ ?_ ?_ ?_
    · refine wi_enumT T ?_
      kqd_all
      exact ⟨_, rfl, enumD_map objD os 0, rfl⟩
    · exact tab_len hks hos
    · exact tab_nodup hks hos
    · rintro x hx Y ⟨s1, H1, C1, cl1, fp1, rfl⟩ ν
      kqd_all
      obtain ⟨hx0, hx2⟩ := List.mem_zipIdx' hx
      have hxm : x.1 ∈ os := hx2 ▸ List.getElem_mem _
      obtain ⟨fs, hfs, hfit⟩ := hos.each _ hxm
      have hfl : fldsT ks x = fs.zip x.1.2 := by unfold fldsT; rw [hfs]; rfl
      refine ⟨rfl, ?_, ?_⟩
      · rintro Y ⟨s1, H1, C1, cl1, fp1, rfl⟩
        refine wi_zipT T ?_
        refine we_ix ix_seq ?_
        refine we_prop p_kinds klS (hr.mono (by decide)) ?_
        kqd_all
        refine ⟨recv_f, ks, rfl, ?_⟩
        kqd_all
        refine rd_ixT (d := kindD fs) (atI_nat (by rw [List.getElem?_map, hfs]; rfl)) ?_
        kqd_all
        exact ⟨_, _, rfl, rfl, rfl, by rw [hfl]; exact zipD_map fldD valD fs x.1.2⟩
      · rintro y hy Y ⟨s1, H1, C1, cl1, fp1, rfl⟩ ν
        kqd_all
        rintro Y ⟨s1, H1, C1, cl1, fp1, rfl⟩
        kqd_all
        refine ⟨rfl, rfl, ?_⟩
        rintro Y ⟨s1, H1, C1, cl1, fp1, rfl⟩
        kqd_all
        refine ⟨rfl, rfl, by show 2 ≤ 1000; omega, ?_⟩
        rintro Y ⟨s1, H1, C1, cl1, fp1, rfl⟩
        kqd_all
        exact ⟨rfl, rfl⟩
    · kpc_obj
      exact ⟨q, C, 2, _, _, rfl, (pk.again _).at _, kl, sl2, wb_nil k⟩
end
end
section
/-- the cells of a store -/
def hasC (ks : List (List Fld)) (os : List Ob) (c : Cl) : Bool := (lkT (tabK ks os) (tabV ks os) (clK c.1 c.2)).isSome
def stoC (ks : List (List Fld)) (os : List Ob) : List Cl := (List.range os.length).flatMap fun i => (lets.filter fun c => hasC ks os (i, c)).map fun c => (i, c)
section
variable {P : Program} {w : World} {K : PySem.W.Frag} {mg : Str → Option Value} {base : Heap} {f : Addr} {fd : FuncData} {C CS : Addr}
def sStoreCells (C CS : Addr) : Spec := fun ds μ Φ _ => ∃ (ks : List (List Fld)) (os : List Ob), ds = [stoD C CS ks os] ∧ os.length ≤ 6 ∧ Φ (.lst ((stoC ks os).map clD)) μ
theorem ok_Store_cells (F : Fd K "cells" "Store.cells" s_Store_cells f fd) (T : Bn mg) (kl : Kl K C) (sl1 : Sl K C "rows" 1) (sl2 : Sl K C "table" 2) (g4 : Gc K mg "NAMES" (.str (Str.ofString "abcdef"))) : FnR P w K mg base CX0 1 f (spD K (sStoreCells C CS)) := by
  refine fn_D F sc_Store_cells (fun _ _ _ _ _ _ us hl => match us, hl with | [_], _ => rfl) (fun ds μ Φ Ψ h => by obtain ⟨_, _, rfl, _⟩ := h; rfl) ?_
  have hN := sc_Store_cells.nd
  rintro cdv A outer s H E hr ds μ Φ Ψ ⟨ks, os, rfl, hl, k⟩
  kqd_all
  refine we_lc2 (β := Nat) (γ := Nat) [("index", 1), ("name", 2)] [2] (fun i => .int (0 + (i : Nat))) Nm (fun _ => lets) (fun i c => hasC ks os (i, c)) (fun n c => clD (n, c)) (List.range os.length) (by kp_flats) (by assumption) rfl (by kpc_if) (by decide) ?_ ?_ ?_ ?_
  · refine wi_range T ?_
    kqd_all
    refine we_at ?_
    kqd_all
    refine ⟨C, 1, _, insd_f rfl, kl, sl1, ?_⟩
    kqd_all
    rw [List.length_map]
    exact ⟨by omega, by omega, by rw [Int.toNat_natCast], rfl⟩
  · have h := flat_le (l := List.range os.length) (f := fun _ => lets) (n := 6) fun _ _ => by decide
    rw [List.length_range] at h
    omega
  · rintro x hx Y ⟨s1, H1, C1, cl1, fp1, rfl⟩ ν
    kqd_all
    refine ⟨rfl, ?_, ?_⟩
    · rintro Y ⟨s1, H1, C1, cl1, fp1, rfl⟩
      refine wi_str ?_
      refine we_glob g4 ?_
      exact ⟨_, rfl, rfl, rfl⟩
    · rintro y hy Y ⟨s1, H1, C1, cl1, fp1, rfl⟩ ν
      kqd_all
      rintro Y ⟨s1, H1, C1, cl1, fp1, rfl⟩
      refine wts_one (wt_cmp (op := .In) (op_inDT (by assumption)) ?_)
      kqd_all
      refine we_at ?_
      kqd_all
      refine ⟨C, 2, _, insd_f rfl, kl, sl2, ?_⟩
      refine rd_inDT (x := [Sum.inl (0 + (x : Int)), Sum.inr ⟨#[y]⟩]) (bl_i ⟨rfl, ?_, fun _ => ?_⟩)
      · show ((lkT (tabK ks os) (tabV ks os) ([Sum.inl (0 + (x : Int)), Sum.inr ⟨#[y]⟩])).isSome != false) = _
        rw [Int.zero_add]
        simp [hasC, clK]
      · rintro Y ⟨s1, H1, C1, cl1, fp1, rfl⟩
        kqd_all
        exact ⟨rfl, by simp⟩
  · unfold stoC at k
    rw [List.map_flatMap] at k
    simp only [List.map_map] at k
    exact k
end
end
section
/-! ### what is answered -/
inductive An where
  | non | num (n : Nat) | lst (xs : List An) | obj (ks : List Nat) (xs : List An)
def An.lost : An → Bool
  | .non => true | _ => false
/-- the field of a name -/
def fldAt (ks : List (List Fld)) (kd nm : Nat) : Fld := (((ks[kd]?).getD []).find? fun f => decide (f.nm = nm)).getD ⟨nm, none, .one, false, none⟩
/-- the value of a cell -/
def valAt (ks : List (List Fld)) (o : Ob) (nm : Nat) : Val := (((((ks[o.1]?).getD []).zip o.2).find? fun p => decide (p.1.nm = nm)).map (·.2)).getD (.one 0)
/-- what a list gives: none, it is lost -/
def lsA (fm : Fmk) : List An → Option (List An)
  | [] => some []
  | x :: xs => if x.lost = true ∧ fm = .all then none else if x.lost = true ∧ fm ≠ .gaps then lsA fm xs else (lsA fm xs).map (x :: ·)
def lsB (fm : Fmk) (xs : List An) : An := match lsA fm xs with | none => .non | some ys => .lst ys
structure Wd where
  ks : List (List Fld)
  os : List Ob
def Wd.ob (W : Wd) (n : Nat) : Ob := (W.os[n]?).getD (0, [])
mutual
/-- what an object gives -/
def askO (W : Wd) (F : List Cl) (n : Nat) : List Pt → Option (List An)
  | [] => some []
  | p :: ps =>
    let f := fldAt W.ks (W.ob n).1 p.nm
    let v := askF W F n f p
    let v := if v.lost = true then (match f.sp with | none => v | some s => askF W F n (fldAt W.ks (W.ob n).1 s) p) else v
    if v.lost = true ∧ f.mus = true then none else (askO W F n ps).map (v :: ·)
/-- what a field gives -/
def askF (W : Wd) (F : List Cl) (n : Nat) (f : Fld) : Pt → An
  | .leaf _ => if (n, f.nm) ∈ F then .non else match valAt W.ks (W.ob n) f.nm with
    | .one k => .num k
    | .many ns => .lst (ns.map .num)
  | .node _ qs => if (n, f.nm) ∈ F then .non else match valAt W.ks (W.ob n) f.nm with
    | .one k => match askO W F k qs with | none => .non | some xs => .obj (qs.map Pt.nm) xs
    | .many ns => lsB f.fm (ns.map fun k => match askO W F k qs with | none => .non | some xs => .obj (qs.map Pt.nm) xs)
end
/-- .. as an answer -/
def askA (W : Wd) (F : List Cl) (n : Nat) (ps : List Pt) : An := match askO W F n ps with | none => .non | some xs => .obj (ps.map Pt.nm) xs
abbrev nmK (c : Nat) : Key := Sum.inr ⟨#[c]⟩
mutual
def anD : An → D
  | .non => .non
  | .num n => .int (n : Nat)
  | .lst xs => .lst (anDs xs)
  | .obj ks xs => .dct (ks.map nmK) (anDs xs)
def anDs : List An → List D
  | [] => []
  | x :: xs => anD x :: anDs xs
end
theorem anDs_map : ∀ xs : List An, anDs xs = xs.map anD
  | [] => by rw [anDs]; rfl
  | x :: xs => by rw [anDs, anDs_map xs]; rfl
theorem anD_lst (xs : List An) : anD (.lst xs) = .lst (xs.map anD) := by rw [anD, anDs_map]
theorem anD_obj (ks : List Nat) (xs : List An) : anD (.obj ks xs) = .dct (ks.map nmK) (xs.map anD) := by rw [anD, anDs_map]
theorem anD_num (n : Nat) : anD (.num n) = .int (n : Nat) := by rw [anD]
theorem anD_non : anD .non = .non := by rw [anD]
theorem isn_an (x : An) : isNonD (anD x) = x.lost := by
  cases x <;> simp only [anD, isNonD, An.lost]
theorem lost_iff {x : An} : x.lost = true ↔ x = .non := by cases x <;> simp [An.lost]
/-! ### how many cells may be asked -/
mutual
def wP : Pt → Nat
  | .leaf _ => 2
  | .node _ ps => 2 + 6 * wPs ps
def wPs : List Pt → Nat
  | [] => 0
  | p :: ps => wP p + wPs ps
end
mutual
theorem wP_le : ∀ (p : Pt) (l : Nat), lvP p ≤ l → wP p ≤ 2 * 6 ^ l * szP p
  | .leaf _, l, _ => by
    rw [wP, szP]
    have : 1 ≤ 6 ^ l := Nat.one_le_pow _ _ (by omega)
    omega
  | .node _ ps, l, h => by
    rw [lvP] at h
    obtain ⟨l', rfl⟩ : ∃ l', l = l' + 1 := ⟨l - 1, by omega⟩
    have ih := wPs_le ps l' (by omega)
    rw [wP, szP]
    have h1 : 1 ≤ 6 ^ (l' + 1) := Nat.one_le_pow _ _ (by omega)
    have h2 : 6 * (2 * 6 ^ l' * szPs ps) = 2 * 6 ^ (l' + 1) * szPs ps := by rw [Nat.pow_succ]; simp only [Nat.mul_comm, Nat.mul_left_comm]
    have h3 : 2 * 6 ^ (l' + 1) * (1 + szPs ps) = 2 * 6 ^ (l' + 1) + 2 * 6 ^ (l' + 1) * szPs ps := by rw [Nat.mul_add, Nat.mul_one]
    omega
theorem wPs_le : ∀ (ps : List Pt) (l : Nat), mxP ps ≤ l → wPs ps ≤ 2 * 6 ^ l * szPs ps
  | [], l, _ => by rw [wPs]; omega
  | p :: ps, l, h => by
    rw [mxP] at h
    have h1 := wP_le p l (by omega)
    have h2 := wPs_le ps l (by omega)
    rw [wPs, szPs, Nat.mul_add]
    omega
end
theorem wP_node (n : Nat) (ps : List Pt) : wP (.node n ps) = 2 + 6 * wPs ps := by rw [wP]
theorem wP_leaf (n : Nat) : wP (.leaf n) = 2 := by rw [wP]
theorem wP_two (p : Pt) : 2 ≤ wP p := by cases p <;> rw [wP] <;> omega
theorem wPs_cons (p : Pt) (ps : List Pt) : wPs (p :: ps) = wP p + wPs ps := by rw [wPs]
/-! ### fields and values -/
theorem find_nm {fs : List Fld} {f : Fld} (hf : f ∈ fs) (hd : (fs.map Fld.nm).Nodup) : fs.find? (fun x => decide (x.nm = f.nm)) = some f := by
  induction fs with
  | nil => cases hf
  | cons x r ih =>
    rw [List.map_cons, List.nodup_cons] at hd
    rw [List.find?_cons]
    rcases List.mem_cons.mp hf with e | h
    · subst e; simp
    · have ne : x.nm ≠ f.nm := fun e => hd.1 (List.mem_map.mpr ⟨f, h, e.symm⟩)
      simp [ne, ih h hd.2]
theorem fldAt_of {ks : List (List Fld)} (hks : KindsOk ks) {kd : Nat} {fs : List Fld} {f : Fld} (h : ks[kd]? = some fs) (hf : f ∈ fs) : fldAt ks kd f.nm = f := by
  unfold fldAt
  rw [h]
  show (fs.find? _).getD _ = f
  rw [find_nm hf (hks.each fs (List.mem_of_getElem? h)).dis]
  rfl
theorem fits_find {sorts : List Nat} {f : Fld} : ∀ {fs : List Fld} {vs : List Val}, Fits sorts fs vs → (fs.map Fld.nm).Nodup → f ∈ fs → ∃ v, (fs.zip vs).find? (fun p => decide (p.1.nm = f.nm)) = some (f, v) ∧ (vs.zip fs).filter (fun p => decide (p.2.nm = f.nm)) = [(v, f)] ∧ FitV sorts f v ∧ (f, v) ∈ fs.zip vs
  | _, _, .nil, _, h => by cases h
  | _, _, @Fits.cons _ g v fs vs hv ht, hd, h => by
    rw [List.map_cons, List.nodup_cons] at hd
    rw [List.zip_cons_cons, List.zip_cons_cons, List.find?_cons, List.filter_cons]
    rcases List.mem_cons.mp h with e | h
    · subst e
      refine ⟨v, by simp, ?_, hv, by simp⟩
      rw [if_pos (by simp)]
      congr 1
      refine List.filter_eq_nil_iff.mpr fun y hy => ?_
      simp only [decide_eq_true_eq]
      exact fun e => hd.1 (List.mem_map.mpr ⟨y.2, (List.of_mem_zip (a := y.1) (b := y.2) hy).2, e⟩)
    · have ne : g.nm ≠ f.nm := fun e => hd.1 (List.mem_map.mpr ⟨f, h, e.symm⟩)
      obtain ⟨v', h1, h2, h3, h4⟩ := fits_find ht hd.2 h
      exact ⟨v', by simp [ne, h1], by rw [if_neg (by simpa using ne)]; exact h2, h3, List.mem_cons_of_mem _ h4⟩
theorem lkT_map {γ : Type} (kf : γ → List Key) (vf : γ → D) : ∀ {L : List γ} {z : γ}, (L.map kf).Nodup → z ∈ L → lkT (L.map kf) (L.map vf) (kf z) = some (vf z)
  | [], _, _, h => by cases h
  | x :: L, z, hd, h => by
    rw [List.map_cons, List.nodup_cons] at hd
    rw [List.map_cons, List.map_cons, lkT]
    rcases List.mem_cons.mp h with e | h
    · subst e; rw [if_pos rfl]
    · rw [if_neg (fun (e : kf x = kf z) => hd.1 (by rw [e]; exact List.mem_map.mpr ⟨z, h, rfl⟩))]
      exact lkT_map kf vf hd.2 h
theorem cell_val {ks : List (List Fld)} {os : List Ob} (hks : KindsOk ks) (hos : ObjsOk ks os) {n : Nat} {o : Ob} {fs : List Fld} {f : Fld} (ho : os[n]? = some o) (hfs : ks[o.1]? = some fs) (hf : f ∈ fs) :
    FitV (os.map (·.1)) f (valAt ks o f.nm) ∧ lkT (tabK ks os) (tabV ks os) (clK n f.nm) = some (valD (valAt ks o f.nm)) ∧ (o.2.zip fs).filter (fun p => decide (p.2.nm = f.nm)) = [(valAt ks o f.nm, f)] := by
  obtain ⟨fs', hfs', hfit⟩ := hos.each o (List.mem_of_getElem? ho)
  rw [hfs] at hfs'
  cases hfs'
  obtain ⟨v, h1, h2, h3, h4⟩ := fits_find hfit (hks.each fs (List.mem_of_getElem? hfs)).dis hf
  have ev : valAt ks o f.nm = v := by
    unfold valAt
    rw [hfs]
    show (((fs.zip o.2).find? _).map _).getD _ = v
    rw [h1]
    rfl
  rw [ev]
  refine ⟨h3, ?_, h2⟩
  have hx : (o, n) ∈ os.zipIdx 0 := by
    obtain ⟨hl, hv⟩ := List.getElem?_eq_some_iff.mp ho
    refine List.mem_iff_getElem.mpr ⟨n, by rw [List.length_zipIdx]; exact hl, ?_⟩
    rw [List.getElem_zipIdx, hv]
    simp
  have hy : (f, v) ∈ fldsT ks (o, n) := by
    unfold fldsT
    show (f, v) ∈ ((ks[o.1]?).getD []).zip o.2
    rw [hfs]
    exact h4
  have e1 : tabK ks os = ((os.zipIdx 0).flatMap fun x => (fldsT ks x).map fun y => (x, y)).map fun z => clK z.1.2 z.2.1.nm := by
    unfold tabK
    rw [List.map_flatMap]
    simp only [List.map_map]
    rfl
  have e2 : tabV ks os = ((os.zipIdx 0).flatMap fun x => (fldsT ks x).map fun y => (x, y)).map fun z => valD z.2.2 := by
    unfold tabV
    rw [List.map_flatMap]
    simp only [List.map_map]
    rfl
  have hnd := tab_nodup hks hos
  have hnd' : (((os.zipIdx 0).flatMap fun x => (fldsT ks x).map fun y => (x, y)).map fun z : (Ob × Nat) × (Fld × Val) => clK z.1.2 z.2.1.nm).Nodup := by
    rw [← e1]; exact hnd
  rw [e1, e2]
  exact lkT_map (fun z : (Ob × Nat) × (Fld × Val) => clK z.1.2 z.2.1.nm) (fun z => valD z.2.2) (z := ((o, n), (f, v))) hnd' (List.mem_flatMap.mpr ⟨_, hx, List.mem_map.mpr ⟨_, hy, rfl⟩⟩)

/-! ### what an answer looks like -/
def itOk : Nat → An → Prop
  | _, .non => True
  | _, .num n => n ≤ 9
  | _, .lst _ => False
  | 0, .obj _ _ => False
  | l + 1, .obj ks xs => ks ≠ [] ∧ ks.length ≤ 3 ∧ xs.length = ks.length ∧ ks.Nodup ∧ (∀ c ∈ ks, letter c) ∧ ∀ x ∈ xs, match x with
    | .lst ys => ys.length ≤ 3 ∧ ∀ y ∈ ys, itOk l y
    | x => itOk l x
def lfOk (l : Nat) (x : An) : Prop := match x with
  | .lst ys => ys.length ≤ 3 ∧ ∀ y ∈ ys, itOk l y
  | x => itOk l x
theorem itOk_obj {l : Nat} {ks : List Nat} {xs : List An} : itOk (l + 1) (.obj ks xs) ↔ ks ≠ [] ∧ ks.length ≤ 3 ∧ xs.length = ks.length ∧ ks.Nodup ∧ (∀ c ∈ ks, letter c) ∧ ∀ x ∈ xs, lfOk l x := by
  simp only [itOk]
  rfl
theorem lf_non {l : Nat} : lfOk l .non := by cases l <;> exact True.intro
theorem it_non {l : Nat} : itOk l .non := by cases l <;> exact True.intro
theorem it_num {l n : Nat} (h : n ≤ 9) : itOk l (.num n) := by cases l <;> exact h
theorem lf_num {l n : Nat} (h : n ≤ 9) : lfOk l (.num n) := it_num (l := l) h
theorem it_lf {l : Nat} {x : An} (h : itOk l x) : lfOk l x := by
  cases x with
  | lst xs => cases l <;> exact h.elim
  | _ => exact h
theorem lsA_le {fm : Fmk} {P : An → Prop} : ∀ {xs ys : List An}, lsA fm xs = some ys → (∀ x ∈ xs, P x) → ys.length ≤ xs.length ∧ ∀ y ∈ ys, P y
  | [], ys, e, h => by
    rw [lsA] at e
    cases e
    exact ⟨Nat.le_refl _, h⟩
  | x :: xs, ys, e, h => by
    rw [lsA] at e
    have h1 := h x List.mem_cons_self
    have h2 : ∀ y ∈ xs, P y := fun y hy => h y (List.mem_cons_of_mem _ hy)
    split at e
    · cases e
    · split at e
      · obtain ⟨a, b⟩ := lsA_le e h2
        exact ⟨by simp; omega, b⟩
      · cases hz : lsA fm xs with
        | none => rw [hz] at e; cases e
        | some zs =>
          rw [hz] at e
          cases e
          obtain ⟨a, b⟩ := lsA_le hz h2
          exact ⟨by simp; omega, fun y hy => by
            rcases List.mem_cons.mp hy with e | hy
            · rw [e]; exact h1
            · exact b y hy⟩
/-- a field of the same kind as a part's -/
def FitP (ks : List (List Fld)) (l : Nat) (f : Fld) : Pt → Prop
  | .leaf _ => f.tg = none
  | .node _ qs => ∃ l' t, l = l' + 1 ∧ f.tg = some t ∧ PsOk ks l' t qs
theorem pok_fit {ks : List (List Fld)} (hks : KindsOk ks) {l kd : Nat} {p : Pt} (h : POk ks l kd p) : ∃ fs f, ks[kd]? = some fs ∧ f ∈ fs ∧ f.nm = p.nm ∧ FitP ks l f p := by
  cases p with
  | leaf n =>
    obtain ⟨fs, f, h1, h2, h3, h4⟩ := pok_leaf_inv h
    exact ⟨fs, f, h1, h2, h3, h4⟩
  | node n qs =>
    obtain ⟨l', fs, f, t, h0, h1, h2, h3, h4, h5⟩ := pok_inner h
    exact ⟨fs, f, h1, h2, h3, l', t, h0, h4, h5⟩
theorem FitP.stand {ks : List (List Fld)} {l : Nat} {f g : Fld} {p : Pt} (h : FitP ks l f p) (s : g.tg = f.tg) : FitP ks l g p := by
  cases p with
  | leaf n => exact s.trans h
  | node n qs =>
    obtain ⟨l', t, h1, h2, h3⟩ := h
    exact ⟨l', t, h1, s.trans h2, h3⟩
/-- the spare of a field, if any, is a field that fits -/
theorem spare_fit {ks : List (List Fld)} (hks : KindsOk ks) {l kd s : Nat} {fs : List Fld} {f : Fld} {p : Pt} (h1 : ks[kd]? = some fs) (h2 : f ∈ fs) (h : FitP ks l f p) (hs : f.sp = some s) : ∃ g, g ∈ fs ∧ g.nm = s ∧ FitP ks l g p := by
  obtain ⟨g, hg, hn, hst⟩ := (hks.each fs (List.mem_of_getElem? h1)).sps f h2 s hs
  exact ⟨g, hg, hn, h.stand hst.2.1⟩
def obA (F : List Cl) (W : Wd) (qs : List Pt) (k : Nat) : An := match askO W F k qs with | none => .non | some xs => .obj (qs.map Pt.nm) xs
theorem askF_leaf {W : Wd} {F : List Cl} {n : Nat} {f : Fld} {m : Nat} : askF W F n f (.leaf m) = if (n, f.nm) ∈ F then .non else match valAt W.ks (W.ob n) f.nm with
    | .one k => .num k
    | .many ns => .lst (ns.map .num) := by rw [askF]
theorem askF_node {W : Wd} {F : List Cl} {n : Nat} {f : Fld} {m : Nat} {qs : List Pt} : askF W F n f (.node m qs) = if (n, f.nm) ∈ F then .non else match valAt W.ks (W.ob n) f.nm with
    | .one k => obA F W qs k
    | .many ns => lsB f.fm (ns.map (obA F W qs)) := by rw [askF]; rfl
/-- a part: its field, its spare, its mark -/
def askV (W : Wd) (F : List Cl) (n : Nat) (p : Pt) : An :=
  let f := fldAt W.ks (W.ob n).1 p.nm
  let v := askF W F n f p
  if v.lost = true then (match f.sp with | none => v | some s => askF W F n (fldAt W.ks (W.ob n).1 s) p) else v
theorem askO_cons {W : Wd} {F : List Cl} {n : Nat} {p : Pt} {ps : List Pt} : askO W F n (p :: ps) = if (askV W F n p).lost = true ∧ (fldAt W.ks (W.ob n).1 p.nm).mus = true then none else (askO W F n ps).map (askV W F n p :: ·) := by rw [askO]; rfl
theorem askO_nil {W : Wd} {F : List Cl} {n : Nat} : askO W F n [] = some [] := by rw [askO]
structure WOk (W : Wd) : Prop where
  ks : KindsOk W.ks
  os : ObjsOk W.ks W.os
theorem WOk.ob {W : Wd} (h : WOk W) {n kd : Nat} (e : (W.os.map (·.1))[n]? = some kd) : ∃ o, W.os[n]? = some o ∧ W.ob n = o ∧ o.1 = kd := by
  rw [List.getElem?_map] at e
  cases ho : W.os[n]? with
  | none => rw [ho] at e; cases e
  | some o =>
    rw [ho] at e
    exact ⟨o, rfl, by unfold Wd.ob; rw [ho]; rfl, Option.some.inj e⟩
theorem mem_ps {ks : List (List Fld)} {l kd : Nat} {ps : List Pt} (h : PsOk ks l kd ps) {p : Pt} (hp : p ∈ ps) : POk ks l kd p := h.each p hp
def FldSt (W : Wd) (F : List Cl) (l : Nat) : Prop := ∀ (p : Pt) (n kd : Nat) (fs : List Fld) (f : Fld), (W.os.map (·.1))[n]? = some kd → W.ks[kd]? = some fs → f ∈ fs → FitP W.ks l f p → lfOk l (askF W F n f p)
def ObjSt (W : Wd) (F : List Cl) (l : Nat) : Prop := ∀ (ps : List Pt) (n kd : Nat), (W.os.map (·.1))[n]? = some kd → PsOk W.ks l kd ps → itOk (l + 1) (obA F W ps n)
theorem ask_fld {W : Wd} (hW : WOk W) {F : List Cl} {l : Nat} (ih : ∀ l', l = l' + 1 → ObjSt W F l') : FldSt W F l := by
  intro p n kd fs f hn hfs hf hp
  obtain ⟨o, ho, eo, rfl⟩ := hW.ob hn
  obtain ⟨hv, _, _⟩ := cell_val hW.ks hW.os ho hfs hf
  cases p with
  | leaf m =>
    rw [askF_leaf, eo]
    split
    · exact lf_non
    · have ht : f.tg = none := hp
      cases e : valAt W.ks o f.nm with
      | one k =>
        rw [e] at hv
        have := hv.2
        unfold FitOne at this
        rw [ht] at this
        exact lf_num this
      | many ns =>
        rw [e] at hv
        refine ⟨by rw [List.length_map]; exact hv.2.1, fun y hy => ?_⟩
        obtain ⟨k, hk, rfl⟩ := List.mem_map.mp hy
        have := hv.2.2 k hk
        unfold FitOne at this
        rw [ht] at this
        exact it_num this
  | node m qs =>
    obtain ⟨l', t, rfl, ht, hq⟩ := hp
    rw [askF_node, eo]
    split
    · exact lf_non
    · cases e : valAt W.ks o f.nm with
      | one k =>
        rw [e] at hv
        have := hv.2
        unfold FitOne at this
        rw [ht] at this
        exact it_lf (ih l' rfl qs k t this hq)
      | many ns =>
        rw [e] at hv
        show lfOk (l' + 1) (lsB f.fm (ns.map (obA F W qs)))
        unfold lsB
        cases hy : lsA f.fm (ns.map (obA F W qs)) with
        | none => exact lf_non
        | some ys =>
          obtain ⟨h1, h2⟩ := lsA_le (P := itOk (l' + 1)) hy fun x hx => by
            obtain ⟨k, hk, rfl⟩ := List.mem_map.mp hx
            have := hv.2.2 k hk
            unfold FitOne at this
            rw [ht] at this
            exact ih l' rfl qs k t this hq
          rw [List.length_map] at h1
          have := hv.2.1
          exact ⟨by omega, h2⟩
theorem askV_ok {W : Wd} (hW : WOk W) {F : List Cl} {l n kd : Nat} {p : Pt} (hF : FldSt W F l) (hn : (W.os.map (·.1))[n]? = some kd) (h : POk W.ks l kd p) : lfOk l (askV W F n p) := by
  obtain ⟨fs, f, hfs, hf, hnm, hfit⟩ := pok_fit hW.ks h
  obtain ⟨o, ho, eo, rfl⟩ := hW.ob hn
  have ef : fldAt W.ks (W.ob n).1 p.nm = f := by rw [eo, ← hnm]; exact fldAt_of hW.ks hfs hf
  unfold askV
  rw [ef]
  show lfOk l (if (askF W F n f p).lost = true then (match f.sp with | none => askF W F n f p | some s => askF W F n (fldAt W.ks (W.ob n).1 s) p) else askF W F n f p)
  have h1 := hF p n o.1 fs f hn hfs hf hfit
  split
  · cases hs : f.sp with
    | none => exact h1
    | some s =>
      obtain ⟨g, hg, hgn, hgf⟩ := spare_fit hW.ks hfs hf hfit hs
      have eg : fldAt W.ks (W.ob n).1 s = g := by rw [eo, ← hgn]; exact fldAt_of hW.ks hfs hg
      show lfOk l (askF W F n (fldAt W.ks (W.ob n).1 s) p)
      rw [eg]
      exact hF p n o.1 fs g hn hfs hg hgf
  · exact h1
theorem askO_each {W : Wd} {F : List Cl} {n : Nat} : ∀ {ps : List Pt} {xs : List An}, askO W F n ps = some xs → xs = ps.map (askV W F n)
  | [], xs, e => by rw [askO_nil] at e; cases e; rfl
  | p :: ps, xs, e => by
    rw [askO_cons] at e
    split at e
    · cases e
    · cases h : askO W F n ps with
      | none => rw [h] at e; cases e
      | some ys =>
        rw [h] at e
        cases e
        rw [List.map_cons, askO_each h]
theorem ask_obj {W : Wd} (hW : WOk W) {F : List Cl} {l : Nat} (hF : FldSt W F l) : ObjSt W F l := by
  intro ps n kd hn hps
  unfold obA
  cases h : askO W F n ps with
  | none => exact it_non
  | some xs =>
    have ex := askO_each h
    refine itOk_obj.mpr ⟨by simpa using hps.ne, by simpa using hps.few, by rw [ex]; simp, hps.dis, fun c hc => ?_, fun x hx => ?_⟩
    · obtain ⟨p, hp, rfl⟩ := List.mem_map.mp hc
      exact pok_nm hW.ks (hps.each p hp)
    · rw [ex] at hx
      obtain ⟨p, hp, rfl⟩ := List.mem_map.mp hx
      exact askV_ok hW hF hn (hps.each p hp)
/-- what is asked is as it should be -/
theorem ask_ok {W : Wd} (hW : WOk W) (F : List Cl) : ∀ l : Nat, FldSt W F l ∧ ObjSt W F l
  | 0 => ⟨ask_fld hW (fun l' e => by omega), ask_obj hW (ask_fld hW (fun l' e => by omega))⟩
  | l + 1 => by
    have h1 : FldSt W F (l + 1) := ask_fld hW fun l' e => by cases (Nat.succ.inj e); exact (ask_ok hW F l).2
    exact ⟨h1, ask_obj hW h1⟩
end
section
/-! ### Walk -/
/-- the classes' addresses -/
structure Cs where
  S : Addr
  St : Addr
  F : Addr
  Q : Addr
  W : Addr
  A : Addr
  N : Addr
  Se : Addr
  B : Addr
abbrev wkD (c : Cs) (W : Wd) (Fs : List Cl) (t : Addr) : D := .ins c.W [faD c.F Fs, stoD c.St c.S W.ks W.os, .ref t]
def wF : Pt → Nat
  | .leaf _ => 1
  | .node _ qs => 1 + 3 * wPs qs
theorem wP_wF (p : Pt) : wP p = 2 * wF p := by
  cases p with
  | leaf n => rw [wP_leaf]; rfl
  | node n qs => rw [wP_node]; show _ = 2 * (1 + 3 * wPs qs); omega
abbrev trM (tr : List Cl) : M := .lst (tr.map clD)
section
variable {P : Program} {w : World} {K : PySem.W.Frag} {mg : Str → Option Value} {base : Heap} {f : Addr} {fd : FuncData} {c : Cs}
def sWalkInit (c : Cs) : Spec := fun ds μ Φ _ => ∃ (q : Addr) (s b : D) (g : M → Mu), ds = [.ref q, s, b] ∧ AtF μ q (.ins c.W []) g ∧ ∀ t, Φ .non ((t, .lst []) :: g (.ins c.W [some b, some s, some (.ref t)]))
theorem ok_Walk_init (F : Fd K "__init__" "Walk.__init__" s_Walk_xinit f fd) (kl : Kl K c.W) (sl0 : Sl K c.W "broken" 0) (sl1 : Sl K c.W "source" 1) (sl2 : Sl K c.W "trail" 2) : FnR P w K mg base CX0 1 f (spD K (sWalkInit c)) := by
  refine fn_D F sc_Walk_xinit (fun _ _ _ _ _ _ us hl => match us, hl with | [_, _, _], _ => rfl) (fun ds μ Φ Ψ h => by obtain ⟨_, _, _, _, rfl, _⟩ := h; rfl) ?_
  have hN := sc_Walk_xinit.nd
  rintro cdv A outer s0 H E hr ds μ Φ Ψ ⟨q, s, b, g, rfl, pk, k⟩
  refine wb_cons (ws_at ?_)
  kpc_obj
  refine ⟨q, c.W, 1, _, _, rfl, pk.at _, kl, sl1, ?_⟩
  refine wb_cons (ws_at ?_)
  kpc_obj
  refine ⟨q, c.W, 0, _, _, rfl, (pk.again _).at _, kl, sl0, ?_⟩
  refine wb_cons (ws_at ?_)
  refine we_lstM ?_
  kpc_obj
  intro t
  kpc_obj
  refine ⟨q, c.W, 2, _, _, rfl, .there ((pk.again _).at _), kl, sl2, ?_⟩
  exact wb_nil (k t)
/-- ask_field -/
def sAskFd (c : Cs) (l : Nat) : Spec := fun ds μ Φ _ => ∃ (t : Addr) (W : Wd) (Fs tr : List Cl) (n kd : Nat) (fs : List Fld) (f : Fld) (p : Pt) (g : M → Mu), ds = [wkD c W Fs t, .int (n : Nat), fldD f, innerD c.Q p] ∧ WOk W ∧ FOk Fs ∧ (W.os.map (·.1))[n]? = some kd ∧ W.ks[kd]? = some fs ∧ f ∈ fs ∧ FitP W.ks l f p ∧ AtF μ t (trM tr) g ∧ tr.length + wF p ≤ 900 ∧
  ∀ tr' : List Cl, tr'.length ≤ tr.length + wF p → Φ (anD (askF W Fs n f p)) (g (trM tr'))
/-- ask_object -/
def sAskOb (c : Cs) (l : Nat) : Spec := fun ds μ Φ _ => ∃ (t : Addr) (W : Wd) (Fs tr : List Cl) (n kd : Nat) (ps : List Pt) (g : M → Mu), ds = [wkD c W Fs t, .int (n : Nat), qD c.Q ps] ∧ WOk W ∧ FOk Fs ∧ (W.os.map (·.1))[n]? = some kd ∧ PsOk W.ks l kd ps ∧ AtF μ t (trM tr) g ∧ tr.length + wPs ps ≤ 900 ∧
  ∀ tr' : List Cl, tr'.length ≤ tr.length + wPs ps → Φ (anD (obA Fs W ps n)) (g (trM tr'))
/-- ask_list -/
def sAskLs (c : Cs) (l : Nat) : Spec := fun ds μ Φ _ => ∃ (t : Addr) (W : Wd) (Fs tr : List Cl) (ns : List Nat) (fm : Fmk) (kd : Nat) (ps : List Pt) (g : M → Mu), ds = [wkD c W Fs t, .tup (ns.map natD), .str fm.s, qD c.Q ps] ∧ WOk W ∧ FOk Fs ∧ ns.length ≤ 3 ∧ (∀ n ∈ ns, (W.os.map (·.1))[n]? = some kd) ∧ PsOk W.ks l kd ps ∧ AtF μ t (trM tr) g ∧ tr.length + 3 * wPs ps ≤ 900 ∧
  ∀ tr' : List Cl, tr'.length ≤ tr.length + 3 * wPs ps → Φ (anD (lsB fm (ns.map (obA Fs W ps)))) (g (trM tr'))
theorem field_body (F : Fd K "ask_field" "Walk.ask_field" s_Walk_ask_field f fd) (T : Bn mg) (kl : Kl K c.W) (sl0 : Sl K c.W "broken" 0) (sl1 : Sl K c.W "source" 1) (sl2 : Sl K c.W "trail" 2) (m_in : Om CX0 P w K mg base 3 c.F "__contains__" (sFaultsIn c.F)) (m_get : Om CX0 P w K mg base 3 c.St "__getitem__" (sStoreGet c.St c.S)) (l : Nat)
    (hO : ∀ l', l = l' + 1 → Om CX0 P w K mg base (6 + 3 * l' + 1) c.W "ask_object" (sAskOb c l')) (hL : ∀ l', l = l' + 1 → Om CX0 P w K mg base (6 + 3 * l' + 2) c.W "ask_list" (sAskLs c l')) : FnR P w K mg base CX0 (6 + 3 * l) f (spD K (sAskFd c l)) := by
  have e0 : 6 + 3 * l = (5 + 3 * l) + 1 := by omega
  rw [e0]
  refine fn_D F sc_Walk_ask_field (fun _ _ _ _ _ _ us hl => match us, hl with | [_, _, _, _], _ => rfl) (fun ds μ Φ Ψ h => by obtain ⟨_, _, _, _, _, _, _, _, _, _, rfl, _⟩ := h; rfl) ?_
  have hN := sc_Walk_ask_field.nd
  rintro cdv A outer s0 H E hr ds μ Φ Ψ ⟨t, W, Fs, tr, n, kd, fs, fl, p, g, rfl, hW, hF, hn, hfs, hfl, hfit, pk, hlen, k⟩
  obtain ⟨o, ho, eo, rfl⟩ := hW.ob hn
  obtain ⟨hv, hcell, _⟩ := cell_val hW.ks hW.os ho hfs hfl
  have hlet : letter fl.nm := (hW.ks.each fs (List.mem_of_getElem? hfs)).nms fl hfl
  have hw1 : 1 ≤ wF p := by cases p with
    | leaf m => exact Nat.le_refl 1
    | node m qs => show 1 ≤ 1 + 3 * wPs qs; omega
  obtain ⟨μ0, pk0⟩ := pk.pick
  refine wb_cons (ws_setn (by kp_flats) (by kqd_ok) (by assumption) ?_)
  kpc_obj
  refine we_at ?_
  kpc_obj
  refine ⟨c.W, 2, _, insd_f rfl, kl, sl2, t, _, _, rfl, pk0, ?_⟩
  kpc_obj
  refine ⟨_, _, pk.at _, by rw [List.length_map]; omega, ?_⟩
  have pk2 := pk.again (.lst (tr.map clD ++ [clD (n, fl.nm)]))
  have etr : M.lst (tr.map clD ++ [clD (n, fl.nm)]) = trM (tr ++ [(n, fl.nm)]) := by simp
  rw [etr] at pk2 ⊢
  refine wb_cons (ws_if (wt_inO m_in (hr.mono (by omega)) ?_))
  kpc_obj
  refine we_at ?_
  kpc_obj
  refine ⟨c.W, 0, _, insd_f rfl, kl, sl0, recv_f, Fs, (n, fl.nm), rfl, hlet, hF.ok, ?_⟩
  have fin : ∀ tr' : List Cl, tr'.length ≤ (tr ++ [(n, fl.nm)]).length + (wF p - 1) → Φ (anD (askF W Fs n fl p)) (g (trM tr')) := fun tr' h => k tr' (by simp at h; omega)
  refine bl_i (it_by (fun hin => ?_) fun hin => ?_)
  · kpc_obj
    have e : askF W Fs n fl p = .non := by cases p <;> simp only [askF_leaf, askF_node, if_pos hin]
    rw [e, anD_non] at fin
    exact fin _ (by omega)
  · refine wb_nil (wb_cons (ws_setn (by kp_flats) (by kqd_ok) (by assumption) ?_))
    refine we_ixO m_get (hr.mono (by omega)) ?_
    refine we_at ?_
    kpc_obj
    refine ⟨c.W, 1, _, insd_f rfl, kl, sl1, ?_⟩
    kpc_obj
    refine ⟨recv_f, W.ks, W.os, (n, fl.nm), _, rfl, hlet, hcell, ?_⟩
    kpc_obj
    rw [form_one]
    cases p with
    | leaf m =>
      rw [askF_leaf, if_neg hin, eo] at fin
      cases hval : valAt W.ks o fl.nm with
      | one v =>
        rw [hval] at hv fin
        refine it_noN hv.1 ?_
        refine wb_nil ?_
        kpc_obj
        refine it_t ?_
        kpc_obj
        have := fin (tr ++ [(n, fl.nm)]) (by omega)
        rw [anD_num] at this
        exact this
      | many ns =>
        rw [hval] at hv fin
        refine it_yesN hv.1 ?_
        kpc_obj
        refine it_t ?_
        refine we_lstf T ?_
        kpc_obj
        refine ⟨_, sq_t, ?_⟩
        have := fin (tr ++ [(n, fl.nm)]) (by omega)
        rw [anD_lst, List.map_map] at this
        have e : (anD ∘ An.num) = natD := by funext n; simp [anD_num, natD]
        rw [e] at this
        exact this
    | node m qs =>
      obtain ⟨l', t', rfl, ht, hq⟩ := hfit
      have hw2 : wF (.node m qs) = 1 + 3 * wPs qs := rfl
      rw [hw2] at hlen
      rw [askF_node, if_neg hin, eo, hw2] at fin
      cases hval : valAt W.ks o fl.nm with
      | one v =>
        rw [hval] at hv fin
        have hsort := hv.2
        unfold FitOne at hsort
        rw [ht] at hsort
        refine it_noN hv.1 ?_
        refine wb_nil ?_
        kpc_obj
        refine it_f ?_
        refine we_meth (hO l' rfl) kl (hr.mono (by omega)) ?_
        kpc_obj
        refine ⟨recv_f, ?_⟩
        kpc_obj
        exact ⟨t, W, Fs, tr ++ [(n, fl.nm)], v, t', qs, _, rfl, hW, hF, hsort, hq, pk2, by simp; omega, fun tr' h => fin tr' (by omega)⟩
      | many ns =>
        rw [hval] at hv fin
        refine it_yesN hv.1 ?_
        kpc_obj
        refine it_f ?_
        refine we_meth (hL l' rfl) kl (hr.mono (by omega)) ?_
        kpc_obj
        refine ⟨recv_f, ?_⟩
        kpc_obj
        refine ⟨t, W, Fs, tr ++ [(n, fl.nm)], ns, fl.fm, t', qs, _, rfl, hW, hF, hv.2.1, fun x hx => ?_, hq, pk2, by simp; omega, fun tr' h => fin tr' (by omega)⟩
        have hsort := hv.2.2 x hx
        unfold FitOne at hsort
        rw [ht] at hsort
        exact hsort
end
end
section
section
variable {P : Program} {w : World} {K : PySem.W.Frag} {mg : Str → Option Value} {base : Heap} {f : Addr} {fd : FuncData} {c : Cs}
theorem askV_of {W : Wd} (hW : WOk W) {Fs : List Cl} {n : Nat} {o : Ob} {fs : List Fld} {fl : Fld} {p : Pt} (eo : W.ob n = o) (hfs : W.ks[o.1]? = some fs) (hf : fl ∈ fs) (hnm : fl.nm = p.nm) :
    askV W Fs n p = (if (askF W Fs n fl p).lost = true then (match fl.sp with | none => askF W Fs n fl p | some s => askF W Fs n (fldAt W.ks o.1 s) p) else askF W Fs n fl p) ∧ fldAt W.ks (W.ob n).1 p.nm = fl := by
  have ef : fldAt W.ks (W.ob n).1 p.nm = fl := by rw [eo, ← hnm]; exact fldAt_of hW.ks hfs hf
  refine ⟨?_, ef⟩
  unfold askV
  rw [ef, eo] <;> rfl
theorem nodup_of_app {α : Type} {xs ys : List α} (h : (xs ++ ys).Nodup) : ∀ x ∈ ys, x ∉ xs := fun x hx hm => (List.nodup_append.mp h).2.2 x hm x hx rfl
theorem object_body (F : Fd K "ask_object" "Walk.ask_object" s_Walk_ask_object f fd) (T : Bn mg) (kl : Kl K c.W) (sl1 : Sl K c.W "source" 1) (klS : Kl K c.St) (klQ : Kl K c.Q) (p_objs : Pr P w K mg base 1 c.St "objects" (sStoreObjects c.St c.S)) (p_sch : Pr P w K mg base 1 c.St "schema" (sStoreSchema c.St c.S)) (p_parts : Pr P w K mg base 1 c.Q "parts" (sQParts c.Q))
    (m_get : Om CX0 P w K mg base 3 c.S "__getitem__" (sSchemaGet c.S)) (l : Nat) (hF : Om CX0 P w K mg base (6 + 3 * l) c.W "ask_field" (sAskFd c l)) : FnR P w K mg base CX0 (6 + 3 * l + 1) f (spD K (sAskOb c l)) := by
  refine fn_D F sc_Walk_ask_object (fun _ _ _ _ _ _ us hl => match us, hl with | [_, _, _], _ => rfl) (fun ds μ Φ Ψ h => by obtain ⟨_, _, _, _, _, _, _, _, rfl, _⟩ := h; rfl) ?_
  have hN := sc_Walk_ask_object.nd
  rintro cdv A outer s0 H E hr ds μ Φ Ψ ⟨t, W, Fs, tr0, n, kd, ps, g, rfl, hW, hFs, hn, hps, pk, hlen, k⟩
  obtain ⟨o, ho, eo, rfl⟩ := hW.ob hn
  have hnl : n < W.os.length := (List.getElem?_eq_some_iff.mp ho).1
  kpc_obj
  refine we_prop p_objs klS (hr.mono (by omega)) ?_
  refine we_at ?_
  kpc_obj
  refine ⟨c.W, 1, _, insd_f rfl, kl, sl1, recv_f, W.ks, W.os, rfl, ?_⟩
  kpc_obj
  refine rd_ixT (d := objD o) (atI_nat (by rw [List.getElem?_map, ho]; rfl)) ?_
  kpc_obj
  refine we_dictM ?_
  intro p
  kpc_obj
  refine ws_forL (α := List Pt × List Cl) (β := Pt) [5, 6, 7, 8] [5, 6] (qpD c.Q) (fun _ => [some (wkD c W Fs t), some (.int (n : Nat)), some (qD c.Q ps), some (.int (o.1 : Nat)), some (.ref p), none, none, none, none])
    (fun x => (p, .dct ((x.1.map Pt.nm).map nmK) ((x.1.map (askV W Fs n)).map anD)) :: g (trM x.2))
    (fun rest x => x.1 ++ rest = ps ∧ askO W Fs n ps = (askO W Fs n rest).map (x.1.map (askV W Fs n) ++ ·) ∧ x.2.length + wPs rest ≤ tr0.length + wPs ps) PassesOwn.never rfl ?_ ?_ ?_
  · refine wi_tup ?_
    refine we_prop p_parts klQ (hr.mono (by omega)) ?_
    kpc_obj
    exact ⟨recv_f, _, _, rfl, insd_f rfl, _, rfl, ps, rfl, ([], tr0), rfl, by rw [pk.self]; rfl, rfl, by simp, Nat.le_refl _⟩
  · rintro x rest ⟨done, tr⟩ ⟨hd, hask, hw⟩
    change done ++ x :: rest = ps at hd
    change askO W Fs n ps = (askO W Fs n (x :: rest)).map (done.map (askV W Fs n) ++ ·) at hask
    change tr.length + wPs (x :: rest) ≤ tr0.length + wPs ps at hw
    rw [wPs_cons, wP_wF] at hw
    obtain ⟨fs, fl, hfs, hfl, hnm, hfit⟩ := pok_fit hW.ks (hps.each x (by rw [← hd]; simp))
    have hko := hW.ks.each fs (List.mem_of_getElem? hfs)
    obtain ⟨ev, ef⟩ := askV_of (Fs := Fs) (p := x) hW eo hfs hfl hnm
    have hnew : nmK x.nm ∉ (done.map Pt.nm).map nmK := by
      have hdis := hps.dis
      rw [← hd, List.map_append] at hdis
      intro hm
      obtain ⟨b, hb, e⟩ := List.mem_map.mp hm
      have e2 : b = x.nm := by simpa using e
      exact nodup_of_app hdis x.nm (by simp) (e2 ▸ hb)
    have hdl : (done.map Pt.nm).length < 1000 := by
      have := congrArg List.length hd
      have := hps.few
      simp at *
      omega
    rw [qpD_eq]
    refine wg_tup rfl ?_
    kpc_obj
    refine we_ixO m_get (hr.mono (by omega)) ?_
    refine we_prop p_sch klS (hr.mono (by omega)) ?_
    refine we_at ?_
    kpc_obj
    refine ⟨c.W, 1, _, insd_f rfl, kl, sl1, recv_f, W.ks, W.os, rfl, ?_⟩
    kpc_obj
    refine ⟨recv_f, W.ks, o.1, fs, fl, by rw [hnm], hfs, hfl, hko.nms, hko.few, hko.dis, ?_⟩
    kpc_obj
    refine we_meth hF kl (hr.mono (by omega)) ?_
    kpc_obj
    refine ⟨recv_f, ?_⟩
    kpc_obj
    refine ⟨t, W, Fs, tr, n, o.1, fs, fl, x, _, rfl, hW, hFs, hn, hfs, hfl, hfit, .there (pk.again _), by omega, fun tr1 h1 => ?_⟩
    -- what follows the field's value and its spare's
    have tail : ∀ (v0 : An) (tr2 : List Cl), askV W Fs n x = v0 → tr2.length ≤ tr.length + 2 * wF x →
        WB (cxOf CX0 P w K mg base n_Walk_ask_object "Walk.ask_object" (defScope s_Walk_ask_object) f cdv A outer s0 H E).nox ((match (defBody s_Walk_ask_object).getD 1 (.Pass ⟨0, 0, 0, 0⟩) with | .For _ _ b _ _ => b | _ => []).drop 3) [some (wkD c W Fs t), some (.int (n : Nat)), some (qD c.Q ps), some (.int (o.1 : Nat)), some (.ref p), some (Nm x.nm), some (innerD c.Q x), some (fldD fl), some (anD v0)]
          ((p, .dct ((done.map Pt.nm).map nmK) ((done.map (askV W Fs n)).map anD)) :: g (trM tr2)) ⟨fun ρ4 μ4 => ∃ a' : List Pt × List Cl, wipeR ρ4 [5, 6, 7, 8] = [some (wkD c W Fs t), some (.int (n : Nat)), some (qD c.Q ps), some (.int (o.1 : Nat)), some (.ref p), none, none, none, none] ∧ μ4 = (p, .dct ((a'.1.map Pt.nm).map nmK) ((a'.1.map (askV W Fs n)).map anD)) :: g (trM a'.2) ∧
            a'.1 ++ rest = ps ∧ askO W Fs n ps = (askO W Fs n rest).map (a'.1.map (askV W Fs n) ++ ·) ∧ a'.2.length + wPs rest ≤ tr0.length + wPs ps, Φ⟩ := by
      intro v0 tr2 hv0 htr2
      have store : ¬ ((askV W Fs n x).lost = true ∧ fl.mus = true) → WB (cxOf CX0 P w K mg base n_Walk_ask_object "Walk.ask_object" (defScope s_Walk_ask_object) f cdv A outer s0 H E).nox ((match (defBody s_Walk_ask_object).getD 1 (.Pass ⟨0, 0, 0, 0⟩) with | .For _ _ b _ _ => b | _ => []).drop 4) [some (wkD c W Fs t), some (.int (n : Nat)), some (qD c.Q ps), some (.int (o.1 : Nat)), some (.ref p), some (Nm x.nm), some (innerD c.Q x), some (fldD fl), some (anD v0)]
          ((p, .dct ((done.map Pt.nm).map nmK) ((done.map (askV W Fs n)).map anD)) :: g (trM tr2)) ⟨fun ρ4 μ4 => ∃ a' : List Pt × List Cl, wipeR ρ4 [5, 6, 7, 8] = [some (wkD c W Fs t), some (.int (n : Nat)), some (qD c.Q ps), some (.int (o.1 : Nat)), some (.ref p), none, none, none, none] ∧ μ4 = (p, .dct ((a'.1.map Pt.nm).map nmK) ((a'.1.map (askV W Fs n)).map anD)) :: g (trM a'.2) ∧
            a'.1 ++ rest = ps ∧ askO W Fs n ps = (askO W Fs n rest).map (a'.1.map (askV W Fs n) ++ ·) ∧ a'.2.length + wPs rest ≤ tr0.length + wPs ps, Φ⟩ := by
        intro hkeep
        refine wb_cons (ws_asg [] ?_)
        kpc_obj
        refine wg_subD (by assumption) ?_
        kpc_obj
        refine ⟨p, nmK x.nm, _, _, _, rfl, rfl, .here, hnew, by simpa using hdl, ?_⟩
        refine wb_nil ⟨(done ++ [x], tr2), rfl, ?_, by rw [← hd]; simp, ?_, by show tr2.length + wPs rest ≤ _; omega⟩
        · show _ = (p, M.dct (((done ++ [x]).map Pt.nm).map nmK) (((done ++ [x]).map (askV W Fs n)).map anD)) :: _
          rw [List.map_append, List.map_append, List.map_append, List.map_append, ← hv0]
          rfl
        · rw [hask, askO_cons, ef, if_neg hkeep, Option.map_map]
          congr 1
          funext z
          simp
      kpc_obj
      rw [isn_an]
      refine it_c (fun hl => ?_) fun hl => ?_
      · kpc_obj
        rw [mk_must]
        refine it_c (fun hm => ?_) fun hm => ?_
        · refine wb_one (ws_ret (we_drop ?_))
          kpc_obj
          have e : obA Fs W ps n = .non := by
            unfold obA
            rw [hask, askO_cons, ef, if_pos ⟨by rw [hv0]; exact hl, hm⟩]
            rfl
          refine ⟨_, List.sublist_cons_self _ _, ?_⟩
          have := k tr2 (by omega)
          rw [e, anD_non] at this
          exact this
        · exact wb_nil (store fun z => by rw [z.2] at hm; cases hm)
      · refine it_f (wb_nil ?_)
        exact store fun z => by rw [hv0, hl] at z; exact Bool.noConfusion z.1
    kpc_obj
    rw [isn_an]
    refine it_c (fun hl => ?_) fun hl => ?_
    · kpc_obj
      rw [isn_opN]
      rw [if_pos hl] at ev
      cases hs : fl.sp with
      | none =>
        rw [hs] at ev
        refine it_f ?_
        refine wb_nil ?_
        exact tail _ tr1 ev (by omega)
      | some s =>
        rw [hs] at ev
        obtain ⟨g2, hg2, hgn, hgf⟩ := spare_fit hW.ks hfs hfl hfit hs
        have eg : fldAt W.ks o.1 s = g2 := by rw [← hgn]; exact fldAt_of hW.ks hfs hg2
        have ev' : askV W Fs n x = askF W Fs n g2 x := by rw [ev, ← eg]
        refine it_t ?_
        kpc_obj
        refine we_meth hF kl (hr.mono (by omega)) ?_
        kpc_obj
        refine ⟨recv_f, ?_⟩
        kpc_obj
        refine we_ixO m_get (hr.mono (by omega)) ?_
        refine we_prop p_sch klS (hr.mono (by omega)) ?_
        refine we_at ?_
        kpc_obj
        refine ⟨c.W, 1, _, insd_f rfl, kl, sl1, recv_f, W.ks, W.os, rfl, ?_⟩
        kpc_obj
        refine ⟨recv_f, W.ks, o.1, fs, g2, by rw [hs, hgn]; rfl, hfs, hg2, hko.nms, hko.few, hko.dis, ?_⟩
        kpc_obj
        refine ⟨t, W, Fs, tr1, n, o.1, fs, g2, x, _, rfl, hW, hFs, hn, hfs, hg2, hgf, .there (pk.again _), by omega, fun tr2 h2 => ?_⟩
        exact wb_nil (tail _ tr2 ev' (by omega))
    · rw [if_neg (by rw [hl]; exact Bool.false_ne_true)] at ev
      refine it_f (wb_nil ?_)
      exact tail _ tr1 ev (by omega)
  · rintro ⟨done, tr⟩ ⟨hd, hask, hw⟩
    change done ++ [] = ps at hd
    change askO W Fs n ps = (askO W Fs n []).map (done.map (askV W Fs n) ++ ·) at hask
    change tr.length + wPs [] ≤ tr0.length + wPs ps at hw
    rw [List.append_nil] at hd
    subst hd
    refine wb_one (ws_ret (we_frzD ?_))
    kpc_obj
    refine ⟨p, _, _, _, rfl, .here, ?_⟩
    have e : obA Fs W done n = .obj (done.map Pt.nm) (done.map (askV W Fs n)) := by
      unfold obA
      rw [hask, askO_nil]
      simp
    have := k tr (by rw [wPs] at hw; omega)
    rw [e, anD_obj] at this
    exact this
end
end
section
section
variable {P : Program} {w : World} {K : PySem.W.Frag} {mg : Str → Option Value} {base : Heap} {f : Addr} {fd : FuncData} {c : Cs}
theorem list_body (F : Fd K "ask_list" "Walk.ask_list" s_Walk_ask_list f fd) (T : Bn mg) (kl : Kl K c.W) (l : Nat) (hO : Om CX0 P w K mg base (6 + 3 * l + 1) c.W "ask_object" (sAskOb c l)) : FnR P w K mg base CX0 (6 + 3 * l + 2) f (spD K (sAskLs c l)) := by
  refine fn_D F sc_Walk_ask_list (fun _ _ _ _ _ _ us hl => match us, hl with | [_, _, _, _], _ => rfl) (fun ds μ Φ Ψ h => by obtain ⟨_, _, _, _, _, _, _, _, _, rfl, _⟩ := h; rfl) ?_
  have hN := sc_Walk_ask_list.nd
  rintro cdv A outer s0 H E hr ds μ Φ Ψ ⟨t, W, Fs, tr0, ns, fm, kd, qs, g, rfl, hW, hFs, hns, hsort, hq, pk, hlen, k⟩
  kpc_obj
  refine we_lstM ?_
  kpc_obj
  intro p
  kpc_obj
  refine ws_forL (α := List An × List Cl) (β := Nat) [5, 6] [5] natD (fun _ => [some (wkD c W Fs t), some (.tup (ns.map natD)), some (.str fm.s), some (qD c.Q qs), some (.ref p), none, none]) (fun x => (p, .lst (x.1.map anD)) :: g (trM x.2))
    (fun rest x => (∀ n ∈ rest, n ∈ ns) ∧ lsA fm (ns.map (obA Fs W qs)) = (lsA fm (rest.map (obA Fs W qs))).map (x.1 ++ ·) ∧ x.1.length + rest.length ≤ 3 ∧ x.2.length + rest.length * wPs qs ≤ tr0.length + 3 * wPs qs) PassesOwn.never rfl ?_ ?_ ?_
  · refine wi_tup ?_
    kpc_obj
    refine ⟨_, rfl, ns, rfl, ([], tr0), rfl, by rw [pk.self]; rfl, fun _ h => h, by simp, by simpa using hns, ?_⟩
    have : ns.length * wPs qs ≤ 3 * wPs qs := Nat.mul_le_mul_right _ hns
    show tr0.length + _ ≤ _
    omega
  · rintro x rest ⟨acc, tr⟩ ⟨hsub, hls, h3, hw⟩
    change lsA fm (ns.map (obA Fs W qs)) = (lsA fm ((x :: rest).map (obA Fs W qs))).map (acc ++ ·) at hls
    change acc.length + (x :: rest).length ≤ 3 at h3
    change tr.length + (x :: rest).length * wPs qs ≤ _ at hw
    rw [List.length_cons, Nat.succ_mul] at hw
    rw [List.length_cons] at h3
    kpc_obj
    refine we_meth hO kl (hr.mono (by omega)) ?_
    kpc_obj
    refine ⟨recv_f, ?_⟩
    kpc_obj
    refine ⟨t, W, Fs, tr, x, kd, qs, _, rfl, hW, hFs, hsort x (hsub x List.mem_cons_self), hq, .there (pk.again _), by omega, fun tr1 h1 => ?_⟩
    have hsub' : ∀ n ∈ rest, n ∈ ns := fun n hn => hsub n (List.mem_cons_of_mem _ hn)
    rw [List.map_cons, lsA] at hls
    kpc_obj
    rw [isn_an]
    refine it_c (fun hl => ?_) fun hl => ?_
    · kpc_obj
      rw [form_all]
      refine it_by (fun ha => ?_) fun ha => ?_
      · refine wb_one (ws_ret (we_drop ?_))
        kpc_obj
        rw [if_pos ⟨hl, ha⟩] at hls
        have e : lsB fm (ns.map (obA Fs W qs)) = .non := by unfold lsB; rw [hls]; rfl
        refine ⟨_, List.sublist_cons_self _ _, ?_⟩
        have := k tr1 (by omega)
        rw [e, anD_non] at this
        exact this
      · refine wb_nil ?_
        rw [if_neg (fun z => ha z.2)] at hls
        kpc_obj
        rw [isn_an, hl]
        refine it_f ?_
        kpc_obj
        rw [form_gaps]
        refine it_by (fun hg => ?_) fun hg => ?_
        · rw [if_neg (fun z => z.2 hg)] at hls
          kpc_obj
          · rw [List.length_map]; show acc.length < 1000; omega
          refine wb_nil (wb_nil ⟨(acc ++ [obA Fs W qs x], tr1), rfl, ?_, hsub', ?_, by simp; omega, by show tr1.length + _ ≤ _; omega⟩)
          · show _ = (p, M.lst ((acc ++ [obA Fs W qs x]).map anD)) :: _
            rw [List.map_append]; rfl
          · rw [hls, Option.map_map]
            congr 1
            funext z
            simp
        · rw [if_pos ⟨hl, hg⟩] at hls
          refine wb_nil (wb_nil ⟨(acc, tr1), rfl, rfl, hsub', hls, by simp; omega, by show tr1.length + _ ≤ _; omega⟩)
    · refine it_f (wb_nil ?_)
      rw [if_neg (fun z => by rw [hl] at z; exact Bool.noConfusion z.1), if_neg (fun z => by rw [hl] at z; exact Bool.noConfusion z.1)] at hls
      kpc_obj
      rw [isn_an, hl]
      refine it_t ?_
      kpc_obj
      · rw [List.length_map]; show acc.length < 1000; omega
      refine wb_nil (wb_nil ⟨(acc ++ [obA Fs W qs x], tr1), rfl, ?_, hsub', ?_, by simp; omega, by show tr1.length + _ ≤ _; omega⟩)
      · show _ = (p, M.lst ((acc ++ [obA Fs W qs x]).map anD)) :: _
        rw [List.map_append]; rfl
      · rw [hls, Option.map_map]
        congr 1
        funext z
        simp
  · rintro ⟨acc, tr⟩ ⟨_, hls, _, hw⟩
    change lsA fm (ns.map (obA Fs W qs)) = (lsA fm ([].map (obA Fs W qs))).map (acc ++ ·) at hls
    change tr.length + _ ≤ _ at hw
    refine wb_one (ws_ret (we_frzL ?_))
    kpc_obj
    have e : lsB fm (ns.map (obA Fs W qs)) = .lst acc := by
      unfold lsB
      rw [hls, List.map_nil, lsA]
      simp
    have := k tr (by simp at hw; omega)
    rw [e, anD_lst] at this
    exact this
structure WalkFns (K : PySem.W.Frag) (c : Cs) (ff fo fl : Addr) : Prop where
  a : ∃ fd, Fd K "ask_field" "Walk.ask_field" s_Walk_ask_field ff fd
  b : ∃ fd, Fd K "ask_object" "Walk.ask_object" s_Walk_ask_object fo fd
  c : ∃ fd, Fd K "ask_list" "Walk.ask_list" s_Walk_ask_list fl fd
/-- the method m stands at g -/
structure MAt (K : PySem.W.Frag) (C : Addr) (m : Str) (g : Addr) : Prop where
  h1 : PySem.W.findIn K (.ref C) m = some (some (.ref g))
  h2 : PySem.W.isFn K (.ref g) = true
  h3 : PySem.W.fnIn K g = true
  h4 : PySem.W.keepIn K (.ref g) = true
theorem MAt.om {C g : Addr} {m : Str} {k : Nat} {S : Spec} (h : MAt K C m g) (F : FnR P w K mg base CX0 k g (spD K S)) : Om CX0 P w K mg base k C m S := ⟨g, h.h1, h.h2, h.h3, h.h4, F⟩
theorem walk_all {ff fo fl : Addr} (Fs : WalkFns K c ff fo fl) (m1 : MAt K c.W "ask_field" ff) (m2 : MAt K c.W "ask_object" fo) (m3 : MAt K c.W "ask_list" fl) (T : Bn mg) (kl : Kl K c.W) (sl0 : Sl K c.W "broken" 0) (sl1 : Sl K c.W "source" 1) (sl2 : Sl K c.W "trail" 2)
    (m_in : Om CX0 P w K mg base 3 c.F "__contains__" (sFaultsIn c.F)) (m_sget : Om CX0 P w K mg base 3 c.St "__getitem__" (sStoreGet c.St c.S)) (klS : Kl K c.St) (klQ : Kl K c.Q) (p_objs : Pr P w K mg base 1 c.St "objects" (sStoreObjects c.St c.S)) (p_sch : Pr P w K mg base 1 c.St "schema" (sStoreSchema c.St c.S)) (p_parts : Pr P w K mg base 1 c.Q "parts" (sQParts c.Q))
    (m_get : Om CX0 P w K mg base 3 c.S "__getitem__" (sSchemaGet c.S)) : ∀ l : Nat, FnR P w K mg base CX0 (6 + 3 * l + 1) fo (spD K (sAskOb c l))
  | l => by
    obtain ⟨fda, Fa⟩ := Fs.a
    obtain ⟨fdb, Fb⟩ := Fs.b
    obtain ⟨fdc, Fc⟩ := Fs.c
    have hO : ∀ l', l = l' + 1 → Om CX0 P w K mg base (6 + 3 * l' + 1) c.W "ask_object" (sAskOb c l') := fun l' e => m2.om (walk_all Fs m1 m2 m3 T kl sl0 sl1 sl2 m_in m_sget klS klQ p_objs p_sch p_parts m_get l')
    have hL : ∀ l', l = l' + 1 → Om CX0 P w K mg base (6 + 3 * l' + 2) c.W "ask_list" (sAskLs c l') := fun l' e => m3.om (list_body Fc T kl l' (hO l' e))
    exact object_body Fb T kl sl1 klS klQ p_objs p_sch p_parts m_get l (m1.om (field_body Fa T kl sl0 sl1 sl2 m_in m_sget l hO hL))
end
end
section
/-! ### the law's own walk -/
abbrev wdD (W : Wd) : D := .tup [kindsD W.ks, objsD W.os]
abbrev fsT (Fs : List Cl) : D := .tup (Fs.map clD)
def inPt : Pt → D
  | .leaf _ => .non
  | .node _ qs => ptsD qs
theorem ptD_in (p : Pt) : ptD p = .tup [Nm p.nm, inPt p] := by
  cases p with
  | leaf n => rw [ptD_leaf]; rfl
  | node n qs => rw [ptD_node]; rfl
section
variable {P : Program} {w : World} {K : PySem.W.Frag} {mg : Str → Option Value} {base : Heap} {f : Addr} {fd : FuncData} {c : Cs}
def sFieldAt : Spec := fun ds μ Φ _ => ∃ (ks : List (List Fld)) (kd : Nat) (fs : List Fld) (g : Fld), ds = [kindsD ks, .int (kd : Nat), Nm g.nm] ∧ ks[kd]? = some fs ∧ g ∈ fs ∧ fs.length ≤ 3 ∧ (fs.map Fld.nm).Nodup ∧ Φ (fldD g) μ
theorem ok_law_field_at (F : Fd K "_law_field_at" "_law_field_at" s_law_field_at f fd) (T : Bn mg) : FnR P w K mg base CX0 1 f (spD K sFieldAt) := by
  refine fn_D F sc_law_field_at (fun _ _ _ _ _ _ us hl => match us, hl with | [_, _, _], _ => rfl) (fun ds μ Φ Ψ h => by obtain ⟨_, _, _, _, rfl, _⟩ := h; rfl) ?_
  have hN := sc_law_field_at.nd
  rintro cdv A outer s H E hr ds μ Φ Ψ ⟨ks, kd, fs, g, rfl, hfs, hg, hl, hd, k⟩
  kpc_obj
  refine we_lcn [("_law_field_here", 3)] (by kp_flats) (by assumption) rfl (by kpc_if) ?_
  refine wlc_F fldD fldD (fun x => decide (x.nm = g.nm)) fs ?_ (by omega) ?_ ?_
  · refine wi_tup ?_
    kqd_all
    refine rd_ixT (d := kindD fs) (atI_nat (by rw [List.getElem?_map, hfs]; rfl)) ?_
    exact ⟨_, rfl, rfl, rfl⟩
  · rintro x hx Y ⟨s1, H1, C1, cl1, fp1, rfl⟩ ν
    kpc_obj
    rintro Y ⟨s1, H1, C1, cl1, fp1, rfl⟩
    kpc_obj
    refine ⟨rfl, rfl, fun _ => ?_⟩
    rintro Y ⟨s1, H1, C1, cl1, fp1, rfl⟩
    kpc_obj
    exact ⟨rfl, rfl⟩
  rw [filter_one hg hd]
  kpc_obj
  all_goals exact k
def sLawGv (l : Nat) : Spec := fun ds μ Φ _ => ∃ (t : Addr) (W : Wd) (Fs tr : List Cl) (n kd : Nat) (fs : List Fld) (f : Fld) (p : Pt) (g : M → Mu), ds = [wdD W, fsT Fs, .ref t, .int (n : Nat), fldD f, inPt p] ∧ WOk W ∧ FOk Fs ∧ (W.os.map (·.1))[n]? = some kd ∧ W.ks[kd]? = some fs ∧ f ∈ fs ∧ FitP W.ks l f p ∧ AtF μ t (trM tr) g ∧ tr.length + wF p ≤ 900 ∧
  ∀ tr' : List Cl, tr'.length ≤ tr.length + wF p → Φ (anD (askF W Fs n f p)) (g (trM tr'))
def sLawOb (l : Nat) : Spec := fun ds μ Φ _ => ∃ (t : Addr) (W : Wd) (Fs tr : List Cl) (n kd : Nat) (ps : List Pt) (g : M → Mu), ds = [wdD W, fsT Fs, .ref t, .int (n : Nat), ptsD ps] ∧ WOk W ∧ FOk Fs ∧ (W.os.map (·.1))[n]? = some kd ∧ PsOk W.ks l kd ps ∧ AtF μ t (trM tr) g ∧ tr.length + wPs ps ≤ 900 ∧
  ∀ tr' : List Cl, tr'.length ≤ tr.length + wPs ps → Φ (anD (obA Fs W ps n)) (g (trM tr'))
theorem given_body (F : Fd K "_law_given" "_law_given" s_law_given f fd) (T : Bn mg) (l : Nat) (hO : ∀ l', l = l' + 1 → Cal P w K mg base (6 + 2 * l' + 1) "_law_object" (sLawOb l')) : FnR P w K mg base CX0 (6 + 2 * l) f (spD K (sLawGv l)) := by
  have e0 : 6 + 2 * l = (5 + 2 * l) + 1 := by omega
  rw [e0]
  refine fn_D F sc_law_given (fun _ _ _ _ _ _ us hl => match us, hl with | [_, _, _, _, _, _], _ => rfl) (fun ds μ Φ Ψ h => by obtain ⟨_, _, _, _, _, _, _, _, _, _, rfl, _⟩ := h; rfl) ?_
  have hN := sc_law_given.nd
  rintro cdv A outer s0 H E hr ds μ Φ Ψ ⟨t, W, Fs, tr, n, kd, fs, fl, p, g, rfl, hW, hF, hn, hfs, hfl, hfit, pk, hlen, k⟩
  obtain ⟨o, ho, eo, rfl⟩ := hW.ob hn
  obtain ⟨hv, _, hzip⟩ := cell_val hW.ks hW.os ho hfs hfl
  have hko := hW.ks.each fs (List.mem_of_getElem? hfs)
  have hlet : letter fl.nm := hko.nms fl hfl
  have hw1 : 1 ≤ wF p := by cases p with
    | leaf m => exact Nat.le_refl 1
    | node m qs => show 1 ≤ 1 + 3 * wPs qs; omega
  obtain ⟨μ0, pk0⟩ := pk.pick
  refine wb_cons (ws_asg [6, 7] ?_)
  kpc_obj
  refine rd_ixT (d := objD o) (atI_nat (by rw [List.getElem?_map, ho]; rfl)) ?_
  kpc_obj
  refine ⟨_, _, pk.at _, by rw [List.length_map]; omega, ?_⟩
  have pk2 := pk.again (.lst (tr.map clD ++ [clD (n, fl.nm)]))
  have etr : M.lst (tr.map clD ++ [clD (n, fl.nm)]) = trM (tr ++ [(n, fl.nm)]) := by simp
  rw [etr] at pk2 ⊢
  have fin : ∀ tr' : List Cl, tr'.length ≤ (tr ++ [(n, fl.nm)]).length + (wF p - 1) → Φ (anD (askF W Fs n fl p)) (g (trM tr')) := fun tr' h => k tr' (by simp at h; omega)
  refine wb_cons (ws_if (wt_cmp (op := .In) (op_inDA (by assumption)) ?_))
  kpc_obj
  refine rd_inCl (c := (n, fl.nm)) (.inr (py_clT Fs)) hlet (fun x hx => (hF.ok x hx).2) ?_
  rw [show (decide ((n, fl.nm) ∈ Fs) != false) = decide ((n, fl.nm) ∈ Fs) from by simp]
  refine bl_i (it_by (fun hin => ?_) fun hin => ?_)
  · kpc_obj
    have e : askF W Fs n fl p = .non := by cases p <;> simp only [askF_leaf, askF_node, if_pos hin]
    rw [e, anD_non] at fin
    exact fin _ (by omega)
  · refine wb_nil ?_
    kpc_obj
    refine we_lcn [("_law_one", 9), ("_law_other", 10)] (by kp_flats) (by assumption) rfl (by kpc_if) ?_
    refine wlc_F (fun q : Val × Fld => .tup [valD q.1, fldD q.2]) (fun q => valD q.1) (fun q => decide (q.2.nm = fl.nm)) (o.2.zip fs) ?_ (by
      rw [List.length_zip]
      have := hko.few
      omega) ?_ ?_
    · refine wi_zipT T ?_
      kpc_obj
      refine rd_ixT (d := kindD fs) (atI_nat (by rw [List.getElem?_map, hfs]; rfl)) ?_
      exact ⟨_, _, rfl, rfl, zipD_map valD fldD o.2 fs, rfl⟩
    · rintro x hx Y ⟨s1, H1, C1, cl1, fp1, rfl⟩ ν
      kpc_obj
      rintro Y ⟨s1, H1, C1, cl1, fp1, rfl⟩
      kpc_obj
      refine ⟨rfl, rfl, fun _ => ?_⟩
      rintro Y ⟨s1, H1, C1, cl1, fp1, rfl⟩
      kpc_obj
      exact ⟨rfl, rfl⟩
    rw [hzip]
    kpc_obj
    cases p with
    | leaf m =>
      rw [askF_leaf, if_neg hin, eo] at fin
      refine it_t ?_
      kpc_obj
      rw [form_one]
      cases hval : valAt W.ks o fl.nm with
      | one v =>
        rw [hval] at hv fin
        refine it_yes hv.1 ?_
        kpc_obj
        have := fin (tr ++ [(n, fl.nm)]) (by omega)
        rw [anD_num] at this
        exact this
      | many ns =>
        rw [hval] at hv fin
        refine it_no hv.1 ?_
        refine we_lstf T ?_
        kpc_obj
        refine ⟨_, sq_t, ?_⟩
        have := fin (tr ++ [(n, fl.nm)]) (by omega)
        rw [anD_lst, List.map_map] at this
        have e : (anD ∘ An.num) = natD := by funext n; simp [anD_num, natD]
        rw [e] at this
        exact this
    | node m qs =>
      obtain ⟨l', t', rfl, ht, hq⟩ := hfit
      have hw2 : wF (.node m qs) = 1 + 3 * wPs qs := rfl
      rw [hw2] at hlen
      rw [askF_node, if_neg hin, eo, hw2] at fin
      refine it_f (wb_nil ?_)
      kpc_obj
      rw [form_one]
      cases hval : valAt W.ks o fl.nm with
      | one v =>
        rw [hval] at hv fin
        have hsort := hv.2
        unfold FitOne at hsort
        rw [ht] at hsort
        refine it_yes hv.1 ?_
        kpc_obj
        refine we_call (hO l' rfl) (hr.mono (by omega)) ?_
        kpc_obj
        exact ⟨t, W, Fs, tr ++ [(n, fl.nm)], v, t', qs, _, rfl, hW, hF, hsort, hq, pk2, by simp; omega, fun tr' h => fin tr' (by omega)⟩
      | many ns =>
        rw [hval] at hv fin
        have hns := hv.2.1
        have fin : ∀ tr' : List Cl, tr'.length ≤ (tr ++ [(n, fl.nm)]).length + (1 + 3 * wPs qs - 1) → Φ (anD (lsB fl.fm (ns.map (obA Fs W qs)))) (g (trM tr')) := fin
        refine it_no hv.1 (wb_nil ?_)
        kpc_obj
        refine we_lstM ?_
        kpc_obj
        intro p
        kpc_obj
        refine ws_forL (α := List An × List Cl) (β := Nat) [9, 12] [9] natD (fun _ => [some (wdD W), some (fsT Fs), some (.ref t), some (.int (n : Nat)), some (fldD fl), some (inPt (.node m qs)), some (.int (o.1 : Nat)), some (.tup (o.2.map valD)), some (.tup (ns.map natD)), none, none, some (.ref p), none]) (fun x => (p, .lst (x.1.map anD)) :: g (trM x.2))
          (fun rest x => (∀ n ∈ rest, n ∈ ns) ∧ lsA fl.fm (ns.map (obA Fs W qs)) = (lsA fl.fm (rest.map (obA Fs W qs))).map (x.1 ++ ·) ∧ x.1.length + rest.length ≤ 3 ∧ x.2.length + rest.length * wPs qs ≤ tr.length + 1 + 3 * wPs qs) PassesOwn.never rfl ?_ ?_ ?_
        · refine wi_tup ?_
          kpc_obj
          refine ⟨_, rfl, ns, rfl, ([], tr ++ [(n, fl.nm)]), rfl, rfl, fun _ h => h, by simp, by simpa using hns, ?_⟩
          have : ns.length * wPs qs ≤ 3 * wPs qs := Nat.mul_le_mul_right _ hns
          show (tr ++ [(n, fl.nm)]).length + _ ≤ _
          simp
          omega
        · rintro x rest ⟨acc, tr9⟩ ⟨hsub, hls, h3, hw⟩
          change lsA fl.fm (ns.map (obA Fs W qs)) = (lsA fl.fm ((x :: rest).map (obA Fs W qs))).map (acc ++ ·) at hls
          change acc.length + (x :: rest).length ≤ 3 at h3
          change tr9.length + (x :: rest).length * wPs qs ≤ _ at hw
          rw [List.length_cons, Nat.succ_mul] at hw
          rw [List.length_cons] at h3
          have hsort := hv.2.2 x (hsub x List.mem_cons_self)
          unfold FitOne at hsort
          rw [ht] at hsort
          kpc_obj
          refine we_call (hO l' rfl) (hr.mono (by omega)) ?_
          kpc_obj
          refine ⟨t, W, Fs, tr9, x, t', qs, _, rfl, hW, hF, hsort, hq, .there (pk.again _), by omega, fun tr1 h1 => ?_⟩
          have hsub' : ∀ n ∈ rest, n ∈ ns := fun n hn => hsub n (List.mem_cons_of_mem _ hn)
          rw [List.map_cons, lsA] at hls
          kpc_obj
          rw [isn_an]
          refine it_c (fun hl => ?_) fun hl => ?_
          · kpc_obj
            rw [form_all]
            refine it_by (fun ha => ?_) fun ha => ?_
            · refine wb_one (ws_ret (we_drop ?_))
              kpc_obj
              rw [if_pos ⟨hl, ha⟩] at hls
              have e : lsB fl.fm (ns.map (obA Fs W qs)) = .non := by unfold lsB; rw [hls]; rfl
              refine ⟨_, List.sublist_cons_self _ _, ?_⟩
              have := fin tr1 (by simp; omega)
              rw [e, anD_non] at this
              exact this
            · refine wb_nil ?_
              rw [if_neg (fun z => ha z.2)] at hls
              kpc_obj
              rw [isn_an, hl]
              refine it_f ?_
              kpc_obj
              rw [form_gaps]
              refine it_by (fun hg => ?_) fun hg => ?_
              · rw [if_neg (fun z => z.2 hg)] at hls
                kpc_obj
                · rw [List.length_map]; show acc.length < 1000; omega
                refine wb_nil (wb_nil ⟨(acc ++ [obA Fs W qs x], tr1), rfl, ?_, hsub', ?_, by simp; omega, by show tr1.length + _ ≤ _; omega⟩)
                · show _ = (p, M.lst ((acc ++ [obA Fs W qs x]).map anD)) :: _
                  rw [List.map_append]; rfl
                · rw [hls, Option.map_map]
                  congr 1
                  funext z
                  simp
              · rw [if_pos ⟨hl, hg⟩] at hls
                refine wb_nil (wb_nil ⟨(acc, tr1), rfl, rfl, hsub', hls, by simp; omega, by show tr1.length + _ ≤ _; omega⟩)
          · refine it_f (wb_nil ?_)
            rw [if_neg (fun z => by rw [hl] at z; exact Bool.noConfusion z.1), if_neg (fun z => by rw [hl] at z; exact Bool.noConfusion z.1)] at hls
            kpc_obj
            rw [isn_an, hl]
            refine it_t ?_
            kpc_obj
            · rw [List.length_map]; show acc.length < 1000; omega
            refine wb_nil (wb_nil ⟨(acc ++ [obA Fs W qs x], tr1), rfl, ?_, hsub', ?_, by simp; omega, by show tr1.length + _ ≤ _; omega⟩)
            · show _ = (p, M.lst ((acc ++ [obA Fs W qs x]).map anD)) :: _
              rw [List.map_append]; rfl
            · rw [hls, Option.map_map]
              congr 1
              funext z
              simp
        · rintro ⟨acc, tr9⟩ ⟨_, hls, _, hw⟩
          change lsA fl.fm (ns.map (obA Fs W qs)) = (lsA fl.fm ([].map (obA Fs W qs))).map (acc ++ ·) at hls
          change tr9.length + _ ≤ _ at hw
          refine wb_one (ws_ret (we_frzL ?_))
          kpc_obj
          have e : lsB fl.fm (ns.map (obA Fs W qs)) = .lst acc := by
            unfold lsB
            rw [hls, List.map_nil, lsA]
            simp
          have := fin tr9 (by simp at hw ⊢; omega)
          rw [e, anD_lst] at this
          exact this
end
end
section
section
variable {P : Program} {w : World} {K : PySem.W.Frag} {mg : Str → Option Value} {base : Heap} {f : Addr} {fd : FuncData} {c : Cs}
theorem lawob_body (F : Fd K "_law_object" "_law_object" s_law_object f fd) (T : Bn mg) (c_at : Cal P w K mg base 1 "_law_field_at" sFieldAt) (l : Nat) (hF : Cal P w K mg base (6 + 2 * l) "_law_given" (sLawGv l)) : FnR P w K mg base CX0 (6 + 2 * l + 1) f (spD K (sLawOb l)) := by
  refine fn_D F sc_law_object (fun _ _ _ _ _ _ us hl => match us, hl with | [_, _, _, _, _], _ => rfl) (fun ds μ Φ Ψ h => by obtain ⟨_, _, _, _, _, _, _, _, rfl, _⟩ := h; rfl) ?_
  have hN := sc_law_object.nd
  rintro cdv A outer s0 H E hr ds μ Φ Ψ ⟨t, W, Fs, tr0, n, kd, ps, g, rfl, hW, hFs, hn, hps, pk, hlen, k⟩
  obtain ⟨o, ho, eo, rfl⟩ := hW.ob hn
  kpc_obj
  refine rd_ixT (d := objD o) (atI_nat (by rw [List.getElem?_map, ho]; rfl)) ?_
  kpc_obj
  refine we_dictM ?_
  intro p
  kpc_obj
  refine ws_forL (α := List Pt × List Cl) (β := Pt) [7, 8, 9, 10] [7, 8] ptD (fun _ => [some (wdD W), some (fsT Fs), some (.ref t), some (.int (n : Nat)), some (ptsD ps), some (.int (o.1 : Nat)), some (.ref p), none, none, none, none])
    (fun x => (p, .dct ((x.1.map Pt.nm).map nmK) ((x.1.map (askV W Fs n)).map anD)) :: g (trM x.2))
    (fun rest x => x.1 ++ rest = ps ∧ askO W Fs n ps = (askO W Fs n rest).map (x.1.map (askV W Fs n) ++ ·) ∧ x.2.length + wPs rest ≤ tr0.length + wPs ps) PassesOwn.never rfl ?_ ?_ ?_
  · refine wi_tup ?_
    kpc_obj
    exact ⟨_, rfl, ps, rfl, ([], tr0), rfl, by rw [pk.self]; rfl, rfl, by simp, Nat.le_refl _⟩
  · rintro x rest ⟨done, tr⟩ ⟨hd, hask, hw⟩
    change done ++ x :: rest = ps at hd
    change askO W Fs n ps = (askO W Fs n (x :: rest)).map (done.map (askV W Fs n) ++ ·) at hask
    change tr.length + wPs (x :: rest) ≤ tr0.length + wPs ps at hw
    rw [wPs_cons, wP_wF] at hw
    obtain ⟨fs, fl, hfs, hfl, hnm, hfit⟩ := pok_fit hW.ks (hps.each x (by rw [← hd]; simp))
    have hko := hW.ks.each fs (List.mem_of_getElem? hfs)
    obtain ⟨ev, ef⟩ := askV_of (Fs := Fs) (p := x) hW eo hfs hfl hnm
    have hnew : nmK x.nm ∉ (done.map Pt.nm).map nmK := by
      have hdis := hps.dis
      rw [← hd, List.map_append] at hdis
      intro hm
      obtain ⟨b, hb, e⟩ := List.mem_map.mp hm
      have e2 : b = x.nm := by simpa using e
      exact nodup_of_app hdis x.nm (by simp) (e2 ▸ hb)
    have hdl : (done.map Pt.nm).length < 1000 := by
      have := congrArg List.length hd
      have := hps.few
      simp at *
      omega
    rw [ptD_in]
    refine wg_tup rfl ?_
    kpc_obj
    refine we_call c_at (hr.mono (by omega)) ?_
    kpc_obj
    refine ⟨W.ks, o.1, fs, fl, by rw [hnm], hfs, hfl, hko.few, hko.dis, ?_⟩
    kpc_obj
    refine we_call hF (hr.mono (by omega)) ?_
    kpc_obj
    refine ⟨t, W, Fs, tr, n, o.1, fs, fl, x, _, rfl, hW, hFs, hn, hfs, hfl, hfit, .there (pk.again _), by omega, fun tr1 h1 => ?_⟩
    -- what follows the field's value and its spare's
    have tail : ∀ (v0 : An) (tr2 : List Cl), askV W Fs n x = v0 → tr2.length ≤ tr.length + 2 * wF x →
        WB (cxOf CX0 P w K mg base n_law_object "_law_object" (defScope s_law_object) f cdv A outer s0 H E).nox ((match (defBody s_law_object).getD 1 (.Pass ⟨0, 0, 0, 0⟩) with | .For _ _ b _ _ => b | _ => []).drop 3) [some (wdD W), some (fsT Fs), some (.ref t), some (.int (n : Nat)), some (ptsD ps), some (.int (o.1 : Nat)), some (.ref p), some (Nm x.nm), some (inPt x), some (fldD fl), some (anD v0)]
          ((p, .dct ((done.map Pt.nm).map nmK) ((done.map (askV W Fs n)).map anD)) :: g (trM tr2)) ⟨fun ρ4 μ4 => ∃ a' : List Pt × List Cl, wipeR ρ4 [7, 8, 9, 10] = [some (wdD W), some (fsT Fs), some (.ref t), some (.int (n : Nat)), some (ptsD ps), some (.int (o.1 : Nat)), some (.ref p), none, none, none, none] ∧ μ4 = (p, .dct ((a'.1.map Pt.nm).map nmK) ((a'.1.map (askV W Fs n)).map anD)) :: g (trM a'.2) ∧
            a'.1 ++ rest = ps ∧ askO W Fs n ps = (askO W Fs n rest).map (a'.1.map (askV W Fs n) ++ ·) ∧ a'.2.length + wPs rest ≤ tr0.length + wPs ps, Φ⟩ := by
      intro v0 tr2 hv0 htr2
      have store : ¬ ((askV W Fs n x).lost = true ∧ fl.mus = true) → WB (cxOf CX0 P w K mg base n_law_object "_law_object" (defScope s_law_object) f cdv A outer s0 H E).nox ((match (defBody s_law_object).getD 1 (.Pass ⟨0, 0, 0, 0⟩) with | .For _ _ b _ _ => b | _ => []).drop 4) [some (wdD W), some (fsT Fs), some (.ref t), some (.int (n : Nat)), some (ptsD ps), some (.int (o.1 : Nat)), some (.ref p), some (Nm x.nm), some (inPt x), some (fldD fl), some (anD v0)]
          ((p, .dct ((done.map Pt.nm).map nmK) ((done.map (askV W Fs n)).map anD)) :: g (trM tr2)) ⟨fun ρ4 μ4 => ∃ a' : List Pt × List Cl, wipeR ρ4 [7, 8, 9, 10] = [some (wdD W), some (fsT Fs), some (.ref t), some (.int (n : Nat)), some (ptsD ps), some (.int (o.1 : Nat)), some (.ref p), none, none, none, none] ∧ μ4 = (p, .dct ((a'.1.map Pt.nm).map nmK) ((a'.1.map (askV W Fs n)).map anD)) :: g (trM a'.2) ∧
            a'.1 ++ rest = ps ∧ askO W Fs n ps = (askO W Fs n rest).map (a'.1.map (askV W Fs n) ++ ·) ∧ a'.2.length + wPs rest ≤ tr0.length + wPs ps, Φ⟩ := by
        intro hkeep
        refine wb_cons (ws_asg [] ?_)
        kpc_obj
        refine wg_subD (by assumption) ?_
        kpc_obj
        refine ⟨p, nmK x.nm, _, _, _, rfl, rfl, .here, hnew, by simpa using hdl, ?_⟩
        refine wb_nil ⟨(done ++ [x], tr2), rfl, ?_, by rw [← hd]; simp, ?_, by show tr2.length + wPs rest ≤ _; omega⟩
        · show _ = (p, M.dct (((done ++ [x]).map Pt.nm).map nmK) (((done ++ [x]).map (askV W Fs n)).map anD)) :: _
          rw [List.map_append, List.map_append, List.map_append, List.map_append, ← hv0]
          rfl
        · rw [hask, askO_cons, ef, if_neg hkeep, Option.map_map]
          congr 1
          funext z
          simp
      kpc_obj
      rw [isn_an]
      refine it_c (fun hl => ?_) fun hl => ?_
      · kpc_obj
        rw [mk_must]
        refine it_c (fun hm => ?_) fun hm => ?_
        · refine wb_one (ws_ret (we_drop ?_))
          kpc_obj
          have e : obA Fs W ps n = .non := by
            unfold obA
            rw [hask, askO_cons, ef, if_pos ⟨by rw [hv0]; exact hl, hm⟩]
            rfl
          refine ⟨_, List.sublist_cons_self _ _, ?_⟩
          have := k tr2 (by omega)
          rw [e, anD_non] at this
          exact this
        · exact wb_nil (store fun z => by rw [z.2] at hm; cases hm)
      · refine it_f (wb_nil ?_)
        exact store fun z => by rw [hv0, hl] at z; exact Bool.noConfusion z.1
    kpc_obj
    rw [isn_an]
    refine it_c (fun hl => ?_) fun hl => ?_
    · kpc_obj
      rw [isn_opN]
      rw [if_pos hl] at ev
      cases hs : fl.sp with
      | none =>
        rw [hs] at ev
        refine it_f ?_
        refine wb_nil ?_
        exact tail _ tr1 ev (by omega)
      | some s =>
        rw [hs] at ev
        obtain ⟨g2, hg2, hgn, hgf⟩ := spare_fit hW.ks hfs hfl hfit hs
        have eg : fldAt W.ks o.1 s = g2 := by rw [← hgn]; exact fldAt_of hW.ks hfs hg2
        have ev' : askV W Fs n x = askF W Fs n g2 x := by rw [ev, ← eg]
        refine it_t ?_
        kpc_obj
        refine we_call hF (hr.mono (by omega)) ?_
        kpc_obj
        refine we_call c_at (hr.mono (by omega)) ?_
        kpc_obj
        refine ⟨W.ks, o.1, fs, g2, by rw [hs, hgn]; rfl, hfs, hg2, hko.few, hko.dis, ?_⟩
        kpc_obj
        refine ⟨t, W, Fs, tr1, n, o.1, fs, g2, x, _, rfl, hW, hFs, hn, hfs, hg2, hgf, .there (pk.again _), by omega, fun tr2 h2 => ?_⟩
        exact wb_nil (tail _ tr2 ev' (by omega))
    · rw [if_neg (by rw [hl]; exact Bool.false_ne_true)] at ev
      refine it_f (wb_nil ?_)
      exact tail _ tr1 ev (by omega)
  · rintro ⟨done, tr⟩ ⟨hd, hask, hw⟩
    change done ++ [] = ps at hd
    change askO W Fs n ps = (askO W Fs n []).map (done.map (askV W Fs n) ++ ·) at hask
    change tr.length + wPs [] ≤ tr0.length + wPs ps at hw
    rw [List.append_nil] at hd
    subst hd
    refine wb_one (ws_ret (we_frzD ?_))
    kpc_obj
    refine ⟨p, _, _, _, rfl, .here, ?_⟩
    have e : obA Fs W done n = .obj (done.map Pt.nm) (done.map (askV W Fs n)) := by
      unfold obA
      rw [hask, askO_nil]
      simp
    have := k tr (by rw [wPs] at hw; omega)
    rw [e, anD_obj] at this
    exact this
theorem lawob_all {fg fo : Addr} (Fg : ∃ fd, Fd K "_law_given" "_law_given" s_law_given fg fd) (Fo : ∃ fd, Fd K "_law_object" "_law_object" s_law_object fo fd) (hg : mg "_law_given" = some (.ref fg) ∧ PySem.W.keepIn K (.ref fg) = true) (ho : mg "_law_object" = some (.ref fo) ∧ PySem.W.keepIn K (.ref fo) = true) (T : Bn mg) (c_at : Cal P w K mg base 1 "_law_field_at" sFieldAt) :
    ∀ l : Nat, FnR P w K mg base CX0 (6 + 2 * l + 1) fo (spD K (sLawOb l))
  | l => by
    obtain ⟨fda, Fa⟩ := Fg
    obtain ⟨fdb, Fb⟩ := Fo
    have hO : ∀ l', l = l' + 1 → Cal P w K mg base (6 + 2 * l' + 1) "_law_object" (sLawOb l') := fun l' e => ⟨fo, ho.1, ho.2, lawob_all ⟨_, Fa⟩ ⟨_, Fb⟩ hg ho T c_at l'⟩
    exact lawob_body Fb T c_at l ⟨fg, hg.1, hg.2, given_body Fa T l hO⟩
/-- _law_run -/
def sLawRun : Spec := fun ds μ Φ _ => ∃ (W : Wd) (Fs : List Cl) (ps : List Pt), ds = [wdD W, ptsD ps, fsT Fs] ∧ WOk W ∧ FOk Fs ∧ PsOk W.ks 2 0 ps ∧ szPs ps ≤ 8 ∧ ∀ tr : D, Φ (.tup [anD (obA Fs W ps 0), tr]) μ
theorem WOk.zero {W : Wd} (h : WOk W) : (W.os.map (·.1))[0]? = some 0 := by
  obtain ⟨vs, r, e⟩ := h.os.hd
  rw [e]; rfl
theorem wPs_few {ks : List (List Fld)} {ps : List Pt} (h : PsOk ks 2 0 ps) (hz : szPs ps ≤ 8) : wPs ps ≤ 576 := by
  have := wPs_le ps 2 h.mx
  omega
theorem ok_law_run (F : Fd K "_law_run" "_law_run" s_law_run f fd) (T : Bn mg) (c_ob : Cal P w K mg base 11 "_law_object" (sLawOb 2)) : FnR P w K mg base CX0 12 f (spD K sLawRun) := by
  refine fn_D F sc_law_run (fun _ _ _ _ _ _ us hl => match us, hl with | [_, _, _], _ => rfl) (fun ds μ Φ Ψ h => by obtain ⟨_, _, _, rfl, _⟩ := h; rfl) ?_
  have hN := sc_law_run.nd
  rintro cdv A outer s0 H E hr ds μ Φ Ψ ⟨W, Fs, ps, rfl, hW, hF, hps, hz, k⟩
  kpc_obj
  refine we_lstM ?_
  kpc_obj
  intro t
  kpc_obj
  refine we_call c_ob (hr.mono (by omega)) ?_
  kpc_obj
  have hw := wPs_few hps hz
  refine ⟨t, W, Fs, [], 0, 0, ps, _, rfl, hW, hF, hW.zero, hps, .here, by simp; omega, fun tr' _ => ?_⟩
  refine wb_one (ws_ret (we_drop ?_))
  kpc_obj
  exact ⟨_, List.sublist_cons_self _ _, k _⟩
end
end
section
/-! ### answers -/
/-- data that may be copied, of a height -/
def cpOk : Nat → An → Prop
  | _, .non => True
  | _, .num _ => True
  | 0, .lst _ => False
  | 0, .obj _ _ => False
  | m + 1, .lst xs => xs.length ≤ 3 ∧ ∀ x ∈ xs, cpOk m x
  | m + 1, .obj ks xs => ks.length ≤ 3 ∧ xs.length = ks.length ∧ ks.Nodup ∧ ∀ x ∈ xs, cpOk m x
theorem cp_of : ∀ l : Nat, (∀ x, itOk l x → cpOk (2 * l) x) ∧ (∀ x, lfOk l x → cpOk (2 * l + 1) x)
  | 0 => by
    have h1 : ∀ x, itOk 0 x → cpOk 0 x := fun x h => by cases x <;> first | exact True.intro | exact h.elim
    refine ⟨h1, fun x h => ?_⟩
    cases x with
    | lst xs =>
      obtain ⟨a, b⟩ := h
      exact ⟨a, fun y hy => h1 y (b y hy)⟩
    | non => exact True.intro
    | num n => exact True.intro
    | obj ks xs => exact (show itOk 0 (.obj ks xs) from h).elim
  | l + 1 => by
    have ih := cp_of l
    have h1 : ∀ x, itOk (l + 1) x → cpOk (2 * (l + 1)) x := fun x h => by
      cases x with
      | non => exact True.intro
      | num n => exact True.intro
      | lst xs => exact h.elim
      | obj ks xs =>
        obtain ⟨_, a, b, c, _, d⟩ := itOk_obj.mp h
        exact ⟨a, b, c, fun y hy => ih.2 y (d y hy)⟩
    refine ⟨h1, fun x h => ?_⟩
    cases x with
    | lst xs =>
      obtain ⟨a, b⟩ := h
      exact ⟨a, fun y hy => h1 y (b y hy)⟩
    | non => exact True.intro
    | num n => exact True.intro
    | obj ks xs =>
      have h' : itOk (l + 1) (.obj ks xs) := h
      obtain ⟨_, a, b, c, _, d⟩ := itOk_obj.mp h'
      have hm : ∀ (m : Nat) (x : An), cpOk m x → cpOk (m + 1) x := by
        intro m
        induction m with
        | zero => intro x h; cases x <;> first | exact True.intro | exact h.elim
        | succ m ihm =>
          intro x h
          cases x with
          | non => exact True.intro
          | num n => exact True.intro
          | lst xs => exact ⟨h.1, fun y hy => ihm y (h.2 y hy)⟩
          | obj ks xs => exact ⟨h.1, h.2.1, h.2.2.1, fun y hy => ihm y (h.2.2.2 y hy)⟩
      exact ⟨a, b, c, fun y hy => hm _ y (ih.2 y (d y hy))⟩
theorem nd_keys {ks : List Nat} (h : ks.Nodup) : (ks.map nmK).Nodup := List.Pairwise.map _ (fun a b hab e => hab (by simpa using e)) h
theorem eqd_of : ∀ (m : Nat) (x : An), cpOk m x → EqD m (anD x)
  | m, .non, _ => by rw [anD_non]; cases m <;> exact True.intro
  | m, .num n, _ => by rw [anD_num]; cases m <;> exact True.intro
  | 0, .lst _, h => h.elim
  | 0, .obj _ _, h => h.elim
  | m + 1, .lst xs, h => by
    rw [anD_lst]
    intro d hd
    obtain ⟨x, hx, rfl⟩ := List.mem_map.mp hd
    exact eqd_of m x (h.2 x hx)
  | m + 1, .obj ks xs, h => by
    rw [anD_obj]
    refine ⟨nd_keys h.2.2.1, by rw [List.length_map, List.length_map, h.2.1], fun d hd => ?_⟩
    obtain ⟨x, hx, rfl⟩ := List.mem_map.mp hd
    exact eqd_of m x (h.2.2.2 x hx)
theorem zip_keys {ks : List Nat} {xs : List An} (h : xs.length = ks.length) : ks.map nmK = (ks.zip xs).map (fun p => nmK p.1) ∧ xs.map anD = (ks.zip xs).map (fun p => anD p.2) := by
  constructor
  · conv => lhs; rw [← List.map_fst_zip (l₁ := ks) (l₂ := xs) (by omega)]
    rw [List.map_map]; rfl
  · conv => lhs; rw [← List.map_snd_zip (l₁ := ks) (l₂ := xs) (by omega)]
    rw [List.map_map]; rfl
theorem items_an {ks : List Nat} {xs : List An} (h : xs.length = ks.length) : itemsD (ks.map nmK) (xs.map anD) = (ks.zip xs).map fun p => .tup [Nm p.1, anD p.2] := by
  obtain ⟨h1, h2⟩ := zip_keys h
  rw [h1, h2, itemsD_map]
  rfl
theorem ty_an (x : An) : ∃ A, tyD (anD x) = some A ∧ isB A .dict = (match x with | .obj _ _ => true | _ => false) ∧ isB A .list = (match x with | .lst _ => true | _ => false) ∧ (isB A .int = (match x with | .num _ => true | _ => false)) := by
  cases x with
  | non => exact ⟨.non, by rw [anD_non]; rfl, rfl, rfl, rfl⟩
  | num n => exact ⟨.int, by rw [anD_num]; rfl, rfl, rfl, rfl⟩
  | lst xs => exact ⟨.list, by rw [anD_lst]; rfl, rfl, rfl, rfl⟩
  | obj ks xs => exact ⟨.dict, by rw [anD_obj]; rfl, rfl, rfl, rfl⟩
section
variable {P : Program} {w : World} {K : PySem.W.Frag} {mg : Str → Option Value} {base : Heap} {f : Addr} {fd : FuncData} {c : Cs}
def sCopied (m : Nat) : Spec := fun ds μ Φ _ => ∃ x : An, ds = [anD x] ∧ cpOk m x ∧ Φ (anD x) μ
theorem copied_body (F : Fd K "copied" "copied" s_copied f fd) (T : Bn mg) (m : Nat) (hrec : ∀ l, m = l + 1 → Cal P w K mg base (3 + l + 1) "copied" (sCopied l)) : FnR P w K mg base CX0 (3 + m + 1) f (spD K (sCopied m)) := by
  refine fn_D F sc_copied (fun _ _ _ _ _ _ us hl => match us, hl with | [_], _ => rfl) (fun ds μ Φ Ψ h => by obtain ⟨_, rfl, _⟩ := h; rfl) ?_
  have hN := sc_copied.nd
  rintro cdv A outer s0 H E hr ds μ Φ Ψ ⟨x, rfl, hx, k⟩
  obtain ⟨A', hA, hd, hl, _⟩ := ty_an x
  kpc_obj
  refine ⟨_, isi_i hA (by decide), ?_⟩
  rw [hd]
  cases x with
  | obj ks xs =>
    cases m with
    | zero => exact hx.elim
    | succ m =>
      obtain ⟨h1, h2, h3, h4⟩ := hx
      refine bl_i (it_t ?_)
      refine wb_one (ws_ret ?_)
      refine we_dc1 [("name", 1), ("value", 2)] (fun p : Nat × An => .tup [Nm p.1, anD p.2]) (fun p => nmK p.1) (fun p => anD p.2) (ks.zip xs) (by kp_flats) (by assumption) rfl (by kpc_if) ?_ (by rw [List.length_zip]; omega) ?_ ?_ ?_
      · refine wi_items ?_
        kpc_obj
        exact ⟨_, _, anD_obj ks xs, items_an h2, rfl⟩
      · rw [← (zip_keys h2).1]
        exact nd_keys h3
      · rintro p hp Y ⟨s1, H1, C1, cl1, fp1, rfl⟩ ν
        refine wg_tup rfl ?_
        kpc_obj
        rintro Y ⟨s1, H1, C1, cl1, fp1, rfl⟩
        kpc_obj
        refine ⟨rfl, ?_⟩
        rintro Y ⟨s1, H1, C1, cl1, fp1, rfl⟩
        refine we_call (hrec m rfl) (hr.mono (by omega)) ?_
        kpc_obj
        exact ⟨p.2, rfl, h4 _ (List.of_mem_zip (a := p.1) (b := p.2) hp).2, rfl, rfl⟩
      · rw [← (zip_keys h2).1, ← (zip_keys h2).2, ← anD_obj]
        exact k
  | lst xs =>
    cases m with
    | zero => exact hx.elim
    | succ m =>
      obtain ⟨h1, h2⟩ := hx
      refine bl_i (it_f (wb_nil ?_))
      kpc_obj
      refine we_lcn [("item", 3)] (by kp_flats) (by assumption) rfl (by kpc_if) ?_
      refine wlc_N anD anD xs ?_ (by omega) ?_ ?_
      · refine wi_lst ?_
        kpc_obj
        exact ⟨_, anD_lst xs, rfl, rfl⟩
      · rintro p hp Y ⟨s1, H1, C1, cl1, fp1, rfl⟩ ν
        kpc_obj
        rintro Y ⟨s1, H1, C1, cl1, fp1, rfl⟩
        refine we_call (hrec m rfl) (hr.mono (by omega)) ?_
        kpc_obj
        exact ⟨p, rfl, h2 p hp, rfl, rfl⟩
      · rw [← anD_lst]
        exact k
  | non =>
    refine bl_i (it_f (wb_nil ?_))
    kpc_obj
    all_goals exact k
  | num n =>
    refine bl_i (it_f (wb_nil ?_))
    kpc_obj
    all_goals exact k
theorem ok_copied (F : Fd K "copied" "copied" s_copied f fd) (T : Bn mg) (hself : mg "copied" = some (.ref f) ∧ PySem.W.keepIn K (.ref f) = true) : ∀ m, FnR P w K mg base CX0 (3 + m + 1) f (spD K (sCopied m))
  | 0 => copied_body F T 0 (fun l e => by omega)
  | m + 1 => copied_body F T (m + 1) (fun l e => by cases (Nat.succ.inj e); exact ⟨f, hself.1, hself.2, ok_copied F T hself m⟩)
end
end
section
/-! ### the law's own helpers: cells, less, some -/
abbrev csD (cs : List Cl) : D := .tup (cs.map clD)
def rowC (cs : List Cl) (i : Nat) : List Cl := (lets.filter fun c => decide ((i, c) ∈ cs)).map fun c => (i, c)
theorem norm_rows (cs : List Cl) : norm cs = (List.range 6).flatMap (rowC cs) := by
  unfold norm allC rowC
  rw [List.filter_flatMap]
  refine congrArg (fun f => (List.range 6).flatMap f) (funext fun i => ?_)
  rw [List.filter_map]
  rfl
theorem rowC_len (cs : List Cl) (i : Nat) : (rowC cs i).length ≤ 6 := by
  unfold rowC
  rw [List.length_map]
  exact List.length_filter_le _ _
section
variable {P : Program} {w : World} {K : PySem.W.Frag} {mg : Str → Option Value} {base : Heap} {f : Addr} {fd : FuncData}
/-- a list or a tuple of these cells -/
def ClsD (x : D) (cs : List Cl) : Prop := x = .lst (cs.map clD) ∨ x = .tup (cs.map clD)
theorem ClsD.py {x : D} {cs : List Cl} (h : ClsD x cs) (μ : Mu) : Py μ x (.list (cs.map clP)) ∨ Py μ x (.tuple (cs.map clP)) := by
  rcases h with rfl | rfl
  · exact .inl (py_clL cs)
  · exact .inr (py_clT cs)
def sLCells : Spec := fun ds μ Φ _ => ∃ (x : D) (cs : List Cl), ds = [x] ∧ ClsD x cs ∧ (∀ y ∈ cs, letter y.2) ∧ Φ (csD (norm cs)) μ
theorem ok_law_cells (F : Fd K "_law_cells" "_law_cells" s_law_cells f fd) (T : Bn mg) : FnR P w K mg base CX0 1 f (spD K sLCells) := by
  refine fn_D F sc_law_cells (fun _ _ _ _ _ _ us hl => match us, hl with | [_], _ => rfl) (fun ds μ Φ Ψ h => by obtain ⟨_, _, rfl, _⟩ := h; rfl) ?_
  have hN := sc_law_cells.nd
  rintro cdv A outer s H E hr ds μ Φ Ψ ⟨x, cs, rfl, hx, hcs, k⟩
  kqd_all
  refine we_lst ?_
  kqd_all
  refine ws_forL (α := List Cl) (β := Nat) [2] [2] (fun i => D.int (0 + (i : Nat))) (fun acc => [some x, some (.lst (acc.map clD)), none, none]) (fun _ => μ) (fun rest acc => acc ++ rest.flatMap (rowC cs) = norm cs ∧ acc.length + 6 * rest.length ≤ 36 ∧ ∀ i ∈ rest, i < 6) PassesOwn.never rfl ?_ ?_ ?_
  · refine wi_range T ?_
    kqd_all
    exact ⟨by omega, by omega, List.range _, rfl, [], rfl, rfl, by rw [norm_rows]; rfl, by decide, fun i hi => List.mem_range.mp hi⟩
  · rintro i rest acc ⟨h1, h2, h3⟩
    have hi := h3 i List.mem_cons_self
    kqd_all
    refine we_lcn [("_law_name", 3)] (by kp_flats) (by assumption) rfl (by kpc_if) ?_
    refine wlc_F (β := Nat) Nm (fun c => clD (i, c)) (fun c => decide ((i, c) ∈ cs)) lets ?_ (by decide) ?_ ?_
    · refine wi_str ?_
      kqd_all
      exact ⟨_, rfl, rfl, rfl⟩
    · rintro y hy Y ⟨s1, H1, C1, cl1, fp1, rfl⟩ ν
      kpc_obj
      rintro Y ⟨s1, H1, C1, cl1, fp1, rfl⟩
      refine wts_one (wt_cmp (op := .In) (op_inDA (by assumption)) ?_)
      kpc_obj
      have e0 : (D.tup [D.int (0 + (i : Nat)), Nm y]) = clD (i, y) := by rw [Int.zero_add]
      rw [e0]
      refine rd_inCl (hx.py _) (mem_allC.mp (by unfold allC; exact List.mem_flatMap.mpr ⟨i, List.mem_range.mpr hi, List.mem_map.mpr ⟨y, hy, rfl⟩⟩)).2 hcs ?_
      refine bl_i ⟨rfl, by simp, fun _ => ?_⟩
      rintro Y ⟨s1, H1, C1, cl1, fp1, rfl⟩
      kpc_obj
      exact ⟨rfl, e0⟩
    have er : (lets.filter fun c => decide ((i, c) ∈ cs)).map (fun c => clD (i, c)) = (rowC cs i).map clD := by unfold rowC; rw [List.map_map]; rfl
    rw [er]
    have hrl := rowC_len cs i
    refine rd_addL (.inl rfl) (.inl rfl) (by simp only [List.length_map, List.length_cons] at h2 ⊢; omega) ?_
    refine wb_nil ⟨acc ++ rowC cs i, by simp only [wipeR, List.set, List.foldl, List.map_append], rfl, ?_, ?_, fun j hj => h3 j (List.mem_cons_of_mem _ hj)⟩
    · rw [List.append_assoc, ← List.flatMap_cons]
      exact h1
    · simp only [List.length_append, List.length_cons] at h2 ⊢
      omega
  · rintro acc ⟨h1, h2, h3⟩
    rw [List.flatMap_nil, List.append_nil] at h1
    subst h1
    kqd_all
def sLLess : Spec := fun ds μ Φ _ => ∃ (y : D) (cs es : List Cl), ds = [csD cs, y] ∧ ClsD y es ∧ (∀ y ∈ cs, letter y.2) ∧ (∀ y ∈ es, letter y.2) ∧ cs.length ≤ 100 ∧ Φ (csD (cs.filter fun c => !decide (c ∈ es))) μ
theorem ok_law_less (F : Fd K "_law_less" "_law_less" s_law_less f fd) (T : Bn mg) : FnR P w K mg base CX0 1 f (spD K sLLess) := by
  refine fn_D F sc_law_less (fun _ _ _ _ _ _ us hl => match us, hl with | [_, _], _ => rfl) (fun ds μ Φ Ψ h => by obtain ⟨_, _, _, rfl, _⟩ := h; rfl) ?_
  have hN := sc_law_less.nd
  rintro cdv A outer s H E hr ds μ Φ Ψ ⟨y, cs, es, rfl, hy, hcs, hes, hl, k⟩
  kqd_all
  refine we_lcn [("_law_cell", 2)] (by kp_flats) (by assumption) rfl (by kpc_if) ?_
  refine wlc_F clD clD (fun c => !decide (c ∈ es)) cs ?_ (by omega) ?_ ?_
  · refine wi_tup ?_
    kqd_all
    exact ⟨_, rfl, rfl, rfl⟩
  · rintro z hz Y ⟨s1, H1, C1, cl1, fp1, rfl⟩ ν
    kpc_obj
    rintro Y ⟨s1, H1, C1, cl1, fp1, rfl⟩
    refine wts_one (wt_cmp (op := .NotIn) (op_notInDA (by assumption)) ?_)
    kpc_obj
    refine rd_inCl (hy.py _) (hcs z hz) hes ?_
    refine bl_i ⟨rfl, by simp, fun _ => ?_⟩
    rintro Y ⟨s1, H1, C1, cl1, fp1, rfl⟩
    kpc_obj
    exact ⟨rfl, rfl⟩
  exact ⟨_, _, .f, k⟩
theorem mem_norm {c : Cl} {cs : List Cl} : c ∈ norm cs ↔ okCl c ∧ c ∈ cs := by
  unfold norm
  rw [List.mem_filter, mem_allC, decide_eq_true_eq]
theorem norm_norm (cs : List Cl) : norm (norm cs) = norm cs := by
  show allC.filter _ = allC.filter _
  refine List.filter_congr fun c hc => ?_
  have h := mem_allC.mp hc
  rw [decide_eq_decide, mem_norm]
  exact ⟨fun z => z.2, fun z => ⟨h, z⟩⟩
/-- in order, each once -/
def NOk (cs : List Cl) : Prop := cs = norm cs
theorem NOk.fok {cs : List Cl} (h : NOk cs) : FOk cs := by
  have z := fok_norm cs
  rw [← show cs = norm cs from h] at z
  exact z
theorem nok_norm (cs : List Cl) : NOk (norm cs) := (norm_norm cs).symm
theorem nok_nil : NOk [] := by
  show ([] : List Cl) = norm []
  decide +kernel
def sLSome : Spec := fun ds μ Φ _ => ∃ (a : Addr) (sc : List Int) (k : Nat) (cs : List Cl) (g : M → Mu), ds = [.ref a, .lst (cs.map clD)] ∧ (∀ c ∈ cs, letter c.2) ∧ cs.length ≤ 100 ∧ AtF μ a (drM sc k) g ∧ ∀ es k', NOk es → Φ (csD es) (g (drM sc k'))
theorem ok_law_some (F : Fd K "_law_some" "_law_some" s_law_some f fd) (T : Bn mg) (c_next : Cal P w K mg base 4 "_law_next" sNext) (c_cells : Cal P w K mg base 1 "_law_cells" sLCells) : FnR P w K mg base CX0 5 f (spD K sLSome) := by
  refine fn_D F sc_law_some (fun _ _ _ _ _ _ us hl => match us, hl with | [_, _], _ => rfl) (fun ds μ Φ Ψ h => by obtain ⟨_, _, _, _, _, rfl, _⟩ := h; rfl) ?_
  have hN := sc_law_some.nd
  rintro cdv A outer s0 H E hr ds μ Φ Ψ ⟨a, sc, k, cs, g, rfl, hcs, hl, pk, q⟩
  kqd_all
  refine we_call c_cells (hr.mono (by decide)) ?_
  kqd_all
  refine we_lcn [("_law_cell", 2)] (by kp_flats) (by assumption) rfl (by kpc_if) ?_
  refine wlc_L (α := Nat) (β := Cl) clD (fun k => g (drM sc k)) (fun rest acc _ => ∃ es : List Cl, acc = es.map clD ∧ es.length + rest.length ≤ 101 ∧ (∀ c ∈ rest, letter c.2) ∧ ∀ c ∈ es, letter c.2) ?_ ?_ ?_
  · refine wi_lst ?_
    kqd_all
    refine rd_addL (.inl rfl) (.inl rfl) (by simp; omega) ?_
    have hle : letter 102 := by unfold letter; omega
    exact ⟨_, rfl, cs ++ [(5, 102)], by rw [List.map_append]; rfl, k, pk.self.symm, [], rfl, by simp; omega, fun c hc => by
      rcases List.mem_append.mp hc with h | h
      · exact hcs c h
      · rw [List.mem_singleton.mp h]; exact hle, fun _ h => (List.not_mem_nil h).elim⟩
  · rintro D0 x rest acc k1 ⟨es, rfl, hn, h1, h2⟩
    refine ⟨by simp at hn ⊢; omega, ⟨?_⟩⟩
    rintro Y ⟨s1, H1, C1, cl1, fp1, rfl⟩
    kpc_obj
    rintro Y ⟨s1, H1, C1, cl1, fp1, rfl⟩
    refine wts_one ?_
    kpc_obj
    refine we_call c_next (hr.mono (by decide)) ?_
    kpc_obj
    refine ⟨a, sc, k1, _, _, rfl, by decide, .there (pk.again _), fun r k' hr0 hr1 => ?_⟩
    kpc_obj
    refine it_by (fun _ => ?_) fun _ => ?_
    · rintro Y ⟨s1, H1, C1, cl1, fp1, rfl⟩
      kpc_obj
      exact ⟨_, rfl, k', rfl, es ++ [x], by simp, by simp at hn ⊢; omega, fun c hc => h1 c (List.mem_cons_of_mem _ hc), fun c hc => by
        rcases List.mem_append.mp hc with h | h
        · exact h2 c h
        · rw [List.mem_singleton.mp h]; exact h1 x List.mem_cons_self⟩
    · exact ⟨_, rfl, k', rfl, es, rfl, by simp at hn ⊢; omega, fun c hc => h1 c (List.mem_cons_of_mem _ hc), h2⟩
  · rintro acc k1 ⟨es, rfl, hn, h1, h2⟩
    kpc_obj
    exact ⟨_, es, rfl, .inl rfl, h2, q _ _ (nok_norm es)⟩
end
end
end DL
namespace DL
open PySem PySem.Spec PyProof.Rows L2
local macro_rules | `(tactic| kqd_ok) => `(tactic| repeat (first | with_reducible exact Ix.here | with_reducible apply Ix.there))
local macro_rules | `(tactic| kp_flats) => `(tactic| repeat (first | with_reducible exact Nx.cx | with_reducible exact Nx.cx0 | with_reducible apply Nx.blk))
local macro_rules | `(tactic| kpc_turns) => `(tactic| repeat (first | with_reducible exact At.here | with_reducible exact Pick.here | with_reducible exact AtF.here | with_reducible assumption | with_reducible apply At.there | with_reducible apply Pick.there | with_reducible apply AtF.there))
local macro_rules | `(tactic| kmj_zero) => `(tactic| refine we_vn (by kp_flats) (by kqd_ok) ?_)
local macro_rules | `(tactic| kj_one) => `(tactic| first
  | ((with_reducible show WE _ (Expr.Call (Expr.Name "isinstance" _) _ _ _) _ _ _); refine we_isi (by assumption) ?_)
  | ((with_reducible show WE _ (Expr.Call (Expr.Name "len" _) _ _ _) _ _ _); (fail_if_success (with_reducible show WE _ (Expr.Call _ [Expr.SetComp _ _ _ _] _ _) _ _ _)); (fail_if_success (with_reducible show WE _ (Expr.Call _ [Expr.Name "self" _] _ _) _ _ _)); (fail_if_success (with_reducible show WE _ (Expr.Call _ [Expr.Name "schema" _] _ _) _ _ _)); (fail_if_success (with_reducible show WE _ (Expr.Call _ [Expr.Name "thing" _] _ _) _ _ _)); (fail_if_success (with_reducible show WE _ (Expr.Call _ [Expr.Name "_law_session" _] _ _) _ _ _)); refine we_len (by assumption) ?_)
  | ((with_reducible show WE _ (Expr.Call (Expr.Name "all" _) _ _ _) _ _ _); refine we_all (by assumption) rfl ?_)
  | ((with_reducible show WE _ (Expr.Call (Expr.Name "int" _) _ _ _) _ _ _); refine we_intf (by assumption) ?_)
  | ((with_reducible show WE _ (Expr.Call (Expr.Name "tuple" _) _ _ _) _ _ _); refine we_tupT (by assumption) ?_)
  | ((with_reducible show WE _ (Expr.Call (Expr.Attribute _ "append" _) _ _ _) _ _ _); refine we_app ?_))
local macro_rules | `(tactic| top_args) => `(tactic| first
  | ((with_reducible show WE _ (Expr.Name "int" _) _ _ _); refine we_t1 (by assumption) ?_)
  | ((with_reducible show WE _ (Expr.Name "str" _) _ _ _); refine we_t2 (by assumption) ?_)
  | ((with_reducible show WE _ (Expr.Name "tuple" _) _ _ _); refine we_t3 (by assumption) ?_)
  | ((with_reducible show WE _ (Expr.Name "list" _) _ _ _); refine we_t4 (by assumption) ?_)
  | ((with_reducible show WE _ (Expr.Name "bool" _) _ _ _); refine we_t5 (by assumption) ?_)
  | ((with_reducible show WE _ (Expr.Name "dict" _) _ _ _); refine we_t6 (by assumption) ?_))
local macro_rules | `(tactic| kmk_pure) => `(tactic| first
  | refine we_cmp (op := .Eq) (op_eqA (by assumption)) ?_ | refine we_cmp (op := .NotEq) (op_neA (by assumption)) ?_ | refine we_cmp (op := .Is) (r := rIsN) op_isN ?_ | refine we_cmp (op := .IsNot) (r := rNotN) op_notN ?_
  | refine we_cmp (op := .Lt) op_lt ?_ | refine we_cmp (op := .LtE) op_le ?_ | refine we_cmp (op := .Gt) op_gt ?_ | refine we_cmp (op := .GtE) op_ge ?_
  | refine we_chain op_le op_le ?_)
local macro_rules | `(tactic| kmk_part) => `(tactic| first
  | refine wt_cmp (op := .Eq) (op_eqA (by assumption)) ?_ | refine wt_cmp (op := .NotEq) (op_neA (by assumption)) ?_ | refine wt_cmp (op := .Is) (r := rIsN) op_isN ?_ | refine wt_cmp (op := .IsNot) (r := rNotN) op_notN ?_
  | refine wt_cmp (op := .Lt) op_lt ?_ | refine wt_cmp (op := .LtE) op_le ?_ | refine wt_cmp (op := .Gt) op_gt ?_ | refine wt_cmp (op := .GtE) op_ge ?_
  | refine wt_chain op_le op_le ?_)
local macro_rules | `(tactic| kpc_none) => `(tactic| first
  | ((with_reducible show WE _ (Expr.BinOp _ Operator.Add _ _) _ _ _); refine we_bin (op := .Add) op_addA ?_)
  | ((with_reducible show WE _ (Expr.BinOp _ Operator.Sub _ _) _ _ _); refine we_bin (op := .Sub) op_sub ?_)
  | ((with_reducible show WE _ (Expr.BinOp _ Operator.Mult _ _) _ _ _); refine we_bin (op := .Mult) op_mulA ?_)
  | ((with_reducible show WE _ (Expr.BinOp _ Operator.Mod _ _) _ _ _); refine we_bin (op := .Mod) op_mod ?_)
  | ((with_reducible show WE _ (Expr.BinOp _ Operator.FloorDiv _ _) _ _ _); refine we_bin (op := .FloorDiv) op_fdivW ?_)
  | ((with_reducible show WE _ (Expr.BinOp _ Operator.Pow _ _) _ _ _); refine we_bin (op := .Pow) op_pow ?_))
local macro_rules | `(tactic| tb_rel) => `(tactic| first
  | ((with_reducible show WE _ (Expr.Name _ _) _ _ _); first | kmj_zero | top_args)
  | ((with_reducible show WE _ (Expr.Constant _ _ _) _ _ _); first | refine we_int ?_ | refine we_str ?_ | refine we_non ?_ | refine we_bl ?_)
  | ((with_reducible show WE _ (Expr.Call _ _ _ _) _ _ _); kj_one)
  | ((with_reducible show WE _ (Expr.BoolOp _ _ _) _ _ _); first | refine we_one ?_ | refine we_and ?_ | refine we_or ?_)
  | ((with_reducible show WE _ (Expr.UnaryOp _ _ _) _ _ _); first | refine we_not ?_ | refine we_un un_neg ?_)
  | ((with_reducible show WE _ (Expr.IfExp _ _ _ _) _ _ _); refine we_ifx ?_)
  | ((with_reducible show WE _ (Expr.Compare _ _ _ _) _ _ _); kmk_pure)
  | ((with_reducible show WE _ (Expr.BinOp _ _ _ _) _ _ _); kpc_none)
  | ((with_reducible show WE _ (Expr.Subscript _ (Expr.Slice _ _ _ _) _) _ _ _); fail)
  | ((with_reducible show WE _ (Expr.Subscript _ _ _) _ _ _); (fail_if_success (with_reducible show WE _ (Expr.Subscript _ (Expr.Tuple _ _ _) _) _ _ _)); refine we_ix ix_seq ?_)
  | ((with_reducible show WE _ (Expr.Tuple _ _ _) _ _ _); refine we_tup ?_)
  | ((with_reducible show WE _ (Expr.List (_ :: _) _) _ _ _); refine we_lst ?_)
  | ((with_reducible show WA _ _ _ _ _); first | refine wa_nil ?_ | refine wa_cons ?_)
  | ((with_reducible show WO _ _ _ _ _); first | refine wo_no ?_ | refine wo_so ?_))
local macro_rules | `(tactic| tb_start) => `(tactic| first
  | ((with_reducible show WT _ (Expr.UnaryOp _ _ _) _ _ _); refine wt_not ?_)
  | ((with_reducible show WT _ (Expr.BoolOp _ _ _) _ _ _); first | refine wt_ww (ww_and ?_) | refine wt_ww (ww_or ?_))
  | ((with_reducible show WW _ (Expr.BoolOp _ _ _) _ _ _); first | refine ww_and1 ?_ | refine ww_or1 ?_ | refine ww_and ?_ | refine ww_or ?_)
  | ((with_reducible show WT _ (Expr.Compare _ _ _ _) _ _ _); kmk_part)
  | ((with_reducible show WT _ _ _ _ _); refine wt_val ?_))
local macro_rules | `(tactic| kpe_step) => `(tactic| first
  | ((with_reducible show WB _ _ _ _ _); refine wb_cons ?_)
  | ((with_reducible show WS _ (Stmt.Return _ _) _ _ _); refine ws_ret ?_)
  | ((with_reducible show WS _ (Stmt.Expr _ _) _ _ _); refine ws_expr ?_)
  | ((with_reducible show WS _ (Stmt.Assign [Expr.Name _ _] _ _) _ _ _); refine ws_setn (by kp_flats) (by kqd_ok) (by assumption) ?_)
  | ((with_reducible show WS _ (Stmt.Assign [Expr.Tuple [Expr.Name _ _, Expr.Name _ _] _ _] (Expr.Tuple [_, _] _ _) _) _ _ _); refine ws_par2 (by kp_flats) (by kqd_ok) (by kqd_ok) (by assumption) rfl ?_)
  | ((with_reducible show WS _ (Stmt.If _ _ _ _) _ _ _); refine ws_if ?_)
  | ((with_reducible show WG _ (Expr.Name _ _) _ _ _ _ _); refine wg_n (by kp_flats) (by kqd_ok) (by assumption) ?_)
  | ((with_reducible show WG _ (Expr.Tuple _ _ _) _ _ _ _ _); refine wg_tup rfl ?_)
  | ((with_reducible show WGs _ _ _ _ _ _ _); first | refine wgs_nil ?_ | refine wgs_cons ?_)
  | ((with_reducible show WTs _ _ _ _ _); first | refine wts_nil ?_ | refine wts_one ?_))
local macro_rules | `(tactic| kj_step) => `(tactic| first
  | ((with_reducible show Bl _ _ _); refine bl_i ?_)
  | ((with_reducible show It true _ _); refine it_t ?_)
  | ((with_reducible show It false _ _); refine it_f ?_)
  | ((with_reducible show It (!isB _ _) _ _); first | refine it_f ?_ | refine it_t ?_)
  | ((with_reducible show It (isB _ _) _ _); first | refine it_f ?_ | refine it_t ?_)
  | ((with_reducible show It (decide _) _ _); first | refine it_yes (by first | decide | exact rfl) ?_ | refine it_no (by decide) ?_)
  | ((with_reducible show It (!decide _) _ _); first | refine it_noN (by first | decide | exact rfl) ?_ | refine it_yesN (by decide) ?_)
  | ((with_reducible show It (!false) _ _); refine it_t ?_)
  | ((with_reducible show It (!true) _ _); refine it_f ?_)
  | ((with_reducible show UD _ _ _ _ _); refine ud_neg ?_)
  | ((with_reducible show RD _ _ _ _ _ _); first
    | ((with_reducible show RD _ (rEqA _) _ _ _ _); first | with_reducible refine rd_eqP (rd_eqNm ?_) | with_reducible refine rd_eqP (rd_eqOI ?_) | with_reducible refine rd_eqP (rd_eqS ?_) | with_reducible refine rd_eqP (rd_eqI ?_) | with_reducible refine rd_eqP (rd_eqB ?_) | refine rd_eqP (rd_eq .non (.int _) rfl ?_) | refine rd_eqP (rd_eq (.int _) .non rfl ?_) | refine rd_eqP (rd_eq .non .non rfl ?_))
    | ((with_reducible show RD _ (rNeA _) _ _ _ _); first | with_reducible refine rd_neP (rd_neNm ?_) | with_reducible refine rd_neP (rd_neOI ?_) | with_reducible refine rd_neP (rd_neS ?_) | with_reducible refine rd_neP (rd_neI ?_))
    | ((with_reducible show RD _ rIsN _ _ _ _); refine rd_isN ?_) | ((with_reducible show RD _ rNotN _ _ _ _); refine rd_notN ?_)
    | ((with_reducible show RD _ (rI0 _) _ _ _ _); first | refine rd_I0 (fun _ => .int _) ?_ | refine rd_I0 (fun _ => .bl _) ?_)
    | ((with_reducible show RD _ (rAdd _) (D.int _) (D.int _) _ _); refine rd_addI ?_)
    | ((with_reducible show RD _ rMul (D.int _) (D.int _) _ _); refine rd_mulI (by first | exact cmul_r (by decide) (by decide) | exact cmul_l (by decide) (by decide)) ?_)
    | ((with_reducible show RD _ (rI CPow _) _ _ _ _); refine rd_pow ⟨by decide, by decide, by decide⟩ ?_)
    | ((with_reducible show RD _ (rI CDivW _) _ _ _ _); refine rd_fdiv ⟨by decide, by decide⟩ ?_)
    | ((with_reducible show RD _ (rI _ _) _ _ _ _); refine rd_mod (by first | decide | assumption) ?_)
    | ((with_reducible show RD _ (rIx _) _ _ _ _); first | refine rd_ixT (d := _) rfl ?_ | refine rd_ixL (d := _) rfl ?_ | refine rd_ixM (by kpc_turns) (d := _) rfl ?_))
  | ((with_reducible show ∃ b, IsiD _ _ b ∧ _); refine ⟨_, isi_i rfl (by decide), ?_⟩)
  | ((with_reducible show ∃ i, D.int _ = D.int i ∧ _); refine ⟨_, rfl, ?_⟩)
  | ((with_reducible show ∃ q ds0 μ0, D.ref _ = D.ref q ∧ _); refine ⟨_, _, _, rfl, by kpc_turns, ?_⟩)
  | ((with_reducible show ∃ ds μ', At _ _ _ _ μ' ∧ List.length _ < 1000 ∧ _); refine ⟨_, _, by kpc_turns, ?_, ?_⟩)
  | ((with_reducible show ∃ ds μ2, TakeL _ _ ds μ2 ∧ _); first | refine ⟨_, _, .f, ?_⟩ | refine ⟨_, _, .m (by kpc_turns), ?_⟩)
  | ((with_reducible show List.length _ ≤ 1000 ∧ _); refine ⟨Nat.le_of_ble_eq_true rfl, ?_⟩)
  | ((with_reducible show ∃ n, LenD _ _ n ∧ _); first | refine ⟨_, len_t, ?_⟩ | refine ⟨_, len_l, ?_⟩ | refine ⟨_, len_nm, ?_⟩ | refine ⟨_, len_m (by kpc_turns), ?_⟩))
local macro_rules | `(tactic| kpc_obj) => `(tactic| repeat (first | kj_step | tb_rel | tb_start | with_reducible assumption | kpe_step))
local macro_rules | `(tactic| kqd_all) => `(tactic| repeat (first | kj_step | tb_rel | tb_start | with_reducible assumption | kpe_step | ((with_reducible show WB _ _ _ _ _); refine wb_nil ?_)))
local macro_rules | `(tactic| kpc_if) => `(tactic| exact blkok_of rfl (by kernel_rfl) (by kernel_rfl) (by kernel_rfl) (by kernel_rfl))
section
abbrev ansD (c : Cs) (x : An) : D := .ins c.A [anD x]
section
variable {P : Program} {w : World} {K : PySem.W.Frag} {mg : Str → Option Value} {base : Heap} {f : Addr} {fd : FuncData} {c : Cs}
def sIsData (l : Nat) : Spec := fun ds μ Φ _ => ∃ (ks : List Nat) (xs : List An), ds = [anD (.obj ks xs), .int (l : Nat)] ∧ itOk l (.obj ks xs) ∧ Φ (.bl true) μ
def sIsItem (l : Nat) : Spec := fun ds μ Φ _ => ∃ x : An, ds = [anD x, .int (l : Nat)] ∧ itOk l x ∧ Φ (.bl true) μ
def sIsLeft (l : Nat) : Spec := fun ds μ Φ _ => ∃ x : An, ds = [anD x, .int (l : Nat)] ∧ lfOk l x ∧ Φ (.bl true) μ
theorem data_body (F : Fd K "is_data" "is_data" s_is_data f fd) (T : Bn mg) (l : Nat) (c_name : Cal P w K mg base 1 "is_name" sIsName) (c_left : Cal P w K mg base (3 + 3 * l + 2) "is_left" (sIsLeft l)) : FnR P w K mg base CX0 (3 + 3 * (l + 1)) f (spD K (sIsData (l + 1))) := by
  have e0 : 3 + 3 * (l + 1) = (3 + 3 * l + 2) + 1 := by omega
  rw [e0]
  refine fn_D F sc_is_data (fun _ _ _ _ _ _ us hl => match us, hl with | [_, _], _ => rfl) (fun ds μ Φ Ψ h => by obtain ⟨_, _, rfl, _⟩ := h; rfl) ?_
  have hN := sc_is_data.nd
  rintro cdv A outer s0 H E hr ds μ Φ Ψ ⟨ks, xs, rfl, hx, k⟩
  obtain ⟨h0, h1, h2, h3, h4, h5⟩ := itOk_obj.mp hx
  have hpos : 0 < ks.length := List.length_pos_iff.mpr h0
  kpc_obj
  refine it_no (by omega) ?_
  kpc_obj
  refine we_lenDc T ?_
  kpc_obj
  refine ⟨_, _, anD_obj ks xs, ?_⟩
  rw [List.length_map]
  kpc_obj
  refine it_yes (by omega) ?_
  kpc_obj
  refine it_noN (by omega) ?_
  refine wb_nil ?_
  kpc_obj
  refine we_lcn [("name", 2), ("value", 3)] (by kp_flats) (by assumption) rfl (by kpc_if) ?_
  refine wlc_N (fun p : Nat × An => .tup [Nm p.1, anD p.2]) (fun _ => .bl true) (ks.zip xs) ?_ (by rw [List.length_zip]; omega) ?_ ?_
  · refine wi_items ?_
    kpc_obj
    exact ⟨_, _, anD_obj ks xs, items_an h2, rfl⟩
  · rintro p hp Y ⟨s1, H1, C1, cl1, fp1, rfl⟩ ν
    obtain ⟨hp1, hp2⟩ := List.of_mem_zip (a := p.1) (b := p.2) hp
    refine wg_tup rfl ?_
    kpc_obj
    rintro Y ⟨s1, H1, C1, cl1, fp1, rfl⟩
    refine we_and ?_
    refine we_call c_name (hr.mono (by omega)) ?_
    kpc_obj
    refine ⟨p.1, rfl, (h4 _ hp1).1, (h4 _ hp1).2, ?_⟩
    kpc_obj
    refine we_call c_left (hr.mono (by omega)) ?_
    kpc_obj
    exact ⟨p.2, by rw [show (((l + 1 : Nat) : Int) - 1) = ((l : Nat) : Int) from by omega], h5 _ hp2, rfl, rfl⟩
  refine ⟨(ks.zip xs).map fun _ => true, by rw [List.map_map]; rfl, ?_⟩
  rw [all_true]
  exact k
theorem item_body (F : Fd K "is_item" "is_item" s_is_item f fd) (T : Bn mg) (l : Nat) (c_number : Cal P w K mg base 1 "is_number" sIsNumber) (c_data : ∀ l', l = l' + 1 → Cal P w K mg base (3 + 3 * l) "is_data" (sIsData l)) : FnR P w K mg base CX0 (3 + 3 * l + 1) f (spD K (sIsItem l)) := by
  refine fn_D F sc_is_item (fun _ _ _ _ _ _ us hl => match us, hl with | [_, _], _ => rfl) (fun ds μ Φ Ψ h => by obtain ⟨_, rfl, _⟩ := h; rfl) ?_
  have hN := sc_is_item.nd
  rintro cdv A outer s0 H E hr ds μ Φ Ψ ⟨x, rfl, hx, k⟩
  kpc_obj
  rw [isn_an]
  cases x with
  | non => exact it_t k
  | lst xs => exact (by cases l <;> exact hx.elim)
  | num n =>
    have hn : n ≤ 9 := by cases l <;> exact hx
    refine it_f ?_
    refine we_or ?_
    refine we_call c_number (hr.mono (by omega)) ?_
    kpc_obj
    refine .inr ⟨_, 0, some 9, rfl, .inl ⟨(n : Int), by rw [anD_num], ?_⟩⟩
    have e : (decide ((0 : Int) ≤ (n : Int)) && decide ((n : Int) ≤ 9)) = true := by simp; omega
    rw [e]
    exact bl_i (it_t k)
  | obj ks xs =>
    cases l with
    | zero => exact hx.elim
    | succ l =>
      obtain ⟨A', hA, _, _, hi⟩ := ty_an (.obj ks xs)
      refine it_f ?_
      refine we_or ?_
      refine we_call c_number (hr.mono (by omega)) ?_
      kpc_obj
      refine .inr ⟨_, 0, some 9, rfl, .inr ⟨A', hA, hi, ?_⟩⟩
      refine bl_i (it_f ?_)
      refine we_one ?_
      refine we_call (c_data l rfl) hr ?_
      kpc_obj
      exact ⟨ks, xs, rfl, hx, k⟩
theorem left_body (F : Fd K "is_left" "is_left" s_is_left f fd) (T : Bn mg) (l : Nat) (c_item : Cal P w K mg base (3 + 3 * l + 1) "is_item" (sIsItem l)) : FnR P w K mg base CX0 (3 + 3 * l + 2) f (spD K (sIsLeft l)) := by
  refine fn_D F sc_is_left (fun _ _ _ _ _ _ us hl => match us, hl with | [_, _], _ => rfl) (fun ds μ Φ Ψ h => by obtain ⟨_, rfl, _⟩ := h; rfl) ?_
  have hN := sc_is_left.nd
  rintro cdv A outer s0 H E hr ds μ Φ Ψ ⟨x, rfl, hx, k⟩
  obtain ⟨A', hA, _, hl, _⟩ := ty_an x
  have other : itOk l x → isB A' .list = false → WB (cxOf CX0 P w K mg base n_is_left "is_left" (defScope s_is_left) f cdv A outer s0 H E).nox (defBody s_is_left) (rho0 n_is_left [anD x, .int (l : Nat)]) μ ⟨fun _ μ' => Φ .non μ', Φ⟩ := by
    intro hx hb
    kpc_obj
    refine ⟨_, isi_i hA (by decide), ?_⟩
    rw [hb]
    refine bl_i (it_f (wb_nil ?_))
    refine wb_one (ws_ret (we_call c_item hr ?_))
    kpc_obj
    exact ⟨x, rfl, hx, k⟩
  cases x with
  | non => exact other hx hl
  | num n => exact other hx hl
  | obj ks xs => exact other hx hl
  | lst xs =>
    obtain ⟨h1, h2⟩ := hx
    rw [anD_lst]
    kpc_obj
    refine we_len T ?_
    kpc_obj
    rw [List.length_map]
    kpc_obj
    refine it_yes (by omega) ?_
    kpc_obj
    refine we_lcn [("item", 2)] (by kp_flats) (by assumption) rfl (by kpc_if) ?_
    refine wlc_N anD (fun _ => .bl true) xs ?_ (by omega) ?_ ?_
    · refine wi_lst ?_
      kpc_obj
      exact ⟨_, rfl, rfl, rfl⟩
    · rintro p hp Y ⟨s1, H1, C1, cl1, fp1, rfl⟩ ν
      kpc_obj
      rintro Y ⟨s1, H1, C1, cl1, fp1, rfl⟩
      refine we_call c_item hr ?_
      kpc_obj
      exact ⟨p, rfl, h2 p hp, rfl, rfl⟩
    refine ⟨xs.map fun _ => true, by rw [List.map_map]; rfl, ?_⟩
    rw [all_true]
    exact k
def sAnsInit (c : Cs) : Spec := fun ds μ Φ _ => ∃ (q : Addr) (x : An) (g : M → Mu), ds = [.ref q, anD x] ∧ itOk 3 x ∧ (x = .non ∨ ∃ ks xs, x = .obj ks xs) ∧ AtF μ q (.ins c.A []) g ∧ Φ .non (g (.ins c.A [some (anD x)]))
theorem ok_Answer_init (F : Fd K "__init__" "Answer.__init__" s_Answer_xinit f fd) (kl : Kl K c.A) (sl : Sl K c.A "kept" 0) (c_data : Cal P w K mg base 12 "is_data" (sIsData 3)) (c_cop : Cal P w K mg base 10 "copied" (sCopied 6)) : FnR P w K mg base CX0 13 f (spD K (sAnsInit c)) := by
  refine fn_D F sc_Answer_xinit (fun _ _ _ _ _ _ us hl => match us, hl with | [_, _], _ => rfl) (fun ds μ Φ Ψ h => by obtain ⟨_, _, _, rfl, _⟩ := h; rfl) ?_
  have hN := sc_Answer_xinit.nd
  rintro cdv A outer s0 H E hr ds μ Φ Ψ ⟨q, x, g, rfl, hx, hx2, pk, k⟩
  have tail : WB (cxOf CX0 P w K mg base n_Answer_xinit "Answer.__init__" (defScope s_Answer_xinit) f cdv A outer s0 H E).nox ((defBody s_Answer_xinit).drop 1) [some (.ref q), some (anD x)] μ ⟨fun _ μ' => Φ .non μ', Φ⟩ := by
    refine wb_cons (ws_at ?_)
    refine we_call c_cop (hr.mono (by decide)) ?_
    kpc_obj
    refine ⟨x, rfl, (cp_of 3).1 x hx, ?_⟩
    kpc_obj
    exact ⟨q, c.A, 0, _, _, rfl, pk.at _, kl, sl, wb_nil k⟩
  kpc_obj
  rw [isn_an]
  rcases hx2 with rfl | ⟨ks, xs, rfl⟩
  · exact it_f (it_f (wb_nil tail))
  · refine it_t ?_
    refine ww_and1 (wt_not (wt_val ?_))
    refine we_call c_data (hr.mono (by decide)) ?_
    kpc_obj
    refine ⟨ks, xs, rfl, hx, ?_⟩
    exact bl_i (it_f (wb_nil tail))
def sAnsData (c : Cs) : Spec := fun ds μ Φ _ => ∃ x : An, ds = [ansD c x] ∧ itOk 3 x ∧ Φ (anD x) μ
theorem ok_Answer_data (F : Fd K "data" "Answer.data" s_Answer_data f fd) (kl : Kl K c.A) (sl : Sl K c.A "kept" 0) (c_cop : Cal P w K mg base 10 "copied" (sCopied 6)) : FnR P w K mg base CX0 11 f (spD K (sAnsData c)) := by
  refine fn_D F sc_Answer_data (fun _ _ _ _ _ _ us hl => match us, hl with | [_], _ => rfl) (fun ds μ Φ Ψ h => by obtain ⟨_, rfl, _⟩ := h; rfl) ?_
  have hN := sc_Answer_data.nd
  rintro cdv A outer s0 H E hr ds μ Φ Ψ ⟨x, rfl, hx, k⟩
  refine wb_one (ws_ret ?_)
  refine we_call c_cop hr ?_
  kpc_obj
  refine we_at ?_
  kpc_obj
  refine ⟨c.A, 0, _, insd_f rfl, kl, sl, ?_⟩
  kpc_obj
  exact ⟨x, rfl, (cp_of 3).1 x hx, k⟩
end
end
end DL
namespace DL
open PySem PySem.Spec PyProof.Rows L2
local macro_rules | `(tactic| kqd_ok) => `(tactic| repeat (first | with_reducible exact Ix.here | with_reducible apply Ix.there))
local macro_rules | `(tactic| kp_flats) => `(tactic| repeat (first | with_reducible exact Nx.cx | with_reducible exact Nx.cx0 | with_reducible apply Nx.blk))
local macro_rules | `(tactic| kpc_turns) => `(tactic| repeat (first | with_reducible exact At.here | with_reducible exact Pick.here | with_reducible exact AtF.here | with_reducible assumption | with_reducible apply At.there | with_reducible apply Pick.there | with_reducible apply AtF.there))
local macro_rules | `(tactic| kmj_zero) => `(tactic| refine we_vn (by kp_flats) (by kqd_ok) ?_)
local macro_rules | `(tactic| kj_one) => `(tactic| first
  | ((with_reducible show WE _ (Expr.Call (Expr.Name "isinstance" _) _ _ _) _ _ _); refine we_isi (by assumption) ?_)
  | ((with_reducible show WE _ (Expr.Call (Expr.Name "len" _) _ _ _) _ _ _); (fail_if_success (with_reducible show WE _ (Expr.Call _ [Expr.SetComp _ _ _ _] _ _) _ _ _)); (fail_if_success (with_reducible show WE _ (Expr.Call _ [Expr.Name "self" _] _ _) _ _ _)); (fail_if_success (with_reducible show WE _ (Expr.Call _ [Expr.Name "schema" _] _ _) _ _ _)); (fail_if_success (with_reducible show WE _ (Expr.Call _ [Expr.Name "_law_session" _] _ _) _ _ _)); refine we_len (by assumption) ?_)
  | ((with_reducible show WE _ (Expr.Call (Expr.Name "all" _) _ _ _) _ _ _); refine we_all (by assumption) rfl ?_)
  | ((with_reducible show WE _ (Expr.Call (Expr.Name "int" _) _ _ _) _ _ _); refine we_intf (by assumption) ?_)
  | ((with_reducible show WE _ (Expr.Call (Expr.Name "tuple" _) _ _ _) _ _ _); refine we_tupT (by assumption) ?_)
  | ((with_reducible show WE _ (Expr.Call (Expr.Attribute _ "append" _) _ _ _) _ _ _); refine we_app ?_))
local macro_rules | `(tactic| top_args) => `(tactic| first
  | ((with_reducible show WE _ (Expr.Name "int" _) _ _ _); refine we_t1 (by assumption) ?_)
  | ((with_reducible show WE _ (Expr.Name "str" _) _ _ _); refine we_t2 (by assumption) ?_)
  | ((with_reducible show WE _ (Expr.Name "tuple" _) _ _ _); refine we_t3 (by assumption) ?_)
  | ((with_reducible show WE _ (Expr.Name "list" _) _ _ _); refine we_t4 (by assumption) ?_)
  | ((with_reducible show WE _ (Expr.Name "bool" _) _ _ _); refine we_t5 (by assumption) ?_)
  | ((with_reducible show WE _ (Expr.Name "dict" _) _ _ _); refine we_t6 (by assumption) ?_))
local macro_rules | `(tactic| kmk_pure) => `(tactic| first
  | refine we_cmp (op := .Eq) (op_eqA (by assumption)) ?_ | refine we_cmp (op := .NotEq) (op_neA (by assumption)) ?_ | refine we_cmp (op := .Is) (r := rIsN) op_isN ?_ | refine we_cmp (op := .IsNot) (r := rNotN) op_notN ?_
  | refine we_cmp (op := .Lt) op_lt ?_ | refine we_cmp (op := .LtE) op_le ?_ | refine we_cmp (op := .Gt) op_gt ?_ | refine we_cmp (op := .GtE) op_ge ?_
  | refine we_chain op_le op_le ?_)
local macro_rules | `(tactic| kmk_part) => `(tactic| first
  | refine wt_cmp (op := .Eq) (op_eqA (by assumption)) ?_ | refine wt_cmp (op := .NotEq) (op_neA (by assumption)) ?_ | refine wt_cmp (op := .Is) (r := rIsN) op_isN ?_ | refine wt_cmp (op := .IsNot) (r := rNotN) op_notN ?_
  | refine wt_cmp (op := .Lt) op_lt ?_ | refine wt_cmp (op := .LtE) op_le ?_ | refine wt_cmp (op := .Gt) op_gt ?_ | refine wt_cmp (op := .GtE) op_ge ?_
  | refine wt_chain op_le op_le ?_)
local macro_rules | `(tactic| kpc_none) => `(tactic| first
  | ((with_reducible show WE _ (Expr.BinOp _ Operator.Add _ _) _ _ _); refine we_bin (op := .Add) op_addA ?_)
  | ((with_reducible show WE _ (Expr.BinOp _ Operator.Sub _ _) _ _ _); refine we_bin (op := .Sub) op_sub ?_)
  | ((with_reducible show WE _ (Expr.BinOp _ Operator.Mult _ _) _ _ _); refine we_bin (op := .Mult) op_mulA ?_)
  | ((with_reducible show WE _ (Expr.BinOp _ Operator.Mod _ _) _ _ _); refine we_bin (op := .Mod) op_mod ?_)
  | ((with_reducible show WE _ (Expr.BinOp _ Operator.FloorDiv _ _) _ _ _); refine we_bin (op := .FloorDiv) op_fdivW ?_)
  | ((with_reducible show WE _ (Expr.BinOp _ Operator.Pow _ _) _ _ _); refine we_bin (op := .Pow) op_pow ?_))
local macro_rules | `(tactic| tb_rel) => `(tactic| first
  | ((with_reducible show WE _ (Expr.Name _ _) _ _ _); first | kmj_zero | top_args)
  | ((with_reducible show WE _ (Expr.Constant _ _ _) _ _ _); first | refine we_int ?_ | refine we_str ?_ | refine we_non ?_ | refine we_bl ?_)
  | ((with_reducible show WE _ (Expr.Call _ _ _ _) _ _ _); kj_one)
  | ((with_reducible show WE _ (Expr.BoolOp _ _ _) _ _ _); first | refine we_one ?_ | refine we_and ?_ | refine we_or ?_)
  | ((with_reducible show WE _ (Expr.UnaryOp _ _ _) _ _ _); first | refine we_not ?_ | refine we_un un_neg ?_)
  | ((with_reducible show WE _ (Expr.IfExp _ _ _ _) _ _ _); refine we_ifx ?_)
  | ((with_reducible show WE _ (Expr.Compare _ _ _ _) _ _ _); kmk_pure)
  | ((with_reducible show WE _ (Expr.BinOp _ _ _ _) _ _ _); kpc_none)
  | ((with_reducible show WE _ (Expr.Subscript _ (Expr.Slice _ _ _ _) _) _ _ _); fail)
  | ((with_reducible show WE _ (Expr.Subscript _ _ _) _ _ _); (fail_if_success (with_reducible show WE _ (Expr.Subscript _ (Expr.Tuple _ _ _) _) _ _ _)); refine we_ix ix_seq ?_)
  | ((with_reducible show WE _ (Expr.Tuple _ _ _) _ _ _); refine we_tup ?_)
  | ((with_reducible show WE _ (Expr.List (_ :: _) _) _ _ _); refine we_lst ?_)
  | ((with_reducible show WA _ _ _ _ _); first | refine wa_nil ?_ | refine wa_cons ?_)
  | ((with_reducible show WO _ _ _ _ _); first | refine wo_no ?_ | refine wo_so ?_))
local macro_rules | `(tactic| tb_start) => `(tactic| first
  | ((with_reducible show WT _ (Expr.UnaryOp _ _ _) _ _ _); refine wt_not ?_)
  | ((with_reducible show WT _ (Expr.BoolOp _ _ _) _ _ _); first | refine wt_ww (ww_and ?_) | refine wt_ww (ww_or ?_))
  | ((with_reducible show WW _ (Expr.BoolOp _ _ _) _ _ _); first | refine ww_and1 ?_ | refine ww_or1 ?_ | refine ww_and ?_ | refine ww_or ?_)
  | ((with_reducible show WT _ (Expr.Compare _ _ _ _) _ _ _); kmk_part)
  | ((with_reducible show WT _ _ _ _ _); refine wt_val ?_))
local macro_rules | `(tactic| kpe_step) => `(tactic| first
  | ((with_reducible show WB _ _ _ _ _); refine wb_cons ?_)
  | ((with_reducible show WS _ (Stmt.Return _ _) _ _ _); refine ws_ret ?_)
  | ((with_reducible show WS _ (Stmt.Expr _ _) _ _ _); refine ws_expr ?_)
  | ((with_reducible show WS _ (Stmt.Assign [Expr.Name _ _] _ _) _ _ _); refine ws_setn (by kp_flats) (by kqd_ok) (by assumption) ?_)
  | ((with_reducible show WS _ (Stmt.Assign [Expr.Tuple [Expr.Name _ _, Expr.Name _ _] _ _] (Expr.Tuple [_, _] _ _) _) _ _ _); refine ws_par2 (by kp_flats) (by kqd_ok) (by kqd_ok) (by assumption) rfl ?_)
  | ((with_reducible show WS _ (Stmt.If _ _ _ _) _ _ _); refine ws_if ?_)
  | ((with_reducible show WG _ (Expr.Name _ _) _ _ _ _ _); refine wg_n (by kp_flats) (by kqd_ok) (by assumption) ?_)
  | ((with_reducible show WG _ (Expr.Tuple _ _ _) _ _ _ _ _); refine wg_tup rfl ?_)
  | ((with_reducible show WGs _ _ _ _ _ _ _); first | refine wgs_nil ?_ | refine wgs_cons ?_)
  | ((with_reducible show WTs _ _ _ _ _); first | refine wts_nil ?_ | refine wts_one ?_))
local macro_rules | `(tactic| kj_step) => `(tactic| first
  | ((with_reducible show Bl _ _ _); refine bl_i ?_)
  | ((with_reducible show It true _ _); refine it_t ?_)
  | ((with_reducible show It false _ _); refine it_f ?_)
  | ((with_reducible show It (!isB _ _) _ _); first | refine it_f ?_ | refine it_t ?_)
  | ((with_reducible show It (isB _ _) _ _); first | refine it_f ?_ | refine it_t ?_)
  | ((with_reducible show It (decide _) _ _); first | refine it_yes (by first | decide | exact rfl) ?_ | refine it_no (by decide) ?_)
  | ((with_reducible show It (!decide _) _ _); first | refine it_noN (by first | decide | exact rfl) ?_ | refine it_yesN (by decide) ?_)
  | ((with_reducible show It (!false) _ _); refine it_t ?_)
  | ((with_reducible show It (!true) _ _); refine it_f ?_)
  | ((with_reducible show UD _ _ _ _ _); refine ud_neg ?_)
  | ((with_reducible show RD _ _ _ _ _ _); first
    | ((with_reducible show RD _ (rEqA _) _ _ _ _); first | with_reducible refine rd_eqP (rd_eqNm ?_) | with_reducible refine rd_eqP (rd_eqOI ?_) | with_reducible refine rd_eqP (rd_eqS ?_) | with_reducible refine rd_eqP (rd_eqI ?_) | with_reducible refine rd_eqP (rd_eqB ?_) | refine rd_eqP (rd_eq .non (.int _) rfl ?_) | refine rd_eqP (rd_eq (.int _) .non rfl ?_) | refine rd_eqP (rd_eq .non .non rfl ?_))
    | ((with_reducible show RD _ (rNeA _) _ _ _ _); first | with_reducible refine rd_neP (rd_neNm ?_) | with_reducible refine rd_neP (rd_neOI ?_) | with_reducible refine rd_neP (rd_neS ?_) | with_reducible refine rd_neP (rd_neI ?_))
    | ((with_reducible show RD _ rIsN _ _ _ _); refine rd_isN ?_) | ((with_reducible show RD _ rNotN _ _ _ _); refine rd_notN ?_)
    | ((with_reducible show RD _ (rI0 _) _ _ _ _); first | refine rd_I0 (fun _ => .int _) ?_ | refine rd_I0 (fun _ => .bl _) ?_)
    | ((with_reducible show RD _ (rAdd _) (D.int _) (D.int _) _ _); refine rd_addI ?_)
    | ((with_reducible show RD _ rMul (D.int _) (D.int _) _ _); refine rd_mulI (by first | exact cmul_r (by decide) (by decide) | exact cmul_l (by decide) (by decide)) ?_)
    | ((with_reducible show RD _ (rI CPow _) _ _ _ _); refine rd_pow ⟨by decide, by decide, by decide⟩ ?_)
    | ((with_reducible show RD _ (rI CDivW _) _ _ _ _); refine rd_fdiv ⟨by decide, by decide⟩ ?_)
    | ((with_reducible show RD _ (rI _ _) _ _ _ _); refine rd_mod (by first | decide | assumption) ?_)
    | ((with_reducible show RD _ (rIx _) _ _ _ _); first | refine rd_ixT (d := _) rfl ?_ | refine rd_ixL (d := _) rfl ?_ | refine rd_ixM (by kpc_turns) (d := _) rfl ?_))
  | ((with_reducible show ∃ b, IsiD _ _ b ∧ _); refine ⟨_, isi_i rfl (by decide), ?_⟩)
  | ((with_reducible show ∃ i, D.int _ = D.int i ∧ _); refine ⟨_, rfl, ?_⟩)
  | ((with_reducible show ∃ q ds0 μ0, D.ref _ = D.ref q ∧ _); refine ⟨_, _, _, rfl, by kpc_turns, ?_⟩)
  | ((with_reducible show ∃ ds μ', At _ _ _ _ μ' ∧ List.length _ < 1000 ∧ _); refine ⟨_, _, by kpc_turns, ?_, ?_⟩)
  | ((with_reducible show ∃ ds μ2, TakeL _ _ ds μ2 ∧ _); first | refine ⟨_, _, .f, ?_⟩ | refine ⟨_, _, .m (by kpc_turns), ?_⟩)
  | ((with_reducible show List.length _ ≤ 1000 ∧ _); refine ⟨Nat.le_of_ble_eq_true rfl, ?_⟩)
  | ((with_reducible show ∃ n, LenD _ _ n ∧ _); first | refine ⟨_, len_t, ?_⟩ | refine ⟨_, len_l, ?_⟩ | refine ⟨_, len_nm, ?_⟩ | refine ⟨_, len_m (by kpc_turns), ?_⟩))
local macro_rules | `(tactic| kpc_obj) => `(tactic| repeat (first | kj_step | tb_rel | tb_start | with_reducible assumption | kpe_step))
local macro_rules | `(tactic| kqd_all) => `(tactic| repeat (first | kj_step | tb_rel | tb_start | with_reducible assumption | kpe_step | ((with_reducible show WB _ _ _ _ _); refine wb_nil ?_)))
local macro_rules | `(tactic| kpc_if) => `(tactic| exact blkok_of rfl (by kernel_rfl) (by kernel_rfl) (by kernel_rfl) (by kernel_rfl))
section
/-! ### the own == -/
theorem shaped_of {d : PyData} {n : Nat} (h1 : d.canLay0 = true) (h2 : d.depth ≤ n) (hn : n < 64) : SeqAt.shaped d = true := by
  unfold SeqAt.shaped
  rw [h1]
  simp
  omega
section
variable {K : PySem.W.Frag} {μ : Mu} {Φ : D → Mu → Prop}
theorem rd_eqSm {x : D} {d : PyData} (hx : PyF x d) (h1 : d.canLay0 = true) (h2 : d.depth ≤ 10) (k : Φ (.bl true) μ) : RD K (rEqA K) x x μ Φ :=
  rd_eqDD (py_f hx) (py_f hx) (shaped_of h1 h2 (by omega)) (shaped_of h1 h2 (by omega)) (by rw [SeqAt.eqv_refl d h1]; exact k)
end
theorem lay_cls {cs : List Cl} (h : ∀ x ∈ cs, letter x.2) : (PyData.tuple (cs.map clP)).canLay0 = true ∧ (PyData.tuple (cs.map clP)).depth ≤ 2 := by
  constructor
  · have := lay_all (l := cs) (g := clP) fun x hx => (lay_cl (h x hx)).1
    simpa [PyData.canLay0] using this
  · have := dep_all (l := cs) (g := clP) (n := 1) fun x hx => (lay_cl (h x hx)).2
    simp only [PyData.depth]
    omega
def kindP (fs : List Fld) : PyData := .tuple (fs.map fldP)
def kindsP (ks : List (List Fld)) : PyData := .tuple (ks.map kindP)
theorem py_kinds (ks : List (List Fld)) : PyF (kindsD ks) (kindsP ks) := .tup (pyfs_map fun fs _ => .tup (pyfs_map fun f _ => py_fld f))
theorem lay_kinds {ks : List (List Fld)} (h : KindsOk ks) : (kindsP ks).canLay0 = true ∧ (kindsP ks).depth ≤ 3 := by
  have h1 : ∀ fs ∈ ks, ∀ f ∈ fs, (fldP f).canLay0 = true ∧ (fldP f).depth ≤ 1 := fun fs hfs f hf => by
    have hk := h.each fs hfs
    refine lay_fld (hk.nms f hf).2 fun c hc => ?_
    obtain ⟨g, hg, e, _⟩ := hk.sps f hf c hc
    rw [← e]
    exact (hk.nms g hg).2
  have h2 : ∀ fs ∈ ks, (kindP fs).canLay0 = true ∧ (kindP fs).depth ≤ 2 := fun fs hfs => by
    have a := lay_all (l := fs) (g := fldP) fun x hx => (h1 fs hfs x hx).1
    have b := dep_all (l := fs) (g := fldP) (n := 1) fun x hx => (h1 fs hfs x hx).2
    refine ⟨by simpa [kindP, PyData.canLay0] using a, ?_⟩
    simp only [kindP, PyData.depth]
    omega
  have a := lay_all (l := ks) (g := kindP) fun x hx => (h2 x hx).1
  have b := dep_all (l := ks) (g := kindP) (n := 2) fun x hx => (h2 x hx).2
  refine ⟨by simpa [kindsP, PyData.canLay0] using a, ?_⟩
  simp only [kindsP, PyData.depth]
  omega
def valP : Val → PyData
  | .one n => .int (n : Nat)
  | .many ns => .tuple (ns.map fun n => .int (n : Nat))
def obP (o : Ob) : PyData := .tuple [.int (o.1 : Nat), .tuple (o.2.map valP)]
def obsP (os : List Ob) : PyData := .tuple (os.map obP)
theorem py_val (v : Val) : PyF (valD v) (valP v) := by
  cases v with
  | one n => exact .int _
  | many ns => exact .tup (pyfs_map fun n _ => .int _)
theorem py_obs (os : List Ob) : PyF (objsD os) (obsP os) := .tup (pyfs_map fun o _ => .tup (.cons (.int _) (.cons (.tup (pyfs_map fun v _ => py_val v)) .nil)))
theorem lay_val (v : Val) : (valP v).canLay0 = true ∧ (valP v).depth ≤ 1 := by
  cases v with
  | one n => exact ⟨rfl, Nat.zero_le _⟩
  | many ns =>
    have a := lay_all (l := ns) (g := fun n => PyData.int (n : Nat)) fun x hx => rfl
    have b := dep_all (l := ns) (g := fun n => PyData.int (n : Nat)) (n := 0) fun x hx => Nat.le_refl _
    refine ⟨by simpa [valP, PyData.canLay0] using a, ?_⟩
    simp only [valP, PyData.depth]
    omega
theorem lay_obs (os : List Ob) : (obsP os).canLay0 = true ∧ (obsP os).depth ≤ 4 := by
  have h1 : ∀ o : Ob, (obP o).canLay0 = true ∧ (obP o).depth ≤ 3 := fun o => by
    have a := lay_all (l := o.2) (g := valP) fun x hx => (lay_val x).1
    have b := dep_all (l := o.2) (g := valP) (n := 1) fun x hx => (lay_val x).2
    refine ⟨by simp [obP, PyData.canLay0, PyData.canLayAll0, a], ?_⟩
    simp only [obP, PyData.depth, PyData.depthAll]
    omega
  have a := lay_all (l := os) (g := obP) fun x hx => (h1 x).1
  have b := dep_all (l := os) (g := obP) (n := 3) fun x hx => (h1 x).2
  refine ⟨by simpa [obsP, PyData.canLay0] using a, ?_⟩
  simp only [obsP, PyData.depth]
  omega
section
variable {P : Program} {w : World} {K : PySem.W.Frag} {mg : Str → Option Value} {base : Heap} {f : Addr} {fd : FuncData} {c : Cs}
def sFaultsEq (c : Cs) : Spec := fun ds μ Φ _ => ∃ cs : List Cl, ds = [faD c.F cs, faD c.F cs] ∧ FOk cs ∧ Φ (.bl true) μ
theorem ok_Faults_eq (F : Fd K "__eq__" "Faults.__eq__" s_Faults_xeq f fd) (T : Bn mg) (kl : Kl K c.F) (sl : Sl K c.F "kept" 0) (gF : Gc K mg "Faults" (.ref c.F)) (p_cells : Pr P w K mg base 1 c.F "cells" (sFaultsCells c.F)) : FnR P w K mg base CX0 3 f (spD K (sFaultsEq c)) := by
  refine fn_D F sc_Faults_xeq (fun _ _ _ _ _ _ us hl => match us, hl with | [_, _], _ => rfl) (fun ds μ Φ Ψ h => by obtain ⟨_, rfl, _⟩ := h; rfl) ?_
  have hN := sc_Faults_xeq.nd
  rintro cdv A outer s0 H E hr ds μ Φ Ψ ⟨cs, rfl, hc, k⟩
  obtain ⟨l1, l2⟩ := lay_cls fun x hx => (hc.ok x hx).2
  refine wb_one (ws_ret (we_and ?_))
  refine we_isiC T ?_
  kpc_obj
  refine we_glob gF ?_
  refine ⟨c.F, rfl, recv_f, kl, bl_i (it_t ?_)⟩
  kpc_obj
  refine we_at ?_
  kpc_obj
  refine ⟨c.F, 0, _, insd_f rfl, kl, sl, ?_⟩
  refine we_prop p_cells kl (hr.mono (by decide)) ?_
  kpc_obj
  refine ⟨recv_f, cs, rfl, ?_⟩
  exact rd_eqSm (.tup (pyfs_map fun x _ => py_cl x)) l1 (by omega) k
def sSchemaEq (c : Cs) : Spec := fun ds μ Φ _ => ∃ ks : List (List Fld), ds = [schD c.S ks, schD c.S ks] ∧ KindsOk ks ∧ Φ (.bl true) μ
theorem ok_Schema_eq (F : Fd K "__eq__" "Schema.__eq__" s_Schema_xeq f fd) (T : Bn mg) (kl : Kl K c.S) (sl : Sl K c.S "rows" 0) (gS : Gc K mg "Schema" (.ref c.S)) : FnR P w K mg base CX0 1 f (spD K (sSchemaEq c)) := by
  refine fn_D F sc_Schema_xeq (fun _ _ _ _ _ _ us hl => match us, hl with | [_, _], _ => rfl) (fun ds μ Φ Ψ h => by obtain ⟨_, rfl, _⟩ := h; rfl) ?_
  have hN := sc_Schema_xeq.nd
  rintro cdv A outer s0 H E hr ds μ Φ Ψ ⟨ks, rfl, hk, k⟩
  obtain ⟨l1, l2⟩ := lay_kinds hk
  refine wb_one (ws_ret (we_and ?_))
  refine we_isiC T ?_
  kpc_obj
  refine we_glob gS ?_
  refine ⟨c.S, rfl, recv_f, kl, bl_i (it_t ?_)⟩
  kpc_obj
  refine we_at ?_
  kpc_obj
  refine ⟨c.S, 0, _, insd_f rfl, kl, sl, ?_⟩
  refine we_at ?_
  kpc_obj
  refine ⟨c.S, 0, _, insd_f rfl, kl, sl, ?_⟩
  exact rd_eqSm (py_kinds ks) l1 (by omega) k
def sStoreEq (c : Cs) : Spec := fun ds μ Φ _ => ∃ W : Wd, ds = [stoD c.St c.S W.ks W.os, stoD c.St c.S W.ks W.os] ∧ WOk W ∧ Φ (.bl true) μ
theorem ok_Store_eq (F : Fd K "__eq__" "Store.__eq__" s_Store_xeq f fd) (T : Bn mg) (kl : Kl K c.St) (sl0 : Sl K c.St "plan" 0) (sl1 : Sl K c.St "rows" 1) (gS : Gc K mg "Store" (.ref c.St)) (m_eq : Om CX0 P w K mg base 1 c.S "__eq__" (sSchemaEq c)) : FnR P w K mg base CX0 3 f (spD K (sStoreEq c)) := by
  refine fn_D F sc_Store_xeq (fun _ _ _ _ _ _ us hl => match us, hl with | [_, _], _ => rfl) (fun ds μ Φ Ψ h => by obtain ⟨_, rfl, _⟩ := h; rfl) ?_
  have hN := sc_Store_xeq.nd
  rintro cdv A outer s0 H E hr ds μ Φ Ψ ⟨W, rfl, hW, k⟩
  obtain ⟨l1, l2⟩ := lay_obs W.os
  refine wb_one (ws_ret (we_and ?_))
  refine we_isiC T ?_
  kpc_obj
  refine we_glob gS ?_
  refine ⟨c.St, rfl, recv_f, kl, bl_i (it_t ?_)⟩
  refine we_and ?_
  refine we_cmp (op := .Eq) (op_eqI m_eq (hr.mono (by decide))) ?_
  refine we_at ?_
  kpc_obj
  refine ⟨c.St, 0, _, insd_f rfl, kl, sl0, ?_⟩
  refine we_at ?_
  kpc_obj
  refine ⟨c.St, 0, _, insd_f rfl, kl, sl0, ?_⟩
  refine rd_eqIn (ds := [kindsD W.ks]) (fun Φ k => ⟨W.ks, rfl, hW.ks, k⟩) (bl_i (it_t ?_))
  kpc_obj
  refine we_at ?_
  kpc_obj
  refine ⟨c.St, 1, _, insd_f rfl, kl, sl1, ?_⟩
  refine we_at ?_
  kpc_obj
  refine ⟨c.St, 1, _, insd_f rfl, kl, sl1, ?_⟩
  exact rd_eqSm (py_obs W.os) l1 (by omega) k
theorem rd_eqQ {X : Cx} {n : Nat} {d : D} {μ : Mu} {Φ : D → Mu → Prop} (h : ∀ (G : Hp) (vx vy : V), Rep X.K G vx d → Rep X.K G vy d → ∀ pins σ, RcB X n pins σ G μ vx vy) (k : Φ (.bl true) μ) : RD X.K (rEqK X n) d d μ Φ := ⟨fun G H vx vy Q m rx ry q => ⟨G, μ, m, fun pins σ => h G vx vy rx ry pins σ, fun G' H' s1 m1 => q _ _ G' H' μ s1 m1 (.bl true) k⟩⟩
def sQEq (c : Cs) (l : Nat) : Spec := fun ds μ Φ _ => ∃ ps : List Pt, ds = [qD c.Q ps, qD c.Q ps] ∧ mxP ps ≤ l ∧ Φ (.bl true) μ
theorem rows_eq {X : Cx} {l : Nat} {μ : Mu} {G : Hp} {ps : List Pt} (hm : mxP ps ≤ l) (hM : ∀ l', l = l' + 1 → Omx X (2 + 3 * l) c.Q "__eq__" (sQEq c l')) {vx vy : V} (rx : Rep X.K G vx (.tup (ps.map (qpD c.Q)))) (ry : Rep X.K G vy (.tup (ps.map (qpD c.Q)))) (pins : List (Addr × Obj)) (σ : L2.St) : RcB X (4 + 3 * l) pins σ G μ vx vy := by
  cases rx with
  | @tup a xs _ ha ra =>
    cases ry with
    | @tup b ys _ hb rb =>
      have e4 : 4 + 3 * l = (3 + 3 * l) + 1 := by omega
      rw [e4]
      refine RcB.tup ha hb (by rw [ra.length, rb.length]) fun i x y hx hy => ?_
      obtain ⟨d, hd, rx⟩ := ra.getV hx
      obtain ⟨v2, hy2, ry⟩ := rb.get hd
      rw [hy] at hy2
      cases hy2
      obtain ⟨p, hp, rfl⟩ : ∃ p, p ∈ ps ∧ d = qpD c.Q p := by
        obtain ⟨p, hp, e⟩ := List.mem_map.mp (List.mem_of_getElem? hd)
        exact ⟨p, hp, e.symm⟩
      have hlv : lvP p ≤ l := mxP_le hm p hp
      rw [qpD_eq] at rx ry
      cases rx with
      | @tup a2 xs2 _ ha2 ra2 =>
        cases ry with
        | @tup b2 ys2 _ hb2 rb2 =>
          have e3 : 3 + 3 * l = (2 + 3 * l) + 1 := by omega
          rw [e3]
          refine (RcB.tup ha2 hb2 (by rw [ra2.length, rb2.length]) fun j x y hx hy => ?_).eqB
          obtain ⟨d, hd, rx⟩ := ra2.getV hx
          obtain ⟨v2, hy2, ry⟩ := rb2.get hd
          rw [hy] at hy2
          cases hy2
          match j, hd with
          | 0, hd =>
            cases hd
            cases rx; cases ry
            exact eqB_flat rfl
          | 1, hd =>
            cases hd
            cases p with
            | leaf n =>
              cases rx; cases ry
              exact eqB_flat rfl
            | node n qs =>
              rw [lvP_node] at hlv
              obtain ⟨l', rfl⟩ : ∃ l', l = l' + 1 := ⟨l - 1, by omega⟩
              obtain ⟨p1, rfl⟩ := rep_ref rx
              obtain ⟨p2, rfl⟩ := rep_ref ry
              exact (RcB.ins (hM l' rfl) rx ry fun Φ k => ⟨qs, rfl, by omega, k⟩).eqB
theorem qeq_body (F : Fd K "__eq__" "Question.__eq__" s_Question_xeq f fd) (T : Bn mg) (kl : Kl K c.Q) (sl : Sl K c.Q "rows" 0) (gQ : Gc K mg "Question" (.ref c.Q)) (l : Nat) (hM : ∀ l', l = l' + 1 → Om CX0 P w K mg base (2 + 3 * l) c.Q "__eq__" (sQEq c l')) : FnR P w K mg base CX0 (5 + 3 * l) f (spD K (sQEq c l)) := by
  have e0 : 5 + 3 * l = (4 + 3 * l) + 1 := by omega
  rw [e0]
  refine fn_D F sc_Question_xeq (fun _ _ _ _ _ _ us hl => match us, hl with | [_, _], _ => rfl) (fun ds μ Φ Ψ h => by obtain ⟨_, rfl, _⟩ := h; rfl) ?_
  have hN := sc_Question_xeq.nd
  rintro cdv A outer s0 H E hr ds μ Φ Ψ ⟨ps, rfl, hm, k⟩
  refine wb_one (ws_ret (we_and ?_))
  refine we_isiC T ?_
  kpc_obj
  refine we_glob gQ ?_
  refine ⟨c.Q, rfl, recv_f, kl, bl_i (it_t ?_)⟩
  refine we_one (we_cmp (op := .Eq) (op_eqK hr) ?_)
  refine we_at ?_
  kpc_obj
  refine ⟨c.Q, 0, _, insd_f rfl, kl, sl, ?_⟩
  refine we_at ?_
  kpc_obj
  refine ⟨c.Q, 0, _, insd_f rfl, kl, sl, ?_⟩
  exact rd_eqQ (fun G vx vy rx ry pins σ => rows_eq hm hM rx ry pins σ) k
theorem ok_Question_eq (F : Fd K "__eq__" "Question.__eq__" s_Question_xeq f fd) (mt : MAt K c.Q "__eq__" f) (T : Bn mg) (kl : Kl K c.Q) (sl : Sl K c.Q "rows" 0) (gQ : Gc K mg "Question" (.ref c.Q)) : ∀ l : Nat, FnR P w K mg base CX0 (5 + 3 * l) f (spD K (sQEq c l))
  | l => qeq_body F T kl sl gQ l fun l' e => by
    subst e
    have e : 2 + 3 * (l' + 1) = 5 + 3 * l' := by omega
    rw [e]
    exact mt.om (ok_Question_eq F mt T kl sl gQ l')
end
end
section
/-! ### Asker -/
abbrev askD (c : Cs) (W : Wd) (ps : List Pt) : D := .ins c.N [stoD c.St c.S W.ks W.os, qD c.Q ps]
structure AOk (W : Wd) (ps : List Pt) : Prop where
  w : WOk W
  q : PsOk W.ks 2 0 ps
  sz : szPs ps ≤ 8
theorem AOk.w9 {W : Wd} {ps : List Pt} (h : AOk W ps) : wPs ps ≤ 900 := by
  have := wPs_few h.q h.sz
  omega
/-- what is answered with faults -/
def ansO (W : Wd) (ps : List Pt) (Fs : List Cl) : An := obA Fs W ps 0
theorem AOk.it {W : Wd} {ps : List Pt} (h : AOk W ps) (Fs : List Cl) : itOk 3 (ansO W ps Fs) := (ask_ok h.w Fs 2).2 ps 0 0 h.w.zero h.q
theorem ansO_top (W : Wd) (ps : List Pt) (Fs : List Cl) : ansO W ps Fs = .non ∨ ∃ ks xs, ansO W ps Fs = .obj ks xs := by
  unfold ansO obA
  cases askO W Fs 0 ps with
  | none => exact .inl rfl
  | some xs => exact .inr ⟨_, _, rfl⟩
section
variable {P : Program} {w : World} {K : PySem.W.Frag} {mg : Str → Option Value} {base : Heap} {f : Addr} {fd : FuncData} {c : Cs}
def sAskInit (c : Cs) : Spec := fun ds μ Φ _ => ∃ (q : Addr) (W : Wd) (ps : List Pt) (g : M → Mu), ds = [.ref q, stoD c.St c.S W.ks W.os, qD c.Q ps] ∧ AOk W ps ∧ AtF μ q (.ins c.N []) g ∧ Φ .non (g (.ins c.N [some (stoD c.St c.S W.ks W.os), some (qD c.Q ps)]))
theorem ok_Asker_init (F : Fd K "__init__" "Asker.__init__" s_Asker_xinit f fd) (kl : Kl K c.N) (sl0 : Sl K c.N "source" 0) (sl1 : Sl K c.N "wanted" 1) (klS : Kl K c.St) (c_cs : Cal P w K mg base 1 "check_store" (sCheckStore c.St c.S)) (c_cq : Cal P w K mg base 1 "check_question" (sCheckQ c.Q)) (p_sch : Pr P w K mg base 1 c.St "schema" (sStoreSchema c.St c.S))
    (c_unfit : Cal P w K mg base 9 "unfit" (sUnfit c.S c.Q)) : FnR P w K mg base CX0 10 f (spD K (sAskInit c)) := by
  refine fn_D F sc_Asker_xinit (fun _ _ _ _ _ _ us hl => match us, hl with | [_, _, _], _ => rfl) (fun ds μ Φ Ψ h => by obtain ⟨_, _, _, _, rfl, _⟩ := h; rfl) ?_
  have hN := sc_Asker_xinit.nd
  rintro cdv A outer s0 H E hr ds μ Φ Ψ ⟨q, W, ps, g, rfl, hA, pk, k⟩
  kpc_obj
  refine we_call c_cs (hr.mono (by decide)) ?_
  kpc_obj
  refine ⟨W.ks, W.os, rfl, ?_⟩
  kpc_obj
  refine we_call c_cq (hr.mono (by decide)) ?_
  kpc_obj
  refine ⟨ps, rfl, ?_⟩
  kpc_obj
  refine we_call c_unfit hr ?_
  refine wa_cons ?_
  refine we_prop p_sch klS (hr.mono (by decide)) ?_
  kpc_obj
  refine ⟨recv_f, W.ks, W.os, rfl, ?_⟩
  kpc_obj
  refine ⟨W.ks, ps, rfl, hA.w.ks, hA.q, ?_⟩
  kpc_obj
  refine it_f (wb_nil ?_)
  refine wb_cons (ws_at ?_)
  kpc_obj
  refine ⟨q, c.N, 0, _, _, rfl, pk.at _, kl, sl0, ?_⟩
  refine wb_cons (ws_at ?_)
  kpc_obj
  exact ⟨q, c.N, 1, _, _, rfl, (pk.again _).at _, kl, sl1, wb_nil k⟩
def sAskStore (c : Cs) : Spec := fun ds μ Φ _ => ∃ (W : Wd) (ps : List Pt), ds = [askD c W ps] ∧ Φ (stoD c.St c.S W.ks W.os) μ
theorem ok_Asker_store (F : Fd K "store" "Asker.store" s_Asker_store f fd) (kl : Kl K c.N) (sl : Sl K c.N "source" 0) : FnR P w K mg base CX0 1 f (spD K (sAskStore c)) := by
  refine fn_D F sc_Asker_store (fun _ _ _ _ _ _ us hl => match us, hl with | [_], _ => rfl) (fun ds μ Φ Ψ h => by obtain ⟨_, _, rfl, _⟩ := h; rfl) ?_
  have hN := sc_Asker_store.nd
  rintro cdv A outer s0 H E hr ds μ Φ Ψ ⟨W, ps, rfl, k⟩
  refine wb_one (ws_ret (we_at ?_))
  kpc_obj
  exact ⟨c.N, 0, _, insd_f rfl, kl, sl, k⟩
def sAskQuestion (c : Cs) : Spec := fun ds μ Φ _ => ∃ (W : Wd) (ps : List Pt), ds = [askD c W ps] ∧ Φ (qD c.Q ps) μ
theorem ok_Asker_question (F : Fd K "question" "Asker.question" s_Asker_question f fd) (kl : Kl K c.N) (sl : Sl K c.N "wanted" 1) : FnR P w K mg base CX0 1 f (spD K (sAskQuestion c)) := by
  refine fn_D F sc_Asker_question (fun _ _ _ _ _ _ us hl => match us, hl with | [_], _ => rfl) (fun ds μ Φ Ψ h => by obtain ⟨_, _, rfl, _⟩ := h; rfl) ?_
  have hN := sc_Asker_question.nd
  rintro cdv A outer s0 H E hr ds μ Φ Ψ ⟨W, ps, rfl, k⟩
  refine wb_one (ws_ret (we_at ?_))
  kpc_obj
  exact ⟨c.N, 1, _, insd_f rfl, kl, sl, k⟩
/-- asker(faults) -/
def sAskCall (c : Cs) : Spec := fun ds μ Φ _ => ∃ (W : Wd) (ps : List Pt) (Fs : List Cl), ds = [askD c W ps, faD c.F Fs] ∧ AOk W ps ∧ FOk Fs ∧ Φ (ansD c (ansO W ps Fs)) μ
theorem ok_Asker_call (F : Fd K "__call__" "Asker.__call__" s_Asker_xcall f fd) (kl : Kl K c.N) (sl0 : Sl K c.N "source" 0) (sl1 : Sl K c.N "wanted" 1) (klW : Kl K c.W) (c_cf : Cal P w K mg base 1 "check_faults" (sCheckFaults c.F)) (mkA : Mkr P w K mg base 13 "Answer" c.A (sAnsInit c)) (mkW : Mkr P w K mg base 1 "Walk" c.W (sWalkInit c))
    (m_ob : Om CX0 P w K mg base 13 c.W "ask_object" (sAskOb c 2)) : FnR P w K mg base CX0 15 f (spD K (sAskCall c)) := by
  refine fn_D F sc_Asker_xcall (fun _ _ _ _ _ _ us hl => match us, hl with | [_, _], _ => rfl) (fun ds μ Φ Ψ h => by obtain ⟨_, _, _, rfl, _⟩ := h; rfl) ?_
  have hN := sc_Asker_xcall.nd
  rintro cdv A outer s0 H E hr ds μ Φ Ψ ⟨W, ps, Fs, rfl, hA, hF, k⟩
  kpc_obj
  refine we_call c_cf (hr.mono (by decide)) ?_
  kpc_obj
  refine ⟨Fs, rfl, ?_⟩
  refine wb_one (ws_ret (we_drop (we_frzI (we_make mkA (hr.mono (by decide)) ?_))))
  refine wa_cons ?_
  refine we_meth m_ob klW (hr.mono (by decide)) ?_
  refine we_frzI (we_make mkW (hr.mono (by decide)) ?_)
  refine wa_cons (we_at ?_)
  kpc_obj
  refine ⟨c.N, 0, _, insd_f rfl, kl, sl0, ?_⟩
  kpc_obj
  intro qw
  refine ⟨qw, _, _, _, rfl, .here, fun t => ⟨rfl, qw, c.W, [faD c.F Fs, stoD c.St c.S W.ks W.os, .ref t], _, rfl, .there .here, by simp, recv_f, ?_⟩⟩
  kpc_obj
  refine we_at ?_
  kpc_obj
  refine ⟨c.N, 1, _, insd_f rfl, kl, sl1, ?_⟩
  kpc_obj
  have := hA.w9
  refine ⟨t, W, Fs, [], 0, 0, ps, _, rfl, hA.w, hF, hA.w.zero, hA.q, .here, by simp; omega, fun tr' _ => ?_⟩
  kpc_obj
  intro qa
  exact ⟨qa, ansO W ps Fs, _, rfl, hA.it Fs, ansO_top W ps Fs, .here, rfl, qa, c.A, [anD (ansO W ps Fs)], _, rfl, .here, by simp, _, List.sublist_cons_self _ _, k⟩
def sCheckAsker (c : Cs) : Spec := fun ds μ Φ _ => ∃ (W : Wd) (ps : List Pt), ds = [askD c W ps] ∧ Φ .non μ
theorem ok_check_asker (F : Fd K "check_asker" "check_asker" s_check_asker f fd) (T : Bn mg) (kl : Kl K c.N) (gN : Gc K mg "Asker" (.ref c.N)) : FnR P w K mg base CX0 1 f (spD K (sCheckAsker c)) := by
  refine fn_D F sc_check_asker (fun _ _ _ _ _ _ us hl => match us, hl with | [_], _ => rfl) (fun ds μ Φ Ψ h => by obtain ⟨_, _, rfl, _⟩ := h; rfl) ?_
  have hN := sc_check_asker.nd
  rintro cdv A outer s H E hr ds μ Φ Ψ ⟨W, ps, rfl, k⟩
  refine wb_one (ws_if (wt_not (wt_val ?_)))
  refine we_isiC T ?_
  kpc_obj
  refine we_glob gN ?_
  refine ⟨c.N, rfl, recv_f, kl, ?_⟩
  kqd_all
  all_goals exact k
end
end
section
/-! ### Session -/
structure Sn where
  cur : List Cl
  notes : List (List Cl)
  floor : Nat
abbrev snF (c : Cs) (W : Wd) (ps : List Pt) (s : Sn) : List (Option D) := [some (faD c.F s.cur), some (.int (s.floor : Nat)), some (ansD c (ansO W ps s.cur)), some (.lst (s.notes.map (faD c.F))), some (askD c W ps)]
abbrev snM (c : Cs) (W : Wd) (ps : List Pt) (s : Sn) : M := .ins c.Se (snF c W ps s)
structure SnOk (s : Sn) : Prop where
  cur : FOk s.cur
  notes : ∀ x ∈ s.notes, FOk x
/-- the slots of a session -/
structure SeK (K : PySem.W.Frag) (c : Cs) : Prop where
  kl : Kl K c.Se
  cur : Sl K c.Se "current" 0
  floor : Sl K c.Se "floor" 1
  giv : Sl K c.Se "given" 2
  notes : Sl K c.Se "notes" 3
  ask : Sl K c.Se "source_asker" 4
theorem fok_nil : FOk [] := ⟨fun _ h => (List.not_mem_nil h).elim, Nat.zero_le _⟩
section
variable {P : Program} {w : World} {K : PySem.W.Frag} {mg : Str → Option Value} {base : Heap} {f : Addr} {fd : FuncData} {c : Cs}
def sSeInit (c : Cs) : Spec := fun ds μ Φ _ => ∃ (q : Addr) (W : Wd) (ps : List Pt) (g : M → Mu), ds = [.ref q, askD c W ps] ∧ AOk W ps ∧ AtF μ q (.ins c.Se []) g ∧ Φ .non (g (snM c W ps ⟨[], [], 0⟩))
theorem ok_Session_init (F : Fd K "__init__" "Session.__init__" s_Session_xinit f fd) (k5 : SeK K c) (gF : Gc K mg "Faults" (.ref c.F)) (c_ca : Cal P w K mg base 1 "check_asker" (sCheckAsker c)) (st : St0 P w K mg base 5 c.F "none" (sFaultsNone c.F)) (m_call : Om CX0 P w K mg base 15 c.N "__call__" (sAskCall c)) : FnR P w K mg base CX0 16 f (spD K (sSeInit c)) := by
  refine fn_D F sc_Session_xinit (fun _ _ _ _ _ _ us hl => match us, hl with | [_, _], _ => rfl) (fun ds μ Φ Ψ h => by obtain ⟨_, _, _, _, rfl, _⟩ := h; rfl) ?_
  have hN := sc_Session_xinit.nd
  rintro cdv A outer s0 H E hr ds μ Φ Ψ ⟨q, W, ps, g, rfl, hA, pk, k⟩
  kpc_obj
  refine we_call c_ca (hr.mono (by decide)) ?_
  kpc_obj
  refine ⟨W, ps, rfl, ?_⟩
  refine wb_cons (ws_at ?_)
  kpc_obj
  refine ⟨q, c.Se, 4, _, _, rfl, pk.at _, k5.kl, k5.ask, ?_⟩
  refine wb_cons (ws_at ?_)
  refine we_stat0 st (hr.mono (by decide)) ?_
  refine we_glob gF ⟨rfl, rfl, ?_⟩
  kpc_obj
  refine ⟨q, c.Se, 0, _, _, rfl, (pk.again _).at _, k5.kl, k5.cur, ?_⟩
  refine wb_cons (ws_at ?_)
  refine we_callO m_call hr ?_
  kpc_obj
  refine ⟨recv_f, ?_⟩
  obtain ⟨μ1, pk1⟩ := (pk.again (.ins c.Se [some (faD c.F []), none, none, none, some (askD c W ps)])).pick
  refine wa_cons (we_at ?_)
  kpc_obj
  refine ⟨c.Se, 0, _, insd_m pk1 rfl, k5.kl, k5.cur, ?_⟩
  kpc_obj
  refine ⟨recv_f, W, ps, [], rfl, hA, fok_nil, ?_⟩
  kpc_obj
  refine ⟨q, c.Se, 2, _, _, rfl, (pk.again _).at _, k5.kl, k5.giv, ?_⟩
  refine wb_cons (ws_at ?_)
  refine we_lst ?_
  kpc_obj
  refine ⟨q, c.Se, 3, _, _, rfl, (pk.again _).at _, k5.kl, k5.notes, ?_⟩
  refine wb_cons (ws_at ?_)
  kpc_obj
  exact ⟨q, c.Se, 1, _, _, rfl, (pk.again _).at _, k5.kl, k5.floor, wb_nil k⟩
/-- what a slot holds, by a property -/
def sSeGet (c : Cs) (i : Nat) : Spec := fun ds μ Φ _ => ∃ (q : Addr) (fs : List (Option D)) (μ' : Mu) (d : D), ds = [.ref q] ∧ Pick μ q (.ins c.Se fs) μ' ∧ fs[i]? = some (some d) ∧ Φ d μ
theorem ok_Session_asker (F : Fd K "asker" "Session.asker" s_Session_asker f fd) (k5 : SeK K c) : FnR P w K mg base CX0 1 f (spD K (sSeGet c 4)) := by
  refine fn_D F sc_Session_asker (fun _ _ _ _ _ _ us hl => match us, hl with | [_], _ => rfl) (fun ds μ Φ Ψ h => by obtain ⟨_, _, _, _, rfl, _⟩ := h; rfl) ?_
  have hN := sc_Session_asker.nd
  rintro cdv A outer s0 H E hr ds μ Φ Ψ ⟨q, fs, μ', d, rfl, pk, hd, k⟩
  refine wb_one (ws_ret (we_at ?_))
  kpc_obj
  exact ⟨c.Se, 4, _, insd_m pk hd, k5.kl, k5.ask, k⟩
theorem ok_Session_now (F : Fd K "now" "Session.now" s_Session_now f fd) (k5 : SeK K c) : FnR P w K mg base CX0 1 f (spD K (sSeGet c 0)) := by
  refine fn_D F sc_Session_now (fun _ _ _ _ _ _ us hl => match us, hl with | [_], _ => rfl) (fun ds μ Φ Ψ h => by obtain ⟨_, _, _, _, rfl, _⟩ := h; rfl) ?_
  have hN := sc_Session_now.nd
  rintro cdv A outer s0 H E hr ds μ Φ Ψ ⟨q, fs, μ', d, rfl, pk, hd, k⟩
  refine wb_one (ws_ret (we_at ?_))
  kpc_obj
  exact ⟨c.Se, 0, _, insd_m pk hd, k5.kl, k5.cur, k⟩
theorem ok_Session_answer (F : Fd K "answer" "Session.answer" s_Session_answer f fd) (k5 : SeK K c) : FnR P w K mg base CX0 1 f (spD K (sSeGet c 2)) := by
  refine fn_D F sc_Session_answer (fun _ _ _ _ _ _ us hl => match us, hl with | [_], _ => rfl) (fun ds μ Φ Ψ h => by obtain ⟨_, _, _, _, rfl, _⟩ := h; rfl) ?_
  have hN := sc_Session_answer.nd
  rintro cdv A outer s0 H E hr ds μ Φ Ψ ⟨q, fs, μ', d, rfl, pk, hd, k⟩
  refine wb_one (ws_ret (we_at ?_))
  kpc_obj
  exact ⟨c.Se, 2, _, insd_m pk hd, k5.kl, k5.giv, k⟩
/-- the journal: a new list -/
def sSeJournal (c : Cs) : Spec := fun ds μ Φ _ => ∃ (q : Addr) (fs : List (Option D)) (μ' : Mu) (xs : List D), ds = [.ref q] ∧ Pick μ q (.ins c.Se fs) μ' ∧ fs[3]? = some (some (.lst xs)) ∧ ∀ p, Φ (.ref p) ((p, .lst xs) :: μ)
theorem ok_Session_journal (F : Fd K "journal" "Session.journal" s_Session_journal f fd) (T : Bn mg) (k5 : SeK K c) : FnR P w K mg base CX0 1 f (spD K (sSeJournal c)) := by
  refine fn_D F sc_Session_journal (fun _ _ _ _ _ _ us hl => match us, hl with | [_], _ => rfl) (fun ds μ Φ Ψ h => by obtain ⟨_, _, _, _, rfl, _⟩ := h; rfl) ?_
  have hN := sc_Session_journal.nd
  rintro cdv A outer s0 H E hr ds μ Φ Ψ ⟨q, fs, μ', xs, rfl, pk, hd, k⟩
  refine wb_one (ws_ret (we_lstfM T ?_))
  refine we_at ?_
  kpc_obj
  exact ⟨c.Se, 3, _, insd_m pk hd, k5.kl, k5.notes, xs, sq_l ls_f, k⟩
def sSeLen (c : Cs) : Spec := fun ds μ Φ _ => ∃ (q : Addr) (fs : List (Option D)) (μ' : Mu) (cs : List Cl), ds = [.ref q] ∧ Pick μ q (.ins c.Se fs) μ' ∧ fs[0]? = some (some (faD c.F cs)) ∧ FOk cs ∧ Φ (.int (cs.length : Nat)) μ
theorem ok_Session_len (F : Fd K "__len__" "Session.__len__" s_Session_xlen f fd) (T : Bn mg) (k5 : SeK K c) (m_len : Om CX0 P w K mg base 1 c.F "__len__" (sFaultsLen c.F)) : FnR P w K mg base CX0 3 f (spD K (sSeLen c)) := by
  refine fn_D F sc_Session_xlen (fun _ _ _ _ _ _ us hl => match us, hl with | [_], _ => rfl) (fun ds μ Φ Ψ h => by obtain ⟨_, _, _, _, rfl, _⟩ := h; rfl) ?_
  have hN := sc_Session_xlen.nd
  rintro cdv A outer s0 H E hr ds μ Φ Ψ ⟨q, fs, μ', cs, rfl, pk, hd, hc, k⟩
  have := hc.few
  refine wb_one (ws_ret (we_lenO T m_len hr ?_))
  refine we_at ?_
  kpc_obj
  exact ⟨c.Se, 0, _, insd_m pk hd, k5.kl, k5.cur, recv_f, cs, rfl, _, rfl, by omega, k⟩
def sSeIn (c : Cs) : Spec := fun ds μ Φ _ => ∃ (q : Addr) (fs : List (Option D)) (μ' : Mu) (cs : List Cl) (x : Cl), ds = [.ref q, clD x] ∧ Pick μ q (.ins c.Se fs) μ' ∧ fs[0]? = some (some (faD c.F cs)) ∧ FOk cs ∧ letter x.2 ∧ Φ (.bl (decide (x ∈ cs))) μ
theorem ok_Session_in (F : Fd K "__contains__" "Session.__contains__" s_Session_xcontains f fd) (k5 : SeK K c) (m_in : Om CX0 P w K mg base 3 c.F "__contains__" (sFaultsIn c.F)) : FnR P w K mg base CX0 4 f (spD K (sSeIn c)) := by
  refine fn_D F sc_Session_xcontains (fun _ _ _ _ _ _ us hl => match us, hl with | [_, _], _ => rfl) (fun ds μ Φ Ψ h => by obtain ⟨_, _, _, _, _, rfl, _⟩ := h; rfl) ?_
  have hN := sc_Session_xcontains.nd
  rintro cdv A outer s0 H E hr ds μ Φ Ψ ⟨q, fs, μ', cs, x, rfl, pk, hd, hc, hx, k⟩
  refine wb_one (ws_ret (we_inO m_in hr ?_))
  kpc_obj
  refine we_at ?_
  kpc_obj
  exact ⟨c.Se, 0, _, insd_m pk hd, k5.kl, k5.cur, recv_f, cs, x, rfl, hx, hc.ok, bl_i k⟩
/-- put, go -/
def sPut (c : Cs) : Spec := fun ds μ Φ _ => ∃ (q : Addr) (W : Wd) (ps : List Pt) (s : Sn) (Fs : List Cl) (g : M → Mu), ds = [.ref q, faD c.F Fs] ∧ AOk W ps ∧ FOk Fs ∧ AtF μ q (snM c W ps s) g ∧ Φ .non (g (snM c W ps { s with cur := Fs }))
theorem ok_Session_put (F : Fd K "put" "Session.put" s_Session_put f fd) (k5 : SeK K c) (m_call : Om CX0 P w K mg base 15 c.N "__call__" (sAskCall c)) : FnR P w K mg base CX0 16 f (spD K (sPut c)) := by
  refine fn_D F sc_Session_put (fun _ _ _ _ _ _ us hl => match us, hl with | [_, _], _ => rfl) (fun ds μ Φ Ψ h => by obtain ⟨_, _, _, _, _, _, rfl, _⟩ := h; rfl) ?_
  have hN := sc_Session_put.nd
  rintro cdv A outer s0 H E hr ds μ Φ Ψ ⟨q, W, ps, s, Fs, g, rfl, hA, hF, pk, k⟩
  refine wb_cons (ws_at ?_)
  kpc_obj
  refine ⟨q, c.Se, 0, _, _, rfl, pk.at _, k5.kl, k5.cur, ?_⟩
  obtain ⟨μ1, pk1⟩ := (pk.again (.ins c.Se (putD 0 (faD c.F Fs) (snF c W ps s)))).pick
  refine wb_cons (ws_at ?_)
  refine we_callSl m_call hr ?_
  kpc_obj
  refine ⟨c.Se, 4, _, insd_m pk1 rfl, k5.kl, k5.ask, recv_f, ?_⟩
  kpc_obj
  refine ⟨recv_f, W, ps, Fs, rfl, hA, hF, ?_⟩
  kpc_obj
  exact ⟨q, c.Se, 2, _, _, rfl, (pk.again _).at _, k5.kl, k5.giv, wb_nil k⟩
def sGo (c : Cs) : Spec := fun ds μ Φ _ => ∃ (q : Addr) (W : Wd) (ps : List Pt) (s : Sn) (Fs : List Cl) (g : M → Mu), ds = [.ref q, faD c.F Fs] ∧ AOk W ps ∧ FOk Fs ∧ s.notes.length ≤ 900 ∧ AtF μ q (snM c W ps s) g ∧ Φ .non (g (snM c W ps ⟨Fs, s.notes ++ [s.cur], s.floor⟩))
theorem ok_Session_go (F : Fd K "go" "Session.go" s_Session_go f fd) (k5 : SeK K c) (m_put : Om CX0 P w K mg base 16 c.Se "put" (sPut c)) : FnR P w K mg base CX0 17 f (spD K (sGo c)) := by
  refine fn_D F sc_Session_go (fun _ _ _ _ _ _ us hl => match us, hl with | [_, _], _ => rfl) (fun ds μ Φ Ψ h => by obtain ⟨_, _, _, _, _, _, rfl, _⟩ := h; rfl) ?_
  have hN := sc_Session_go.nd
  rintro cdv A outer s0 H E hr ds μ Φ Ψ ⟨q, W, ps, s, Fs, g, rfl, hA, hF, hl, pk, k⟩
  obtain ⟨μ1, pk1⟩ := pk.pick
  refine wb_cons (ws_at ?_)
  refine we_lst (wa_star ?_)
  refine we_at ?_
  kpc_obj
  refine ⟨c.Se, 3, _, insd_m pk1 rfl, k5.kl, k5.notes, _, sq_l ls_f, ?_⟩
  refine wa_cons (we_at ?_)
  kpc_obj
  refine ⟨c.Se, 0, _, insd_m pk1 rfl, k5.kl, k5.cur, ?_⟩
  kpc_obj
  refine ⟨by simp; omega, ?_⟩
  kpc_obj
  refine ⟨q, c.Se, 3, _, _, rfl, pk.at _, k5.kl, k5.notes, ?_⟩
  have em : M.ins c.Se (putD 3 (.lst (s.notes.map (faD c.F) ++ [faD c.F s.cur])) (snF c W ps s)) = snM c W ps { s with notes := s.notes ++ [s.cur] } := by
    show M.ins c.Se [_, _, _, some (.lst (s.notes.map (faD c.F) ++ [faD c.F s.cur])), _] = M.ins c.Se [_, _, _, some (.lst ((s.notes ++ [s.cur]).map (faD c.F))), _]
    rw [List.map_append]
    rfl
  rw [em]
  have pk2 := pk.again (snM c W ps { s with notes := s.notes ++ [s.cur] })
  obtain ⟨μ2, pk3⟩ := pk2.pick
  refine wb_one (ws_expr ?_)
  refine we_meth m_put k5.kl hr ?_
  kpc_obj
  refine ⟨recv_m pk3, ?_⟩
  kpc_obj
  exact ⟨q, W, ps, _, Fs, _, rfl, hA, hF, pk2, k⟩
end
end
section
/-- what a session may ask of Faults -/
structure FaM (P : Program) (w : World) (K : PySem.W.Frag) (mg : Str → Option Value) (base : Heap) (c : Cs) : Prop where
  sf : PySem.W.selfFirst K c.F = true
  shl : Om CX0 P w K mg base 5 c.F (PySem.dunder Operator.LShift.info.2) (sFaultsShl c.F)
  bt : BinT K c.F .LShift
  sub : Om CX0 P w K mg base 5 c.F (PySem.dunder Operator.Sub.info.2) (sFaultsSub c.F)
  or : Om CX0 P w K mg base 5 c.F (PySem.dunder Operator.BitOr.info.2) (sFaultsOr c.F)
  mkr : Mkr P w K mg base 3 "Faults" c.F (sFaultsInit c.F)
  kl : Kl K c.F
def setC (cur : List Cl) (x : Cl) (b : Bool) : List Cl := if b = true then norm (cur ++ [x]) else norm (cur.filter fun y => !decide (y ∈ norm [x]))
theorem fok_set {cur : List Cl} {x : Cl} {b : Bool} : FOk (setC cur x b) := by
  unfold setC
  split <;> exact fok_norm _
section
variable {P : Program} {w : World} {K : PySem.W.Frag} {mg : Str → Option Value} {base : Heap} {f : Addr} {fd : FuncData} {c : Cs}
def sSet (c : Cs) : Spec := fun ds μ Φ _ => ∃ (q : Addr) (W : Wd) (ps : List Pt) (s : Sn) (x : Cl) (b : Bool) (g : M → Mu), ds = [.ref q, clD x, .bl b] ∧ AOk W ps ∧ FOk s.cur ∧ okCl x ∧ s.notes.length ≤ 900 ∧ AtF μ q (snM c W ps s) g ∧ Φ .non (g (snM c W ps ⟨setC s.cur x b, s.notes ++ [s.cur], s.floor⟩))
theorem ok_Session_set (F : Fd K "__setitem__" "Session.__setitem__" s_Session_xsetitem f fd) (T : Bn mg) (k5 : SeK K c) (fm : FaM P w K mg base c) (c_cell : Cal P w K mg base 2 "is_cell" sIsCell) (m_go : Om CX0 P w K mg base 17 c.Se "go" (sGo c)) : FnR P w K mg base CX0 18 f (spD K (sSet c)) := by
  refine fn_D F sc_Session_xsetitem (fun _ _ _ _ _ _ us hl => match us, hl with | [_, _, _], _ => rfl) (fun ds μ Φ Ψ h => by obtain ⟨_, _, _, _, _, _, _, rfl, _⟩ := h; rfl) ?_
  have hN := sc_Session_xsetitem.nd
  rintro cdv A outer s0 H E hr ds μ Φ Ψ ⟨q, W, ps, s, x, b, g, rfl, hA, hc, hx, hl, pk, k⟩
  obtain ⟨μ1, pk1⟩ := pk.pick
  kpc_obj
  refine we_call c_cell (hr.mono (by decide)) ?_
  kpc_obj
  refine ⟨x, rfl, hx.2, ?_⟩
  rw [decide_eq_true hx.1]
  refine bl_i (it_f (wb_nil ?_))
  kpc_obj
  refine wb_nil (wb_one (ws_expr ?_))
  refine we_meth m_go k5.kl hr ?_
  kpc_obj
  refine ⟨recv_m pk1, wa_cons (we_ifx (wt_val ?_))⟩
  kpc_obj
  cases b with
  | true =>
    refine it_t ?_
    refine we_binT fm.shl fm.sf fm.bt (hr.mono (by decide)) ?_
    refine we_at ?_
    kpc_obj
    refine ⟨c.Se, 0, _, insd_m pk1 rfl, k5.kl, k5.cur, ?_⟩
    kpc_obj
    refine ⟨recv_f, ⟨_, rfl⟩, s.cur, x, rfl, hc, hx, ?_⟩
    kpc_obj
    exact ⟨q, W, ps, s, _, _, rfl, hA, fok_norm _, hl, pk, k⟩
  | false =>
    refine it_f ?_
    refine we_binO fm.sub fm.sf (hr.mono (by decide)) ?_
    refine we_at ?_
    kpc_obj
    refine ⟨c.Se, 0, _, insd_m pk1 rfl, k5.kl, k5.cur, ?_⟩
    refine we_faults fm.mkr (hr.mono (by decide)) ?_
    kpc_obj
    refine ⟨[x], .inl rfl, fun y hy => by rw [List.mem_singleton.mp hy]; exact hx, by simp, recv_f, recv_f, s.cur, _, rfl, hc, fok_norm _, ?_⟩
    kpc_obj
    exact ⟨q, W, ps, s, _, _, rfl, hA, fok_norm _, hl, pk, k⟩
def sIadd (c : Cs) : Spec := fun ds μ Φ _ => ∃ (q : Addr) (W : Wd) (ps : List Pt) (s : Sn) (Fs : List Cl) (g : M → Mu), ds = [.ref q, faD c.F Fs] ∧ AOk W ps ∧ FOk s.cur ∧ FOk Fs ∧ s.notes.length ≤ 900 ∧ AtF μ q (snM c W ps s) g ∧ Φ (.ref q) (g (snM c W ps ⟨norm (s.cur ++ Fs), s.notes ++ [s.cur], s.floor⟩))
theorem ok_Session_iadd (F : Fd K "__iadd__" "Session.__iadd__" s_Session_xiadd f fd) (k5 : SeK K c) (fm : FaM P w K mg base c) (m_go : Om CX0 P w K mg base 17 c.Se "go" (sGo c)) : FnR P w K mg base CX0 18 f (spD K (sIadd c)) := by
  refine fn_D F sc_Session_xiadd (fun _ _ _ _ _ _ us hl => match us, hl with | [_, _], _ => rfl) (fun ds μ Φ Ψ h => by obtain ⟨_, _, _, _, _, _, rfl, _⟩ := h; rfl) ?_
  have hN := sc_Session_xiadd.nd
  rintro cdv A outer s0 H E hr ds μ Φ Ψ ⟨q, W, ps, s, Fs, g, rfl, hA, hc, hF, hl, pk, k⟩
  obtain ⟨μ1, pk1⟩ := pk.pick
  refine wb_cons (ws_expr ?_)
  refine we_meth m_go k5.kl hr ?_
  kpc_obj
  refine ⟨recv_m pk1, wa_cons ?_⟩
  refine we_binO fm.or fm.sf (hr.mono (by decide)) ?_
  refine we_at ?_
  kpc_obj
  refine ⟨c.Se, 0, _, insd_m pk1 rfl, k5.kl, k5.cur, ?_⟩
  kpc_obj
  refine ⟨recv_f, recv_f, s.cur, Fs, rfl, hc, hF, ?_⟩
  kpc_obj
  refine ⟨q, W, ps, s, _, _, rfl, hA, fok_norm _, hl, pk, ?_⟩
  kpc_obj
  all_goals exact k
def sIsub (c : Cs) : Spec := fun ds μ Φ _ => ∃ (q : Addr) (W : Wd) (ps : List Pt) (s : Sn) (Fs : List Cl) (g : M → Mu), ds = [.ref q, faD c.F Fs] ∧ AOk W ps ∧ FOk s.cur ∧ FOk Fs ∧ s.notes.length ≤ 900 ∧ AtF μ q (snM c W ps s) g ∧ Φ (.ref q) (g (snM c W ps ⟨norm (s.cur.filter fun y => !decide (y ∈ Fs)), s.notes ++ [s.cur], s.floor⟩))
theorem ok_Session_isub (F : Fd K "__isub__" "Session.__isub__" s_Session_xisub f fd) (k5 : SeK K c) (fm : FaM P w K mg base c) (m_go : Om CX0 P w K mg base 17 c.Se "go" (sGo c)) : FnR P w K mg base CX0 18 f (spD K (sIsub c)) := by
  refine fn_D F sc_Session_xisub (fun _ _ _ _ _ _ us hl => match us, hl with | [_, _], _ => rfl) (fun ds μ Φ Ψ h => by obtain ⟨_, _, _, _, _, _, rfl, _⟩ := h; rfl) ?_
  have hN := sc_Session_xisub.nd
  rintro cdv A outer s0 H E hr ds μ Φ Ψ ⟨q, W, ps, s, Fs, g, rfl, hA, hc, hF, hl, pk, k⟩
  obtain ⟨μ1, pk1⟩ := pk.pick
  refine wb_cons (ws_expr ?_)
  refine we_meth m_go k5.kl hr ?_
  kpc_obj
  refine ⟨recv_m pk1, wa_cons ?_⟩
  refine we_binO fm.sub fm.sf (hr.mono (by decide)) ?_
  refine we_at ?_
  kpc_obj
  refine ⟨c.Se, 0, _, insd_m pk1 rfl, k5.kl, k5.cur, ?_⟩
  kpc_obj
  refine ⟨recv_f, recv_f, s.cur, Fs, rfl, hc, hF, ?_⟩
  kpc_obj
  refine ⟨q, W, ps, s, _, _, rfl, hA, fok_norm _, hl, pk, ?_⟩
  kpc_obj
  all_goals exact k
/-- branch -/
def sBranch (c : Cs) : Spec := fun ds μ Φ _ => ∃ (q : Addr) (W : Wd) (ps : List Pt) (s : Sn) (μ' : Mu), ds = [.ref q] ∧ AOk W ps ∧ FOk s.cur ∧ Pick μ q (snM c W ps s) μ' ∧ ∀ q2, Φ (.ref q2) ((q2, snM c W ps ⟨s.cur, s.notes, 0⟩) :: μ)
theorem ok_Session_branch (F : Fd K "branch" "Session.branch" s_Session_branch f fd) (T : Bn mg) (k5 : SeK K c) (mk : Mkr P w K mg base 16 "Session" c.Se (sSeInit c)) (m_put : Om CX0 P w K mg base 16 c.Se "put" (sPut c)) : FnR P w K mg base CX0 18 f (spD K (sBranch c)) := by
  refine fn_D F sc_Session_branch (fun _ _ _ _ _ _ us hl => match us, hl with | [_], _ => rfl) (fun ds μ Φ Ψ h => by obtain ⟨_, _, _, _, _, rfl, _⟩ := h; rfl) ?_
  have hN := sc_Session_branch.nd
  rintro cdv A outer s0 H E hr ds μ Φ Ψ ⟨q, W, ps, s, μ1, rfl, hA, hc, pk, k⟩
  refine wb_cons (ws_setn (by kp_flats) (by kqd_ok) (by assumption) ?_)
  refine we_make mk hr ?_
  refine wa_cons (we_at ?_)
  kpc_obj
  refine ⟨c.Se, 4, _, insd_m pk rfl, k5.kl, k5.ask, ?_⟩
  kpc_obj
  intro q2
  refine ⟨q2, W, ps, _, rfl, hA, .here, rfl, ?_⟩
  refine wb_cons (ws_expr ?_)
  refine we_meth m_put k5.kl (hr.mono (by decide)) ?_
  kpc_obj
  refine ⟨recv_m .here, wa_cons (we_at ?_)⟩
  kpc_obj
  refine ⟨c.Se, 0, _, insd_m (.there pk) rfl, k5.kl, k5.cur, ?_⟩
  kpc_obj
  refine ⟨q2, W, ps, _, s.cur, _, rfl, hA, hc, .here, ?_⟩
  refine wb_cons (ws_at ?_)
  refine we_lstf T ?_
  refine we_at ?_
  kpc_obj
  refine ⟨c.Se, 3, _, insd_m (.there pk) rfl, k5.kl, k5.notes, _, sq_l ls_f, ?_⟩
  kpc_obj
  refine ⟨q2, c.Se, 3, _, _, rfl, .here, k5.kl, k5.notes, ?_⟩
  kpc_obj
  exact k q2
/-- the answers after some faults were put in, one after the other -/
def triedC : List Cl → List (List Cl) → List (List Cl)
  | _, [] => []
  | cur, r :: rs => norm (cur ++ r) :: triedC (norm (cur ++ r)) rs
def sTried (c : Cs) : Spec := fun ds μ Φ _ => ∃ (q : Addr) (W : Wd) (ps : List Pt) (s : Sn) (rows : List (List Cl)) (μ' : Mu), ds = [.ref q, .lst (rows.map (faD c.F))] ∧ AOk W ps ∧ FOk s.cur ∧ (∀ r ∈ rows, FOk r) ∧ rows.length ≤ 10 ∧ Pick μ q (snM c W ps s) μ' ∧ Φ (.lst ((triedC s.cur rows).map fun x => ansD c (ansO W ps x))) μ
theorem ok_Session_tried (F : Fd K "tried" "Session.tried" s_Session_tried f fd) (T : Bn mg) (k5 : SeK K c) (fm : FaM P w K mg base c) (gF : Gc K mg "Faults" (.ref c.F)) (m_call : Om CX0 P w K mg base 15 c.N "__call__" (sAskCall c)) : FnR P w K mg base CX0 16 f (spD K (sTried c)) := by
  refine fn_D F sc_Session_tried (fun _ _ _ _ _ _ us hl => match us, hl with | [_, _], _ => rfl) (fun ds μ Φ Ψ h => by obtain ⟨_, _, _, _, _, _, rfl, _⟩ := h; rfl) ?_
  have hN := sc_Session_tried.nd
  rintro cdv A outer s0 H E hr ds μ Φ Ψ ⟨q, W, ps, s, rows, μ1, rfl, hA, hc, hrow, hlen, pk, k⟩
  kpc_obj
  refine we_lcn [("faults", 2)] (by kp_flats) (by assumption) rfl (by kpc_if) ?_
  refine wlc_N (faD c.F) (fun _ => .bl true) rows ?_ (by omega) ?_ ?_
  · refine wi_lst ?_
    kpc_obj
    exact ⟨_, rfl, rfl, rfl⟩
  · rintro x hx Y ⟨s1, H1, C1, cl1, fp1, rfl⟩ ν
    kpc_obj
    rintro Y ⟨s1, H1, C1, cl1, fp1, rfl⟩
    refine we_isiC T ?_
    kpc_obj
    refine we_glob gF ?_
    exact ⟨c.F, rfl, recv_f, fm.kl, rfl, rfl⟩
  refine ⟨rows.map fun _ => true, by rw [List.map_map]; rfl, ?_⟩
  rw [all_true]
  refine bl_i (it_f (wb_nil ?_))
  kpc_obj
  refine we_lstM ?_
  kpc_obj
  intro p
  refine we_at ?_
  kpc_obj
  refine ⟨c.Se, 0, _, insd_m (.there pk) rfl, k5.kl, k5.cur, ?_⟩
  kpc_obj
  refine ws_forL (α := List Cl × List (List Cl)) (β := List Cl) [4] [4] (faD c.F) (fun x => [some (.ref q), some (.lst (rows.map (faD c.F))), some (faD c.F x.1), some (.ref p), none]) (fun x => (p, .lst (x.2.map fun y => ansD c (ansO W ps y))) :: μ)
    (fun rest x => x.2.length + rest.length ≤ 10 ∧ triedC s.cur rows = x.2 ++ triedC x.1 rest ∧ FOk x.1 ∧ ∀ r ∈ rest, FOk r) PassesOwn.never rfl ?_ ?_ ?_
  · refine wi_lst ?_
    kpc_obj
    exact ⟨_, rfl, rows, rfl, (s.cur, []), rfl, rfl, by simpa using hlen, rfl, hc, hrow⟩
  · rintro x rest ⟨cur, acc⟩ ⟨h1, h2, h3, h4⟩
    change acc.length + (x :: rest).length ≤ 10 at h1
    change triedC s.cur rows = acc ++ triedC cur (x :: rest) at h2
    change FOk cur at h3
    rw [List.length_cons] at h1
    kpc_obj
    refine we_binO fm.or fm.sf (hr.mono (by decide)) ?_
    kpc_obj
    refine ⟨recv_f, recv_f, cur, x, rfl, h3, h4 x List.mem_cons_self, ?_⟩
    kpc_obj
    refine we_callSl m_call hr ?_
    kpc_obj
    refine ⟨c.Se, 4, _, insd_m (.there pk) rfl, k5.kl, k5.ask, recv_f, ?_⟩
    kpc_obj
    refine ⟨recv_f, W, ps, _, rfl, hA, fok_norm _, ?_⟩
    refine ⟨_, _, .here, by rw [List.length_map]; show acc.length < 1000; omega, ?_⟩
    refine wb_nil ⟨(norm (cur ++ x), acc ++ [norm (cur ++ x)]), rfl, ?_, by simp; omega, ?_, fok_norm _, fun r hr => h4 r (List.mem_cons_of_mem _ hr)⟩
    · show _ = (p, M.lst ((acc ++ [norm (cur ++ x)]).map fun y => ansD c (ansO W ps y))) :: _
      rw [List.map_append]; rfl
    · rw [h2, triedC]
      simp
  · rintro ⟨cur, acc⟩ ⟨_, h2, _, _⟩
    change triedC s.cur rows = acc ++ triedC cur [] at h2
    rw [triedC, List.append_nil] at h2
    refine wb_one (ws_ret (we_frzL ?_))
    kpc_obj
    rw [← h2]
    exact k
end
end
section
/-! ### Block -/
abbrev blF (c : Cs) (q : Addr) (W : Wd) (ps : List Pt) (Fs : List Cl) (s : Sn) : List (Option D) := [some (faD c.F Fs), some (faD c.F s.cur), some (.int (s.floor : Nat)), some (.ref q), some (ansD c (ansO W ps s.cur)), some (.lst (s.notes.map (faD c.F)))]
abbrev blM (c : Cs) (q : Addr) (W : Wd) (ps : List Pt) (Fs : List Cl) (s : Sn) : M := .ins c.B (blF c q W ps Fs s)
structure BlK (K : PySem.W.Frag) (c : Cs) : Prop where
  kl : Kl K c.B
  away : Sl K c.B "away" 0
  bef : Sl K c.B "before" 1
  bel : Sl K c.B "below" 2
  held : Sl K c.B "held" 3
  kg : Sl K c.B "kept_given" 4
  kn : Sl K c.B "kept_notes" 5
def lessC (cur Fs : List Cl) : List Cl := norm (cur.filter fun y => !decide (y ∈ Fs))
section
variable {P : Program} {w : World} {K : PySem.W.Frag} {mg : Str → Option Value} {base : Heap} {f : Addr} {fd : FuncData} {c : Cs}
def sBlInit (c : Cs) : Spec := fun ds μ Φ _ => ∃ (b q : Addr) (W : Wd) (ps : List Pt) (Fs : List Cl) (s : Sn) (ν ν' : Mu), ds = [.ref b, .ref q, faD c.F Fs] ∧ μ = (b, .ins c.B []) :: ν ∧ Pick ν q (snM c W ps s) ν' ∧ Φ .non ((b, blM c q W ps Fs s) :: ν)
theorem ok_Block_init (F : Fd K "__init__" "Block.__init__" s_Block_xinit f fd) (k5 : SeK K c) (k6 : BlK K c) : FnR P w K mg base CX0 1 f (spD K (sBlInit c)) := by
  refine fn_D F sc_Block_xinit (fun _ _ _ _ _ _ us hl => match us, hl with | [_, _, _], _ => rfl) (fun ds μ Φ Ψ h => by obtain ⟨_, _, _, _, _, _, _, _, rfl, _⟩ := h; rfl) ?_
  have hN := sc_Block_xinit.nd
  rintro cdv A outer s0 H E hr ds μ Φ Ψ ⟨b, q, W, ps, Fs, s, ν, ν', rfl, rfl, pk, k⟩
  refine wb_cons (ws_at ?_)
  kpc_obj
  refine ⟨b, c.B, 3, _, (b, .ins c.B [none, none, none, some (.ref q)]) :: ν, rfl, .here, k6.kl, k6.held, ?_⟩
  refine wb_cons (ws_at ?_)
  kpc_obj
  refine ⟨b, c.B, 0, _, (b, .ins c.B [some (faD c.F Fs), none, none, some (.ref q)]) :: ν, rfl, .here, k6.kl, k6.away, ?_⟩
  refine wb_cons (ws_at ?_)
  refine we_at ?_
  kpc_obj
  refine ⟨c.Se, 0, _, insd_m (.there pk) rfl, k5.kl, k5.cur, ?_⟩
  kpc_obj
  refine ⟨b, c.B, 1, _, (b, .ins c.B [some (faD c.F Fs), some (faD c.F s.cur), none, some (.ref q)]) :: ν, rfl, .here, k6.kl, k6.bef, ?_⟩
  refine wb_cons (ws_at ?_)
  refine we_at ?_
  kpc_obj
  refine ⟨c.Se, 2, _, insd_m (.there pk) rfl, k5.kl, k5.giv, ?_⟩
  kpc_obj
  refine ⟨b, c.B, 4, _, (b, .ins c.B [some (faD c.F Fs), some (faD c.F s.cur), none, some (.ref q), some (ansD c (ansO W ps s.cur))]) :: ν, rfl, .here, k6.kl, k6.kg, ?_⟩
  refine wb_cons (ws_at ?_)
  refine we_at ?_
  kpc_obj
  refine ⟨c.Se, 3, _, insd_m (.there pk) rfl, k5.kl, k5.notes, ?_⟩
  kpc_obj
  refine ⟨b, c.B, 5, _, (b, .ins c.B [some (faD c.F Fs), some (faD c.F s.cur), none, some (.ref q), some (ansD c (ansO W ps s.cur)), some (.lst (s.notes.map (faD c.F)))]) :: ν, rfl, .here, k6.kl, k6.kn, ?_⟩
  refine wb_cons (ws_at ?_)
  refine we_at ?_
  kpc_obj
  refine ⟨c.Se, 1, _, insd_m (.there pk) rfl, k5.kl, k5.floor, ?_⟩
  kpc_obj
  exact ⟨b, c.B, 2, _, (b, .ins c.B [some (faD c.F Fs), some (faD c.F s.cur), some (.int (s.floor : Nat)), some (.ref q), some (ansD c (ansO W ps s.cur)), some (.lst (s.notes.map (faD c.F)))]) :: ν, rfl, .here, k6.kl, k6.bel, wb_nil k⟩
def sWithout (c : Cs) : Spec := fun ds μ Φ _ => ∃ (q : Addr) (W : Wd) (ps : List Pt) (Fs : List Cl) (s : Sn) (μ' : Mu), ds = [.ref q, faD c.F Fs] ∧ Pick μ q (snM c W ps s) μ' ∧ ∀ b, Φ (.ref b) ((b, blM c q W ps Fs s) :: μ)
theorem ok_Session_without (F : Fd K "without" "Session.without" s_Session_without f fd) (c_cf : Cal P w K mg base 1 "check_faults" (sCheckFaults c.F)) (mkB : Mkr P w K mg base 1 "Block" c.B (sBlInit c)) : FnR P w K mg base CX0 3 f (spD K (sWithout c)) := by
  refine fn_D F sc_Session_without (fun _ _ _ _ _ _ us hl => match us, hl with | [_, _], _ => rfl) (fun ds μ Φ Ψ h => by obtain ⟨_, _, _, _, _, _, rfl, _⟩ := h; rfl) ?_
  have hN := sc_Session_without.nd
  rintro cdv A outer s0 H E hr ds μ Φ Ψ ⟨q, W, ps, Fs, s, μ1, rfl, pk, k⟩
  kpc_obj
  refine we_call c_cf (hr.mono (by decide)) ?_
  kpc_obj
  refine ⟨Fs, rfl, ?_⟩
  refine wb_one (ws_ret (we_make mkB hr ?_))
  kpc_obj
  intro b
  exact ⟨b, q, W, ps, Fs, s, μ, _, rfl, rfl, pk, rfl, k b⟩
def sEnter (c : Cs) : Spec := fun ds μ Φ _ => ∃ (b q : Addr) (W : Wd) (ps : List Pt) (Fs : List Cl) (s : Sn) (ν : Mu) (g : M → Mu), ds = [.ref b] ∧ μ = (b, blM c q W ps Fs s) :: ν ∧ AOk W ps ∧ FOk s.cur ∧ FOk Fs ∧ s.notes.length ≤ 900 ∧ AtF ν q (snM c W ps s) g ∧ Φ (.ref q) ((b, blM c q W ps Fs s) :: g (snM c W ps ⟨lessC s.cur Fs, s.notes, s.notes.length⟩))
theorem ok_Block_enter (F : Fd K "__enter__" "Block.__enter__" s_Block_xenter f fd) (T : Bn mg) (k5 : SeK K c) (k6 : BlK K c) (fm : FaM P w K mg base c) (m_put : Om CX0 P w K mg base 16 c.Se "put" (sPut c)) : FnR P w K mg base CX0 17 f (spD K (sEnter c)) := by
  refine fn_D F sc_Block_xenter (fun _ _ _ _ _ _ us hl => match us, hl with | [_], _ => rfl) (fun ds μ Φ Ψ h => by obtain ⟨_, _, _, _, _, _, _, _, rfl, _⟩ := h; rfl) ?_
  have hN := sc_Block_xenter.nd
  rintro cdv A outer s0 H E hr ds μ Φ Ψ ⟨b, q, W, ps, Fs, s, ν, g, rfl, rfl, hA, hc, hF, hl, pk, k⟩
  obtain ⟨μ1, pk1⟩ := pk.pick
  -- the held session
  refine wb_cons (ws_at ?_)
  refine we_at ?_
  refine we_at ?_
  kpc_obj
  refine ⟨c.B, 3, _, insd_m .here rfl, k6.kl, k6.held, c.Se, 0, _, insd_m (.there pk1) rfl, k5.kl, k5.cur, ?_⟩
  kpc_obj
  refine ⟨b, c.B, 1, _, _, rfl, .here, k6.kl, k6.bef, ?_⟩
  refine wb_cons (ws_at ?_)
  refine we_at ?_
  refine we_at ?_
  kpc_obj
  refine ⟨c.B, 3, _, insd_m .here rfl, k6.kl, k6.held, c.Se, 2, _, insd_m (.there pk1) rfl, k5.kl, k5.giv, ?_⟩
  kpc_obj
  refine ⟨b, c.B, 4, _, _, rfl, .here, k6.kl, k6.kg, ?_⟩
  refine wb_cons (ws_at ?_)
  refine we_at ?_
  refine we_at ?_
  kpc_obj
  refine ⟨c.B, 3, _, insd_m .here rfl, k6.kl, k6.held, c.Se, 3, _, insd_m (.there pk1) rfl, k5.kl, k5.notes, ?_⟩
  kpc_obj
  refine ⟨b, c.B, 5, _, _, rfl, .here, k6.kl, k6.kn, ?_⟩
  refine wb_cons (ws_at ?_)
  refine we_at ?_
  refine we_at ?_
  kpc_obj
  refine ⟨c.B, 3, _, insd_m .here rfl, k6.kl, k6.held, c.Se, 1, _, insd_m (.there pk1) rfl, k5.kl, k5.floor, ?_⟩
  kpc_obj
  refine ⟨b, c.B, 2, _, _, rfl, .here, k6.kl, k6.bel, ?_⟩
  refine wb_cons (ws_at ?_)
  refine we_len T ?_
  refine we_at ?_
  refine we_at ?_
  kpc_obj
  refine ⟨c.B, 3, _, insd_m .here rfl, k6.kl, k6.held, c.Se, 3, _, insd_m (.there pk1) rfl, k5.kl, k5.notes, _, len_l, ?_⟩
  rw [List.length_map]
  refine we_at ?_
  kpc_obj
  refine ⟨c.B, 3, _, insd_m .here rfl, k6.kl, k6.held, ?_⟩
  refine ⟨q, c.Se, 1, _, _, rfl, .there (pk.at _), k5.kl, k5.floor, ?_⟩
  have pk2 := pk.again (snM c W ps { s with floor := s.notes.length })
  obtain ⟨μ2, pk3⟩ := pk2.pick
  refine wb_cons (ws_expr ?_)
  refine we_meth m_put k5.kl hr ?_
  refine we_at ?_
  kpc_obj
  refine ⟨c.B, 3, _, insd_m .here rfl, k6.kl, k6.held, recv_m (.there pk3), wa_cons ?_⟩
  refine we_binO fm.sub fm.sf (hr.mono (by decide)) ?_
  refine we_at ?_
  refine we_at ?_
  kpc_obj
  refine ⟨c.B, 3, _, insd_m .here rfl, k6.kl, k6.held, c.Se, 0, _, insd_m (.there pk3) rfl, k5.kl, k5.cur, ?_⟩
  refine we_at ?_
  kpc_obj
  refine ⟨c.B, 0, _, insd_m .here rfl, k6.kl, k6.away, recv_f, recv_f, s.cur, Fs, rfl, hc, hF, ?_⟩
  kpc_obj
  refine ⟨q, W, ps, _, _, _, rfl, hA, fok_norm _, .there pk2, ?_⟩
  refine wb_one (ws_ret (we_at ?_))
  kpc_obj
  exact ⟨c.B, 3, _, insd_m .here rfl, k6.kl, k6.held, k⟩
def sExit (c : Cs) : Spec := fun ds μ Φ _ => ∃ (b q : Addr) (W : Wd) (ps : List Pt) (Fs : List Cl) (s s1 : Sn) (x1 x2 x3 : D) (ν : Mu) (g : M → Mu), ds = [.ref b, x1, x2, x3] ∧ μ = (b, blM c q W ps Fs s) :: ν ∧ AtF ν q (snM c W ps s1) g ∧ Φ .non ((b, blM c q W ps Fs s) :: g (snM c W ps s))
theorem ok_Block_exit (F : Fd K "__exit__" "Block.__exit__" s_Block_xexit f fd) (k5 : SeK K c) (k6 : BlK K c) : FnR P w K mg base CX0 1 f (spD K (sExit c)) := by
  refine fn_D F sc_Block_xexit (fun _ _ _ _ _ _ us hl => match us, hl with | [_, _, _, _], _ => rfl) (fun ds μ Φ Ψ h => by obtain ⟨_, _, _, _, _, _, _, _, _, _, _, _, rfl, _⟩ := h; rfl) ?_
  have hN := sc_Block_xexit.nd
  rintro cdv A outer s0 H E hr ds μ Φ Ψ ⟨b, q, W, ps, Fs, s, s1, x1, x2, x3, ν, g, rfl, rfl, pk, k⟩
  refine wb_cons (ws_at ?_)
  refine we_at ?_
  kpc_obj
  refine ⟨c.B, 1, _, insd_m .here rfl, k6.kl, k6.bef, ?_⟩
  refine we_at ?_
  kpc_obj
  refine ⟨c.B, 3, _, insd_m .here rfl, k6.kl, k6.held, ?_⟩
  refine ⟨q, c.Se, 0, _, _, rfl, .there (pk.at (.ins c.Se [some (faD c.F s.cur), some (.int (s1.floor : Nat)), some (ansD c (ansO W ps s1.cur)), some (.lst (s1.notes.map (faD c.F))), some (askD c W ps)])), k5.kl, k5.cur, ?_⟩
  refine wb_cons (ws_at ?_)
  refine we_at ?_
  kpc_obj
  refine ⟨c.B, 4, _, insd_m .here rfl, k6.kl, k6.kg, ?_⟩
  refine we_at ?_
  kpc_obj
  refine ⟨c.B, 3, _, insd_m .here rfl, k6.kl, k6.held, ?_⟩
  refine ⟨q, c.Se, 2, _, _, rfl, .there ((pk.again (.ins c.Se [some (faD c.F s.cur), some (.int (s1.floor : Nat)), some (ansD c (ansO W ps s1.cur)), some (.lst (s1.notes.map (faD c.F))), some (askD c W ps)])).at (.ins c.Se [some (faD c.F s.cur), some (.int (s1.floor : Nat)), some (ansD c (ansO W ps s.cur)), some (.lst (s1.notes.map (faD c.F))), some (askD c W ps)])), k5.kl, k5.giv, ?_⟩
  refine wb_cons (ws_at ?_)
  refine we_at ?_
  kpc_obj
  refine ⟨c.B, 5, _, insd_m .here rfl, k6.kl, k6.kn, ?_⟩
  refine we_at ?_
  kpc_obj
  refine ⟨c.B, 3, _, insd_m .here rfl, k6.kl, k6.held, ?_⟩
  refine ⟨q, c.Se, 3, _, _, rfl, .there ((pk.again (.ins c.Se [some (faD c.F s.cur), some (.int (s1.floor : Nat)), some (ansD c (ansO W ps s.cur)), some (.lst (s1.notes.map (faD c.F))), some (askD c W ps)])).at (.ins c.Se [some (faD c.F s.cur), some (.int (s1.floor : Nat)), some (ansD c (ansO W ps s.cur)), some (.lst (s.notes.map (faD c.F))), some (askD c W ps)])), k5.kl, k5.notes, ?_⟩
  refine wb_cons (ws_at ?_)
  refine we_at ?_
  kpc_obj
  refine ⟨c.B, 2, _, insd_m .here rfl, k6.kl, k6.bel, ?_⟩
  refine we_at ?_
  kpc_obj
  refine ⟨c.B, 3, _, insd_m .here rfl, k6.kl, k6.held, ?_⟩
  exact ⟨q, c.Se, 1, _, _, rfl, .there ((pk.again (.ins c.Se [some (faD c.F s.cur), some (.int (s1.floor : Nat)), some (ansD c (ansO W ps s.cur)), some (.lst (s.notes.map (faD c.F))), some (askD c W ps)])).at (snM c W ps s)), k5.kl, k5.floor, wb_nil k⟩
end
end
section
/-! ### facts for the law itself -/
theorem pok_up {ks : List (List Fld)} : ∀ (lv : Nat) {kd : Nat} {p : Pt}, POk ks lv kd p → POk ks (lv + 1) kd p
  | 0, kd, p, h => .inl h
  | lv + 1, kd, p, h => by
    rcases h with h | ⟨fs, f, t, qs, h1, h2, h3, h4, h5, h6, h7, h8⟩
    · exact .inl h
    · exact .inr ⟨fs, f, t, qs, h1, h2, h3, h4, h5, h6, h7, fun q hq => pok_up lv (h8 q hq)⟩
theorem PsOk.up {ks : List (List Fld)} {lv kd : Nat} {ps : List Pt} (h : PsOk ks lv kd ps) (hl : lv ≤ 2) : PsOk ks 2 kd ps := by
  have h1 : ∀ n, PsOk ks (lv + n) kd ps := fun n => by
    induction n with
    | zero => exact h
    | succ n ih => exact ⟨ih.ne, ih.few, ih.dis, fun p hp => pok_up _ (ih.each p hp)⟩
  have e : lv + (2 - lv) = 2 := by omega
  rw [← e]
  exact h1 _
theorem stoC_ok {ks : List (List Fld)} {os : List Ob} (hl : os.length ≤ 6) : ∀ c ∈ stoC ks os, okCl c := fun c hc => by
  obtain ⟨i, hi, hc⟩ := List.mem_flatMap.mp hc
  obtain ⟨l, hl2, rfl⟩ := List.mem_map.mp hc
  have h1 := List.mem_range.mp hi
  have h2 := (List.mem_filter.mp hl2).1
  refine ⟨by show i ≤ 5; omega, ?_⟩
  show letter l
  unfold lets at h2
  unfold letter
  simp only [List.mem_cons, List.not_mem_nil, or_false] at h2
  omega
theorem stoC_len {ks : List (List Fld)} {os : List Ob} (hl : os.length ≤ 6) : (stoC ks os).length ≤ 36 := by
  have h := flat_le (l := List.range os.length) (f := fun i => (lets.filter fun c => hasC ks os (i, c)).map fun c => (i, c)) (n := 6) fun i _ => by
    rw [List.length_map]
    exact List.length_filter_le _ _
  rw [List.length_range] at h
  unfold stoC
  omega
theorem stoC_ne {W : Wd} {ps : List Pt} (h : AOk W ps) : stoC W.ks W.os ≠ [] := fun z => by
  obtain ⟨p, rest, hp⟩ : ∃ p rest, ps = p :: rest := by
    cases ps with
    | nil => exact absurd rfl h.q.ne
    | cons p rest => exact ⟨p, rest, rfl⟩
  obtain ⟨fs, f, h1, h2, h3, _⟩ := pok_fit h.w.ks (h.q.each p (by rw [hp]; exact List.mem_cons_self))
  obtain ⟨vs, r, e⟩ := h.w.os.hd
  have hk := (h.w.ks.each fs (List.mem_of_getElem? h1)).nms f h2
  have ho : W.os[0]? = some (0, vs) := by rw [e]; rfl
  have hv := (cell_val h.w.ks h.w.os ho h1 h2).2.1
  have hm : (0, f.nm) ∈ stoC W.ks W.os := by
    refine List.mem_flatMap.mpr ⟨0, List.mem_range.mpr (by rw [e]; simp), List.mem_map.mpr ⟨f.nm, List.mem_filter.mpr ⟨?_, ?_⟩, rfl⟩⟩
    · unfold lets
      simp only [List.mem_cons, List.not_mem_nil, or_false]
      omega
    · unfold hasC
      show (lkT _ _ (clK 0 f.nm)).isSome = true
      rw [hv]
      rfl
  rw [z] at hm
  cases hm
end
end DL
namespace DL
open PySem PySem.Spec PyProof.Rows L2
local macro_rules | `(tactic| kqd_ok) => `(tactic| repeat (first | with_reducible exact Ix.here | with_reducible apply Ix.there))
local macro_rules | `(tactic| kp_flats) => `(tactic| repeat (first | with_reducible exact Nx.cx | with_reducible exact Nx.cx0 | with_reducible apply Nx.blk | with_reducible exact Nx.nc | with_reducible exact Nx.hot | with_reducible apply Nx.tr | with_reducible apply Nx.suite))
local macro_rules | `(tactic| kpc_turns) => `(tactic| repeat (first | with_reducible exact At.here | with_reducible exact Pick.here | with_reducible exact AtF.here | with_reducible assumption | with_reducible apply At.there | with_reducible apply Pick.there | with_reducible apply AtF.there))
local macro_rules | `(tactic| kmj_zero) => `(tactic| refine we_vn (by kp_flats) (by kqd_ok) ?_)
local macro_rules | `(tactic| kj_one) => `(tactic| first
  | ((with_reducible show WE _ (Expr.Call (Expr.Name "isinstance" _) _ _ _) _ _ _); refine we_isi (by assumption) ?_)
  | ((with_reducible show WE _ (Expr.Call (Expr.Name "len" _) _ _ _) _ _ _); (fail_if_success (with_reducible show WE _ (Expr.Call _ [Expr.SetComp _ _ _ _] _ _) _ _ _)); (fail_if_success (with_reducible show WE _ (Expr.Call _ [Expr.Name "self" _] _ _) _ _ _)); (fail_if_success (with_reducible show WE _ (Expr.Call _ [Expr.Name "schema" _] _ _) _ _ _)); (fail_if_success (with_reducible show WE _ (Expr.Call _ [Expr.Name "thing" _] _ _) _ _ _)); (fail_if_success (with_reducible show WE _ (Expr.Call _ [Expr.Name "_law_session" _] _ _) _ _ _)); refine we_len (by assumption) ?_)
  | ((with_reducible show WE _ (Expr.Call (Expr.Name "all" _) _ _ _) _ _ _); refine we_all (by assumption) rfl ?_)
  | ((with_reducible show WE _ (Expr.Call (Expr.Name "int" _) _ _ _) _ _ _); refine we_intf (by assumption) ?_)
  | ((with_reducible show WE _ (Expr.Call (Expr.Name "tuple" _) _ _ _) _ _ _); refine we_tupT (by assumption) ?_)
  | ((with_reducible show WE _ (Expr.Call (Expr.Attribute _ "append" _) _ _ _) _ _ _); refine we_app ?_))
local macro_rules | `(tactic| top_args) => `(tactic| first
  | ((with_reducible show WE _ (Expr.Name "int" _) _ _ _); refine we_t1 (by assumption) ?_)
  | ((with_reducible show WE _ (Expr.Name "str" _) _ _ _); refine we_t2 (by assumption) ?_)
  | ((with_reducible show WE _ (Expr.Name "tuple" _) _ _ _); refine we_t3 (by assumption) ?_)
  | ((with_reducible show WE _ (Expr.Name "list" _) _ _ _); refine we_t4 (by assumption) ?_)
  | ((with_reducible show WE _ (Expr.Name "bool" _) _ _ _); refine we_t5 (by assumption) ?_)
  | ((with_reducible show WE _ (Expr.Name "dict" _) _ _ _); refine we_t6 (by assumption) ?_))
local macro_rules | `(tactic| kmk_pure) => `(tactic| first
  | refine we_cmp (op := .Eq) (op_eqA (by assumption)) ?_ | refine we_cmp (op := .NotEq) (op_neA (by assumption)) ?_ | refine we_cmp (op := .Is) (r := rIsN) op_isN ?_ | refine we_cmp (op := .IsNot) (r := rNotN) op_notN ?_
  | refine we_cmp (op := .Lt) op_lt ?_ | refine we_cmp (op := .LtE) op_le ?_ | refine we_cmp (op := .Gt) op_gt ?_ | refine we_cmp (op := .GtE) op_ge ?_
  | refine we_chain op_le op_le ?_)
local macro_rules | `(tactic| kmk_part) => `(tactic| first
  | refine wt_cmp (op := .Eq) (op_eqA (by assumption)) ?_ | refine wt_cmp (op := .NotEq) (op_neA (by assumption)) ?_ | refine wt_cmp (op := .Is) (r := rIsN) op_isN ?_ | refine wt_cmp (op := .IsNot) (r := rNotN) op_notN ?_
  | refine wt_cmp (op := .Lt) op_lt ?_ | refine wt_cmp (op := .LtE) op_le ?_ | refine wt_cmp (op := .Gt) op_gt ?_ | refine wt_cmp (op := .GtE) op_ge ?_
  | refine wt_chain op_le op_le ?_)
local macro_rules | `(tactic| kpc_none) => `(tactic| first
  | ((with_reducible show WE _ (Expr.BinOp _ Operator.Add _ _) _ _ _); refine we_bin (op := .Add) op_addA ?_)
  | ((with_reducible show WE _ (Expr.BinOp _ Operator.Sub _ _) _ _ _); refine we_bin (op := .Sub) op_sub ?_)
  | ((with_reducible show WE _ (Expr.BinOp _ Operator.Mult _ _) _ _ _); refine we_bin (op := .Mult) op_mulA ?_)
  | ((with_reducible show WE _ (Expr.BinOp _ Operator.Mod _ _) _ _ _); refine we_bin (op := .Mod) op_mod ?_)
  | ((with_reducible show WE _ (Expr.BinOp _ Operator.FloorDiv _ _) _ _ _); refine we_bin (op := .FloorDiv) op_fdivW ?_)
  | ((with_reducible show WE _ (Expr.BinOp _ Operator.Pow _ _) _ _ _); refine we_bin (op := .Pow) op_pow ?_))
local macro_rules | `(tactic| tb_rel) => `(tactic| first
  | ((with_reducible show WE _ (Expr.Name _ _) _ _ _); first | kmj_zero | top_args)
  | ((with_reducible show WE _ (Expr.Constant _ _ _) _ _ _); first | refine we_int ?_ | refine we_str ?_ | refine we_non ?_ | refine we_bl ?_)
  | ((with_reducible show WE _ (Expr.Call _ _ _ _) _ _ _); kj_one)
  | ((with_reducible show WE _ (Expr.BoolOp _ _ _) _ _ _); first | refine we_one ?_ | refine we_and ?_ | refine we_or ?_)
  | ((with_reducible show WE _ (Expr.UnaryOp _ _ _) _ _ _); first | refine we_not ?_ | refine we_un un_neg ?_)
  | ((with_reducible show WE _ (Expr.IfExp _ _ _ _) _ _ _); refine we_ifx ?_)
  | ((with_reducible show WE _ (Expr.Compare _ _ _ _) _ _ _); kmk_pure)
  | ((with_reducible show WE _ (Expr.BinOp _ _ _ _) _ _ _); kpc_none)
  | ((with_reducible show WE _ (Expr.Subscript _ (Expr.Slice _ _ _ _) _) _ _ _); fail)
  | ((with_reducible show WE _ (Expr.Subscript _ _ _) _ _ _); (fail_if_success (with_reducible show WE _ (Expr.Subscript _ (Expr.Tuple _ _ _) _) _ _ _)); refine we_ix ix_seq ?_)
  | ((with_reducible show WE _ (Expr.Tuple _ _ _) _ _ _); refine we_tup ?_)
  | ((with_reducible show WE _ (Expr.List (_ :: _) _) _ _ _); refine we_lst ?_)
  | ((with_reducible show WA _ _ _ _ _); first | refine wa_nil ?_ | refine wa_cons ?_)
  | ((with_reducible show WO _ _ _ _ _); first | refine wo_no ?_ | refine wo_so ?_))
local macro_rules | `(tactic| tb_start) => `(tactic| first
  | ((with_reducible show WT _ (Expr.UnaryOp _ _ _) _ _ _); refine wt_not ?_)
  | ((with_reducible show WT _ (Expr.BoolOp _ _ _) _ _ _); first | refine wt_ww (ww_and ?_) | refine wt_ww (ww_or ?_))
  | ((with_reducible show WW _ (Expr.BoolOp _ _ _) _ _ _); first | refine ww_and1 ?_ | refine ww_or1 ?_ | refine ww_and ?_ | refine ww_or ?_)
  | ((with_reducible show WT _ (Expr.Compare _ _ _ _) _ _ _); kmk_part)
  | ((with_reducible show WT _ _ _ _ _); refine wt_val ?_))
local macro_rules | `(tactic| kpe_step) => `(tactic| first
  | ((with_reducible show WB _ _ _ _ _); refine wb_cons ?_)
  | ((with_reducible show WS _ (Stmt.Return _ _) _ _ _); refine ws_ret ?_)
  | ((with_reducible show WS _ (Stmt.Expr _ _) _ _ _); refine ws_expr ?_)
  | ((with_reducible show WS _ (Stmt.Assign [Expr.Name _ _] _ _) _ _ _); refine ws_setn (by kp_flats) (by kqd_ok) (by assumption) ?_)
  | ((with_reducible show WS _ (Stmt.Assign [Expr.Tuple [Expr.Name _ _, Expr.Name _ _] _ _] (Expr.Tuple [_, _] _ _) _) _ _ _); refine ws_par2 (by kp_flats) (by kqd_ok) (by kqd_ok) (by assumption) rfl ?_)
  | ((with_reducible show WS _ (Stmt.If _ _ _ _) _ _ _); refine ws_if ?_)
  | ((with_reducible show WG _ (Expr.Name _ _) _ _ _ _ _); refine wg_n (by kp_flats) (by kqd_ok) (by assumption) ?_)
  | ((with_reducible show WG _ (Expr.Tuple _ _ _) _ _ _ _ _); refine wg_tup rfl ?_)
  | ((with_reducible show WGs _ _ _ _ _ _ _); first | refine wgs_nil ?_ | refine wgs_cons ?_)
  | ((with_reducible show WTs _ _ _ _ _); first | refine wts_nil ?_ | refine wts_one ?_))
local macro_rules | `(tactic| kj_step) => `(tactic| first
  | ((with_reducible show Bl _ _ _); refine bl_i ?_)
  | ((with_reducible show It true _ _); refine it_t ?_)
  | ((with_reducible show It false _ _); refine it_f ?_)
  | ((with_reducible show It (!isB _ _) _ _); first | refine it_f ?_ | refine it_t ?_)
  | ((with_reducible show It (isB _ _) _ _); first | refine it_f ?_ | refine it_t ?_)
  | ((with_reducible show It (decide _) _ _); first | refine it_yes (by first | decide | exact rfl) ?_ | refine it_no (by decide) ?_)
  | ((with_reducible show It (!decide _) _ _); first | refine it_noN (by first | decide | exact rfl) ?_ | refine it_yesN (by decide) ?_)
  | ((with_reducible show It (!false) _ _); refine it_t ?_)
  | ((with_reducible show It (!true) _ _); refine it_f ?_)
  | ((with_reducible show UD _ _ _ _ _); refine ud_neg ?_)
  | ((with_reducible show RD _ _ _ _ _ _); first
    | ((with_reducible show RD _ (rEqA _) _ _ _ _); first | with_reducible refine rd_eqP (rd_eqNm ?_) | with_reducible refine rd_eqP (rd_eqOI ?_) | with_reducible refine rd_eqP (rd_eqS ?_) | with_reducible refine rd_eqP (rd_eqI ?_) | with_reducible refine rd_eqP (rd_eqB ?_) | refine rd_eqP (rd_eq .non (.int _) rfl ?_) | refine rd_eqP (rd_eq (.int _) .non rfl ?_) | refine rd_eqP (rd_eq .non .non rfl ?_))
    | ((with_reducible show RD _ (rNeA _) _ _ _ _); first | with_reducible refine rd_neP (rd_neNm ?_) | with_reducible refine rd_neP (rd_neOI ?_) | with_reducible refine rd_neP (rd_neS ?_) | with_reducible refine rd_neP (rd_neI ?_))
    | ((with_reducible show RD _ rIsN _ _ _ _); refine rd_isN ?_) | ((with_reducible show RD _ rNotN _ _ _ _); refine rd_notN ?_)
    | ((with_reducible show RD _ (rI0 _) _ _ _ _); first | refine rd_I0 (fun _ => .int _) ?_ | refine rd_I0 (fun _ => .bl _) ?_)
    | ((with_reducible show RD _ (rAdd _) (D.int _) (D.int _) _ _); refine rd_addI ?_)
    | ((with_reducible show RD _ rMul (D.int _) (D.int _) _ _); refine rd_mulI (by first | exact cmul_r (by decide) (by decide) | exact cmul_l (by decide) (by decide)) ?_)
    | ((with_reducible show RD _ (rI CPow _) _ _ _ _); refine rd_pow ⟨by decide, by decide, by decide⟩ ?_)
    | ((with_reducible show RD _ (rI CDivW _) _ _ _ _); refine rd_fdiv ⟨by decide, by decide⟩ ?_)
    | ((with_reducible show RD _ (rI _ _) _ _ _ _); refine rd_mod (by first | decide | assumption) ?_)
    | ((with_reducible show RD _ (rIx _) _ _ _ _); first | refine rd_ixT (d := _) rfl ?_ | refine rd_ixL (d := _) rfl ?_ | refine rd_ixM (by kpc_turns) (d := _) rfl ?_))
  | ((with_reducible show ∃ b, IsiD _ _ b ∧ _); refine ⟨_, isi_i rfl (by decide), ?_⟩)
  | ((with_reducible show ∃ i, D.int _ = D.int i ∧ _); refine ⟨_, rfl, ?_⟩)
  | ((with_reducible show ∃ q ds0 μ0, D.ref _ = D.ref q ∧ _); refine ⟨_, _, _, rfl, by kpc_turns, ?_⟩)
  | ((with_reducible show ∃ ds μ', At _ _ _ _ μ' ∧ List.length _ < 1000 ∧ _); refine ⟨_, _, by kpc_turns, ?_, ?_⟩)
  | ((with_reducible show ∃ ds μ2, TakeL _ _ ds μ2 ∧ _); first | refine ⟨_, _, .f, ?_⟩ | refine ⟨_, _, .m (by kpc_turns), ?_⟩)
  | ((with_reducible show List.length _ ≤ 1000 ∧ _); refine ⟨Nat.le_of_ble_eq_true rfl, ?_⟩)
  | ((with_reducible show ∃ n, LenD _ _ n ∧ _); first | refine ⟨_, len_t, ?_⟩ | refine ⟨_, len_l, ?_⟩ | refine ⟨_, len_nm, ?_⟩ | refine ⟨_, len_m (by kpc_turns), ?_⟩))
local macro_rules | `(tactic| kpc_obj) => `(tactic| repeat (first | kj_step | tb_rel | tb_start | with_reducible assumption | kpe_step))
local macro_rules | `(tactic| kqd_all) => `(tactic| repeat (first | kj_step | tb_rel | tb_start | with_reducible assumption | kpe_step | ((with_reducible show WB _ _ _ _ _); refine wb_nil ?_)))
local macro_rules | `(tactic| kpc_if) => `(tactic| exact blkok_of rfl (by kernel_rfl) (by kernel_rfl) (by kernel_rfl) (by kernel_rfl))
section
/-! ### Session: undo, an item, a block -/
section
variable {P : Program} {w : World} {K : PySem.W.Frag} {mg : Str → Option Value} {base : Heap} {f nd bc : Addr} {fd : FuncData} {c : Cs}
def sUndo (c : Cs) (nd : Addr) : Spec := fun ds μ Φ Ψ => ∃ (q : Addr) (W : Wd) (ps : List Pt) (s : Sn) (g : M → Mu), ds = [.ref q] ∧ AOk W ps ∧ SnOk s ∧ s.notes.length ≤ 900 ∧ AtF μ q (snM c W ps s) g ∧ (s.notes.length ≤ s.floor → Ψ (.ref nd) μ) ∧
  ∀ (ini : List (List Cl)) (x : List Cl), s.notes = ini ++ [x] → s.floor < s.notes.length → Φ (faD c.F x) (g (snM c W ps ⟨x, ini, s.floor⟩))
theorem cut_last (xs : List D) (x : D) : cutD (xs ++ [x]) none (some (-1)) = xs := by
  unfold cutD
  have e1 : HT.sIx (xs ++ [x]).length 0 none = 0 := rfl
  have e2 : HT.sIx (xs ++ [x]).length (xs ++ [x]).length (some (-1)) = xs.length := by
    simp only [HT.sIx]
    rw [if_pos (by decide), List.length_append, List.length_singleton]
    omega
  rw [e1, e2, List.drop_zero, Nat.sub_zero, List.take_left']
  rfl
theorem ok_Session_undo (F : Fd K "undo" "Session.undo" s_Session_undo f fd) (T : Bn mg) (k5 : SeK K c) (ND : Exn K mg "NothingDone" nd) (m_put : Om CX0 P w K mg base 16 c.Se "put" (sPut c)) : FnR P w K mg base (L2N.CX P w) 17 f (spD K (sUndo c nd)) := by
  refine fn_DX F sc_Session_undo (fun _ _ _ _ _ _ us hl => match us, hl with | [_], _ => rfl) (fun ds μ Φ Ψ h => by obtain ⟨_, _, _, _, _, rfl, _⟩ := h; rfl) ?_
  have hN := sc_Session_undo.nd
  rintro cdv A outer s0 H E hr G0 ds μ Φ Ψ ⟨q, W, ps, s, g, rfl, hA, hs, hl, pk, k1, k2⟩ tk
  obtain ⟨μ1, pk1⟩ := pk.pick
  refine wbg_cons (wsg_if ?_)
  kpc_obj
  refine we_at ?_
  kpc_obj
  refine ⟨c.Se, 3, _, insd_m pk1 rfl, k5.kl, k5.notes, _, len_l, ?_⟩
  refine we_at ?_
  kpc_obj
  refine ⟨c.Se, 1, _, insd_m pk1 rfl, k5.kl, k5.floor, ?_⟩
  kpc_obj
  rw [List.length_map]
  refine it_by (fun h => ?_) fun h => ?_
  · refine wbg_one ?_
    exact wsg_raise tk rfl ND (k1 (by omega))
  refine wbg_nil ?_
  have hne : s.notes ≠ [] := fun z => by rw [z] at h; simp at h
  obtain ⟨ini, x, hx⟩ : ∃ ini x, s.notes = ini ++ [x] := ⟨s.notes.dropLast, s.notes.getLast hne, (List.dropLast_concat_getLast hne).symm⟩
  have hfx : FOk x := hs.notes x (by rw [hx]; simp)
  have kk := k2 ini x hx (by omega)
  have hln : ini.length ≤ 900 := by rw [hx] at hl; simp at hl; omega
  refine wbg_cons (wsg_of (ws_expr ?_))
  refine we_meth m_put k5.kl hr ?_
  kpc_obj
  refine ⟨recv_m pk1, wa_cons ?_⟩
  kpc_obj
  refine we_at ?_
  kpc_obj
  refine ⟨c.Se, 3, _, insd_m pk1 rfl, k5.kl, k5.notes, ?_⟩
  kpc_obj
  refine rd_ixL (d := faD c.F x) (by rw [hx, List.map_append]; exact atI_last _ _) ?_
  kpc_obj
  refine ⟨q, W, ps, s, x, g, rfl, hA, hfx, pk, ?_⟩
  have pk2 := pk.again (snM c W ps { s with cur := x })
  obtain ⟨μ2, pk3⟩ := pk2.pick
  refine wbg_cons (wsg_of (ws_at ?_))
  refine we_slL ?_
  refine we_at ?_
  kpc_obj
  refine ⟨c.Se, 3, _, insd_m pk3 rfl, k5.kl, k5.notes, ?_⟩
  kpc_obj
  refine ⟨_, ls_f, ?_⟩
  kpc_obj
  refine ⟨q, c.Se, 3, _, _, rfl, pk2.at _, k5.kl, k5.notes, ?_⟩
  have em : M.ins c.Se (putD 3 (.lst (cutD (s.notes.map (faD c.F)) none (some (-1)))) (snF c W ps { s with cur := x })) = snM c W ps ⟨x, ini, s.floor⟩ := by
    show M.ins c.Se [_, _, _, some (.lst (cutD (s.notes.map (faD c.F)) none (some (-1)))), _] = M.ins c.Se [_, _, _, some (.lst (ini.map (faD c.F))), _]
    rw [hx, List.map_append, show [x].map (faD c.F) = [faD c.F x] from rfl, cut_last]
  rw [em]
  obtain ⟨μ3, pk4⟩ := (pk2.again (snM c W ps ⟨x, ini, s.floor⟩)).pick
  refine wbg_of (wb_one (ws_ret (we_at ?_)))
  kpc_obj
  exact ⟨c.Se, 0, _, insd_m pk4 rfl, k5.kl, k5.cur, kk⟩
/-- a session's item -/
def sSeItem (c : Cs) (bc : Addr) : Spec := fun ds μ Φ Ψ => ∃ (q : Addr) (fs : List (Option D)) (μ' : Mu) (cs : List Cl) (x : Cl), ds = [.ref q, clD x] ∧ Pick μ q (.ins c.Se fs) μ' ∧ fs[0]? = some (some (faD c.F cs)) ∧ FOk cs ∧ letter x.2 ∧ (x.1 ≤ 5 → Φ (.bl (decide (x ∈ cs))) μ) ∧ (¬ x.1 ≤ 5 → Ψ (.ref bc) μ)
theorem ok_Session_item (F : Fd K "__getitem__" "Session.__getitem__" s_Session_xgetitem f fd) (k5 : SeK K c) (BC : Exn K mg "BadCell" bc) (c_cell : Cal P w K mg base 2 "is_cell" sIsCell) (m_in : Om CX0 P w K mg base 3 c.F "__contains__" (sFaultsIn c.F)) : FnR P w K mg base (L2N.CX P w) 4 f (spD K (sSeItem c bc)) := by
  refine fn_DX F sc_Session_xgetitem (fun _ _ _ _ _ _ us hl => match us, hl with | [_, _], _ => rfl) (fun ds μ Φ Ψ h => by obtain ⟨_, _, _, _, _, rfl, _⟩ := h; rfl) ?_
  have hN := sc_Session_xgetitem.nd
  rintro cdv A outer s0 H E hr G0 ds μ Φ Ψ ⟨q, fs, μ1, cs, x, rfl, pk1, hf0, hc, hx, k1, k2⟩ tk
  refine wbg_cons (wsg_if ?_)
  kpc_obj
  refine we_call c_cell (hr.mono (by decide)) ?_
  kpc_obj
  refine ⟨x, rfl, hx, bl_i ?_⟩
  refine it_byN (fun h => ?_) fun h => ?_
  · exact wbg_one (wsg_raise tk rfl BC (k2 h))
  refine wbg_nil ?_
  refine wbg_of (wb_one (ws_ret ?_))
  refine we_inO m_in (hr.mono (by decide)) ?_
  kpc_obj
  refine we_at ?_
  kpc_obj
  exact ⟨c.Se, 0, _, insd_m pk1 hf0, k5.kl, k5.cur, recv_f, cs, x, rfl, hx, hc.ok, bl_i (k1 h)⟩
/-- __exit__ while an exception is in the air -/
theorem ok_Block_exitH {CX : CXT} (F : Fd K "__exit__" "Block.__exit__" s_Block_xexit f fd) (k5 : SeK K c) (k6 : BlK K c) : L2H.FnH P w K mg base CX 1 f fd p_Block_xexit (spD K (sExit c)) := by
  refine fn_DH F sc_Block_xexit (fun ds μ Φ Ψ h => by obtain ⟨_, _, _, _, _, _, _, _, _, _, _, _, rfl, _⟩ := h; rfl) ?_
  have hN := sc_Block_xexit.nd
  rintro cdv A outer s0 H E p ds μ Φ Ψ ⟨b, q, W, ps, Fs, s, s1, x1, x2, x3, ν, g, rfl, rfl, pk, k⟩
  refine wb_cons (ws_at ?_)
  refine we_at ?_
  kpc_obj
  refine ⟨c.B, 1, _, insd_m .here rfl, k6.kl, k6.bef, ?_⟩
  refine we_at ?_
  kpc_obj
  refine ⟨c.B, 3, _, insd_m .here rfl, k6.kl, k6.held, ?_⟩
  refine ⟨q, c.Se, 0, _, _, rfl, .there (pk.at (.ins c.Se [some (faD c.F s.cur), some (.int (s1.floor : Nat)), some (ansD c (ansO W ps s1.cur)), some (.lst (s1.notes.map (faD c.F))), some (askD c W ps)])), k5.kl, k5.cur, ?_⟩
  refine wb_cons (ws_at ?_)
  refine we_at ?_
  kpc_obj
  refine ⟨c.B, 4, _, insd_m .here rfl, k6.kl, k6.kg, ?_⟩
  refine we_at ?_
  kpc_obj
  refine ⟨c.B, 3, _, insd_m .here rfl, k6.kl, k6.held, ?_⟩
  refine ⟨q, c.Se, 2, _, _, rfl, .there ((pk.again (.ins c.Se [some (faD c.F s.cur), some (.int (s1.floor : Nat)), some (ansD c (ansO W ps s1.cur)), some (.lst (s1.notes.map (faD c.F))), some (askD c W ps)])).at (.ins c.Se [some (faD c.F s.cur), some (.int (s1.floor : Nat)), some (ansD c (ansO W ps s.cur)), some (.lst (s1.notes.map (faD c.F))), some (askD c W ps)])), k5.kl, k5.giv, ?_⟩
  refine wb_cons (ws_at ?_)
  refine we_at ?_
  kpc_obj
  refine ⟨c.B, 5, _, insd_m .here rfl, k6.kl, k6.kn, ?_⟩
  refine we_at ?_
  kpc_obj
  refine ⟨c.B, 3, _, insd_m .here rfl, k6.kl, k6.held, ?_⟩
  refine ⟨q, c.Se, 3, _, _, rfl, .there ((pk.again (.ins c.Se [some (faD c.F s.cur), some (.int (s1.floor : Nat)), some (ansD c (ansO W ps s.cur)), some (.lst (s1.notes.map (faD c.F))), some (askD c W ps)])).at (.ins c.Se [some (faD c.F s.cur), some (.int (s1.floor : Nat)), some (ansD c (ansO W ps s.cur)), some (.lst (s.notes.map (faD c.F))), some (askD c W ps)])), k5.kl, k5.notes, ?_⟩
  refine wb_cons (ws_at ?_)
  refine we_at ?_
  kpc_obj
  refine ⟨c.B, 2, _, insd_m .here rfl, k6.kl, k6.bel, ?_⟩
  refine we_at ?_
  kpc_obj
  refine ⟨c.B, 3, _, insd_m .here rfl, k6.kl, k6.held, ?_⟩
  exact ⟨q, c.Se, 1, _, _, rfl, .there ((pk.again (.ins c.Se [some (faD c.F s.cur), some (.int (s1.floor : Nat)), some (ansD c (ansO W ps s.cur)), some (.lst (s.notes.map (faD c.F))), some (askD c W ps)])).at (snM c W ps s)), k5.kl, k5.floor, wb_nil k⟩
end
end
section
/-! ### Session.attempt -/
section
variable {P : Program} {w : World} {K : PySem.W.Frag} {mg : Str → Option Value} {base : Heap} {f nd bc : Addr} {fd : FuncData} {c : Cs}
def sAtt (c : Cs) : Spec → Spec := fun S ds μ Φ Ψ => ∃ (q f : Addr) (W : Wd) (ps : List Pt) (s : Sn) (Fs : List Cl) (g : M → Mu), ds = [.ref q, faD c.F Fs, .ref f] ∧ AOk W ps ∧ FOk s.cur ∧ FOk Fs ∧ s.notes.length ≤ 900 ∧ AtF μ q (snM c W ps s) g ∧
  ∀ (b : Addr) (Φ1 : D → Mu → Prop) (Ψ1 : Value → Mu → Prop),
    (∀ (d : D) (μ1 ν : Mu) (s1 : Sn) (g1 : M → Mu), ((b, blM c q W ps Fs s) :: ν).Perm μ1 → AtF ν q (snM c W ps s1) g1 → Φ d (g1 (snM c W ps s)) → Φ1 d μ1) →
    (∀ (C : Addr) (μ1 ν : Mu) (s1 : Sn) (g1 : M → Mu), ((b, blM c q W ps Fs s) :: ν).Perm μ1 → AtF ν q (snM c W ps s1) g1 → Ψ (.ref C) (g1 (snM c W ps s)) → Ψ1 (.ref C) μ1) →
    S [.ref q] ((b, blM c q W ps Fs s) :: g (snM c W ps ⟨lessC s.cur Fs, s.notes, s.notes.length⟩)) Φ1 Ψ1
theorem OmH.up {j k : Nat} {C : Addr} {m : Str} {S : Spec} (o : OmH P w K mg base j C m S) (h : j ≤ k) : OmH P w K mg base k C m S := by
  obtain ⟨g, fd, ps, h1, h2, h3, h4, h5⟩ := o.ex
  exact ⟨g, fd, ps, h1, h2, ⟨h3.len, fun A outer s H args us vs Q E p hr => h3.run A outer s H args us vs Q E p (hr.mono h)⟩, h4, h5.mono h⟩
theorem ok_Session_attempt {k kl : Nat} (hk : 17 ≤ k) (hkl : kl ≤ k) (h1 : PySem.W.findIn K (.ref c.Se) "attempt" = some (some (.ref f))) (h2 : PySem.W.isFn K (.ref f) = true) (F : Fd K "attempt" "Session.attempt" s_Session_attempt f fd) (k6 : BlK K c) (kl5 : Kl K c.Se)
    (m_without : Om CX0 P w K mg base 3 c.Se "without" (sWithout c)) (m_enter : Om CX0 P w K mg base 17 c.B "__enter__" (sEnter c)) (m_exit : OmH P w K mg base 1 c.B "__exit__" (sExit c)) : AttP P w K mg base (k + 1) kl c.Se "attempt" (sAtt c) := by
  refine attP_of h1 h2 F sc_Session_attempt rfl (fun _ _ _ _ _ _ us hl => match us, hl with | [_, _, _], _ => rfl) ?_
  have hN := sc_Session_attempt.nd
  rintro cdv A outer s0 H E hr G0 d1 d2 fl μ S Φ Ψ L ⟨q, fl', W, ps, s, Fs, g, eds, hA, hc, hF, hl, pk, hS⟩ tk
  cases eds
  obtain ⟨μ1, pk1⟩ := pk.pick
  refine wbg_cons (wsg_with (k := k) 3 rfl rfl hN tk.less k6.kl (m_enter.up hk) (m_exit.up (by omega)) hr ?_)
  refine we_meth m_without kl5 (hr.mono (by omega)) ?_
  kpc_obj
  refine ⟨recv_m pk1, ?_⟩
  kpc_obj
  refine ⟨q, W, ps, Fs, s, μ1, rfl, pk1, fun b => ⟨recv_m .here, b, q, W, ps, Fs, s, μ, g, rfl, rfl, hA, hc, hF, hl, pk, ?_⟩⟩
  rintro pn xe G1 sG tk1 hp
  refine wbg_one (wsg_set 4 hN ?_)
  refine weg_less ?_
  refine weg_lamf (i := 2) tk1.less L sG rfl (hr.mono hkl) rfl ?_
  kpc_obj
  refine hS b _ _ (fun d μ1 ν s1 g1 hp pk3 kk => ?_) fun C μ1 ν s1 g1 hp pk3 kk => ?_
  · refine ⟨μ1, (b, blM c q W ps Fs s) :: ν, List.Sublist.refl _, hp, b, q, W, ps, Fs, s, s1, .non, .non, .non, ν, g1, rfl, rfl, pk3, ?_⟩
    refine wbg_of (wb_one (ws_ret (we_drop ?_)))
    kpc_obj
    exact ⟨_, List.sublist_cons_self _ _, kk⟩
  · exact ⟨μ1, (b, blM c q W ps Fs s) :: ν, List.Sublist.refl _, hp, C, rfl, fun a tb => ⟨b, q, W, ps, Fs, s, s1, _, _, _, ν, g1, rfl, rfl, pk3, rfl, _, _, List.sublist_cons_self _ _, List.Perm.refl _, kk⟩⟩
end
end
section
/-! ### _law_is -/
abbrev wkT (W : Wd) (ps : List Pt) (cells : List Cl) : D := .tup [wdD W, ptsD ps, .lst (cells.map clD)]
structure LwOk (W : Wd) (ps : List Pt) (cells : List Cl) : Prop where
  a : AOk W ps
  ne : cells ≠ []
  ok : ∀ c ∈ cells, okCl c
  few : cells.length ≤ 60
structure SOk (s : Sn) : Prop where
  cur : NOk s.cur
  notes : ∀ n ∈ s.notes, NOk n
theorem SOk.sn {s : Sn} (h : SOk s) : SnOk s := ⟨h.cur.fok, fun n hn => (h.notes n hn).fok⟩
/-- the model of a session: its cells, the place of its journal; the journal -/
abbrev lsM (s : Sn) (j : Addr) : M := .lst [csD s.cur, .ref j]
abbrev ljM (s : Sn) : M := .lst (s.notes.map csD)
/-- what the law asks of a session -/
structure SeP (P : Program) (w : World) (K : PySem.W.Frag) (mg : Str → Option Value) (base : Heap) (c : Cs) : Prop where
  kl : Kl K c.Se
  now : Pr P w K mg base 1 c.Se "now" (sSeGet c 0)
  answer : Pr P w K mg base 1 c.Se "answer" (sSeGet c 2)
  asker : Pr P w K mg base 1 c.Se "asker" (sSeGet c 4)
  journal : Pr P w K mg base 1 c.Se "journal" (sSeJournal c)
  len : Om CX0 P w K mg base 3 c.Se "__len__" (sSeLen c)
  isin : Om CX0 P w K mg base 4 c.Se "__contains__" (sSeIn c)
  klF : Kl K c.F
  cells : Pr P w K mg base 1 c.F "cells" (sFaultsCells c.F)
  klA : Kl K c.A
  data : Pr P w K mg base 11 c.A "data" (sAnsData c)
theorem rd_neSm {K : PySem.W.Frag} {μ : Mu} {Φ : D → Mu → Prop} {x y : D} {d : PyData} (hx : Py μ x d) (hy : Py μ y d) (h1 : d.canLay0 = true) (h2 : d.depth ≤ 10) (k : Φ (.bl false) μ) : RD K (rNeA K) x y μ Φ :=
  rd_neDD hx hy (shaped_of h1 h2 (by omega)) (shaped_of h1 h2 (by omega)) (by rw [SeqAt.eqv_refl d h1]; exact k)
abbrev csP (cs : List Cl) : PyData := .tuple (cs.map clP)
abbrev nsP (ns : List (List Cl)) : PyData := .list (ns.map csP)
theorem py_cs (cs : List Cl) : PyF (csD cs) (csP cs) := .tup (pyfs_map fun x _ => py_cl x)
theorem lay_ns {ns : List (List Cl)} (h : ∀ n ∈ ns, NOk n) : (nsP ns).canLay0 = true ∧ (nsP ns).depth ≤ 3 := by
  have h1 : ∀ n ∈ ns, (csP n).canLay0 = true ∧ (csP n).depth ≤ 2 := fun n hn => lay_cls fun x hx => ((h n hn).fok.ok x hx).2
  constructor
  · have := lay_all (l := ns) (g := csP) fun x hx => (h1 x hx).1
    simpa [PyData.canLay0] using this
  · have := dep_all (l := ns) (g := csP) (n := 2) fun x hx => (h1 x hx).2
    simp only [nsP, PyData.depth]
    omega
/-- != of answers' data -/
def rNeD (K : PySem.W.Frag) : R2 := fun x y H Q => rNeA K x y H Q ∨ rNeE K x y H Q
theorem op_neD {X : Cx} {k : Nat} (hr : Room k X.A) : OpR X (compareOp .NotEq) (rNeD X.K) := by
  rintro pins s σ H x y v u Q I rx ry (h | h)
  · exact op_neA hr pins s σ H x y v u Q I rx ry h
  · exact op_neE hr pins s σ H x y v u Q I rx ry h
theorem rd_neAn {K : PySem.W.Frag} {μ : Mu} {Φ : D → Mu → Prop} {x : An} (h : itOk 3 x) (ht : x = .non ∨ ∃ ks xs, x = .obj ks xs) (k : Φ (.bl false) μ) : RD K (rNeD K) (anD x) (anD x) μ Φ := by
  rcases ht with rfl | ⟨ks, xs, rfl⟩
  · rw [anD_non]
    exact (rd_neP (rd_ne .non .non rfl (by simpa using k))).mono fun _ _ _ _ h => .inl h
  · have hc := (cp_of 3).1 _ h
    have he := eqd_of 6 _ hc
    obtain ⟨_, _, hk, hx⟩ := hc
    rw [anD_obj] at *
    refine (rd_neE 5 (nd_keys hk) (fun d hd => ?_) (by omega) k).mono fun _ _ _ _ h => .inr h
    obtain ⟨x, hx', rfl⟩ := List.mem_map.mp hd
    exact eqd_of 5 x (hx x hx')
/-- a method that may raise, where it does not -/
theorem Om.calm {P : Program} {w : World} {K : PySem.W.Frag} {mg : Str → Option Value} {base : Heap} {k : Nat} {C : Addr} {m : Str} {S : Spec} (M : Om (L2N.CX P w) P w K mg base k C m S) : Om CX0 P w K mg base k C m (fun ds μ Φ _ => S ds μ Φ noX) := by
  obtain ⟨g, h1, h2, h3, h4, Fr⟩ := M.ex
  refine ⟨g, h1, h2, h3, h4, fun A outer s H us vs Q E hr e0 rv h => ?_⟩
  obtain ⟨G, μ, ds, Φ, Ψ, m0, rp, hS, q, qe⟩ := h
  refine codeAny_mono (Fr A outer s H us vs Q (fun _ _ _ => False) hr e0 rv ⟨G, μ, ds, Φ, noX, m0, rp, hS, q, fun _ _ _ _ _ _ z => z⟩) fun r s' z => ?_
  cases r with
  | error e =>
    obtain ⟨_, _, _, _, _, _, _, _, _, _, _, _, z⟩ := z
    exact z.elim
  | ok fl => cases fl <;> exact z
section
variable {P : Program} {w : World} {K : PySem.W.Frag} {mg : Str → Option Value} {base : Heap} {f nd bc : Addr} {fd : FuncData} {c : Cs}
def sLIs (c : Cs) : Spec := fun ds μ Φ _ => ∃ (q m j : Addr) (W : Wd) (ps : List Pt) (cells : List Cl) (s : Sn) (ν1 ν2 ν3 : Mu), ds = [.ref q, wkT W ps cells, .ref m] ∧ LwOk W ps cells ∧ SOk s ∧ s.notes.length ≤ 900 ∧ Pick μ q (snM c W ps s) ν1 ∧ Pick μ m (lsM s j) ν2 ∧ Pick μ j (ljM s) ν3 ∧ Φ (.bl true) μ
theorem ok_law_is (F : Fd K "_law_is" "_law_is" s_law_is f fd) (T : Bn mg) (se : SeP P w K mg base c) (m_item : Om (L2N.CX P w) P w K mg base 4 c.Se "__getitem__" (sSeItem c bc)) (c_run : Cal P w K mg base 12 "_law_run" sLawRun) : FnR P w K mg base CX0 13 f (spD K (sLIs c)) := by
  refine fn_D F sc_law_is (fun _ _ _ _ _ _ us hl => match us, hl with | [_, _, _], _ => rfl) (fun ds μ Φ Ψ h => by obtain ⟨_, _, _, _, _, _, _, _, _, _, rfl, _⟩ := h; rfl) ?_
  have hN := sc_law_is.nd
  rintro cdv A outer s0 H E hr ds μ Φ Ψ ⟨q, m, j, W, ps, cells, s, ν1, ν2, ν3, rfl, hL, hs, hl, pk1, pk2, pk3, k⟩
  have hok := hs.sn
  refine wb_cons (ws_asg [3, 4, 5] ?_)
  kpc_obj
  refine we_prop se.cells se.klF (hr.mono (by decide)) ?_
  refine we_prop se.now se.kl (hr.mono (by decide)) ?_
  kpc_obj
  refine ⟨recv_m pk1, q, _, ν1, faD c.F s.cur, rfl, pk1, rfl, recv_f, s.cur, rfl, ?_⟩
  kpc_obj
  have lc := lay_cls fun x hx => (hok.cur.ok x hx).2
  refine rd_neSm (py_clT _) (py_clT _) lc.1 (by omega) (bl_i (it_f ?_))
  kpc_obj
  refine we_lcn [("_law_faults", 6)] (by kp_flats) (by assumption) rfl (by kpc_if) ?_
  refine wlc_N (faD c.F) csD s.notes ?_ (by omega) ?_ ?_
  · refine wi_lst (we_frzL (we_prop se.journal se.kl (hr.mono (by decide)) ?_))
    kpc_obj
    exact ⟨recv_m pk1, q, _, ν1, _, rfl, pk1, rfl, fun p => ⟨p, _, μ, rfl, .here, _, rfl, rfl, rfl⟩⟩
  · rintro x hx Y ⟨s1, H1, C1, cl1, fp1, rfl⟩ ν
    kpc_obj
    rintro Y ⟨s1, H1, C1, cl1, fp1, rfl⟩
    refine we_prop se.cells se.klF (hr.mono (by decide)) ?_
    kpc_obj
    exact ⟨recv_f, x, rfl, rfl, rfl⟩
  kpc_obj
  have ln := lay_ns hs.notes
  refine rd_neSm (d := nsP s.notes) (py_f (.lst (pyfs_map fun x _ => py_cs x))) (py_m pk3 (pyfs_map fun x _ => py_cs x)) ln.1 (by omega) (bl_i (it_f ?_))
  refine wb_nil ?_
  kpc_obj
  refine we_lenO T se.len (hr.mono (by decide)) ?_
  kpc_obj
  refine ⟨recv_m pk1, q, _, ν1, s.cur, rfl, pk1, rfl, hok.cur, ?_⟩
  have hfew := hok.cur.few
  refine ⟨_, rfl, by omega, ?_⟩
  kpc_obj
  refine it_noN (by rw [List.length_map]) ?_
  refine ww_or1 (wt_cmp (op := .NotEq) (op_neD hr) ?_)
  refine we_prop se.data se.klA (hr.mono (by decide)) ?_
  refine we_prop se.answer se.kl (hr.mono (by decide)) ?_
  kpc_obj
  refine ⟨recv_m pk1, q, _, ν1, _, rfl, pk1, rfl, recv_f, ansO W ps s.cur, rfl, hL.a.it s.cur, ?_⟩
  refine we_ix ix_seq ?_
  refine we_call c_run (hr.mono (by decide)) ?_
  kpc_obj
  refine ⟨W, s.cur, ps, rfl, hL.a.w, hok.cur, hL.a.q, hL.a.sz, fun tr => ?_⟩
  kpc_obj
  refine rd_neAn (hL.a.it s.cur) (ansO_top W ps s.cur) (bl_i (it_f (wb_nil ?_)))
  kpc_obj
  have hpos : 0 < cells.length := List.length_pos_iff.mpr hL.ne
  refine rd_mod (by rw [List.length_map]; omega) ?_
  rw [List.length_map, List.length_map]
  have hlt : s.notes.length % cells.length < cells.length := Nat.mod_lt _ hpos
  obtain ⟨x, hx⟩ : ∃ x, cells[s.notes.length % cells.length]? = some x := ⟨_, List.getElem?_eq_getElem hlt⟩
  have hxo := hL.ok x (List.mem_of_getElem? hx)
  have hxm : L2.atI (cells.map clD) ((s.notes.length : Int) % (cells.length : Int)) = some (clD x) := by
    rw [← Int.natCast_emod]
    exact atI_nat (by rw [List.getElem?_map, hx]; rfl)
  refine rd_ixL hxm ?_
  refine wb_one (ws_ret (we_and ?_))
  refine we_cmp (op := .Eq) (op_eqA (by assumption)) ?_
  refine we_ixO m_item.calm (hr.mono (by decide)) ?_
  kpc_obj
  refine ⟨recv_m pk1, q, _, ν1, s.cur, x, rfl, pk1, rfl, hok.cur, hxo.2, fun _ => ?_, fun h => absurd hxo.1 h⟩
  have hcl : ∀ y ∈ s.cur, letter y.2 := fun y hy => (hok.cur.ok y hy).2
  have eb : (decide (x ∈ s.cur) != false) = decide (x ∈ s.cur) := by simp
  refine we_cmp (op := .In) (op_inDA (by assumption)) ?_
  kpc_obj
  refine rd_inCl (.inr (py_clT _)) hxo.2 hcl ?_
  rw [eb]
  refine rd_eqP (rd_eqB (bl_i ?_))
  rw [decide_eq_true rfl]
  refine it_t (we_one (we_cmp (op := .Eq) (op_eqA (by assumption)) ?_))
  refine we_inO se.isin (hr.mono (by decide)) ?_
  kpc_obj
  refine ⟨recv_m pk1, q, _, ν1, s.cur, x, rfl, pk1, rfl, hok.cur, hxo.2, bl_i ?_⟩
  refine we_cmp (op := .In) (op_inDA (by assumption)) ?_
  kpc_obj
  refine rd_inCl (.inr (py_clT _)) hxo.2 hcl ?_
  rw [eb]
  refine rd_eqP (rd_eqB ?_)
  rw [decide_eq_true rfl]
  exact k
end
end
section
/-! ### _law_put -/
abbrev stL (c : Cs) (a q m j : Addr) (sc : List Int) (k : Nat) (W : Wd) (ps : List Pt) (s : Sn) (rest : Mu) : Mu := (a, drM sc k) :: (q, snM c W ps s) :: (m, lsM s j) :: (j, ljM s) :: rest
theorem norm_filter {cs : List Cl} (h : NOk cs) (p : Cl → Bool) : norm (cs.filter p) = cs.filter p := by
  conv => rhs; rw [show cs = norm cs from h]
  unfold norm
  rw [List.filter_filter]
  refine List.filter_congr fun c _ => ?_
  rw [Bool.eq_iff_iff]
  simp only [decide_eq_true_eq, List.mem_filter, Bool.and_eq_true]
  exact ⟨fun z => ⟨z.2, z.1⟩, fun z => ⟨z.2, z.1⟩⟩
theorem nok_filter {cs : List Cl} (h : NOk cs) (p : Cl → Bool) : NOk (cs.filter p) := (norm_filter h p).symm
theorem setC_f {cs : List Cl} {x : Cl} (h : NOk cs) (hx : okCl x) : setC cs x false = cs.filter fun y => !decide (y ∈ [x]) := by
  show norm (cs.filter fun y => !decide (y ∈ norm [x])) = _
  rw [norm_filter h]
  refine List.filter_congr fun c hc => ?_
  congr 1
  rw [decide_eq_decide, mem_norm]
  constructor
  · exact fun z => z.2
  · intro z
    rw [List.mem_singleton.mp z]
    exact ⟨hx, List.mem_singleton.mpr rfl⟩
/-- what the law asks of Session's operators -/
structure SeO (P : Program) (w : World) (K : PySem.W.Frag) (mg : Str → Option Value) (base : Heap) (c : Cs) : Prop where
  sf : PySem.W.selfFirst K c.Se = true
  ns : PySem.W.noSeq K c.Se = true
  set : Om CX0 P w K mg base 18 c.Se "__setitem__" (sSet c)
  iadd : Om CX0 P w K mg base 18 c.Se (PySem.dunderI Operator.Add.info.2) (sIadd c)
  isub : Om CX0 P w K mg base 18 c.Se (PySem.dunderI Operator.Sub.info.2) (sIsub c)
  mkF : Mkr P w K mg base 3 "Faults" c.F (sFaultsInit c.F)
  eqF : Om CX0 P w K mg base 3 c.F "__eq__" (sFaultsEq c)
section
variable {P : Program} {w : World} {K : PySem.W.Frag} {mg : Str → Option Value} {base : Heap} {f nd bc : Addr} {fd : FuncData} {c : Cs}
def sLPut (c : Cs) : Spec := fun ds μ Φ _ => ∃ (a q m j : Addr) (sc : List Int) (k : Nat) (W : Wd) (ps : List Pt) (cells : List Cl) (s : Sn) (rest : Mu), ds = [.ref a, .ref q, wkT W ps cells, .ref m] ∧ LwOk W ps cells ∧ SOk s ∧ s.notes.length ≤ 900 ∧ μ = stL c a q m j sc k W ps s rest ∧
  ∀ k' cur', NOk cur' → Φ (.bl true) (stL c a q m j sc k' W ps ⟨cur', s.notes ++ [s.cur], s.floor⟩ rest)
theorem ok_law_put (F : Fd K "_law_put" "_law_put" s_law_put f fd) (T : Bn mg) (se : SeP P w K mg base c) (so : SeO P w K mg base c) (c_next : Cal P w K mg base 3 "_law_next" sNext) (c_pick : Cal P w K mg base 4 "_law_pick" sPick) (c_cells : Cal P w K mg base 1 "_law_cells" sLCells) (c_less : Cal P w K mg base 1 "_law_less" sLLess) (c_some : Cal P w K mg base 5 "_law_some" sLSome) : FnR P w K mg base CX0 19 f (spD K (sLPut c)) := by
  refine fn_D F sc_law_put (fun _ _ _ _ _ _ us hl => match us, hl with | [_, _, _, _], _ => rfl) (fun ds μ Φ Ψ h => by obtain ⟨_, _, _, _, _, _, _, _, _, _, _, rfl, _⟩ := h; rfl) ?_
  have hN := sc_law_put.nd
  rintro cdv A outer s0 H E hr ds μ Φ Ψ ⟨a, q, m, j, sc, k, W, ps, cells, s, rest, rfl, hL, hs, hl, rfl, kk⟩
  have hok := hs.sn
  have hcl : ∀ y ∈ s.cur, letter y.2 := fun y hy => (hok.cur.ok y hy).2
  kpc_obj
  refine we_call c_next (hr.mono (by decide)) ?_
  kpc_obj
  refine ⟨a, sc, k, _, _, rfl, by decide, .here, fun r k1 hr0 hr1 => ?_⟩
  kpc_obj
  rotate_left
  · rw [List.length_map]; omega
  have ej : s.notes.map csD ++ [csD s.cur] = (s.notes ++ [s.cur]).map csD := by rw [List.map_append]; rfl
  rw [ej]
  refine it_by (fun h2 => ?_) fun h2 => ?_
  · kpc_obj
    refine we_call c_pick (hr.mono (by decide)) ?_
    kpc_obj
    refine ⟨a, sc, k1, _, _, _, rfl, rfl, by simpa using hL.ne, .here, fun x' k2 hx' => ?_⟩
    obtain ⟨x, hx, rfl⟩ := List.mem_map.mp hx'
    have hxo := hL.ok x hx
    refine wb_cons (ws_asg [] ?_)
    kpc_obj
    refine wg_subO so.set so.ns hr ?_
    kpc_obj
    refine ⟨recv_m (.there .here), q, W, ps, s, x, decide (r = 0), _, rfl, hL.a, hok.cur, hxo, hl, .there .here, ?_⟩
    refine wb_cons (ws_asg [] ?_)
    refine we_ifx ?_
    kpc_obj
    refine it_by (fun h0 => ?_) fun h0 => ?_
    · have es : setC s.cur x (decide (r = 0)) = norm (s.cur ++ [x]) := by rw [decide_eq_true h0]; rfl
      rw [es]
      refine we_call c_cells (hr.mono (by decide)) ?_
      kpc_obj
      have hfew := hok.cur.few
      refine rd_addT (by simp; omega) ?_
      kpc_obj
      refine ⟨_, s.cur ++ [x], rfl, .inr (by rw [List.map_append]; rfl), fun y hy => by
        rcases List.mem_append.mp hy with h | h
        · exact hcl y h
        · rw [List.mem_singleton.mp h]; exact hxo.2, ?_⟩
      refine wg_subL ?_
      kpc_obj
      refine ⟨m, 0, 0, _, _, rfl, rfl, .there (.there .here), rfl, ?_⟩
      kpc_obj
      exact kk k2 _ (nok_norm _)
    · have es : setC s.cur x (decide (r = 0)) = s.cur.filter fun y => !decide (y ∈ [x]) := by rw [decide_eq_false h0]; exact setC_f hs.cur hxo
      rw [es]
      refine we_call c_less (hr.mono (by decide)) ?_
      kpc_obj
      have hfew := hok.cur.few
      refine ⟨_, s.cur, [x], rfl, .inl rfl, hcl, fun y hy => by rw [List.mem_singleton.mp hy]; exact hxo.2, by omega, ?_⟩
      refine wg_subL ?_
      kpc_obj
      refine ⟨m, 0, 0, _, _, rfl, rfl, .there (.there .here), rfl, ?_⟩
      kpc_obj
      exact kk k2 _ (nok_filter hs.cur _)
  · refine wb_nil ?_
    kpc_obj
    refine we_call c_some (hr.mono (by decide)) ?_
    kpc_obj
    refine ⟨a, sc, k1, cells, _, rfl, fun y hy => (hL.ok y hy).2, by have := hL.few; omega, .here, fun es k2 hes => ?_⟩
    kpc_obj
    have hse : norm es = es := hes.symm
    have hel : ∀ y ∈ es, letter y.2 := fun y hy => (hes.fok.ok y hy).2
    have hef := hes.fok.few
    have hcf := hok.cur.few
    refine it_by (fun h0 => ?_) fun h0 => ?_
    · refine wb_cons (ws_augO 1 so.iadd so.sf hr hN ?_)
      refine we_faults so.mkF (hr.mono (by decide)) ?_
      kpc_obj
      refine ⟨es, .inr rfl, hes.fok.ok, by omega, recv_m (.there .here), ?_⟩
      rw [hse]
      refine ⟨q, W, ps, s, es, _, rfl, hL.a, hok.cur, hes.fok, hl, .there .here, ?_⟩
      refine wb_cons (ws_asg [] ?_)
      refine we_call c_cells (hr.mono (by decide)) ?_
      kpc_obj
      refine rd_addT (by simp; omega) ?_
      kpc_obj
      refine ⟨_, s.cur ++ es, rfl, .inr (by rw [List.map_append]), fun y hy => by
        rcases List.mem_append.mp hy with h | h
        · exact hcl y h
        · exact hel y h, ?_⟩
      refine wg_subL ?_
      kpc_obj
      refine ⟨m, 0, 0, _, _, rfl, rfl, .there (.there .here), rfl, ?_⟩
      have hcur := nok_norm (s.cur ++ es)
      refine wb_nil ?_
      refine wb_one (ws_ret (we_and ?_))
      refine we_cmp (op := .Eq) (op_eqI so.eqF (hr.mono (by decide))) ?_
      refine we_prop se.now se.kl (hr.mono (by decide)) ?_
      kpc_obj
      refine ⟨recv_m (.there .here), q, _, _, faD c.F (norm (s.cur ++ es)), rfl, .there .here, rfl, ?_⟩
      refine we_prop se.now se.kl (hr.mono (by decide)) ?_
      kpc_obj
      refine ⟨recv_m (.there .here), q, _, _, faD c.F (norm (s.cur ++ es)), rfl, .there .here, rfl, ?_⟩
      refine rd_eqIn (fun Φ h => ⟨(norm (s.cur ++ es)), rfl, hcur.fok, h⟩) (bl_i (it_t ?_))
      refine we_one (we_cmp (op := .Eq) (op_eqL so.eqF (hr.mono (by decide))) ?_)
      refine we_frzL (we_prop se.journal se.kl (hr.mono (by decide)) ?_)
      kpc_obj
      refine ⟨recv_m (.there .here), q, _, _, _, rfl, .there .here, rfl, fun p => ⟨p, _, _, rfl, .here, ?_⟩⟩
      refine we_frzL (we_prop se.journal se.kl (hr.mono (by decide)) ?_)
      kpc_obj
      refine ⟨recv_m (.there .here), q, _, _, _, rfl, .there .here, rfl, fun p => ⟨p, _, _, rfl, .here, ?_⟩⟩
      have em : (s.notes ++ [s.cur]).map (faD c.F) = ((s.notes ++ [s.cur]).map fun cs => [csD cs]).map (D.ins c.F) := by rw [List.map_map]; rfl
      show RD _ _ (.lst ((s.notes ++ [s.cur]).map (faD c.F))) (.lst ((s.notes ++ [s.cur]).map (faD c.F))) _ _
      rw [em]
      refine rd_eqLi (fun ds hd Φ h => ?_) (kk k2 _ hcur)
      obtain ⟨cs, hcs, rfl⟩ := List.mem_map.mp hd
      refine ⟨cs, rfl, ?_, h⟩
      rcases List.mem_append.mp hcs with h | h
      · exact hok.notes cs h
      · rw [List.mem_singleton.mp h]; exact hok.cur
    · refine wb_cons (ws_augO 1 so.isub so.sf hr hN ?_)
      refine we_faults so.mkF (hr.mono (by decide)) ?_
      kpc_obj
      refine ⟨es, .inr rfl, hes.fok.ok, by omega, recv_m (.there .here), ?_⟩
      rw [hse]
      refine ⟨q, W, ps, s, es, _, rfl, hL.a, hok.cur, hes.fok, hl, .there .here, ?_⟩
      rw [norm_filter hs.cur]
      refine wb_cons (ws_asg [] ?_)
      refine we_call c_less (hr.mono (by decide)) ?_
      kpc_obj
      refine ⟨_, s.cur, es, rfl, .inr rfl, hcl, hel, by omega, ?_⟩
      refine wg_subL ?_
      kpc_obj
      refine ⟨m, 0, 0, _, _, rfl, rfl, .there (.there .here), rfl, ?_⟩
      have hcur := nok_filter hs.cur (fun y => !decide (y ∈ es))
      refine wb_nil ?_
      refine wb_one (ws_ret (we_and ?_))
      refine we_cmp (op := .Eq) (op_eqI so.eqF (hr.mono (by decide))) ?_
      refine we_prop se.now se.kl (hr.mono (by decide)) ?_
      kpc_obj
      refine ⟨recv_m (.there .here), q, _, _, faD c.F (s.cur.filter fun y => !decide (y ∈ es)), rfl, .there .here, rfl, ?_⟩
      refine we_prop se.now se.kl (hr.mono (by decide)) ?_
      kpc_obj
      refine ⟨recv_m (.there .here), q, _, _, faD c.F (s.cur.filter fun y => !decide (y ∈ es)), rfl, .there .here, rfl, ?_⟩
      refine rd_eqIn (fun Φ h => ⟨(s.cur.filter fun y => !decide (y ∈ es)), rfl, hcur.fok, h⟩) (bl_i (it_t ?_))
      refine we_one (we_cmp (op := .Eq) (op_eqL so.eqF (hr.mono (by decide))) ?_)
      refine we_frzL (we_prop se.journal se.kl (hr.mono (by decide)) ?_)
      kpc_obj
      refine ⟨recv_m (.there .here), q, _, _, _, rfl, .there .here, rfl, fun p => ⟨p, _, _, rfl, .here, ?_⟩⟩
      refine we_frzL (we_prop se.journal se.kl (hr.mono (by decide)) ?_)
      kpc_obj
      refine ⟨recv_m (.there .here), q, _, _, _, rfl, .there .here, rfl, fun p => ⟨p, _, _, rfl, .here, ?_⟩⟩
      have em : (s.notes ++ [s.cur]).map (faD c.F) = ((s.notes ++ [s.cur]).map fun cs => [csD cs]).map (D.ins c.F) := by rw [List.map_map]; rfl
      show RD _ _ (.lst ((s.notes ++ [s.cur]).map (faD c.F))) (.lst ((s.notes ++ [s.cur]).map (faD c.F))) _ _
      rw [em]
      refine rd_eqLi (fun ds hd Φ h => ?_) (kk k2 _ hcur)
      obtain ⟨cs, hcs, rfl⟩ := List.mem_map.mp hd
      refine ⟨cs, rfl, ?_, h⟩
      rcases List.mem_append.mp hcs with h | h
      · exact hok.notes cs h
      · rw [List.mem_singleton.mp h]; exact hok.cur
end
end
section
/-! ### _law_undo -/
theorem TKs.none {X : Cx} {G : Hp} : TKs X G (fun _ _ _ => False) := ⟨fun _ _ _ _ => False, fun u s' ⟨_, _, _, _, _, _, _, _, _, _, _, _, _, _, _, _, z⟩ => z.elim, fun _ _ _ _ _ _ _ _ _ z => z⟩
theorem ws_g {X : Cx} {ρ : Rho} {μ : Mu} {F : Fx} {st : Stmt} (h : ∀ G0, WSg X G0 st ρ μ F) : WS X st ρ μ F := ⟨fun σ G H E m r q => (h G).run σ G H E (Same.refl G) m r q⟩
abbrev stU (c : Cs) (q m j : Addr) (W : Wd) (ps : List Pt) (s : Sn) (rest : Mu) : Mu := (q, snM c W ps s) :: (m, lsM s j) :: (j, ljM s) :: rest
section
variable {P : Program} {w : World} {K : PySem.W.Frag} {mg : Str → Option Value} {base : Heap} {f nd bc : Addr} {fd : FuncData} {c : Cs}
def sLUndo (c : Cs) : Spec := fun ds μ Φ _ => ∃ (q m j : Addr) (W : Wd) (ps : List Pt) (s : Sn) (rest : Mu), ds = [.ref q, .ref m, .int (s.floor : Nat)] ∧ AOk W ps ∧ SOk s ∧ s.notes.length ≤ 900 ∧ s.floor ≤ s.notes.length ∧ μ = stU c q m j W ps s rest ∧
  (s.notes.length = s.floor → Φ (.bl true) μ) ∧ ∀ (ini : List (List Cl)) (x : List Cl), s.notes = ini ++ [x] → s.floor < s.notes.length → Φ (.bl true) (stU c q m j W ps ⟨x, ini, s.floor⟩ rest)
theorem ok_law_undo (F : Fd K "_law_undo" "_law_undo" s_law_undo f fd) (T : Bn mg) (se : SeP P w K mg base c) (ND : Exn K mg "NothingDone" nd) (m_undo : Om (L2N.CX P w) P w K mg base 17 c.Se "undo" (sUndo c nd)) : FnR P w K mg base CX0 18 f (spD K (sLUndo c)) := by
  refine fn_D F sc_law_undo (fun _ _ _ _ _ _ us hl => match us, hl with | [_, _, _], _ => rfl) (fun ds μ Φ Ψ h => by obtain ⟨_, _, _, _, _, _, _, rfl, _⟩ := h; rfl) ?_
  have hN := sc_law_undo.nd
  rintro cdv A outer s0 H E hr ds μ Φ Ψ ⟨q, m, j, W, ps, s, rest, rfl, hA, hs, hl, hfl, rfl, k1, k2⟩
  have hok := hs.sn
  refine wb_cons (ws_g fun G0 => ?_)
  refine wsg_try (Ψi := fun cls ρ' μ' => cls = .ref nd ∧ ρ' = rho0 n_law_undo [.ref q, .ref m, .int (s.floor : Nat)] ∧ μ' = stU c q m j W ps s rest ∧ s.notes.length ≤ s.floor) rfl rfl ND TKs.none (fun pn xe G1 tk hp => ?_) ?_
  · refine wbg_one (wsg_set 3 hN (weg_meth0 tk m_undo se.kl hr ?_))
    kpc_obj
    refine ⟨recv_m .here, q, W, ps, s, _, rfl, hA, hok, hl, .here, fun h => ⟨rfl, rfl, rfl, h⟩, fun ini x hx hlt => ?_⟩
    kpc_obj
    rw [List.length_map]
    refine it_no (by omega) (wb_nil ?_)
    refine wb_cons (ws_asg [] (we_pop ?_))
    kpc_obj
    have e : ljM s = M.lst (ini.map csD ++ [csD x]) := by
      show M.lst (s.notes.map csD) = _
      rw [hx, List.map_append]; rfl
    rw [e]
    refine ⟨j, _, _, _, rfl, .there (.there .here), ?_⟩
    refine wg_subL ?_
    kpc_obj
    refine ⟨m, 0, 0, _, _, rfl, rfl, .there .here, rfl, ?_⟩
    refine wb_one (ws_ret (we_cmp (op := .Eq) (op_eqA (by assumption)) ?_))
    refine we_prop se.cells se.klF (hr.mono (by decide)) ?_
    kpc_obj
    have hx' : NOk x := hs.notes x (by rw [hx]; simp)
    have lc := lay_cls fun y hy => (hx'.fok.ok y hy).2
    refine ⟨recv_f, x, rfl, ?_⟩
    kpc_obj
    refine rd_eqSm (d := csP x) (py_cs x) lc.1 (Nat.le_trans lc.2 (by decide)) ?_
    exact k2 ini x hx hlt
  · rintro cls ρ' μ' ⟨rfl, rfl, rfl, hle⟩
    refine ⟨rfl, fun a oe pn => ?_⟩
    refine wb_one (ws_ret (we_cmp (op := .Eq) op_eq ?_))
    refine we_len (X := (cxOf CX0 P w K mg base n_law_undo "_law_undo" (defScope s_law_undo) f cdv A outer s0 H E).nox.suite a ((a, oe) :: pn)) T ?_
    kpc_obj
    refine rd_eqI ?_
    rw [List.length_map]
    have e : decide ((s.notes.length : Int) = (s.floor : Int)) = true := decide_eq_true (by omega)
    rw [e]
    exact k1 (by omega)
end
end
section
/-! ### _law_tried -/
section
variable {P : Program} {w : World} {K : PySem.W.Frag} {mg : Str → Option Value} {base : Heap} {f nd bc : Addr} {fd : FuncData} {c : Cs}
def sLTried (c : Cs) : Spec := fun ds μ Φ _ => ∃ (a q m j : Addr) (sc : List Int) (k : Nat) (W : Wd) (ps : List Pt) (cells : List Cl) (s : Sn) (rest : Mu), ds = [.ref a, .ref q, wkT W ps cells, .ref m] ∧ LwOk W ps cells ∧ SOk s ∧ μ = stL c a q m j sc k W ps s rest ∧
  ∀ k', Φ (.bl true) (stL c a q m j sc k' W ps s rest)
theorem ok_law_tried (F : Fd K "_law_tried" "_law_tried" s_law_tried f fd) (T : Bn mg) (se : SeP P w K mg base c) (m_tried : Om CX0 P w K mg base 18 c.Se "tried" (sTried c)) (mkF : Mkr P w K mg base 3 "Faults" c.F (sFaultsInit c.F)) (c_next : Cal P w K mg base 3 "_law_next" sNext) (c_cells : Cal P w K mg base 1 "_law_cells" sLCells) (c_some : Cal P w K mg base 5 "_law_some" sLSome) (c_run : Cal P w K mg base 12 "_law_run" sLawRun) : FnR P w K mg base CX0 19 f (spD K (sLTried c)) := by
  refine fn_D F sc_law_tried (fun _ _ _ _ _ _ us hl => match us, hl with | [_, _, _, _], _ => rfl) (fun ds μ Φ Ψ h => by obtain ⟨_, _, _, _, _, _, _, _, _, _, _, rfl, _⟩ := h; rfl) ?_
  have hN := sc_law_tried.nd
  rintro cdv A outer s0 H E hr ds μ Φ Ψ ⟨a, q, m, j, sc, k, W, ps, cells, s, rest, rfl, hL, hs, rfl, kk⟩
  have hok := hs.sn
  have hA := hL.a
  kpc_obj
  refine ws_lcn [("_law_turn_here", 5)] (by kp_flats) (by kqd_ok) (by assumption) rfl (by kpc_if) ?_
  refine wlc_L (α := Nat) (β := Nat) (fun i => .int (0 + (i : Nat))) (fun k => stL c a q m j sc k W ps s rest) (fun rest acc _ => ∃ rows : List (List Cl), acc = rows.map csD ∧ rows.length + rest.length ≤ 3 ∧ ∀ r ∈ rows, NOk r) ?_ ?_ ?_
  · refine wi_range T ?_
    refine we_call c_next (hr.mono (by decide)) ?_
    kpc_obj
    refine ⟨a, sc, k, _, _, rfl, by decide, .here, fun r k1 hr0 hr1 => ?_⟩
    obtain ⟨n, rfl⟩ := Int.eq_ofNat_of_zero_le hr0
    have hn : n < 4 := by omega
    exact ⟨n, rfl, by omega, by omega, List.range n, by rw [Int.toNat_natCast], k1, rfl, [], rfl, by simp; omega, fun _ h => (List.not_mem_nil h).elim⟩
  · rintro D0 x rest' acc k1 ⟨rows, rfl, hn, h1⟩
    refine ⟨by simp at hn ⊢; omega, ⟨?_⟩⟩
    rintro Y ⟨s1, H1, C1, cl1, fp1, rfl⟩
    kpc_obj
    rintro Y ⟨s1, H1, C1, cl1, fp1, rfl⟩
    kpc_obj
    rintro Y ⟨s1, H1, C1, cl1, fp1, rfl⟩
    refine we_call c_some (hr.mono (by decide)) ?_
    kpc_obj
    exact ⟨a, sc, k1, cells, _, rfl, fun y hy => (hL.ok y hy).2, by have := hL.few; omega, .there .here, fun es k2 hes => ⟨_, rfl, k2, rfl, rows ++ [es], by simp, by simp at hn ⊢; omega, fun r hr => by
      rcases List.mem_append.mp hr with h | h
      · exact h1 r h
      · rw [List.mem_singleton.mp h]; exact hes⟩⟩
  rintro acc k1 ⟨rows, rfl, hlen, hrow⟩
  have hlen : rows.length ≤ 3 := by simpa using hlen
  kpc_obj
  refine we_lstM ?_
  kpc_obj
  intro p
  kpc_obj
  refine ws_forL (α := List Cl × List (List Cl)) (β := List Cl) [8] [8] csD (fun x => [some (.ref a), some (.ref q), some (wkT W ps cells), some (.ref m), some (.lst (rows.map csD)), none, some (.ref p), some (csD x.1), none, none]) (fun x => (p, .lst (x.2.map fun y => anD (ansO W ps y))) :: stL c a q m j sc k1 W ps s rest)
    (fun rest x => x.2.length + rest.length ≤ 3 ∧ triedC s.cur rows = x.2 ++ triedC x.1 rest ∧ FOk x.1 ∧ ∀ r ∈ rest, NOk r) PassesOwn.never rfl ?_ ?_ ?_
  · refine wi_lst ?_
    kpc_obj
    exact ⟨_, rfl, rows, rfl, (s.cur, []), rfl, rfl, by simpa using hlen, rfl, hok.cur, hrow⟩
  · rintro x rest' ⟨cur, acc⟩ ⟨h1, h2, h3, h4⟩
    change acc.length + (x :: rest').length ≤ 3 at h1
    change triedC s.cur rows = acc ++ triedC cur (x :: rest') at h2
    change FOk cur at h3
    rw [List.length_cons] at h1
    have hx := h4 x List.mem_cons_self
    have hxf := hx.fok.few
    have hcf := h3.few
    kpc_obj
    refine we_call c_cells (hr.mono (by decide)) ?_
    kpc_obj
    refine rd_addT (by simp; omega) ?_
    kpc_obj
    refine ⟨_, cur ++ x, rfl, .inr (by rw [List.map_append]), fun y hy => by
      rcases List.mem_append.mp hy with h | h
      · exact (h3.ok y h).2
      · exact (hx.fok.ok y h).2, ?_⟩
    kpc_obj
    refine we_call c_run (hr.mono (by decide)) ?_
    kpc_obj
    refine ⟨W, norm (cur ++ x), ps, rfl, hA.w, fok_norm _, hA.q, hA.sz, fun tr => ?_⟩
    kpc_obj
    · rw [List.length_map]; show acc.length < 1000; omega
    refine wb_nil ⟨(norm (cur ++ x), acc ++ [norm (cur ++ x)]), rfl, ?_, by simp; omega, ?_, fok_norm _, fun r hr => h4 r (List.mem_cons_of_mem _ hr)⟩
    · show _ = (p, M.lst ((acc ++ [norm (cur ++ x)]).map fun y => anD (ansO W ps y))) :: _
      rw [List.map_append]; rfl
    · rw [h2, triedC]
      simp
  · rintro ⟨cur, acc⟩ ⟨_, h2, _, _⟩
    change triedC s.cur rows = acc ++ triedC cur [] at h2
    rw [triedC, List.append_nil] at h2
    refine wb_frzN 6 rfl .here ?_
    refine wb_one (ws_ret (we_cmp (op := .Eq) (op_eqE hr) ?_))
    refine we_lcn [("_law_answer", 9)] (by kp_flats) (by assumption) rfl (by kpc_if) ?_
    have htl : (triedC s.cur rows).length = rows.length := by
      have z : ∀ (rs : List (List Cl)) (cur : List Cl), (triedC cur rs).length = rs.length := fun rs => by
        induction rs with
        | nil => intro cur; rfl
        | cons r rs ih => intro cur; rw [triedC, List.length_cons, ih, List.length_cons]
      exact z rows s.cur
    refine wlc_N (fun x => ansD c (ansO W ps x)) (fun x => anD (ansO W ps x)) (triedC s.cur rows) ?_ (by omega) ?_ ?_
    · refine wi_lst (we_meth m_tried se.kl (hr.mono (by decide)) ?_)
      kpc_obj
      refine ⟨recv_m (.there .here), ?_⟩
      kpc_obj
      refine we_lcn [("_law_row", 8)] (by kp_flats) (by assumption) rfl (by kpc_if) ?_
      refine wlc_N csD (faD c.F) rows ?_ (by omega) ?_ ?_
      · refine wi_lst ?_
        kpc_obj
        exact ⟨_, rfl, rfl, rfl⟩
      · rintro x hx Y ⟨s1, H1, C1, cl1, fp1, rfl⟩ ν
        kpc_obj
        rintro Y ⟨s1, H1, C1, cl1, fp1, rfl⟩
        refine we_faults mkF (hr.mono (by decide)) ?_
        kpc_obj
        have hx' := hrow x hx
        have hxf := hx'.fok.few
        refine ⟨x, .inr rfl, hx'.fok.ok, by omega, rfl, ?_⟩
        rw [show norm x = x from hx'.symm]
      kpc_obj
      exact ⟨q, W, ps, s, rows, _, rfl, hA, hok.cur, fun r hr => (hrow r hr).fok, by omega, .there .here, _, rfl, rfl, rfl⟩
    · rintro x hx Y ⟨s1, H1, C1, cl1, fp1, rfl⟩ ν
      kpc_obj
      rintro Y ⟨s1, H1, C1, cl1, fp1, rfl⟩
      refine we_prop se.data se.klA (hr.mono (by decide)) ?_
      kpc_obj
      exact ⟨recv_f, ansO W ps x, rfl, hA.it x, rfl, rfl⟩
    kpc_obj
    show RD _ _ _ (.lst (acc.map fun y => anD (ansO W ps y))) _ _
    rw [← h2]
    refine rd_eqE 6 (fun d hd => ?_) (by omega) (kk k1)
    obtain ⟨y, _, rfl⟩ := List.mem_map.mp hd
    exact eqd_of 6 _ ((cp_of 3).1 _ (hA.it y))
end
end
section
/-! ### _law_deed -/
abbrev TabIn (rest : Mu) (P0 : Addr) (q0 : Str) : Prop := At rest P0 (.tab q0) (.tab q0) rest
section
variable {P : Program} {w : World} {K : PySem.W.Frag} {mg : Str → Option Value} {base : Heap} {f nd bc P0 : Addr} {q0 : Str} {fd : FuncData} {c : Cs}
def sLTurn (c : Cs) (P0 : Addr) (q0 : Str) (d : Nat) : Spec := fun ds μ Φ _ => ∃ (a q m j : Addr) (sc : List Int) (k : Nat) (W : Wd) (ps : List Pt) (cells : List Cl) (s : Sn) (rest : Mu), ds = [.ref a, .ref q, wkT W ps cells, .ref m, .int (s.floor : Nat), .int (d : Nat)] ∧ LwOk W ps cells ∧ SOk s ∧ s.floor ≤ s.notes.length ∧ s.notes.length ≤ 100 + 50 * d ∧ TabIn rest P0 q0 ∧ μ = stL c a q m j sc k W ps s rest ∧
  ∀ k' s', SOk s' → s'.floor = s.floor → s.floor ≤ s'.notes.length → s'.notes.length ≤ s.notes.length + 1 → Φ (.bl true) (stL c a q m j sc k' W ps s' rest)
def sLDeed (c : Cs) (P0 : Addr) (q0 : Str) (bc : Addr) (d : Nat) : Spec := fun ds μ Φ Ψ => ∃ (a q m j : Addr) (sc : List Int) (k : Nat) (W : Wd) (ps : List Pt) (cells : List Cl) (s : Sn) (rest : Mu), ds = [.ref a, .ref q, wkT W ps cells, .ref m, .int (d : Nat)] ∧ LwOk W ps cells ∧ SOk s ∧ s.floor = s.notes.length ∧ s.notes.length ≤ 100 + 50 * d ∧ TabIn rest P0 q0 ∧ μ = stL c a q m j sc k W ps s rest ∧
  ∀ k' s', SOk s' → Φ (.bl true) (stL c a q m j sc k' W ps s' rest) ∧ Ψ (.ref bc) (stL c a q m j sc k' W ps s' rest)
theorem ok_law_deed {t d : Nat} (ht : 19 ≤ t) (hd : d ≤ 1) (F : Fd K "_law_deed" "_law_deed" s_law_deed f fd) (T : Bn mg) (klS : Kl K c.Se) (m_item : Om (L2N.CX P w) P w K mg base 4 c.Se "__getitem__" (sSeItem c bc)) (c_next : Cal P w K mg base 3 "_law_next" sNext) (c_is : Cal P w K mg base 13 "_law_is" (sLIs c)) (c_turn : Cal P w K mg base t "_law_turn" (sLTurn c P0 q0 (d + 1))) : FnR P w K mg base (L2N.CX P w) (t + 1) f (spD K (sLDeed c P0 q0 bc d)) := by
  refine fn_DX F sc_law_deed (fun _ _ _ _ _ _ us hl => match us, hl with | [_, _, _, _, _], _ => rfl) (fun ds μ Φ Ψ h => by obtain ⟨_, _, _, _, _, _, _, _, _, _, _, rfl, _⟩ := h; rfl) ?_
  have hN := sc_law_deed.nd
  rintro cdv A outer s0 H E hr G0 ds μ Φ Ψ ⟨a, q, m, j, sc, k, W, ps, cells, s, rest, rfl, hL, hs, hfl, hl, htab, rfl, kk⟩ tk
  refine wbg_cons (wsg_of (ws_nox ?_))
  kpc_obj
  refine we_call c_is (hr.mono (by omega)) ?_
  kpc_obj
  refine ⟨q, m, j, W, ps, cells, s, _, _, _, rfl, hL, hs, by omega, .there .here, .there (.there .here), .there (.there (.there .here)), ?_⟩
  kpc_obj
  refine wbg_cons (wsg_of (ws_nox ?_))
  have hl5 : ((s.notes.map csD).length : Int) = (s.floor : Int) := by rw [List.length_map, hfl]
  rw [hl5]
  refine ws_forL (α := Nat × Sn) (β := Nat) [7] [7] (fun i => D.int (0 + (i : Nat))) (fun _ => [some (.ref a), some (.ref q), some (wkT W ps cells), some (.ref m), some (.int (d : Nat)), some (.bl true), some (.int (s.floor : Nat)), none]) (fun x => stL c a q m j sc x.1 W ps x.2 rest)
    (fun rs x => SOk x.2 ∧ x.2.floor = s.floor ∧ s.floor ≤ x.2.notes.length ∧ x.2.notes.length + rs.length ≤ s.notes.length + 4) PassesOwn.never rfl ?_ ?_ ?_
  · refine wi_range T ?_
    kpc_obj
    refine we_call c_next (hr.mono (by omega)) ?_
    kpc_obj
    refine ⟨a, sc, k, _, _, rfl, by decide, .here, fun r k1 hr0 hr1 => ?_⟩
    obtain ⟨n, rfl⟩ := Int.eq_ofNat_of_zero_le hr0
    kpc_obj
    exact ⟨by omega, by omega, List.range (1 + n), by rw [show ((1 : Int) + (n : Int)).toNat = 1 + n by omega], (k1, s), rfl, rfl, hs, rfl, Nat.le_of_eq hfl, by show s.notes.length + _ ≤ _; rw [List.length_range]; omega⟩
  · rintro x rest' ⟨k1, s1⟩ ⟨h1, h2, h3, h4⟩
    change SOk s1 at h1
    change s1.floor = s.floor at h2
    change s.floor ≤ s1.notes.length at h3
    change s1.notes.length + (x :: rest').length ≤ s.notes.length + 4 at h4
    rw [List.length_cons] at h4
    kpc_obj
    refine we_call c_turn (hr.mono (by omega)) ?_
    kpc_obj
    refine ⟨a, q, m, j, sc, k1, W, ps, cells, s1, rest, by rw [h2]; rfl, hL, h1, by omega, by omega, htab, rfl, fun k2 s2 g1 g2 g3 g4 => ?_⟩
    refine wb_nil ⟨(k2, s2), rfl, rfl, g1, g2.trans h2, ?_, ?_⟩
    · show s.floor ≤ s2.notes.length
      omega
    · show s2.notes.length + rest'.length ≤ _
      omega
  · rintro ⟨k1, s1⟩ ⟨h1, h2, h3, h4⟩
    change SOk s1 at h1
    have hok := h1.sn
    refine wbg_cons (wsg_if ?_)
    kpc_obj
    refine we_call c_next (hr.mono (by omega)) ?_
    kpc_obj
    refine ⟨a, sc, k1, _, _, rfl, by decide, .here, fun r k2 hr0 hr1 => ?_⟩
    kpc_obj
    refine it_by (fun _ => ?_) fun _ => ?_
    · refine wbg_one (wsg_ret (weg_ixO tk m_item (hr.mono (by omega)) ?_))
      kpc_obj
      refine ⟨recv_m (.there .here), q, _, _, s1.cur, (9, 97), rfl, .there .here, rfl, hok.cur, by unfold letter; omega, fun h => absurd h (by decide), fun _ => (kk k2 s1 h1).2⟩
    · refine wbg_nil (wbg_of (wb_one (ws_ret ?_)))
      kpc_obj
      exact (kk k2 s1 h1).1
end
end
section
open LamX NdefX
/-! ### _law_block -/
abbrev qLam : Str := "_law_block.<locals>.<lambda>"
/-- the lambda's promise -/
def lamS (c : Cs) (P0 bc a q m j : Addr) (W : Wd) (ps : List Pt) (d : Nat) : Spec := fun ds μ Φ Ψ => ∃ (sc : List Int) (k : Nat) (s : Sn) (rest : Mu), ds = [.ref q] ∧ (stL c a q m j sc k W ps s rest).Perm μ ∧ SOk s ∧ s.floor = s.notes.length ∧ s.notes.length ≤ 100 + 50 * d ∧ TabIn rest P0 qLam ∧
  ∀ k' s', SOk s' → Φ (.bl true) (stL c a q m j sc k' W ps s' rest) ∧ Ψ (.ref bc) (stL c a q m j sc k' W ps s' rest)
theorem perm_blk {A B C D E : Addr × M} {l : Mu} : (A :: B :: C :: D :: E :: l).Perm (E :: C :: D :: A :: B :: l) := by
  have h1 : ([A, B] ++ [C, D, E]).Perm ([C, D, E] ++ [A, B]) := List.perm_append_comm
  have h2 : ([C, D] ++ [E]).Perm ([E] ++ [C, D]) := List.perm_append_comm
  have h3 : ([C, D, E] ++ [A, B]).Perm ([E, C, D] ++ [A, B]) := h2.append_right [A, B]
  exact (h1.trans h3).append_right l
section
variable {P : Program} {w : World} {K : PySem.W.Frag} {mg : Str → Option Value} {base : Heap} {f nd bc P0 cB : Addr} {fd : FuncData} {c : Cs}
def sLBlock (c : Cs) (P0 : Addr) (d : Nat) : Spec := fun ds μ Φ _ => ∃ (a q m j : Addr) (sc : List Int) (k : Nat) (W : Wd) (ps : List Pt) (cells : List Cl) (s : Sn) (rest : Mu), ds = [.ref a, .ref q, wkT W ps cells, .ref m, .int (d : Nat)] ∧ LwOk W ps cells ∧ SOk s ∧ s.notes.length ≤ 100 + 50 * d ∧ TabIn rest P0 qLam ∧ μ = stL c a q m j sc k W ps s rest ∧
  ∀ k', Φ (.bl true) (stL c a q m j sc k' W ps s rest)
theorem ok_law_block {t d : Nat} (ht : 19 ≤ t) (hd : d ≤ 1) (F : Fd K "_law_block" "_law_block" s_law_block f fd) (hcode : fd.code = .ref cB) (TB : TabB base mg cB P0) (T : Bn mg) (klS : Kl K c.Se) (BC : Exn K mg "BadCell" bc) (mkF : Mkr P w K mg base 3 "Faults" c.F (sFaultsInit c.F)) (c_some : Cal P w K mg base 5 "_law_some" sLSome) (c_less : Cal P w K mg base 1 "_law_less" sLLess)
    (m_att : AttP P w K mg base (t + 3) (t + 2) c.Se "attempt" (sAtt c)) (c_deed : Caln P w K mg base (t + 1) "_law_deed" (sLDeed c P0 qLam bc d)) : FnR P w K mg base CX0 (t + 4) f (spD K (sLBlock c P0 d)) := by
  refine fn_DC F hcode sc_law_block (fun _ _ _ _ _ _ us hl => match us, hl with | [_, _, _, _, _], _ => rfl) (fun ds μ Φ Ψ h => by obtain ⟨_, _, _, _, _, _, _, _, _, _, _, rfl, _⟩ := h; rfl) ?_
  have hN := sc_law_block.nd
  rintro A outer s0 H E hr ds μ Φ Ψ ⟨a, q, m, j, sc, k, W, ps, cells, s, rest, rfl, hL, hs, hl, htab, rfl, kk⟩
  have hok := hs.sn
  have hcl : ∀ y ∈ s.cur, letter y.2 := fun y hy => (hok.cur.ok y hy).2
  have hcf := hok.cur.few
  kpc_obj
  refine we_call c_some (hr.mono (by omega)) ?_
  kpc_obj
  refine ⟨a, sc, k, cells, _, rfl, fun y hy => (hL.ok y hy).2, by have := hL.few; omega, .here, fun es k1 hes => ?_⟩
  have hel : ∀ y ∈ es, letter y.2 := fun y hy => (hes.fok.ok y hy).2
  have hef := hes.fok.few
  refine wb_cons (ws_setn (by kp_flats) (by kqd_ok) (by assumption) ?_)
  refine we_lstM (wa_cons ?_)
  refine we_call c_less (hr.mono (by omega)) ?_
  kpc_obj
  refine ⟨_, s.cur, es, rfl, .inr rfl, hcl, hel, by omega, ?_⟩
  refine wa_cons (we_lstfM T ?_)
  kpc_obj
  refine ⟨s.notes.map csD, sq_l (ls_m (.there (.there (.there .here)))), fun j2 => ?_⟩
  kpc_obj
  intro m2
  refine wb_cons (ws_g fun G0 => ?_)
  have hatt : At ((m2, M.lst [csD (s.cur.filter fun y => !decide (y ∈ es)), .ref j2]) :: (j2, M.lst (s.notes.map csD)) :: stL c a q m j sc k1 W ps s rest) P0 (.tab qLam) (.tab qLam) ((m2, M.lst [csD (s.cur.filter fun y => !decide (y ∈ es)), .ref j2]) :: (j2, M.lst (s.notes.map csD)) :: stL c a q m j sc k1 W ps s rest) := .there (.there (.there (.there (.there (.there htab)))))
  refine wsg_try (Ψi := fun cls ρ' μ' => cls = .ref bc ∧ ∃ k', ρ' = [some (.ref a), some (.ref q), some (wkT W ps cells), some (.ref m), some (.int (d : Nat)), some (csD es), some (.ref m2), none] ∧ ∃ s', μ' = (m2, lsM s' j2) :: (j2, ljM s') :: (a, drM sc k') :: (q, snM c W ps s) :: (m, lsM s j) :: (j, ljM s) :: rest) rfl rfl BC TKs.none (fun pn xe G1 tk hp => ?_) ?_
  · refine wbg_one (wsg_set 7 hN ?_)
    refine weg_att (k := t + 3) (kl := t + 1) (P := P0) (c := cB) (S := lamS c P0 bc a q m2 j2 W ps d) (N := ["_law_held", "_law_draw_here", "_law_work", "_law_inner", "_law_depth"]) (ps := ["_law_held"]) (fr := ["_law_draw_here", "_law_work", "_law_inner", "_law_depth"]) (js := [0, 2, 6, 4]) tk m_att klS hr TB rfl rfl rfl (nscope_by (by decide +kernel)) rfl (ndef_free (sc := defScope s_law_block) (fr := ["_law_draw_here", "_law_work", "_law_inner", "_law_depth"]) (by decide +kernel)) (ndef_fr (sc := defScope s_law_block) (by decide +kernel)) (fun _ _ _ _ _ us hl => match us, hl with | [_], _ => rfl) (fun ds μ Φ Ψ h => by obtain ⟨_, _, _, _, rfl, _⟩ := h; rfl) ?_ ?_
    · rintro fL cL A2 outer2 s2 H2 E2 hr2 G2 ds2 μ2 Φ2 Ψ2 ⟨sc2, k2, s3, rest2, rfl, hperm, hs3, hf3, hl3, ht3, kk3⟩ tk2
      refine weg_perm hperm ?_
      refine weg_call tk2 c_deed hr2 ?_
      kpc_obj
      exact ⟨a, q, m2, j2, sc2, k2, W, ps, cells, s3, rest2, rfl, hL, hs3, hf3, hl3, ht3, rfl, kk3⟩
    · kpc_obj
      refine ⟨recv_m (.there (.there (.there .here))), ?_⟩
      refine we_faults mkF (hr.mono (by omega)) ?_
      kpc_obj
      refine ⟨es, .inr rfl, hes.fok.ok, by omega, hatt, fun fL => ?_⟩
      rw [show norm es = es from hes.symm]
      refine ⟨q, fL, W, ps, s, es, _, rfl, hL.a, hok.cur, hes.fok, by omega, .there (.there (.there .here)), fun b Φ1 Ψ1 h1 h2 => ?_⟩
      have el : lessC s.cur es = s.cur.filter fun y => !decide (y ∈ es) := norm_filter hs.cur _
      rw [el]
      refine ⟨sc, k1, ⟨s.cur.filter fun y => !decide (y ∈ es), s.notes, s.notes.length⟩, (b, blM c q W ps es s) :: (m, lsM s j) :: (j, ljM s) :: rest, rfl, perm_blk, ⟨nok_filter hs.cur _, hs.notes⟩, rfl, hl, .there (.there (.there htab)), fun k' s' hs' => ⟨?_, ?_⟩⟩
      · refine h1 (.bl true) _ ((m2, lsM s' j2) :: (j2, ljM s') :: (a, drM sc k') :: (q, snM c W ps s') :: (m, lsM s j) :: (j, ljM s) :: rest) s' _ perm_blk.symm (.there (.there (.there .here))) ?_
        refine wb_drop (.cons _ (.cons _ (List.Sublist.refl _))) ?_
        refine wb_one (ws_ret (we_cmp (op := .Is) op_isB ?_))
        kpc_obj
        refine rd_isB ?_
        rw [decide_eq_true rfl]
        exact kk k'
      · exact h2 bc _ ((m2, lsM s' j2) :: (j2, ljM s') :: (a, drM sc k') :: (q, snM c W ps s') :: (m, lsM s j) :: (j, ljM s) :: rest) s' _ perm_blk.symm (.there (.there (.there .here))) ⟨rfl, k', rfl, s', rfl⟩
  · rintro cls ρ' μ' ⟨rfl, k', rfl, s', rfl⟩
    refine ⟨rfl, fun a' oe pn => ?_⟩
    refine wb_drop (.cons _ (.cons _ (List.Sublist.refl _))) ?_
    kpc_obj
    exact kk k'
end
end
section
open LamX NdefX
/-! ### _law_turn -/
theorem perm_late {A B C D : Addr × M} {l : Mu} : (D :: C :: A :: B :: l).Perm (A :: B :: C :: D :: l) := by
  have h1 : ([D, C] ++ [A, B]).Perm ([A, B] ++ [D, C]) := List.perm_append_comm
  have h2 : ([A, B] ++ [D, C]).Perm ([A, B] ++ [C, D]) := (List.Perm.swap C D []).append_left [A, B]
  exact (h1.trans h2).append_right l
theorem perm_c4 {A B C D : Addr × M} {l : Mu} : (A :: B :: C :: D :: l).Perm (C :: D :: B :: A :: l) := by
  have h1 : ([A, B] ++ [C, D]).Perm ([C, D] ++ [A, B]) := List.perm_append_comm
  have h2 : ([C, D] ++ [A, B]).Perm ([C, D] ++ [B, A]) := (List.Perm.swap B A []).append_left [C, D]
  exact (h1.trans h2).append_right l
theorem perm_a3 {A B C D : Addr × M} {l : Mu} : (A :: B :: C :: D :: l).Perm (D :: A :: B :: C :: l) := by
  have h1 : ([A, B, C] ++ [D]).Perm ([D] ++ [A, B, C]) := List.perm_append_comm
  exact h1.append_right l
section
variable {P : Program} {w : World} {K : PySem.W.Frag} {mg : Str → Option Value} {base : Heap} {f nd bc P0 cB : Addr} {fd : FuncData} {c : Cs}
theorem ok_law_turn {t d : Nat} (ht : 19 ≤ t) (hd : d ≤ 2) (F : Fd K "_law_turn" "_law_turn" s_law_turn f fd) (T : Bn mg) (klS : Kl K c.Se) (m_branch : Om CX0 P w K mg base 18 c.Se "branch" (sBranch c)) (c_next : Cal P w K mg base 3 "_law_next" sNext) (c_is : Cal P w K mg base 13 "_law_is" (sLIs c)) (c_put : Cal P w K mg base 19 "_law_put" (sLPut c)) (c_undo : Cal P w K mg base 18 "_law_undo" (sLUndo c))
    (c_tried : Cal P w K mg base 19 "_law_tried" (sLTried c)) (c_block : d < 2 → Cal P w K mg base t "_law_block" (sLBlock c P0 d)) : FnR P w K mg base CX0 (t + 1) f (spD K (sLTurn c P0 qLam d)) := by
  refine fn_D F sc_law_turn (fun _ _ _ _ _ _ us hl => match us, hl with | [_, _, _, _, _, _], _ => rfl) (fun ds μ Φ Ψ h => by obtain ⟨_, _, _, _, _, _, _, _, _, _, _, rfl, _⟩ := h; rfl) ?_
  have hN := sc_law_turn.nd
  rintro cdv A outer s0 H E hr ds μ Φ Ψ ⟨a, q, m, j, sc, k, W, ps, cells, s, rest, rfl, hL, hs, hfl, hl, htab, rfl, kk⟩
  have hok := hs.sn
  kpc_obj
  refine we_call c_next (hr.mono (by omega)) ?_
  kpc_obj
  refine ⟨a, sc, k, _, _, rfl, by decide, .here, fun r k1 hr0 hr1 => ?_⟩
  -- the end of each way
  have fin : ∀ {good : D} {e1 e2 : Option D} {k' : Nat} {s' : Sn}, good = .bl true → SOk s' → s'.floor = s.floor → s.floor ≤ s'.notes.length → s'.notes.length ≤ s.notes.length + 1 →
      WB (cxOf CX0 P w K mg base n_law_turn "_law_turn" (defScope s_law_turn) f cdv A outer s0 H E).nox ((defBody s_law_turn).drop 2) [some (.ref a), some (.ref q), some (wkT W ps cells), some (.ref m), some (.int (s.floor : Nat)), some (.int (d : Nat)), some (.int r), some good, e1, e2] (stL c a q m j sc k' W ps s' rest) ⟨fun _ μ' => Φ .non μ', Φ⟩ := by
    rintro good e1 e2 k' s' rfl g1 g2 g3 g4
    refine wb_one (ws_ret (we_and ?_))
    kpc_obj
    refine we_call c_is (hr.mono (by omega)) ?_
    kpc_obj
    exact ⟨q, m, j, W, ps, cells, s', _, _, _, rfl, hL, g1, by omega, .there .here, .there (.there .here), .there (.there (.there .here)), kk k' s' g1 g2 g3 g4⟩
  kpc_obj
  refine it_by (fun h4 => ?_) fun h4 => ?_
  · kpc_obj
    refine we_call c_put (hr.mono (by omega)) ?_
    kpc_obj
    refine ⟨a, q, m, j, sc, k1, W, ps, cells, s, rest, rfl, hL, hs, by omega, rfl, fun k2 cur2 hc2 => ?_⟩
    refine wb_nil (fin rfl ⟨hc2, fun n hn => ?_⟩ rfl (by simp; omega) (by simp))
    rcases List.mem_append.mp hn with h | h
    · exact hs.notes n h
    · rw [List.mem_singleton.mp h]; exact hs.cur
  kpc_obj
  refine it_by (fun h5 => ?_) fun h5 => ?_
  · kpc_obj
    refine we_perm perm_a3 (we_call c_undo (hr.mono (by omega)) ?_)
    kpc_obj
    refine ⟨q, m, j, W, ps, s, (a, drM sc k1) :: rest, rfl, hL.a, hs, by omega, hfl, rfl, fun he => ?_, fun ini x hx hlt => ?_⟩
    · exact wb_nil (wb_nil (wb_perm perm_a3.symm (fin (k' := k1) (s' := s) rfl hs rfl hfl (by omega))))
    · have hxl : ini.length + 1 = s.notes.length := by rw [hx]; simp
      exact wb_nil (wb_nil (wb_perm perm_a3.symm (fin (k' := k1) (s' := ⟨x, ini, s.floor⟩) rfl ⟨hs.notes x (by rw [hx]; simp), fun n hn => hs.notes n (by rw [hx]; exact List.mem_append_left _ hn)⟩ rfl (by show s.floor ≤ ini.length; omega) (by show ini.length ≤ _; omega))))
  kpc_obj
  refine it_by (fun h6 => ?_) fun h6 => ?_
  · kpc_obj
    refine we_call c_tried (hr.mono (by omega)) ?_
    kpc_obj
    refine ⟨a, q, m, j, sc, k1, W, ps, cells, s, rest, rfl, hL, hs, rfl, fun k2 => ?_⟩
    exact wb_nil (wb_nil (wb_nil (fin (s' := s) rfl hs rfl hfl (by omega))))
  kpc_obj
  by_cases hb : r = 6 ∧ d < 2
  · obtain ⟨hb1, hb2⟩ := hb
    refine it_yes hb1 ?_
    kpc_obj
    refine it_yes (by omega) ?_
    kpc_obj
    refine we_call (c_block hb2) (hr.mono (by omega)) ?_
    kpc_obj
    refine ⟨a, q, m, j, sc, k1, W, ps, cells, s, rest, rfl, hL, hs, hl, htab, rfl, fun k2 => ?_⟩
    exact wb_nil (wb_nil (wb_nil (wb_nil (fin (s' := s) rfl hs rfl hfl (by omega)))))
  refine (fun z => it_by (fun h7 => ?_) (fun _ => it_f z)) ?_
  · kpc_obj
    exact it_no (fun z => hb ⟨h7, by omega⟩) z
  · kpc_obj
    refine we_meth0 m_branch klS (hr.mono (by omega)) ?_
    kpc_obj
    refine ⟨recv_m (.there .here), q, W, ps, s, _, rfl, hL.a, hok.cur, .there .here, fun q3 => ?_⟩
    refine we_lstM ?_
    kpc_obj
    refine we_lstfM T ?_
    kpc_obj
    refine ⟨s.notes.map csD, sq_l (ls_m (.there (.there (.there (.there .here))))), fun j3 => ?_⟩
    kpc_obj
    intro m3
    have hs0 : SOk ⟨s.cur, s.notes, 0⟩ := ⟨hs.cur, hs.notes⟩
    kpc_obj
    refine we_call c_is (hr.mono (by omega)) ?_
    kpc_obj
    refine ⟨q3, m3, j3, W, ps, cells, ⟨s.cur, s.notes, 0⟩, _, _, _, rfl, hL, hs0, by show s.notes.length ≤ 900; omega, .there (.there .here), .here, .there .here, ?_⟩
    kpc_obj
    refine we_perm perm_c4 (we_call c_put (hr.mono (by omega)) ?_)
    kpc_obj
    refine ⟨a, q3, m3, j3, sc, k1, W, ps, cells, ⟨s.cur, s.notes, 0⟩, (q, snM c W ps s) :: (m, lsM s j) :: (j, ljM s) :: rest, rfl, hL, hs0, by show s.notes.length ≤ 900; omega, rfl, fun k2 cur2 hc2 => ?_⟩
    kpc_obj
    refine we_perm perm_a3 (we_call c_undo (hr.mono (by omega)) ?_)
    kpc_obj
    have hs1 : SOk ⟨cur2, s.notes ++ [s.cur], 0⟩ := ⟨hc2, fun n hn => by
      rcases List.mem_append.mp hn with h | h
      · exact hs.notes n h
      · rw [List.mem_singleton.mp h]; exact hs.cur⟩
    refine ⟨q3, m3, j3, W, ps, ⟨cur2, s.notes ++ [s.cur], 0⟩, (a, drM sc k2) :: (q, snM c W ps s) :: (m, lsM s j) :: (j, ljM s) :: rest, rfl, hL.a, hs1, by simp; omega, Nat.zero_le _, rfl, fun he => by simp at he, fun ini x hx hlt => ?_⟩
    obtain ⟨hx1, hx2⟩ := List.append_inj' (show s.notes ++ [s.cur] = ini ++ [x] from hx) rfl
    cases hx2
    subst hx1
    kpc_obj
    refine ws_while (α := Sn) (fun _ => [some (.ref a), some (.ref q), some (wkT W ps cells), some (.ref m), some (.int (s.floor : Nat)), some (.int (d : Nat)), some (.int r), some (.bl true), some (.ref q3), some (.ref m3)]) (fun s3 => stU c q3 m3 j3 W ps s3 ((a, drM sc k2) :: (q, snM c W ps s) :: (m, lsM s j) :: (j, ljM s) :: rest)) (fun s3 => s3.notes.length) (fun s3 => SOk s3 ∧ s3.floor = 0 ∧ s3.notes.length ≤ 900) ⟨s.cur, s.notes, 0⟩ PassesOwn.never rfl rfl ⟨hs0, rfl, by show s.notes.length ≤ 900; omega⟩ ?_
    rintro ⟨cur3, notes3, fl3⟩ ⟨g1, g2, g3⟩
    change fl3 = 0 at g2
    subst g2
    change notes3.length ≤ 900 at g3
    kpc_obj
    refine we_lst ?_
    kpc_obj
    refine rd_neNilM (f := csD) csP 2 (by decide) (.there (.there .here)) (fun x _ => py_cs x) (fun x hx => lay_cls fun y hy => ((g1.notes x hx).fok.ok y hy).2) (bl_i ?_)
    change It (!notes3.isEmpty) _ _
    cases hempty : notes3.isEmpty with
    | false =>
      have hne : 0 < notes3.length := by
        cases notes3 with
        | nil => cases hempty
        | cons _ _ => simp
      refine it_t ?_
      kpc_obj
      refine we_call c_undo (hr.mono (by omega)) ?_
      kpc_obj
      refine ⟨q3, m3, j3, W, ps, ⟨cur3, notes3, 0⟩, _, rfl, hL.a, g1, g3, Nat.zero_le _, rfl, fun he => absurd (show notes3.length = 0 from he) (by omega), fun ini x hx hlt => ?_⟩
      have hx' : notes3 = ini ++ [x] := hx
      have hle : ini.length + 1 = notes3.length := by rw [hx']; simp
      exact wb_nil ⟨⟨x, ini, 0⟩, ⟨⟨g1.notes x (by show x ∈ notes3; rw [hx']; simp), fun n hn => g1.notes n (by show n ∈ notes3; rw [hx']; exact List.mem_append_left _ hn)⟩, rfl, by show ini.length ≤ 900; omega⟩, by show ini.length < notes3.length; omega, rfl, rfl⟩
    | true =>
      obtain rfl : notes3 = [] := List.isEmpty_iff.mp hempty
      refine it_f ?_
      kpc_obj
      refine we_call c_undo (hr.mono (by omega)) ?_
      kpc_obj
      refine ⟨q3, m3, j3, W, ps, ⟨cur3, [], 0⟩, _, rfl, hL.a, g1, g3, Nat.zero_le _, rfl, fun _ => ?_, fun ini x hx hlt => absurd (show (0 : Nat) < 0 from hlt) (Nat.lt_irrefl 0)⟩
      kpc_obj
      refine we_call c_is (hr.mono (by omega)) ?_
      kpc_obj
      refine ⟨q3, m3, j3, W, ps, cells, ⟨cur3, [], 0⟩, _, _, _, rfl, hL, g1, g3, .here, .there .here, .there (.there .here), ?_⟩
      exact wb_nil (wb_nil (wb_nil (wb_nil (wb_drop (.cons _ (.cons _ (.cons _ (List.Sublist.refl _)))) (fin (s' := s) rfl hs rfl hfl (by omega))))))
end
end
section
/-! ### the law -/
theorem wa_less {X : Cx} {es : List Expr} {ρ : Rho} {μ : Mu} {Φ : List D → Mu → Prop} (h : WA X es ρ μ fun ds μ1 => ∃ μ3 : Mu, μ3.Perm μ1 ∧ Φ ds μ3) : WA X es ρ μ Φ := ⟨fun σ G H Q m r q => h.run σ G H Q m r fun ds vs G1 H1 μ1 s1 m1 rd ⟨μ3, hp, k⟩ => q ds vs G1 H1 μ3 s1 (m1.perm hp) rd k⟩
section
variable {P : Program} {w : World} {K : PySem.W.Frag} {mg : Str → Option Value} {base : Heap} {f nd bc P0 cB : Addr} {fd : FuncData} {c : Cs}
def sPartsU : Spec := fun ds μ Φ Ψ => ∃ lv : Nat, lv ≤ 2 ∧ sParts lv ds μ Φ Ψ
def sQuestionU (C : Addr) : Spec := fun ds μ Φ Ψ => ∃ lv : Nat, lv ≤ 2 ∧ sQuestion C lv ds μ Φ Ψ
def sLaw (K : PySem.W.Frag) (P0 : Addr) : Spec := fun ds μ Φ _ => ∃ (a0 : Addr) (script : List Int), ds = [.ref a0] ∧ ScriptAt K μ a0 script ∧ TabIn μ P0 qLam ∧ ∀ μ', Φ (.bl true) μ'
theorem ok_law {t : Nat} (ht : 19 ≤ t) (F : Fd K "law" "law" s_law f fd) (T : Bn mg) (se : SeP P w K mg base c) (c_next : Cal P w K mg base 3 "_law_next" sNext) (c_kinds : Cal P w K mg base 6 "_law_kinds" sKinds) (c_objs : Cal P w K mg base 6 "_law_objects" sObjects) (c_parts : Cal P w K mg base t "_law_parts" sPartsU)
    (c_quest : Cal P w K mg base t "_law_question" (sQuestionU c.Q)) (mkS : Mkr P w K mg base t "Schema" c.S (sSchemaInit c.S)) (mkSt : Mkr P w K mg base t "Store" c.St (sStoreInit c.St c.S)) (mkN : Mkr P w K mg base 10 "Asker" c.N (sAskInit c)) (mkSe : Mkr P w K mg base 16 "Session" c.Se (sSeInit c))
    (klSt : Kl K c.St) (p_cells : Pr P w K mg base 1 c.St "cells" (sStoreCells c.St c.S)) (klN : Kl K c.N) (p_quest : Pr P w K mg base 1 c.N "question" (sAskQuestion c)) (p_store : Pr P w K mg base 1 c.N "store" (sAskStore c)) (eqQ : Om CX0 P w K mg base 11 c.Q "__eq__" (sQEq c 2)) (neQ : NeK K c.Q) (eqSt : Om CX0 P w K mg base 3 c.St "__eq__" (sStoreEq c)) (neSt : NeK K c.St)
    (c_is : Cal P w K mg base 13 "_law_is" (sLIs c)) (c_turn : Cal P w K mg base t "_law_turn" (sLTurn c P0 qLam 0)) : FnOk P w K mg base CX0 (t + 2) f fd p_law (spD K (sLaw K P0)) := by
  refine fn_DO F sc_law (fun ds μ Φ Ψ h => by obtain ⟨_, _, rfl, _⟩ := h; rfl) ?_
  have hN := sc_law.nd
  rintro cdv A outer s0 H E hr ds μ Φ Ψ ⟨a0, script, rfl, hsc, htab, kk⟩
  refine wb_cons (ws_setn (by kp_flats) (by kqd_ok) (by assumption) ?_)
  refine we_lstM (wa_cons (we_slS ?_))
  kpc_obj
  refine ⟨a0, script, rfl, hsc, ?_⟩
  have ecut : ∃ sc : List Int, cutD (script.map D.int) none (some 63) = sc.map D.int := ⟨(script.drop 0).take _, by unfold cutD; rw [List.map_take, List.map_drop]; rfl⟩
  obtain ⟨sc, esc⟩ := ecut
  rw [esc]
  kpc_obj
  intro a
  change WB _ _ _ ((a, drM sc 0) :: μ) _
  refine wb_cons (ws_forL (α := Nat) (β := Nat) [2, 3, 4, 5, 6, 7, 8, 9, 10, 11] [2] (fun i => D.int (0 + (i : Nat))) (fun _ => [some (.ref a0), some (.ref a), none, none, none, none, none, none, none, none, none, none]) (fun k => (a, drM sc k) :: μ) (fun _ _ => True) PassesOwn.never rfl ?_ ?_ ?_)
  · refine wi_range T ?_
    kpc_obj
    exact ⟨by omega, by omega, List.range _, rfl, 0, rfl, rfl, True.intro⟩
  · rintro x rest' k -
    kpc_obj
    refine we_call c_kinds (hr.mono (by omega)) ?_
    kpc_obj
    refine ⟨a, sc, k, _, rfl, .here, fun ks k1 hks => ?_⟩
    kpc_obj
    refine we_call c_objs (hr.mono (by omega)) ?_
    kpc_obj
    refine ⟨a, sc, k1, ks, _, rfl, hks, .here, fun os k2 hos => ?_⟩
    kpc_obj
    refine we_call c_parts (hr.mono (by omega)) (wa_less ?_)
    kpc_obj
    refine we_call c_next (hr.mono (by omega)) ?_
    kpc_obj
    refine ⟨a, sc, k2, _, _, rfl, by decide, .here, fun r k3 h0 h1 => ?_⟩
    obtain ⟨lv, rfl⟩ := Int.eq_ofNat_of_zero_le h0
    refine rd_addI (wa_cons (we_lstM ?_))
    kpc_obj
    refine we_call c_next (hr.mono (by omega)) ?_
    kpc_obj
    refine ⟨a, sc, k3, _, _, rfl, by decide, .here, fun r2 k4 h2 h3 => ?_⟩
    obtain ⟨n, rfl⟩ := Int.eq_ofNat_of_zero_le h2
    kpc_obj
    intro p
    kpc_obj
    have e1 : ((1 : Int) + (lv : Int)) = (((lv + 1 : Nat)) : Int) := by omega
    have e2 : ((2 : Int) + (n : Int)) = (((2 + n : Nat)) : Int) := by omega
    rw [e1, e2]
    have hkl : 0 < ks.length := by
      obtain ⟨vs, r, e⟩ := hos.hd
      obtain ⟨fs, hfs, _⟩ := hos.each (0, vs) (by rw [e]; exact List.mem_cons_self)
      exact (List.getElem?_eq_some_iff.mp hfs).1
    refine ⟨(a, drM sc k4) :: (p, .lst [.int ((2 + n : Nat) : Int)]) :: μ, List.Perm.swap _ _ _, lv, by omega, a, p, sc, k4, 2 + n, ks, 0, μ, rfl, hks, hkl, by omega, rfl, fun ps k5 n' hps hsz => ?_⟩
    refine wb_drop (μ2 := (a, drM sc k5) :: μ) (.cons₂ _ (.cons _ (List.Sublist.refl _))) ?_
    have hA : AOk ⟨ks, os⟩ ps := ⟨⟨hks, hos⟩, hps.up (by omega), by omega⟩
    refine wb_cons (ws_setn (by kp_flats) (by kqd_ok) (by assumption) ?_)
    refine we_frzI (we_make mkSt (hr.mono (by omega)) ?_)
    refine wa_cons (we_frzI (we_make mkS (hr.mono (by omega)) ?_))
    kpc_obj
    intro qS
    refine ⟨qS, ks, _, rfl, hks, .here, rfl, qS, c.S, [kindsD ks], _, rfl, .here, by simp, ?_⟩
    kpc_obj
    intro qT
    refine ⟨qT, ks, os, _, rfl, hks, hos, .here, rfl, qT, c.St, [schD c.S ks, objsD os, .dcT (tabK ks os) (tabV ks os)], _, rfl, .here, by simp, ?_⟩
    refine wb_cons (ws_setn (by kp_flats) (by kqd_ok) (by assumption) ?_)
    refine we_frzI (we_make mkN (hr.mono (by omega)) ?_)
    kpc_obj
    refine we_call c_quest (hr.mono (by omega)) ?_
    kpc_obj
    refine ⟨lv, by omega, ks, 0, ps, rfl, hks, hps, by omega, by omega, ?_⟩
    kpc_obj
    intro qN
    refine ⟨qN, ⟨ks, os⟩, ps, _, rfl, hA, .here, rfl, qN, c.N, [stoD c.St c.S ks os, qD c.Q ps], _, rfl, .here, by simp, ?_⟩
    refine wb_cons (ws_par2 (by kp_flats) (by kqd_ok) (by kqd_ok) (by assumption) rfl ?_)
    refine we_make mkSe (hr.mono (by omega)) ?_
    kpc_obj
    intro q
    refine ⟨q, ⟨ks, os⟩, ps, _, rfl, hA, .here, rfl, ?_⟩
    refine we_lstM (wa_cons ?_)
    kpc_obj
    refine we_lstM (wa_nil ⟨by simp, fun j => ?_⟩)
    kpc_obj
    intro m
    kpc_obj
    refine we_prop p_cells klSt (hr.mono (by omega)) ?_
    kpc_obj
    refine ⟨recv_f, ks, os, rfl, hos.few, ?_⟩
    have hL : LwOk ⟨ks, os⟩ ps (stoC ks os) := ⟨hA, stoC_ne hA, stoC_ok hos.few, by have := stoC_len (ks := ks) hos.few; omega⟩
    have hs0 : SOk ⟨[], [], 0⟩ := ⟨nok_nil, fun _ h => (List.not_mem_nil h).elim⟩
    refine wa_nil ⟨by simp, ?_⟩
    refine wb_perm (ν := stL c a q m j sc k5 ⟨ks, os⟩ ps ⟨[], [], 0⟩ μ) perm_c4 ?_
    refine wb_cons (ws_if (wt_ww (ww_or ?_)))
    refine wt_cmp (op := .NotEq) (op_neI eqQ neQ (hr.mono (by omega))) ?_
    refine we_prop p_quest klN (hr.mono (by omega)) ?_
    refine we_prop se.asker se.kl (hr.mono (by omega)) ?_
    kpc_obj
    refine ⟨recv_m (.there .here), q, _, _, askD c ⟨ks, os⟩ ps, rfl, .there .here, rfl, recv_f, ⟨ks, os⟩, ps, rfl, ?_⟩
    refine we_prop p_quest klN (hr.mono (by omega)) ?_
    kpc_obj
    refine ⟨recv_f, ⟨ks, os⟩, ps, rfl, ?_⟩
    have hmx : mxP ps ≤ 2 := hA.q.mx
    refine rd_eqIn (b := false) (fun Φ h => ⟨ps, rfl, hmx, h⟩) (bl_i (it_f ?_))
    refine ww_or ?_
    refine wt_cmp (op := .NotEq) (op_neI eqSt neSt (hr.mono (by omega))) ?_
    refine we_prop p_store klN (hr.mono (by omega)) ?_
    refine we_prop se.asker se.kl (hr.mono (by omega)) ?_
    kpc_obj
    refine ⟨recv_m (.there .here), q, _, _, askD c ⟨ks, os⟩ ps, rfl, .there .here, rfl, recv_f, ⟨ks, os⟩, ps, rfl, ?_⟩
    kpc_obj
    refine rd_eqIn (b := false) (fun Φ h => ⟨⟨ks, os⟩, rfl, hA.w, h⟩) (bl_i (it_f ?_))
    kpc_obj
    refine we_call c_is (hr.mono (by omega)) ?_
    kpc_obj
    refine ⟨q, m, j, ⟨ks, os⟩, ps, stoC ks os, ⟨[], [], 0⟩, _, _, _, rfl, hL, hs0, by decide, .there .here, .there (.there .here), .there (.there (.there .here)), ?_⟩
    kpc_obj
    refine wb_nil ?_
    refine wb_cons (ws_expr (we_app ?_))
    refine we_prop se.journal se.kl (hr.mono (by omega)) ?_
    kpc_obj
    refine ⟨recv_m (.there .here), q, _, _, _, rfl, .there .here, rfl, fun pj => ⟨pj, _, _, rfl, .here, ?_⟩⟩
    refine we_int ⟨_, _, .here, by show 0 < 1000; decide, ?_⟩
    refine wb_drop (μ2 := stL c a q m j sc k5 ⟨ks, os⟩ ps ⟨[], [], 0⟩ μ) (.cons _ (List.Sublist.refl _)) ?_
    refine wb_cons (ws_forL (α := Nat × Sn) (β := Nat) [11] [11] (fun i => D.int (0 + (i : Nat))) (fun _ => [some (.ref a0), some (.ref a), some (.int (0 + (x : Nat))), some (kindsD ks), some (wdD ⟨ks, os⟩), some (ptsD ps), some (stoD c.St c.S ks os), some (askD c ⟨ks, os⟩ ps), some (.ref q), some (.ref m), some (wkT ⟨ks, os⟩ ps (stoC ks os)), none]) (fun y => stL c a q m j sc y.1 ⟨ks, os⟩ ps y.2 μ)
      (fun rs y => SOk y.2 ∧ y.2.floor = 0 ∧ y.2.notes.length + rs.length ≤ 16) PassesOwn.never rfl ?_ ?_ ?_)
    · refine wi_range T ?_
      kpc_obj
      refine we_call c_next (hr.mono (by omega)) ?_
      kpc_obj
      refine ⟨a, sc, k5, _, _, rfl, by decide, .here, fun r3 k6 h4 h5 => ?_⟩
      obtain ⟨n3, rfl⟩ := Int.eq_ofNat_of_zero_le h4
      refine rd_addI ?_
      exact ⟨_, rfl, by omega, by omega, List.range (8 + n3), by rw [show ((8 : Int) + (n3 : Int)).toNat = 8 + n3 by omega], (k6, ⟨[], [], 0⟩), rfl, rfl, hs0, rfl, by show 0 + _ ≤ 16; rw [List.length_range]; omega⟩
    · rintro y rs ⟨k6, s1⟩ ⟨g1, g2, g3⟩
      change SOk s1 at g1
      change s1.floor = 0 at g2
      change s1.notes.length + (y :: rs).length ≤ 16 at g3
      rw [List.length_cons] at g3
      kpc_obj
      refine we_call c_turn (hr.mono (by omega)) ?_
      kpc_obj
      refine ⟨a, q, m, j, sc, k6, ⟨ks, os⟩, ps, stoC ks os, s1, μ, by rw [g2]; rfl, hL, g1, by omega, by omega, htab, rfl, fun k7 s2 e1 e2 e3 e4 => ?_⟩
      kpc_obj
      refine wb_nil (wb_nil ⟨(k7, s2), rfl, rfl, e1, e2.trans g2, ?_⟩)
      show s2.notes.length + rs.length ≤ 16
      omega
    · rintro ⟨k6, s1⟩ _
      exact wb_drop (μ2 := (a, drM sc k6) :: μ) (.cons₂ _ (.cons _ (.cons _ (.cons _ (List.Sublist.refl _))))) (wb_nil ⟨k6, rfl, rfl, True.intro⟩)
  · intro k _
    kpc_obj
    exact kk _
end
end
end DL
namespace DL
open PySem PySem.Spec PyProof.Rows L2 LamX NdefX
/-! ### every promise of the module, by names -/
abbrev cM : Cs := ⟨321, 856, 743, 434, 908, 595, 969, 1134, 1174⟩
abbrev bcM : Addr := 98
abbrev ndM : Addr := 215
theorem fnr_U {P : Program} {w : World} {K : PySem.W.Frag} {mg : Str → Option Value} {base : Heap} {CX : CXT} {k : Nat} {f : Addr} {p : Nat → Prop} {S : Nat → Spec} (F : ∀ i, p i → FnR P w K mg base CX k f (spD K (S i))) : FnR P w K mg base CX k f (spD K fun ds μ Φ Ψ => ∃ i, p i ∧ S i ds μ Φ Ψ) := fun A outer s H us vs Q E hr e0 r hs => by
  obtain ⟨G, μ, ds, Φ, Ψ, m, rr, ⟨i, hi, h⟩, q⟩ := hs
  exact F i hi A outer s H us vs Q E hr e0 r ⟨G, μ, ds, Φ, Ψ, m, rr, h, q⟩
theorem law_all {P : Program} {w : World} {K : PySem.W.Frag} {h base : Heap} {mg : Str → Option Value} (X : K.In h) (G : h.Ns mainGlobals mg) (S : SaysM fcs fns h K) (TB : TabB base mg cB.1 cB.2) {fd : FuncData} (F_law : Fd K "law" "law" s_law 1349 fd) : FnOk P w K mg base CX0 32 1349 fd p_law (spD K (sLaw K cB.2)) := by
  have fc_glo_is_number : (Fc.glo "is_number" 227).ok K = true := S.fc _ (List.mem_of_getElem? (i := 0) rfl)
  have fc_glo_is_name : (Fc.glo "is_name" 234).ok K = true := S.fc _ (List.mem_of_getElem? (i := 1) rfl)
  have fc_glo_is_word : (Fc.glo "is_word" 241).ok K = true := S.fc _ (List.mem_of_getElem? (i := 2) rfl)
  have fc_glo_is_field : (Fc.glo "is_field" 248).ok K = true := S.fc _ (List.mem_of_getElem? (i := 3) rfl)
  have fc_glo_is_spare : (Fc.glo "is_spare" 255).ok K = true := S.fc _ (List.mem_of_getElem? (i := 4) rfl)
  have fc_glo_is_kind : (Fc.glo "is_kind" 260).ok K = true := S.fc _ (List.mem_of_getElem? (i := 5) rfl)
  have fc_glo_Schema : (Fc.glo "Schema" 321).ok K = true := S.fc _ (List.mem_of_getElem? (i := 6) rfl)
  have fc_kl_Schema : (Fc.kl 321).ok K = true := S.fc _ (List.mem_of_getElem? (i := 7) rfl)
  have fc_mk_Schema : (Fc.mk 321 273).ok K = true := S.fc _ (List.mem_of_getElem? (i := 8) rfl)
  have fc_sl_Schema_rows : (Fc.sl 321 "rows" 0 322).ok K = true := S.fc _ (List.mem_of_getElem? (i := 9) rfl)
  have fc_meth_Schema___init__ : (Fc.meth 321 "__init__" 273).ok K = true := S.fc _ (List.mem_of_getElem? (i := 10) rfl)
  have fc_prop_Schema_kinds : (Fc.prop 321 "kinds" 281 280).ok K = true := S.fc _ (List.mem_of_getElem? (i := 11) rfl)
  have fc_meth_Schema___len__ : (Fc.meth 321 "__len__" 288).ok K = true := S.fc _ (List.mem_of_getElem? (i := 12) rfl)
  have fc_meth_Schema___contains__ : (Fc.meth 321 "__contains__" 293).ok K = true := S.fc _ (List.mem_of_getElem? (i := 13) rfl)
  have fc_meth_Schema___getitem__ : (Fc.meth 321 "__getitem__" 305).ok K = true := S.fc _ (List.mem_of_getElem? (i := 14) rfl)
  have fc_meth_Schema___eq__ : (Fc.meth 321 "__eq__" 317).ok K = true := S.fc _ (List.mem_of_getElem? (i := 15) rfl)
  have fc_glo_check_schema : (Fc.glo "check_schema" 338).ok K = true := S.fc _ (List.mem_of_getElem? (i := 16) rfl)
  have fc_glo_is_part : (Fc.glo "is_part" 345).ok K = true := S.fc _ (List.mem_of_getElem? (i := 17) rfl)
  have fc_glo_levels_of : (Fc.glo "levels_of" 352).ok K = true := S.fc _ (List.mem_of_getElem? (i := 18) rfl)
  have fc_glo_names_in : (Fc.glo "names_in" 359).ok K = true := S.fc _ (List.mem_of_getElem? (i := 19) rfl)
  have fc_glo_Question : (Fc.glo "Question" 434).ok K = true := S.fc _ (List.mem_of_getElem? (i := 20) rfl)
  have fc_kl_Question : (Fc.kl 434).ok K = true := S.fc _ (List.mem_of_getElem? (i := 21) rfl)
  have fc_mk_Question : (Fc.mk 434 372).ok K = true := S.fc _ (List.mem_of_getElem? (i := 22) rfl)
  have fc_sl_Question_rows : (Fc.sl 434 "rows" 0 435).ok K = true := S.fc _ (List.mem_of_getElem? (i := 23) rfl)
  have fc_meth_Question___init__ : (Fc.meth 434 "__init__" 372).ok K = true := S.fc _ (List.mem_of_getElem? (i := 24) rfl)
  have fc_prop_Question_parts : (Fc.prop 434 "parts" 380 379).ok K = true := S.fc _ (List.mem_of_getElem? (i := 25) rfl)
  have fc_meth_Question___len__ : (Fc.meth 434 "__len__" 387).ok K = true := S.fc _ (List.mem_of_getElem? (i := 26) rfl)
  have fc_meth_Question___eq__ : (Fc.meth 434 "__eq__" 430).ok K = true := S.fc _ (List.mem_of_getElem? (i := 27) rfl)
  have fc_glo_check_question : (Fc.glo "check_question" 458).ok K = true := S.fc _ (List.mem_of_getElem? (i := 28) rfl)
  have fc_glo_unfit : (Fc.glo "unfit" 466).ok K = true := S.fc _ (List.mem_of_getElem? (i := 29) rfl)
  have fc_glo_unfit_in : (Fc.glo "unfit_in" 473).ok K = true := S.fc _ (List.mem_of_getElem? (i := 30) rfl)
  have fc_glo_is_data : (Fc.glo "is_data" 478).ok K = true := S.fc _ (List.mem_of_getElem? (i := 31) rfl)
  have fc_glo_is_item : (Fc.glo "is_item" 485).ok K = true := S.fc _ (List.mem_of_getElem? (i := 32) rfl)
  have fc_glo_is_left : (Fc.glo "is_left" 490).ok K = true := S.fc _ (List.mem_of_getElem? (i := 33) rfl)
  have fc_glo_copied : (Fc.glo "copied" 495).ok K = true := S.fc _ (List.mem_of_getElem? (i := 34) rfl)
  have fc_glo_Answer : (Fc.glo "Answer" 595).ok K = true := S.fc _ (List.mem_of_getElem? (i := 35) rfl)
  have fc_kl_Answer : (Fc.kl 595).ok K = true := S.fc _ (List.mem_of_getElem? (i := 36) rfl)
  have fc_mk_Answer : (Fc.mk 595 527).ok K = true := S.fc _ (List.mem_of_getElem? (i := 37) rfl)
  have fc_sl_Answer_kept : (Fc.sl 595 "kept" 0 596).ok K = true := S.fc _ (List.mem_of_getElem? (i := 38) rfl)
  have fc_meth_Answer___init__ : (Fc.meth 595 "__init__" 527).ok K = true := S.fc _ (List.mem_of_getElem? (i := 39) rfl)
  have fc_prop_Answer_data : (Fc.prop 595 "data" 535 534).ok K = true := S.fc _ (List.mem_of_getElem? (i := 40) rfl)
  have fc_glo_is_cell : (Fc.glo "is_cell" 612).ok K = true := S.fc _ (List.mem_of_getElem? (i := 41) rfl)
  have fc_glo_all_cells : (Fc.glo "all_cells" 617).ok K = true := S.fc _ (List.mem_of_getElem? (i := 42) rfl)
  have fc_glo_Faults : (Fc.glo "Faults" 743).ok K = true := S.fc _ (List.mem_of_getElem? (i := 43) rfl)
  have fc_kl_Faults : (Fc.kl 743).ok K = true := S.fc _ (List.mem_of_getElem? (i := 44) rfl)
  have fc_mk_Faults : (Fc.mk 743 630).ok K = true := S.fc _ (List.mem_of_getElem? (i := 45) rfl)
  have fc_sl_Faults_kept : (Fc.sl 743 "kept" 0 744).ok K = true := S.fc _ (List.mem_of_getElem? (i := 46) rfl)
  have fc_meth_Faults___init__ : (Fc.meth 743 "__init__" 630).ok K = true := S.fc _ (List.mem_of_getElem? (i := 47) rfl)
  have fc_prop_Faults_cells : (Fc.prop 743 "cells" 638 637).ok K = true := S.fc _ (List.mem_of_getElem? (i := 48) rfl)
  have fc_meth_Faults___len__ : (Fc.meth 743 "__len__" 645).ok K = true := S.fc _ (List.mem_of_getElem? (i := 49) rfl)
  have fc_meth_Faults___contains__ : (Fc.meth 743 "__contains__" 652).ok K = true := S.fc _ (List.mem_of_getElem? (i := 50) rfl)
  have fc_meth_Faults___or__ : (Fc.meth 743 "__or__" 659).ok K = true := S.fc _ (List.mem_of_getElem? (i := 51) rfl)
  have fc_meth_Faults___sub__ : (Fc.meth 743 "__sub__" 669).ok K = true := S.fc _ (List.mem_of_getElem? (i := 52) rfl)
  have fc_meth_Faults___lshift__ : (Fc.meth 743 "__lshift__" 695).ok K = true := S.fc _ (List.mem_of_getElem? (i := 53) rfl)
  have fc_meth_Faults___eq__ : (Fc.meth 743 "__eq__" 712).ok K = true := S.fc _ (List.mem_of_getElem? (i := 54) rfl)
  have fc_stat_Faults_none : (Fc.stat 743 "none" 738 736).ok K = true := S.fc _ (List.mem_of_getElem? (i := 55) rfl)
  have fc_glo_check_faults : (Fc.glo "check_faults" 758).ok K = true := S.fc _ (List.mem_of_getElem? (i := 56) rfl)
  have fc_glo_kind_of : (Fc.glo "kind_of" 765).ok K = true := S.fc _ (List.mem_of_getElem? (i := 57) rfl)
  have fc_glo_is_single : (Fc.glo "is_single" 772).ok K = true := S.fc _ (List.mem_of_getElem? (i := 58) rfl)
  have fc_glo_is_value : (Fc.glo "is_value" 777).ok K = true := S.fc _ (List.mem_of_getElem? (i := 59) rfl)
  have fc_glo_is_object : (Fc.glo "is_object" 782).ok K = true := S.fc _ (List.mem_of_getElem? (i := 60) rfl)
  have fc_glo_Store : (Fc.glo "Store" 856).ok K = true := S.fc _ (List.mem_of_getElem? (i := 61) rfl)
  have fc_kl_Store : (Fc.kl 856).ok K = true := S.fc _ (List.mem_of_getElem? (i := 62) rfl)
  have fc_mk_Store : (Fc.mk 856 795).ok K = true := S.fc _ (List.mem_of_getElem? (i := 63) rfl)
  have fc_sl_Store_plan : (Fc.sl 856 "plan" 0 857).ok K = true := S.fc _ (List.mem_of_getElem? (i := 64) rfl)
  have fc_sl_Store_rows : (Fc.sl 856 "rows" 1 858).ok K = true := S.fc _ (List.mem_of_getElem? (i := 65) rfl)
  have fc_sl_Store_table : (Fc.sl 856 "table" 2 859).ok K = true := S.fc _ (List.mem_of_getElem? (i := 66) rfl)
  have fc_meth_Store___init__ : (Fc.meth 856 "__init__" 795).ok K = true := S.fc _ (List.mem_of_getElem? (i := 67) rfl)
  have fc_prop_Store_schema : (Fc.prop 856 "schema" 803 802).ok K = true := S.fc _ (List.mem_of_getElem? (i := 68) rfl)
  have fc_prop_Store_objects : (Fc.prop 856 "objects" 811 810).ok K = true := S.fc _ (List.mem_of_getElem? (i := 69) rfl)
  have fc_prop_Store_cells : (Fc.prop 856 "cells" 817 816).ok K = true := S.fc _ (List.mem_of_getElem? (i := 70) rfl)
  have fc_meth_Store___contains__ : (Fc.meth 856 "__contains__" 831).ok K = true := S.fc _ (List.mem_of_getElem? (i := 71) rfl)
  have fc_meth_Store___getitem__ : (Fc.meth 856 "__getitem__" 845).ok K = true := S.fc _ (List.mem_of_getElem? (i := 72) rfl)
  have fc_meth_Store___eq__ : (Fc.meth 856 "__eq__" 852).ok K = true := S.fc _ (List.mem_of_getElem? (i := 73) rfl)
  have fc_glo_check_store : (Fc.glo "check_store" 868).ok K = true := S.fc _ (List.mem_of_getElem? (i := 74) rfl)
  have fc_glo_Walk : (Fc.glo "Walk" 908).ok K = true := S.fc _ (List.mem_of_getElem? (i := 75) rfl)
  have fc_kl_Walk : (Fc.kl 908).ok K = true := S.fc _ (List.mem_of_getElem? (i := 76) rfl)
  have fc_mk_Walk : (Fc.mk 908 883).ok K = true := S.fc _ (List.mem_of_getElem? (i := 77) rfl)
  have fc_sl_Walk_broken : (Fc.sl 908 "broken" 0 909).ok K = true := S.fc _ (List.mem_of_getElem? (i := 78) rfl)
  have fc_sl_Walk_source : (Fc.sl 908 "source" 1 910).ok K = true := S.fc _ (List.mem_of_getElem? (i := 79) rfl)
  have fc_sl_Walk_trail : (Fc.sl 908 "trail" 2 911).ok K = true := S.fc _ (List.mem_of_getElem? (i := 80) rfl)
  have fc_meth_Walk___init__ : (Fc.meth 908 "__init__" 883).ok K = true := S.fc _ (List.mem_of_getElem? (i := 81) rfl)
  have fc_meth_Walk_ask_object : (Fc.meth 908 "ask_object" 890).ok K = true := S.fc _ (List.mem_of_getElem? (i := 82) rfl)
  have fc_meth_Walk_ask_field : (Fc.meth 908 "ask_field" 897).ok K = true := S.fc _ (List.mem_of_getElem? (i := 83) rfl)
  have fc_meth_Walk_ask_list : (Fc.meth 908 "ask_list" 904).ok K = true := S.fc _ (List.mem_of_getElem? (i := 84) rfl)
  have fc_glo_Asker : (Fc.glo "Asker" 969).ok K = true := S.fc _ (List.mem_of_getElem? (i := 85) rfl)
  have fc_kl_Asker : (Fc.kl 969).ok K = true := S.fc _ (List.mem_of_getElem? (i := 86) rfl)
  have fc_mk_Asker : (Fc.mk 969 928).ok K = true := S.fc _ (List.mem_of_getElem? (i := 87) rfl)
  have fc_sl_Asker_source : (Fc.sl 969 "source" 0 970).ok K = true := S.fc _ (List.mem_of_getElem? (i := 88) rfl)
  have fc_sl_Asker_wanted : (Fc.sl 969 "wanted" 1 971).ok K = true := S.fc _ (List.mem_of_getElem? (i := 89) rfl)
  have fc_meth_Asker___init__ : (Fc.meth 969 "__init__" 928).ok K = true := S.fc _ (List.mem_of_getElem? (i := 90) rfl)
  have fc_prop_Asker_store : (Fc.prop 969 "store" 936 935).ok K = true := S.fc _ (List.mem_of_getElem? (i := 91) rfl)
  have fc_prop_Asker_question : (Fc.prop 969 "question" 944 943).ok K = true := S.fc _ (List.mem_of_getElem? (i := 92) rfl)
  have fc_meth_Asker___call__ : (Fc.meth 969 "__call__" 951).ok K = true := S.fc _ (List.mem_of_getElem? (i := 93) rfl)
  have fc_glo_check_asker : (Fc.glo "check_asker" 987).ok K = true := S.fc _ (List.mem_of_getElem? (i := 94) rfl)
  have fc_glo_Session : (Fc.glo "Session" 1134).ok K = true := S.fc _ (List.mem_of_getElem? (i := 95) rfl)
  have fc_kl_Session : (Fc.kl 1134).ok K = true := S.fc _ (List.mem_of_getElem? (i := 96) rfl)
  have fc_mk_Session : (Fc.mk 1134 1002).ok K = true := S.fc _ (List.mem_of_getElem? (i := 97) rfl)
  have fc_sl_Session_current : (Fc.sl 1134 "current" 0 1135).ok K = true := S.fc _ (List.mem_of_getElem? (i := 98) rfl)
  have fc_sl_Session_floor : (Fc.sl 1134 "floor" 1 1136).ok K = true := S.fc _ (List.mem_of_getElem? (i := 99) rfl)
  have fc_sl_Session_given : (Fc.sl 1134 "given" 2 1137).ok K = true := S.fc _ (List.mem_of_getElem? (i := 100) rfl)
  have fc_sl_Session_notes : (Fc.sl 1134 "notes" 3 1138).ok K = true := S.fc _ (List.mem_of_getElem? (i := 101) rfl)
  have fc_sl_Session_source_asker : (Fc.sl 1134 "source_asker" 4 1139).ok K = true := S.fc _ (List.mem_of_getElem? (i := 102) rfl)
  have fc_meth_Session___init__ : (Fc.meth 1134 "__init__" 1002).ok K = true := S.fc _ (List.mem_of_getElem? (i := 103) rfl)
  have fc_prop_Session_asker : (Fc.prop 1134 "asker" 1010 1009).ok K = true := S.fc _ (List.mem_of_getElem? (i := 104) rfl)
  have fc_prop_Session_now : (Fc.prop 1134 "now" 1018 1017).ok K = true := S.fc _ (List.mem_of_getElem? (i := 105) rfl)
  have fc_prop_Session_answer : (Fc.prop 1134 "answer" 1026 1025).ok K = true := S.fc _ (List.mem_of_getElem? (i := 106) rfl)
  have fc_prop_Session_journal : (Fc.prop 1134 "journal" 1034 1033).ok K = true := S.fc _ (List.mem_of_getElem? (i := 107) rfl)
  have fc_meth_Session___len__ : (Fc.meth 1134 "__len__" 1041).ok K = true := S.fc _ (List.mem_of_getElem? (i := 108) rfl)
  have fc_meth_Session___contains__ : (Fc.meth 1134 "__contains__" 1055).ok K = true := S.fc _ (List.mem_of_getElem? (i := 109) rfl)
  have fc_meth_Session___getitem__ : (Fc.meth 1134 "__getitem__" 1062).ok K = true := S.fc _ (List.mem_of_getElem? (i := 110) rfl)
  have fc_meth_Session___setitem__ : (Fc.meth 1134 "__setitem__" 1069).ok K = true := S.fc _ (List.mem_of_getElem? (i := 111) rfl)
  have fc_meth_Session___iadd__ : (Fc.meth 1134 "__iadd__" 1076).ok K = true := S.fc _ (List.mem_of_getElem? (i := 112) rfl)
  have fc_meth_Session___isub__ : (Fc.meth 1134 "__isub__" 1083).ok K = true := S.fc _ (List.mem_of_getElem? (i := 113) rfl)
  have fc_meth_Session_go : (Fc.meth 1134 "go" 1090).ok K = true := S.fc _ (List.mem_of_getElem? (i := 114) rfl)
  have fc_meth_Session_put : (Fc.meth 1134 "put" 1097).ok K = true := S.fc _ (List.mem_of_getElem? (i := 115) rfl)
  have fc_meth_Session_undo : (Fc.meth 1134 "undo" 1104).ok K = true := S.fc _ (List.mem_of_getElem? (i := 116) rfl)
  have fc_meth_Session_branch : (Fc.meth 1134 "branch" 1111).ok K = true := S.fc _ (List.mem_of_getElem? (i := 117) rfl)
  have fc_meth_Session_without : (Fc.meth 1134 "without" 1118).ok K = true := S.fc _ (List.mem_of_getElem? (i := 118) rfl)
  have fc_meth_Session_attempt : (Fc.meth 1134 "attempt" 1125).ok K = true := S.fc _ (List.mem_of_getElem? (i := 119) rfl)
  have fc_meth_Session_tried : (Fc.meth 1134 "tried" 1130).ok K = true := S.fc _ (List.mem_of_getElem? (i := 120) rfl)
  have fc_glo_Block : (Fc.glo "Block" 1174).ok K = true := S.fc _ (List.mem_of_getElem? (i := 121) rfl)
  have fc_kl_Block : (Fc.kl 1174).ok K = true := S.fc _ (List.mem_of_getElem? (i := 122) rfl)
  have fc_mk_Block : (Fc.mk 1174 1156).ok K = true := S.fc _ (List.mem_of_getElem? (i := 123) rfl)
  have fc_sl_Block_away : (Fc.sl 1174 "away" 0 1175).ok K = true := S.fc _ (List.mem_of_getElem? (i := 124) rfl)
  have fc_sl_Block_before : (Fc.sl 1174 "before" 1 1176).ok K = true := S.fc _ (List.mem_of_getElem? (i := 125) rfl)
  have fc_sl_Block_below : (Fc.sl 1174 "below" 2 1177).ok K = true := S.fc _ (List.mem_of_getElem? (i := 126) rfl)
  have fc_sl_Block_held : (Fc.sl 1174 "held" 3 1178).ok K = true := S.fc _ (List.mem_of_getElem? (i := 127) rfl)
  have fc_sl_Block_kept_given : (Fc.sl 1174 "kept_given" 4 1179).ok K = true := S.fc _ (List.mem_of_getElem? (i := 128) rfl)
  have fc_sl_Block_kept_notes : (Fc.sl 1174 "kept_notes" 5 1180).ok K = true := S.fc _ (List.mem_of_getElem? (i := 129) rfl)
  have fc_meth_Block___init__ : (Fc.meth 1174 "__init__" 1156).ok K = true := S.fc _ (List.mem_of_getElem? (i := 130) rfl)
  have fc_meth_Block___enter__ : (Fc.meth 1174 "__enter__" 1163).ok K = true := S.fc _ (List.mem_of_getElem? (i := 131) rfl)
  have fc_meth_Block___exit__ : (Fc.meth 1174 "__exit__" 1170).ok K = true := S.fc _ (List.mem_of_getElem? (i := 132) rfl)
  have fc_glo__law_cell_at : (Fc.glo "_law_cell_at" 1189).ok K = true := S.fc _ (List.mem_of_getElem? (i := 133) rfl)
  have fc_glo__law_draw : (Fc.glo "_law_draw" 1196).ok K = true := S.fc _ (List.mem_of_getElem? (i := 134) rfl)
  have fc_glo__law_number : (Fc.glo "_law_number" 1203).ok K = true := S.fc _ (List.mem_of_getElem? (i := 135) rfl)
  have fc_glo__law_next : (Fc.glo "_law_next" 1210).ok K = true := S.fc _ (List.mem_of_getElem? (i := 136) rfl)
  have fc_glo__law_pick : (Fc.glo "_law_pick" 1217).ok K = true := S.fc _ (List.mem_of_getElem? (i := 137) rfl)
  have fc_glo__law_field : (Fc.glo "_law_field" 1224).ok K = true := S.fc _ (List.mem_of_getElem? (i := 138) rfl)
  have fc_glo__law_spared : (Fc.glo "_law_spared" 1229).ok K = true := S.fc _ (List.mem_of_getElem? (i := 139) rfl)
  have fc_glo__law_kinds : (Fc.glo "_law_kinds" 1236).ok K = true := S.fc _ (List.mem_of_getElem? (i := 140) rfl)
  have fc_glo__law_value : (Fc.glo "_law_value" 1241).ok K = true := S.fc _ (List.mem_of_getElem? (i := 141) rfl)
  have fc_glo__law_objects : (Fc.glo "_law_objects" 1246).ok K = true := S.fc _ (List.mem_of_getElem? (i := 142) rfl)
  have fc_glo__law_parts : (Fc.glo "_law_parts" 1253).ok K = true := S.fc _ (List.mem_of_getElem? (i := 143) rfl)
  have fc_glo__law_question : (Fc.glo "_law_question" 1258).ok K = true := S.fc _ (List.mem_of_getElem? (i := 144) rfl)
  have fc_glo__law_field_at : (Fc.glo "_law_field_at" 1263).ok K = true := S.fc _ (List.mem_of_getElem? (i := 145) rfl)
  have fc_glo__law_object : (Fc.glo "_law_object" 1270).ok K = true := S.fc _ (List.mem_of_getElem? (i := 146) rfl)
  have fc_glo__law_given : (Fc.glo "_law_given" 1275).ok K = true := S.fc _ (List.mem_of_getElem? (i := 147) rfl)
  have fc_glo__law_run : (Fc.glo "_law_run" 1282).ok K = true := S.fc _ (List.mem_of_getElem? (i := 148) rfl)
  have fc_glo__law_cells : (Fc.glo "_law_cells" 1287).ok K = true := S.fc _ (List.mem_of_getElem? (i := 149) rfl)
  have fc_glo__law_less : (Fc.glo "_law_less" 1292).ok K = true := S.fc _ (List.mem_of_getElem? (i := 150) rfl)
  have fc_glo__law_is : (Fc.glo "_law_is" 1297).ok K = true := S.fc _ (List.mem_of_getElem? (i := 151) rfl)
  have fc_glo__law_some : (Fc.glo "_law_some" 1302).ok K = true := S.fc _ (List.mem_of_getElem? (i := 152) rfl)
  have fc_glo__law_put : (Fc.glo "_law_put" 1309).ok K = true := S.fc _ (List.mem_of_getElem? (i := 153) rfl)
  have fc_glo__law_undo : (Fc.glo "_law_undo" 1316).ok K = true := S.fc _ (List.mem_of_getElem? (i := 154) rfl)
  have fc_glo__law_tried : (Fc.glo "_law_tried" 1321).ok K = true := S.fc _ (List.mem_of_getElem? (i := 155) rfl)
  have fc_glo__law_deed : (Fc.glo "_law_deed" 1328).ok K = true := S.fc _ (List.mem_of_getElem? (i := 156) rfl)
  have fc_glo__law_block : (Fc.glo "_law_block" 1335).ok K = true := S.fc _ (List.mem_of_getElem? (i := 157) rfl)
  have fc_glo__law_turn : (Fc.glo "_law_turn" 1342).ok K = true := S.fc _ (List.mem_of_getElem? (i := 158) rfl)
  have fc_glo_law : (Fc.glo "law" 1349).ok K = true := S.fc _ (List.mem_of_getElem? (i := 159) rfl)
  have fc_free_isinstance : (Fc.free "isinstance").ok K = true := S.fc _ (List.mem_of_getElem? (i := 160) rfl)
  have fc_free_len : (Fc.free "len").ok K = true := S.fc _ (List.mem_of_getElem? (i := 161) rfl)
  have fc_free_all : (Fc.free "all").ok K = true := S.fc _ (List.mem_of_getElem? (i := 162) rfl)
  have fc_free_tuple : (Fc.free "tuple").ok K = true := S.fc _ (List.mem_of_getElem? (i := 163) rfl)
  have fc_free_list : (Fc.free "list").ok K = true := S.fc _ (List.mem_of_getElem? (i := 164) rfl)
  have fc_free_int : (Fc.free "int").ok K = true := S.fc _ (List.mem_of_getElem? (i := 165) rfl)
  have fc_free_str : (Fc.free "str").ok K = true := S.fc _ (List.mem_of_getElem? (i := 166) rfl)
  have fc_free_bool : (Fc.free "bool").ok K = true := S.fc _ (List.mem_of_getElem? (i := 167) rfl)
  have fc_free_dict : (Fc.free "dict").ok K = true := S.fc _ (List.mem_of_getElem? (i := 168) rfl)
  have fc_free_range : (Fc.free "range").ok K = true := S.fc _ (List.mem_of_getElem? (i := 169) rfl)
  have fc_free_enumerate : (Fc.free "enumerate").ok K = true := S.fc _ (List.mem_of_getElem? (i := 170) rfl)
  have fc_free_zip : (Fc.free "zip").ok K = true := S.fc _ (List.mem_of_getElem? (i := 171) rfl)
  have fc_int_MOST_LEVELS : (Fc.int "MOST_LEVELS" 3).ok K = true := S.fc _ (List.mem_of_getElem? (i := 172) rfl)
  have fc_int_MOST_PARTS : (Fc.int "MOST_PARTS" 8).ok K = true := S.fc _ (List.mem_of_getElem? (i := 173) rfl)
  have fc_int_MOST_OBJECT : (Fc.int "MOST_OBJECT" 5).ok K = true := S.fc _ (List.mem_of_getElem? (i := 174) rfl)
  have fc_str_NAMES : (Fc.str "NAMES" "abcdef").ok K = true := S.fc _ (List.mem_of_getElem? (i := 175) rfl)
  have fc_tup_FORMS : (Fc.tup "FORMS" 218 ["one", "all", "gaps", "rest"]).ok K = true := S.fc _ (List.mem_of_getElem? (i := 176) rfl)
  have fc_tup_MARKS : (Fc.tup "MARKS" 219 ["must", "may"]).ok K = true := S.fc _ (List.mem_of_getElem? (i := 177) rfl)
  have fc_ne_Question : (Fc.ne 434).ok K = true := S.fc _ (List.mem_of_getElem? (i := 178) rfl)
  have fc_ne_Store : (Fc.ne 856).ok K = true := S.fc _ (List.mem_of_getElem? (i := 179) rfl)
  have fc_sf_Faults : (Fc.sf 743).ok K = true := S.fc _ (List.mem_of_getElem? (i := 180) rfl)
  have fc_sf_Session : (Fc.sf 1134).ok K = true := S.fc _ (List.mem_of_getElem? (i := 181) rfl)
  have fc_ns_Session : (Fc.ns 1134).ok K = true := S.fc _ (List.mem_of_getElem? (i := 182) rfl)
  have fc_bt_Faults : (Fc.bt 743).ok K = true := S.fc _ (List.mem_of_getElem? (i := 183) rfl)
  have fc_glo_BadCell : (Fc.glo "BadCell" 98).ok K = true := S.fc _ (List.mem_of_getElem? (i := 184) rfl)
  have fc_exn_BadCell : (Fc.exn 98).ok K = true := S.fc _ (List.mem_of_getElem? (i := 185) rfl)
  have fc_glo_NothingDone : (Fc.glo "NothingDone" 215).ok K = true := S.fc _ (List.mem_of_getElem? (i := 186) rfl)
  have fc_exn_NothingDone : (Fc.exn 215).ok K = true := S.fc _ (List.mem_of_getElem? (i := 187) rfl)
  have E_is_number : ∃ fd, Fd1 K "is_number" "is_number" s_is_number (V.non) 227 fd ∧ fd.code = .ref 226 := S.fn f_is_number (List.mem_of_getElem? (i := 0) rfl)
  obtain ⟨fd_is_number, F_is_number, -⟩ := E_is_number
  have E_is_name : ∃ fd, Fd K "is_name" "is_name" s_is_name 234 fd ∧ fd.code = .ref 233 := S.fn f_is_name (List.mem_of_getElem? (i := 1) rfl)
  obtain ⟨fd_is_name, F_is_name, -⟩ := E_is_name
  have E_is_word : ∃ fd, Fd K "is_word" "is_word" s_is_word 241 fd ∧ fd.code = .ref 240 := S.fn f_is_word (List.mem_of_getElem? (i := 2) rfl)
  obtain ⟨fd_is_word, F_is_word, -⟩ := E_is_word
  have E_is_field : ∃ fd, Fd K "is_field" "is_field" s_is_field 248 fd ∧ fd.code = .ref 247 := S.fn f_is_field (List.mem_of_getElem? (i := 3) rfl)
  obtain ⟨fd_is_field, F_is_field, -⟩ := E_is_field
  have E_is_spare : ∃ fd, Fd K "is_spare" "is_spare" s_is_spare 255 fd ∧ fd.code = .ref 254 := S.fn f_is_spare (List.mem_of_getElem? (i := 4) rfl)
  obtain ⟨fd_is_spare, F_is_spare, -⟩ := E_is_spare
  have E_is_kind : ∃ fd, Fd K "is_kind" "is_kind" s_is_kind 260 fd ∧ fd.code = .ref 259 := S.fn f_is_kind (List.mem_of_getElem? (i := 5) rfl)
  obtain ⟨fd_is_kind, F_is_kind, -⟩ := E_is_kind
  have E_Schema_xinit : ∃ fd, Fd K "__init__" "Schema.__init__" s_Schema_xinit 273 fd ∧ fd.code = .ref 272 := S.fn f_Schema_xinit (List.mem_of_getElem? (i := 6) rfl)
  obtain ⟨fd_Schema_xinit, F_Schema_xinit, -⟩ := E_Schema_xinit
  have E_Schema_kinds : ∃ fd, Fd K "kinds" "Schema.kinds" s_Schema_kinds 280 fd ∧ fd.code = .ref 279 := S.fn f_Schema_kinds (List.mem_of_getElem? (i := 7) rfl)
  obtain ⟨fd_Schema_kinds, F_Schema_kinds, -⟩ := E_Schema_kinds
  have E_Schema_xlen : ∃ fd, Fd K "__len__" "Schema.__len__" s_Schema_xlen 288 fd ∧ fd.code = .ref 287 := S.fn f_Schema_xlen (List.mem_of_getElem? (i := 8) rfl)
  obtain ⟨fd_Schema_xlen, F_Schema_xlen, -⟩ := E_Schema_xlen
  have E_Schema_xcontains : ∃ fd, Fd K "__contains__" "Schema.__contains__" s_Schema_xcontains 293 fd ∧ fd.code = .ref 292 := S.fn f_Schema_xcontains (List.mem_of_getElem? (i := 9) rfl)
  obtain ⟨fd_Schema_xcontains, F_Schema_xcontains, -⟩ := E_Schema_xcontains
  have E_Schema_xgetitem : ∃ fd, Fd K "__getitem__" "Schema.__getitem__" s_Schema_xgetitem 305 fd ∧ fd.code = .ref 304 := S.fn f_Schema_xgetitem (List.mem_of_getElem? (i := 10) rfl)
  obtain ⟨fd_Schema_xgetitem, F_Schema_xgetitem, -⟩ := E_Schema_xgetitem
  have E_Schema_xeq : ∃ fd, Fd K "__eq__" "Schema.__eq__" s_Schema_xeq 317 fd ∧ fd.code = .ref 316 := S.fn f_Schema_xeq (List.mem_of_getElem? (i := 11) rfl)
  obtain ⟨fd_Schema_xeq, F_Schema_xeq, -⟩ := E_Schema_xeq
  have E_check_schema : ∃ fd, Fd K "check_schema" "check_schema" s_check_schema 338 fd ∧ fd.code = .ref 337 := S.fn f_check_schema (List.mem_of_getElem? (i := 12) rfl)
  obtain ⟨fd_check_schema, F_check_schema, -⟩ := E_check_schema
  have E_is_part : ∃ fd, Fd K "is_part" "is_part" s_is_part 345 fd ∧ fd.code = .ref 344 := S.fn f_is_part (List.mem_of_getElem? (i := 13) rfl)
  obtain ⟨fd_is_part, F_is_part, -⟩ := E_is_part
  have E_levels_of : ∃ fd, Fd K "levels_of" "levels_of" s_levels_of 352 fd ∧ fd.code = .ref 351 := S.fn f_levels_of (List.mem_of_getElem? (i := 14) rfl)
  obtain ⟨fd_levels_of, F_levels_of, -⟩ := E_levels_of
  have E_names_in : ∃ fd, Fd K "names_in" "names_in" s_names_in 359 fd ∧ fd.code = .ref 358 := S.fn f_names_in (List.mem_of_getElem? (i := 15) rfl)
  obtain ⟨fd_names_in, F_names_in, -⟩ := E_names_in
  have E_Question_xinit : ∃ fd, Fd K "__init__" "Question.__init__" s_Question_xinit 372 fd ∧ fd.code = .ref 371 := S.fn f_Question_xinit (List.mem_of_getElem? (i := 16) rfl)
  obtain ⟨fd_Question_xinit, F_Question_xinit, -⟩ := E_Question_xinit
  have E_Question_parts : ∃ fd, Fd K "parts" "Question.parts" s_Question_parts 379 fd ∧ fd.code = .ref 378 := S.fn f_Question_parts (List.mem_of_getElem? (i := 17) rfl)
  obtain ⟨fd_Question_parts, F_Question_parts, -⟩ := E_Question_parts
  have E_Question_xlen : ∃ fd, Fd K "__len__" "Question.__len__" s_Question_xlen 387 fd ∧ fd.code = .ref 386 := S.fn f_Question_xlen (List.mem_of_getElem? (i := 18) rfl)
  obtain ⟨fd_Question_xlen, F_Question_xlen, -⟩ := E_Question_xlen
  have E_Question_xeq : ∃ fd, Fd K "__eq__" "Question.__eq__" s_Question_xeq 430 fd ∧ fd.code = .ref 429 := S.fn f_Question_xeq (List.mem_of_getElem? (i := 19) rfl)
  obtain ⟨fd_Question_xeq, F_Question_xeq, -⟩ := E_Question_xeq
  have E_check_question : ∃ fd, Fd K "check_question" "check_question" s_check_question 458 fd ∧ fd.code = .ref 457 := S.fn f_check_question (List.mem_of_getElem? (i := 20) rfl)
  obtain ⟨fd_check_question, F_check_question, -⟩ := E_check_question
  have E_unfit : ∃ fd, FunD K "unfit" "unfit" (defArgs s_unfit) (defBody s_unfit) (defScope s_unfit) [] [("kind", V.int 0)] 466 fd ∧ fd.code = .ref 465 := S.fn f_unfit (List.mem_of_getElem? (i := 21) rfl)
  obtain ⟨fd_unfit, F_unfit, -⟩ := E_unfit
  have E_unfit_in : ∃ fd, Fd K "unfit_in" "unfit_in" s_unfit_in 473 fd ∧ fd.code = .ref 472 := S.fn f_unfit_in (List.mem_of_getElem? (i := 22) rfl)
  obtain ⟨fd_unfit_in, F_unfit_in, -⟩ := E_unfit_in
  have E_is_data : ∃ fd, Fd K "is_data" "is_data" s_is_data 478 fd ∧ fd.code = .ref 477 := S.fn f_is_data (List.mem_of_getElem? (i := 23) rfl)
  obtain ⟨fd_is_data, F_is_data, -⟩ := E_is_data
  have E_is_item : ∃ fd, Fd K "is_item" "is_item" s_is_item 485 fd ∧ fd.code = .ref 484 := S.fn f_is_item (List.mem_of_getElem? (i := 24) rfl)
  obtain ⟨fd_is_item, F_is_item, -⟩ := E_is_item
  have E_is_left : ∃ fd, Fd K "is_left" "is_left" s_is_left 490 fd ∧ fd.code = .ref 489 := S.fn f_is_left (List.mem_of_getElem? (i := 25) rfl)
  obtain ⟨fd_is_left, F_is_left, -⟩ := E_is_left
  have E_copied : ∃ fd, Fd K "copied" "copied" s_copied 495 fd ∧ fd.code = .ref 494 := S.fn f_copied (List.mem_of_getElem? (i := 26) rfl)
  obtain ⟨fd_copied, F_copied, -⟩ := E_copied
  have E_Answer_xinit : ∃ fd, Fd K "__init__" "Answer.__init__" s_Answer_xinit 527 fd ∧ fd.code = .ref 526 := S.fn f_Answer_xinit (List.mem_of_getElem? (i := 27) rfl)
  obtain ⟨fd_Answer_xinit, F_Answer_xinit, -⟩ := E_Answer_xinit
  have E_Answer_data : ∃ fd, Fd K "data" "Answer.data" s_Answer_data 534 fd ∧ fd.code = .ref 533 := S.fn f_Answer_data (List.mem_of_getElem? (i := 28) rfl)
  obtain ⟨fd_Answer_data, F_Answer_data, -⟩ := E_Answer_data
  have E_is_cell : ∃ fd, Fd K "is_cell" "is_cell" s_is_cell 612 fd ∧ fd.code = .ref 611 := S.fn f_is_cell (List.mem_of_getElem? (i := 29) rfl)
  obtain ⟨fd_is_cell, F_is_cell, -⟩ := E_is_cell
  have E_all_cells : ∃ fd, Fd K "all_cells" "all_cells" s_all_cells 617 fd ∧ fd.code = .ref 616 := S.fn f_all_cells (List.mem_of_getElem? (i := 30) rfl)
  obtain ⟨fd_all_cells, F_all_cells, -⟩ := E_all_cells
  have E_Faults_xinit : ∃ fd, Fd K "__init__" "Faults.__init__" s_Faults_xinit 630 fd ∧ fd.code = .ref 629 := S.fn f_Faults_xinit (List.mem_of_getElem? (i := 31) rfl)
  obtain ⟨fd_Faults_xinit, F_Faults_xinit, -⟩ := E_Faults_xinit
  have E_Faults_cells : ∃ fd, Fd K "cells" "Faults.cells" s_Faults_cells 637 fd ∧ fd.code = .ref 636 := S.fn f_Faults_cells (List.mem_of_getElem? (i := 32) rfl)
  obtain ⟨fd_Faults_cells, F_Faults_cells, -⟩ := E_Faults_cells
  have E_Faults_xlen : ∃ fd, Fd K "__len__" "Faults.__len__" s_Faults_xlen 645 fd ∧ fd.code = .ref 644 := S.fn f_Faults_xlen (List.mem_of_getElem? (i := 33) rfl)
  obtain ⟨fd_Faults_xlen, F_Faults_xlen, -⟩ := E_Faults_xlen
  have E_Faults_xcontains : ∃ fd, Fd K "__contains__" "Faults.__contains__" s_Faults_xcontains 652 fd ∧ fd.code = .ref 651 := S.fn f_Faults_xcontains (List.mem_of_getElem? (i := 34) rfl)
  obtain ⟨fd_Faults_xcontains, F_Faults_xcontains, -⟩ := E_Faults_xcontains
  have E_Faults_xor : ∃ fd, Fd K "__or__" "Faults.__or__" s_Faults_xor 659 fd ∧ fd.code = .ref 658 := S.fn f_Faults_xor (List.mem_of_getElem? (i := 35) rfl)
  obtain ⟨fd_Faults_xor, F_Faults_xor, -⟩ := E_Faults_xor
  have E_Faults_xsub : ∃ fd, Fd K "__sub__" "Faults.__sub__" s_Faults_xsub 669 fd ∧ fd.code = .ref 668 := S.fn f_Faults_xsub (List.mem_of_getElem? (i := 36) rfl)
  obtain ⟨fd_Faults_xsub, F_Faults_xsub, -⟩ := E_Faults_xsub
  have E_Faults_xlshift : ∃ fd, Fd K "__lshift__" "Faults.__lshift__" s_Faults_xlshift 695 fd ∧ fd.code = .ref 694 := S.fn f_Faults_xlshift (List.mem_of_getElem? (i := 37) rfl)
  obtain ⟨fd_Faults_xlshift, F_Faults_xlshift, -⟩ := E_Faults_xlshift
  have E_Faults_xeq : ∃ fd, Fd K "__eq__" "Faults.__eq__" s_Faults_xeq 712 fd ∧ fd.code = .ref 711 := S.fn f_Faults_xeq (List.mem_of_getElem? (i := 38) rfl)
  obtain ⟨fd_Faults_xeq, F_Faults_xeq, -⟩ := E_Faults_xeq
  have E_Faults_none : ∃ fd, Fd K "none" "Faults.none" s_Faults_none 736 fd ∧ fd.code = .ref 735 := S.fn f_Faults_none (List.mem_of_getElem? (i := 39) rfl)
  obtain ⟨fd_Faults_none, F_Faults_none, -⟩ := E_Faults_none
  have E_check_faults : ∃ fd, Fd K "check_faults" "check_faults" s_check_faults 758 fd ∧ fd.code = .ref 757 := S.fn f_check_faults (List.mem_of_getElem? (i := 40) rfl)
  obtain ⟨fd_check_faults, F_check_faults, -⟩ := E_check_faults
  have E_kind_of : ∃ fd, Fd K "kind_of" "kind_of" s_kind_of 765 fd ∧ fd.code = .ref 764 := S.fn f_kind_of (List.mem_of_getElem? (i := 41) rfl)
  obtain ⟨fd_kind_of, F_kind_of, -⟩ := E_kind_of
  have E_is_single : ∃ fd, Fd K "is_single" "is_single" s_is_single 772 fd ∧ fd.code = .ref 771 := S.fn f_is_single (List.mem_of_getElem? (i := 42) rfl)
  obtain ⟨fd_is_single, F_is_single, -⟩ := E_is_single
  have E_is_value : ∃ fd, Fd K "is_value" "is_value" s_is_value 777 fd ∧ fd.code = .ref 776 := S.fn f_is_value (List.mem_of_getElem? (i := 43) rfl)
  obtain ⟨fd_is_value, F_is_value, -⟩ := E_is_value
  have E_is_object : ∃ fd, Fd K "is_object" "is_object" s_is_object 782 fd ∧ fd.code = .ref 781 := S.fn f_is_object (List.mem_of_getElem? (i := 44) rfl)
  obtain ⟨fd_is_object, F_is_object, -⟩ := E_is_object
  have E_Store_xinit : ∃ fd, Fd K "__init__" "Store.__init__" s_Store_xinit 795 fd ∧ fd.code = .ref 794 := S.fn f_Store_xinit (List.mem_of_getElem? (i := 45) rfl)
  obtain ⟨fd_Store_xinit, F_Store_xinit, -⟩ := E_Store_xinit
  have E_Store_schema : ∃ fd, Fd K "schema" "Store.schema" s_Store_schema 802 fd ∧ fd.code = .ref 801 := S.fn f_Store_schema (List.mem_of_getElem? (i := 46) rfl)
  obtain ⟨fd_Store_schema, F_Store_schema, -⟩ := E_Store_schema
  have E_Store_objects : ∃ fd, Fd K "objects" "Store.objects" s_Store_objects 810 fd ∧ fd.code = .ref 809 := S.fn f_Store_objects (List.mem_of_getElem? (i := 47) rfl)
  obtain ⟨fd_Store_objects, F_Store_objects, -⟩ := E_Store_objects
  have E_Store_cells : ∃ fd, Fd K "cells" "Store.cells" s_Store_cells 816 fd ∧ fd.code = .ref 815 := S.fn f_Store_cells (List.mem_of_getElem? (i := 48) rfl)
  obtain ⟨fd_Store_cells, F_Store_cells, -⟩ := E_Store_cells
  have E_Store_xcontains : ∃ fd, Fd K "__contains__" "Store.__contains__" s_Store_xcontains 831 fd ∧ fd.code = .ref 830 := S.fn f_Store_xcontains (List.mem_of_getElem? (i := 49) rfl)
  obtain ⟨fd_Store_xcontains, F_Store_xcontains, -⟩ := E_Store_xcontains
  have E_Store_xgetitem : ∃ fd, Fd K "__getitem__" "Store.__getitem__" s_Store_xgetitem 845 fd ∧ fd.code = .ref 844 := S.fn f_Store_xgetitem (List.mem_of_getElem? (i := 50) rfl)
  obtain ⟨fd_Store_xgetitem, F_Store_xgetitem, -⟩ := E_Store_xgetitem
  have E_Store_xeq : ∃ fd, Fd K "__eq__" "Store.__eq__" s_Store_xeq 852 fd ∧ fd.code = .ref 851 := S.fn f_Store_xeq (List.mem_of_getElem? (i := 51) rfl)
  obtain ⟨fd_Store_xeq, F_Store_xeq, -⟩ := E_Store_xeq
  have E_check_store : ∃ fd, Fd K "check_store" "check_store" s_check_store 868 fd ∧ fd.code = .ref 867 := S.fn f_check_store (List.mem_of_getElem? (i := 52) rfl)
  obtain ⟨fd_check_store, F_check_store, -⟩ := E_check_store
  have E_Walk_xinit : ∃ fd, Fd K "__init__" "Walk.__init__" s_Walk_xinit 883 fd ∧ fd.code = .ref 882 := S.fn f_Walk_xinit (List.mem_of_getElem? (i := 53) rfl)
  obtain ⟨fd_Walk_xinit, F_Walk_xinit, -⟩ := E_Walk_xinit
  have E_Walk_ask_object : ∃ fd, Fd K "ask_object" "Walk.ask_object" s_Walk_ask_object 890 fd ∧ fd.code = .ref 889 := S.fn f_Walk_ask_object (List.mem_of_getElem? (i := 54) rfl)
  obtain ⟨fd_Walk_ask_object, F_Walk_ask_object, -⟩ := E_Walk_ask_object
  have E_Walk_ask_field : ∃ fd, Fd K "ask_field" "Walk.ask_field" s_Walk_ask_field 897 fd ∧ fd.code = .ref 896 := S.fn f_Walk_ask_field (List.mem_of_getElem? (i := 55) rfl)
  obtain ⟨fd_Walk_ask_field, F_Walk_ask_field, -⟩ := E_Walk_ask_field
  have E_Walk_ask_list : ∃ fd, Fd K "ask_list" "Walk.ask_list" s_Walk_ask_list 904 fd ∧ fd.code = .ref 903 := S.fn f_Walk_ask_list (List.mem_of_getElem? (i := 56) rfl)
  obtain ⟨fd_Walk_ask_list, F_Walk_ask_list, -⟩ := E_Walk_ask_list
  have E_Asker_xinit : ∃ fd, Fd K "__init__" "Asker.__init__" s_Asker_xinit 928 fd ∧ fd.code = .ref 927 := S.fn f_Asker_xinit (List.mem_of_getElem? (i := 57) rfl)
  obtain ⟨fd_Asker_xinit, F_Asker_xinit, -⟩ := E_Asker_xinit
  have E_Asker_store : ∃ fd, Fd K "store" "Asker.store" s_Asker_store 935 fd ∧ fd.code = .ref 934 := S.fn f_Asker_store (List.mem_of_getElem? (i := 58) rfl)
  obtain ⟨fd_Asker_store, F_Asker_store, -⟩ := E_Asker_store
  have E_Asker_question : ∃ fd, Fd K "question" "Asker.question" s_Asker_question 943 fd ∧ fd.code = .ref 942 := S.fn f_Asker_question (List.mem_of_getElem? (i := 59) rfl)
  obtain ⟨fd_Asker_question, F_Asker_question, -⟩ := E_Asker_question
  have E_Asker_xcall : ∃ fd, Fd K "__call__" "Asker.__call__" s_Asker_xcall 951 fd ∧ fd.code = .ref 950 := S.fn f_Asker_xcall (List.mem_of_getElem? (i := 60) rfl)
  obtain ⟨fd_Asker_xcall, F_Asker_xcall, -⟩ := E_Asker_xcall
  have E_check_asker : ∃ fd, Fd K "check_asker" "check_asker" s_check_asker 987 fd ∧ fd.code = .ref 986 := S.fn f_check_asker (List.mem_of_getElem? (i := 61) rfl)
  obtain ⟨fd_check_asker, F_check_asker, -⟩ := E_check_asker
  have E_Session_xinit : ∃ fd, Fd K "__init__" "Session.__init__" s_Session_xinit 1002 fd ∧ fd.code = .ref 1001 := S.fn f_Session_xinit (List.mem_of_getElem? (i := 62) rfl)
  obtain ⟨fd_Session_xinit, F_Session_xinit, -⟩ := E_Session_xinit
  have E_Session_asker : ∃ fd, Fd K "asker" "Session.asker" s_Session_asker 1009 fd ∧ fd.code = .ref 1008 := S.fn f_Session_asker (List.mem_of_getElem? (i := 63) rfl)
  obtain ⟨fd_Session_asker, F_Session_asker, -⟩ := E_Session_asker
  have E_Session_now : ∃ fd, Fd K "now" "Session.now" s_Session_now 1017 fd ∧ fd.code = .ref 1016 := S.fn f_Session_now (List.mem_of_getElem? (i := 64) rfl)
  obtain ⟨fd_Session_now, F_Session_now, -⟩ := E_Session_now
  have E_Session_answer : ∃ fd, Fd K "answer" "Session.answer" s_Session_answer 1025 fd ∧ fd.code = .ref 1024 := S.fn f_Session_answer (List.mem_of_getElem? (i := 65) rfl)
  obtain ⟨fd_Session_answer, F_Session_answer, -⟩ := E_Session_answer
  have E_Session_journal : ∃ fd, Fd K "journal" "Session.journal" s_Session_journal 1033 fd ∧ fd.code = .ref 1032 := S.fn f_Session_journal (List.mem_of_getElem? (i := 66) rfl)
  obtain ⟨fd_Session_journal, F_Session_journal, -⟩ := E_Session_journal
  have E_Session_xlen : ∃ fd, Fd K "__len__" "Session.__len__" s_Session_xlen 1041 fd ∧ fd.code = .ref 1040 := S.fn f_Session_xlen (List.mem_of_getElem? (i := 67) rfl)
  obtain ⟨fd_Session_xlen, F_Session_xlen, -⟩ := E_Session_xlen
  have E_Session_xcontains : ∃ fd, Fd K "__contains__" "Session.__contains__" s_Session_xcontains 1055 fd ∧ fd.code = .ref 1054 := S.fn f_Session_xcontains (List.mem_of_getElem? (i := 68) rfl)
  obtain ⟨fd_Session_xcontains, F_Session_xcontains, -⟩ := E_Session_xcontains
  have E_Session_xgetitem : ∃ fd, Fd K "__getitem__" "Session.__getitem__" s_Session_xgetitem 1062 fd ∧ fd.code = .ref 1061 := S.fn f_Session_xgetitem (List.mem_of_getElem? (i := 69) rfl)
  obtain ⟨fd_Session_xgetitem, F_Session_xgetitem, -⟩ := E_Session_xgetitem
  have E_Session_xsetitem : ∃ fd, Fd K "__setitem__" "Session.__setitem__" s_Session_xsetitem 1069 fd ∧ fd.code = .ref 1068 := S.fn f_Session_xsetitem (List.mem_of_getElem? (i := 70) rfl)
  obtain ⟨fd_Session_xsetitem, F_Session_xsetitem, -⟩ := E_Session_xsetitem
  have E_Session_xiadd : ∃ fd, Fd K "__iadd__" "Session.__iadd__" s_Session_xiadd 1076 fd ∧ fd.code = .ref 1075 := S.fn f_Session_xiadd (List.mem_of_getElem? (i := 71) rfl)
  obtain ⟨fd_Session_xiadd, F_Session_xiadd, -⟩ := E_Session_xiadd
  have E_Session_xisub : ∃ fd, Fd K "__isub__" "Session.__isub__" s_Session_xisub 1083 fd ∧ fd.code = .ref 1082 := S.fn f_Session_xisub (List.mem_of_getElem? (i := 72) rfl)
  obtain ⟨fd_Session_xisub, F_Session_xisub, -⟩ := E_Session_xisub
  have E_Session_go : ∃ fd, Fd K "go" "Session.go" s_Session_go 1090 fd ∧ fd.code = .ref 1089 := S.fn f_Session_go (List.mem_of_getElem? (i := 73) rfl)
  obtain ⟨fd_Session_go, F_Session_go, -⟩ := E_Session_go
  have E_Session_put : ∃ fd, Fd K "put" "Session.put" s_Session_put 1097 fd ∧ fd.code = .ref 1096 := S.fn f_Session_put (List.mem_of_getElem? (i := 74) rfl)
  obtain ⟨fd_Session_put, F_Session_put, -⟩ := E_Session_put
  have E_Session_undo : ∃ fd, Fd K "undo" "Session.undo" s_Session_undo 1104 fd ∧ fd.code = .ref 1103 := S.fn f_Session_undo (List.mem_of_getElem? (i := 75) rfl)
  obtain ⟨fd_Session_undo, F_Session_undo, -⟩ := E_Session_undo
  have E_Session_branch : ∃ fd, Fd K "branch" "Session.branch" s_Session_branch 1111 fd ∧ fd.code = .ref 1110 := S.fn f_Session_branch (List.mem_of_getElem? (i := 76) rfl)
  obtain ⟨fd_Session_branch, F_Session_branch, -⟩ := E_Session_branch
  have E_Session_without : ∃ fd, Fd K "without" "Session.without" s_Session_without 1118 fd ∧ fd.code = .ref 1117 := S.fn f_Session_without (List.mem_of_getElem? (i := 77) rfl)
  obtain ⟨fd_Session_without, F_Session_without, -⟩ := E_Session_without
  have E_Session_attempt : ∃ fd, Fd K "attempt" "Session.attempt" s_Session_attempt 1125 fd ∧ fd.code = .ref 1124 := S.fn f_Session_attempt (List.mem_of_getElem? (i := 78) rfl)
  obtain ⟨fd_Session_attempt, F_Session_attempt, -⟩ := E_Session_attempt
  have E_Session_tried : ∃ fd, Fd K "tried" "Session.tried" s_Session_tried 1130 fd ∧ fd.code = .ref 1129 := S.fn f_Session_tried (List.mem_of_getElem? (i := 79) rfl)
  obtain ⟨fd_Session_tried, F_Session_tried, -⟩ := E_Session_tried
  have E_Block_xinit : ∃ fd, Fd K "__init__" "Block.__init__" s_Block_xinit 1156 fd ∧ fd.code = .ref 1155 := S.fn f_Block_xinit (List.mem_of_getElem? (i := 80) rfl)
  obtain ⟨fd_Block_xinit, F_Block_xinit, -⟩ := E_Block_xinit
  have E_Block_xenter : ∃ fd, Fd K "__enter__" "Block.__enter__" s_Block_xenter 1163 fd ∧ fd.code = .ref 1162 := S.fn f_Block_xenter (List.mem_of_getElem? (i := 81) rfl)
  obtain ⟨fd_Block_xenter, F_Block_xenter, -⟩ := E_Block_xenter
  have E_Block_xexit : ∃ fd, Fd K "__exit__" "Block.__exit__" s_Block_xexit 1170 fd ∧ fd.code = .ref 1169 := S.fn f_Block_xexit (List.mem_of_getElem? (i := 82) rfl)
  obtain ⟨fd_Block_xexit, F_Block_xexit, -⟩ := E_Block_xexit
  have E_law_cell_at : ∃ fd, Fd K "_law_cell_at" "_law_cell_at" s_law_cell_at 1189 fd ∧ fd.code = .ref 1188 := S.fn f_law_cell_at (List.mem_of_getElem? (i := 83) rfl)
  obtain ⟨fd_law_cell_at, F_law_cell_at, -⟩ := E_law_cell_at
  have E_law_draw : ∃ fd, Fd K "_law_draw" "_law_draw" s_law_draw 1196 fd ∧ fd.code = .ref 1195 := S.fn f_law_draw (List.mem_of_getElem? (i := 84) rfl)
  obtain ⟨fd_law_draw, F_law_draw, -⟩ := E_law_draw
  have E_law_number : ∃ fd, Fd K "_law_number" "_law_number" s_law_number 1203 fd ∧ fd.code = .ref 1202 := S.fn f_law_number (List.mem_of_getElem? (i := 85) rfl)
  obtain ⟨fd_law_number, F_law_number, -⟩ := E_law_number
  have E_law_next : ∃ fd, Fd K "_law_next" "_law_next" s_law_next 1210 fd ∧ fd.code = .ref 1209 := S.fn f_law_next (List.mem_of_getElem? (i := 86) rfl)
  obtain ⟨fd_law_next, F_law_next, -⟩ := E_law_next
  have E_law_pick : ∃ fd, Fd K "_law_pick" "_law_pick" s_law_pick 1217 fd ∧ fd.code = .ref 1216 := S.fn f_law_pick (List.mem_of_getElem? (i := 87) rfl)
  obtain ⟨fd_law_pick, F_law_pick, -⟩ := E_law_pick
  have E_law_field : ∃ fd, Fd K "_law_field" "_law_field" s_law_field 1224 fd ∧ fd.code = .ref 1223 := S.fn f_law_field (List.mem_of_getElem? (i := 88) rfl)
  obtain ⟨fd_law_field, F_law_field, -⟩ := E_law_field
  have E_law_spared : ∃ fd, Fd K "_law_spared" "_law_spared" s_law_spared 1229 fd ∧ fd.code = .ref 1228 := S.fn f_law_spared (List.mem_of_getElem? (i := 89) rfl)
  obtain ⟨fd_law_spared, F_law_spared, -⟩ := E_law_spared
  have E_law_kinds : ∃ fd, Fd K "_law_kinds" "_law_kinds" s_law_kinds 1236 fd ∧ fd.code = .ref 1235 := S.fn f_law_kinds (List.mem_of_getElem? (i := 90) rfl)
  obtain ⟨fd_law_kinds, F_law_kinds, -⟩ := E_law_kinds
  have E_law_value : ∃ fd, Fd K "_law_value" "_law_value" s_law_value 1241 fd ∧ fd.code = .ref 1240 := S.fn f_law_value (List.mem_of_getElem? (i := 91) rfl)
  obtain ⟨fd_law_value, F_law_value, -⟩ := E_law_value
  have E_law_objects : ∃ fd, Fd K "_law_objects" "_law_objects" s_law_objects 1246 fd ∧ fd.code = .ref 1245 := S.fn f_law_objects (List.mem_of_getElem? (i := 92) rfl)
  obtain ⟨fd_law_objects, F_law_objects, -⟩ := E_law_objects
  have E_law_parts : ∃ fd, Fd K "_law_parts" "_law_parts" s_law_parts 1253 fd ∧ fd.code = .ref 1252 := S.fn f_law_parts (List.mem_of_getElem? (i := 93) rfl)
  obtain ⟨fd_law_parts, F_law_parts, -⟩ := E_law_parts
  have E_law_question : ∃ fd, Fd K "_law_question" "_law_question" s_law_question 1258 fd ∧ fd.code = .ref 1257 := S.fn f_law_question (List.mem_of_getElem? (i := 94) rfl)
  obtain ⟨fd_law_question, F_law_question, -⟩ := E_law_question
  have E_law_field_at : ∃ fd, Fd K "_law_field_at" "_law_field_at" s_law_field_at 1263 fd ∧ fd.code = .ref 1262 := S.fn f_law_field_at (List.mem_of_getElem? (i := 95) rfl)
  obtain ⟨fd_law_field_at, F_law_field_at, -⟩ := E_law_field_at
  have E_law_object : ∃ fd, Fd K "_law_object" "_law_object" s_law_object 1270 fd ∧ fd.code = .ref 1269 := S.fn f_law_object (List.mem_of_getElem? (i := 96) rfl)
  obtain ⟨fd_law_object, F_law_object, -⟩ := E_law_object
  have E_law_given : ∃ fd, Fd K "_law_given" "_law_given" s_law_given 1275 fd ∧ fd.code = .ref 1274 := S.fn f_law_given (List.mem_of_getElem? (i := 97) rfl)
  obtain ⟨fd_law_given, F_law_given, -⟩ := E_law_given
  have E_law_run : ∃ fd, Fd K "_law_run" "_law_run" s_law_run 1282 fd ∧ fd.code = .ref 1281 := S.fn f_law_run (List.mem_of_getElem? (i := 98) rfl)
  obtain ⟨fd_law_run, F_law_run, -⟩ := E_law_run
  have E_law_cells : ∃ fd, Fd K "_law_cells" "_law_cells" s_law_cells 1287 fd ∧ fd.code = .ref 1286 := S.fn f_law_cells (List.mem_of_getElem? (i := 99) rfl)
  obtain ⟨fd_law_cells, F_law_cells, -⟩ := E_law_cells
  have E_law_less : ∃ fd, Fd K "_law_less" "_law_less" s_law_less 1292 fd ∧ fd.code = .ref 1291 := S.fn f_law_less (List.mem_of_getElem? (i := 100) rfl)
  obtain ⟨fd_law_less, F_law_less, -⟩ := E_law_less
  have E_law_is : ∃ fd, Fd K "_law_is" "_law_is" s_law_is 1297 fd ∧ fd.code = .ref 1296 := S.fn f_law_is (List.mem_of_getElem? (i := 101) rfl)
  obtain ⟨fd_law_is, F_law_is, -⟩ := E_law_is
  have E_law_some : ∃ fd, Fd K "_law_some" "_law_some" s_law_some 1302 fd ∧ fd.code = .ref 1301 := S.fn f_law_some (List.mem_of_getElem? (i := 102) rfl)
  obtain ⟨fd_law_some, F_law_some, -⟩ := E_law_some
  have E_law_put : ∃ fd, Fd K "_law_put" "_law_put" s_law_put 1309 fd ∧ fd.code = .ref 1308 := S.fn f_law_put (List.mem_of_getElem? (i := 103) rfl)
  obtain ⟨fd_law_put, F_law_put, -⟩ := E_law_put
  have E_law_undo : ∃ fd, Fd K "_law_undo" "_law_undo" s_law_undo 1316 fd ∧ fd.code = .ref 1315 := S.fn f_law_undo (List.mem_of_getElem? (i := 104) rfl)
  obtain ⟨fd_law_undo, F_law_undo, -⟩ := E_law_undo
  have E_law_tried : ∃ fd, Fd K "_law_tried" "_law_tried" s_law_tried 1321 fd ∧ fd.code = .ref 1320 := S.fn f_law_tried (List.mem_of_getElem? (i := 105) rfl)
  obtain ⟨fd_law_tried, F_law_tried, -⟩ := E_law_tried
  have E_law_deed : ∃ fd, Fd K "_law_deed" "_law_deed" s_law_deed 1328 fd ∧ fd.code = .ref 1327 := S.fn f_law_deed (List.mem_of_getElem? (i := 106) rfl)
  obtain ⟨fd_law_deed, F_law_deed, -⟩ := E_law_deed
  have E_law_block : ∃ fd, Fd K "_law_block" "_law_block" s_law_block 1335 fd ∧ fd.code = .ref 1334 := S.fn f_law_block (List.mem_of_getElem? (i := 107) rfl)
  obtain ⟨fd_law_block, F_law_block, hcode⟩ := E_law_block
  have E_law_turn : ∃ fd, Fd K "_law_turn" "_law_turn" s_law_turn 1342 fd ∧ fd.code = .ref 1341 := S.fn f_law_turn (List.mem_of_getElem? (i := 108) rfl)
  obtain ⟨fd_law_turn, F_law_turn, -⟩ := E_law_turn
  have T : Bn mg := ⟨free_ok X G fc_free_isinstance, free_ok X G fc_free_len, free_ok X G fc_free_all, free_ok X G fc_free_tuple, free_ok X G fc_free_list, free_ok X G fc_free_int, free_ok X G fc_free_str, free_ok X G fc_free_bool, free_ok X G fc_free_dict, free_ok X G fc_free_range, free_ok X G fc_free_enumerate, free_ok X G fc_free_zip⟩
  have klS : Kl K cM.S := kl_ok fc_kl_Schema
  have gS : Gc K mg "Schema" (.ref cM.S) := cls_gc X G fc_glo_Schema
  have klSt : Kl K cM.St := kl_ok fc_kl_Store
  have gSt : Gc K mg "Store" (.ref cM.St) := cls_gc X G fc_glo_Store
  have klF : Kl K cM.F := kl_ok fc_kl_Faults
  have gF : Gc K mg "Faults" (.ref cM.F) := cls_gc X G fc_glo_Faults
  have klQ : Kl K cM.Q := kl_ok fc_kl_Question
  have gQ : Gc K mg "Question" (.ref cM.Q) := cls_gc X G fc_glo_Question
  have klW : Kl K cM.W := kl_ok fc_kl_Walk
  have gW : Gc K mg "Walk" (.ref cM.W) := cls_gc X G fc_glo_Walk
  have klA : Kl K cM.A := kl_ok fc_kl_Answer
  have gA : Gc K mg "Answer" (.ref cM.A) := cls_gc X G fc_glo_Answer
  have klN : Kl K cM.N := kl_ok fc_kl_Asker
  have gN : Gc K mg "Asker" (.ref cM.N) := cls_gc X G fc_glo_Asker
  have klSe : Kl K cM.Se := kl_ok fc_kl_Session
  have gSe : Gc K mg "Session" (.ref cM.Se) := cls_gc X G fc_glo_Session
  have klB : Kl K cM.B := kl_ok fc_kl_Block
  have gB : Gc K mg "Block" (.ref cM.B) := cls_gc X G fc_glo_Block
  have slS_rows : Sl K cM.S "rows" 0 := sl_ok fc_sl_Schema_rows
  have slQ_rows : Sl K cM.Q "rows" 0 := sl_ok fc_sl_Question_rows
  have slA_kept : Sl K cM.A "kept" 0 := sl_ok fc_sl_Answer_kept
  have slF_kept : Sl K cM.F "kept" 0 := sl_ok fc_sl_Faults_kept
  have slSt_plan : Sl K cM.St "plan" 0 := sl_ok fc_sl_Store_plan
  have slSt_rows : Sl K cM.St "rows" 1 := sl_ok fc_sl_Store_rows
  have slSt_table : Sl K cM.St "table" 2 := sl_ok fc_sl_Store_table
  have slW_broken : Sl K cM.W "broken" 0 := sl_ok fc_sl_Walk_broken
  have slW_source : Sl K cM.W "source" 1 := sl_ok fc_sl_Walk_source
  have slW_trail : Sl K cM.W "trail" 2 := sl_ok fc_sl_Walk_trail
  have slN_source : Sl K cM.N "source" 0 := sl_ok fc_sl_Asker_source
  have slN_wanted : Sl K cM.N "wanted" 1 := sl_ok fc_sl_Asker_wanted
  have slSe_current : Sl K cM.Se "current" 0 := sl_ok fc_sl_Session_current
  have slSe_floor : Sl K cM.Se "floor" 1 := sl_ok fc_sl_Session_floor
  have slSe_given : Sl K cM.Se "given" 2 := sl_ok fc_sl_Session_given
  have slSe_notes : Sl K cM.Se "notes" 3 := sl_ok fc_sl_Session_notes
  have slSe_source_asker : Sl K cM.Se "source_asker" 4 := sl_ok fc_sl_Session_source_asker
  have slB_away : Sl K cM.B "away" 0 := sl_ok fc_sl_Block_away
  have slB_before : Sl K cM.B "before" 1 := sl_ok fc_sl_Block_before
  have slB_below : Sl K cM.B "below" 2 := sl_ok fc_sl_Block_below
  have slB_held : Sl K cM.B "held" 3 := sl_ok fc_sl_Block_held
  have slB_kept_given : Sl K cM.B "kept_given" 4 := sl_ok fc_sl_Block_kept_given
  have slB_kept_notes : Sl K cM.B "kept_notes" 5 := sl_ok fc_sl_Block_kept_notes
  have g1 : Gc K mg "MOST_LEVELS" (.int 3) := int_ok X G fc_int_MOST_LEVELS
  have g2 : Gc K mg "MOST_PARTS" (.int 8) := int_ok X G fc_int_MOST_PARTS
  have g5 : Gc K mg "MOST_OBJECT" (.int 5) := int_ok X G fc_int_MOST_OBJECT
  have g4 : Gc K mg "NAMES" (.str "abcdef") := str_ok X G fc_str_NAMES
  have gFo : Gc K mg "FORMS" formsD := tup_ok X G fc_tup_FORMS
  have gMa : Gc K mg "MARKS" marksD := tup_ok X G fc_tup_MARKS
  have BC : Exn K mg "BadCell" bcM := exn_ok X G fc_glo_BadCell fc_exn_BadCell
  have ND : Exn K mg "NothingDone" ndM := exn_ok X G fc_glo_NothingDone fc_exn_NothingDone
  have k_law_cell_at := ok_cell_at (P := P) (w := w) (base := base) (mg := mg) F_law_cell_at T 
  have c_law_cell_at := fun n (h : 1 ≤ n) => cal_of X G fc_glo__law_cell_at (k_law_cell_at.mono h)
  have k_law_draw := ok_draw (P := P) (w := w) (base := base) (mg := mg) F_law_draw T 
  have c_law_draw := fun n (h : 1 ≤ n) => cal_of X G fc_glo__law_draw (k_law_draw.mono h)
  have k_law_number := ok_number (P := P) (w := w) (base := base) (mg := mg) F_law_number T (c_law_draw _ (by decide))
  have c_law_number := fun n (h : 2 ≤ n) => cal_of X G fc_glo__law_number (k_law_number.mono h)
  have k_law_next := ok_next (P := P) (w := w) (base := base) (mg := mg) F_law_next T (c_law_cell_at _ (by decide)) (c_law_number _ (by decide))
  have c_law_next := fun n (h : 3 ≤ n) => cal_of X G fc_glo__law_next (k_law_next.mono h)
  have k_law_pick := ok_pick (P := P) (w := w) (base := base) (mg := mg) F_law_pick T (c_law_next _ (by decide))
  have c_law_pick := fun n (h : 4 ≤ n) => cal_of X G fc_glo__law_pick (k_law_pick.mono h)
  have k_law_field := ok_field (P := P) (w := w) (base := base) (mg := mg) F_law_field T (c_law_next _ (by decide)) (c_law_pick _ (by decide))
  have c_law_field := fun n (h : 5 ≤ n) => cal_of X G fc_glo__law_field (k_law_field.mono h)
  have k_law_spared := ok_spared (P := P) (w := w) (base := base) (mg := mg) F_law_spared T (c_law_next _ (by decide)) (c_law_pick _ (by decide))
  have c_law_spared := fun n (h : 5 ≤ n) => cal_of X G fc_glo__law_spared (k_law_spared.mono h)
  have k_law_kinds := ok_kinds (P := P) (w := w) (base := base) (mg := mg) F_law_kinds T (c_law_next _ (by decide)) (c_law_field _ (by decide)) (c_law_spared _ (by decide))
  have c_law_kinds := fun n (h : 6 ≤ n) => cal_of X G fc_glo__law_kinds (k_law_kinds.mono h)
  have k_law_value := ok_value (P := P) (w := w) (base := base) (mg := mg) F_law_value T (c_law_pick _ (by decide))
  have c_law_value := fun n (h : 5 ≤ n) => cal_of X G fc_glo__law_value (k_law_value.mono h)
  have k_law_objects := ok_objects (P := P) (w := w) (base := base) (mg := mg) F_law_objects T (c_law_next _ (by decide)) (c_law_value _ (by decide))
  have c_law_objects := fun n (h : 6 ≤ n) => cal_of X G fc_glo__law_objects (k_law_objects.mono h)
  have kk_law_parts := ok_parts (P := P) (w := w) (base := base) (mg := mg) F_law_parts T (c_law_next _ (by decide)) ⟨glo_ok X G fc_glo__law_parts, (He.ba fc_glo__law_parts).2⟩
  have k_law_parts : FnR P w K mg base CX0 7 1253 (spD K sPartsU) := fnr_U fun lv h => (kk_law_parts lv).mono (by omega)
  have c_law_parts := fun n (h : 7 ≤ n) => cal_of X G fc_glo__law_parts (k_law_parts.mono h)
  have k_is_number := ok_is_number (P := P) (w := w) (base := base) (mg := mg) F_is_number T 
  have c_is_number := fun n (h : 1 ≤ n) => cal_of X G fc_glo_is_number (k_is_number.mono h)
  have k_is_name := ok_is_name (P := P) (w := w) (base := base) (mg := mg) F_is_name T g4 
  have c_is_name := fun n (h : 1 ≤ n) => cal_of X G fc_glo_is_name (k_is_name.mono h)
  have k_is_word := ok_is_word (P := P) (w := w) (base := base) (mg := mg) F_is_word T 
  have c_is_word := fun n (h : 1 ≤ n) => cal_of X G fc_glo_is_word (k_is_word.mono h)
  have k_is_field := ok_is_field (P := P) (w := w) (base := base) (mg := mg) F_is_field T (c_is_number _ (by decide)) (c_is_name _ (by decide)) (c_is_word _ (by decide)) gFo gMa
  have c_is_field := fun n (h : 2 ≤ n) => cal_of X G fc_glo_is_field (k_is_field.mono h)
  have k_is_spare := ok_is_spare (P := P) (w := w) (base := base) (mg := mg) F_is_spare T (c_is_name _ (by decide))
  have c_is_spare := fun n (h : 2 ≤ n) => cal_of X G fc_glo_is_spare (k_is_spare.mono h)
  have k_is_kind := ok_is_kind (P := P) (w := w) (base := base) (mg := mg) F_is_kind T (c_is_field _ (by decide)) (c_is_spare _ (by decide))
  have c_is_kind := fun n (h : 3 ≤ n) => cal_of X G fc_glo_is_kind (k_is_kind.mono h)
  have k_Schema_xinit := ok_Schema_init (P := P) (w := w) (base := base) (mg := mg) F_Schema_xinit T klS slS_rows (c_is_kind _ (by decide))
  have m_Schema_xinit := fun n (h : 4 ≤ n) => om_of fc_meth_Schema___init__ (k_Schema_xinit.mono h)
  have mk_S := fun n (h : 4 ≤ n) => mkr_of X G fc_mk_Schema fc_glo_Schema (k_Schema_xinit.mono h)
  have k_Schema_kinds := ok_Schema_kinds (P := P) (w := w) (base := base) (mg := mg) F_Schema_kinds klS slS_rows 
  have p_Schema_kinds := fun n (h : 1 ≤ n) => pr_of fc_prop_Schema_kinds (k_Schema_kinds.mono h)
  have k_Schema_xlen := ok_Schema_len (P := P) (w := w) (base := base) (mg := mg) F_Schema_xlen T klS slS_rows 
  have m_Schema_xlen := fun n (h : 1 ≤ n) => om_of fc_meth_Schema___len__ (k_Schema_xlen.mono h)
  have k_Schema_xcontains := ok_Schema_in (P := P) (w := w) (base := base) (mg := mg) F_Schema_xcontains T klS slS_rows (c_is_number _ (by decide)) (c_is_name _ (by decide))
  have m_Schema_xcontains := fun n (h : 2 ≤ n) => om_of fc_meth_Schema___contains__ (k_Schema_xcontains.mono h)
  have k_Schema_xgetitem := ok_Schema_get (P := P) (w := w) (base := base) (mg := mg) F_Schema_xgetitem T klS slS_rows (m_Schema_xcontains _ (by decide))
  have m_Schema_xgetitem := fun n (h : 3 ≤ n) => om_of fc_meth_Schema___getitem__ (k_Schema_xgetitem.mono h)
  have k_check_schema := ok_check_schema (P := P) (w := w) (base := base) (mg := mg) F_check_schema T klS gS 
  have c_check_schema := fun n (h : 1 ≤ n) => cal_of X G fc_glo_check_schema (k_check_schema.mono h)
  have k_Question_parts := ok_Question_parts (P := P) (w := w) (base := base) (mg := mg) F_Question_parts klQ slQ_rows 
  have p_Question_parts := fun n (h : 1 ≤ n) => pr_of fc_prop_Question_parts (k_Question_parts.mono h)
  have kk_levels_of := ok_levels_of (P := P) (w := w) (base := base) (mg := mg) F_levels_of T klQ (p_Question_parts _ (by decide)) ⟨glo_ok X G fc_glo_levels_of, (He.ba fc_glo_levels_of).2⟩
  have k_levels_of := kk_levels_of 2
  have c_levels_of := fun n (h : 6 ≤ n) => cal_of X G fc_glo_levels_of (k_levels_of.mono h)
  have kk_names_in := ok_names_in (P := P) (w := w) (base := base) (mg := mg) F_names_in T klQ (p_Question_parts _ (by decide)) ⟨glo_ok X G fc_glo_names_in, (He.ba fc_glo_names_in).2⟩
  have k_names_in := kk_names_in 2
  have c_names_in := fun n (h : 6 ≤ n) => cal_of X G fc_glo_names_in (k_names_in.mono h)
  have k_is_part := ok_is_part (P := P) (w := w) (base := base) (mg := mg) F_is_part T klQ gQ (c_is_name _ (by decide))
  have c_is_part := fun n (h : 2 ≤ n) => cal_of X G fc_glo_is_part (k_is_part.mono h)
  have k_Question_xlen := ok_Question_len (P := P) (w := w) (base := base) (mg := mg) F_Question_xlen T klQ slQ_rows (c_names_in _ (by decide))
  have m_Question_xlen := fun n (h : 7 ≤ n) => om_of fc_meth_Question___len__ (k_Question_xlen.mono h)
  have k_Question_xinit := ok_Question_init (P := P) (w := w) (base := base) (mg := mg) F_Question_xinit T klQ slQ_rows (c_is_part _ (by decide)) (c_levels_of _ (by decide)) (m_Question_xlen _ (by decide)) g1 g2
  have m_Question_xinit := fun n (h : 9 ≤ n) => om_of fc_meth_Question___init__ (k_Question_xinit.mono h)
  have mk_Q := fun n (h : 9 ≤ n) => mkr_of X G fc_mk_Question fc_glo_Question (k_Question_xinit.mono h)
  have k_check_question := ok_check_question (P := P) (w := w) (base := base) (mg := mg) F_check_question T klQ gQ 
  have c_check_question := fun n (h : 1 ≤ n) => cal_of X G fc_glo_check_question (k_check_question.mono h)
  have kk_law_question := ok_law_question (P := P) (w := w) (base := base) (mg := mg) F_law_question T klQ (mk_Q _ (by decide)) ⟨glo_ok X G fc_glo__law_question, (He.ba fc_glo__law_question).2⟩
  have k_law_question : FnR P w K mg base CX0 13 1258 (spD K (sQuestionU cM.Q)) := fnr_U fun lv h => (kk_law_question lv).mono (by omega)
  have c_law_question := fun n (h : 13 ≤ n) => cal_of X G fc_glo__law_question (k_law_question.mono h)
  have kk_unfit_in := ok_unfit_in (P := P) (w := w) (base := base) (mg := mg) F_unfit_in T klQ klS (p_Question_parts _ (by decide)) (m_Schema_xcontains _ (by decide)) (m_Schema_xgetitem _ (by decide)) ⟨glo_ok X G fc_glo_unfit_in, (He.ba fc_glo_unfit_in).2⟩
  have k_unfit_in := kk_unfit_in 2
  have c_unfit_in := fun n (h : 8 ≤ n) => cal_of X G fc_glo_unfit_in (k_unfit_in.mono h)
  have k_unfit := ok_unfit (P := P) (w := w) (base := base) (mg := mg) F_unfit T klS (c_check_schema _ (by decide)) (c_check_question _ (by decide)) (c_is_number _ (by decide)) (m_Schema_xlen _ (by decide)) (c_unfit_in _ (by decide))
  have c_unfit := fun n (h : 9 ≤ n) => cal_of X G fc_glo_unfit (k_unfit.mono h)
  have k_is_cell := ok_is_cell (P := P) (w := w) (base := base) (mg := mg) F_is_cell T (c_is_number _ (by decide)) (c_is_name _ (by decide)) g5
  have c_is_cell := fun n (h : 2 ≤ n) => cal_of X G fc_glo_is_cell (k_is_cell.mono h)
  have k_all_cells := ok_all_cells (P := P) (w := w) (base := base) (mg := mg) F_all_cells T g5 g4 
  have c_all_cells := fun n (h : 1 ≤ n) => cal_of X G fc_glo_all_cells (k_all_cells.mono h)
  have k_Faults_xinit := ok_Faults_init (P := P) (w := w) (base := base) (mg := mg) F_Faults_xinit T klF slF_kept (c_is_cell _ (by decide)) (c_all_cells _ (by decide))
  have m_Faults_xinit := fun n (h : 3 ≤ n) => om_of fc_meth_Faults___init__ (k_Faults_xinit.mono h)
  have mk_F := fun n (h : 3 ≤ n) => mkr_of X G fc_mk_Faults fc_glo_Faults (k_Faults_xinit.mono h)
  have k_Faults_cells := ok_Faults_cells (P := P) (w := w) (base := base) (mg := mg) F_Faults_cells klF slF_kept 
  have p_Faults_cells := fun n (h : 1 ≤ n) => pr_of fc_prop_Faults_cells (k_Faults_cells.mono h)
  have k_Faults_xlen := ok_Faults_len (P := P) (w := w) (base := base) (mg := mg) F_Faults_xlen T klF slF_kept 
  have m_Faults_xlen := fun n (h : 1 ≤ n) => om_of fc_meth_Faults___len__ (k_Faults_xlen.mono h)
  have k_Faults_xcontains := ok_Faults_in (P := P) (w := w) (base := base) (mg := mg) F_Faults_xcontains T klF slF_kept (c_is_cell _ (by decide))
  have m_Faults_xcontains := fun n (h : 3 ≤ n) => om_of fc_meth_Faults___contains__ (k_Faults_xcontains.mono h)
  have k_check_faults := ok_check_faults (P := P) (w := w) (base := base) (mg := mg) F_check_faults T klF gF 
  have c_check_faults := fun n (h : 1 ≤ n) => cal_of X G fc_glo_check_faults (k_check_faults.mono h)
  have k_Faults_xor := ok_Faults_or (P := P) (w := w) (base := base) (mg := mg) F_Faults_xor klF slF_kept (p_Faults_cells _ (by decide)) (mk_F _ (by decide))
  have m_Faults_xor := fun n (h : 5 ≤ n) => om_of fc_meth_Faults___or__ (k_Faults_xor.mono h)
  have k_Faults_xsub := ok_Faults_sub (P := P) (w := w) (base := base) (mg := mg) F_Faults_xsub klF slF_kept (m_Faults_xcontains _ (by decide)) (mk_F _ (by decide))
  have m_Faults_xsub := fun n (h : 5 ≤ n) => om_of fc_meth_Faults___sub__ (k_Faults_xsub.mono h)
  have k_Faults_xlshift := ok_Faults_shl (P := P) (w := w) (base := base) (mg := mg) F_Faults_xlshift T klF slF_kept (c_is_cell _ (by decide)) (mk_F _ (by decide))
  have m_Faults_xlshift := fun n (h : 5 ≤ n) => om_of fc_meth_Faults___lshift__ (k_Faults_xlshift.mono h)
  have k_Faults_none := ok_Faults_none (P := P) (w := w) (base := base) (mg := mg) F_Faults_none (mk_F _ (by decide))
  have s_Faults_none := fun n (h : 5 ≤ n) => st_of fc_stat_Faults_none (k_Faults_none.mono h)
  have k_kind_of := ok_kind_of (P := P) (w := w) (base := base) (mg := mg) F_kind_of T (c_is_number _ (by decide)) (m_Schema_xlen _ (by decide))
  have c_kind_of := fun n (h : 3 ≤ n) => cal_of X G fc_glo_kind_of (k_kind_of.mono h)
  have k_is_single := ok_is_single (P := P) (w := w) (base := base) (mg := mg) F_is_single T (c_is_number _ (by decide)) (c_kind_of _ (by decide))
  have c_is_single := fun n (h : 4 ≤ n) => cal_of X G fc_glo_is_single (k_is_single.mono h)
  have k_is_value := ok_is_value (P := P) (w := w) (base := base) (mg := mg) F_is_value T (c_is_single _ (by decide))
  have c_is_value := fun n (h : 5 ≤ n) => cal_of X G fc_glo_is_value (k_is_value.mono h)
  have k_is_object := ok_is_object (P := P) (w := w) (base := base) (mg := mg) F_is_object T klS (p_Schema_kinds _ (by decide)) (c_kind_of _ (by decide)) (c_is_value _ (by decide))
  have c_is_object := fun n (h : 6 ≤ n) => cal_of X G fc_glo_is_object (k_is_object.mono h)
  have k_Store_schema := ok_Store_schema (P := P) (w := w) (base := base) (mg := mg) (CS := cM.S) F_Store_schema klSt slSt_plan 
  have p_Store_schema := fun n (h : 1 ≤ n) => pr_of fc_prop_Store_schema (k_Store_schema.mono h)
  have k_Store_objects := ok_Store_objects (P := P) (w := w) (base := base) (mg := mg) (CS := cM.S) F_Store_objects klSt slSt_rows 
  have p_Store_objects := fun n (h : 1 ≤ n) => pr_of fc_prop_Store_objects (k_Store_objects.mono h)
  have k_check_store := ok_check_store (P := P) (w := w) (base := base) (mg := mg) (CS := cM.S) F_check_store T klSt gSt 
  have c_check_store := fun n (h : 1 ≤ n) => cal_of X G fc_glo_check_store (k_check_store.mono h)
  have k_Store_xcontains := ok_Store_in (P := P) (w := w) (base := base) (mg := mg) (CS := cM.S) F_Store_xcontains T klSt slSt_table (c_is_number _ (by decide)) (c_is_name _ (by decide))
  have m_Store_xcontains := fun n (h : 2 ≤ n) => om_of fc_meth_Store___contains__ (k_Store_xcontains.mono h)
  have k_Store_xgetitem := ok_Store_get (P := P) (w := w) (base := base) (mg := mg) F_Store_xgetitem T klSt slSt_table (m_Store_xcontains _ (by decide))
  have m_Store_xgetitem := fun n (h : 3 ≤ n) => om_of fc_meth_Store___getitem__ (k_Store_xgetitem.mono h)
  have k_Store_xinit := ok_Store_init (P := P) (w := w) (base := base) (mg := mg) F_Store_xinit T klSt slSt_plan slSt_rows slSt_table klS (p_Schema_kinds _ (by decide)) (c_check_schema _ (by decide)) (c_is_object _ (by decide))
  have m_Store_xinit := fun n (h : 7 ≤ n) => om_of fc_meth_Store___init__ (k_Store_xinit.mono h)
  have mk_St := fun n (h : 7 ≤ n) => mkr_of X G fc_mk_Store fc_glo_Store (k_Store_xinit.mono h)
  have k_Store_cells := ok_Store_cells (P := P) (w := w) (base := base) (mg := mg) (CS := cM.S) F_Store_cells T klSt slSt_rows slSt_table g4 
  have p_Store_cells := fun n (h : 1 ≤ n) => pr_of fc_prop_Store_cells (k_Store_cells.mono h)
  have k_Walk_xinit := ok_Walk_init (P := P) (w := w) (base := base) (mg := mg) (c := cM) F_Walk_xinit klW slW_broken slW_source slW_trail 
  have m_Walk_xinit := fun n (h : 1 ≤ n) => om_of fc_meth_Walk___init__ (k_Walk_xinit.mono h)
  have mk_W := fun n (h : 1 ≤ n) => mkr_of X G fc_mk_Walk fc_glo_Walk (k_Walk_xinit.mono h)
  have mt_ask_field : MAt K cM.W "ask_field" 897 := let ⟨h1, h2, h3, h4⟩ := meth_ok fc_meth_Walk_ask_field; ⟨h1, h2, h3, h4⟩
  have mt_ask_object : MAt K cM.W "ask_object" 890 := let ⟨h1, h2, h3, h4⟩ := meth_ok fc_meth_Walk_ask_object; ⟨h1, h2, h3, h4⟩
  have mt_ask_list : MAt K cM.W "ask_list" 904 := let ⟨h1, h2, h3, h4⟩ := meth_ok fc_meth_Walk_ask_list; ⟨h1, h2, h3, h4⟩
  have kk_walk := walk_all (P := P) (w := w) (base := base) (mg := mg) (c := cM) ⟨⟨_, F_Walk_ask_field⟩, ⟨_, F_Walk_ask_object⟩, ⟨_, F_Walk_ask_list⟩⟩ mt_ask_field mt_ask_object mt_ask_list T klW slW_broken slW_source slW_trail (m_Faults_xcontains _ (by decide)) (m_Store_xgetitem _ (by decide)) klSt klQ (p_Store_objects _ (by decide)) (p_Store_schema _ (by decide)) (p_Question_parts _ (by decide)) (m_Schema_xgetitem _ (by decide))
  have k_Walk_ask_object := kk_walk 2
  have m_Walk_ask_object := fun n (h : 13 ≤ n) => om_of fc_meth_Walk_ask_object (k_Walk_ask_object.mono h)
  have k_law_field_at := ok_law_field_at (P := P) (w := w) (base := base) (mg := mg) F_law_field_at T 
  have c_law_field_at := fun n (h : 1 ≤ n) => cal_of X G fc_glo__law_field_at (k_law_field_at.mono h)
  have kk_lawob := lawob_all (P := P) (w := w) (base := base) (mg := mg) ⟨_, F_law_given⟩ ⟨_, F_law_object⟩ ⟨glo_ok X G fc_glo__law_given, (He.ba fc_glo__law_given).2⟩ ⟨glo_ok X G fc_glo__law_object, (He.ba fc_glo__law_object).2⟩ T (c_law_field_at _ (by decide))
  have k_law_object := kk_lawob 2
  have c_law_object := fun n (h : 11 ≤ n) => cal_of X G fc_glo__law_object (k_law_object.mono h)
  have k_law_run := ok_law_run (P := P) (w := w) (base := base) (mg := mg) F_law_run T (c_law_object _ (by decide))
  have c_law_run := fun n (h : 12 ≤ n) => cal_of X G fc_glo__law_run (k_law_run.mono h)
  have kk_copied := ok_copied (P := P) (w := w) (base := base) (mg := mg) F_copied T ⟨glo_ok X G fc_glo_copied, (He.ba fc_glo_copied).2⟩
  have k_copied := kk_copied 6
  have c_copied := fun n (h : 10 ≤ n) => cal_of X G fc_glo_copied (k_copied.mono h)
  have k_is_item0 := item_body (P := P) (w := w) (base := base) (mg := mg) F_is_item T 0 (c_is_number _ (by decide)) (fun l' e => by omega)
  have c_is_item0 := fun n (h : 4 ≤ n) => cal_of X G fc_glo_is_item (k_is_item0.mono h)
  have k_is_left0 := left_body (P := P) (w := w) (base := base) (mg := mg) F_is_left T 0 (c_is_item0 _ (by decide))
  have c_is_left0 := fun n (h : 5 ≤ n) => cal_of X G fc_glo_is_left (k_is_left0.mono h)
  have k_is_data1 := data_body (P := P) (w := w) (base := base) (mg := mg) F_is_data T 0 (c_is_name _ (by decide)) (c_is_left0 _ (by decide))
  have c_is_data1 := fun n (h : 6 ≤ n) => cal_of X G fc_glo_is_data (k_is_data1.mono h)
  have k_is_item1 := item_body (P := P) (w := w) (base := base) (mg := mg) F_is_item T 1 (c_is_number _ (by decide)) (fun l' e => (c_is_data1 _ (by decide)))
  have c_is_item1 := fun n (h : 7 ≤ n) => cal_of X G fc_glo_is_item (k_is_item1.mono h)
  have k_is_left1 := left_body (P := P) (w := w) (base := base) (mg := mg) F_is_left T 1 (c_is_item1 _ (by decide))
  have c_is_left1 := fun n (h : 8 ≤ n) => cal_of X G fc_glo_is_left (k_is_left1.mono h)
  have k_is_data2 := data_body (P := P) (w := w) (base := base) (mg := mg) F_is_data T 1 (c_is_name _ (by decide)) (c_is_left1 _ (by decide))
  have c_is_data2 := fun n (h : 9 ≤ n) => cal_of X G fc_glo_is_data (k_is_data2.mono h)
  have k_is_item2 := item_body (P := P) (w := w) (base := base) (mg := mg) F_is_item T 2 (c_is_number _ (by decide)) (fun l' e => (c_is_data2 _ (by decide)))
  have c_is_item2 := fun n (h : 10 ≤ n) => cal_of X G fc_glo_is_item (k_is_item2.mono h)
  have k_is_left2 := left_body (P := P) (w := w) (base := base) (mg := mg) F_is_left T 2 (c_is_item2 _ (by decide))
  have c_is_left2 := fun n (h : 11 ≤ n) => cal_of X G fc_glo_is_left (k_is_left2.mono h)
  have k_is_data3 := data_body (P := P) (w := w) (base := base) (mg := mg) F_is_data T 2 (c_is_name _ (by decide)) (c_is_left2 _ (by decide))
  have c_is_data3 := fun n (h : 12 ≤ n) => cal_of X G fc_glo_is_data (k_is_data3.mono h)
  have k_Answer_xinit := ok_Answer_init (P := P) (w := w) (base := base) (mg := mg) (c := cM) F_Answer_xinit klA slA_kept (c_is_data3 _ (by decide)) (c_copied _ (by decide))
  have m_Answer_xinit := fun n (h : 13 ≤ n) => om_of fc_meth_Answer___init__ (k_Answer_xinit.mono h)
  have mk_A := fun n (h : 13 ≤ n) => mkr_of X G fc_mk_Answer fc_glo_Answer (k_Answer_xinit.mono h)
  have k_Answer_data := ok_Answer_data (P := P) (w := w) (base := base) (mg := mg) (c := cM) F_Answer_data klA slA_kept (c_copied _ (by decide))
  have p_Answer_data := fun n (h : 11 ≤ n) => pr_of fc_prop_Answer_data (k_Answer_data.mono h)
  have k_Faults_xeq := ok_Faults_eq (P := P) (w := w) (base := base) (mg := mg) (c := cM) F_Faults_xeq T klF slF_kept gF (p_Faults_cells _ (by decide))
  have m_Faults_xeq := fun n (h : 3 ≤ n) => om_of fc_meth_Faults___eq__ (k_Faults_xeq.mono h)
  have k_Schema_xeq := ok_Schema_eq (P := P) (w := w) (base := base) (mg := mg) (c := cM) F_Schema_xeq T klS slS_rows gS 
  have m_Schema_xeq := fun n (h : 1 ≤ n) => om_of fc_meth_Schema___eq__ (k_Schema_xeq.mono h)
  have k_Store_xeq := ok_Store_eq (P := P) (w := w) (base := base) (mg := mg) (c := cM) F_Store_xeq T klSt slSt_plan slSt_rows gSt (m_Schema_xeq _ (by decide))
  have m_Store_xeq := fun n (h : 3 ≤ n) => om_of fc_meth_Store___eq__ (k_Store_xeq.mono h)
  have mt_qeq : MAt K cM.Q "__eq__" 430 := let ⟨h1, h2, h3, h4⟩ := meth_ok fc_meth_Question___eq__; ⟨h1, h2, h3, h4⟩
  have kk_qeq := ok_Question_eq (P := P) (w := w) (base := base) (mg := mg) (c := cM) F_Question_xeq mt_qeq T klQ slQ_rows gQ
  have k_Question_xeq := kk_qeq 2
  have m_Question_xeq := fun n (h : 11 ≤ n) => om_of fc_meth_Question___eq__ (k_Question_xeq.mono h)
  have k_Asker_xinit := ok_Asker_init (P := P) (w := w) (base := base) (mg := mg) (c := cM) F_Asker_xinit klN slN_source slN_wanted klSt (c_check_store _ (by decide)) (c_check_question _ (by decide)) (p_Store_schema _ (by decide)) (c_unfit _ (by decide))
  have m_Asker_xinit := fun n (h : 10 ≤ n) => om_of fc_meth_Asker___init__ (k_Asker_xinit.mono h)
  have mk_N := fun n (h : 10 ≤ n) => mkr_of X G fc_mk_Asker fc_glo_Asker (k_Asker_xinit.mono h)
  have k_Asker_store := ok_Asker_store (P := P) (w := w) (base := base) (mg := mg) (c := cM) F_Asker_store klN slN_source 
  have p_Asker_store := fun n (h : 1 ≤ n) => pr_of fc_prop_Asker_store (k_Asker_store.mono h)
  have k_Asker_question := ok_Asker_question (P := P) (w := w) (base := base) (mg := mg) (c := cM) F_Asker_question klN slN_wanted 
  have p_Asker_question := fun n (h : 1 ≤ n) => pr_of fc_prop_Asker_question (k_Asker_question.mono h)
  have k_Asker_xcall := ok_Asker_call (P := P) (w := w) (base := base) (mg := mg) (c := cM) F_Asker_xcall klN slN_source slN_wanted klW (c_check_faults _ (by decide)) (mk_A _ (by decide)) (mk_W _ (by decide)) (m_Walk_ask_object _ (by decide))
  have m_Asker_xcall := fun n (h : 15 ≤ n) => om_of fc_meth_Asker___call__ (k_Asker_xcall.mono h)
  have k_check_asker := ok_check_asker (P := P) (w := w) (base := base) (mg := mg) (c := cM) F_check_asker T klN gN 
  have c_check_asker := fun n (h : 1 ≤ n) => cal_of X G fc_glo_check_asker (k_check_asker.mono h)
  have k5 : SeK K cM := ⟨klSe, slSe_current, slSe_floor, slSe_given, slSe_notes, slSe_source_asker⟩
  have k6 : BlK K cM := ⟨klB, slB_away, slB_before, slB_below, slB_held, slB_kept_given, slB_kept_notes⟩
  have fm : FaM P w K mg base cM := ⟨fc_sf_Faults, (m_Faults_xlshift _ (by decide)), bt_ok fc_bt_Faults, (m_Faults_xsub _ (by decide)), (m_Faults_xor _ (by decide)), (mk_F _ (by decide)), klF⟩
  have k_Session_xinit := ok_Session_init (P := P) (w := w) (base := base) (mg := mg) F_Session_xinit k5 gF (c_check_asker _ (by decide)) (s_Faults_none _ (by decide)) (m_Asker_xcall _ (by decide))
  have m_Session_xinit := fun n (h : 16 ≤ n) => om_of fc_meth_Session___init__ (k_Session_xinit.mono h)
  have mk_Se := fun n (h : 16 ≤ n) => mkr_of X G fc_mk_Session fc_glo_Session (k_Session_xinit.mono h)
  have k_Session_asker := ok_Session_asker (P := P) (w := w) (base := base) (mg := mg) F_Session_asker k5 
  have p_Session_asker := fun n (h : 1 ≤ n) => pr_of fc_prop_Session_asker (k_Session_asker.mono h)
  have k_Session_now := ok_Session_now (P := P) (w := w) (base := base) (mg := mg) F_Session_now k5 
  have p_Session_now := fun n (h : 1 ≤ n) => pr_of fc_prop_Session_now (k_Session_now.mono h)
  have k_Session_answer := ok_Session_answer (P := P) (w := w) (base := base) (mg := mg) F_Session_answer k5 
  have p_Session_answer := fun n (h : 1 ≤ n) => pr_of fc_prop_Session_answer (k_Session_answer.mono h)
  have k_Session_journal := ok_Session_journal (P := P) (w := w) (base := base) (mg := mg) F_Session_journal T k5 
  have p_Session_journal := fun n (h : 1 ≤ n) => pr_of fc_prop_Session_journal (k_Session_journal.mono h)
  have k_Session_xlen := ok_Session_len (P := P) (w := w) (base := base) (mg := mg) F_Session_xlen T k5 (m_Faults_xlen _ (by decide))
  have m_Session_xlen := fun n (h : 3 ≤ n) => om_of fc_meth_Session___len__ (k_Session_xlen.mono h)
  have k_Session_xcontains := ok_Session_in (P := P) (w := w) (base := base) (mg := mg) F_Session_xcontains k5 (m_Faults_xcontains _ (by decide))
  have m_Session_xcontains := fun n (h : 4 ≤ n) => om_of fc_meth_Session___contains__ (k_Session_xcontains.mono h)
  have k_Session_put := ok_Session_put (P := P) (w := w) (base := base) (mg := mg) F_Session_put k5 (m_Asker_xcall _ (by decide))
  have m_Session_put := fun n (h : 16 ≤ n) => om_of fc_meth_Session_put (k_Session_put.mono h)
  have k_Session_go := ok_Session_go (P := P) (w := w) (base := base) (mg := mg) F_Session_go k5 (m_Session_put _ (by decide))
  have m_Session_go := fun n (h : 17 ≤ n) => om_of fc_meth_Session_go (k_Session_go.mono h)
  have k_Session_xsetitem := ok_Session_set (P := P) (w := w) (base := base) (mg := mg) F_Session_xsetitem T k5 fm (c_is_cell _ (by decide)) (m_Session_go _ (by decide))
  have m_Session_xsetitem := fun n (h : 18 ≤ n) => om_of fc_meth_Session___setitem__ (k_Session_xsetitem.mono h)
  have k_Session_xiadd := ok_Session_iadd (P := P) (w := w) (base := base) (mg := mg) F_Session_xiadd k5 fm (m_Session_go _ (by decide))
  have m_Session_xiadd := fun n (h : 18 ≤ n) => om_of fc_meth_Session___iadd__ (k_Session_xiadd.mono h)
  have k_Session_xisub := ok_Session_isub (P := P) (w := w) (base := base) (mg := mg) F_Session_xisub k5 fm (m_Session_go _ (by decide))
  have m_Session_xisub := fun n (h : 18 ≤ n) => om_of fc_meth_Session___isub__ (k_Session_xisub.mono h)
  have k_Session_branch := ok_Session_branch (P := P) (w := w) (base := base) (mg := mg) F_Session_branch T k5 (mk_Se _ (by decide)) (m_Session_put _ (by decide))
  have m_Session_branch := fun n (h : 18 ≤ n) => om_of fc_meth_Session_branch (k_Session_branch.mono h)
  have k_Session_tried := ok_Session_tried (P := P) (w := w) (base := base) (mg := mg) F_Session_tried T k5 fm gF (m_Asker_xcall _ (by decide))
  have m_Session_tried := fun n (h : 16 ≤ n) => om_of fc_meth_Session_tried (k_Session_tried.mono h)
  have k_Block_xinit := ok_Block_init (P := P) (w := w) (base := base) (mg := mg) F_Block_xinit k5 k6 
  have m_Block_xinit := fun n (h : 1 ≤ n) => om_of fc_meth_Block___init__ (k_Block_xinit.mono h)
  have mk_B := fun n (h : 1 ≤ n) => mkr_of X G fc_mk_Block fc_glo_Block (k_Block_xinit.mono h)
  have k_Session_without := ok_Session_without (P := P) (w := w) (base := base) (mg := mg) F_Session_without (c_check_faults _ (by decide)) (mk_B _ (by decide))
  have m_Session_without := fun n (h : 3 ≤ n) => om_of fc_meth_Session_without (k_Session_without.mono h)
  have k_Block_xenter := ok_Block_enter (P := P) (w := w) (base := base) (mg := mg) F_Block_xenter T k5 k6 fm (m_Session_put _ (by decide))
  have m_Block_xenter := fun n (h : 17 ≤ n) => om_of fc_meth_Block___enter__ (k_Block_xenter.mono h)
  have k_Block_xexit := ok_Block_exit (P := P) (w := w) (base := base) (mg := mg) F_Block_xexit k5 k6 
  have m_Block_xexit := fun n (h : 1 ≤ n) => om_of fc_meth_Block___exit__ (k_Block_xexit.mono h)
  have k_Session_undo := ok_Session_undo (P := P) (w := w) (base := base) (mg := mg) F_Session_undo T k5 ND (m_Session_put _ (by decide))
  have m_Session_undo := fun n (h : 17 ≤ n) => om_of fc_meth_Session_undo (k_Session_undo.mono h)
  have k_Session_xgetitem := ok_Session_item (P := P) (w := w) (base := base) (mg := mg) F_Session_xgetitem k5 BC (c_is_cell _ (by decide)) (m_Faults_xcontains _ (by decide))
  have m_Session_xgetitem := fun n (h : 4 ≤ n) => om_of fc_meth_Session___getitem__ (k_Session_xgetitem.mono h)
  have hx : OmH P w K mg base 1 cM.B "__exit__" (sExit cM) := by
    obtain ⟨h1, h2, h3, h4⟩ := meth_ok fc_meth_Block___exit__
    exact ⟨_, _, _, h1, h2, ok_Block_exitH F_Block_xexit k5 k6, FunD.bindsN (ps := p_Block_xexit) F_Block_xexit (fun _ _ _ _ _ _ us hl => match us, hl with | [_, _, _, _], _ => rfl), k_Block_xexit⟩
  obtain ⟨ha1, ha2, ha3, ha4⟩ := meth_ok fc_meth_Session_attempt
  have att := fun k kl (h1 : 17 ≤ k) (h2 : kl ≤ k) => ok_Session_attempt (k := k) (kl := kl) (P := P) (w := w) (base := base) (mg := mg) h1 h2 ha1 ha2 F_Session_attempt k6 klSe (m_Session_without _ (by decide)) (m_Block_xenter _ (by decide)) hx
  have k_law_cells := ok_law_cells (P := P) (w := w) (base := base) (mg := mg) F_law_cells T 
  have c_law_cells := fun n (h : 1 ≤ n) => cal_of X G fc_glo__law_cells (k_law_cells.mono h)
  have k_law_less := ok_law_less (P := P) (w := w) (base := base) (mg := mg) F_law_less T 
  have c_law_less := fun n (h : 1 ≤ n) => cal_of X G fc_glo__law_less (k_law_less.mono h)
  have k_law_some := ok_law_some (P := P) (w := w) (base := base) (mg := mg) F_law_some T (c_law_next _ (by decide)) (c_law_cells _ (by decide))
  have c_law_some := fun n (h : 5 ≤ n) => cal_of X G fc_glo__law_some (k_law_some.mono h)
  have se : SeP P w K mg base cM := ⟨klSe, (p_Session_now _ (by decide)), (p_Session_answer _ (by decide)), (p_Session_asker _ (by decide)), (p_Session_journal _ (by decide)), (m_Session_xlen _ (by decide)), (m_Session_xcontains _ (by decide)), klF, (p_Faults_cells _ (by decide)), klA, (p_Answer_data _ (by decide))⟩
  have so : SeO P w K mg base cM := ⟨fc_sf_Session, fc_ns_Session, (m_Session_xsetitem _ (by decide)), (m_Session_xiadd _ (by decide)), (m_Session_xisub _ (by decide)), (mk_F _ (by decide)), (m_Faults_xeq _ (by decide))⟩
  have k_law_is := ok_law_is (P := P) (w := w) (base := base) (mg := mg) F_law_is T se (m_Session_xgetitem _ (by decide)) (c_law_run _ (by decide))
  have c_law_is := fun n (h : 13 ≤ n) => cal_of X G fc_glo__law_is (k_law_is.mono h)
  have k_law_put := ok_law_put (P := P) (w := w) (base := base) (mg := mg) F_law_put T se so (c_law_next _ (by decide)) (c_law_pick _ (by decide)) (c_law_cells _ (by decide)) (c_law_less _ (by decide)) (c_law_some _ (by decide))
  have c_law_put := fun n (h : 19 ≤ n) => cal_of X G fc_glo__law_put (k_law_put.mono h)
  have k_law_undo := ok_law_undo (P := P) (w := w) (base := base) (mg := mg) F_law_undo T se ND (m_Session_undo _ (by decide))
  have c_law_undo := fun n (h : 18 ≤ n) => cal_of X G fc_glo__law_undo (k_law_undo.mono h)
  have k_law_tried := ok_law_tried (P := P) (w := w) (base := base) (mg := mg) F_law_tried T se (m_Session_tried _ (by decide)) (mk_F _ (by decide)) (c_law_next _ (by decide)) (c_law_cells _ (by decide)) (c_law_some _ (by decide)) (c_law_run _ (by decide))
  have c_law_tried := fun n (h : 19 ≤ n) => cal_of X G fc_glo__law_tried (k_law_tried.mono h)
  have k_turn2 := ok_law_turn (P := P) (w := w) (base := base) (mg := mg) (c := cM) (P0 := cB.2) (t := 19) (d := 2) (by decide) (by decide) F_law_turn T klSe (m_Session_branch _ (by decide)) (c_law_next _ (by decide)) (c_law_is _ (by decide)) (c_law_put _ (by decide)) (c_law_undo _ (by decide)) (c_law_tried _ (by decide)) (fun h => absurd h (by decide))
  have c_turn2 := fun n (h : 20 ≤ n) => cal_of X G fc_glo__law_turn (k_turn2.mono h)
  have k_deed1 := ok_law_deed (P := P) (w := w) (base := base) (mg := mg) (bc := bcM) (c := cM) (P0 := cB.2) (t := 20) (d := 1) (by decide) (by decide) F_law_deed T klSe (m_Session_xgetitem _ (by decide)) (c_law_next _ (by decide)) (c_law_is _ (by decide)) (c_turn2 _ (by decide))
  have c_deed1 := fun n (h : 21 ≤ n) => caln_of X G fc_glo__law_deed (k_deed1.mono h)
  have k_block1 := ok_law_block (t := 20) (d := 1) (by decide) (by decide) F_law_block hcode TB T klSe BC (mk_F _ (by decide)) (c_law_some _ (by decide)) (c_law_less _ (by decide)) (att 22 22 (by decide) (by decide)) (c_deed1 _ (by decide))
  have c_block1 := fun n (h : 24 ≤ n) => cal_of X G fc_glo__law_block (k_block1.mono h)
  have k_turn1 := ok_law_turn (P := P) (w := w) (base := base) (mg := mg) (c := cM) (P0 := cB.2) (t := 24) (d := 1) (by decide) (by decide) F_law_turn T klSe (m_Session_branch _ (by decide)) (c_law_next _ (by decide)) (c_law_is _ (by decide)) (c_law_put _ (by decide)) (c_law_undo _ (by decide)) (c_law_tried _ (by decide)) (fun h => (c_block1 _ (by decide)))
  have c_turn1 := fun n (h : 25 ≤ n) => cal_of X G fc_glo__law_turn (k_turn1.mono h)
  have k_deed0 := ok_law_deed (P := P) (w := w) (base := base) (mg := mg) (bc := bcM) (c := cM) (P0 := cB.2) (t := 25) (d := 0) (by decide) (by decide) F_law_deed T klSe (m_Session_xgetitem _ (by decide)) (c_law_next _ (by decide)) (c_law_is _ (by decide)) (c_turn1 _ (by decide))
  have c_deed0 := fun n (h : 26 ≤ n) => caln_of X G fc_glo__law_deed (k_deed0.mono h)
  have k_block0 := ok_law_block (t := 25) (d := 0) (by decide) (by decide) F_law_block hcode TB T klSe BC (mk_F _ (by decide)) (c_law_some _ (by decide)) (c_law_less _ (by decide)) (att 27 27 (by decide) (by decide)) (c_deed0 _ (by decide))
  have c_block0 := fun n (h : 29 ≤ n) => cal_of X G fc_glo__law_block (k_block0.mono h)
  have k_turn0 := ok_law_turn (P := P) (w := w) (base := base) (mg := mg) (c := cM) (P0 := cB.2) (t := 29) (d := 0) (by decide) (by decide) F_law_turn T klSe (m_Session_branch _ (by decide)) (c_law_next _ (by decide)) (c_law_is _ (by decide)) (c_law_put _ (by decide)) (c_law_undo _ (by decide)) (c_law_tried _ (by decide)) (fun h => (c_block0 _ (by decide)))
  have c_turn0 := fun n (h : 30 ≤ n) => cal_of X G fc_glo__law_turn (k_turn0.mono h)
  exact ok_law (c := cM) (t := 30) (by decide) F_law T se (c_law_next _ (by decide)) (c_law_kinds _ (by decide)) (c_law_objects _ (by decide)) (c_law_parts _ (by decide)) (c_law_question _ (by decide)) (mk_S _ (by decide)) (mk_St _ (by decide)) (mk_N _ (by decide)) (mk_Se _ (by decide)) klSt (p_Store_cells _ (by decide)) klN (p_Asker_question _ (by decide)) (p_Asker_store _ (by decide)) (m_Question_xeq _ (by decide)) (ne_ok fc_ne_Question) (m_Store_xeq _ (by decide)) (ne_ok fc_ne_Store) (c_law_is _ (by decide)) (c_turn0 _ (by decide))
end DL
namespace DL
open PySem PySem.Spec PyProof.Rows L2
/-! ### the law at the head's heap -/
theorem start_sm {K : PySem.W.Frag} {H : Hp} {a P0 : Addr} {o : HO} (ha : H a = some o) (hP : H P0 = some (.tbl #[])) (h1 : ∀ x, o ≠ .own x) (h2 : o ≠ .xd []) (h3 : o ≠ .tbl #[]) : SM K (fun _ => none) H [(a, .opq o), (P0, .tab qLam)] := by
  have ne : a ≠ P0 := fun z => by
    rw [z, hP] at ha
    exact h3 (Option.some.inj ha).symm
  refine ⟨fun _ _ e => (by cases e), ?_, fun p hp => ?_⟩
  · exact List.nodup_cons.mpr ⟨fun z => ne (List.mem_singleton.mp z), List.nodup_cons.mpr ⟨fun z => (List.not_mem_nil z).elim, List.nodup_nil⟩⟩
  · rcases List.mem_cons.mp hp with rfl | hp
    · exact ⟨rfl, ha, h1, h2⟩
    · obtain rfl := List.mem_singleton.mp hp
      exact ⟨rfl, #[], hP, True.intro, fun pos cv z => (by cases z)⟩
theorem start_sm0 {K : PySem.W.Frag} {H : Hp} {P0 : Addr} (hP : H P0 = some (.tbl #[])) : SM K (fun _ => none) H [(P0, .tab qLam)] := by
  refine ⟨fun _ _ e => (by cases e), List.nodup_cons.mpr ⟨fun z => (List.not_mem_nil z).elim, List.nodup_nil⟩, fun p hp => ?_⟩
  obtain rfl := List.mem_singleton.mp hp
  exact ⟨rfl, #[], hP, True.intro, fun pos cv z => (by cases z)⟩
theorem start_law {K : PySem.W.Frag} {H : Hp} {a P0 : Addr} {ns : List Int} (hP : H P0 = some (.tbl #[])) (hS : SqL K H a (ns.map V.int)) : spD K (sLaw K P0) [.ref a] H (fun v _ => v = .bl true) fun _ _ _ => False := by
  have q : DK K (fun _ => none) (fun d _ => d = .bl true) (fun v _ => v = .bl true) := fun d v G' H' μ' _ _ r e => by
    subst e
    cases r
    rfl
  have e : ∀ (c : Value) (G' H' : Hp) (μ' : Mu), Same (fun _ => none) G' → SM K G' H' μ' → noX c μ' → False := fun _ _ _ _ _ _ z => z
  rcases hS with (hS | ⟨o, hS⟩) | hS
  · exact ⟨_, _, [.ref a], _, noX, start_sm hS hP (fun x z => by cases z) (fun z => by cases z) (fun z => by cases z), .cons (.ref a) .nil, ⟨a, ns, rfl, .inr ⟨_, _, .inl rfl, .here⟩, .there .here, fun _ => rfl⟩, q, e⟩
  · exact ⟨_, _, [.ref a], _, noX, start_sm hS hP (fun x z => by cases z) (fun z => by cases z) (fun z => by cases z), .cons (.ref a) .nil, ⟨a, ns, rfl, .inr ⟨_, _, .inr ⟨o, rfl⟩, .here⟩, .there .here, fun _ => rfl⟩, q, e⟩
  · exact ⟨_, _, [.ref a], _, noX, start_sm0 hP, .cons (.ref a) .nil, ⟨a, ns, rfl, .inl fun _ => .inr hS, .here, fun _ => rfl⟩, q, e⟩
theorem law_at (l : PySem.W.OpenLaw) (w : World) {mg : Str → Option Value} {fa : Addr} {h : Heap} (Y : ∃ K : PySem.W.Frag, K.In h ∧ SaysM fcs fns h K) (G : h.Ns mainGlobals mg) (hmg : mg ("law" : Str) = some (.ref fa)) : ∃ K : PySem.W.Frag, K.In h ∧ LamX.LawAtS l w K CX0 32 63 "_law_script" mg fa h := by
  obtain ⟨K, X, S⟩ := Y
  have fc : (Fc.glo "law" 1349).ok K = true := S.fc _ (List.mem_of_getElem? (i := 159) rfl)
  have e := hmg.symm.trans (glo_ok X G fc)
  cases e
  have EF : ∃ fd, Fd K "law" "law" s_law 1349 fd ∧ fd.code = .ref 1348 := S.fn f_law (List.mem_of_getElem? (i := 109) rfl)
  obtain ⟨fd, F, -⟩ := EF
  have hd : PySem.W.codeHdIn K cB.1 cB.2 = true := S.hd ⟨f_law_block, List.mem_of_getElem? (i := 107) rfl, rfl⟩
  refine ⟨K, X, fd, [cB], spD K (sLaw K cB.2), fun p hp => ?_, fun p hp => ?_, fun p hp => ?_, fun s u => ?_, fun H a ns _ _ hT hS => start_law (hT _ (List.mem_singleton.mpr rfl)) hS, fun base X' G' TB => law_all (P := l.prog) (w := w) (base := base) X G S (TB _ (List.mem_singleton.mpr rfl)) F⟩
  · obtain rfl := List.mem_singleton.mp hp
    exact S.empty
  · obtain rfl := List.mem_singleton.mp hp
    exact S.out
  · obtain rfl := List.mem_singleton.mp hp
    exact PySem.W.codeHd_of_K X hd
  · exact (FunD.bindsA (ps := p_law) F fun _ _ _ _ _ _ us hl => match us, hl with | [_], _ => rfl) s [u] rfl
end DL
theorem PySem.Challenge.cw_emptyup_k39_whole_sessions_holds : PySem.Challenge.rw_emptyup_k39_whole_sessions.Holds :=
  DL.fin fun w _ _ _ Y G hmg => DL.law_at _ w Y G hmg
