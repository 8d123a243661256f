import PyProof.Rows.All
import Wide.All
import OpenK.AllK
import Wide.FinOn
import HandS.ForMost
import HandS.Wide
import HandS.IsInst
import HandS.Evl
import HandS.Walk
import HandS.Conv
import HandS.Deep
import HandS.More
import HandS.SetFor
import HandS.Strs
import HandS.TupSets
import HandS.TupAny
import KE.KDictCopyH
import HandS.DictComp
import HandS.Zip
import HandS.Head2
import HandS.HeadEnd
import HandS.HeadHook2
import PySem.Challenge.RW_commonground_k72_remaining_values
set_option Elab.async false
set_option linter.all false
set_option maxRecDepth 100000
set_option maxHeartbeats 4000000

namespace CG
open PySem L2
def top (i : Nat) : Stmt := PySem.Challenge.pw_commonground_k72_remaining_values.main.body.getD i (.Pass ⟨0, 0, 0, 0⟩)
abbrev s_wall : Stmt := top 0
theorem sc_wall : FnScope ["k"] ["k"] (defScope s_wall) := ⟨rfl, rfl, rfl, by decide +kernel, rfl, by decide +kernel, by decide +kernel⟩
theorem st_wall (v0 : V) : L2.start ["k"] [v0] = [some v0] := rfl
abbrev s_relation_holds : Stmt := top 2
theorem sc_relation_holds : FnScope ["relation", "left", "right"] ["relation", "left", "right"] (defScope s_relation_holds) := ⟨rfl, rfl, rfl, by decide +kernel, rfl, by decide +kernel, by decide +kernel⟩
theorem st_relation_holds (v0 v1 v2 : V) : L2.start ["relation", "left", "right"] [v0, v1, v2] = [some v0, some v1, some v2] := rfl
abbrev s_literal_holds : Stmt := top 3
theorem sc_literal_holds : FnScope ["literal", "worth"] ["literal", "worth"] (defScope s_literal_holds) := ⟨rfl, rfl, rfl, by decide +kernel, rfl, by decide +kernel, by decide +kernel⟩
theorem st_literal_holds (v0 v1 : V) : L2.start ["literal", "worth"] [v0, v1] = [some v0, some v1] := rfl
abbrev s_terms_sum : Stmt := top 4
theorem sc_terms_sum : FnScope ["terms", "point", "total", "v", "c"] ["terms", "point"] (defScope s_terms_sum) := ⟨rfl, rfl, rfl, by decide +kernel, rfl, by decide +kernel, by decide +kernel⟩
theorem st_terms_sum (v0 v1 : V) : L2.start ["terms", "point", "total", "v", "c"] [v0, v1] = [some v0, some v1, none, none, none] := rfl
abbrev s_unknowns_in : Stmt := top 6
theorem sc_unknowns_in : FnScope ["fact", "part"] ["fact"] (defScope s_unknowns_in) := ⟨rfl, rfl, rfl, by decide +kernel, rfl, by decide +kernel, by decide +kernel⟩
theorem st_unknowns_in (v0 : V) : L2.start ["fact", "part"] [v0] = [some v0, none] := rfl
abbrev s_full_domains : Stmt := top 8
theorem sc_full_domains : FnScope ["model", "unknowns", "v"] ["model", "unknowns"] (defScope s_full_domains) := ⟨rfl, rfl, rfl, by decide +kernel, rfl, by decide +kernel, by decide +kernel⟩
theorem st_full_domains (v0 v1 : V) : L2.start ["model", "unknowns", "v"] [v0, v1] = [some v0, some v1, none] := rfl
abbrev s_keep_literal : Stmt := top 9
theorem sc_keep_literal : FnScope ["domains", "literal", "v", "a"] ["domains", "literal"] (defScope s_keep_literal) := ⟨rfl, rfl, rfl, by decide +kernel, rfl, by decide +kernel, by decide +kernel⟩
theorem st_keep_literal (v0 v1 : V) : L2.start ["domains", "literal", "v", "a"] [v0, v1] = [some v0, some v1, none, none] := rfl
abbrev s_least_of : Stmt := top 10
theorem sc_least_of : FnScope ["c", "values"] ["c", "values"] (defScope s_least_of) := ⟨rfl, rfl, rfl, by decide +kernel, rfl, by decide +kernel, by decide +kernel⟩
theorem st_least_of (v0 v1 : V) : L2.start ["c", "values"] [v0, v1] = [some v0, some v1] := rfl
abbrev s_apply_row : Stmt := top 11
theorem sc_apply_row : FnScope ["domains", "row", "least", "cut", "v", "c", "rest", "values", "a"] ["domains", "row"] (defScope s_apply_row) := ⟨rfl, rfl, rfl, by decide +kernel, rfl, by decide +kernel, by decide +kernel⟩
theorem st_apply_row (v0 v1 : V) : L2.start ["domains", "row", "least", "cut", "v", "c", "rest", "values", "a"] [v0, v1] = [some v0, some v1, none, none, none, none, none, none, none] := rfl
abbrev s_live_literals : Stmt := top 12
theorem sc_live_literals : FnScope ["domains", "literals", "literal", "a"] ["domains", "literals"] (defScope s_live_literals) := ⟨rfl, rfl, rfl, by decide +kernel, rfl, by decide +kernel, by decide +kernel⟩
theorem st_live_literals (v0 v1 : V) : L2.start ["domains", "literals", "literal", "a"] [v0, v1] = [some v0, some v1, none, none] := rfl
abbrev s_Remaining___init__ : Stmt := inClass (top 14) 0
theorem sc_Remaining___init__ : FnScope ["self", "model"] ["self", "model"] (defScope s_Remaining___init__) := ⟨rfl, rfl, rfl, by decide +kernel, rfl, by decide +kernel, by decide +kernel⟩
theorem st_Remaining___init__ (v0 v1 : V) : L2.start ["self", "model"] [v0, v1] = [some v0, some v1] := rfl
abbrev s_Remaining_left : Stmt := inClass (top 14) 1
theorem sc_Remaining_left : FnScope ["self", "v"] ["self", "v"] (defScope s_Remaining_left) := ⟨rfl, rfl, rfl, by decide +kernel, rfl, by decide +kernel, by decide +kernel⟩
theorem st_Remaining_left (v0 v1 : V) : L2.start ["self", "v"] [v0, v1] = [some v0, some v1] := rfl
abbrev s_Remaining_fix : Stmt := inClass (top 14) 2
theorem sc_Remaining_fix : FnScope ["self", "v", "a"] ["self", "v", "a"] (defScope s_Remaining_fix) := ⟨rfl, rfl, rfl, by decide +kernel, rfl, by decide +kernel, by decide +kernel⟩
theorem st_Remaining_fix (v0 v1 v2 : V) : L2.start ["self", "v", "a"] [v0, v1, v2] = [some v0, some v1, some v2] := rfl
abbrev s_Remaining_single : Stmt := inClass (top 14) 3
theorem sc_Remaining_single : FnScope ["self", "v"] ["self"] (defScope s_Remaining_single) := ⟨rfl, rfl, rfl, by decide +kernel, rfl, by decide +kernel, by decide +kernel⟩
theorem st_Remaining_single (v0 : V) : L2.start ["self", "v"] [v0] = [some v0, none] := rfl
abbrev s_Remaining_apply : Stmt := inClass (top 14) 4
theorem sc_Remaining_apply : FnScope ["self", "fact", "before", "live", "v", "many"] ["self", "fact"] (defScope s_Remaining_apply) := ⟨rfl, rfl, rfl, by decide +kernel, rfl, by decide +kernel, by decide +kernel⟩
theorem st_Remaining_apply (v0 v1 : V) : L2.start ["self", "fact", "before", "live", "v", "many"] [v0, v1] = [some v0, some v1, none, none, none, none] := rfl
abbrev s_Taken___init__ : Stmt := inClass (top 18) 0
theorem sc_Taken___init__ : FnScope ["self", "what"] ["self", "what"] (defScope s_Taken___init__) := ⟨rfl, rfl, rfl, by decide +kernel, rfl, by decide +kernel, by decide +kernel⟩
theorem st_Taken___init__ (v0 v1 : V) : L2.start ["self", "what"] [v0, v1] = [some v0, some v1] := rfl
abbrev s_NoSuch___init__ : Stmt := inClass (top 19) 0
theorem sc_NoSuch___init__ : FnScope ["self", "what"] ["self", "what"] (defScope s_NoSuch___init__) := ⟨rfl, rfl, rfl, by decide +kernel, rfl, by decide +kernel, by decide +kernel⟩
theorem st_NoSuch___init__ (v0 v1 : V) : L2.start ["self", "what"] [v0, v1] = [some v0, some v1] := rfl
abbrev s_is_label : Stmt := top 23
theorem sc_is_label : FnScope ["text", "sign"] ["text"] (defScope s_is_label) := ⟨rfl, rfl, rfl, by decide +kernel, rfl, by decide +kernel, by decide +kernel⟩
theorem st_is_label (v0 : V) : L2.start ["text", "sign"] [v0] = [some v0, none] := rfl
abbrev s_bounds_fit : Stmt := top 27
theorem sc_bounds_fit : FnScope ["low", "high"] ["low", "high"] (defScope s_bounds_fit) := ⟨rfl, rfl, rfl, by decide +kernel, rfl, by decide +kernel, by decide +kernel⟩
theorem st_bounds_fit (v0 v1 : V) : L2.start ["low", "high"] [v0, v1] = [some v0, some v1] := rfl
abbrev s_Model___init__ : Stmt := inClass (top 28) 0
theorem sc_Model___init__ : FnScope ["self", "unknowns", "name", "low", "high"] ["self", "unknowns"] (defScope s_Model___init__) := ⟨rfl, rfl, rfl, by decide +kernel, rfl, by decide +kernel, by decide +kernel⟩
theorem st_Model___init__ (v0 v1 : V) : L2.start ["self", "unknowns", "name", "low", "high"] [v0, v1] = [some v0, some v1, none, none, none] := rfl
abbrev s_Model__need : Stmt := inClass (top 28) 1
theorem sc_Model__need : FnScope ["self", "v"] ["self", "v"] (defScope s_Model__need) := ⟨rfl, rfl, rfl, by decide +kernel, rfl, by decide +kernel, by decide +kernel⟩
theorem st_Model__need (v0 v1 : V) : L2.start ["self", "v"] [v0, v1] = [some v0, some v1] := rfl
abbrev s_Model_many : Stmt := inClass (top 28) 2
theorem sc_Model_many : FnScope ["self"] ["self"] (defScope s_Model_many) := ⟨rfl, rfl, rfl, by decide +kernel, rfl, by decide +kernel, by decide +kernel⟩
theorem st_Model_many (v0 : V) : L2.start ["self"] [v0] = [some v0] := rfl
abbrev s_Model_name : Stmt := inClass (top 28) 3
theorem sc_Model_name : FnScope ["self", "v"] ["self", "v"] (defScope s_Model_name) := ⟨rfl, rfl, rfl, by decide +kernel, rfl, by decide +kernel, by decide +kernel⟩
theorem st_Model_name (v0 v1 : V) : L2.start ["self", "v"] [v0, v1] = [some v0, some v1] := rfl
abbrev s_Model_low : Stmt := inClass (top 28) 4
theorem sc_Model_low : FnScope ["self", "v"] ["self", "v"] (defScope s_Model_low) := ⟨rfl, rfl, rfl, by decide +kernel, rfl, by decide +kernel, by decide +kernel⟩
theorem st_Model_low (v0 v1 : V) : L2.start ["self", "v"] [v0, v1] = [some v0, some v1] := rfl
abbrev s_Model_high : Stmt := inClass (top 28) 5
theorem sc_Model_high : FnScope ["self", "v"] ["self", "v"] (defScope s_Model_high) := ⟨rfl, rfl, rfl, by decide +kernel, rfl, by decide +kernel, by decide +kernel⟩
theorem st_Model_high (v0 v1 : V) : L2.start ["self", "v"] [v0, v1] = [some v0, some v1] := rfl
abbrev s_Model_number : Stmt := inClass (top 28) 6
theorem sc_Model_number : FnScope ["self", "name"] ["self", "name"] (defScope s_Model_number) := ⟨rfl, rfl, rfl, by decide +kernel, rfl, by decide +kernel, by decide +kernel⟩
theorem st_Model_number (v0 v1 : V) : L2.start ["self", "name"] [v0, v1] = [some v0, some v1] := rfl
abbrev s_Model_labels : Stmt := inClass (top 28) 7
theorem sc_Model_labels : FnScope ["self"] ["self"] (defScope s_Model_labels) := ⟨rfl, rfl, rfl, by decide +kernel, rfl, by decide +kernel, by decide +kernel⟩
theorem st_Model_labels (v0 : V) : L2.start ["self"] [v0] = [some v0] := rfl
abbrev s_Model_has : Stmt := inClass (top 28) 8
theorem sc_Model_has : FnScope ["self", "label"] ["self", "label"] (defScope s_Model_has) := ⟨rfl, rfl, rfl, by decide +kernel, rfl, by decide +kernel, by decide +kernel⟩
theorem st_Model_has (v0 v1 : V) : L2.start ["self", "label"] [v0, v1] = [some v0, some v1] := rfl
abbrev s_Model_body : Stmt := inClass (top 28) 9
theorem sc_Model_body : FnScope ["self", "label"] ["self", "label"] (defScope s_Model_body) := ⟨rfl, rfl, rfl, by decide +kernel, rfl, by decide +kernel, by decide +kernel⟩
theorem st_Model_body (v0 v1 : V) : L2.start ["self", "label"] [v0, v1] = [some v0, some v1] := rfl
abbrev s_Model_goal : Stmt := inClass (top 28) 10
theorem sc_Model_goal : FnScope ["self"] ["self"] (defScope s_Model_goal) := ⟨rfl, rfl, rfl, by decide +kernel, rfl, by decide +kernel, by decide +kernel⟩
theorem st_Model_goal (v0 : V) : L2.start ["self"] [v0] = [some v0] := rfl
abbrev s_Model_put : Stmt := inClass (top 28) 11
theorem sc_Model_put : FnScope ["self", "label", "body"] ["self", "label", "body"] (defScope s_Model_put) := ⟨rfl, rfl, rfl, by decide +kernel, rfl, by decide +kernel, by decide +kernel⟩
theorem st_Model_put (v0 v1 v2 : V) : L2.start ["self", "label", "body"] [v0, v1, v2] = [some v0, some v1, some v2] := rfl
abbrev s_Model_withdraw : Stmt := inClass (top 28) 12
theorem sc_Model_withdraw : FnScope ["self", "label"] ["self", "label"] (defScope s_Model_withdraw) := ⟨rfl, rfl, rfl, by decide +kernel, rfl, by decide +kernel, by decide +kernel⟩
theorem st_Model_withdraw (v0 v1 : V) : L2.start ["self", "label"] [v0, v1] = [some v0, some v1] := rfl
abbrev s_Model_move : Stmt := inClass (top 28) 13
theorem sc_Model_move : FnScope ["self", "v", "low", "high"] ["self", "v", "low", "high"] (defScope s_Model_move) := ⟨rfl, rfl, rfl, by decide +kernel, rfl, by decide +kernel, by decide +kernel⟩
theorem st_Model_move (v0 v1 v2 v3 : V) : L2.start ["self", "v", "low", "high"] [v0, v1, v2, v3] = [some v0, some v1, some v2, some v3] := rfl
abbrev s_Model_aim : Stmt := inClass (top 28) 14
theorem sc_Model_aim : FnScope ["self", "goal"] ["self", "goal"] (defScope s_Model_aim) := ⟨rfl, rfl, rfl, by decide +kernel, rfl, by decide +kernel, by decide +kernel⟩
theorem st_Model_aim (v0 v1 : V) : L2.start ["self", "goal"] [v0, v1] = [some v0, some v1] := rfl
abbrev s_Model_inside : Stmt := inClass (top 28) 15
theorem sc_Model_inside : FnScope ["self", "point"] ["self", "point"] (defScope s_Model_inside) := ⟨rfl, rfl, rfl, by decide +kernel, rfl, by decide +kernel, by decide +kernel⟩
theorem st_Model_inside (v0 v1 : V) : L2.start ["self", "point"] [v0, v1] = [some v0, some v1] := rfl
abbrev s_Model_broken : Stmt := inClass (top 28) 16
theorem sc_Model_broken : FnScope ["self", "point"] ["self", "point"] (defScope s_Model_broken) := ⟨rfl, rfl, rfl, by decide +kernel, rfl, by decide +kernel, by decide +kernel⟩
theorem st_Model_broken (v0 v1 : V) : L2.start ["self", "point"] [v0, v1] = [some v0, some v1] := rfl
abbrev s_Model_is_solution : Stmt := inClass (top 28) 17
theorem sc_Model_is_solution : FnScope ["self", "point"] ["self", "point"] (defScope s_Model_is_solution) := ⟨rfl, rfl, rfl, by decide +kernel, rfl, by decide +kernel, by decide +kernel⟩
theorem st_Model_is_solution (v0 v1 : V) : L2.start ["self", "point"] [v0, v1] = [some v0, some v1] := rfl
abbrev s_Model_worth : Stmt := inClass (top 28) 18
theorem sc_Model_worth : FnScope ["self", "point"] ["self", "point"] (defScope s_Model_worth) := ⟨rfl, rfl, rfl, by decide +kernel, rfl, by decide +kernel, by decide +kernel⟩
theorem st_Model_worth (v0 v1 : V) : L2.start ["self", "point"] [v0, v1] = [some v0, some v1] := rfl
abbrev s_Model_is_better : Stmt := inClass (top 28) 19
theorem sc_Model_is_better : FnScope ["self", "first", "second"] ["self", "first", "second"] (defScope s_Model_is_better) := ⟨rfl, rfl, rfl, by decide +kernel, rfl, by decide +kernel, by decide +kernel⟩
theorem st_Model_is_better (v0 v1 v2 : V) : L2.start ["self", "first", "second"] [v0, v1, v2] = [some v0, some v1, some v2] := rfl
abbrev s_Model_goal_row : Stmt := inClass (top 28) 20
theorem sc_Model_goal_row : FnScope ["self", "worth"] ["self", "worth"] (defScope s_Model_goal_row) := ⟨rfl, rfl, rfl, by decide +kernel, rfl, by decide +kernel, by decide +kernel⟩
theorem st_Model_goal_row (v0 v1 : V) : L2.start ["self", "worth"] [v0, v1] = [some v0, some v1] := rfl
abbrev s_Model_improving_row : Stmt := inClass (top 28) 21
theorem sc_Model_improving_row : FnScope ["self", "worth"] ["self", "worth"] (defScope s_Model_improving_row) := ⟨rfl, rfl, rfl, by decide +kernel, rfl, by decide +kernel, by decide +kernel⟩
theorem st_Model_improving_row (v0 v1 : V) : L2.start ["self", "worth"] [v0, v1] = [some v0, some v1] := rfl
abbrev s_Model_told : Stmt := inClass (top 28) 22
theorem sc_Model_told : FnScope ["self"] ["self"] (defScope s_Model_told) := ⟨rfl, rfl, rfl, by decide +kernel, rfl, by decide +kernel, by decide +kernel⟩
theorem st_Model_told (v0 : V) : L2.start ["self"] [v0] = [some v0] := rfl
abbrev s_Model_copy : Stmt := inClass (top 28) 23
theorem sc_Model_copy : FnScope ["self"] ["self"] (defScope s_Model_copy) := ⟨rfl, rfl, rfl, by decide +kernel, rfl, by decide +kernel, by decide +kernel⟩
theorem st_Model_copy (v0 : V) : L2.start ["self"] [v0] = [some v0] := rfl
abbrev s_law_draw : Stmt := top 30
theorem sc_law_draw : FnScope ["_law_tape_here", "_law_many", "_law_cells", "_law_k", "_law_cell", "_law_digit"] ["_law_tape_here", "_law_many"] (defScope s_law_draw) := ⟨rfl, rfl, rfl, by decide +kernel, rfl, by decide +kernel, by decide +kernel⟩
theorem st_law_draw (v0 v1 : V) : L2.start ["_law_tape_here", "_law_many", "_law_cells", "_law_k", "_law_cell", "_law_digit"] [v0, v1] = [some v0, some v1, none, none, none, none] := rfl
abbrev s_law_tape : Stmt := top 31
theorem sc_law_tape : FnScope ["_law_script"] ["_law_script"] (defScope s_law_tape) := ⟨rfl, rfl, rfl, by decide +kernel, rfl, by decide +kernel, by decide +kernel⟩
theorem st_law_tape (v0 : V) : L2.start ["_law_script"] [v0] = [some v0] := rfl
abbrev s_law_terms : Stmt := top 32
theorem sc_law_terms : FnScope ["_law_tape_here", "_law_many", "_law_terms_here", "_law_v", "_law_c"] ["_law_tape_here", "_law_many"] (defScope s_law_terms) := ⟨rfl, rfl, rfl, by decide +kernel, rfl, by decide +kernel, by decide +kernel⟩
theorem st_law_terms (v0 v1 : V) : L2.start ["_law_tape_here", "_law_many", "_law_terms_here", "_law_v", "_law_c"] [v0, v1] = [some v0, some v1, none, none, none] := rfl
abbrev s_law_literal : Stmt := top 33
theorem sc_law_literal : FnScope ["_law_tape_here", "_law_many", "_law_relation"] ["_law_tape_here", "_law_many"] (defScope s_law_literal) := ⟨rfl, rfl, rfl, by decide +kernel, rfl, by decide +kernel, by decide +kernel⟩
theorem st_law_literal (v0 v1 : V) : L2.start ["_law_tape_here", "_law_many", "_law_relation"] [v0, v1] = [some v0, some v1, none] := rfl
abbrev s_law_some : Stmt := top 34
theorem sc_law_some : FnScope ["_law_tape_here", "_law_many", "_law_least", "_law_rest", "_law_found", "_law_k"] ["_law_tape_here", "_law_many", "_law_least"] (defScope s_law_some) := ⟨rfl, rfl, rfl, by decide +kernel, rfl, by decide +kernel, by decide +kernel⟩
theorem st_law_some (v0 v1 v2 : V) : L2.start ["_law_tape_here", "_law_many", "_law_least", "_law_rest", "_law_found", "_law_k"] [v0, v1, v2] = [some v0, some v1, some v2, none, none, none] := rfl
abbrev s_law_body : Stmt := top 35
theorem sc_law_body : FnScope ["_law_tape_here", "_law_many", "_law_kind", "_law_relation", "_law_literals", "_law_k", "_law_literal_here", "_law_numbers", "_law_rows", "_law_entries", "_law_v"] ["_law_tape_here", "_law_many"] (defScope s_law_body) := ⟨rfl, rfl, rfl, by decide +kernel, rfl, by decide +kernel, by decide +kernel⟩
theorem st_law_body (v0 v1 : V) : L2.start ["_law_tape_here", "_law_many", "_law_kind", "_law_relation", "_law_literals", "_law_k", "_law_literal_here", "_law_numbers", "_law_rows", "_law_entries", "_law_v"] [v0, v1] = [some v0, some v1, none, none, none, none, none, none, none, none, none] := rfl
abbrev s_law_world : Stmt := top 36
theorem sc_law_world : FnScope ["_law_tape_here", "_law_most", "_law_width", "_law_bodies", "_law_unknowns", "_law_v", "_law_low", "_law_many", "_law_found", "_law_goal", "_law_k"] ["_law_tape_here", "_law_most", "_law_width", "_law_bodies"] (defScope s_law_world) := ⟨rfl, rfl, rfl, by decide +kernel, rfl, by decide +kernel, by decide +kernel⟩
theorem st_law_world (v0 v1 v2 v3 : V) : L2.start ["_law_tape_here", "_law_most", "_law_width", "_law_bodies", "_law_unknowns", "_law_v", "_law_low", "_law_many", "_law_found", "_law_goal", "_law_k"] [v0, v1, v2, v3] = [some v0, some v1, some v2, some v3, none, none, none, none, none, none, none] := rfl
abbrev s_law_rel : Stmt := top 37
theorem sc_law_rel : FnScope ["_law_relation", "_law_left", "_law_right"] ["_law_relation", "_law_left", "_law_right"] (defScope s_law_rel) := ⟨rfl, rfl, rfl, by decide +kernel, rfl, by decide +kernel, by decide +kernel⟩
theorem st_law_rel (v0 v1 v2 : V) : L2.start ["_law_relation", "_law_left", "_law_right"] [v0, v1, v2] = [some v0, some v1, some v2] := rfl
abbrev s_law_fact : Stmt := top 38
theorem sc_law_fact : FnScope ["_law_tape_here", "_law_many", "_law_k"] ["_law_tape_here", "_law_many"] (defScope s_law_fact) := ⟨rfl, rfl, rfl, by decide +kernel, rfl, by decide +kernel, by decide +kernel⟩
theorem st_law_fact (v0 v1 : V) : L2.start ["_law_tape_here", "_law_many", "_law_k"] [v0, v1] = [some v0, some v1, none] := rfl
abbrev s_law_same : Stmt := top 39
theorem sc_law_same : FnScope ["_law_answer", "_law_due"] ["_law_answer", "_law_due"] (defScope s_law_same) := ⟨rfl, rfl, rfl, by decide +kernel, rfl, by decide +kernel, by decide +kernel⟩
theorem st_law_same (v0 v1 : V) : L2.start ["_law_answer", "_law_due"] [v0, v1] = [some v0, some v1] := rfl
abbrev s_law_apply : Stmt := top 40
theorem sc_law_apply : FnScope ["_law_left", "_law_fact_here", "_law_new", "_law_least", "_law_v", "_law_c", "_law_rest", "_law_live", "_law_literal_here", "_law_relation", "_law_b", "_law_values", "_law_a"] ["_law_left", "_law_fact_here"] (defScope s_law_apply) := ⟨rfl, rfl, rfl, by decide +kernel, rfl, by decide +kernel, by decide +kernel⟩
theorem st_law_apply (v0 v1 : V) : L2.start ["_law_left", "_law_fact_here", "_law_new", "_law_least", "_law_v", "_law_c", "_law_rest", "_law_live", "_law_literal_here", "_law_relation", "_law_b", "_law_values", "_law_a"] [v0, v1] = [some v0, some v1, none, none, none, none, none, none, none, none, none, none, none] := rfl
abbrev s_law_lost : Stmt := top 41
theorem sc_law_lost : FnScope ["_law_left", "_law_new", "_law_v"] ["_law_left", "_law_new"] (defScope s_law_lost) := ⟨rfl, rfl, rfl, by decide +kernel, rfl, by decide +kernel, by decide +kernel⟩
theorem st_law_lost (v0 v1 : V) : L2.start ["_law_left", "_law_new", "_law_v"] [v0, v1] = [some v0, some v1, none] := rfl
abbrev s_law_agrees : Stmt := top 42
theorem sc_law_agrees : FnScope ["_law_remaining", "_law_left", "_law_v", "_law_told", "_law_values"] ["_law_remaining", "_law_left"] (defScope s_law_agrees) := ⟨rfl, rfl, rfl, by decide +kernel, rfl, by decide +kernel, by decide +kernel⟩
theorem st_law_agrees (v0 v1 : V) : L2.start ["_law_remaining", "_law_left", "_law_v", "_law_told", "_law_values"] [v0, v1] = [some v0, some v1, none, none, none] := rfl
abbrev s_law : Stmt := top 43
theorem sc_law : FnScope ["_law_script", "_law_tape_here", "_law_unknowns", "_law_many", "_law_model", "_law_remaining", "_law_left", "_law_k", "_law_kind", "_law_v", "_law_a", "_law_fact_here", "_law_new", "_law_told", "_law_name", "_law_low", "_law_high"] ["_law_script"] (defScope s_law) := ⟨rfl, rfl, rfl, by decide +kernel, rfl, by decide +kernel, by decide +kernel⟩
theorem st_law (v0 : V) : L2.start ["_law_script", "_law_tape_here", "_law_unknowns", "_law_many", "_law_model", "_law_remaining", "_law_left", "_law_k", "_law_kind", "_law_v", "_law_a", "_law_fact_here", "_law_new", "_law_told", "_law_name", "_law_low", "_law_high"] [v0] = [some v0, none, none, none, none, none, none, none, none, none, none, none, none, none, none, none, none] := rfl
/-! ### the head by one kernel run: the top's facts are looked at, nothing is written out -/
section
variable {K : PySem.W.Frag}
def fOfG (x : String) : List He.Fa := [.glo (Str.ofString x), .keep (Str.ofString x)]
theorem meth3 {x m : Str} (c : (He.Fa.meth x m).ok K = true) : PySem.W.findIn K (.ref (He.ga K x)) m = some (some (.ref (He.ma K (He.ga K x) m))) ∧ PySem.W.isFn K (.ref (He.ma K (He.ga K x) m)) = true ∧ PySem.W.keepIn K (.ref (He.ma K (He.ga K x) m)) = true := by
  obtain ⟨c1, c⟩ := He.ba c
  obtain ⟨c2, c3⟩ := He.ba c
  exact ⟨He.eqO_ok c1, c2, c3⟩
def tupX (K : PySem.W.Frag) (a : Addr) (vs : List V) : Bool := match K.lookup a with
  | some ⟨.type c, _, .seq its _, _⟩ => decide (c = "tuple") && (decide (its.size ≤ sizeLine) && He.relAll vs its.toList)
  | _ => false
theorem tupX_ok {a : Addr} {vs : List V} (h : tupX K a vs = true) : ∃ (o : Obj) (its : Array Value) (n : Nat), K.lookup a = some o ∧ o.cls = .type "tuple" ∧ o.data = .seq its n ∧ its.size ≤ sizeLine ∧ Vals vs its.toList := by
  unfold tupX at h
  cases q : K.lookup a with
  | none => rw [q] at h; cases h
  | some o =>
    obtain ⟨oc, od, dt, osl⟩ := o
    rw [q] at h
    cases oc with
    | type c =>
      cases dt with
      | seq its n =>
        obtain ⟨h1, h2⟩ := He.ba (show (decide (c = "tuple") && (decide (its.size ≤ sizeLine) && He.relAll vs its.toList)) = true from h)
        obtain ⟨h3, h4⟩ := He.ba h2
        exact ⟨_, its, n, rfl, congrArg Value.type (of_decide_eq_true h1), rfl, of_decide_eq_true h3, He.relAll_ok h4⟩
      | _ => cases h
    | _ => cases dt <;> cases h
def conX (K : PySem.W.Frag) (x : Str) (v : V) : Bool := match PySem.W.nsIn K mainGlobals x with
  | some (some u) => He.relB v u
  | _ => false
def conU (K : PySem.W.Frag) (x : Str) : Value := match PySem.W.nsIn K mainGlobals x with
  | some (some u) => u
  | _ => .none
theorem conX_ok {x : Str} {v : V} (h : conX K x v = true) : PySem.W.nsIn K mainGlobals x = some (some (conU K x)) ∧ RelV v (conU K x) := by
  unfold conX at h
  unfold conU
  cases q : PySem.W.nsIn K mainGlobals x with
  | none => rw [q] at h; cases h
  | some o =>
    rw [q] at h
    cases o with
    | none => cases h
    | some u => exact ⟨rfl, He.relB_ok h⟩
end
def obsA (as : List Addr) (fa : List He.Fa) (fn : List He.FnD) (ex : PySem.W.Frag → Bool) (g : Addr → Option Obj) : He.Al × Bool := (He.obsE fa fn (He.frG g as), ex (He.frG g as))
def hookA (as : List Addr) (fa : List He.Fa) (fn : List He.FnD) (ex : PySem.W.Frag → Bool) : PySem.W.Hook where
  α := He.Al × Bool
  obs := fun s => obsA as fa fn ex s.heap.get?
  val := fun _ => (He.valE fn, true)
  says := fun _ h => ∃ K : PySem.W.Frag, K.In h ∧ He.SaysE fa fn K ∧ ex K = true
  of := fun _ _ e => ⟨_, He.frG_in, congrArg (fun z : He.Al × Bool => z.1) e, congrArg (fun z : He.Al × Bool => z.2) e⟩
  keeps := fun _ _ _ ⟨K, hK, c⟩ k => ⟨K, PySem.W.Frag.In.keeps hK k, c⟩
theorem obsA_eq {as : List Addr} {fa : List He.Fa} {fn : List He.FnD} {ex : PySem.W.Frag → Bool} (s : PySem.W.SharedT) : obsA as fa fn ex (HandSHeadRun.getT s) = (hookA as fa fn ex).obs s.abs := by
  have e : HandSHeadRun.getT s = s.abs.heap.get? := funext (HandSHeadRun.getT_eq s)
  rw [e]
  rfl

def asL_0 : List Addr := [3, 2, 114, 128, 141, 160, 179, 373, 115, 129, 142, 161, 180, 374, 20, 21, 27, 28, 34, 35, 41, 42, 46, 47, 51, 52, 56, 57, 63, 64, 68, 69, 73, 74, 87, 88, 94, 95, 101, 102, 106, 107, 111, 112, 116, 117, 130, 157, 158, 176, 177, 188, 189, 195, 196, 209, 210, 216, 217, 223, 224, 230, 231, 237, 238, 244, 245, 251, 252, 258, 259, 265, 266, 272, 273, 279, 280, 286, 287, 293, 294, 300, 301, 307, 308, 314, 315, 321, 322, 328, 329, 335, 336, 342, 343, 349, 350, 356, 357, 363]
def asL_1 : List Addr := [364, 370, 371, 375, 376, 384, 385, 391, 392, 398, 399, 405, 406, 412, 413, 417, 418, 422, 423, 429, 430, 434, 435, 441, 442, 446, 447, 451, 452, 456, 457, 461, 462]
def asL : List Addr := asL_0 ++ (asL_1)
def faL_0 : List He.Fa := [.glo "Model", .cls "Model", .noat "Model" "_names", .noat "Model" "_lows", .noat "Model" "_highs", .noat "Model" "_bodies", .noat "Model" "_goal", .glo "Remaining", .cls "Remaining", .noat "Remaining" "_many", .noat "Remaining" "_domains", .glo "relation_holds", .keep "relation_holds", .glo "literal_holds", .keep "literal_holds", .glo "terms_sum", .keep "terms_sum", .glo "unknowns_in", .keep "unknowns_in", .glo "full_domains", .keep "full_domains", .glo "keep_literal", .keep "keep_literal", .glo "least_of", .keep "least_of", .glo "apply_row", .keep "apply_row", .glo "live_literals", .keep "live_literals", .meth "Remaining" "__init__"]
def faL_1 : List He.Fa := [.meth "Remaining" "left", .meth "Remaining" "fix", .meth "Remaining" "single", .meth "Remaining" "apply", .glo "is_label", .keep "is_label", .glo "bounds_fit", .keep "bounds_fit", .meth "Model" "__init__", .meth "Model" "_need", .meth "Model" "many", .meth "Model" "low", .meth "Model" "high", .meth "Model" "has", .meth "Model" "move", .glo "_law_draw", .keep "_law_draw", .glo "_law_tape", .keep "_law_tape", .glo "_law_terms", .keep "_law_terms", .glo "_law_literal", .keep "_law_literal", .glo "_law_some", .keep "_law_some", .glo "_law_body", .keep "_law_body", .glo "_law_world", .keep "_law_world", .glo "_law_rel"]
def faL_2 : List He.Fa := [.keep "_law_rel", .glo "_law_fact", .keep "_law_fact", .glo "_law_same", .keep "_law_same", .glo "_law_apply", .keep "_law_apply", .glo "_law_lost", .keep "_law_lost", .glo "_law_agrees", .keep "_law_agrees", .glo "law", .keep "law", .free "len", .free "int", .free "list", .free "tuple", .free "range", .free "all", .free "any", .free "isinstance", .free "bool", .free "set", .free "str", .free "sorted", .free "sum", .free "min", .free "repr"]
def faL : List He.Fa := faL_0 ++ (faL_1 ++ (faL_2))
def fnL_0 : List He.FnD := [⟨("relation_holds", none), "relation_holds", "relation_holds", defArgs s_relation_holds, defBody s_relation_holds, defScope s_relation_holds⟩, ⟨("literal_holds", none), "literal_holds", "literal_holds", defArgs s_literal_holds, defBody s_literal_holds, defScope s_literal_holds⟩, ⟨("terms_sum", none), "terms_sum", "terms_sum", defArgs s_terms_sum, defBody s_terms_sum, defScope s_terms_sum⟩, ⟨("unknowns_in", none), "unknowns_in", "unknowns_in", defArgs s_unknowns_in, defBody s_unknowns_in, defScope s_unknowns_in⟩, ⟨("full_domains", none), "full_domains", "full_domains", defArgs s_full_domains, defBody s_full_domains, defScope s_full_domains⟩, ⟨("keep_literal", none), "keep_literal", "keep_literal", defArgs s_keep_literal, defBody s_keep_literal, defScope s_keep_literal⟩, ⟨("least_of", none), "least_of", "least_of", defArgs s_least_of, defBody s_least_of, defScope s_least_of⟩, ⟨("apply_row", none), "apply_row", "apply_row", defArgs s_apply_row, defBody s_apply_row, defScope s_apply_row⟩, ⟨("live_literals", none), "live_literals", "live_literals", defArgs s_live_literals, defBody s_live_literals, defScope s_live_literals⟩, ⟨("Remaining", some "__init__"), "__init__", "Remaining.__init__", defArgs s_Remaining___init__, defBody s_Remaining___init__, defScope s_Remaining___init__⟩, ⟨("Remaining", some "left"), "left", "Remaining.left", defArgs s_Remaining_left, defBody s_Remaining_left, defScope s_Remaining_left⟩, ⟨("Remaining", some "fix"), "fix", "Remaining.fix", defArgs s_Remaining_fix, defBody s_Remaining_fix, defScope s_Remaining_fix⟩, ⟨("Remaining", some "single"), "single", "Remaining.single", defArgs s_Remaining_single, defBody s_Remaining_single, defScope s_Remaining_single⟩, ⟨("Remaining", some "apply"), "apply", "Remaining.apply", defArgs s_Remaining_apply, defBody s_Remaining_apply, defScope s_Remaining_apply⟩, ⟨("is_label", none), "is_label", "is_label", defArgs s_is_label, defBody s_is_label, defScope s_is_label⟩, ⟨("bounds_fit", none), "bounds_fit", "bounds_fit", defArgs s_bounds_fit, defBody s_bounds_fit, defScope s_bounds_fit⟩, ⟨("Model", some "__init__"), "__init__", "Model.__init__", defArgs s_Model___init__, defBody s_Model___init__, defScope s_Model___init__⟩, ⟨("Model", some "_need"), "_need", "Model._need", defArgs s_Model__need, defBody s_Model__need, defScope s_Model__need⟩, ⟨("Model", some "many"), "many", "Model.many", defArgs s_Model_many, defBody s_Model_many, defScope s_Model_many⟩, ⟨("Model", some "low"), "low", "Model.low", defArgs s_Model_low, defBody s_Model_low, defScope s_Model_low⟩]
def fnL_1 : List He.FnD := [⟨("Model", some "high"), "high", "Model.high", defArgs s_Model_high, defBody s_Model_high, defScope s_Model_high⟩, ⟨("Model", some "has"), "has", "Model.has", defArgs s_Model_has, defBody s_Model_has, defScope s_Model_has⟩, ⟨("Model", some "move"), "move", "Model.move", defArgs s_Model_move, defBody s_Model_move, defScope s_Model_move⟩, ⟨("_law_draw", none), "_law_draw", "_law_draw", defArgs s_law_draw, defBody s_law_draw, defScope s_law_draw⟩, ⟨("_law_tape", none), "_law_tape", "_law_tape", defArgs s_law_tape, defBody s_law_tape, defScope s_law_tape⟩, ⟨("_law_terms", none), "_law_terms", "_law_terms", defArgs s_law_terms, defBody s_law_terms, defScope s_law_terms⟩, ⟨("_law_literal", none), "_law_literal", "_law_literal", defArgs s_law_literal, defBody s_law_literal, defScope s_law_literal⟩, ⟨("_law_some", none), "_law_some", "_law_some", defArgs s_law_some, defBody s_law_some, defScope s_law_some⟩, ⟨("_law_body", none), "_law_body", "_law_body", defArgs s_law_body, defBody s_law_body, defScope s_law_body⟩, ⟨("_law_world", none), "_law_world", "_law_world", defArgs s_law_world, defBody s_law_world, defScope s_law_world⟩, ⟨("_law_rel", none), "_law_rel", "_law_rel", defArgs s_law_rel, defBody s_law_rel, defScope s_law_rel⟩, ⟨("_law_fact", none), "_law_fact", "_law_fact", defArgs s_law_fact, defBody s_law_fact, defScope s_law_fact⟩, ⟨("_law_same", none), "_law_same", "_law_same", defArgs s_law_same, defBody s_law_same, defScope s_law_same⟩, ⟨("_law_apply", none), "_law_apply", "_law_apply", defArgs s_law_apply, defBody s_law_apply, defScope s_law_apply⟩, ⟨("_law_lost", none), "_law_lost", "_law_lost", defArgs s_law_lost, defBody s_law_lost, defScope s_law_lost⟩, ⟨("_law_agrees", none), "_law_agrees", "_law_agrees", defArgs s_law_agrees, defBody s_law_agrees, defScope s_law_agrees⟩, ⟨("law", none), "law", "law", defArgs s_law, defBody s_law, defScope s_law⟩]
def fnL : List He.FnD := fnL_0 ++ (fnL_1)
def exL (K : PySem.W.Frag) : Bool := ([PySem.W.makesIn K (He.ga K "Model"), PySem.W.keepIn K (.ref (He.ga K "Model")), PySem.W.makesIn K (He.ga K "Remaining"), PySem.W.keepIn K (.ref (He.ga K "Remaining")), conX K "LETTERS" (.str (Str.ofString "abcdefghijklmnopqrstuvwxyz")), conX K "DIGITS" (.str (Str.ofString "0123456789")), conX K "UNKNOWNS_MOST" (.int 60), conX K "BOUND_MOST" (.int 1000)] : List Bool).all id
abbrev hk : PySem.W.Hook := hookA asL faL fnL exL
def ob (s : PySem.W.SharedT) : He.Al × Bool := obsA asL faL fnL exL (HandSHeadRun.getT s)
def looseS_0 : List String := ["_wall", "relation_holds", "literal_holds", "terms_sum", "unknowns_in", "full_domains", "keep_literal", "least_of", "apply_row", "live_literals", "Remaining", "GroundError", "BadModel", "Taken", "NoSuch", "LETTERS", "DIGITS", "is_label", "UNKNOWNS_MOST", "BOUND_MOST", "bounds_fit", "Model", "_law_draw", "_law_tape", "_law_terms", "_law_literal", "_law_some", "_law_body", "_law_world", "_law_rel", "_law_fact", "_law_same", "_law_apply", "_law_lost", "_law_agrees"]
def looseS : List String := looseS_0
def looseL : List Str := looseS.map Str.ofString
abbrev rowR : PySem.W.OpenRow := PySem.W.OpenLaw.row PySem.Challenge.rw_commonground_k72_remaining_values
theorem run (w : World) : HandSHeadRun.RunEq rowR (PySem.W.view rowR.prog [43]) hk ob 3105 looseL w := by
  intro os
  kernel_rfl
open PySem PySem.W PySem.Calls PyProof.Rows in
set_option maxRecDepth 100000 in
set_option maxHeartbeats 0 in
theorem law_of (call : PySem.W.WalkO (PySem.W.view rowR.prog [43]) looseL (PySem.W.XL (PySem.W.view rowR.prog [43]) []) hk.says rowR.toRowW (HandSHeadRun.topDef rowR.prog 43) [] (fun f vs => PySem.call f vs)) : PySem.Challenge.rw_commonground_k72_remaining_values.Holds := by
  w_on; o_law
  refine HandSHeadRun.head_any (r := OpenLaw.row PySem.Challenge.rw_commonground_k72_remaining_values) (q := view (OpenLaw.row PySem.Challenge.rw_commonground_k72_remaining_values).prog [43]) (H := CG.hk) (ob := CG.ob) (M := 3105) (loose := CG.looseL) (d := HandSHeadRun.topDef (OpenLaw.row PySem.Challenge.rw_commonground_k72_remaining_values).prog 43) (kwd := []) CG.obsA_eq
    (by kernel_rfl) (fun s => by kernel_rfl) CG.run (by kernel_rfl) (by kernel_rfl) (by kernel_rfl) (by rfl) (by first | assumption | decide +kernel) (by decide +kernel) ⟨rfl, rfl, rfl, rfl, rfl, by decide +kernel⟩ ?hw call
  case hw => w_witness2
end CG

/-! ### ground: calls by a bundle, frames, step rules -/
namespace CG
open PySem L2

structure Is (P : Program) (w : World) (K : PySem.W.Frag) (mg : Str → Option Value) (base : Heap) (CX : CXT) (k : Nat) (x : Str) (ps : List Str) (sp : Sp) : Prop where
  ex : ∃ (f : Addr) (fd : FuncData), FnOk P w K mg base CX k f fd ps sp ∧ mg x = some (.ref f) ∧ PySem.W.keepIn K (.ref f) = true ∧ Binds K fd ps []

def tCl (sp : Sp) (E : XK) (t : TA) : TE := fun σ H Q => t σ H fun vs H1 => sp vs H1 Q E
section
variable {X : Cx} {CX : CXT} {k : Nat} {x : Str} {ps : List Str} {sp : Sp} {E : XK} {t : TA} {p pos : Pos} {e : Expr} {es : List Expr}
theorem pe_is (D : Is X.prog X.w X.K X.mg X.base CX k x ps sp) (hr : Room k X.A) (hg : Gl X x) (hx : Passes CX X E) (ha : PA X (e :: es) t) (hdb : (x == ("__debug__" : Str)) = false := by decide)
    (he : starEach (e :: es) X.env = (false, eval e X.env) :: starEach es X.env := by rfl) (hpl : (backTo pos (starEach es X.env)).any (·.1) = false := by rfl) : PE X (.Call (.Name x p) (e :: es) [] pos) (tCl sp E t) := by
  obtain ⟨f, fd, F, hm, hk, hb⟩ := D.ex
  have q := pe_call (p := p) F hr hg hm hk hb Paired.nil hx ha hdb he hpl
  have e1 : tCall sp [] E t = tCl sp E t := by
    funext σ H Q
    show (t σ H fun vs H1 => sp (vs ++ []) H1 Q E) = (t σ H fun vs H1 => sp vs H1 Q E)
    simp only [List.append_nil]
  rw [← e1]
  exact q
theorem pe_gc {v : V} {j : Pos} (hg : Gl X x) (hm : ∃ u, X.mg x = some u ∧ RelV v u) (hdb : (x == ("__debug__" : Str)) = false := by decide) (hnm : x ≠ "__name__" := by decide) : PE X (.Name x j) (tC v) := by
  obtain ⟨u, h1, h2⟩ := hm
  exact pe_glob hg h1 h2 hdb
end

/-- all that is tracked stands, but at S, where things are written -/
structure Kp (S : List Addr) (H H' : Hp) : Prop where
  k : ∀ b o, ¬ b ∈ S → H b = some o → H' b = some o
  mu : ∀ b, b ∈ S → Mut (H b)
/-- the same from the entry: what is new since is free -/
def Fm (S : List Addr) (H H' : Hp) : Prop := ∀ b o, ¬ b ∈ S → H b = some o → H' b = some o
section
variable {S S' : List Addr} {H H0 H1 H2 : Hp} {a p : Addr} {o o' : HO} {xs : List V} {K : PySem.W.Frag}
theorem Fm.start : Fm S H H := fun _ _ _ h => h
theorem Kp.refl : Kp [] H H := ⟨fun _ _ _ h => h, fun _ h => nomatch h⟩
theorem Kp.new (hp : H p = none) : Kp [] H (upd H p o) := ⟨fun b u _ h => by rw [upd_ne (ne_of_none h hp)]; exact h, fun _ h => nomatch h⟩
theorem Kp.put (hp : H p = some o) (hm : Mut (some o)) : Kp [p] H (upd H p o') := ⟨fun b u hb h => by rw [upd_ne (fun e => hb (by simp [e]))]; exact h, fun b hb => by
  rw [List.mem_singleton] at hb
  subst hb
  rw [hp]
  exact hm⟩
theorem Fm.go (f : Fm S H0 H) (k : Kp S' H H1) (h : ∀ a, a ∈ S' → a ∈ S ∨ H0 a = none) : Fm S H0 H1 := fun b o hb e => by
  refine k.k b o (fun hm => ?_) (f b o hb e)
  rcases h b hm with q | q
  · exact hb q
  · rw [q] at e
    cases e
theorem Fm.go0 (f : Fm S H0 H) (k : Kp [] H H1) : Fm S H0 H1 := f.go k fun _ h => nomatch h
theorem Fm.kp (f : Fm S H0 H) (mu : ∀ b, b ∈ S → Mut (H0 b)) : Kp S H0 H := ⟨f, mu⟩
theorem Fm.free (f : Fm S H0 H) (h : H p = none) (hs : ∀ b, b ∈ S → ∃ o, H b = some o) : H0 p = none := by
  cases q : H0 p with
  | none => rfl
  | some o =>
    by_cases hb : p ∈ S
    · obtain ⟨o, e⟩ := hs p hb
      rw [h] at e
      cases e
    · rw [f p o hb q] at h
      cases h
theorem Kp.free (f : Kp S H0 H) (h : H p = none) (hs : ∀ b, b ∈ S → ∃ o, H b = some o) : H0 p = none := Fm.free (S := S) f.k h hs
theorem Kp.free0 (f : Kp [] H0 H) (h : H p = none) : H0 p = none := f.free h fun _ hm => by cases hm
theorem Kp.get (k : Kp S H H1) (hn : ¬ a ∈ S) (h : H a = some o) : H1 a = some o := k.k _ _ hn h
theorem Kp.get0 (k : Kp [] H H1) (h : H a = some o) : H1 a = some o := k.k _ _ (fun h => nomatch h) h
theorem Kp.get1 (k : Kp [p] H H1) (hn : a ≠ p) (h : H a = some o) : H1 a = some o := k.k _ _ (fun h => hn (by simpa using h)) h
theorem Kp.tup (k : Kp S H H1) (h : SqT K H a xs) : SqT K H1 a xs := by
  rcases h with (h | ⟨u, h⟩) | h
  · exact .inl (.inl (k.k _ _ (fun hm => by have q := k.mu _ hm; rw [h] at q; exact q) h))
  · exact .inl (.inr ⟨u, k.k _ _ (fun hm => by have q := k.mu _ hm; rw [h] at q; exact q) h⟩)
  · exact .inr h
theorem Kp.trans (a : Kp [] H0 H1) (b : Kp [] H1 H2) : Kp [] H0 H2 := ⟨fun c o _ h => b.get0 (a.get0 h), fun _ h => nomatch h⟩
theorem Kp.tr (a : Kp S H0 H1) (b : Kp S' H1 H2) (h : ∀ x, x ∈ S' → x ∈ S ∨ H0 x = none) : Kp S H0 H2 := ⟨fun c o hc e => b.k c o (fun hm => by
  rcases h c hm with q | q
  · exact hc q
  · rw [q] at e
    cases e) (a.k c o hc e), a.mu⟩
theorem Kp.tr0 (b : Kp [] H1 H2) (a : Kp S H0 H1) : Kp S H0 H2 := a.tr b fun _ h => by cases h
theorem Kp.tr1 (b : Kp S H1 H2) (a : Kp S H0 H1) : Kp S H0 H2 := a.tr b fun _ h => .inl h
theorem Kp.trN (b : Kp [p] H1 H2) (a : Kp S H0 H1) (hp : H0 p = none) : Kp S H0 H2 := a.tr b fun x hx => by
  rw [List.mem_singleton] at hx
  subst hx
  exact .inr hp
theorem Kp.base (mu : ∀ b, b ∈ S → Mut (H b)) : Kp S H H := ⟨fun _ _ _ h => h, mu⟩
theorem Kp.fresh (k : Kp S H0 H1) (h : H1 p = none) (hs : ∀ b, b ∈ S → ∃ o, H1 b = some o) : ∀ x, x ∈ [p] → x ∈ S ∨ H0 x = none := fun x hx => by
  rw [List.mem_singleton] at hx
  subst hx
  exact .inr (k.free h hs)
theorem ne_newL (hp : H p = none) (h : H a = some o) : a ≠ p := ne_of_none h hp
theorem ne_newR (hp : H p = none) (h : H a = some o) : p ≠ a := (ne_of_none h hp).symm
theorem SqT.ty (h : SqT K H a xs) : TyX K H (.ref a) (.type "tuple") := by
  rcases h with (h | ⟨u, h⟩) | ⟨o, its, n, h1, h2, _⟩
  · exact .base (.tup h)
  · exact .fTuple h
  · exact .kTuple h1 h2
end

/-! ### step rules: from the head of a reading -/
/-- one step of a reading, many -/
class Stp (g : Prop) (n : outParam Prop) : Prop where
  imp : n → g
class Stps (g : Prop) (n : outParam Prop) : Prop where
  imp : n → g
instance (priority := low) stps_nil {g : Prop} : Stps g g := ⟨id⟩
instance stps_cons {g m n : Prop} [a : Stp g m] [b : Stps m n] : Stps g n := ⟨fun h => a.imp (b.imp h)⟩
/-- one step at least -/
theorem go1 {g m n : Prop} (a : Stp g m) (b : Stps m n) (h : n) : g := a.imp (b.imp h)
class Look (σ : St) (n : Nat) (v : outParam V) : Prop where
  e : σ[n]? = some (some v)
instance look0 {v : V} {σ : St} : Look (some v :: σ) 0 v := ⟨rfl⟩
instance lookS {v : V} {x : Option V} {σ : St} {n : Nat} [a : Look σ n v] : Look (x :: σ) (n + 1) v := ⟨by rw [List.getElem?_cons_succ]; exact a.e⟩
class SetS (σ : St) (n : Nat) (v : V) (σ' : outParam St) : Prop where
  e : σ.set n (some v) = σ'
instance set0 {v : V} {x : Option V} {σ : St} : SetS (x :: σ) 0 v (some v :: σ) := ⟨rfl⟩
instance setS {v : V} {x : Option V} {σ σ' : St} {n : Nat} [a : SetS σ n v σ'] : SetS (x :: σ) (n + 1) v (x :: σ') := ⟨by rw [List.set_cons_succ, a.e]⟩
def mkT (xs : List V) (H : Hp) (Q : VK) : Prop := xs.length ≤ sizeLine ∧ ∀ p, H p = none → Q (.ref p) (upd H p (.tup xs))
def mkL (xs : List V) (H : Hp) (Q : VK) : Prop := xs.length ≤ sizeLine ∧ ∀ p, H p = none → Q (.ref p) (upd H p (.lst xs))
def asB (x : V) (R : Bool → Prop) : Prop := ∃ k, x = .bl k ∧ R k
/-- two ways by a test -/
def iteP (b : Bool) (A B : Prop) : Prop := if b = true then A else B
theorem iteP_of {b : Bool} {A B : Prop} (h : iteP b A B) : if b = true then A else B := h
section
variable {σ σ' : St} {H : Hp} {Q : VK} {ta tb tc te : TE} {v : V} {i j : Int} {n : Nat} {K : PySem.W.Frag} {E : XK} {C : Int → Int → Prop} {gi : Int → Int → V} {nx bk ct : St → Hp → Prop} {rt : VK}
instance s_seq {t u : TS} : Stp (tSeq t u ⟨nx, rt, bk, ct⟩ σ H) (t ⟨u ⟨nx, rt, bk, ct⟩, rt, bk, ct⟩ σ H) := ⟨id⟩
instance s_next : Stp (tNext ⟨nx, rt, bk, ct⟩ σ H) (nx σ H) := ⟨id⟩
instance s_set : Stp (tAsg te (gName n) ⟨nx, rt, bk, ct⟩ σ H) (te σ H fun x H1 => gName n x σ H1 nx) := ⟨id⟩
instance s_asg {g : TG} : Stp (tAsg te g ⟨nx, rt, bk, ct⟩ σ H) (te σ H fun x H1 => g x σ H1 nx) := ⟨id⟩
instance s_gN {R : St → Hp → Prop} [a : SetS σ n v σ'] : Stp (gName n v σ H R) (R σ' H) := ⟨fun h => by show R (σ.set n (some v)) H; rw [a.e]; exact h⟩
instance s_drop : Stp (tDrop te ⟨nx, rt, bk, ct⟩ σ H) (te σ H fun _ H1 => nx σ H1) := ⟨id⟩
instance s_ret : Stp (tRet te ⟨nx, rt, bk, ct⟩ σ H) (te σ H rt) := ⟨id⟩
instance s_retN : Stp (tRetN ⟨nx, rt, bk, ct⟩ σ H) (rt .non H) := ⟨id⟩
instance s_break : Stp (tBreak ⟨nx, rt, bk, ct⟩ σ H) (bk σ H) := ⟨id⟩
instance s_cont : Stp (tCont ⟨nx, rt, bk, ct⟩ σ H) (ct σ H) := ⟨id⟩
instance s_ifS {c : TT} {t u : TS} {D : Ends} : Stp (tIfS c t u D σ H) (c σ H fun b H1 => iteP b (t D σ H1) (u D σ H1)) := ⟨id⟩
instance s_var [a : Look σ n v] : Stp (tVar n σ H Q) (Q v H) := ⟨fun h => ⟨v, a.e, h⟩⟩
instance s_c : Stp (tC v σ H Q) (Q v H) := ⟨id⟩
instance s_op {r : R2} : Stp (tOp r ta tb σ H Q) (ta σ H fun x H1 => tb σ H1 fun y H2 => r x y H2 Q) := ⟨id⟩
instance s_un {r : V → Hp → VK → Prop} : Stp (tUn r ta σ H Q) (ta σ H fun x H1 => r x H1 Q) := ⟨id⟩
instance s_rU {g : Int → V} : Stp (rU g (.int i) H Q) (Q (g i) H) := ⟨fun h => ⟨i, rfl, h⟩⟩
instance s_rI0 : Stp (rI0 gi (.int i) (.int j) H Q) (Q (gi i j) H) := ⟨fun h => ⟨i, j, rfl, rfl, h⟩⟩
theorem r_rI (hc : C i j) (h : Q (gi i j) H) : rI C gi (.int i) (.int j) H Q := ⟨i, j, rfl, rfl, hc, h⟩
instance s_pow6 : Stp (rI CPow (fun i j => V.int (i ^ j.toNat)) (.int 10) (.int 6) H Q) (Q (.int 1000000) H) := ⟨fun h => ⟨10, 6, rfl, rfl, ⟨by decide, by decide, by decide⟩, h⟩⟩
instance s_pow7 : Stp (rI CPow (fun i j => V.int (i ^ j.toNat)) (.int 10) (.int 7) H Q) (Q (.int 10000000) H) := ⟨fun h => ⟨10, 7, rfl, rfl, ⟨by decide, by decide, by decide⟩, h⟩⟩
instance s_pow8 : Stp (rI CPow (fun i j => V.int (i ^ j.toNat)) (.int 10) (.int 8) H Q) (Q (.int 100000000) H) := ⟨fun h => ⟨10, 8, rfl, rfl, ⟨by decide, by decide, by decide⟩, h⟩⟩
instance s_pow9 : Stp (rI CPow (fun i j => V.int (i ^ j.toNat)) (.int 10) (.int 9) H Q) (Q (.int 1000000000) H) := ⟨fun h => ⟨10, 9, rfl, rfl, ⟨by decide, by decide, by decide⟩, h⟩⟩
instance s_pow10 : Stp (rI CPow (fun i j => V.int (i ^ j.toNat)) (.int 10) (.int 10) H Q) (Q (.int 10000000000) H) := ⟨fun h => ⟨10, 10, rfl, rfl, ⟨by decide, by decide, by decide⟩, h⟩⟩
instance s_pow12 : Stp (rI CPow (fun i j => V.int (i ^ j.toNat)) (.int 10) (.int 12) H Q) (Q (.int 1000000000000) H) := ⟨fun h => ⟨10, 12, rfl, rfl, ⟨by decide, by decide, by decide⟩, h⟩⟩
instance s_pow21 : Stp (rI CPow (fun i j => V.int (i ^ j.toNat)) (.int 10) (.int 21) H Q) (Q (.int 1000000000000000000000) H) := ⟨fun h => ⟨10, 21, rfl, rfl, ⟨by decide, by decide, by decide⟩, h⟩⟩
instance s_pow30 : Stp (rI CPow (fun i j => V.int (i ^ j.toNat)) (.int 10) (.int 30) H Q) (Q (.int 1000000000000000000000000000000) H) := ⟨fun h => ⟨10, 30, rfl, rfl, ⟨by decide, by decide, by decide⟩, h⟩⟩
instance s_pow40 : Stp (rI CPow (fun i j => V.int (i ^ j.toNat)) (.int 10) (.int 40) H Q) (Q (.int 10000000000000000000000000000000000000000) H) := ⟨fun h => ⟨10, 40, rfl, rfl, ⟨by decide, by decide, by decide⟩, h⟩⟩
instance s_pow60 : Stp (rI CPow (fun i j => V.int (i ^ j.toNat)) (.int 10) (.int 60) H Q) (Q (.int 1000000000000000000000000000000000000000000000000000000000000) H) := ⟨fun h => ⟨10, 60, rfl, rfl, ⟨by decide, by decide, by decide⟩, h⟩⟩
instance s_eqI : Stp (rEq (.int i) (.int j) H Q) (Q (.bl (decide (i = j))) H) := ⟨fun h => ⟨rfl, by
  have e : decide (V.int i = V.int j) = decide (i = j) := by simp
  rw [e]
  exact h⟩⟩
instance s_neI : Stp (rNe (.int i) (.int j) H Q) (Q (.bl (decide (i ≠ j))) H) := ⟨fun h => ⟨rfl, by
  have e : (!decide (V.int i = V.int j)) = decide (i ≠ j) := by simp
  rw [e]
  exact h⟩⟩
instance s_eqS {a b : Str} : Stp (rEq (.str a) (.str b) H Q) (Q (.bl (decide (a = b))) H) := ⟨fun h => ⟨rfl, by
  have e : decide (V.str a = V.str b) = decide (a = b) := by simp
  rw [e]
  exact h⟩⟩
instance s_neS {a b : Str} : Stp (rNe (.str a) (.str b) H Q) (Q (.bl (decide (a ≠ b))) H) := ⟨fun h => ⟨rfl, by
  have e : (!decide (V.str a = V.str b)) = decide (a ≠ b) := by simp
  rw [e]
  exact h⟩⟩
instance s_eqB {a b : Bool} : Stp (rEq (.bl a) (.bl b) H Q) (Q (.bl (decide (a = b))) H) := ⟨fun h => ⟨rfl, by
  have e : decide (V.bl a = V.bl b) = decide (a = b) := by simp
  rw [e]
  exact h⟩⟩
instance s_neB {a b : Bool} : Stp (rNe (.bl a) (.bl b) H Q) (Q (.bl (decide (a ≠ b))) H) := ⟨fun h => ⟨rfl, by
  have e : (!decide (V.bl a = V.bl b)) = decide (a ≠ b) := by simp
  rw [e]
  exact h⟩⟩
instance s_test {R : Bool → Hp → Prop} : Stp (tTest te σ H R) (te σ H fun x H1 => asB x fun k => R k H1) := ⟨id⟩
instance s_B {R : Bool → Hp → Prop} : Stp (tB te σ H R) (te σ H fun x H1 => asB x fun k => R k H1) := ⟨id⟩
instance s_asB {b : Bool} {R : Bool → Prop} : Stp (asB (.bl b) R) (R b) := ⟨fun h => ⟨b, rfl, h⟩⟩
instance s_and {t u : TT} {R : Bool → Hp → Prop} : Stp (tAnd t u σ H R) (t σ H fun c H1 => iteP c (u σ H1 R) (R false H1)) := ⟨id⟩
instance s_or {t u : TT} {R : Bool → Hp → Prop} : Stp (tOr t u σ H R) (t σ H fun c H1 => iteP c (R true H1) (u σ H1 R)) := ⟨id⟩
instance s_not {t : TT} {R : Bool → Hp → Prop} : Stp (tNot t σ H R) (t σ H fun c H1 => R (!c) H1) := ⟨id⟩
instance s_andV : Stp (tAndV ta tb σ H Q) (ta σ H fun x H1 => asB x fun c => iteP c (tb σ H1 Q) (Q (.bl false) H1)) := ⟨id⟩
instance s_orV : Stp (tOrV ta tb σ H Q) (ta σ H fun x H1 => asB x fun c => iteP c (Q (.bl true) H1) (tb σ H1 Q)) := ⟨id⟩
instance s_notV : Stp (tNotV ta σ H Q) (ta σ H fun x H1 => asB x fun c => Q (.bl (!c)) H1) := ⟨id⟩
instance s_if {t : TT} : Stp (tIf t ta tb σ H Q) (t σ H fun c H1 => iteP c (ta σ H1 Q) (tb σ H1 Q)) := ⟨id⟩
instance s_chain {r r' : R2} : Stp (tChain r r' ta tb tc σ H Q) (ta σ H fun x H1 => tb σ H1 fun y H2 => r x y H2 fun z H3 => asB z fun k => iteP k (tc σ H3 fun w' H4 => r' y w' H4 Q) (Q (.bl false) H3)) := ⟨id⟩
instance s_nil {R : List V → Hp → Prop} : Stp (tNil σ H R) (R [] H) := ⟨id⟩
instance s_cons {tr : TA} {R : List V → Hp → Prop} : Stp (tCons ta tr σ H R) (ta σ H fun x H1 => tr σ H1 fun xs H2 => R (x :: xs) H2) := ⟨id⟩
instance s_tTup {t : TA} : Stp (tTup t σ H Q) (t σ H fun xs H1 => mkT xs H1 Q) := ⟨id⟩
instance s_tLst {t : TA} : Stp (tLst t σ H Q) (t σ H fun xs H1 => mkL xs H1 Q) := ⟨id⟩
instance s_cB {t : TA} {r : List V → Hp → VK → Prop} : Stp (tCB r t σ H Q) (t σ H fun vs H1 => r vs H1 Q) := ⟨id⟩
instance s_cl {sp : Sp} {t : TA} : Stp (tCl sp E t σ H Q) (t σ H fun vs H1 => sp vs H1 Q E) := ⟨id⟩
instance s_aug {ti : TIp} [a : Look σ n v] : Stp (tAug n te ti ⟨nx, rt, bk, ct⟩ σ H) (te σ H fun y H1 => ti v y H1 fun z H2 => gName n z σ H2 nx) := ⟨fun h => ⟨v, a.e, h⟩⟩
instance s_ipI {f : Int → Int → Int} : Stp (ipI f (.int i) (.int j) H Q) (Q (.int (f i j)) H) := ⟨fun h => ⟨i, j, rfl, rfl, h⟩⟩
instance s_iteT {A B : Prop} : Stp (iteP true A B) A := ⟨fun h => iteT h⟩
instance s_iteF {A B : Prop} : Stp (iteP false A B) B := ⟨fun h => iteF h⟩
instance s_iteNT {A B : Prop} : Stp (iteP (!true) A B) B := ⟨fun h => iteF h⟩
instance s_iteNF {A B : Prop} : Stp (iteP (!false) A B) A := ⟨fun h => iteT h⟩
theorem r_mkT {xs : List V} (hl : xs.length ≤ sizeLine) (h : ∀ p H2, H p = none → SqT K H2 p xs → Kp [] H H2 → Q (.ref p) H2) : mkT xs H Q :=
  ⟨hl, fun p hp => h p _ hp (SqT.of upd_same) (Kp.new hp)⟩
theorem r_mkL {xs : List V} (hl : xs.length ≤ sizeLine) (h : ∀ p H2, H p = none → H2 p = some (.lst xs) → Kp [] H H2 → Q (.ref p) H2) : mkL xs H Q :=
  ⟨hl, fun p hp => h p _ hp upd_same (Kp.new hp)⟩
theorem r_ixT {p : Addr} {xs : List V} (h : SqT K H p xs) (e : atI xs i = some v) (q : Q v H) : rIxT K (.ref p) (.int i) H Q := ⟨p, xs, i, v, rfl, rfl, h, e, q⟩
theorem r_ixL {p : Addr} {xs : List V} (h : H p = some (.lst xs)) (e : atI xs i = some v) (q : Q v H) : rIxL K (.ref p) (.int i) H Q := ⟨p, xs, i, v, rfl, rfl, SqL.of h, e, q⟩
theorem r_gTup {t : TGs} {m : Nat} {p : Addr} {xs : List V} {R : St → Hp → Prop} (h : SqT K H p xs) (e : xs.length = m) (q : t xs σ H R) : gTup K m t (.ref p) σ H R := ⟨p, xs, rfl, h, e, q⟩
instance s_gCons {t : TG} {u : TGs} {r : List V} {R : St → Hp → Prop} : Stp (gCons t u (v :: r) σ H R) (t v σ H fun σ' H' => u r σ' H' R) := ⟨fun h => ⟨v, r, rfl, h⟩⟩
instance s_gNil {R : St → Hp → Prop} : Stp (gNil [] σ H R) (R σ H) := ⟨fun h => ⟨rfl, h⟩⟩
instance s_gSub {s : TSet} {R : St → Hp → Prop} : Stp (gSub ta tb s v σ H R) (ta σ H fun o H1 => tb σ H1 fun i H2 => s o i v H2 fun H3 => R σ H3) := ⟨id⟩
theorem r_setL {p : Addr} {xs : List V} {m : Nat} {R : Hp → Prop} (h : H p = some (.lst xs)) (e : ixN xs.length i = some m) (q : ∀ H2, H2 p = some (.lst (xs.set m v)) → Kp [p] H H2 → R H2) : rSetL (.ref p) (.int i) v H R :=
  ⟨p, xs, i, m, rfl, rfl, h, e, q _ upd_same (Kp.put h trivial)⟩
theorem if_T {A B : Prop} {c : Prop} [Decidable c] (hc : c) (h : A) : iteP (decide c) A B := by
  unfold iteP
  rw [if_pos (decide_eq_true hc)]
  exact h
theorem if_F {A B : Prop} {c : Prop} [Decidable c] (hc : ¬ c) (h : B) : iteP (decide c) A B := by
  unfold iteP
  rw [if_neg (by rw [decide_eq_false hc]; decide)]
  exact h
theorem if_S {A B : Prop} {c : Prop} [Decidable c] (h : c → A) (h' : ¬ c → B) : iteP (decide c) A B := by
  by_cases hc : c
  · exact if_T hc (h hc)
  · exact if_F hc (h' hc)
theorem if_NT {A B : Prop} {c : Prop} [Decidable c] (hc : ¬ c) (h : A) : iteP (!decide c) A B := by
  rw [decide_eq_false hc]
  exact iteT h
theorem if_NF {A B : Prop} {c : Prop} [Decidable c] (hc : c) (h : B) : iteP (!decide c) A B := by
  rw [decide_eq_true hc]
  exact iteF h
theorem if_NS {A B : Prop} {c : Prop} [Decidable c] (h : ¬ c → A) (h' : c → B) : iteP (!decide c) A B := by
  by_cases hc : c
  · exact if_NF hc (h' hc)
  · exact if_NT hc (h hc)
theorem if_B {A B : Prop} {b : Bool} (h : b = true → A) (h' : b = false → B) : iteP b A B := by
  cases b
  · exact iteF (h' rfl)
  · exact iteT (h rfl)
end

/-! ### built-in calls by named rules -/
section
variable {X : Cx} {f : Value} {r r' : List V → Hp → VK → Prop}
theorem callR_imp (h : CallR X f r) (i : ∀ xs H Q, r' xs H Q → r xs H Q) : CallR X f r' := fun pins s σ H xs us Q I rx q => h pins s σ H xs us Q I rx (i _ _ _ q)
def rInt : List V → Hp → VK → Prop := fun xs H Q => (∃ i, xs = [.int i] ∧ Q (.int i) H) ∨ ∃ k, xs = [.bl k] ∧ Q (.int (if k then 1 else 0)) H
theorem cg_int : CallR X (.type "int") rInt := call_int1
def rLen (K : PySem.W.Frag) : List V → Hp → VK → Prop := fun xs H Q => ∃ p ys, xs = [.ref p] ∧ (SqL K H p ys ∨ SqT K H p ys) ∧ Q (.int ys.length) H
theorem cg_len : CallR X (.builtin "len") (rLen X.K) := call_len_seq
def rListOf (K : PySem.W.Frag) : List V → Hp → VK → Prop := fun xs H Q => ∃ p ys, xs = [.ref p] ∧ (SqL K H p ys ∨ SqT K H p ys) ∧ ∀ l, H l = none → Q (.ref l) (upd H l (.lst ys))
theorem cg_list : CallR X (.type "list") (rListOf X.K) := call_list_of
def rTupOf (K : PySem.W.Frag) : List V → Hp → VK → Prop := fun xs H Q => ∃ p ys, xs = [.ref p] ∧ ((SqL K H p ys ∧ ∀ l, H l = none → Q (.ref l) (upd H l (.tup ys))) ∨ (SqT K H p ys ∧ Q (.ref p) H))
theorem cg_tuple : CallR X (.type "tuple") (rTupOf X.K) := call_tuple_of
def rAbs : List V → Hp → VK → Prop := fun xs H Q => ∃ i, xs = [.int i] ∧ Q (.int (if i < 0 then -i else i)) H
theorem cg_abs : CallR X (.builtin "abs") rAbs := call_abs
end
section
variable {H : Hp} {Q : VK} {K : PySem.W.Frag} {i : Int} {p : Addr} {xs : List V}
instance s_int : Stp (rInt [.int i] H Q) (Q (.int i) H) := ⟨fun q => .inl ⟨i, rfl, q⟩⟩
instance s_intB {b : Bool} : Stp (rInt [.bl b] H Q) (Q (.int (if b then 1 else 0)) H) := ⟨fun q => .inr ⟨b, rfl, q⟩⟩
theorem r_lenT (h : SqT K H p xs) (q : Q (.int xs.length) H) : rLen K [.ref p] H Q := ⟨p, xs, rfl, .inr h, q⟩
theorem r_lenL (h : H p = some (.lst xs)) (q : Q (.int xs.length) H) : rLen K [.ref p] H Q := ⟨p, xs, rfl, .inl (SqL.of h), q⟩
theorem r_listL (h : SqL K H p xs) (q : ∀ l H2, H l = none → H2 l = some (.lst xs) → Kp [] H H2 → Q (.ref l) H2) : rListOf K [.ref p] H Q := ⟨p, xs, rfl, .inl h, fun l hl => q l _ hl upd_same (Kp.new hl)⟩
theorem r_tupleL (h : H p = some (.lst xs)) (q : ∀ l H2, H l = none → SqT K H2 l xs → Kp [] H H2 → Q (.ref l) H2) : rTupOf K [.ref p] H Q := ⟨p, xs, rfl, .inl ⟨SqL.of h, fun l hl => q l _ hl (SqT.of upd_same) (Kp.new hl)⟩⟩
instance s_abs : Stp (rAbs [.int i] H Q) (Q (.int (if i < 0 then -i else i)) H) := ⟨fun q => ⟨i, rfl, q⟩⟩
theorem r_isi {v c : V} {t u : Value} {b : Bool} (hc : ClsV c u) (ht : TyX K H v t) (hk : PySem.W.kitOne K t u = some b) (q : Q (.bl b) H) : rIsi K [v, c] H Q := ⟨v, c, t, u, b, rfl, hc, ht, hk, q⟩
theorem r_inL {neg : Bool} {x : V} {b : Bool} (h : H p = some (.lst xs)) (fx : flatV x = true) (fs : xs.all flatV = true) (e : (if neg then !inV x xs else inV x xs) = b) (q : Q (.bl b) H) : rIn K neg x (.ref p) H Q := ⟨p, xs, rfl, .inl (SqL.of h), fx, fs, by rw [e]; exact q⟩
theorem r_inT {neg : Bool} {x : V} {b : Bool} (h : SqT K H p xs) (fx : flatV x = true) (fs : xs.all flatV = true) (e : (if neg then !inV x xs else inV x xs) = b) (q : Q (.bl b) H) : rIn K neg x (.ref p) H Q := ⟨p, xs, rfl, .inr h, fx, fs, by rw [e]; exact q⟩
end
/-! ### data that never changes -/
mutual
inductive Im (K : PySem.W.Frag) (H : Hp) : V → PyData → Prop
  | non : Im K H .non .none
  | bl (b : Bool) : Im K H (.bl b) (.bool b)
  | int (i : Int) : Im K H (.int i) (.int i)
  | str (x : Str) : Im K H (.str x) (.str x)
  | tup {a : Addr} {xs : List V} {ds : List PyData} : SqT K H a xs → ImAll K H xs ds → Im K H (.ref a) (.tuple ds)
inductive ImAll (K : PySem.W.Frag) (H : Hp) : List V → List PyData → Prop
  | nil : ImAll K H [] []
  | cons {v : V} {vs : List V} {d : PyData} {ds : List PyData} : Im K H v d → ImAll K H vs ds → ImAll K H (v :: vs) (d :: ds)
end
section
variable {K : PySem.W.Frag} {H H' : Hp} {S : List Addr} {p : Addr} {xs : List V} {ds : List PyData} {x : V} {d : PyData}
mutual
theorem Kp.im (k : Kp S H H') : ∀ {x : V} {d : PyData}, Im K H x d → Im K H' x d
  | _, _, .non => .non
  | _, _, .bl b => .bl b
  | _, _, .int i => .int i
  | _, _, .str z => .str z
  | _, _, .tup h a => .tup (k.tup h) (Kp.imAll k a)
theorem Kp.imAll (k : Kp S H H') : ∀ {xs : List V} {ds : List PyData}, ImAll K H xs ds → ImAll K H' xs ds
  | _, _, .nil => .nil
  | _, _, .cons h a => .cons (Kp.im k h) (Kp.imAll k a)
end
mutual
theorem Im.dp : ∀ {x : V} {d : PyData}, Im K H x d → Dp K H x d
  | _, _, .non => .non
  | _, _, .bl b => .bl b
  | _, _, .int i => .int i
  | _, _, .str z => .str z
  | _, _, .tup h a => .tup h (ImAll.dp a)
theorem ImAll.dp : ∀ {xs : List V} {ds : List PyData}, ImAll K H xs ds → DpAll K H xs ds
  | _, _, .nil => .nil
  | _, _, .cons h a => .cons h.dp (ImAll.dp a)
end
theorem ImAll.length : ∀ {xs : List V} {ds : List PyData}, ImAll K H xs ds → xs.length = ds.length
  | _, _, .nil => rfl
  | _, _, .cons _ a => by rw [List.length_cons, List.length_cons, ImAll.length a]
theorem ImAll.get : ∀ {xs : List V} {ds : List PyData} {i : Nat} {x : V}, ImAll K H xs ds → xs[i]? = some x → ∃ d, ds[i]? = some d ∧ Im K H x d
  | _, _, _, _, .nil, e => by simp at e
  | _, _, 0, _, .cons h _, e => by simp at e; subst e; exact ⟨_, rfl, h⟩
  | _, _, i + 1, _, .cons _ a, e => by
    obtain ⟨d, h1, h2⟩ := ImAll.get (i := i) a (by simpa using e)
    exact ⟨d, by simpa using h1, h2⟩
theorem ImAll.at : ∀ {xs : List V} {ds : List PyData} {i : Nat} {d : PyData}, ImAll K H xs ds → ds[i]? = some d → ∃ x, xs[i]? = some x ∧ Im K H x d
  | _, _, _, _, .nil, e => by simp at e
  | _, _, 0, _, .cons h _, e => by simp at e; subst e; exact ⟨_, rfl, h⟩
  | _, _, i + 1, _, .cons _ a, e => by
    obtain ⟨x, h1, h2⟩ := ImAll.at (i := i) a (by simpa using e)
    exact ⟨x, by simpa using h1, h2⟩
theorem ImAll.snoc : ∀ {xs : List V} {ds : List PyData} {x : V} {d : PyData}, ImAll K H xs ds → Im K H x d → ImAll K H (xs ++ [x]) (ds ++ [d])
  | _, _, _, _, .nil, h => .cons h .nil
  | _, _, _, _, .cons h a, h' => .cons h (ImAll.snoc a h')
/-- the data of a flat value, back -/
def flatD : PyData → Option V
  | .none => some .non
  | .bool b => some (.bl b)
  | .int i => some (.int i)
  | .str x => some (.str x)
  | _ => Option.none
def flatDs : List PyData → Option (List V)
  | [] => some []
  | d :: ds => match flatD d, flatDs ds with
    | some x, some xs => some (x :: xs)
    | _, _ => Option.none
theorem Im.flat (h : Im K H x d) {y : V} (e : flatD d = some y) : x = y := by
  cases h with
  | tup _ _ => cases e
  | _ => exact Option.some.inj e
theorem ImAll.flat : ∀ {xs : List V} {ds : List PyData} {ys : List V}, ImAll K H xs ds → flatDs ds = some ys → xs = ys
  | _, _, _, .nil, e => Option.some.inj e
  | _, d :: ds, ys, .cons (v := v) h a, e => by
    unfold flatDs at e
    split at e
    · rename_i y zs h1 h2
      rw [h.flat h1, ImAll.flat a h2]
      exact Option.some.inj e
    · cases e
theorem Im.open (h : Im K H (.ref p) (.tuple ds)) : ∃ xs, SqT K H p xs ∧ ImAll K H xs ds := by
  cases h with
  | tup h a => exact ⟨_, h, a⟩
theorem Im.sq (h : Im K H (.ref p) (.tuple ds)) {ys : List V} (e : flatDs ds = some ys) : SqT K H p ys := by
  obtain ⟨xs, h1, h2⟩ := h.open
  rw [← h2.flat e]
  exact h1
theorem Im.isRef (h : Im K H x (.tuple ds)) : ∃ p, x = .ref p := by
  cases h with
  | tup h a => exact ⟨_, rfl⟩
theorem flatDs_ints : ∀ ns : List Int, flatDs (ns.map PyData.int) = some (ns.map V.int)
  | [] => rfl
  | n :: ns => by
    show (match flatD (.int n), flatDs (ns.map PyData.int) with | some x, some xs => some (x :: xs) | _, _ => Option.none) = _
    rw [flatDs_ints ns]
    rfl
theorem Im.ints {ns : List Int} (h : SqT K H p (ns.map V.int)) : Im K H (.ref p) (.tuple (ns.map .int)) := by
  refine .tup h ?_
  clear h
  induction ns with
  | nil => exact .nil
  | cons n ns ih => exact .cons (.int n) ih
end
/-! ### loops -/
def forS (J : It) (g : TG) (tb : TS) (D : Ends) (σ : St) (H : Hp) : Prop := ∃ W : Nat → Nat → St → Hp → Prop, (∃ m, W 0 m σ H) ∧ ∀ i m σ H, W i m σ H →
  (J.stop i H ∧ D.nx σ H) ∨ (J.go i H ∧ ∃ N : St → Hp → Prop, (∀ σ' H', N σ' H' → ∃ m', m' < m ∧ W (i + 1) m' σ' H') ∧ ∀ x H', J.yld i H x H' → g x σ H' fun σ2 H2 => tb { D with nx := N, ct := N, bk := D.nx } σ2 H2)
def isL (K : PySem.W.Frag) (x : V) (H : Hp) (R : It → Hp → Prop) : Prop := ∃ a, x = .ref a ∧ (∃ xs, SqL K H a xs) ∧ R (Itl K a) H
def isT (K : PySem.W.Frag) (x : V) (H : Hp) (R : It → Hp → Prop) : Prop := ∃ a, x = .ref a ∧ (∃ xs, SqT K H a xs) ∧ R (Itt K a) H
def isR1 (vs : List V) (H : Hp) (R : It → Hp → Prop) : Prop := ∃ j : Int, vs = [.int j] ∧ -(2 ^ 62) ≤ j ∧ j < 2 ^ 62 ∧ R (Itr 0 j.toNat) H
section
variable {σ : St} {H : Hp} {K : PySem.W.Frag} {p : Addr} {xs : List V} {g : TG} {tb : TS} {nx bk ct : St → Hp → Prop} {rt : VK} {D : Ends} {wi : TI} {tl : TE} {ta : TA} {R : It → Hp → Prop} {lo : Int} {n : Nat}
instance s_for : Stp (tFor wi g tb D σ H) (wi σ H fun J H1 => forS J g tb D σ H1) := ⟨id⟩
instance s_iL : Stp (iList K tl σ H R) (tl σ H fun x H1 => isL K x H1 R) := ⟨id⟩
instance s_iT : Stp (iTup K tl σ H R) (tl σ H fun x H1 => isT K x H1 R) := ⟨id⟩
instance s_iR1 : Stp (iRng1 ta σ H R) (ta σ H fun vs H1 => isR1 vs H1 R) := ⟨id⟩
theorem r_isL (h : H p = some (.lst xs)) (q : R (Itl K p) H) : isL K (.ref p) H R := ⟨p, rfl, ⟨xs, SqL.of h⟩, q⟩
theorem r_isT (h : SqT K H p xs) (q : R (Itt K p) H) : isT K (.ref p) H R := ⟨p, rfl, ⟨xs, h⟩, q⟩
theorem r_isR1 {j : Int} (h : -1000000000 ≤ j ∧ j ≤ 1000000000) (q : R (Itr 0 j.toNat) H) : isR1 [.int j] H R := ⟨j, rfl, by omega, by omega, q⟩
/-- a for over a list that stands at p all along -/
theorem r_forL (xs : List V) (Pv : Nat → St → Hp → Prop) (h0 : Pv 0 σ H) (hG : ∀ i σ' H', Pv i σ' H' → H' p = some (.lst xs))
    (hs : ∀ i x σ' H', xs[i]? = some x → Pv i σ' H' → g x σ' H' fun σ2 H2 => tb ⟨Pv (i + 1), rt, nx, Pv (i + 1)⟩ σ2 H2) (hd : ∀ σ' H', Pv xs.length σ' H' → nx σ' H') : forS (Itl K p) g tb ⟨nx, rt, bk, ct⟩ σ H :=
  for_it (walk_list (K := K) (a := p) (xs := xs)) Pv h0 (fun i σ' H' _ h => SqL.of (hG i σ' H' h)) (fun i x σ' H1 H2 _ h y => by obtain ⟨rfl, y⟩ := y; exact hs i x σ' _ y h) hd
theorem r_forLI (ns : List Int) (Pv : Nat → St → Hp → Prop) (h0 : Pv 0 σ H) (hG : ∀ i σ' H', Pv i σ' H' → H' p = some (.lst (ns.map V.int)))
    (hs : ∀ i (y : Int) σ' H', ns[i]? = some y → Pv i σ' H' → g (.int y) σ' H' fun σ2 H2 => tb ⟨Pv (i + 1), rt, nx, Pv (i + 1)⟩ σ2 H2) (hd : ∀ σ' H', Pv ns.length σ' H' → nx σ' H') : forS (Itl K p) g tb ⟨nx, rt, bk, ct⟩ σ H := by
  refine r_forL (ns.map V.int) Pv h0 hG (fun i x σ' H' e h => ?_) (by rw [List.length_map]; exact hd)
  rw [List.getElem?_map] at e
  cases q : ns[i]? with
  | none =>
    rw [q] at e
    cases e
  | some y =>
    rw [q] at e
    cases e
    exact hs i y σ' H' q h
theorem r_forT (xs : List V) (Pv : Nat → St → Hp → Prop) (h0 : Pv 0 σ H) (hG : ∀ i σ' H', Pv i σ' H' → SqT K H' p xs)
    (hs : ∀ i x σ' H', xs[i]? = some x → Pv i σ' H' → g x σ' H' fun σ2 H2 => tb ⟨Pv (i + 1), rt, nx, Pv (i + 1)⟩ σ2 H2) (hd : ∀ σ' H', Pv xs.length σ' H' → nx σ' H') : forS (Itt K p) g tb ⟨nx, rt, bk, ct⟩ σ H :=
  for_it (walk_tup (K := K) (a := p) (xs := xs)) Pv h0 (fun i σ' H' _ h => hG i σ' H' h) (fun i x σ' H1 H2 _ h y => by obtain ⟨rfl, y⟩ := y; exact hs i x σ' _ y h) hd
theorem r_forR (Pv : Nat → St → Hp → Prop) (h0 : Pv 0 σ H)
    (hs : ∀ i σ' H', i < n → Pv i σ' H' → g (.int (lo + (i : Int))) σ' H' fun σ2 H2 => tb ⟨Pv (i + 1), rt, nx, Pv (i + 1)⟩ σ2 H2) (hd : ∀ σ' H', Pv n σ' H' → nx σ' H') : forS (Itr lo n) g tb ⟨nx, rt, bk, ct⟩ σ H :=
  for_it walk_range Pv h0 (fun _ _ _ _ _ => trivial) (fun i x σ' H1 H2 hi h y => by obtain ⟨rfl, rfl⟩ := y; exact hs i σ' _ hi h) hd
theorem any_take {α : Type} {l : List α} {f : α → Bool} {i : Nat} {x : α} (h : l[i]? = some x) : (l.take (i + 1)).any f = ((l.take i).any f || f x) := by
  rw [List.take_add_one, h, List.any_append]
  simp
end
/-! ### comprehensions -/
def apS (D : Addr) (y : V) (H : Hp) (R : Hp → Prop) : Prop := ∃ acc, H D = some (.lst acc) ∧ acc.length < sizeLine ∧ R (upd H D (.lst (acc ++ [y])))
def wpS (σ2 σ : St) (vs : List Nat) (R : Prop) : Prop := wipe σ2 vs = wipe σ vs ∧ R
def lcS (J : It) (g : TG) (tt : TT) (te : TE) (vs : List Nat) (σ : St) (H1 : Hp) (Q : VK) : Prop := ∀ D, H1 D = none → ∃ W : Nat → Nat → Hp → Prop, (∃ m, W 0 m (upd H1 D (.lst []))) ∧ ∀ i m H, W i m H →
  (J.stop i H ∧ Q (.ref D) H) ∨ (J.go i H ∧ ∃ Nx : Hp → Prop, (∀ H', Nx H' → ∃ m', m' < m ∧ W (i + 1) m' H') ∧ ∀ x H', J.yld i H x H' → g x (wipe σ vs) H' fun σ2 H2 => wipe σ2 vs = wipe σ vs ∧ tt σ2 H2 fun b H3 =>
    if b = true then te σ2 H3 fun y H4 => ∃ acc, H4 D = some (.lst acc) ∧ acc.length < sizeLine ∧ Nx (upd H4 D (.lst (acc ++ [y]))) else Nx H3)
class SetN (σ : St) (n : Nat) (σ' : outParam St) : Prop where
  e : σ.set n none = σ'
instance setn0 {x : Option V} {σ : St} : SetN (x :: σ) 0 (none :: σ) := ⟨rfl⟩
instance setnS {x : Option V} {σ σ' : St} {n : Nat} [a : SetN σ n σ'] : SetN (x :: σ) (n + 1) (x :: σ') := ⟨by rw [List.set_cons_succ, a.e]⟩
class Wip (σ : St) (vs : List Nat) (σ' : outParam St) : Prop where
  e : wipe σ vs = σ'
instance wip0 {σ : St} : Wip σ [] σ := ⟨rfl⟩
instance wipS {σ σ1 σ2 : St} {v : Nat} {vs : List Nat} [a : Wip σ vs σ1] [b : SetN σ1 v σ2] : Wip σ (v :: vs) σ2 := ⟨by unfold wipe; rw [a.e, b.e]⟩
instance wipM0 {σ : St} : Wip σ (List.map (fun x : Str × Nat => x.2) []) σ := ⟨rfl⟩
instance wipMS {σ σ1 σ2 : St} {x : Str} {v : Nat} {own : List (Str × Nat)} [a : Wip σ (List.map (fun x : Str × Nat => x.2) own) σ1] [b : SetN σ1 v σ2] : Wip σ (List.map (fun x : Str × Nat => x.2) ((x, v) :: own)) σ2 := ⟨by rw [List.map_cons]; unfold wipe; rw [a.e, b.e]⟩
section
variable {σ σ0 : St} {H : Hp} {K : PySem.W.Frag} {p : Addr} {xs : List V} {g : TG} {wi : TI} {tt : TT} {te : TE} {vs : List Nat} {Q : VK} {J : It} {n : Nat} {lo : Int}
instance s_lc : Stp (tLc wi g tt te vs σ H Q) (wi σ H fun J H1 => lcS J g tt te vs σ H1 Q) := ⟨id⟩
instance s_yes {R : Bool → Hp → Prop} : Stp (tYes σ H R) (R true H) := ⟨id⟩
instance s_wp {R : Prop} {σ2 : St} [a : Wip σ2 vs σ0] [b : Wip σ vs σ0] : Stp (wpS σ2 σ vs R) R := ⟨fun h => ⟨by rw [a.e, b.e], h⟩⟩
theorem r_ap {D : Addr} {y : V} {R : Hp → Prop} {acc : List V} (h : H D = some (.lst acc)) (hl : acc.length < sizeLine) (q : ∀ H2, H2 D = some (.lst (acc ++ [y])) → Kp [D] H H2 → R H2) : apS D y H R :=
  ⟨acc, h, hl, q _ upd_same (Kp.put h trivial)⟩
theorem lc_by {G : Hp → Prop} {Y : Nat → Hp → V → Hp → Prop} (w : Walk J n G Y) [hw : Wip σ vs σ0] (Pv : Addr → Nat → Hp → Prop) (h0 : ∀ D H2, H D = none → H2 D = some (.lst []) → Kp [] H H2 → Pv D 0 H2) (hG : ∀ D i H', Pv D i H' → G H')
    (hs : ∀ D i x H' H'', i < n → Pv D i H' → Y i H' x H'' → g x σ0 H'' fun σ2 H2 => wpS σ2 σ vs (tt σ2 H2 fun b H3 => iteP b (te σ2 H3 fun y H4 => apS D y H4 (Pv D (i + 1))) (Pv D (i + 1) H3)))
    (hd : ∀ D H', Pv D n H' → Q (.ref D) H') : lcS J g tt te vs σ H Q := by
  intro D hD
  refine lc_it w (Pv D) (h0 D _ hD upd_same (Kp.new hD)) (fun i H' _ h => hG D i H' h) ?_ (hd D)
  intro i x H' H'' hi h y
  rw [hw.e]
  have q := hs D i x H' H'' hi h y
  unfold wpS at q
  rw [hw.e] at q
  exact q
theorem r_lcT (xs : List V) [hw : Wip σ vs σ0] (Pv : Addr → Nat → Hp → Prop) (h0 : ∀ D H2, H D = none → H2 D = some (.lst []) → Kp [] H H2 → Pv D 0 H2) (hG : ∀ D i H', Pv D i H' → SqT K H' p xs)
    (hs : ∀ D i x H', xs[i]? = some x → Pv D i H' → g x σ0 H' fun σ2 H2 => wpS σ2 σ vs (tt σ2 H2 fun b H3 => iteP b (te σ2 H3 fun y H4 => apS D y H4 (Pv D (i + 1))) (Pv D (i + 1) H3)))
    (hd : ∀ D H', Pv D xs.length H' → Q (.ref D) H') : lcS (Itt K p) g tt te vs σ H Q :=
  lc_by (walk_tup (K := K) (a := p) (xs := xs)) Pv h0 hG (fun D i x H1 H2 _ h y => by obtain ⟨rfl, y⟩ := y; exact hs D i x _ y h) hd
theorem r_lcL (xs : List V) [hw : Wip σ vs σ0] (Pv : Addr → Nat → Hp → Prop) (h0 : ∀ D H2, H D = none → H2 D = some (.lst []) → Kp [] H H2 → Pv D 0 H2) (hG : ∀ D i H', Pv D i H' → H' p = some (.lst xs))
    (hs : ∀ D i x H', xs[i]? = some x → Pv D i H' → g x σ0 H' fun σ2 H2 => wpS σ2 σ vs (tt σ2 H2 fun b H3 => iteP b (te σ2 H3 fun y H4 => apS D y H4 (Pv D (i + 1))) (Pv D (i + 1) H3)))
    (hd : ∀ D H', Pv D xs.length H' → Q (.ref D) H') : lcS (Itl K p) g tt te vs σ H Q :=
  lc_by (walk_list (K := K) (a := p) (xs := xs)) Pv h0 (fun D i H' h => SqL.of (hG D i H' h)) (fun D i x H1 H2 _ h y => by obtain ⟨rfl, y⟩ := y; exact hs D i x _ y h) hd
theorem r_lcR [hw : Wip σ vs σ0] (Pv : Addr → Nat → Hp → Prop) (h0 : ∀ D H2, H D = none → H2 D = some (.lst []) → Kp [] H H2 → Pv D 0 H2)
    (hs : ∀ D i H', i < n → Pv D i H' → g (.int (lo + (i : Int))) σ0 H' fun σ2 H2 => wpS σ2 σ vs (tt σ2 H2 fun b H3 => iteP b (te σ2 H3 fun y H4 => apS D y H4 (Pv D (i + 1))) (Pv D (i + 1) H3)))
    (hd : ∀ D H', Pv D n H' → Q (.ref D) H') : lcS (Itr lo n) g tt te vs σ H Q :=
  lc_by walk_range Pv h0 (fun _ _ _ _ => trivial) (fun D i x H1 H2 hi h y => by obtain ⟨rfl, rfl⟩ := y; exact hs D i _ hi h) hd
end
/-! ### rules with the written part by its name (within comprehensions) -/
section
variable {X : Cx} (K : PySem.W.Frag)
theorem ixT (h : X.K = K := by rfl) : IxR X (rIxT K) := h ▸ ix_tup
theorem ixL (h : X.K = K := by rfl) : IxR X (rIxL K) := h ▸ ix_list
theorem inS (h : X.K = K := by rfl) : OpR X (compareOp .In) (rIn K false) := h ▸ op_in_seq
theorem notInS (h : X.K = K := by rfl) : OpR X (compareOp .NotIn) (rIn K true) := h ▸ op_notIn_seq
theorem cgLen (h : X.K = K := by rfl) : CallR X (.builtin "len") (rLen K) := h ▸ cg_len
theorem cgList (h : X.K = K := by rfl) : CallR X (.type "list") (rListOf K) := h ▸ cg_list
theorem cgTuple (h : X.K = K := by rfl) : CallR X (.type "tuple") (rTupOf K) := h ▸ cg_tuple
theorem cgIsi (h : X.K = K := by rfl) : CallR X (.builtin "isinstance") (rIsi K) := h ▸ call_isi
theorem eqD {k : Nat} {A : Around} (r : Room k A) (h : X.K = K := by rfl) (ha : X.A = A := by rfl) : OpR X (compareOp .Eq) (rEqD K) := h ▸ op_eqD (by rw [ha]; exact r.units)
theorem neD {k : Nat} {A : Around} (r : Room k A) (h : X.K = K := by rfl) (ha : X.A = A := by rfl) : OpR X (compareOp .NotEq) (rNeD K) := h ▸ op_neD (by rw [ha]; exact r.units)
theorem slT (h : X.K = K := by rfl) : SlR X (rSlT K) := h ▸ sl_tup
end
/-! ### is None; any, all -/
def rIsNo : R2 := fun x y H Q => y = .non ∧ Q (.bl (decide (x = .non))) H
def rNotNo : R2 := fun x y H Q => y = .non ∧ Q (.bl (!decide (x = .non))) H
theorem cg_isN {X : Cx} : OpR X (compareOp .Is) rIsNo := op_isN
theorem cg_notN {X : Cx} : OpR X (compareOp .IsNot) rNotNo := op_notN
section
variable {H : Hp} {Q : VK} {p : Addr} {K : PySem.W.Frag} {bs : List Bool}
instance s_isN0 : Stp (rIsNo .non .non H Q) (Q (.bl true) H) := ⟨fun h => ⟨rfl, h⟩⟩
instance s_isN1 : Stp (rIsNo (.ref p) .non H Q) (Q (.bl false) H) := ⟨fun h => ⟨rfl, by rw [decide_eq_false (fun e => by cases e)]; exact h⟩⟩
instance s_notN0 : Stp (rNotNo .non .non H Q) (Q (.bl false) H) := ⟨fun h => ⟨rfl, h⟩⟩
instance s_notN1 : Stp (rNotNo (.ref p) .non H Q) (Q (.bl true) H) := ⟨fun h => ⟨rfl, by rw [decide_eq_false (fun e => by cases e)]; exact h⟩⟩
theorem r_any (h : H p = some (.lst (bs.map V.bl))) (q : Q (.bl (bs.any id)) H) : rAny K [.ref p] H Q := ⟨p, bs, rfl, SqL.of h, q⟩
theorem r_all (h : H p = some (.lst (bs.map V.bl))) (q : Q (.bl (bs.all id)) H) : rAll K [.ref p] H Q := ⟨p, bs, rfl, SqL.of h, q⟩
end
/-! ### list methods -/
instance s_bm {K : PySem.W.Frag} {T : String} {r : V → List V → Hp → VK → Prop} {to : TE} {t : TA} {σ : St} {H : Hp} {Q : VK} : Stp (tBM K T r to t σ H Q) (to σ H fun x H1 => tyV K T x H1 ∧ t σ H1 fun xs H2 => r x xs H2 Q) := ⟨id⟩
theorem r_tyL {K : PySem.W.Frag} {H : Hp} {l : Addr} {xs : List V} {R : Prop} (h : H l = some (.lst xs)) (q : R) : tyV K "list" (.ref l) H ∧ R := ⟨.inl ⟨rfl, xs, SqL.of h⟩, q⟩
theorem r_app {H : Hp} {l : Addr} {xs : List V} {y : V} {Q : VK} (h : H l = some (.lst xs)) (hl : xs.length < sizeLine) (q : ∀ H2, H2 l = some (.lst (xs ++ [y])) → Kp [l] H H2 → Q .non H2) : rAppend (.ref l) [y] H Q :=
  ⟨l, xs, y, rfl, rfl, h, hl, q _ upd_same (Kp.put h trivial)⟩
section
variable {H : Hp} {Q : VK} {l p : Addr} {K : PySem.W.Frag} {xs : List V} {y : V} {i : Int}
def rIns : V → List V → Hp → VK → Prop := fun x vs H Q => ∃ (l : Addr) (xs : List V) (i : Int) (y : V), x = .ref l ∧ vs = [.int i, y] ∧ H l = some (.lst xs) ∧ xs.length < sizeLine ∧ 0 ≤ i ∧ i < 2 ^ 63 ∧ Q .non (upd H l (.lst (xs.take i.toNat ++ [y] ++ xs.drop i.toNat)))
theorem cg_insert {X : Cx} : MtR X "list.insert" rIns := mt_insert
theorem r_ins (h : H l = some (.lst xs)) (hl : xs.length < sizeLine) (h0 : 0 ≤ i) (h1 : i ≤ 1000000) (q : ∀ H2, H2 l = some (.lst (xs.take i.toNat ++ [y] ++ xs.drop i.toNat)) → Kp [l] H H2 → Q .non H2) : rIns (.ref l) [.int i, y] H Q :=
  ⟨l, xs, i, y, rfl, rfl, h, hl, h0, by omega, q _ upd_same (Kp.put h trivial)⟩
theorem r_pop (h : H l = some (.lst xs)) (h0 : 0 ≤ i) (h1 : i < xs.length) (h2 : i ≤ 1000000) (q : ∀ y H2, xs[i.toNat]? = some y → H2 l = some (.lst (xs.eraseIdx i.toNat)) → Kp [l] H H2 → Q y H2) : rPopAt (.ref l) [.int i] H Q := by
  have e : i.toNat < xs.length := by omega
  refine ⟨l, xs, i, i.toNat, xs[i.toNat], rfl, rfl, h, by omega, by omega, ?_, List.getElem?_eq_getElem e, q _ _ (List.getElem?_eq_getElem e) upd_same (Kp.put h trivial)⟩
  unfold seqIndex?
  rw [if_neg (by omega : ¬ i < 0)]
  simp
  omega
theorem r_listT (h : SqT K H p xs) (q : ∀ l H2, H l = none → H2 l = some (.lst xs) → Kp [] H H2 → Q (.ref l) H2) : rListOf K [.ref p] H Q := ⟨p, xs, rfl, .inr h, fun l hl => q l _ hl upd_same (Kp.new hl)⟩
instance s_sl {r : V → Option Int → Option Int → Hp → VK → Prop} {te : TE} {tl th : TO} {σ : St} : Stp (tSl r te tl th σ H Q) (te σ H fun x H1 => tl σ H1 fun l H2 => th σ H2 fun u H3 => r x l u H3 Q) := ⟨id⟩
instance s_noPart {σ : St} {R : Option Int → Hp → Prop} : Stp (tNoPart σ H R) (R Option.none H) := ⟨id⟩
def asI (x : V) (R : Int → Prop) : Prop := ∃ i, x = .int i ∧ R i
instance s_asI {R : Int → Prop} : Stp (asI (.int i) R) (R i) := ⟨fun h => ⟨i, rfl, h⟩⟩
instance s_part {te : TE} {σ : St} {R : Option Int → Hp → Prop} : Stp (tPart te σ H R) (te σ H fun x H1 => asI x fun i => R (some i) H1) := ⟨id⟩
theorem r_slL {lo hi : Option Int} (h : H p = some (.lst xs)) (q : ∀ l H2, H l = none → H2 l = some (.lst (cutV xs lo hi)) → Kp [] H H2 → Q (.ref l) H2) : rSlL K (.ref p) lo hi H Q := ⟨p, xs, rfl, SqL.of h, fun l hl => q l _ hl upd_same (Kp.new hl)⟩
theorem slL {X : Cx} (K : PySem.W.Frag) (h : X.K = K := by rfl) : SlR X (rSlL K) := h ▸ sl_list
theorem cut_from {i : Int} (h : 0 ≤ i) : cutV xs (some i) none = xs.drop i.toNat := by
  obtain ⟨k, rfl⟩ : ∃ k : Nat, i = k := ⟨i.toNat, by omega⟩
  unfold cutV
  rw [HT.sIx_nat, HT.sIx_none, Int.toNat_natCast]
  by_cases hk : k ≤ xs.length
  · rw [Nat.min_eq_left hk, List.take_of_length_le (by rw [List.length_drop]; omega)]
  · rw [Nat.min_eq_right (by omega), List.drop_eq_nil_of_le (Nat.le_refl _), List.drop_eq_nil_of_le (by omega), List.take_nil]
/-- a list of bools in which True, False stands -/
theorem flat_bls (bs : List Bool) : (bs.map V.bl).all flatV = true := by
  induction bs with
  | nil => rfl
  | cons b bs ih => simpa [flatV] using ih
theorem inV_true (bs : List Bool) : inV (.bl true) (bs.map V.bl) = bs.any id := by
  unfold inV
  rw [List.any_map]
  congr 1
  funext b
  cases b <;> rfl
theorem inV_false (bs : List Bool) : (!inV (.bl false) (bs.map V.bl)) = bs.all id := by
  unfold inV
  induction bs with
  | nil => rfl
  | cons b bs ih =>
    simp only [List.map_cons, List.any_cons, List.all_cons, Bool.not_or, ih]
    cases b <;> rfl
end
/-! ### the walk's own steps (rows of tactics) -/
local macro_rules | `(tactic| walk_at "cg yes") => `(tactic| (first
  | assumption | decide | omega | (simp; done)
  | fail))
local macro_rules | `(tactic| walk_at "cg ne") => `(tactic| (first
  | assumption | (apply Ne.symm; assumption) | exact ne_newL (by assumption) (by walk_at "cg h") | exact ne_newR (by assumption) (by walk_at "cg h")
  | fail))
/-- what stands at an address, a tuple, from the last heap backwards -/
local macro_rules | `(tactic| walk_at "cg h") => `(tactic| (first
  | assumption
  | ((with_reducible show _ = some _); first
      | exact Kp.get0 (by assumption) (by walk_at "cg h") | exact Kp.get1 (by assumption) (by walk_at "cg ne") (by walk_at "cg h"))
  | ((with_reducible show SqT _ _ _ _); exact Kp.tup (by assumption) (by walk_at "cg h"))
  | ((with_reducible show Im _ _ _ _); exact Kp.im (by assumption) (by walk_at "cg h"))
  | ((with_reducible show ImAll _ _ _ _); exact Kp.imAll (by assumption) (by walk_at "cg h"))
  | fail))
/-- an address that was free -/
local macro_rules | `(tactic| walk_at "cg fr") => `(tactic| (first
  | assumption
  | exact Kp.free0 (by assumption) (by assumption)
  | exact Kp.free0 (by walk_at "cg kp") (by assumption)
  | fail))
/-- the frame from the entry on -/
local macro_rules | `(tactic| walk_at "cg kp") => `(tactic| (first
  | assumption
  | exact Kp.refl
  | exact Kp.tr0 (by assumption) (by walk_at "cg kp")
  | exact Kp.tr1 (by assumption) (by walk_at "cg kp")
  | exact Kp.trN (by assumption) (by walk_at "cg kp") (by walk_at "cg fr")
  | fail))
local macro_rules | `(tactic| walk_at "cg ty") => `(tactic| (first
  | exact .base (.int _) | exact .base (.bl _) | exact .base (.str _) | exact .base .non | exact SqT.ty (by walk_at "cg h") | exact .base (.lst (by walk_at "cg h"))
  | fail))
local macro_rules | `(tactic| walk_at "cg C") => `(tactic| (first
  | assumption | exact (show CMul _ _ from .inl ⟨by omega, by omega⟩) | exact (show CMul _ _ from .inr ⟨by omega, by omega⟩) | omega | decide
  | exact ⟨by decide, by decide, by decide⟩ | exact ⟨by omega, by omega⟩
  | fail))
local macro_rules | `(tactic| walk_at "cg s") => `(tactic| (first
  | (refine go1 inferInstance inferInstance ?_)
  | ((with_reducible refine r_rI ?_ ?_); (focus (walk_at "cg C")))
  | ((with_reducible apply r_ixL); (focus (walk_at "cg h")); exact rfl)
  | ((with_reducible apply r_ixT); (focus (walk_at "cg h")); exact rfl)
  | ((with_reducible apply r_lenL); (focus (walk_at "cg h")))
  | ((with_reducible apply r_lenT); (focus (walk_at "cg h")))
  | ((with_reducible apply r_gTup); (focus (walk_at "cg h")); exact rfl)
  | ((with_reducible refine r_mkT (K := ‹PySem.W.Frag›) ?_ ?_); (focus (exact Nat.le_of_ble_eq_true rfl)); intro _ _ _ _ _)
  | ((with_reducible refine r_mkL ?_ ?_); (focus (exact Nat.le_of_ble_eq_true rfl)); intro _ _ _ _ _)
  | ((with_reducible apply r_tupleL); (focus (walk_at "cg h")); intro _ _ _ _ _)
  | ((with_reducible apply r_listT); (focus (walk_at "cg h")); intro _ _ _ _ _)
  | ((with_reducible apply r_slL); (focus (walk_at "cg h")); intro _ _ _ _ _)
  | ((with_reducible apply r_listL); (focus (walk_at "cg h")); intro _ _ _ _ _)
  | ((with_reducible apply r_setL); (focus (walk_at "cg h")); exact rfl)
  | ((with_reducible apply r_isi); (focus (exact .ty _)); (focus (walk_at "cg ty")); (focus (first | exact kit_ty (r := true) (by decide +kernel) | exact kit_ty (r := false) (by decide +kernel))))
  | ((with_reducible apply r_inL); (focus (walk_at "cg h")); exact rfl; exact rfl; (focus (first | exact (by decide +kernel : _ = true) | exact (by decide +kernel : _ = false))))
  | ((with_reducible apply r_inT); (focus (walk_at "cg h")); exact rfl; exact rfl; (focus (first | exact (by decide +kernel : _ = true) | exact (by decide +kernel : _ = false))))
  | ((with_reducible apply r_tyL); (focus (walk_at "cg h")))
  | ((with_reducible refine r_app (xs := ?xs) ?h ?hl ?_); (case h => walk_at "cg h"); (case hl => first | exact Nat.lt_of_sub_pos (by decide) | (apply small1000; omega) | (apply small1000; simp; done) | (apply small1000; simp; omega)); intro _ _ _)
  | ((with_reducible apply r_isL); (focus (walk_at "cg h")))
  | ((with_reducible apply r_isT); (focus (walk_at "cg h")))
  | ((with_reducible apply r_isR1); (focus (first | omega | (constructor <;> decide))))
  | ((with_reducible refine if_T ?_ ?_); (focus (walk_at "cg yes"))) | ((with_reducible refine if_F ?_ ?_); (focus (walk_at "cg yes")))
  | ((with_reducible refine if_NT ?_ ?_); (focus (walk_at "cg yes"))) | ((with_reducible refine if_NF ?_ ?_); (focus (walk_at "cg yes")))
  | fail))
local macro_rules | `(tactic| walk_at "cg") => `(tactic| repeat (walk_at "cg s"))

/-! ### set(xs) of a list of ints, and sorted of it -/
section
open PySem.Spec PyProof.Rows
variable {P : Program} {w : World} {A : Around} {E : Value → Shared → Prop} {s : Shared}
/-- a new empty set; the iterator of the list at l -/
def oSet (w : World) : Obj := ⟨.type "set", none, .set #[] 0 (.fresh 0 0 (!w.params.followText "set-order")), #[]⟩
def oIt (l : Addr) : Obj := ⟨.type "list_iterator", none, .fields #[.ref l, .int 0 0], #[]⟩
/-- what the making of the set leaves: the set at n, every elder object -/
def SetDone (w : World) (h0 : Heap) (ns : List Int) (h : Heap) : Prop := ∃ c, SetR w h h0.objs.size (fun j => decide (j ∈ ns)) c ∧ c ≤ ns.length ∧ ∀ b o, h0.get? b = some o → h.get? b = some o
set_option maxHeartbeats 8000000 in
theorem set_made {l : Addr} {vs : Array Value} {ns : List Int} {Q : Value → Shared → Prop} (hc : A.handled = none) (hl : s.heap.IsList l vs) (hv : IntsAre vs.toList ns) (few : ns.length ≤ 4000)
    (q : ∀ h tk, SetDone w s.heap ns h → Q (.ref s.heap.objs.size) { s with heap := h, toks := tk }) : wpAny (model P w) A (call (.type "set") [.ref l]) Q E s := by
  have room : ns.length + 1 < scanBound := by unfold scanBound; omega
  have size : vs.size = ns.length := by simpa using IntsAre.length hv
  have atS : (s.heap.push (oSet w)).get? s.heap.objs.size = some (oSet w) := Heap.get?_push_size _ rfl
  have tyS : Shared.TypeIs { s with heap := s.heap.push (oSet w) } (.ref s.heap.objs.size) "set" := ⟨_, atS, rfl⟩
  have e1 := F.called_set.made
  have e2 := F.called_set.sub
  have e3 := F.called_set.notType
  have e4 := F.called_set.canCreate
  have e5 := F.typeCall_set_1 (.ref l)
  have e6 := F.called_set.init.lookup
  have e7 := F.called_set.init.bind (.ref s.heap.objs.size)
  obtain ⟨cc, tl, e0⟩ := F.called_set.mro
  apply wpAny_call
  apply codeAny_of_tree
  show wpAny _ _ (callAny (.type "set") _) _ _ _
  apply wpAny_pure
  refine ⟨Code.quiet_builtin _ (by decide +kernel), ?_⟩
  apply codeAny_builtin F.entry_type_call
  rw [Around.under_plain (weight_type_call_type "set" [.ref l] []) rfl]
  repeat any_goals first | wp_step | assumption
  refine codeAny_mono (code_set_led1 (E := E) (.ref l) (Q₁ := fun v z => v = .ref s.heap.objs.size ∧ z = { s with heap := s.heap.push (oSet w) }) ⟨rfl, rfl⟩) ?_
  rintro (e | f) z hz
  · exact hz
  · cases f
    case ret v =>
      obtain ⟨rfl, rfl⟩ := hz
      repeat any_goals first | wp_step | assumption
      refine codeAny_mono (codeAny_call_builtin F.called_set.init.plain F.entry_set_init (check_set_init_1 tyS ?go)
        (R := wants (fun r z => r = .none ∧ ∃ h tk, z = { s with heap := h, toks := tk } ∧ SetDone w s.heap ns h) E)) ?_
      case go =>
        obtain ⟨⟨c0, d0, t0, s0⟩, at0, cl0, n0, da0⟩ := hl
        dsimp only at cl0 da0
        subst cl0 da0
        have atL : (s.heap.push (oSet w)).get? l = some ⟨.type "list", d0, .seq vs n0, s0⟩ := Heap.get?_push_of_some _ at0
        have isL : (s.heap.push (oSet w)).IsList l vs := ⟨_, atL, rfl, n0, rfl⟩
        have f1 := F.sub_list_set
        have f2 := F.sub_list_frozenset
        have f3 : (Value.type "list" == Value.type "dict") = false := by decide
        unfold Builtin.«set.__init__» noKeywords Builtin.Frozenset.updateFrom
        generalize hw : pyIter = it0
        wp_walk
        subst hw
        apply wpAny_pyIter_list isL
        apply wpAny_bind
        apply wpAny_runValue
        have small : l < s.heap.objs.size := Heap.lt_size at0
        have big : (s.heap.push (oSet w)).objs.size = s.heap.objs.size + 1 := Heap.size_push ..
        have calm : A.in1.in1.in1.handled = none := by simpa using hc
        have n1 : l ≠ (s.heap.push (oSet w)).objs.size := by
          rw [big]
          exact Nat.ne_of_lt (Nat.lt_succ_of_lt small)
        have n2 : s.heap.objs.size ≠ (s.heap.push (oSet w)).objs.size := by
          rw [big]
          exact Nat.ne_of_lt (Nat.lt_succ_self _)
        refine set_update_ints (Walks.list calm _ l n1 vs).toS s.heap.objs.size (fun hm => ?f1) ns size room (fun i v ev => ?f2) (vs.size - 0) 0 _ rfl (Nat.zero_le _)
          ⟨⟨_, Heap.get?_push_size _ rfl, rfl, rfl⟩, isL.push _⟩ ⟨0, Nat.le_refl 0, setR_new_at (Heap.get?_push_of_some _ atS)⟩ ?f3
        case f1 =>
          rcases List.mem_cons.mp hm with e | hm
          · exact n2 e
          · exact Nat.ne_of_gt small (List.mem_singleton.mp hm)
        case f2 =>
          have hi : i < ns.length := size ▸ (Array.getElem?_eq_some_iff.mp ev).1
          obtain ⟨t, e⟩ := IntsAre.int_at hv i v (by simpa using ev)
          exact ⟨ns[i], t, by simp [hi], by simp [e, hi]⟩
        case f3 =>
          rintro ⟨h, g, d, tk, os⟩ c moved hcn hS
          obtain rfl : g = s.gens := moved.gens
          obtain rfl : d = s.drawn := moved.drawn
          obtain rfl : os = s.os := moved.os
          apply wpAny_pure
          show wpAny _ _ (ret Value.none) _ _ _
          apply wpAny_pure
          refine ⟨rfl, h, tk, rfl, c, hS, by omega, fun b o e => ?_⟩
          have lt := Heap.lt_size e
          refine moved.heap b o (fun hm => ?_) (Heap.get?_push_of_some _ (Heap.get?_push_of_some _ e))
          rcases List.mem_cons.mp hm with e | hm
          · exact Nat.ne_of_lt lt e
          · have e : b = (s.heap.push (oSet w)).objs.size := List.mem_singleton.mp hm
            rw [big] at e
            exact Nat.ne_of_lt (Nat.lt_succ_of_lt lt) e
      rintro (e | f) z hz
      · exact hz
      · cases f
        case ret v =>
          obtain ⟨rfl, h, tk, rfl, done⟩ := hz
          repeat any_goals first | wp_step | assumption
          exact q h tk done
        all_goals exact hz.elim
    all_goals exact hz.elim
end
/-- set(xs), xs a list of ints -/
def rSetL (K : PySem.W.Frag) (w : World) : List V → Hp → VK → Prop := fun vs H Q => ∃ (l : Addr) (ns : List Int), vs = [.ref l] ∧ SqL K H l (ns.map V.int) ∧ ns.length ≤ 4000 ∧
  ∀ p c, H p = none → c ≤ ns.length → (∀ us : List Int, (∀ j ∈ ns, j ∈ us) → c ≤ us.length) → Q (.ref p) (upd H p (SetO w p (fun j => decide (j ∈ ns)) c))
theorem nodup_le0 : ∀ {ns us : List Int}, ns.Nodup → (∀ k ∈ ns, k ∈ us) → ns.length ≤ us.length
  | [], _, _, _ => Nat.zero_le _
  | n :: ns, us, h, s => by
    rw [List.nodup_cons] at h
    have m := s n List.mem_cons_self
    have q := nodup_le0 (ns := ns) (us := us.erase n) h.2 fun k hk => (List.mem_erase_of_ne fun e => h.1 (by rw [← e]; exact hk)).mpr (s k (List.mem_cons_of_mem _ hk))
    rw [List.length_erase_of_mem m] at q
    have := List.length_pos_of_mem m
    rw [List.length_cons]
    omega
theorem setR_card {w : World} {h : Heap} {a : Addr} {S : Int → Bool} {c : Nat} (R : SetR w h a S c) {us : List Int} (hs : ∀ k, S k = true → k ∈ us) : c ≤ us.length := by
  obtain ⟨o, es, ep, t, _, _, _, _, nd, iff, _, _, hsz, _⟩ := R
  have q := nodup_le0 nd fun k hk => hs k ((iff k).mpr hk)
  rw [List.length_map] at q
  have : es.toList.length = es.size := by simp
  omega
theorem cg_setL {X : Cx} (hc : X.calm = true) : CallR X (.type "set") (rSetL X.K X.w) := by
  rintro pins s σ H vs us Q I r ⟨l, ns, rfl, hS, hn, q⟩
  obtain ⟨its, rv, pl, hz⟩ := I.list hS
  have e1 := Vals.ref1 r
  subst e1
  have hv : PyProof.Rows.IntsAre its.toArray.toList ns := by simpa using rv.ints
  refine set_made (I.ok.hd hc) pl.isList hv hn ?_
  rintro h tk ⟨c, hR, hcn, keep⟩
  have free : H s.heap.objs.size = none := I.hok.fresh (Nat.le_refl _)
  exact ⟨.ref _, _, I.laid (t' := tk) keep (Nat.le_refl _) (setO_new hR), rfl, q _ c free hcn fun us hu => setR_card hR fun k hk => hu k (of_decide_eq_true hk)⟩

/-! ### sets of tuples of flat things (ints, texts, bools, None) -/
section
open PySem.Spec PyProof.Rows
variable {P : Program} {w : World} {κ : Type} [DecidableEq κ] {kn : KeyKind P w κ} {A : Around} {E : Value → Shared → Prop} {s : Shared}
theorem tv_cls (n : Nat) {v : Value} (h : carriedByValue v = true) : ofAClassStatement n v = pure false := by
  cases v with
  | ref a => simp [carriedByValue] at h
  | _ => cases n <;> rfl
theorem tv_hash (n : Nat) {v : Value} (h : carriedByValue v = true) : ∃ b, hashByValue n v = pure b := by
  cases v with
  | ref a => simp [carriedByValue] at h
  | _ => cases n <;> exact ⟨_, rfl⟩
/-- a tuple of flat things is of no class statement -/
theorem tt_cls {k : List κ} {b : Addr} {Q : Bool → Shared → Prop} (T : IsTupleKey kn s.heap k b) (q : Q false s) : wpAny (model P w) A (ofAClassStatement 8 (.ref b)) Q E s := by
  have ty := T.typeIs
  obtain ⟨o, its, n, at0, _, da, ia⟩ := T
  unfold ofAClassStatement
  refine wpAny_bind (wpAny_typeOf ty ?_)
  dsimp only
  have e0 : (("tuple" : String) == "tuple") = true := by decide
  simp only [e0, if_true, Bool.not_true, Bool.false_eq_true, if_false]
  try refine wpAny_bind (wpAny_pure ?_)
  try simp only [Bool.not_true, Bool.false_eq_true, if_false]
  show wpAny _ _ (seqItems? (.ref b) >>= _) _ _ s
  refine wpAny_bind (wpAny_seqItems at0 da ?_)
  dsimp only
  refine wpAny_bind ?_
  show wpAny _ _ (forIn its _ _) _ _ s
  rw [← Array.forIn_toList]
  refine wpAny_forIn_list _ (fun left st z => st.1 = none ∧ z = s ∧ ∀ v ∈ left, carriedByValue v = true) _ ?_ ?_ _ _ ⟨rfl, rfl, ia.byValue⟩
  · rintro v left st z ⟨e1, rfl, all⟩
    rw [tv_cls _ (all v List.mem_cons_self)]
    refine wpAny_bind (wpAny_pure ?_)
    simp only [Bool.false_eq_true, if_false]
    exact wpAny_pure ⟨rfl, rfl, fun u hu => all u (List.mem_cons_of_mem _ hu)⟩
  · rintro ⟨x, y⟩ z ⟨e1, rfl, _⟩
    simp only at e1
    subst e1
    exact wpAny_pure q
/-- whether its hash is by value: one of both -/
theorem tt_hash {k : List κ} {b : Addr} {Q : Bool → Shared → Prop} (T : IsTupleKey kn s.heap k b) (q : ∀ r, Q r s) : wpAny (model P w) A (hashByValue 8 (.ref b)) Q E s := by
  have ty := T.typeIs
  obtain ⟨o, its, n, at0, _, da, ia⟩ := T
  unfold hashByValue
  refine wpAny_bind (wpAny_specialOf ty F.slot_tuple_hash.lookup ?_)
  show wpAny _ _ (seqItems? (.ref b) >>= _) _ _ s
  refine wpAny_bind (wpAny_seqItems at0 da ?_)
  refine wpAny_bind ?_
  show wpAny _ _ (forIn its _ _) _ _ s
  rw [← Array.forIn_toList]
  refine wpAny_forIn_list _ (fun left st z => st.1 = none ∧ z = s ∧ ∀ v ∈ left, carriedByValue v = true) _ ?_ ?_ _ _ ⟨rfl, rfl, ia.byValue⟩
  · rintro v left st z ⟨e1, rfl, all⟩
    obtain ⟨r, e2⟩ := tv_hash 7 (all v List.mem_cons_self)
    rw [e2]
    refine wpAny_bind (wpAny_pure ?_)
    cases r
    · simp only [Bool.not_false, if_true]
      exact wpAny_pure (wpAny_pure (q false))
    · simp only [Bool.not_true, Bool.false_eq_true, if_false]
      exact wpAny_pure ⟨rfl, rfl, fun u hu => all u (List.mem_cons_of_mem _ hu)⟩
  · rintro ⟨x, y⟩ z ⟨e1, rfl, _⟩
    simp only at e1
    subst e1
    exact wpAny_pure (q true)
/-- a search among such tuples shows nothing -/
theorem tt_seen {k : List κ} {b : Addr} {Q : Bool → Shared → Prop} (T : IsTupleKey kn s.heap k b) {ys : List Value} (hy : ∀ y ∈ ys, ∃ k' c, y = Value.ref c ∧ IsTupleKey kn s.heap k' c) (q : Q false s) :
    wpAny (model P w) A (searchCouldBeSeen (.ref b) ys) Q E s := by
  unfold searchCouldBeSeen
  refine wpAny_bind ?_
  refine wpAny_forIn_list _ (fun left st z => st.1 = none ∧ z = s ∧ ∀ y ∈ left, ∃ k' c, y = Value.ref c ∧ IsTupleKey kn s.heap k' c) _ ?_ ?_ _ _ ⟨rfl, rfl, hy⟩
  · rintro v left st z ⟨e1, rfl, all⟩
    obtain ⟨k', c, rfl, T'⟩ := all v List.mem_cons_self
    have more : ∀ y ∈ left, ∃ k' c, y = Value.ref c ∧ IsTupleKey kn z.heap k' c := fun u hu => all u (List.mem_cons_of_mem _ hu)
    dsimp only
    by_cases hv : (b == c || (carriedByValue (.ref b) && carriedByValue (.ref c))) = true
    · refine wp_if_pos hv ?_
      exact wpAny_pure ⟨rfl, rfl, more⟩
    · refine wp_if_neg hv ?_
      refine wpAny_bind (wpAny_eqIsQuiet_tuple T ?_)
      simp only [Bool.not_true, Bool.false_eq_true, if_false]
      refine wpAny_bind (wpAny_eqIsQuiet_tuple T' ?_)
      simp only [Bool.not_true, Bool.false_eq_true, if_false]
      refine wpAny_bind (tt_cls T ?_)
      simp only [Bool.false_eq_true, if_false]
      refine wpAny_bind (tt_cls T' ?_)
      simp only [Bool.false_eq_true, if_false]
      exact wpAny_pure ⟨rfl, rfl, more⟩
  · rintro ⟨x, y⟩ z ⟨e1, rfl, _⟩
    simp only at e1
    subst e1
    exact wpAny_pure q

variable (kn)
/-- the entries that a list of tuples makes -/
def tEnt (p : Addr × List κ) : Int × Value := (tupleKeyHash kn p.2, .ref p.1)
/-- the set at a holds the tuples of L, in the order of the table -/
structure TSet (h : Heap) (a : Addr) (L : List (Addr × List κ)) (es : Array (Int × Value)) (ep : Nat) (t : SetTable) : Prop where
  ob : ∃ o, h.get? a = some o ∧ o.ExactSet ∧ o.data = .set es ep t
  rows : es.toList = L.map (tEnt kn)
  tab : TabOk t (L.map fun p => tupleKeyHash kn p.2)
  nd : (L.map (·.2)).Nodup
  tup : ∀ p ∈ L, IsTupleKey kn h p.2 p.1
  led : w.params.followText "set-order" = true ∨ t.led = true
  room : L.length * 5 < t.mask * 3
  few : L.length < 64
variable {kn}
variable {a : Addr} {L : List (Addr × List κ)} {es : Array (Int × Value)} {ep : Nat} {t : SetTable}
theorem TSet.size {h : Heap} (R : TSet kn h a L es ep t) : es.size = L.length := by
  have q := congrArg List.length R.rows
  simpa using q
theorem tfits (hp : t.place.size = es.size) (hd : t.dummies = #[]) (hl : es.size ≤ t.mask) : t.fits es.size = true := by
  unfold SetTable.fits SetTable.fill
  rw [hd, Bool.and_eq_true, beq_iff_eq, decide_eq_true_eq]
  show t.place.size = es.size ∧ t.place.size + 0 ≤ t.mask
  omega
theorem TSet.psz {h : Heap} (R : TSet kn h a L es ep t) : t.place.size = es.size := by
  have q := R.tab.sz
  rw [List.length_map] at q
  rw [q, R.size]
theorem TSet.fits {h : Heap} (R : TSet kn h a L es ep t) : t.fits es.size = true := by
  have h2 := R.size
  have h3 := R.room
  exact tfits R.psz R.tab.dm (by omega)
theorem TSet.entry {h : Heap} (R : TSet kn h a L es ep t) {i : Nat} {p : Addr × List κ} (e : L[i]? = some p) : es[i]? = some (tupleKeyHash kn p.2, Value.ref p.1) := by
  rw [← Array.getElem?_toList, R.rows, List.getElem?_map, e]
  rfl
theorem TSet.gw {h : Heap} (R : TSet kn h a L es ep t) : ¬ t.gaveWay = true := by
  unfold SetTable.gaveWay
  rw [mask_odd R.tab.mok]
  decide
theorem TSet.at {h h' : Heap} (R : TSet kn h a L es ep t) (ha : ∀ o, h.get? a = some o → h'.get? a = some o) (ht : ∀ p ∈ L, IsTupleKey kn h' p.2 p.1) : TSet kn h' a L es ep t := by
  obtain ⟨o, ho, r⟩ := R.ob
  exact ⟨⟨o, ha o ho, r⟩, R.rows, R.tab, R.nd, ht, R.led, R.room, R.few⟩
theorem tk_keep {h h' : Heap} {k : List κ} {b : Addr} (T : IsTupleKey kn h k b) (hk : ∀ c o, h.get? c = some o → h'.get? c = some o) : IsTupleKey kn h' k b := by
  obtain ⟨o, its, n, ho, r⟩ := T
  exact ⟨o, its, n, hk b o ho, r⟩
/-- a tuple isn't the set -/
theorem tk_other {h h' : Heap} {k : List κ} {b : Addr} {o : Obj} (T : IsTupleKey kn h k b) (ho : h.get? a = some o) (hd : o.data = .set es ep t) (hs : Heap.SameBut a h h') : IsTupleKey kn h' k b := by
  obtain ⟨o', its, n, ho', hc, hd', hi⟩ := T
  refine ⟨o', its, n, (hs.2 b fun e => ?_).trans ho', hc, hd', hi⟩
  rw [e, ho] at ho'
  rw [← Option.some.inj ho', hd] at hd'
  exact nomatch hd'
theorem nth_dummy (m : Nat) : ∀ (n : Nat) (p : SetTable.Probe), p.dummy = none → (nth m p n).dummy = none
  | 0, _, h => h
  | n + 1, p, h => nth_dummy m n (adv m p) (by unfold adv; split <;> exact h)
/-- the start of a search -/
abbrev ways (m : Nat) (h : Int) : SetTable.Probe := runAt m (SetTable.bits h % (m + 1)) (SetTable.bits h)
set_option maxHeartbeats 8000000 in
/-- the search, from the c-th step of the way on -/
theorem tset_from (R : TSet kn s.heap a L es ep t) {x : Addr} {k : List κ} (hx : IsTupleKey kn s.heap k x) (hu : A.units < cLine) {N : Nat} (N1 : N < 10 * SetTable.turns t.mask)
    (N2 : way t.mask (tupleKeyHash kn k) N ∉ t.place.toList) (N3 : ∀ c, c < N → way t.mask (tupleKeyHash kn k) c ∈ t.place.toList) {Q : SetFound → Shared → Prop}
    (yes : k ∈ L.map (·.2) → Q (.there none) s) (no : k ∉ L.map (·.2) → Q (.free (way t.mask (tupleKeyHash kn k) N) false) s) :
    ∀ (f c : Nat) (stand : Option SetTable.Probe), stand.getD (t.probeStart (tupleKeyHash kn k)) = nth t.mask (ways t.mask (tupleKeyHash kn k)) c → c ≤ N → N - c < f →
      (∀ (i : Nat) p, L[i]? = some p → p.2 = k → ∃ d, c ≤ d ∧ d < N ∧ t.place.toList[i]? = some (way t.mask (tupleKeyHash kn k) d)) →
      wpAny (model P w) A (setSearchFrom a (.ref x) (tupleKeyHash kn k) true f stand) Q E s
  | 0, _, _, _, _, hf, _ => absurd hf (Nat.not_lt_zero _)
  | f + 1, c, stand, hst, hc, hf, hre => by
    obtain ⟨o, ho, _, hd⟩ := R.ob
    generalize hh : tupleKeyHash kn k = hs at *
    rw [setSearchFrom_succ]
    refine wpAny_bind (wpAny_setState_of ho hd R.fits ?_)
    dsimp only
    refine wp_if_neg R.gw ?_
    try refine wpAny_bind (wpAny_pure ?_)
    have e1 : ∀ q, nth t.mask (nth t.mask (ways t.mask hs) c) q = nth t.mask (ways t.mask hs) (c + q) := fun q => (nth_add t.mask c _ q).symm
    have e2 : ∀ q, (nth t.mask (nth t.mask (ways t.mask hs) c) q).j = way t.mask hs (c + q) := fun q => congrArg SetTable.Probe.j (e1 q)
    have e3 : c + (N - c) = N := by omega
    have at_ : ∀ (i : Nat) p, L[i]? = some p → (es[i]?.map (·.1)).getD 0 = tupleKeyHash kn p.2 := fun i p hp => by
      rw [R.entry hp]
      rfl
    rcases go_spec t R.tab.ris R.tab.dm (fun i => (es[i]?.map (·.1)).getD 0) hs (10 * SetTable.turns t.mask) (N - c) _ (nth_dummy t.mask c (ways t.mask hs) rfl) (by omega)
      (fun q hq => by rw [e2]; exact N3 (c + q) (by omega)) (by rw [e2, e3]; exact N2) with ⟨q, i, hq, hi, hhi, none_before, pr⟩ | ⟨none_before, pr⟩
    · have pr2 : t.probe (fun i => (es[i]?.map (·.1)).getD 0) hs (stand.getD (t.probeStart hs)) = some (.candidate (way t.mask hs (c + q)) i (nth t.mask (ways t.mask hs) (c + (q + 1)))) := by
        rw [hst, ← e2, ← e1]
        exact pr
      rw [pr2]
      dsimp only
      rw [e2] at hi
      have lt : i < L.length := by
        have h1 : i < t.place.toList.length := (List.getElem?_eq_some_iff.mp hi).1
        rw [Array.length_toList, R.psz, R.size] at h1
        exact h1
      obtain ⟨p, hp⟩ : ∃ p, L[i]? = some p := ⟨_, List.getElem?_eq_getElem lt⟩
      have hm : p ∈ L := List.mem_of_getElem? hp
      have T := R.tup p hm
      have sl : t.slot (way t.mask hs (c + q)) = .live i := slot_live R.tab.ris hi
      have go : wpAny (model P w) A (searchRest a (.ref x) hs true f es t (way t.mask hs (c + q)) i (nth t.mask (ways t.mask hs) (c + (q + 1)))) Q E s := by
        unfold searchRest
        rw [R.entry hp]
        dsimp only
        refine wpAny_bind (wpAny_holding (wpAny_eqBool_tuple hu T hx ?_))
        refine wpAny_bind (wpAny_setState_of ho hd R.fits ?_)
        dsimp only
        by_cases same : p.2 = k
        · refine wp_if_pos (by simp [same]) ?_
          exact wpAny_pure (yes (List.mem_map.mpr ⟨p, hm, same⟩))
        · refine wp_if_neg (by simp [same]) ?_
          try refine wpAny_bind (wpAny_pure ?_)
          rw [sameMem]
          dsimp only
          simp only [if_true, sl, R.entry hp]
          refine wpAny_bind (wpAny_isSame_ref_self (wpAny_bind (wpAny_pure ?_)))
          simp only [if_true]
          refine wp_if_neg (by simp [same]) ?_
          subst hh
          refine tset_from R hx hu N1 N2 N3 yes no f (c + (q + 1)) _ rfl (by omega) (by omega) fun i0 p0 h0 k0 => ?_
          obtain ⟨d, d1, d2, d3⟩ := hre i0 p0 h0 k0
          refine ⟨d, ?_, d2, d3⟩
          rcases Nat.lt_trichotomy d (c + q) with z | z | z
          · refine absurd ((at_ i0 p0 h0).trans (congrArg (tupleKeyHash kn) k0)) (none_before (d - c) i0 (by omega) ?_)
            rw [e2, show c + (d - c) = d by omega]
            exact d3
          · rw [z] at d3
            have sl2 := slot_live R.tab.ris d3
            rw [sl] at sl2
            injection sl2 with sl2
            rw [← sl2, hp] at h0
            exact absurd ((congrArg Prod.snd (Option.some.inj h0)).trans k0) same
          · omega
      by_cases hl : t.led = true
      · refine wp_if_neg (by simp [hl]) ?_
        try refine wpAny_bind (wpAny_pure ?_)
        exact go
      · refine wp_if_pos (by simp [hl]) ?_
        refine wpAny_bind (tt_seen hx (fun y hy => ?_) ?_)
        · obtain ⟨e, he, ee⟩ := List.mem_map.mp hy
          have he1 : e ∈ es ∧ e.1 = hs := by simpa using he
          have he2 : e ∈ es.toList := by simpa using he1.1
          rw [R.rows] at he2
          obtain ⟨p2, hp2, e5⟩ := List.mem_map.mp he2
          exact ⟨p2.2, p2.1, by rw [← ee, ← e5]; rfl, R.tup p2 hp2⟩
        · refine wp_if_neg (by decide) ?_
          try refine wpAny_bind (wpAny_pure ?_)
          exact go
    · have pr2 : t.probe (fun i => (es[i]?.map (·.1)).getD 0) hs (stand.getD (t.probeStart hs)) = some (.empty (way t.mask hs N) none) := by
        have e4 : way t.mask hs N = (nth t.mask (nth t.mask (ways t.mask hs) c) (N - c)).j := by rw [e2, e3]
        rw [hst, e4]
        exact pr
      rw [pr2]
      dsimp only
      refine wpAny_pure (no fun hm => ?_)
      obtain ⟨p0, h0, k0⟩ := List.mem_map.mp hm
      obtain ⟨i0, hi0, e0⟩ := List.getElem_of_mem h0
      have h00 : L[i0]? = some p0 := by rw [List.getElem?_eq_getElem hi0, e0]
      obtain ⟨d, d1, d2, d3⟩ := hre i0 p0 h00 k0
      refine none_before (d - c) i0 (by omega) ?_ ((at_ i0 p0 h00).trans ((congrArg (tupleKeyHash kn) k0).trans hh))
      rw [e2, show c + (d - c) = d by omega]
      exact d3
/-- the search that adding asks for -/
theorem tset_search (R : TSet kn s.heap a L es ep t) {x : Addr} {k : List κ} (hx : IsTupleKey kn s.heap k x) (hu : A.units < cLine) {Q : SetFound → Shared → Prop} (yes : k ∈ L.map (·.2) → Q (.there none) s)
    (no : ∀ N, k ∉ L.map (·.2) → way t.mask (tupleKeyHash kn k) N ∉ t.place.toList → (∀ c, c < N → way t.mask (tupleKeyHash kn k) c ∈ t.place.toList) → Q (.free (way t.mask (tupleKeyHash kn k) N) false) s) :
    wpAny (model P w) A (setSearch a (.ref x) (tupleKeyHash kn k) true) Q E s := by
  have r := R.room
  obtain ⟨N, N1, N2, N3⟩ := R.tab.first (by rw [List.length_map]; omega) (tupleKeyHash kn k)
  have small : 10 * SetTable.turns t.mask ≤ 1420 := by
    unfold SetTable.turns
    rcases R.tab.mok with e | e | e <;> omega
  unfold setSearch
  refine tset_from R hx hu N1 N2 N3 yes (fun h => no N h N2 N3) 100000 0 none rfl (Nat.zero_le _) (by omega) fun i p hp e => ?_
  have hi : (L.map fun p => tupleKeyHash kn p.2)[i]? = some (tupleKeyHash kn k) := by
    rw [List.getElem?_map, hp, ← e]
    rfl
  have il : i < t.place.toList.length := by
    rw [Array.length_toList, R.psz, R.size]
    exact (List.getElem?_eq_some_iff.mp hp).1
  obtain ⟨d, hd, e2⟩ := R.tab.before N2 hi (List.getElem?_eq_getElem il)
  exact ⟨d, Nat.zero_le _, hd, by rw [List.getElem?_eq_getElem il, e2]⟩
end

/-! ### one more tuple, the table laid anew, the whole of set(tuple of tuples) -/
section
open PySem.Spec PyProof.Rows
variable {P : Program} {w : World} {κ : Type} [DecidableEq κ] {kn : KeyKind P w κ} {A : Around} {E : Value → Shared → Prop} {s : Shared} {a : Addr} {L : List (Addr × List κ)} {es : Array (Int × Value)} {ep : Nat} {t : SetTable}
theorem pick_all {α : Type} (L : List α) : ∀ n, n ≤ L.length → (List.range n).filterMap (fun i => L[i]?) = L.take n
  | 0, _ => rfl
  | n + 1, h => by
    rw [List.range_succ, List.filterMap_append, pick_all L n (Nat.le_of_lt h), List.take_add_one, List.getElem?_eq_getElem h]
    rw [List.filterMap_cons_some (List.getElem?_eq_getElem h)]
    rfl
/-- the entries in another order are those of the tuples in that order -/
theorem tset_order (L : List (Addr × List κ)) (es : Array (Int × Value)) (hr : es.toList = L.map (tEnt kn)) : ∀ l : List Nat, (∀ i ∈ l, i < L.length) →
    l.filterMap (fun i => es[i]?) = (l.filterMap fun i => L[i]?).map (tEnt kn) ∧ ((l.filterMap fun i => L[i]?).map fun p => tupleKeyHash kn p.2) = l.map fun i => (es.map (·.1)).getD i 0
  | [], _ => ⟨rfl, rfl⟩
  | i :: l, hl => by
    have hi := hl i List.mem_cons_self
    obtain ⟨e1, e2⟩ := tset_order L es hr l fun j hj => hl j (List.mem_cons_of_mem _ hj)
    have en : es[i]? = some (tEnt kn L[i]) := by
      rw [← Array.getElem?_toList, hr, List.getElem?_map, List.getElem?_eq_getElem hi]
      rfl
    refine ⟨?_, ?_⟩
    · rw [List.filterMap_cons_some en, List.filterMap_cons_some (List.getElem?_eq_getElem hi), e1]
      rfl
    · rw [List.filterMap_cons_some (List.getElem?_eq_getElem hi), List.map_cons, List.map_cons, e2]
      have e5 : (es.map (·.1))[i]? = some (tupleKeyHash kn (L[i]).2) := by
        rw [Array.getElem?_map, en]
        rfl
      rw [Array.getD_eq_getD_getElem?, e5]
      rfl
theorem put_other (L : List (Addr × List κ)) (p : Nat) (x : Addr × List κ) : (L.take p ++ x :: L.drop p).Perm (x :: L) := by
  have h : (L.take p ++ x :: L.drop p).Perm (x :: (L.take p ++ L.drop p)) := List.perm_middle
  rwa [List.take_append_drop] at h
set_option maxHeartbeats 8000000 in
/-- a larger table -/
theorem tset_relay {o : Obj} (ho : s.heap.get? a = some o) (ex : o.ExactSet) (hd : o.data = .set es ep t) (rows : es.toList = L.map (tEnt kn)) (psz : t.place.size = es.size) (dm : t.dummies = #[]) (fl : es.size ≤ t.mask)
    (nd : (L.map (·.2)).Nodup) (tup : ∀ p ∈ L, IsTupleKey kn s.heap p.2 p.1) (ld : w.params.followText "set-order" = true ∨ t.led = true) (few : L.length < 64) {wanted M : Nat}
    (hw : SetTable.sizeAbove wanted - 1 = M) (hM : MaskOk M) (hw2 : SetTable.sizeAbove wanted ≤ 128) (hn : L.length * 5 < M * 3) {Q : Unit → Shared → Prop}
    (q : ∀ h' L' es' ep' t', Heap.SameBut a s.heap h' → TSet kn h' a L' es' ep' t' → L'.Perm L → Q () { s with heap := h' }) : wpAny (model P w) A (setRelay a wanted) Q E s := by
  have sz : es.size = L.length := by simpa using congrArg List.length rows
  obtain ⟨t', order, e, hp, T, em, el, _, _⟩ := relaid_ok t (hs := es.map (·.1)) (wanted := wanted) hw hM (by rw [Array.size_map, sz]; omega)
  rw [Array.size_map, sz] at hp
  obtain ⟨r1, r3⟩ := tset_order L es rows order.toList fun i hi => List.mem_range.mp (hp.mem_iff.mp hi)
  have r2 : (order.toList.filterMap fun i => L[i]?).Perm L := by
    have h1 := hp.filterMap fun i => L[i]?
    rwa [pick_all L L.length (Nat.le_refl _), List.take_length] at h1
  generalize order.toList.filterMap (fun i => L[i]?) = L2 at r1 r2 r3
  rw [← r3] at T
  have r4 : (order.filterMap (es[·]?)).toList = L2.map (tEnt kn) := by
    first | (rw [Array.toList_filterMap]; exact r1) | simpa using r1
  have s2 : (order.filterMap (es[·]?)).size = es.size := by
    have h := congrArg List.length r4
    rw [Array.length_toList, List.length_map, r2.length_eq] at h
    rw [h, sz]
  rw [setRelay_eq]
  refine wpAny_bind (wpAny_setState_of ho hd (tfits psz dm fl) ?_)
  dsimp only
  refine wp_if_neg (by rw [sizeLine_eq]; omega) ?_
  try refine wpAny_bind (wpAny_pure ?_)
  rw [e]
  dsimp only
  refine wpAny_bind ?_
  refine wp_if_neg (by rw [s2]; simp) ?_
  try refine wpAny_bind (wpAny_pure ?_)
  refine wpAny_pure ?_
  dsimp only
  refine wpAny_storeSet_of ho hd ?_ (by rw [s2, sz, sizeLine_eq]; omega)
  have sb : Heap.SameBut a s.heap (s.heap.update a (Obj.putSet (order.filterMap (es[·]?)) t')) := Heap.SameBut.update ..
  refine q _ L2 (order.filterMap (es[·]?)) (ep + 1) t' sb ⟨⟨_, store_at ho hd, ⟨ex.1, ex.2.1, ex.2.2⟩, rfl⟩, r4, T, (r2.map (·.2)).nodup_iff.mpr nd, fun p hpm => tk_other (tup p (r2.mem_iff.mp hpm)) ho hd sb, by rw [el]; exact ld, ?_, by rw [r2.length_eq]; exact few⟩ r2
  rw [r2.length_eq, em]
  exact hn
/-- what holds behind one more: the old tuples and this one, once -/
def OneMore (L : List (Addr × List κ)) (x : Addr) (k : List κ) (L' : List (Addr × List κ)) : Prop := (k ∈ L.map (·.2) → L' = L) ∧ (k ∉ L.map (·.2) → L'.Perm ((x, k) :: L))
set_option maxHeartbeats 16000000 in
theorem tset_add (R : TSet kn s.heap a L es ep t) {x : Addr} {k : List κ} (hx : IsTupleKey kn s.heap k x) (hu : A.units < cLine) (hfew : L.length + 1 < 64) {Q : Bool → Shared → Prop}
    (q : ∀ b h' L' es' ep' t', Heap.SameBut a s.heap h' → TSet kn h' a L' es' ep' t' → OneMore L x k L' → Q b { s with heap := h' }) :
    wpAny (model P w) A (setAddHashed a (.ref x) (tupleKeyHash kn k)) Q E s := by
  obtain ⟨o, ho, hex, hd⟩ := R.ob
  have sz := R.size
  have room := R.room
  unfold setAddHashed
  refine wpAny_holding ?_
  rw [show (100000 : Nat) = 99999 + 1 from rfl, setAddHashedIn_succ]
  refine wpAny_bind (wpAny_setState_of ho hd R.fits ?_)
  dsimp only
  refine wp_if_neg (by simp [byScan, Value.scannable]) ?_
  try refine wpAny_bind (wpAny_pure ?_)
  refine wpAny_bind (tset_search R hx hu (fun hm => ?_) fun N hm N2 N3 => ?_)
  · dsimp only
    exact wpAny_pure (q false s.heap L es ep t (Heap.SameBut.refl a s.heap) R ⟨fun _ => rfl, fun z => absurd hm z⟩)
  · dsimp only
    refine wpAny_bind (wpAny_setState_of ho hd R.fits ?_)
    dsimp only
    obtain ⟨q1, q2, q3, q4, q5, _, _, _, q9⟩ := R.tab.put N2 N3
    generalize hpt : t.put (way t.mask (tupleKeyHash kn k) N) = pt at q1 q3 q4 q5 q9 ⊢
    obtain ⟨t1, p⟩ := pt
    dsimp only at q1 q3 q4 q5 q9 ⊢
    subst q1
    -- the table, whatever it says of plain
    have fin : ∀ t2 : SetTable, TabOk t2 (List.map (fun p => tupleKeyHash kn p.2) L |>.take (SetTable.below t.place (way t.mask (tupleKeyHash kn k) N)) |>.append (tupleKeyHash kn k :: (L.map fun p => tupleKeyHash kn p.2).drop (SetTable.below t.place (way t.mask (tupleKeyHash kn k) N)))) →
        t2.mask = t.mask → t2.led = t.led → t2.fill = L.length + 1 → wpAny (model P w) A (do
          storeSet a (SetTable.insertAt es (SetTable.below t.place (way t.mask (tupleKeyHash kn k) N)) (tupleKeyHash kn k, Value.ref x)) t2
          if !false && t2.tooFull then setRelay a (SetTable.grown (es.size + 1))
          return true) Q E s := fun t2 T2 m2 l2 f2 => by
      have hin : (SetTable.insertAt es (SetTable.below t.place (way t.mask (tupleKeyHash kn k) N)) (tupleKeyHash kn k, Value.ref x)).toList = (L.take (SetTable.below t.place (way t.mask (tupleKeyHash kn k) N)) ++ (x, k) :: L.drop (SetTable.below t.place (way t.mask (tupleKeyHash kn k) N))).map (tEnt kn) := by
        rw [SetTable.toList_insertAt, R.rows, List.map_append, List.map_cons, List.map_take, List.map_drop]
        rfl
      generalize SetTable.below t.place (way t.mask (tupleKeyHash kn k) N) = p at hin T2 q2 ⊢
      have pm := put_other L p (x, k)
      have hlen : (L.take p ++ (x, k) :: L.drop p).length = L.length + 1 := pm.length_eq
      have T3 : TabOk t2 ((L.take p ++ (x, k) :: L.drop p).map fun p => tupleKeyHash kn p.2) := by
        rw [List.map_append, List.map_cons, List.map_take, List.map_drop]
        exact T2
      have nd1 : ((L.take p ++ (x, k) :: L.drop p).map (·.2)).Nodup := by
        refine (pm.map (·.2)).nodup_iff.mpr ?_
        rw [List.map_cons]
        exact List.nodup_cons.mpr ⟨hm, R.nd⟩
      have es1 : (SetTable.insertAt es p (tupleKeyHash kn k, Value.ref x)).size = L.length + 1 := by
        have h := congrArg List.length hin
        rw [Array.length_toList, List.length_map, hlen] at h
        exact h
      generalize SetTable.insertAt es p (tupleKeyHash kn k, Value.ref x) = E1 at hin es1 ⊢
      generalize L.take p ++ (x, k) :: L.drop p = L1 at pm hlen T3 nd1 hin
      refine wpAny_bind (wpAny_storeSet_of ho hd ?_ (by rw [es1, sizeLine_eq]; omega))
      have sb : Heap.SameBut a s.heap (s.heap.update a (Obj.putSet E1 t2)) := Heap.SameBut.update ..
      have ho1 := store_at (es' := E1) (t' := t2) ho hd
      generalize s.heap.update a (Obj.putSet E1 t2) = h1 at sb ho1 ⊢
      have tup1 : ∀ p ∈ L1, IsTupleKey kn h1 p.2 p.1 := fun p hp => by
        rcases List.mem_cons.mp (pm.mem_iff.mp hp) with e | hp
        · rw [e]
          exact tk_other hx ho hd sb
        · exact tk_other (R.tup p hp) ho hd sb
      have ld1 : w.params.followText "set-order" = true ∨ t2.led = true := by rw [l2]; exact R.led
      have psz : t2.place.size = E1.size := by
        have h := T3.sz
        rw [List.length_map, hlen] at h
        rw [h, es1]
      by_cases hf : t2.tooFull = true
      · first
          | (refine wpAny_bind ?_; refine wp_if_pos (by simp [hf]) ?_)
          | (refine wp_if_pos (by simp [hf]) ?_; refine wpAny_bind ?_)
        have full : (L.length + 1) * 5 ≥ t2.mask * 3 := by
          have h := hf
          unfold SetTable.tooFull at h
          rw [decide_eq_true_eq, f2] at h
          exact h
        rw [sz]
        have two : (t2.mask = 7 ∧ L.length = 4) ∨ (t2.mask = 31 ∧ L.length = 18) := by
          rw [m2] at full ⊢
          rcases R.tab.mok with e | e | e
          · left; rw [e] at full room; exact ⟨e, by omega⟩
          · right; rw [e] at full room; exact ⟨e, by omega⟩
          · exfalso; rw [e] at full; omega
        have go : ∀ M, SetTable.sizeAbove (SetTable.grown (L.length + 1)) - 1 = M → MaskOk M → SetTable.sizeAbove (SetTable.grown (L.length + 1)) ≤ 128 → (L.length + 1) * 5 < M * 3 →
            wpAny (model P w) A (setRelay a (SetTable.grown (L.length + 1))) (fun _ s' => wpAny (model P w) A (pure true) Q E s') E { s with heap := h1 } := fun M c1 c2 c3 c4 => by
          refine tset_relay (s := { s with heap := h1 }) ho1 ⟨hex.1, hex.2.1, hex.2.2⟩ rfl hin psz T3.dm (by rw [es1]; rcases two with ⟨e, e2⟩ | ⟨e, e2⟩ <;> omega) nd1 tup1 ld1 (by rw [hlen]; exact hfew) c1 c2 c3 (by rw [hlen]; exact c4) ?_
          intro h2 L2 es2 ep2 t3 sb2 R2 pm2
          exact wpAny_pure (q true h2 L2 es2 ep2 t3 (sb.trans sb2) R2 ⟨fun z => absurd z hm, fun _ => pm2.trans pm⟩)
        rcases two with ⟨_, e2⟩ | ⟨_, e2⟩
        · exact go 31 (by rw [e2, size_20]) (.inr (.inl rfl)) (by rw [e2, size_20]; decide) (by omega)
        · exact go 127 (by rw [e2, size_76]) (.inr (.inr rfl)) (by rw [e2, size_76]; decide) (by omega)
      · first
          | refine wp_if_neg (by simp [hf]) ?_
          | (refine wpAny_bind ?_; refine wp_if_neg (by simp [hf]) ?_; refine wpAny_pure ?_)
        refine wpAny_pure (q true h1 L1 E1 (ep + 1) t2 sb ⟨⟨_, ho1, ⟨hex.1, hex.2.1, hex.2.2⟩, rfl⟩, hin, T3, nd1, tup1, ld1, ?_, by rw [hlen]; exact hfew⟩ ⟨fun z => absurd z hm, fun _ => pm⟩)
        have h := hf
        unfold SetTable.tooFull at h
        rw [decide_eq_true_eq, f2] at h
        rw [hlen]
        omega
    rw [List.length_map] at q9
    by_cases hp1 : t1.plain = true
    · first
        | (refine wpAny_bind ?_; refine wp_if_pos hp1 ?_; refine tt_hash hx fun r => ?_)
        | refine wp_if_pos hp1 (wpAny_bind (tt_hash hx fun r => ?_))
      cases r
      · simp only [Bool.false_eq_true, if_false]
        exact fin _ ⟨q3.ris, q3.dm, q3.sz, q3.mok, q3.bd, q3.reach⟩ q4 q5 q9
      · simp only [if_true]
        exact fin _ q3 q4 q5 q9
    · first
        | (refine wpAny_bind ?_; refine wp_if_neg hp1 ?_; refine wpAny_pure ?_)
        | refine wp_if_neg hp1 (wpAny_bind (wpAny_pure ?_))
        | refine wp_if_neg hp1 ?_
      simp only [if_true]
      exact fin _ q3 q4 q5 q9
/-- what the set has from the first i tuples -/
structure TGot (ks : List (Addr × List κ)) (i : Nat) (L : List (Addr × List κ)) : Prop where
  sub : ∀ p ∈ L, p ∈ ks.take i
  all : ∀ p ∈ ks.take i, p.2 ∈ L.map (·.2)
  len : L.length ≤ i
theorem TGot.step {ks L L' : List (Addr × List κ)} {i : Nat} {x : Addr × List κ} (g : TGot ks i L) (h : ks[i]? = some x) (m : OneMore L x.1 x.2 L') : TGot ks (i + 1) L' := by
  have e : ks.take (i + 1) = ks.take i ++ [x] := by
    rw [List.take_add_one, h]
    rfl
  by_cases c : x.2 ∈ L.map (·.2)
  · rw [m.1 c]
    refine ⟨fun p hp => ?_, fun p hp => ?_, Nat.le_succ_of_le g.len⟩
    · rw [e]
      exact List.mem_append_left _ (g.sub p hp)
    · rw [e] at hp
      rcases List.mem_append.mp hp with z | z
      · exact g.all p z
      · rw [List.mem_singleton.mp z]
        exact c
  · have pm := m.2 c
    refine ⟨fun p hp => ?_, fun p hp => ?_, ?_⟩
    · rw [e]
      rcases List.mem_cons.mp (pm.mem_iff.mp hp) with z | z
      · rw [z]
        exact List.mem_append_right _ (List.mem_singleton.mpr rfl)
      · exact List.mem_append_left _ (g.sub p z)
    · rw [(pm.map (·.2)).mem_iff, List.map_cons]
      rw [e] at hp
      rcases List.mem_append.mp hp with z | z
      · exact List.mem_cons_of_mem _ (g.all p z)
      · rw [List.mem_singleton.mp z]
        exact List.mem_cons_self
    · rw [pm.length_eq, List.length_cons]
      exact Nat.succ_le_succ g.len
set_option maxHeartbeats 8000000 in
/-- the loop of set.update -/
theorem tset_loop {I : Addr} {fp wr : List Addr} {G : Array GenState → Array GenState → Prop} {n : Nat} {Pv : Nat → Value → Prop} {St : Nat → Shared → Prop} {R : Result → Shared → Prop}
    (W : WalksS P w A.in1 I fp wr G n Pv St) (S : Addr) (hSf : S ∉ fp) (ks : List (Addr × List κ)) (hn : n = ks.length) (few : ks.length < 64) (val : ∀ i v, Pv i v → ∃ p, ks[i]? = some p ∧ v = .ref p.1)
    (h0 : Heap) (tup : ∀ p ∈ ks, IsTupleKey kn h0 p.2 p.1) (hS0 : h0.get? S = none) (hw0 : ∀ b ∈ wr, h0.get? b = none) (hu : A.in1.units < cLine) :
    ∀ (j i : Nat) (s : Shared), n - i = j → i ≤ n → St i s → (∀ b o, h0.get? b = some o → s.heap.get? b = some o) → (∃ L es ep t, TSet kn s.heap S L es ep t ∧ TGot ks i L) →
      (∀ s' L es ep t, Moved (S :: wr) G s s' → TSet kn s'.heap S L es ep t → TGot ks n L → (∀ b o, h0.get? b = some o → s'.heap.get? b = some o) → R (.ok (.ret .none)) s') →
      codeAny (model P w) A (.builtin "set.update.loop" ⟨[.ref S, .ref I], []⟩) R s := by
  have hSw : S ∉ wr := fun h => hSf (W.sub _ h)
  have up : ∀ b ∈ wr, b ∈ S :: wr := fun b hb => List.mem_cons_of_mem _ hb
  have keep : ∀ {s s' : Shared}, Moved wr G s s' → (∀ b o, h0.get? b = some o → s.heap.get? b = some o) → ∀ b o, h0.get? b = some o → s'.heap.get? b = some o := fun hm hk b o e =>
    hm.heap b o (fun hb => by rw [hw0 b hb] at e; cases e) (hk b o e)
  intro j
  induction j with
  | zero =>
    intro i s hj hi hst hk ⟨L, es, ep, t, hS, g⟩ done
    have e : i = n := by omega
    subst e
    refine codeAny_builtin F.entry_set_update_loop ?_
    rw [Around.under_plainId F.plain_set_update_loop _]
    show wpAny _ A.in1 (pyNext (.ref I) >>= _) _ _ s
    refine wpAny_bind (W.done s _ _ hst fun s' hm => ?_)
    show wpAny _ A.in1 (ret Value.none) _ _ s'
    have hk' := keep hm hk
    exact wpAny_pure (done s' L es ep t (hm.mono up) (hS.at (fun o e => hm.heap S o hSw e) fun p hp => tk_keep (tup p (List.mem_of_mem_take (g.sub p hp))) hk') g hk')
  | succ j ih =>
    intro i s hj hi hst hk ⟨L, es, ep, t, hS, g⟩ done
    have lt : i < n := by omega
    refine codeAny_builtin F.entry_set_update_loop ?_
    rw [Around.under_plainId F.plain_set_update_loop _]
    show wpAny _ A.in1 (pyNext (.ref I) >>= _) _ _ s
    refine wpAny_bind (W.item i s _ _ lt hst fun v s' hv hst' hm => ?_)
    obtain ⟨p, hp, rfl⟩ := val i v hv
    have hk' := keep hm hk
    have hS' : TSet kn s'.heap S L es ep t := hS.at (fun o e => hm.heap S o hSw e) fun q hq => tk_keep (tup q (List.mem_of_mem_take (g.sub q hq))) hk'
    have hx : IsTupleKey kn s'.heap p.2 p.1 := tk_keep (tup p (List.mem_of_getElem? hp)) hk'
    show wpAny _ A.in1 (holding [Value.ref p.1] (setAdd S (.ref p.1)) >>= _) _ _ s'
    refine wpAny_bind (wpAny_holding ?_)
    unfold setAdd
    refine wpAny_holding ?_
    refine wpAny_bind (wpAny_pyHash_tuple hu hx ?_)
    refine tset_add (s := { s' with toks := s'.toks + (p.2.length + 1) }) hS' hx hu (by have := g.len; omega) fun b h' L' es' ep' t' sb hS2 m => ?_
    have hk2 : ∀ b o, h0.get? b = some o → h'.get? b = some o := fun b o e => (sb.2 b (fun z => by rw [z, hS0] at e; cases e)).trans (hk' b o e)
    refine wpAny_pure ⟨plainId_quiet F.plain_set_update_loop _, ih (i + 1) _ (by omega) lt (W.frame _ s' _ _ hst' (Nat.le_add_right _ _) fun b hb o e => ?_) hk2 ⟨L', es', ep', t', hS2, g.step hp m⟩ fun s'' L2 es2 ep2 t2 hm2 hS3 g3 hk3 => ?_⟩
    · rw [sb.2 b (fun h : b = S => hSf (by rw [← h]; exact hb))]
      exact e
    · refine done s'' L2 es2 ep2 t2 (Moved.trans W.gtrans ((hm.mono up).then_heap (Nat.le_add_right _ _) fun b o hb e => ?_) hm2) hS3 g3 hk3
      rw [sb.2 b (fun h : b = S => hb (by rw [h]; exact List.mem_cons_self))]
      exact e
end

/-! ### set(xs), a tuple of tuples or of ints, and how many are in it -/
/-- each once -/
def dd {α : Type} [DecidableEq α] : List α → List α
  | [] => []
  | x :: xs => if x ∈ dd xs then dd xs else x :: dd xs
section
variable {α : Type} [DecidableEq α]
theorem dd_mem : ∀ {xs : List α} {x : α}, x ∈ dd xs ↔ x ∈ xs
  | [], x => Iff.rfl
  | y :: ys, x => by
    unfold dd
    by_cases h : y ∈ dd ys
    · rw [if_pos h, List.mem_cons, dd_mem]
      constructor
      · exact .inr
      · rintro (rfl | q)
        · exact dd_mem.mp h
        · exact q
    · rw [if_neg h, List.mem_cons, List.mem_cons, dd_mem]
theorem dd_nodup : ∀ xs : List α, (dd xs).Nodup
  | [] => List.nodup_nil
  | y :: ys => by
    unfold dd
    by_cases h : y ∈ dd ys
    · rw [if_pos h]
      exact dd_nodup ys
    · rw [if_neg h]
      exact List.nodup_cons.mpr ⟨h, dd_nodup ys⟩
theorem dd_le : ∀ xs : List α, (dd xs).length ≤ xs.length
  | [] => Nat.le_refl _
  | y :: ys => by
    unfold dd
    have q := dd_le ys
    by_cases h : y ∈ dd ys
    · rw [if_pos h, List.length_cons]
      omega
    · rw [if_neg h, List.length_cons, List.length_cons]
      omega
theorem dd_len : ∀ {xs : List α}, (dd xs).length = xs.length ↔ xs.Nodup
  | [] => by simp [dd]
  | y :: ys => by
    unfold dd
    have q := dd_le ys
    by_cases h : y ∈ dd ys
    · rw [if_pos h, List.length_cons, List.nodup_cons]
      exact ⟨fun e => by omega, fun e => absurd (dd_mem.mp h) e.1⟩
    · rw [if_neg h, List.length_cons, List.length_cons, List.nodup_cons, ← dd_len (xs := ys)]
      exact ⟨fun e => ⟨fun m => h (dd_mem.mpr m), by omega⟩, fun e => by omega⟩
theorem same_len {xs ys : List α} (h1 : xs.Nodup) (h2 : ys.Nodup) (h : ∀ k, k ∈ xs ↔ k ∈ ys) : xs.length = ys.length :=
  ((List.perm_ext_iff_of_nodup h1 h2).mpr h).length_eq
end
/-- a set of n things stands at a -/
def SetC (a : Addr) (n : Nat) : HO := .ext fun h => ∃ o es ep t, h.get? a = some o ∧ o.ExactSet ∧ o.data = .set es ep t ∧ t.fits es.size = true ∧ es.size = n ∧ n < 100000
theorem setC_new {P : Program} {w : World} {H : Hp} {h : Heap} {a : Addr} {n : Nat} (R : ∃ o es ep t, h.get? a = some o ∧ o.ExactSet ∧ o.data = .set es ep t ∧ t.fits es.size = true ∧ es.size = n ∧ n < 100000) : ObjOk P w H h a (SetC a n) := by
  have ⟨o, _, _, _, ho, _⟩ := R
  refine ⟨R, ⟨o, ho⟩, fun h1 h2 p k => ?_⟩
  obtain ⟨o', es, ep, t, e, r⟩ := p
  exact ⟨o', es, ep, t, k o' e, r⟩
/-- a flat value as a key -/
def lfV : V → Leaf
  | .int i => .num i
  | .bl b => .num (if b = true then 1 else 0)
  | .str x => .text x
  | _ => .none
section
open PySem.Spec PyProof.Rows
variable {P : Program} {w : World} {A : Around} {E : Value → Shared → Prop} {s : Shared}
set_option maxHeartbeats 8000000 in
theorem tset_made {κ : Type} [DecidableEq κ] {kn : KeyKind P w κ} {l : Addr} {vs : Array Value} {ks : List (Addr × List κ)} {Q : Value → Shared → Prop} (hc : A.handled = none) (hu : A.units + 3 < cLine) (hl : s.heap.IsTuple l vs)
    (hv : vs.toList = ks.map fun p => Value.ref p.1) (tup : ∀ p ∈ ks, IsTupleKey kn s.heap p.2 p.1) (few : ks.length < 64)
    (q : ∀ h tk L es ep t, TSet kn h s.heap.objs.size L es ep t → TGot ks ks.length L → (∀ b o, s.heap.get? b = some o → h.get? b = some o) → Q (.ref s.heap.objs.size) { s with heap := h, toks := tk }) : wpAny (model P w) A (call (.type "set") [.ref l]) Q E s := by
  have size : vs.size = ks.length := by simpa using congrArg List.length hv
  have atS : (s.heap.push (oSet w)).get? s.heap.objs.size = some (oSet w) := Heap.get?_push_size _ rfl
  have tyS : Shared.TypeIs { s with heap := s.heap.push (oSet w) } (.ref s.heap.objs.size) "set" := ⟨_, atS, rfl⟩
  have e1 := F.called_set.made
  have e2 := F.called_set.sub
  have e3 := F.called_set.notType
  have e4 := F.called_set.canCreate
  have e5 := F.typeCall_set_1 (.ref l)
  have e6 := F.called_set.init.lookup
  have e7 := F.called_set.init.bind (.ref s.heap.objs.size)
  obtain ⟨cc, tl, e0⟩ := F.called_set.mro
  apply wpAny_call
  apply codeAny_of_tree
  show wpAny _ _ (callAny (.type "set") _) _ _ _
  apply wpAny_pure
  refine ⟨Code.quiet_builtin _ (by decide +kernel), ?_⟩
  apply codeAny_builtin F.entry_type_call
  rw [Around.under_plain (weight_type_call_type "set" [.ref l] []) rfl]
  repeat any_goals first | wp_step | assumption
  refine codeAny_mono (code_set_led1 (E := E) (.ref l) (Q₁ := fun v z => v = .ref s.heap.objs.size ∧ z = { s with heap := s.heap.push (oSet w) }) ⟨rfl, rfl⟩) ?_
  rintro (e | f) z hz
  · exact hz
  · cases f
    case ret v =>
      obtain ⟨rfl, rfl⟩ := hz
      repeat any_goals first | wp_step | assumption
      refine codeAny_mono (codeAny_call_builtin F.called_set.init.plain F.entry_set_init (check_set_init_1 tyS ?go)
        (R := wants (fun r z => r = .none ∧ ∃ h tk L es ep t, z = { s with heap := h, toks := tk } ∧ TSet kn h s.heap.objs.size L es ep t ∧ TGot ks ks.length L ∧ ∀ b o, s.heap.get? b = some o → h.get? b = some o) E)) ?_
      case go =>
        obtain ⟨⟨c0, d0, t0, s0⟩, at0, cl0, n0, da0⟩ := hl
        dsimp only at cl0 da0
        subst cl0 da0
        have atL : (s.heap.push (oSet w)).get? l = some ⟨.type "tuple", d0, .seq vs n0, s0⟩ := Heap.get?_push_of_some _ at0
        have isL : (s.heap.push (oSet w)).IsTuple l vs := ⟨_, atL, rfl, n0, rfl⟩
        have f1 := F.sub_tuple_set
        have f2 := F.sub_tuple_frozenset
        have f3 : (Value.type "tuple" == Value.type "dict") = false := by decide
        unfold Builtin.«set.__init__» noKeywords Builtin.Frozenset.updateFrom
        generalize hw : pyIter = it0
        wp_walk
        subst hw
        apply wpAny_pyIter_tuple isL
        apply wpAny_bind
        apply wpAny_runValue
        have small : l < s.heap.objs.size := Heap.lt_size at0
        have big : (s.heap.push (oSet w)).objs.size = s.heap.objs.size + 1 := Heap.size_push ..
        have calm : A.in1.in1.in1.handled = none := by simpa using hc
        have n1 : l ≠ (s.heap.push (oSet w)).objs.size := by
          rw [big]
          exact Nat.ne_of_lt (Nat.lt_succ_of_lt small)
        have n2 : s.heap.objs.size ≠ (s.heap.push (oSet w)).objs.size := by
          rw [big]
          exact Nat.ne_of_lt (Nat.lt_succ_self _)
        have nothing : ∀ b, s.heap.objs.size ≤ b → s.heap.get? b = none := fun b hb => by
          cases q : s.heap.get? b with
          | none => rfl
          | some o => exact absurd (Nat.lt_of_lt_of_le (Heap.lt_size q) hb) (Nat.lt_irrefl _)
        refine tset_loop (Walks.tuple calm _ l n1 vs).toS s.heap.objs.size (fun hm => ?f1) ks size few (fun i v ev => ?f2) s.heap tup (nothing _ (Nat.le_refl _)) (fun b hb => nothing b ?f4) (by show A.units + 3 < cLine; omega) (vs.size - 0) 0 _ rfl (Nat.zero_le _)
          ⟨⟨_, Heap.get?_push_size _ rfl, rfl, rfl⟩, isL.push _⟩ (fun b o e => Heap.get?_push_of_some _ (Heap.get?_push_of_some _ e)) ?f5 ?f3
        case f1 =>
          rcases List.mem_cons.mp hm with e | hm
          · exact n2 e
          · exact Nat.ne_of_gt small (List.mem_singleton.mp hm)
        case f2 =>
          have q : vs.toList[i]? = some v := by rw [Array.getElem?_toList]; exact ev
          rw [hv, List.getElem?_map] at q
          cases hq : ks[i]? with
          | none =>
            rw [hq] at q
            cases q
          | some p =>
            rw [hq] at q
            exact ⟨p, rfl, (Option.some.inj q).symm⟩
        case f4 =>
          rw [List.mem_singleton.mp hb, big]
          exact Nat.le_succ _
        case f5 =>
          have at1 := Heap.get?_push_of_some (⟨.type "tuple_iterator", none, .fields #[.ref l, .int 0 0], #[]⟩ : Obj) atS
          refine ⟨[], #[], 0, _, ⟨⟨_, at1, ⟨rfl, rfl, rfl⟩, rfl⟩, rfl, ⟨List.Pairwise.nil, rfl, rfl, .inl rfl, fun x hx => (by cases hx), fun i h j hi => (by simp at hi)⟩, List.nodup_nil, fun p hp => (by cases hp), ?_, ?_, ?_⟩, ⟨fun p h => (by cases h), fun p h => (by simp at h), Nat.le_refl _⟩⟩
          · show _ ∨ (!w.params.followText "set-order") = true
            cases w.params.followText "set-order"
            · exact .inr rfl
            · exact .inl rfl
          · show 0 * 5 < 7 * 3
            decide
          · show 0 < 64
            decide
        case f3 =>
          rintro ⟨h, g, d, tk, os⟩ L es ep t moved hS hG hk
          obtain rfl : g = s.gens := moved.gens
          obtain rfl : d = s.drawn := moved.drawn
          obtain rfl : os = s.os := moved.os
          apply wpAny_pure
          show wpAny _ _ (ret Value.none) _ _ _
          apply wpAny_pure
          exact ⟨rfl, h, tk, L, es, ep, t, rfl, hS, by rw [← size]; exact hG, hk⟩
      rintro (e | f) z hz
      · exact hz
      · cases f
        case ret v =>
          obtain ⟨rfl, h, tk, L, es, ep, t, rfl, hS, hG, hk⟩ := hz
          repeat any_goals first | wp_step | assumption
          exact q h tk L es ep t hS hG hk
        all_goals exact hz.elim
    all_goals exact hz.elim
theorem lf_is {x : V} {u : Value} (f : flatV x = true) (r : RelV x u) : Leaf.isOf (lfV x) u = true := by
  cases x with
  | non =>
    obtain rfl : u = Value.none := r
    rfl
  | bl b =>
    obtain rfl : u = Value.bool b := r
    exact decide_eq_true rfl
  | int i =>
    obtain ⟨t, rfl⟩ := r
    exact decide_eq_true rfl
  | str z =>
    obtain ⟨t, rfl⟩ := r
    simp [lfV, Leaf.isOf, Value.isStrOf]
  | _ => cases f
theorem lf_all {P : Program} {w : World} : ∀ {xs : List V} {us : List Value}, xs.all flatV = true → Vals xs us → ItemsAre (leafKind P w) (xs.map lfV) us
  | [], _, _, .nil => .nil
  | x :: xs, _, f, .cons r t => by
    rw [List.all_cons, Bool.and_eq_true] at f
    exact .cons (lf_is f.1 r) (lf_all f.2 t)
theorem ref_vals : ∀ {ks : List (Addr × List V)} {us : List Value}, Vals (ks.map fun p => V.ref p.1) us → us = ks.map fun p => Value.ref p.1
  | [], _, .nil => rfl
  | p :: ks, _, .cons r t => by
    cases r
    rw [ref_vals t]
    rfl
end
section
variable {X : Cx}
/-- set(xs), xs a tuple of tuples of flat things -/
def rSetTT (K : PySem.W.Frag) : List V → Hp → VK → Prop := fun vs H Q => ∃ (l : Addr) (ks : List (Addr × List V)), vs = [.ref l] ∧ SqT K H l (ks.map fun p => V.ref p.1) ∧ (∀ p ∈ ks, SqT K H p.1 p.2 ∧ p.2.all flatV = true) ∧ ks.length < 64 ∧
  ∀ p, H p = none → Q (.ref p) (upd H p (SetC p (dd (ks.map fun p => p.2.map lfV)).length))
theorem cg_setTT {k : Nat} (hr : Room k X.A) (hc : X.calm = true) : CallR X (.type "set") (rSetTT X.K) := by
  rintro pins s σ H vs us Q I r ⟨l, ks, rfl, hS, hk, few, q⟩
  obtain ⟨its, rv, pl, hz⟩ := I.tuple hS
  have e1 := Vals.ref1 r
  subst e1
  have hu := hr.un
  let ks2 : List (Addr × List Leaf) := ks.map fun p => (p.1, p.2.map lfV)
  have hv : its.toArray.toList = ks2.map fun p => Value.ref p.1 := by
    rw [List.map_map]
    show its = _
    rw [ref_vals rv]
    rfl
  refine tset_made (kn := leafKind X.prog X.w) (ks := ks2) (I.ok.hd hc) (by omega) pl hv (fun p hp => ?_) (by rw [List.length_map]; exact few) ?_
  · obtain ⟨z, hz, rfl⟩ := List.mem_map.mp hp
    obtain ⟨its', rv', ⟨o, ho, hc', n, hd⟩, _⟩ := I.tuple (hk z hz).1
    exact ⟨o, its'.toArray, n, ho, hc', hd, by simpa using lf_all (hk z hz).2 rv'⟩
  · intro h tk L es ep t hT hG keep
    have free : H s.heap.objs.size = none := I.hok.fresh (Nat.le_refl _)
    have cnt : es.size = (dd (ks.map fun p => p.2.map lfV)).length := by
      rw [hT.size, ← List.length_map (f := fun p : Addr × List Leaf => p.2)]
      refine same_len hT.nd (dd_nodup _) fun k => ?_
      rw [dd_mem]
      have tk2 : ks2.take ks2.length = ks2 := List.take_length
      constructor
      · intro h
        obtain ⟨p, hp, rfl⟩ := List.mem_map.mp h
        have hp2 := hG.sub p hp
        rw [tk2] at hp2
        obtain ⟨z, hz, rfl⟩ := List.mem_map.mp hp2
        exact List.mem_map.mpr ⟨z, hz, rfl⟩
      · intro h
        obtain ⟨z, hz, rfl⟩ := List.mem_map.mp h
        exact hG.all (z.1, z.2.map lfV) (by rw [tk2]; exact List.mem_map.mpr ⟨z, hz, rfl⟩)
    have few2 : es.size < 100000 := by
      have := hT.few
      have := hT.size
      omega
    obtain ⟨o, ho, hex, hd⟩ := hT.ob
    exact ⟨.ref _, _, I.laid (t' := tk) keep (Nat.le_refl _) (setC_new ⟨o, es, ep, t, ho, hex, hd, hT.fits, cnt, by rw [← cnt]; exact few2⟩), rfl, q _ free⟩
/-- how many a set of ints holds -/
theorem setR_count {w : World} {h : Heap} {a : Addr} {ns : List Int} {c : Nat} (R : SetR w h a (fun j => decide (j ∈ ns)) c) : ∃ o es ep t, h.get? a = some o ∧ o.ExactSet ∧ o.data = .set es ep t ∧ t.fits es.size = true ∧ es.size = (dd ns).length ∧ (dd ns).length < 100000 := by
  obtain ⟨o, es, ep, t, ho, hex, hd, _, nd, mem, lt, hf, hn, _⟩ := R
  have e : es.size = (dd ns).length := by
    have e1 : es.size = (es.toList.map keyOf).length := by simp
    rw [e1]
    refine same_len nd (dd_nodup _) fun k => ?_
    rw [dd_mem, ← mem k, decide_eq_true_eq]
  have lt2 : es.size < 4096 := lt
  exact ⟨o, es, ep, t, ho, hex, hd, hf, e, by omega⟩
/-- set(xs) of a list of ints, counted -/
def rSetLn (K : PySem.W.Frag) : List V → Hp → VK → Prop := fun vs H Q => ∃ (l : Addr) (ns : List Int), vs = [.ref l] ∧ SqL K H l (ns.map V.int) ∧ ns.length ≤ 4000 ∧ ∀ p, H p = none → Q (.ref p) (upd H p (SetC p (dd ns).length))
theorem cg_setLn (hc : X.calm = true) : CallR X (.type "set") (rSetLn X.K) := by
  rintro pins s σ H vs us Q I r ⟨l, ns, rfl, hS, hn, q⟩
  obtain ⟨its, rv, pl, hz⟩ := I.list hS
  have e1 := Vals.ref1 r
  subst e1
  have hv : PyProof.Rows.IntsAre its.toArray.toList ns := by simpa using rv.ints
  refine set_made (I.ok.hd hc) pl.isList hv hn ?_
  rintro h tk ⟨c, hR, hcn, keep⟩
  have free : H s.heap.objs.size = none := I.hok.fresh (Nat.le_refl _)
  exact ⟨.ref _, _, I.laid (t' := tk) keep (Nat.le_refl _) (setC_new (setR_count hR)), rfl, q _ free⟩
/-- set(xs) of a tuple of ints, counted -/
def rSetTn (K : PySem.W.Frag) : List V → Hp → VK → Prop := fun vs H Q => ∃ (l : Addr) (ns : List Int), vs = [.ref l] ∧ SqT K H l (ns.map V.int) ∧ ns.length ≤ 4000 ∧ ∀ p, H p = none → Q (.ref p) (upd H p (SetC p (dd ns).length))
theorem cg_setTn (hc : X.calm = true) : CallR X (.type "set") (rSetTn X.K) := by
  rintro pins s σ H vs us Q I r ⟨l, ns, rfl, hS, hn, q⟩
  obtain ⟨its, rv, pl, hz⟩ := I.tuple hS
  have e1 := Vals.ref1 r
  subst e1
  have hv : PyProof.Rows.IntsAre its.toArray.toList ns := by simpa using rv.ints
  refine call_set_tupI ns (I.ok.hd hc) pl hv (by unfold scanBound; omega) ?_
  intro h tk c hR hcn keep
  have free : H s.heap.objs.size = none := I.hok.fresh (Nat.le_refl _)
  exact ⟨.ref _, _, I.laid (t' := tk) keep (Nat.le_refl _) (setC_new (setR_count hR)), rfl, q _ free⟩
/-- len of such a set -/
def rLenN : List V → Hp → VK → Prop := fun vs H Q => ∃ (p : Addr) (n : Nat), vs = [.ref p] ∧ H p = some (SetC p n) ∧ Q (.int (n : Nat)) H
theorem cg_lenN : CallR X (.builtin "len") rLenN := by
  rintro pins s σ H vs us Q I r ⟨p, n, rfl, hp, q⟩
  have e1 := Vals.ref1 r
  subst e1
  obtain ⟨o, es, ep, t, ho, hex, hd, hf, hn, hl⟩ := (I.hok p _ hp).1
  exact call_len_set ho hex hd hf (by rw [hn]; omega) ⟨.int n, H, I.tok _, ⟨_, by rw [hn]⟩, q⟩
end
section
variable {K : PySem.W.Frag} {H : Hp} {Q : VK} {l p : Addr} {ns : List Int} {n : Nat}
theorem r_setLn (h : H l = some (.lst (ns.map V.int))) (hn : ns.length ≤ 4000) (q : ∀ p H2, H p = none → H2 p = some (SetC p (dd ns).length) → Kp [] H H2 → Q (.ref p) H2) : rSetLn K [.ref l] H Q :=
  ⟨l, ns, rfl, SqL.of h, hn, fun p hp => q p _ hp upd_same (Kp.new hp)⟩
theorem r_setTn (h : SqT K H l (ns.map V.int)) (hn : ns.length ≤ 4000) (q : ∀ p H2, H p = none → H2 p = some (SetC p (dd ns).length) → Kp [] H H2 → Q (.ref p) H2) : rSetTn K [.ref l] H Q :=
  ⟨l, ns, rfl, h, hn, fun p hp => q p _ hp upd_same (Kp.new hp)⟩
theorem r_setTT {ks : List (Addr × List V)} (h : SqT K H l (ks.map fun p => V.ref p.1)) (h2 : ∀ p ∈ ks, SqT K H p.1 p.2 ∧ p.2.all flatV = true) (hn : ks.length < 64)
    (q : ∀ p H2, H p = none → H2 p = some (SetC p (dd (ks.map fun p => p.2.map lfV)).length) → Kp [] H H2 → Q (.ref p) H2) : rSetTT K [.ref l] H Q :=
  ⟨l, ks, rfl, h, h2, hn, fun p hp => q p _ hp upd_same (Kp.new hp)⟩
theorem r_lenN (h : H p = some (SetC p n)) (q : Q (.int (n : Nat)) H) : rLenN [.ref p] H Q := ⟨p, n, rfl, h, q⟩
end

/-! ### the tape and the draw -/
/-- a tape at t over the numbers at c -/
structure Tp (t c : Addr) (H : Hp) : Prop where
  ex : ∃ (ns : List Int) (k z : Int), H t = some (.lst [.ref c, .int k, .int z]) ∧ H c = some (.lst (ns.map V.int)) ∧ 0 ≤ k ∧ 0 ≤ z
theorem Tp.ne {t c : Addr} {H : Hp} (h : Tp t c H) : t ≠ c := by
  obtain ⟨ns, k, z, h1, h2, _⟩ := h.ex
  refine ne_of h1 h2 fun e => ?_
  cases ns with
  | nil => simp at e
  | cons n ns => simp at e
theorem Tp.mut {t c : Addr} {H : Hp} (h : Tp t c H) : Mut (H t) := by
  obtain ⟨ns, k, z, h1, h2, _⟩ := h.ex
  rw [h1]
  trivial
theorem Tp.it {t c : Addr} {H : Hp} (h : Tp t c H) : ∃ o, H t = some o := by
  obtain ⟨ns, k, z, h1, h2, _⟩ := h.ex
  exact ⟨_, h1⟩
theorem Tp.itc {t c : Addr} {H : Hp} (h : Tp t c H) : ∃ o, H c = some o := by
  obtain ⟨ns, k, z, h1, h2, _⟩ := h.ex
  exact ⟨_, h2⟩
theorem Tp.kp {t c : Addr} {S : List Addr} {H H' : Hp} (k : Kp S H H') (h : Tp t c H) (n1 : ¬ t ∈ S) (n2 : ¬ c ∈ S) : Tp t c H' := by
  obtain ⟨ns, j, z, h1, h2, h3⟩ := h.ex
  exact ⟨ns, j, z, k.get n1 h1, k.get n2 h2, h3⟩
theorem Tp.kp0 {t c : Addr} {H H' : Hp} (k : Kp [] H H') (h : Tp t c H) : Tp t c H' := h.kp k (fun z => nomatch z) (fun z => nomatch z)
/-- no draw is asked for more -/
def bigB : Int := 2 ^ 240
theorem bigB_ok {z m : Int} (h1 : 1 ≤ m) (h2 : m < bigB) : CDivW z m := by
  unfold bigB at h2
  exact wide_div (b := 240) (by omega) (by omega) (by decide) (by decide)
def spDraw : Sp := fun vs H Q _ => ∃ (t c : Addr) (m : Int), vs = [.ref t, .int m] ∧ Tp t c H ∧ 1 ≤ m ∧ m < bigB ∧ ∀ (d : Int) (H' : Hp), 0 ≤ d → d < m → Tp t c H' → Kp [t] H H' → Q (.int d) H'
theorem spDraw_i {t c : Addr} {m : Int} {H : Hp} {Q : VK} {E : XK} (h : Tp t c H) (h1 : 1 ≤ m) (h2 : m < bigB) (k : ∀ (d : Int) (H' : Hp), 0 ≤ d → d < m → Tp t c H' → Kp [t] H H' → Q (.int d) H') : spDraw [.ref t, .int m] H Q E :=
  ⟨t, c, m, rfl, h, h1, h2, k⟩
def spTape (K : PySem.W.Frag) : Sp := fun vs H Q _ => ∃ (a : Addr) (ns : List Int), vs = [.ref a] ∧ SqL K H a (ns.map V.int) ∧ ∀ (t c : Addr) (H' : Hp), H t = none → H c = none → Tp t c H' → Kp [] H H' → Q (.ref t) H'
theorem Tp.kp1 {t c p : Addr} {H H' : Hp} (k : Kp [p] H H') (h : Tp t c H) (n1 : t ≠ p) (n2 : c ≠ p) : Tp t c H' := h.kp k (fun z => n1 (by simpa using z)) (fun z => n2 (by simpa using z))
local macro_rules | `(tactic| walk_at "cg h") => `(tactic| (first
  | ((with_reducible show Tp _ _ _); exact Tp.kp0 (by assumption) (by walk_at "cg h"))
  | fail))
local macro_rules | `(tactic| walk_at "cg h") => `(tactic| (first
  | ((with_reducible show Tp _ _ _); exact Tp.kp1 (by assumption) (by walk_at "cg h") (by walk_at "cg ne") (by walk_at "cg ne"))
  | fail))
local macro_rules | `(tactic| walk_at "cg h") => `(tactic| assumption)
theorem Tp.nef {t c p : Addr} {H : Hp} (hp : H p = none) (h : Tp t c H) : p ≠ t := by
  obtain ⟨o, e⟩ := h.it
  exact (ne_of_none e hp).symm
theorem Tp.nefc {t c p : Addr} {H : Hp} (hp : H p = none) (h : Tp t c H) : p ≠ c := by
  obtain ⟨o, e⟩ := h.itc
  exact (ne_of_none e hp).symm
local macro_rules | `(tactic| walk_at "cg ne") => `(tactic| (first
  | exact Tp.nef (by assumption) (by walk_at "cg h") | exact (Tp.nef (by assumption) (by walk_at "cg h")).symm | exact Tp.nefc (by assumption) (by walk_at "cg h") | exact (Tp.nefc (by assumption) (by walk_at "cg h")).symm
  | fail))
theorem Tp.base {t c : Addr} {H : Hp} (T : Tp t c H) : Kp [t] H H := .base fun b hb => by
  rw [List.mem_singleton] at hb
  subst hb
  exact T.mut
local macro_rules | `(tactic| walk_at "cg kp") => `(tactic| (first
  | ((with_reducible show Kp [_] _ _); exact Tp.base (by assumption))
  | fail))
theorem Tp.free {t c p : Addr} {H0 H1 : Hp} (hp : H1 p = none) (k : Kp [t] H0 H1) (T : Tp t c H1) : H0 p = none := k.free hp fun b hb => by
  rw [List.mem_singleton] at hb
  subst hb
  exact T.it
local macro_rules | `(tactic| walk_at "cg fr") => `(tactic| (first
  | assumption
  | exact Tp.free (by assumption) (by walk_at "cg kp") (by walk_at "cg h")
  | fail))
local macro_rules | `(tactic| walk_at "cg dr") => `(tactic| ((with_reducible refine spDraw_i (c := ?c) ?h ?h1 ?h2 ?_); (case h => walk_at "cg h"); (case h1 => first | omega | decide); (case h2 => first | (with_reducible assumption) | decide)))
local macro_rules | `(tactic| walk_at "cg s") => `(tactic| (walk_at "cg dr"; intro _ _ _ _ _ _))

/-! ### relations and literals -/
inductive Rel where
  | le | ge | eq | ne
  deriving DecidableEq
def Rel.s : Rel → Str
  | .le => "<="
  | .ge => ">="
  | .eq => "="
  | .ne => "!="
def Rel.h : Rel → Int → Int → Bool
  | .le, a, b => decide (a ≤ b)
  | .ge, a, b => decide (b ≤ a)
  | .eq, a, b => decide (a = b)
  | .ne, a, b => decide (a ≠ b)
def Rel.neg : Rel → Rel
  | .le => .ge
  | .ge => .le
  | .eq => .ne
  | .ne => .eq
def Rel.nnum : Rel → Int → Int
  | .le, a => a + 1
  | .ge, a => a - 1
  | _, a => a
theorem Rel.neg_neg (r : Rel) : r.neg.neg = r := by cases r <;> rfl
theorem Rel.nnum_nnum (r : Rel) (a : Int) : r.neg.nnum (r.nnum a) = a := by
  cases r <;> simp [Rel.neg, Rel.nnum] <;> omega
theorem Rel.neg_h (r : Rel) (x a : Int) : r.neg.h x (r.nnum a) = !r.h x a := by
  cases r
  · simp only [Rel.neg, Rel.nnum, Rel.h]
    rw [Bool.eq_iff_iff]; simp; omega
  · simp only [Rel.neg, Rel.nnum, Rel.h]
    rw [Bool.eq_iff_iff]; simp; omega
  · simp [Rel.neg, Rel.nnum, Rel.h]
  · simp [Rel.neg, Rel.nnum, Rel.h]
theorem ix_rel3 {K : PySem.W.Frag} {p : Addr} {H : Hp} {Q : VK} {d : Int} (h : H p = some (.lst [.str (Str.ofString "<="), .str (Str.ofString ">="), .str (Str.ofString "=")])) (h0 : 0 ≤ d) (h1 : d < 3) (q : ∀ r : Rel, r ≠ .ne → Q (.str r.s) H) : rIxL K (.ref p) (.int d) H Q := by
  have e : d = 0 ∨ d = 1 ∨ d = 2 := by omega
  rcases e with rfl | rfl | rfl
  · exact r_ixL h rfl (q .le (by decide))
  · exact r_ixL h rfl (q .ge (by decide))
  · exact r_ixL h rfl (q .eq (by decide))
def spRel : Sp := fun vs H Q _ => ∃ (r : Rel) (a b : Int), vs = [.str r.s, .int a, .int b] ∧ Q (.bl (r.h a b)) H
theorem spRel_i (r : Rel) {a b : Int} {H : Hp} {Q : VK} {E : XK} (q : Q (.bl (r.h a b)) H) : spRel [.str r.s, .int a, .int b] H Q E := ⟨r, a, b, rfl, q⟩
/-- a literal stands at p -/
abbrev LitAt (K : PySem.W.Frag) (H : Hp) (p : Addr) (v : Int) (r : Rel) (a : Int) : Prop := SqT K H p [.int v, .str r.s, .int a]
def spLit (K : PySem.W.Frag) : Sp := fun vs H Q _ => ∃ (p : Addr) (v : Int) (r : Rel) (a x : Int), vs = [.ref p, .int x] ∧ LitAt K H p v r a ∧ Q (.bl (r.h x a)) H
def spNeg (K : PySem.W.Frag) : Sp := fun vs H Q _ => ∃ (p : Addr) (v : Int) (r : Rel) (a : Int), vs = [.ref p] ∧ LitAt K H p v r a ∧ ∀ (p' : Addr) (H' : Hp), LitAt K H' p' v r.neg (r.nnum a) → Kp [] H H' → Q (.ref p') H'
def spSame : Sp := fun vs H Q _ => ∃ (a b : Bool), vs = [.bl a, .bl b] ∧ Q (.bl (decide (a = b))) H
theorem ix_rel4 {K : PySem.W.Frag} {p : Addr} {H : Hp} {Q : VK} {d : Int} (h : H p = some (.lst [.str (Str.ofString "<="), .str (Str.ofString ">="), .str (Str.ofString "="), .str (Str.ofString "!=")])) (h0 : 0 ≤ d) (h1 : d < 4) (q : ∀ r : Rel, Q (.str r.s) H) : rIxL K (.ref p) (.int d) H Q := by
  have e : d = 0 ∨ d = 1 ∨ d = 2 ∨ d = 3 := by omega
  rcases e with rfl | rfl | rfl | rfl
  · exact r_ixL h rfl (q .le)
  · exact r_ixL h rfl (q .ge)
  · exact r_ixL h rfl (q .eq)
  · exact r_ixL h rfl (q .ne)
def litD (v : Int) (r : Rel) (a : Int) : PyData := .tuple [.int v, .str r.s, .int a]
theorem Rel.ok (r : Rel) : PyData.strOk r.s = true := by cases r <;> decide +kernel
theorem litD_shaped (v : Int) (r : Rel) (a : Int) : SeqAt.shaped (litD v r a) = true := by
  simp [litD, Rel.ok, SeqAt.shaped, PyData.canLay0, PyData.canLayAll0, PyData.depth, PyData.depthAll]
theorem litD_self (v : Int) (r : Rel) (a : Int) : PyData.eqv (litD v r a) (litD v r a) = true := by
  simp [litD, PyData.eqv, PyData.eqvAll]
theorem LitAt.dp {K : PySem.W.Frag} {H : Hp} {p : Addr} {v : Int} {r : Rel} {a : Int} (h : LitAt K H p v r a) : Dp K H (.ref p) (litD v r a) :=
  .tup h (.cons (.int _) (.cons (.str _) (.cons (.int _) .nil)))
local macro_rules | `(tactic| walk_at "cg s") => `(tactic| (with_reducible refine spRel_i _ ?_))
theorem spSame_i {a b : Bool} {H : Hp} {Q : VK} {E : XK} (q : Q (.bl (decide (a = b))) H) : spSame [.bl a, .bl b] H Q E := ⟨a, b, rfl, q⟩
local macro_rules | `(tactic| walk_at "cg s") => `(tactic| (with_reducible refine spSame_i ?_))
theorem spLit_i {K : PySem.W.Frag} {H : Hp} {Q : VK} {E : XK} {p : Addr} {v : Int} {r : Rel} {a x : Int} (h : LitAt K H p v r a) (q : Q (.bl (r.h x a)) H) : spLit K [.ref p, .int x] H Q E := ⟨p, v, r, a, x, rfl, h, q⟩
local macro_rules | `(tactic| walk_at "cg s") => `(tactic| ((with_reducible show spLit _ _ _ _ _); refine spLit_i (by walk_at "cg h") ?_))

/-! ### comprehensions and loops over data -/
theorem piTup {X : Cx} (K : PySem.W.Frag) {tg l : Expr} {tl : TE} (hl : PE X l tl) (h : X.K = K := by rfl) : PI X tg l (iTup K tl) := h ▸ pi_tup hl
theorem piLst {X : Cx} (K : PySem.W.Frag) {tg l : Expr} {tl : TE} (hl : PE X l tl) (h : X.K = K := by rfl) : PI X tg l (iList K tl) := h ▸ pi_list hl
theorem flat_ints (us : List Int) : (us.map V.int).all flatV = true := by
  rw [List.all_map]
  exact List.all_eq_true.mpr fun x _ => rfl
theorem inV_ints (v : Int) (us : List Int) : inV (.int v) (us.map V.int) = decide (v ∈ us) := by
  unfold inV
  rw [List.any_map]
  induction us with
  | nil => rfl
  | cons u us ih =>
    have e : ((fun y => eqV y (.int v)) ∘ V.int) u = decide (v = u) := by
      show (u == v) = decide (v = u)
      rw [Bool.eq_iff_iff, beq_iff_eq, decide_eq_true_eq]
      exact eq_comm
    rw [List.any_cons, ih, e, Bool.eq_iff_iff]
    simp only [Bool.or_eq_true, decide_eq_true_eq, List.mem_cons]
theorem blkOk_nf {N : List Str} {sc scope : Scope} {own : List (Str × Nat)} (h : blkC N { kind := .function, names := [], isGenerator := false, isCoroutine := false } scope own = true) : BlkOk N sc scope own := by
  have q := blkOk_by h
  exact ⟨q.1, q.2, q.3, fun y hy e => (by rcases q.4 y hy e with k | k <;> exact nomatch k), q.5⟩
theorem small1e4 {n : Nat} (h : n ≤ 10000) : n < sizeLine := by
  rw [sizeLine_eq]
  omega
theorem atI_nat {α : Type} {xs : List α} {i : Int} (h0 : 0 ≤ i) (h1 : i < xs.length) : atI xs i = xs[i.toNat]? := by
  simp [atI, ixN, h0, h1]
theorem atI_ints {ns : List Int} {i : Int} (h0 : 0 ≤ i) (h1 : i < ns.length) : atI (ns.map V.int) i = some (.int (ns.getD i.toNat 0)) := by
  have e : i.toNat < ns.length := by omega
  rw [atI_nat h0 (by rw [List.length_map]; exact h1)]
  simp [e]
theorem mapGetP {K : PySem.W.Frag} {H : Hp} {x : V} {α : Type} {f : α → PyData} {xs : List V} {as : List α} {i : Nat} (h : ImAll K H xs (as.map f)) (e : xs[i]? = some x) : ∃ a, as[i]? = some a ∧ Im K H x (f a) := by
  obtain ⟨d, h1, h2⟩ := h.get e
  rw [List.getElem?_map] at h1
  cases q : as[i]? with
  | none =>
    rw [q] at h1
    cases h1
  | some a =>
    rw [q] at h1
    cases h1
    exact ⟨a, rfl, h2⟩
theorem mapLenP {K : PySem.W.Frag} {H : Hp} {α : Type} {f : α → PyData} {xs : List V} {as : List α} (h : ImAll K H xs (as.map f)) : xs.length = as.length := by
  rw [h.length, List.length_map]
theorem atI_0 {α : Type} {x : α} {xs : List α} : atI (x :: xs) 0 = some x := by
  rw [atI_nat (by decide) (by simp <;> omega)]
  rfl
theorem atI_1 {α : Type} {x y : α} {xs : List α} : atI (x :: y :: xs) 1 = some y := by
  rw [atI_nat (by decide) (by simp <;> omega)]
  rfl
theorem fm_take {α β : Type} {as : List α} {f : α → Option β} {i : Nat} {a : α} (h : as[i]? = some a) : (as.take (i + 1)).filterMap f = (as.take i).filterMap f ++ (f a).toList := by
  rw [List.take_add_one, h, List.filterMap_append]
  congr 1
  all_goals (cases q : f a <;> simp [q])
theorem fm_some {α β : Type} (as : List α) (h : α → β) : as.filterMap (fun a => some (h a)) = as.map h := by
  induction as with
  | nil => rfl
  | cons a as ih =>
    show h a :: as.filterMap (fun a => some (h a)) = _
    rw [ih, List.map_cons]
theorem ImAll.bls {K : PySem.W.Frag} {H : Hp} : ∀ {xs : List V} {bs : List Bool}, ImAll K H xs (bs.map PyData.bool) → xs = bs.map V.bl
  | _, [], .nil => rfl
  | _, b :: bs, .cons h a => by rw [ImAll.bls a, h.flat rfl]; rfl
theorem ImAll.ints {K : PySem.W.Frag} {H : Hp} : ∀ {xs : List V} {bs : List Int}, ImAll K H xs (bs.map PyData.int) → xs = bs.map V.int
  | _, [], .nil => rfl
  | _, b :: bs, .cons h a => by rw [ImAll.ints a, h.flat rfl]; rfl
theorem imInts {K : PySem.W.Frag} {H : Hp} : ∀ (ns : List Int), ImAll K H (ns.map V.int) (ns.map PyData.int)
  | [] => .nil
  | n :: ns => .cons (.int n) (imInts ns)
def intsD (ns : List Int) : PyData := .tuple (ns.map PyData.int)
theorem Im.intsT {K : PySem.W.Frag} {H : Hp} {p : Addr} {ns : List Int} (h : Im K H (.ref p) (intsD ns)) : SqT K H p (ns.map V.int) := h.sq (flatDs_ints ns)
theorem intsT_im {K : PySem.W.Frag} {H : Hp} {p : Addr} {ns : List Int} (h : SqT K H p (ns.map V.int)) : Im K H (.ref p) (intsD ns) := Im.ints h
section
variable {σ σ0 : St} {H : Hp} {K : PySem.W.Frag} {p : Addr} {xs : List V} {g : TG} {tt : TT} {te : TE} {vs : List Nat} {Q : VK} {n : Nat} {lo : Int} {α : Type} {as : List α} {d : α → PyData} {t c : Addr}
/-- a turn of a comprehension, its answer free -/
abbrev lcTurn (g : TG) (tt : TT) (te : TE) (vs : List Nat) (σ σ0 : St) (x : V) (H' : Hp) (R : V → Hp → Prop) (R' : Hp → Prop) : Prop :=
  g x σ0 H' fun σ2 H2 => wpS σ2 σ vs (tt σ2 H2 fun b H3 => iteP b (te σ2 H3 R) (R' H3))
/-- over a tuple of data, with a test -/
theorem lcT_f [hw : Wip σ vs σ0] (s : SqT K H p xs) (ia : ImAll K H xs (as.map d)) (f : α → Option PyData) (small : as.length ≤ 10000)
    (hs : ∀ (i : Nat) (a : α) (x : V) (H' : Hp) (R : V → Hp → Prop) (R' : Hp → Prop), as[i]? = some a → Kp [] H H' → Im K H' x (d a) → (∀ y H4 e, f a = some e → Im K H4 y e → Kp [] H' H4 → R y H4) → (∀ H4, f a = none → Kp [] H' H4 → R' H4) →
      lcTurn g tt te vs σ σ0 x H' R R')
    (hd : ∀ D H' acc, H D = none → H' D = some (.lst acc) → ImAll K H' acc (as.filterMap f) → Kp [] H H' → Q (.ref D) H') : lcS (Itt K p) g tt te vs σ H Q := by
  have hxl := mapLenP ia
  refine r_lcT xs (fun D i H' => Kp [] H H' ∧ H D = none ∧ ∃ acc, H' D = some (.lst acc) ∧ ImAll K H' acc ((as.take i).filterMap f)) (fun D H2 hD e2 k2 => ⟨k2, hD, [], e2, .nil⟩) (fun D i H' h => h.1.tup s) ?_ ?_
  · rintro D i x H' hx ⟨k2, hD, acc, eD, hA⟩
    obtain ⟨a, ha, hxd⟩ := mapGetP (k2.imAll ia) hx
    have hi : i < as.length := (List.getElem?_eq_some_iff.mp ha).1
    have hal : acc.length ≤ i := by
      rw [hA.length]
      refine Nat.le_trans (List.length_filterMap_le _ _) ?_
      rw [List.length_take]
      omega
    refine hs i a x H' _ _ ha k2 hxd (fun y H4 e hf hy k4 => ?_) (fun H4 hf k4 => ?_)
    · refine r_ap (k4.get0 eD) (small1e4 (by omega)) fun H5 e5 k5 => ⟨Kp.trN k5 (Kp.tr0 k4 k2) hD, hD, _, e5, ?_⟩
      rw [fm_take ha, hf]
      exact (k5.imAll (k4.imAll hA)).snoc (k5.im hy)
    · refine ⟨Kp.tr0 k4 k2, hD, acc, k4.get0 eD, ?_⟩
      rw [fm_take ha, hf]
      simpa using k4.imAll hA
  · rintro D H' ⟨k2, hD, acc, eD, hA⟩
    rw [hxl, List.take_length] at hA
    exact hd D H' acc hD eD hA k2
/-- over a list of data, with a test -/
theorem lcL_f [hw : Wip σ vs σ0] (s : H p = some (.lst xs)) (ia : ImAll K H xs (as.map d)) (f : α → Option PyData) (small : as.length ≤ 10000)
    (hs : ∀ (i : Nat) (a : α) (x : V) (H' : Hp) (R : V → Hp → Prop) (R' : Hp → Prop), as[i]? = some a → Kp [] H H' → Im K H' x (d a) → (∀ y H4 e, f a = some e → Im K H4 y e → Kp [] H' H4 → R y H4) → (∀ H4, f a = none → Kp [] H' H4 → R' H4) →
      lcTurn g tt te vs σ σ0 x H' R R')
    (hd : ∀ D H' acc, H D = none → H' D = some (.lst acc) → ImAll K H' acc (as.filterMap f) → Kp [] H H' → Q (.ref D) H') : lcS (Itl K p) g tt te vs σ H Q := by
  have hxl := mapLenP ia
  refine r_lcL xs (fun D i H' => Kp [] H H' ∧ H D = none ∧ ∃ acc, H' D = some (.lst acc) ∧ ImAll K H' acc ((as.take i).filterMap f)) (fun D H2 hD e2 k2 => ⟨k2, hD, [], e2, .nil⟩) (fun D i H' h => h.1.get0 s) ?_ ?_
  · rintro D i x H' hx ⟨k2, hD, acc, eD, hA⟩
    obtain ⟨a, ha, hxd⟩ := mapGetP (k2.imAll ia) hx
    have hi : i < as.length := (List.getElem?_eq_some_iff.mp ha).1
    have hal : acc.length ≤ i := by
      rw [hA.length]
      refine Nat.le_trans (List.length_filterMap_le _ _) ?_
      rw [List.length_take]
      omega
    refine hs i a x H' _ _ ha k2 hxd (fun y H4 e hf hy k4 => ?_) (fun H4 hf k4 => ?_)
    · refine r_ap (k4.get0 eD) (small1e4 (by omega)) fun H5 e5 k5 => ⟨Kp.trN k5 (Kp.tr0 k4 k2) hD, hD, _, e5, ?_⟩
      rw [fm_take ha, hf]
      exact (k5.imAll (k4.imAll hA)).snoc (k5.im hy)
    · refine ⟨Kp.tr0 k4 k2, hD, acc, k4.get0 eD, ?_⟩
      rw [fm_take ha, hf]
      simpa using k4.imAll hA
  · rintro D H' ⟨k2, hD, acc, eD, hA⟩
    rw [hxl, List.take_length] at hA
    exact hd D H' acc hD eD hA k2
/-- over a range, with a test -/
theorem lcR_f [hw : Wip σ vs σ0] (f : Nat → Option PyData) (small : n ≤ 10000)
    (hs : ∀ (i : Nat) (H' : Hp) (R : V → Hp → Prop) (R' : Hp → Prop), i < n → Kp [] H H' → (∀ y H4 e, f i = some e → Im K H4 y e → Kp [] H' H4 → R y H4) → (∀ H4, f i = none → Kp [] H' H4 → R' H4) →
      lcTurn g tt te vs σ σ0 (.int (lo + (i : Int))) H' R R')
    (hd : ∀ D H' acc, H D = none → H' D = some (.lst acc) → ImAll K H' acc ((List.range n).filterMap f) → Kp [] H H' → Q (.ref D) H') : lcS (Itr lo n) g tt te vs σ H Q := by
  refine r_lcR (fun D i H' => Kp [] H H' ∧ H D = none ∧ ∃ acc, H' D = some (.lst acc) ∧ ImAll K H' acc ((List.range i).filterMap f)) (fun D H2 hD e2 k2 => ⟨k2, hD, [], e2, .nil⟩) ?_ ?_
  · rintro D i H' hi ⟨k2, hD, acc, eD, hA⟩
    have hal : acc.length ≤ i := by
      rw [hA.length]
      refine Nat.le_trans (List.length_filterMap_le _ _) ?_
      rw [List.length_range]
      exact Nat.le_refl _
    have e0 : (List.range (i + 1)).filterMap f = (List.range i).filterMap f ++ (f i).toList := by
      rw [List.range_succ, List.filterMap_append]
      congr 1
      all_goals (cases q : f i <;> simp [q])
    refine hs i H' _ _ hi k2 (fun y H4 e hf hy k4 => ?_) (fun H4 hf k4 => ?_)
    · refine r_ap (k4.get0 eD) (small1e4 (by omega)) fun H5 e5 k5 => ⟨Kp.trN k5 (Kp.tr0 k4 k2) hD, hD, _, e5, ?_⟩
      rw [e0, hf]
      exact (k5.imAll (k4.imAll hA)).snoc (k5.im hy)
    · refine ⟨Kp.tr0 k4 k2, hD, acc, k4.get0 eD, ?_⟩
      rw [e0, hf]
      simpa using k4.imAll hA
  · rintro D H' ⟨k2, hD, acc, eD, hA⟩
    exact hd D H' acc hD eD hA k2
/-- over a tuple of data: each item's answer -/
theorem lcT_m [hw : Wip σ vs σ0] (s : SqT K H p xs) (ia : ImAll K H xs (as.map d)) (f : α → PyData) (small : as.length ≤ 10000)
    (hs : ∀ (i : Nat) (a : α) (x : V) (H' : Hp) (R : V → Hp → Prop) (R' : Hp → Prop), as[i]? = some a → Kp [] H H' → Im K H' x (d a) → (∀ y H4, Im K H4 y (f a) → Kp [] H' H4 → R y H4) → lcTurn g tt te vs σ σ0 x H' R R')
    (hd : ∀ D H' acc, H D = none → H' D = some (.lst acc) → ImAll K H' acc (as.map f) → Kp [] H H' → Q (.ref D) H') : lcS (Itt K p) g tt te vs σ H Q :=
  lcT_f s ia (fun a => some (f a)) small (fun i a x H' R R' ha k hx h1 _ => hs i a x H' R R' ha k hx fun y H4 hy k4 => h1 y H4 _ rfl hy k4) fun D H' acc hD eD hA k => hd D H' acc hD eD (by rw [fm_some] at hA; exact hA) k
theorem lcL_m [hw : Wip σ vs σ0] (s : H p = some (.lst xs)) (ia : ImAll K H xs (as.map d)) (f : α → PyData) (small : as.length ≤ 10000)
    (hs : ∀ (i : Nat) (a : α) (x : V) (H' : Hp) (R : V → Hp → Prop) (R' : Hp → Prop), as[i]? = some a → Kp [] H H' → Im K H' x (d a) → (∀ y H4, Im K H4 y (f a) → Kp [] H' H4 → R y H4) → lcTurn g tt te vs σ σ0 x H' R R')
    (hd : ∀ D H' acc, H D = none → H' D = some (.lst acc) → ImAll K H' acc (as.map f) → Kp [] H H' → Q (.ref D) H') : lcS (Itl K p) g tt te vs σ H Q :=
  lcL_f s ia (fun a => some (f a)) small (fun i a x H' R R' ha k hx h1 _ => hs i a x H' R R' ha k hx fun y H4 hy k4 => h1 y H4 _ rfl hy k4) fun D H' acc hD eD hA k => hd D H' acc hD eD (by rw [fm_some] at hA; exact hA) k
theorem lcR_m [hw : Wip σ vs σ0] (f : Nat → PyData) (small : n ≤ 10000)
    (hs : ∀ (i : Nat) (H' : Hp) (R : V → Hp → Prop) (R' : Hp → Prop), i < n → Kp [] H H' → (∀ y H4, Im K H4 y (f i) → Kp [] H' H4 → R y H4) → lcTurn g tt te vs σ σ0 (.int (lo + (i : Int))) H' R R')
    (hd : ∀ D H' acc, H D = none → H' D = some (.lst acc) → ImAll K H' acc ((List.range n).map f) → Kp [] H H' → Q (.ref D) H') : lcS (Itr lo n) g tt te vs σ H Q :=
  lcR_f (fun i => some (f i)) small (fun i H' R R' hi k h1 _ => hs i H' R R' hi k fun y H4 hy k4 => h1 y H4 _ rfl hy k4) fun D H' acc hD eD hA k => hd D H' acc hD eD (by rw [fm_some] at hA; exact hA) k
/-- .. a truth value for each -/
theorem lcT_b [hw : Wip σ vs σ0] (s : SqT K H p xs) (ia : ImAll K H xs (as.map d)) (f : α → Bool) (small : as.length ≤ 10000)
    (hs : ∀ (i : Nat) (a : α) (x : V) (H' : Hp) (R : V → Hp → Prop) (R' : Hp → Prop), as[i]? = some a → Kp [] H H' → Im K H' x (d a) → (∀ H4, Kp [] H' H4 → R (.bl (f a)) H4) → lcTurn g tt te vs σ σ0 x H' R R')
    (hd : ∀ D H', H D = none → H' D = some (.lst ((as.map f).map V.bl)) → Kp [] H H' → Q (.ref D) H') : lcS (Itt K p) g tt te vs σ H Q :=
  lcT_m s ia (fun a => .bool (f a)) small (fun i a x H' R R' ha k hx h1 => hs i a x H' R R' ha k hx fun H4 k4 => h1 _ H4 (.bl _) k4) fun D H' acc hD eD hA k => hd D H' hD (by
    rw [eD]
    have q : as.map (fun a => PyData.bool (f a)) = (as.map f).map PyData.bool := by simp
    rw [q] at hA
    rw [hA.bls]) k
theorem lcL_b [hw : Wip σ vs σ0] (s : H p = some (.lst xs)) (ia : ImAll K H xs (as.map d)) (f : α → Bool) (small : as.length ≤ 10000)
    (hs : ∀ (i : Nat) (a : α) (x : V) (H' : Hp) (R : V → Hp → Prop) (R' : Hp → Prop), as[i]? = some a → Kp [] H H' → Im K H' x (d a) → (∀ H4, Kp [] H' H4 → R (.bl (f a)) H4) → lcTurn g tt te vs σ σ0 x H' R R')
    (hd : ∀ D H', H D = none → H' D = some (.lst ((as.map f).map V.bl)) → Kp [] H H' → Q (.ref D) H') : lcS (Itl K p) g tt te vs σ H Q :=
  lcL_m s ia (fun a => .bool (f a)) small (fun i a x H' R R' ha k hx h1 => hs i a x H' R R' ha k hx fun H4 k4 => h1 _ H4 (.bl _) k4) fun D H' acc hD eD hA k => hd D H' hD (by
    rw [eD]
    have q : as.map (fun a => PyData.bool (f a)) = (as.map f).map PyData.bool := by simp
    rw [q] at hA
    rw [hA.bls]) k
/-- .. an int for each -/
theorem lcT_i [hw : Wip σ vs σ0] (s : SqT K H p xs) (ia : ImAll K H xs (as.map d)) (f : α → Int) (small : as.length ≤ 10000)
    (hs : ∀ (i : Nat) (a : α) (x : V) (H' : Hp) (R : V → Hp → Prop) (R' : Hp → Prop), as[i]? = some a → Kp [] H H' → Im K H' x (d a) → (∀ H4, Kp [] H' H4 → R (.int (f a)) H4) → lcTurn g tt te vs σ σ0 x H' R R')
    (hd : ∀ D H', H D = none → H' D = some (.lst ((as.map f).map V.int)) → Kp [] H H' → Q (.ref D) H') : lcS (Itt K p) g tt te vs σ H Q :=
  lcT_m s ia (fun a => .int (f a)) small (fun i a x H' R R' ha k hx h1 => hs i a x H' R R' ha k hx fun H4 k4 => h1 _ H4 (.int _) k4) fun D H' acc hD eD hA k => hd D H' hD (by
    rw [eD]
    have q : as.map (fun a => PyData.int (f a)) = (as.map f).map PyData.int := by simp
    rw [q] at hA
    rw [hA.ints]) k
theorem lcL_i [hw : Wip σ vs σ0] (s : H p = some (.lst xs)) (ia : ImAll K H xs (as.map d)) (f : α → Int) (small : as.length ≤ 10000)
    (hs : ∀ (i : Nat) (a : α) (x : V) (H' : Hp) (R : V → Hp → Prop) (R' : Hp → Prop), as[i]? = some a → Kp [] H H' → Im K H' x (d a) → (∀ H4, Kp [] H' H4 → R (.int (f a)) H4) → lcTurn g tt te vs σ σ0 x H' R R')
    (hd : ∀ D H', H D = none → H' D = some (.lst ((as.map f).map V.int)) → Kp [] H H' → Q (.ref D) H') : lcS (Itl K p) g tt te vs σ H Q :=
  lcL_m s ia (fun a => .int (f a)) small (fun i a x H' R R' ha k hx h1 => hs i a x H' R R' ha k hx fun H4 k4 => h1 _ H4 (.int _) k4) fun D H' acc hD eD hA k => hd D H' hD (by
    rw [eD]
    have q : as.map (fun a => PyData.int (f a)) = (as.map f).map PyData.int := by simp
    rw [q] at hA
    rw [hA.ints]) k
/-- draws, one for each number of a range: what they have in common -/
theorem lcR_d [hw : Wip σ vs σ0] (d : α → PyData) (Pr : Nat → α → Prop) (T : Tp t c H) (small : n ≤ 10000)
    (hs : ∀ (i : Nat) (H' : Hp) (R : V → Hp → Prop) (R' : Hp → Prop), i < n → Tp t c H' → Kp [t] H H' → (∀ y H4 a, Pr i a → Im K H4 y (d a) → Tp t c H4 → Kp [t] H' H4 → R y H4) → lcTurn g tt te vs σ σ0 (.int (lo + (i : Int))) H' R R')
    (hd : ∀ D H' acc (as : List α), H D = none → H' D = some (.lst acc) → as.length = n → (∀ (i : Nat) a, as[i]? = some a → Pr i a) → ImAll K H' acc (as.map d) → Tp t c H' → Kp [t] H H' → Q (.ref D) H') : lcS (Itr lo n) g tt te vs σ H Q := by
  refine r_lcR (fun D i H' => Kp [t] H H' ∧ H D = none ∧ Tp t c H' ∧ ∃ (acc : List V) (as : List α), H' D = some (.lst acc) ∧ as.length = i ∧ (∀ (i : Nat) a, as[i]? = some a → Pr i a) ∧ ImAll K H' acc (as.map d))
    (fun D H2 hD e2 k2 => ⟨Kp.tr0 k2 (Tp.base T), hD, Tp.kp0 k2 T, [], [], e2, rfl, (fun i a h => by simp at h), .nil⟩) ?_ ?_
  · rintro D i H' hi ⟨k2, hD, T2, acc, as, eD, hl, hP, hA⟩
    have nt : D ≠ t := Tp.nef hD T
    have nc : D ≠ c := Tp.nefc hD T
    have hal : acc.length = i := by rw [hA.length, List.length_map, hl]
    refine hs i H' _ _ hi T2 k2 fun y H4 a ha hy T4 k4 => ?_
    refine r_ap (k4.get1 nt eD) (small1e4 (by omega)) fun H5 e5 k5 => ⟨Kp.trN k5 (Kp.tr1 k4 k2) hD, hD, Tp.kp1 k5 T4 nt.symm nc.symm, _, as ++ [a], e5, by simp [hl], fun j b hb => ?_, ?_⟩
    · rcases Nat.lt_or_ge j as.length with h | h
      · rw [List.getElem?_append_left h] at hb
        exact hP j b hb
      · rw [List.getElem?_append_right h] at hb
        have e0 : j - as.length = 0 := by
          have := (List.getElem?_eq_some_iff.mp hb).1
          simp at this
          omega
        rw [e0] at hb
        simp at hb
        subst hb
        rw [show j = i by omega]
        exact ha
    · rw [List.map_append]
      exact (k5.imAll (k4.imAll hA)).snoc (k5.im hy)
  · rintro D H' ⟨k2, hD, T2, acc, as, eD, hl, hP, hA⟩
    exact hd D H' acc as hD eD hl hP hA T2 k2
/-- .. one for each item of a tuple -/
theorem lcT_d {β : Type} {bs : List β} {e : β → PyData} [hw : Wip σ vs σ0] (s : SqT K H p xs) (ib : ImAll K H xs (bs.map e)) (d : α → PyData) (Pr : β → α → Prop) (T : Tp t c H) (small : bs.length ≤ 10000)
    (hs : ∀ (i : Nat) (b : β) (x : V) (H' : Hp) (R : V → Hp → Prop) (R' : Hp → Prop), bs[i]? = some b → Im K H' x (e b) → Tp t c H' → Kp [t] H H' → (∀ y H4 a, Pr b a → Im K H4 y (d a) → Tp t c H4 → Kp [t] H' H4 → R y H4) → lcTurn g tt te vs σ σ0 x H' R R')
    (hd : ∀ D H' acc (as : List α), H D = none → H' D = some (.lst acc) → as.length = bs.length → (∀ (i : Nat) a, as[i]? = some a → ∃ b, bs[i]? = some b ∧ Pr b a) → ImAll K H' acc (as.map d) → Tp t c H' → Kp [t] H H' → Q (.ref D) H') : lcS (Itt K p) g tt te vs σ H Q := by
  have hxl := mapLenP ib
  refine r_lcT xs (fun D i H' => Kp [t] H H' ∧ H D = none ∧ Tp t c H' ∧ ∃ (acc : List V) (as : List α), H' D = some (.lst acc) ∧ as.length = i ∧ (∀ (i : Nat) a, as[i]? = some a → ∃ b, bs[i]? = some b ∧ Pr b a) ∧ ImAll K H' acc (as.map d))
    (fun D H2 hD e2 k2 => ⟨Kp.tr0 k2 (Tp.base T), hD, Tp.kp0 k2 T, [], [], e2, rfl, (fun i a h => by simp at h), .nil⟩) (fun D i H' h => h.1.tup s) ?_ ?_
  · rintro D i x H' hx ⟨k2, hD, T2, acc, as, eD, hl, hP, hA⟩
    obtain ⟨b, hb, hxd⟩ := mapGetP (k2.imAll ib) hx
    have hi : i < bs.length := (List.getElem?_eq_some_iff.mp hb).1
    have nt : D ≠ t := Tp.nef hD T
    have nc : D ≠ c := Tp.nefc hD T
    have hal : acc.length = i := by rw [hA.length, List.length_map, hl]
    refine hs i b x H' _ _ hb hxd T2 k2 fun y H4 a ha hy T4 k4 => ?_
    refine r_ap (k4.get1 nt eD) (small1e4 (by omega)) fun H5 e5 k5 => ⟨Kp.trN k5 (Kp.tr1 k4 k2) hD, hD, Tp.kp1 k5 T4 nt.symm nc.symm, _, as ++ [a], e5, by simp [hl], fun j b' hb' => ?_, ?_⟩
    · rcases Nat.lt_or_ge j as.length with h | h
      · rw [List.getElem?_append_left h] at hb'
        exact hP j b' hb'
      · rw [List.getElem?_append_right h] at hb'
        have e0 : j - as.length = 0 := by
          have := (List.getElem?_eq_some_iff.mp hb').1
          simp at this
          omega
        rw [e0] at hb'
        simp at hb'
        subst hb'
        rw [show j = i by omega]
        exact ⟨b, hb, ha⟩
    · rw [List.map_append]
      exact (k5.imAll (k4.imAll hA)).snoc (k5.im hy)
  · rintro D H' ⟨k2, hD, T2, acc, as, eD, hl, hP, hA⟩
    exact hd D H' acc as hD eD (by rw [hl, hxl]) hP hA T2 k2
end
section
variable {σ : St} {H : Hp} {K : PySem.W.Frag} {p : Addr} {xs : List V} {g : TG} {tb : TS} {nx bk ct : St → Hp → Prop} {rt : VK} {α : Type} {as : List α} {d : α → PyData}
/-- a for over a tuple of data -/
theorem r_forTI (S : List Addr) (s : SqT K H p xs) (ia : ImAll K H xs (as.map d)) (Pv : Nat → St → Hp → Prop) (h0 : Pv 0 σ H) (hk : ∀ i σ' H', Pv i σ' H' → Kp S H H')
    (hs : ∀ (i : Nat) (a : α) (x : V) σ' H', as[i]? = some a → Im K H' x (d a) → Kp S H H' → Pv i σ' H' → g x σ' H' fun σ2 H2 => tb ⟨Pv (i + 1), rt, nx, Pv (i + 1)⟩ σ2 H2) (hd : ∀ σ' H', Kp S H H' → Pv as.length σ' H' → nx σ' H') : forS (Itt K p) g tb ⟨nx, rt, bk, ct⟩ σ H := by
  refine r_forT xs Pv h0 (fun i σ' H' h => (hk i σ' H' h).tup s) (fun i x σ' H' hx h => ?_) (fun σ' H' h => ?_)
  · obtain ⟨a, ha, hxd⟩ := mapGetP ((hk i σ' H' h).imAll ia) hx
    exact hs i a x σ' H' ha hxd (hk i σ' H' h) h
  · rw [mapLenP ia] at h
    exact hd σ' H' (hk _ σ' H' h) h
/-- a for over a list of data that stands -/
theorem r_forLD (S : List Addr) (s : H p = some (.lst xs)) (np : ¬ p ∈ S) (ia : ImAll K H xs (as.map d)) (Pv : Nat → St → Hp → Prop) (h0 : Pv 0 σ H) (hk : ∀ i σ' H', Pv i σ' H' → Kp S H H')
    (hs : ∀ (i : Nat) (a : α) (x : V) σ' H', as[i]? = some a → Im K H' x (d a) → Kp S H H' → Pv i σ' H' → g x σ' H' fun σ2 H2 => tb ⟨Pv (i + 1), rt, nx, Pv (i + 1)⟩ σ2 H2) (hd : ∀ σ' H', Kp S H H' → Pv as.length σ' H' → nx σ' H') : forS (Itl K p) g tb ⟨nx, rt, bk, ct⟩ σ H := by
  refine r_forL xs Pv h0 (fun i σ' H' h => (hk i σ' H' h).get np s) (fun i x σ' H' hx h => ?_) (fun σ' H' h => ?_)
  · obtain ⟨a, ha, hxd⟩ := mapGetP ((hk i σ' H' h).imAll ia) hx
    exact hs i a x σ' H' ha hxd (hk i σ' H' h) h
  · rw [mapLenP ia] at h
    exact hd σ' H' (hk _ σ' H' h) h
end
/-! ### sets of ints, sorted -/
section
variable {K : PySem.W.Frag} {w : World} {H : Hp} {Q : VK} {l S : Addr} {ns : List Int} {f : Int → Bool} {c : Nat}
theorem r_setS (h : H l = some (.lst (ns.map V.int))) (hn : ns.length ≤ 4000) (q : ∀ S H2 c, H S = none → H2 S = some (SetO w S (fun j => decide (j ∈ ns)) c) → c ≤ ns.length → Kp [] H H2 → Q (.ref S) H2) : rSetL K w [.ref l] H Q :=
  ⟨l, ns, rfl, SqL.of h, hn, fun p c hp hc _ => q p _ c hp upd_same hc (Kp.new hp)⟩
theorem r_setS2 (h : H l = some (.lst (ns.map V.int))) (hn : ns.length ≤ 4000) (q : ∀ S H2 c, H S = none → H2 S = some (SetO w S (fun j => decide (j ∈ ns)) c) → (∀ us : List Int, (∀ j ∈ ns, j ∈ us) → c ≤ us.length) → Kp [] H H2 → Q (.ref S) H2) : rSetL K w [.ref l] H Q :=
  ⟨l, ns, rfl, SqL.of h, hn, fun p c hp _ hc => q p _ c hp upd_same hc (Kp.new hp)⟩
theorem r_sortS (h : H S = some (SetO w S f c)) (hc : c < 64) (q : ∀ l (ns : List Int) H2, H l = none → H2 l = some (.lst (ns.map V.int)) → ns.Pairwise (· < ·) → (∀ j, j ∈ ns ↔ f j = true) → Kp [] H H2 → Q (.ref l) H2) : rSortedSet w [.ref S] H Q :=
  ⟨S, f, c, rfl, h, hc, fun ns l hp hm hn hl => q l ns _ hl upd_same hp (fun j => by rw [hm j]) (Kp.new hl)⟩
end
/-! ### more rows of tactics -/
theorem Kp.free1 {H0 H1 : Hp} {p : Addr} (h : H1 p = none) (f : Kp [] H0 H1) : H0 p = none := f.free0 h
local macro_rules | `(tactic| walk_at "cg fr") => `(tactic| (first
  | assumption
  | exact Kp.free1 (by assumption) (by walk_at "cg kp")
  | fail))
section
variable {K : PySem.W.Frag} {H : Hp} {Q : VK} {p : Addr} {xs : List V} {x : V} {neg : Bool}
theorem r_inTt (h : SqT K H p xs) (fx : flatV x = true) (fs : xs.all flatV = true) (e : (if neg then !inV x xs else inV x xs) = true) (q : Q (.bl true) H) : rIn K neg x (.ref p) H Q := r_inT h fx fs e q
theorem r_inTf (h : SqT K H p xs) (fx : flatV x = true) (fs : xs.all flatV = true) (e : (if neg then !inV x xs else inV x xs) = false) (q : Q (.bl false) H) : rIn K neg x (.ref p) H Q := r_inT h fx fs e q
theorem r_inLt (h : H p = some (.lst xs)) (fx : flatV x = true) (fs : xs.all flatV = true) (e : (if neg then !inV x xs else inV x xs) = true) (q : Q (.bl true) H) : rIn K neg x (.ref p) H Q := r_inL h fx fs e q
theorem r_inLf (h : H p = some (.lst xs)) (fx : flatV x = true) (fs : xs.all flatV = true) (e : (if neg then !inV x xs else inV x xs) = false) (q : Q (.bl false) H) : rIn K neg x (.ref p) H Q := r_inL h fx fs e q
end
local macro_rules | `(tactic| walk_at "cg s") => `(tactic| (first
  | ((with_reducible apply r_inTt); (focus (walk_at "cg h")); exact rfl; exact rfl; (focus (decide +kernel)))
  | ((with_reducible apply r_inTf); (focus (walk_at "cg h")); exact rfl; exact rfl; (focus (decide +kernel)))
  | ((with_reducible apply r_inLt); (focus (walk_at "cg h")); exact rfl; exact rfl; (focus (decide +kernel)))
  | ((with_reducible apply r_inLf); (focus (walk_at "cg h")); exact rfl; exact rfl; (focus (decide +kernel)))
  | fail))

/-! ### terms and rows -/
structure Shp (n : Nat) (d : PyData) : Prop where
  lay : d.canLay0 = true
  dep : d.depth ≤ n
theorem Shp.int {n : Nat} (i : Int) : Shp n (.int i) := ⟨rfl, Nat.zero_le _⟩
theorem Shp.bool {n : Nat} (b : Bool) : Shp n (.bool b) := ⟨rfl, Nat.zero_le _⟩
theorem Shp.none {n : Nat} : Shp n .none := ⟨rfl, Nat.zero_le _⟩
theorem Shp.str {n : Nat} {x : Str} (h : PyData.strOk x = true) : Shp n (.str x) := ⟨by simp only [PyData.canLay0]; exact h, Nat.zero_le _⟩
theorem shpAll {n : Nat} : ∀ {ds : List PyData}, (∀ d ∈ ds, Shp n d) → PyData.canLayAll0 ds = true ∧ PyData.depthAll ds ≤ n
  | [], _ => ⟨rfl, Nat.zero_le _⟩
  | d :: ds, h => by
    have h1 := h d List.mem_cons_self
    have h2 := shpAll (ds := ds) fun e he => h e (List.mem_cons_of_mem _ he)
    refine ⟨?_, ?_⟩
    · simp only [PyData.canLayAll0, h1.lay, h2.1, Bool.and_self]
    · simp only [PyData.depthAll]
      exact Nat.max_le.mpr ⟨h1.dep, h2.2⟩
theorem Shp.tup {n : Nat} {ds : List PyData} (h : ∀ d ∈ ds, Shp n d) : Shp (n + 1) (.tuple ds) := by
  have q := shpAll h
  exact ⟨by simp only [PyData.canLay0]; exact q.1, by simp only [PyData.depth]; omega⟩
theorem Shp.list {n : Nat} {ds : List PyData} (h : ∀ d ∈ ds, Shp n d) : Shp (n + 1) (.list ds) := by
  have q := shpAll h
  exact ⟨by simp only [PyData.canLay0]; exact q.1, by simp only [PyData.depth]; omega⟩
theorem Shp.mono {n m : Nat} {d : PyData} (h : Shp n d) (l : n ≤ m) : Shp m d := ⟨h.lay, Nat.le_trans h.dep l⟩
theorem Shp.ok {n : Nat} {d : PyData} (h : Shp n d) (l : n ≤ 64 := by decide) : SeqAt.shaped d = true := by
  unfold SeqAt.shaped
  rw [h.lay, decide_eq_true (Nat.le_trans h.dep l)]
  rfl
theorem Shp.self {n : Nat} {d : PyData} (h : Shp n d) : PyData.eqv d d = true := PySem.SeqAt.eqv_refl d h.lay
theorem shp_nil {n : Nat} : ∀ d ∈ ([] : List PyData), Shp n d := fun _ h => by cases h
theorem shp_cons {n : Nat} {d : PyData} {ds : List PyData} (h : Shp n d) (h' : ∀ e ∈ ds, Shp n e) : ∀ e ∈ d :: ds, Shp n e := fun e he => by
  rcases List.mem_cons.mp he with rfl | he
  · exact h
  · exact h' e he
abbrev Tms := List (Int × Int)
def tD (z : Int × Int) : PyData := .tuple [.int z.1, .int z.2]
def tmD (ts : Tms) : PyData := .tuple (ts.map tD)
def negT (ts : Tms) : Tms := ts.map fun z => (z.1, -z.2)
/-- a point: what each unknown is worth -/
abbrev Pt := Int → Int
def sumF (ts : Tms) (f : Pt) : Int := (ts.map fun z => z.2 * f z.1).sum
theorem tD_shp (z : Int × Int) : Shp 1 (tD z) := .tup (shp_cons (.int _) (shp_cons (.int _) shp_nil))
theorem tmD_shp (ts : Tms) : Shp 2 (tmD ts) := .tup fun d hd => by
  obtain ⟨z, _, rfl⟩ := List.mem_map.mp hd
  exact tD_shp z
theorem sumF_neg (ts : Tms) (f : Pt) : sumF (negT ts) f = -sumF ts f := by
  induction ts with
  | nil => rfl
  | cons z ts ih =>
    have e1 : sumF (negT (z :: ts)) f = (-z.2) * f z.1 + sumF (negT ts) f := by simp [sumF, negT]
    have e2 : sumF (z :: ts) f = z.2 * f z.1 + sumF ts f := by simp [sumF]
    rw [e1, e2, ih, Int.neg_mul]
    omega
theorem sumF_snoc (ts : Tms) (z : Int × Int) (f : Pt) : sumF (ts ++ [z]) f = sumF ts f + z.2 * f z.1 := by
  simp [sumF]
theorem sumF_take {ts : Tms} {z : Int × Int} {i : Nat} (f : Pt) (h : ts[i]? = some z) : sumF (ts.take (i + 1)) f = sumF (ts.take i) f + z.2 * f z.1 := by
  rw [List.take_add_one, h]
  exact sumF_snoc _ _ _
theorem sumF_congr {ts : Tms} {f g : Pt} (h : ∀ z ∈ ts, f z.1 = g z.1) : sumF ts f = sumF ts g := by
  unfold sumF
  congr 1
  exact List.map_congr_left fun z hz => by rw [h z hz]
theorem map_take_snoc {α β : Type} {l : List α} {f : α → β} {i : Nat} {x : α} (h : l[i]? = some x) : (l.take (i + 1)).map f = (l.take i).map f ++ [f x] := by
  rw [List.take_add_one, h]
  simp
theorem term_at {K : PySem.W.Frag} {H : Hp} {x : V} {z : Int × Int} (h : Im K H x (tD z)) : ∃ q, x = .ref q ∧ SqT K H q [.int z.1, .int z.2] := by
  obtain ⟨q, rfl⟩ := Im.isRef h
  exact ⟨q, rfl, Im.sq h rfl⟩
/-! ### points -/
/-- at q a point is to be read: f v at each v of dom -/
def PtAt (K : PySem.W.Frag) (H : Hp) (q : Addr) (f : Pt) (dom : Int → Prop) : Prop := ∀ v, dom v → (∃ xs, SqT K H q xs ∧ atI xs v = some (.int (f v))) ∨ (∃ xs, H q = some (.lst xs) ∧ atI xs v = some (.int (f v))) ∨ ∃ kvs, H q = some (.dK kvs) ∧ valV kvs (Sum.inl v) = some (.int (f v))
/-- a dict with numbers as keys, read by [..] -/
def rIxDK : R2 := fun x y H Q => ∃ a kvs k v, x = .ref a ∧ y = .int k ∧ H a = some (.dK kvs) ∧ valV kvs (Sum.inl k) = some v ∧ Q v H
open PySem.Spec PyProof.Rows in
theorem ix_dK {X : Cx} : IxR X rIxDK := by
  intro value slice pins s σ H x y v u Q I rx ry h hs
  obtain ⟨a, kvs, k, z, rfl, rfl, hq, he, q⟩ := h
  obtain rfl : v = Value.ref a := rx
  obtain ⟨z1, hd, vs, rel, dd⟩ := dk_of I.hok hq
  obtain ⟨w', hw, rw'⟩ := RelO.some_of (v := z) (o := valueAt vs (Sum.inl k)) (by rw [← he]; exact rel.val _)
  exact tail_any dd.typeIs PySem.F.slot_dict_getitem.lookup (wpAny_getItem_of (kV_is (k := Sum.inl k) ry) dd.mapOf hw ⟨z, H, I.tok _, rw', q⟩) hs
def rPt (K : PySem.W.Frag) : R2 := fun x y H Q => rIxT K x y H Q ∨ (rIxL K x y H Q ∨ rIxDK x y H Q)
theorem ixP {X : Cx} (K : PySem.W.Frag) (h : X.K = K := by rfl) : IxR X (rPt K) := h ▸ ix_tup.or (ix_list.or ix_dK)
def at_ (pt : List Int) : Pt := fun v => pt.getD v.toNat 0
section
variable {K : PySem.W.Frag} {H H' : Hp} {q : Addr} {f : Pt} {dom dom' : Int → Prop} {v : Int} {Q : VK} {pt : List Int} {S : List Addr}
theorem r_pt (h : PtAt K H q f dom) (hv : dom v) (k : Q (.int (f v)) H) : rPt K (.ref q) (.int v) H Q := by
  rcases h v hv with ⟨xs, h1, h2⟩ | ⟨xs, h1, h2⟩ | ⟨kvs, h1, h2⟩
  · exact .inl ⟨q, xs, v, _, rfl, rfl, h1, h2, k⟩
  · exact .inr (.inl ⟨q, xs, v, _, rfl, rfl, SqL.of h1, h2, k⟩)
  · exact .inr (.inr ⟨q, kvs, v, _, rfl, rfl, h1, h2, k⟩)
theorem PtAt.kp (k : Kp S H H') (h : PtAt K H q f dom) (n : ¬ q ∈ S) : PtAt K H' q f dom := fun v hv => by
  rcases h v hv with ⟨xs, h1, h2⟩ | ⟨xs, h1, h2⟩ | ⟨kvs, h1, h2⟩
  · exact .inl ⟨xs, k.tup h1, h2⟩
  · exact .inr (.inl ⟨xs, k.get n h1, h2⟩)
  · exact .inr (.inr ⟨kvs, k.get n h1, h2⟩)
theorem PtAt.kp0 (k : Kp [] H H') (h : PtAt K H q f dom) : PtAt K H' q f dom := h.kp k fun z => nomatch z
theorem PtAt.ofT (h : SqT K H q (pt.map V.int)) : PtAt K H q (at_ pt) fun v => 0 ≤ v ∧ v < pt.length := fun v hv => .inl ⟨_, h, atI_ints hv.1 hv.2⟩
theorem PtAt.ofL (h : H q = some (.lst (pt.map V.int))) : PtAt K H q (at_ pt) fun v => 0 ≤ v ∧ v < pt.length := fun v hv => .inr (.inl ⟨_, h, atI_ints hv.1 hv.2⟩)
theorem PtAt.mono (h : PtAt K H q f dom) (l : ∀ v, dom' v → dom v) : PtAt K H q f dom' := fun v hv => h v (l v hv)
end
def tmBd (ts : Tms) : Prop := ∀ z ∈ ts, -2000000000000000000 < z.2 ∧ z.2 < 2000000000000000000
def spSumF (K : PySem.W.Frag) : Sp := fun vs H Q _ => ∃ (p q : Addr) (ts : Tms) (f : Pt) (dom : Int → Prop), vs = [.ref p, .ref q] ∧ Im K H (.ref p) (tmD ts) ∧ PtAt K H q f dom ∧ (∀ z ∈ ts, dom z.1) ∧ tmBd ts ∧ Q (.int (sumF ts f)) H
theorem spSumF_i {K : PySem.W.Frag} {H : Hp} {Q : VK} {E : XK} {p q : Addr} {ts : Tms} {f : Pt} {dom : Int → Prop} (h1 : Im K H (.ref p) (tmD ts)) (h2 : PtAt K H q f dom) (h3 : ∀ z ∈ ts, dom z.1) (h4 : tmBd ts) (k : Q (.int (sumF ts f)) H) : spSumF K [.ref p, .ref q] H Q E :=
  ⟨p, q, ts, f, dom, rfl, h1, h2, h3, h4, k⟩
def spNegT (K : PySem.W.Frag) : Sp := fun vs H Q _ => ∃ (p : Addr) (ts : Tms), vs = [.ref p] ∧ Im K H (.ref p) (tmD ts) ∧ ts.length ≤ 1000 ∧ ∀ (p' : Addr) (H' : Hp), Im K H' (.ref p') (tmD (negT ts)) → Kp [] H H' → Q (.ref p') H'
local macro_rules | `(tactic| walk_at "cg h") => `(tactic| (first
  | ((with_reducible show PtAt _ _ _ _ _); exact PtAt.kp0 (by assumption) (by walk_at "cg h"))
  | fail))
local macro_rules | `(tactic| walk_at "cg h") => `(tactic| assumption)

/-! ### data: when equal -/
mutual
/-- no bool, no dict, no list within -/
def nb : PyData → Bool
  | .none => true
  | .int _ => true
  | .str _ => true
  | .tuple xs => nbAll xs
  | _ => false
def nbAll : List PyData → Bool
  | [] => true
  | x :: xs => nb x && nbAll xs
end
mutual
theorem eqv_nb : ∀ (d e : PyData), nb d = true → nb e = true → PyData.eqv d e = true → d = e
  | .none, .none, _, _, _ => rfl
  | .int i, .int j, _, _, h => by
    have h' : (i == j) = true := by simpa only [PyData.eqv] using h
    rw [beq_iff_eq.mp h']
  | .str i, .str j, _, _, h => by
    have h' : (i == j) = true := by simpa only [PyData.eqv] using h
    rw [beq_iff_eq.mp h']
  | .tuple xs, .tuple ys, h1, h2, h => by
    rw [eqvAll_nb xs ys (by simpa only [nb] using h1) (by simpa only [nb] using h2) (by simpa only [PyData.eqv] using h)]
  | .none, .int _, _, _, h => by simp [PyData.eqv] at h
  | .none, .str _, _, _, h => by simp [PyData.eqv] at h
  | .none, .tuple _, _, _, h => by simp [PyData.eqv] at h
  | .int _, .none, _, _, h => by simp [PyData.eqv] at h
  | .int _, .str _, _, _, h => by simp [PyData.eqv] at h
  | .int _, .tuple _, _, _, h => by simp [PyData.eqv] at h
  | .str _, .none, _, _, h => by simp [PyData.eqv] at h
  | .str _, .int _, _, _, h => by simp [PyData.eqv] at h
  | .str _, .tuple _, _, _, h => by simp [PyData.eqv] at h
  | .tuple _, .none, _, _, h => by simp [PyData.eqv] at h
  | .tuple _, .int _, _, _, h => by simp [PyData.eqv] at h
  | .tuple _, .str _, _, _, h => by simp [PyData.eqv] at h
  | .bool _, _, h, _, _ => by simp [nb] at h
  | .list _, _, h, _, _ => by simp [nb] at h
  | .dict _, _, h, _, _ => by simp [nb] at h
  | _, .bool _, _, h, _ => by simp [nb] at h
  | _, .list _, _, h, _ => by simp [nb] at h
  | _, .dict _, _, h, _ => by simp [nb] at h
theorem eqvAll_nb : ∀ (ds es : List PyData), nbAll ds = true → nbAll es = true → PyData.eqvAll ds es = true → ds = es
  | [], [], _, _, _ => rfl
  | [], _ :: _, _, _, h => by simp [PyData.eqvAll] at h
  | _ :: _, [], _, _, h => by simp [PyData.eqvAll] at h
  | d :: ds, e :: es, h1, h2, h => by
    simp only [nbAll, Bool.and_eq_true] at h1 h2
    simp only [PyData.eqvAll, Bool.and_eq_true] at h
    rw [eqv_nb d e h1.1 h2.1 h.1, eqvAll_nb ds es h1.2 h2.2 h.2]
end
theorem nbAll_of {ds : List PyData} (h : ∀ d ∈ ds, nb d = true) : nbAll ds = true := by
  induction ds with
  | nil => rfl
  | cons d ds ih => simp only [nbAll, h d List.mem_cons_self, ih fun e he => h e (List.mem_cons_of_mem _ he), Bool.and_self]
/-- an encoding whose values are equal exactly if the data are -/
theorem eqv_dec {α : Type} [DecidableEq α] {f : α → PyData} (hf : ∀ a b, f a = f b → a = b) (hn : ∀ a, nb (f a) = true) (hs : ∀ a, (f a).canLay0 = true) (a b : α) : PyData.eqv (f a) (f b) = decide (a = b) := by
  by_cases h : a = b
  · subst h
    rw [PySem.SeqAt.eqv_refl _ (hs a), decide_eq_true rfl]
  · rw [decide_eq_false h]
    cases q : PyData.eqv (f a) (f b) with
    | false => rfl
    | true => exact absurd (hf a b (eqv_nb _ _ (hn a) (hn b) q)) h
theorem map_inj {α β : Type} {f : α → β} (hf : ∀ a b, f a = f b → a = b) : ∀ {xs ys : List α}, xs.map f = ys.map f → xs = ys
  | [], [], _ => rfl
  | [], _ :: _, h => by simp at h
  | _ :: _, [], h => by simp at h
  | x :: xs, y :: ys, h => by
    simp only [List.map_cons, List.cons.injEq] at h
    rw [hf x y h.1, map_inj hf h.2]
theorem tD_inj (a b : Int × Int) (h : tD a = tD b) : a = b := by
  simp only [tD, PyData.tuple.injEq, List.cons.injEq, PyData.int.injEq, and_true] at h
  exact Prod.ext h.1 h.2
theorem tmD_inj (a b : Tms) (h : tmD a = tmD b) : a = b := by
  simp only [tmD, PyData.tuple.injEq] at h
  exact map_inj tD_inj h
theorem tmD_nb (a : Tms) : nb (tmD a) = true := by
  simp only [tmD, nb]
  exact nbAll_of fun d hd => by
    obtain ⟨z, _, rfl⟩ := List.mem_map.mp hd
    rfl
theorem tmD_eqv (a b : Tms) : PyData.eqv (tmD a) (tmD b) = decide (a = b) := eqv_dec tmD_inj tmD_nb (fun a => (tmD_shp a).lay) a b
/-! ### literals and facts -/
structure Lit where
  v : Int
  r : Rel
  a : Int
  deriving DecidableEq
def Lit.d (l : Lit) : PyData := litD l.v l.r l.a
theorem Rel.s_inj (a b : Rel) (h : a.s = b.s) : a = b := by
  have e : (decide (a = b) || !decide (a.s = b.s)) = true := by
    cases a <;> cases b <;> decide +kernel
  rw [h, decide_eq_true rfl, Bool.not_true, Bool.or_false] at e
  exact of_decide_eq_true e
theorem Lit.d_inj (a b : Lit) (h : a.d = b.d) : a = b := by
  simp only [Lit.d, litD, PyData.tuple.injEq, List.cons.injEq, PyData.int.injEq, PyData.str.injEq, and_true] at h
  obtain ⟨h1, h2, h3⟩ := h
  cases a
  cases b
  simp only at h1 h2 h3
  rw [h1, Rel.s_inj _ _ h2, h3]
theorem Lit.shp (l : Lit) : Shp 1 l.d := .tup (shp_cons (.int _) (shp_cons (.str (Rel.ok _)) (shp_cons (.int _) shp_nil)))
theorem Lit.d_nb (l : Lit) : nb l.d = true := rfl
theorem Lit.eqv (a b : Lit) : PyData.eqv a.d b.d = decide (a = b) := eqv_dec Lit.d_inj Lit.d_nb (fun a => (Lit.shp a).lay) a b
def litsD (ls : List Lit) : PyData := .tuple (ls.map Lit.d)
theorem litsD_shp (ls : List Lit) : Shp 2 (litsD ls) := .tup fun d hd => by
  obtain ⟨z, _, rfl⟩ := List.mem_map.mp hd
  exact Lit.shp z
def Lit.h (l : Lit) (f : Pt) : Bool := l.r.h (f l.v) l.a
theorem lit_mk {K : PySem.W.Frag} {H : Hp} {p : Addr} {v a : Int} {r : Rel} (h : LitAt K H p v r a) : Im K H (.ref p) (Lit.d ⟨v, r, a⟩) := .tup h (.cons (.int _) (.cons (.str _) (.cons (.int _) .nil)))
theorem lit_at {K : PySem.W.Frag} {H : Hp} {x : V} {l : Lit} (h : Im K H x l.d) : ∃ q, x = .ref q ∧ LitAt K H q l.v l.r l.a := by
  obtain ⟨q, rfl⟩ := Im.isRef h
  exact ⟨q, rfl, Im.sq h rfl⟩
theorem room65 {k : Nat} {A : Around} (r : Room k A) : A.units + 65 < cLine := by have := r.un; omega
/-! ### x in a tuple of data -/
section
variable {X : Cx}
def rInDT (K : PySem.W.Frag) : R2 := fun x y H Q => ∃ d ds, Dp K H x d ∧ Dp K H y (.tuple ds) ∧ SeqAt.shaped d = true ∧ SeqAt.shaped (.tuple ds) = true ∧ Q (.bl (ds.any fun z => PyData.eqv z d)) H
theorem cg_inDT (hu : X.A.units + 65 < cLine) : OpR X (compareOp .In) (rInDT X.K) := by
  intro pins s σ H x y v u Q I rx ry h
  obtain ⟨d, ds, hd, he, sd, se, q⟩ := h
  obtain ⟨as, r1⟩ := Dp.reads I d x v hd rx
  obtain ⟨bs, r2⟩ := Dp.reads I (.tuple ds) y u he ry
  exact SeqAt.in_tuple_reads r2 r1 (by have q := SeqAt.canLay_of_shaped se; simpa only [PyData.canLay0] using q) (SeqAt.canLay_of_shaped sd) (PyProof.Rows.room_in_shaped sd hu) ⟨.bl _, H, I, rfl, q⟩
theorem inDT (K : PySem.W.Frag) {k : Nat} {A : Around} (r : Room k A) (h : X.K = K := by rfl) (ha : X.A = A := by rfl) : OpR X (compareOp .In) (rInDT K) := h ▸ cg_inDT (by rw [ha]; exact room65 r)
end
theorem intsD_inj (a b : List Int) (h : intsD a = intsD b) : a = b := by
  simp only [intsD, PyData.tuple.injEq] at h
  exact map_inj (fun x y e => by simpa using e) h
theorem intsD_nb (a : List Int) : nb (intsD a) = true := by
  simp only [intsD, nb]
  exact nbAll_of fun d hd => by
    obtain ⟨z, _, rfl⟩ := List.mem_map.mp hd
    rfl
theorem intsD_shp (a : List Int) : Shp 1 (intsD a) := .tup fun d hd => by
  obtain ⟨z, _, rfl⟩ := List.mem_map.mp hd
  exact .int z
theorem intsD_eqv (a b : List Int) : PyData.eqv (intsD a) (intsD b) = decide (a = b) := eqv_dec intsD_inj intsD_nb (fun a => (intsD_shp a).lay) a b
theorem any_in {α : Type} [DecidableEq α] {d : α → PyData} (hd : ∀ a b, PyData.eqv (d a) (d b) = decide (a = b)) (as : List α) (a : α) : ((as.map d).any fun z => PyData.eqv z (d a)) = decide (a ∈ as) := by
  rw [List.any_map]
  have e : ((fun z => PyData.eqv z (d a)) ∘ d) = fun b => decide (b = a) := by
    funext b
    exact hd b a
  rw [e, Bool.eq_iff_iff]
  simp


/-! ### bodies -/
inductive Body where
  | row (ts : Tms) (r : Rel) (n : Int)
  | any (ls : List Lit)
  | when (l : Lit) (ts : Tms) (r : Rel) (n : Int)
  | diff (us : List Int)
  | table (us : List Int) (rows : List (List Int))
  | elem (x : Int) (es : List Int) (y : Int)
  | times (x y z : Int)
  deriving DecidableEq
def rowsD (rows : List (List Int)) : PyData := .tuple (rows.map intsD)
def Body.d : Body → PyData
  | .row ts r n => .tuple [.str (Str.ofString "row"), tmD ts, .str r.s, .int n]
  | .any ls => .tuple [.str (Str.ofString "any"), litsD ls]
  | .when l ts r n => .tuple [.str (Str.ofString "when"), l.d, tmD ts, .str r.s, .int n]
  | .diff us => .tuple [.str (Str.ofString "different"), intsD us]
  | .table us rows => .tuple [.str (Str.ofString "table"), intsD us, rowsD rows]
  | .elem x es y => .tuple [.str (Str.ofString "element"), .int x, intsD es, .int y]
  | .times x y z => .tuple [.str (Str.ofString "times"), .int x, .int y, .int z]
def Body.vars : Body → List Int
  | .row ts _ _ => ts.map (·.1)
  | .any ls => ls.map (·.v)
  | .when l ts _ _ => l.v :: ts.map (·.1)
  | .diff us => us
  | .table us _ => us
  | .elem x _ y => [x, y]
  | .times x y z => [x, y, z]
def Body.h (f : Pt) : Body → Bool
  | .row ts r n => r.h (sumF ts f) n
  | .any ls => ls.any fun l => l.h f
  | .when l ts r n => !l.h f || r.h (sumF ts f) n
  | .diff us => decide (us.map f).Nodup
  | .table us rows => decide (us.map f ∈ rows)
  | .elem x es y => decide (0 ≤ f x) && (decide (f x < es.length) && decide (es.getD (f x).toNat 0 = f y))
  | .times x y z => decide (f x * f y = f z)
/-- sizes for the walk -/
def Body.bd : Body → Prop
  | .row ts _ _ => tmBd ts ∧ ts.length ≤ 62
  | .any ls => ls.length ≤ 62
  | .when _ ts _ _ => tmBd ts ∧ ts.length ≤ 62
  | .diff us => us.length ≤ 62
  | .table us rows => us.length ≤ 62 ∧ rows.length ≤ 1000
  | .elem _ es _ => es.length ≤ 1000
  | .times _ _ _ => True
theorem any_congr' {α : Type} {as : List α} {f g : α → Bool} (h : ∀ a ∈ as, f a = g a) : as.any f = as.any g := by
  induction as with
  | nil => rfl
  | cons a as ih => rw [List.any_cons, List.any_cons, h a List.mem_cons_self, ih fun b hb => h b (List.mem_cons_of_mem _ hb)]
theorem Body.bd_vars {b : Body} (h : b.bd) : b.vars.length ≤ 63 := by
  cases b <;> simp only [Body.bd, Body.vars, List.length_map, List.length_cons, List.length_nil] at h ⊢ <;> omega
theorem Body.h_congr {b : Body} {f g : Pt} (h : ∀ v ∈ b.vars, f v = g v) : b.h f = b.h g := by
  have m : ∀ us : List Int, (∀ v ∈ us, f v = g v) → us.map f = us.map g := fun us h => List.map_congr_left h
  have s : ∀ ts : Tms, (∀ v ∈ ts.map (·.1), f v = g v) → sumF ts f = sumF ts g := fun ts h => sumF_congr fun z hz => h _ (List.mem_map.mpr ⟨z, hz, rfl⟩)
  cases b with
  | row ts r n => simp only [Body.h, s ts h]
  | any ls =>
    simp only [Body.h]
    refine any_congr' fun l hl => ?_
    simp only [Lit.h, h l.v (List.mem_map.mpr ⟨l, hl, rfl⟩)]
  | when l ts r n =>
    simp only [Body.h, Lit.h, h l.v List.mem_cons_self, s ts fun v hv => h v (List.mem_cons_of_mem _ hv)]
  | diff us => simp only [Body.h, m us h]
  | table us rows => simp only [Body.h, m us h]
  | elem x es y => simp only [Body.h, h x (by simp [Body.vars]), h y (by simp [Body.vars])]
  | times x y z => simp only [Body.h, h x (by simp [Body.vars]), h y (by simp [Body.vars]), h z (by simp [Body.vars])]
theorem rowsD_shp (rows : List (List Int)) : Shp 2 (rowsD rows) := .tup fun d hd => by
  obtain ⟨z, _, rfl⟩ := List.mem_map.mp hd
  exact intsD_shp z
theorem Body.shp (b : Body) : Shp 3 b.d := by
  have t1 : ∀ ts, Shp 2 (tmD ts) := tmD_shp
  cases b with
  | row ts r n => exact .tup (shp_cons (.str (by decide +kernel)) (shp_cons (tmD_shp ts) (shp_cons (.str (Rel.ok r)) (shp_cons (.int _) shp_nil))))
  | any ls => exact .tup (shp_cons (.str (by decide +kernel)) (shp_cons (litsD_shp ls) shp_nil))
  | when l ts r n => exact .tup (shp_cons (.str (by decide +kernel)) (shp_cons ((Lit.shp l).mono (by decide)) (shp_cons (tmD_shp ts) (shp_cons (.str (Rel.ok r)) (shp_cons (.int _) shp_nil)))))
  | diff us => exact .tup (shp_cons (.str (by decide +kernel)) (shp_cons ((intsD_shp us).mono (by decide)) shp_nil))
  | table us rows => exact .tup (shp_cons (.str (by decide +kernel)) (shp_cons ((intsD_shp us).mono (by decide)) (shp_cons (rowsD_shp rows) shp_nil)))
  | elem x es y => exact .tup (shp_cons (.str (by decide +kernel)) (shp_cons (.int _) (shp_cons ((intsD_shp es).mono (by decide)) (shp_cons (.int _) shp_nil))))
  | times x y z => exact .tup (shp_cons (.str (by decide +kernel)) (shp_cons (.int _) (shp_cons (.int _) (shp_cons (.int _) shp_nil))))
abbrev BodyAt (K : PySem.W.Frag) (H : Hp) (p : Addr) (b : Body) : Prop := Im K H (.ref p) b.d
theorem ImAll.c {K : PySem.W.Frag} {H : Hp} {xs : List V} {d : PyData} {ds : List PyData} (h : ImAll K H xs (d :: ds)) : ∃ x ys, xs = x :: ys ∧ Im K H x d ∧ ImAll K H ys ds := by
  cases h with
  | cons h a => exact ⟨_, _, rfl, h, a⟩
theorem ImAll.n {K : PySem.W.Frag} {H : Hp} {xs : List V} (h : ImAll K H xs []) : xs = [] := by
  cases h
  rfl
section
variable {K : PySem.W.Frag} {H : Hp} {p : Addr} {ts : Tms} {n x y z : Int} {ls : List Lit} {l : Lit} {r : Rel} {us es : List Int} {rows : List (List Int)}
theorem b_row (h : BodyAt K H p (.row ts r n)) : ∃ q, SqT K H p [.str (Str.ofString "row"), .ref q, .str r.s, .int n] ∧ Im K H (.ref q) (tmD ts) := by
  obtain ⟨_, h1, h2⟩ := Im.open h
  obtain ⟨_, _, rfl, a1, h2⟩ := h2.c
  obtain ⟨_, _, rfl, a2, h2⟩ := h2.c
  obtain ⟨_, _, rfl, a3, h2⟩ := h2.c
  obtain ⟨_, _, rfl, a4, h2⟩ := h2.c
  obtain rfl := h2.n
  obtain ⟨q, rfl⟩ := a2.isRef
  cases a1; cases a3; cases a4
  exact ⟨q, h1, a2⟩
theorem b_any (h : BodyAt K H p (.any ls)) : ∃ q, SqT K H p [.str (Str.ofString "any"), .ref q] ∧ Im K H (.ref q) (litsD ls) := by
  obtain ⟨_, h1, h2⟩ := Im.open h
  obtain ⟨_, _, rfl, a1, h2⟩ := h2.c
  obtain ⟨_, _, rfl, a2, h2⟩ := h2.c
  obtain rfl := h2.n
  obtain ⟨q, rfl⟩ := a2.isRef
  cases a1
  exact ⟨q, h1, a2⟩
theorem b_when (h : BodyAt K H p (.when l ts r n)) : ∃ q1 q, SqT K H p [.str (Str.ofString "when"), .ref q1, .ref q, .str r.s, .int n] ∧ LitAt K H q1 l.v l.r l.a ∧ Im K H (.ref q) (tmD ts) := by
  obtain ⟨_, h1, h2⟩ := Im.open h
  obtain ⟨_, _, rfl, a1, h2⟩ := h2.c
  obtain ⟨_, _, rfl, a0, h2⟩ := h2.c
  obtain ⟨_, _, rfl, a2, h2⟩ := h2.c
  obtain ⟨_, _, rfl, a3, h2⟩ := h2.c
  obtain ⟨_, _, rfl, a4, h2⟩ := h2.c
  obtain rfl := h2.n
  obtain ⟨q, rfl⟩ := a2.isRef
  obtain ⟨q1, rfl, L⟩ := lit_at a0
  cases a1; cases a3; cases a4
  exact ⟨q1, q, h1, L, a2⟩
theorem b_diff (h : BodyAt K H p (.diff us)) : ∃ q, SqT K H p [.str (Str.ofString "different"), .ref q] ∧ SqT K H q (us.map V.int) := by
  obtain ⟨_, h1, h2⟩ := Im.open h
  obtain ⟨_, _, rfl, a1, h2⟩ := h2.c
  obtain ⟨_, _, rfl, a2, h2⟩ := h2.c
  obtain rfl := h2.n
  obtain ⟨q, rfl⟩ := a2.isRef
  cases a1
  exact ⟨q, h1, a2.intsT⟩
theorem b_table (h : BodyAt K H p (.table us rows)) : ∃ q q2, SqT K H p [.str (Str.ofString "table"), .ref q, .ref q2] ∧ SqT K H q (us.map V.int) ∧ Im K H (.ref q2) (rowsD rows) := by
  obtain ⟨_, h1, h2⟩ := Im.open h
  obtain ⟨_, _, rfl, a1, h2⟩ := h2.c
  obtain ⟨_, _, rfl, a2, h2⟩ := h2.c
  obtain ⟨_, _, rfl, a3, h2⟩ := h2.c
  obtain rfl := h2.n
  obtain ⟨q, rfl⟩ := a2.isRef
  obtain ⟨q2, rfl⟩ := a3.isRef
  cases a1
  exact ⟨q, q2, h1, a2.intsT, a3⟩
theorem b_elem (h : BodyAt K H p (.elem x es y)) : ∃ q, SqT K H p [.str (Str.ofString "element"), .int x, .ref q, .int y] ∧ SqT K H q (es.map V.int) := by
  obtain ⟨_, h1, h2⟩ := Im.open h
  obtain ⟨_, _, rfl, a1, h2⟩ := h2.c
  obtain ⟨_, _, rfl, a3, h2⟩ := h2.c
  obtain ⟨_, _, rfl, a2, h2⟩ := h2.c
  obtain ⟨_, _, rfl, a4, h2⟩ := h2.c
  obtain rfl := h2.n
  obtain ⟨q, rfl⟩ := a2.isRef
  cases a1; cases a3; cases a4
  exact ⟨q, h1, a2.intsT⟩
theorem b_times (h : BodyAt K H p (.times x y z)) : SqT K H p [.str (Str.ofString "times"), .int x, .int y, .int z] := Im.sq h rfl
end
/-- a list of ints built by hand at l -/
def spUnkn (K : PySem.W.Frag) : Sp := fun vs H Q _ => ∃ (p : Addr) (b : Body), vs = [.ref p] ∧ BodyAt K H p b ∧ b.bd ∧ ∀ (l : Addr) (ns : List Int) (H' : Hp), H l = none → H' l = some (.lst (ns.map V.int)) → ns.Pairwise (· < ·) → (∀ k, k ∈ ns ↔ k ∈ b.vars) → Kp [] H H' → Q (.ref l) H'
def ptBd (f : Pt) (dom : Int → Prop) : Prop := ∀ v, dom v → -1000000000000 < f v ∧ f v < 1000000000000
def spHolds (K : PySem.W.Frag) : Sp := fun vs H Q _ => ∃ (p q : Addr) (b : Body) (f : Pt) (dom : Int → Prop), vs = [.ref p, .ref q] ∧ BodyAt K H p b ∧ b.bd ∧ PtAt K H q f dom ∧ ptBd f dom ∧ (∀ v ∈ b.vars, dom v) ∧ ∀ H', Kp [] H H' → Q (.bl (b.h f)) H'
def rCatL (K : PySem.W.Frag) : R2 := fun x y H Q => ∃ l b xs zs, x = .ref l ∧ y = .ref b ∧ H l = some (.lst xs) ∧ H b = some (.lst zs) ∧ xs.length + zs.length ≤ 10000 ∧ ∀ p H2, H p = none → H2 p = some (.lst (xs ++ zs)) → Kp [] H H2 → Q (.ref p) H2
theorem op_catL {X : Cx} (K : PySem.W.Frag) : OpR X (binaryOp .Add) (rCatL K) := fun pins s σ H x y v u Q I rx ry ⟨l, b, xs, zs, e1, e2, h1, h2, hz, q⟩ =>
  op_cat pins s σ H x y v u Q I rx ry ⟨l, b, xs, zs, e1, e2, h1, h2, by rw [sizeLine_eq]; omega, fun p hp => q p _ hp upd_same (Kp.new hp)⟩
theorem r_cat {K : PySem.W.Frag} {H : Hp} {Q : VK} {l b : Addr} {xs zs : List V} (h1 : H l = some (.lst xs)) (h2 : H b = some (.lst zs)) (hz : xs.length + zs.length ≤ 10000) (q : ∀ p H2, H p = none → H2 p = some (.lst (xs ++ zs)) → Kp [] H H2 → Q (.ref p) H2) : rCatL K (.ref l) (.ref b) H Q :=
  ⟨l, b, xs, zs, rfl, rfl, h1, h2, hz, q⟩

/-! ### the numbers of a range that are in a list -/
theorem sorted_ext : ∀ {xs ys : List Int}, xs.Pairwise (· < ·) → ys.Pairwise (· < ·) → (∀ k, k ∈ xs ↔ k ∈ ys) → xs = ys
  | [], [], _, _, _ => rfl
  | [], y :: ys, _, _, h => by simpa using (h y).2 List.mem_cons_self
  | x :: xs, [], _, _, h => by simpa using (h x).1 List.mem_cons_self
  | x :: xs, y :: ys, h1, h2, h => by
    rw [List.pairwise_cons] at h1 h2
    have e : x = y := by
      rcases List.mem_cons.mp ((h x).1 List.mem_cons_self) with q | q
      · exact q
      · rcases List.mem_cons.mp ((h y).2 List.mem_cons_self) with q2 | q2
        · exact q2.symm
        · have a := h1.1 _ q2
          have b := h2.1 _ q
          omega
    subst e
    rw [sorted_ext h1.2 h2.2 fun k => ?_]
    constructor
    · intro hk
      rcases List.mem_cons.mp ((h k).1 (List.mem_cons_of_mem _ hk)) with q | q
      · subst q
        exact absurd (h1.1 _ hk) (Int.lt_irrefl _)
      · exact q
    · intro hk
      rcases List.mem_cons.mp ((h k).2 (List.mem_cons_of_mem _ hk)) with q | q
      · subst q
        exact absurd (h2.1 _ hk) (Int.lt_irrefl _)
      · exact q
def numsOf (us : List Int) (i : Nat) : List Int := ((List.range i).map Int.ofNat).filter fun v => decide (v ∈ us)
theorem numsOf_succ (us : List Int) (i : Nat) : numsOf us (i + 1) = numsOf us i ++ (if decide (((i : Nat) : Int) ∈ us) = true then [((i : Nat) : Int)] else []) := by
  unfold numsOf
  rw [List.range_succ, List.map_append, List.filter_append]
  congr 1
  simp only [List.map_cons, List.map_nil, List.filter_cons, List.filter_nil]
  rfl
theorem numsOf_le (us : List Int) (i : Nat) : (numsOf us i).length ≤ i := by
  have q := List.length_filter_le (fun v => decide (v ∈ us)) ((List.range i).map Int.ofNat)
  rw [List.length_map, List.length_range] at q
  exact q
theorem numsOf_mem {us : List Int} {i : Nat} {k : Int} : k ∈ numsOf us i ↔ (0 ≤ k ∧ k < i) ∧ k ∈ us := by
  unfold numsOf
  rw [List.mem_filter, List.mem_map]
  simp only [decide_eq_true_eq, List.mem_range]
  constructor
  · rintro ⟨⟨j, hj, rfl⟩, h⟩
    exact ⟨⟨Int.natCast_nonneg j, by show (j : Int) < i; omega⟩, h⟩
  · rintro ⟨⟨h0, h1⟩, h⟩
    exact ⟨⟨k.toNat, by omega, by show ((k.toNat : Nat) : Int) = k; omega⟩, h⟩
theorem numsOf_asc (us : List Int) (i : Nat) : (numsOf us i).Pairwise (· < ·) := by
  refine List.Pairwise.filter _ ?_
  rw [List.pairwise_map]
  exact List.pairwise_lt_range.imp fun {a b} h => by show (a : Int) < b; omega
theorem intsL_dp {K : PySem.W.Frag} {H : Hp} {l : Addr} {ns : List Int} (h : H l = some (.lst (ns.map V.int))) : Dp K H (.ref l) (.list (ns.map PyData.int)) := .lst (SqL.of h) (imInts ns).dp
theorem intsL_shp (ns : List Int) : Shp 1 (.list (ns.map PyData.int)) := .list fun d hd => by
  obtain ⟨z, _, rfl⟩ := List.mem_map.mp hd
  exact .int z

/-! ### bodies that fit; the law's own -/
def litFit (m : Int) (l : Lit) : Prop := 0 ≤ l.v ∧ l.v < m ∧ -1001 ≤ l.a ∧ l.a ≤ 1001
def tmFit (m : Int) (ts : Tms) : Prop := ts.length ≤ 60 ∧ (ts.map (·.1)).Pairwise (· < ·) ∧ ∀ z ∈ ts, 0 ≤ z.1 ∧ z.1 < m ∧ z.2 ≠ 0 ∧ -1000000 ≤ z.2 ∧ z.2 ≤ 1000000
def numFit (m : Int) (us : List Int) : Prop := us.Nodup ∧ ∀ u ∈ us, 0 ≤ u ∧ u < m
def entFit (es : List Int) : Prop := ∀ e ∈ es, -1000 ≤ e ∧ e ≤ 1000
def linFit (m : Int) (ts : Tms) (r : Rel) (n : Int) : Prop := tmFit m ts ∧ r ≠ .ne ∧ -1000000000 ≤ n ∧ n ≤ 1000000000
def Body.fit (m : Int) : Body → Prop
  | .row ts r n => linFit m ts r n
  | .any ls => (1 ≤ ls.length ∧ ls.length ≤ 40) ∧ ls.Nodup ∧ ∀ l ∈ ls, litFit m l
  | .when l ts r n => litFit m l ∧ linFit m ts r n
  | .diff us => (2 ≤ us.length ∧ us.length ≤ 20) ∧ numFit m us
  | .table us rows => ((1 ≤ us.length ∧ us.length ≤ 6) ∧ numFit m us) ∧ (1 ≤ rows.length ∧ rows.length ≤ 200) ∧ ∀ r ∈ rows, r.length = us.length ∧ entFit r
  | .elem x es y => ((0 ≤ x ∧ x < m) ∧ (0 ≤ y ∧ y < m)) ∧ (1 ≤ es.length ∧ es.length ≤ 60) ∧ entFit es
  | .times x y z => (0 ≤ x ∧ x < m) ∧ (0 ≤ y ∧ y < m) ∧ (0 ≤ z ∧ z < m)
theorem tmFit.bd {m : Int} {ts : Tms} (h : tmFit m ts) : tmBd ts := fun z hz => by
  have q := h.2.2 z hz
  omega
theorem Body.fit_bd {m : Int} {b : Body} (h : b.fit m) : b.bd := by
  cases b with
  | row ts r n => exact ⟨h.1.bd, by have := h.1.1; omega⟩
  | any ls => exact (show ls.length ≤ 62 by have := h.1.2; omega)
  | when l ts r n => exact ⟨h.2.1.bd, by have := h.2.1.1; omega⟩
  | diff us => exact (show us.length ≤ 62 by have := h.1.2; omega)
  | table us rows => exact ⟨by have := h.1.1.2; omega, by have := h.2.1.2; omega⟩
  | elem x es y => exact (show es.length ≤ 1000 by have := h.2.1.2; omega)
  | times x y z => trivial
theorem Body.fit_vars {m : Int} {b : Body} (h : b.fit m) : ∀ v ∈ b.vars, 0 ≤ v ∧ v < m := by
  have t : ∀ ts, tmFit m ts → ∀ v ∈ ts.map (fun z : Int × Int => z.1), 0 ≤ v ∧ v < m := fun ts h v hv => by
    obtain ⟨z, hz, rfl⟩ := List.mem_map.mp hv
    have q := h.2.2 z hz
    exact ⟨q.1, q.2.1⟩
  cases b with
  | row ts r n => exact t ts h.1
  | any ls =>
    intro v hv
    obtain ⟨l, hl, rfl⟩ := List.mem_map.mp hv
    have q := h.2.2 l hl
    exact ⟨q.1, q.2.1⟩
  | when l ts r n =>
    intro v hv
    rcases List.mem_cons.mp hv with rfl | hv
    · exact ⟨h.1.1, h.1.2.1⟩
    · exact t ts h.2.1 v hv
  | diff us => exact h.2.2
  | table us rows => exact h.1.2.2
  | elem x es y =>
    intro v hv
    simp only [Body.vars, List.mem_cons, List.not_mem_nil, or_false] at hv
    rcases hv with rfl | rfl
    · exact h.1.1
    · exact h.1.2
  | times x y z =>
    intro v hv
    simp only [Body.vars, List.mem_cons, List.not_mem_nil, or_false] at hv
    rcases hv with rfl | rfl | rfl
    · exact h.1
    · exact h.2.1
    · exact h.2.2
/-- the law's terms: small -/
def tmLaw (m : Int) (ts : Tms) : Prop := (∀ z ∈ ts, 0 ≤ z.1 ∧ z.1 < m ∧ z.2 ≠ 0 ∧ -3 ≤ z.2 ∧ z.2 ≤ 3) ∧ (ts.map (·.1)).Pairwise (· < ·) ∧ (ts.length : Int) ≤ m
theorem tmLaw.fit {m : Int} {ts : Tms} (h : tmLaw m ts) (hm : m ≤ 60) : tmFit m ts := ⟨by have := h.2.2; omega, h.2.1, fun z hz => by have q := h.1 z hz; omega⟩
def spLawTerms (K : PySem.W.Frag) : Sp := fun vs H Q _ => ∃ (t c : Addr) (m : Int), vs = [.ref t, .int m] ∧ Tp t c H ∧ 0 ≤ m ∧ m ≤ 60 ∧ ∀ (p : Addr) (ts : Tms) (H' : Hp), Im K H' (.ref p) (tmD ts) → tmLaw m ts → Tp t c H' → Kp [t] H H' → Q (.ref p) H'
def spLawLiteral (K : PySem.W.Frag) : Sp := fun vs H Q _ => ∃ (t c : Addr) (m : Int), vs = [.ref t, .int m] ∧ Tp t c H ∧ 1 ≤ m ∧ m ≤ 60 ∧ ∀ (p : Addr) (l : Lit) (H' : Hp), LitAt K H' p l.v l.r l.a → litFit m l → Tp t c H' → Kp [t] H H' → Q (.ref p) H'
def spLawSome (K : PySem.W.Frag) : Sp := fun vs H Q _ => ∃ (t c : Addr) (m k : Int), vs = [.ref t, .int m, .int k] ∧ Tp t c H ∧ 0 ≤ k ∧ k ≤ m ∧ m ≤ 60 ∧ ∀ (p : Addr) (us : List Int) (H' : Hp), SqT K H' p (us.map V.int) → numFit m us → k ≤ us.length → (us.length : Int) ≤ m → Tp t c H' → Kp [t] H H' → Q (.ref p) H'
def spLawBody (K : PySem.W.Frag) : Sp := fun vs H Q _ => ∃ (t c : Addr) (m : Int), vs = [.ref t, .int m] ∧ Tp t c H ∧ 1 ≤ m ∧ m ≤ 20 ∧ ∀ (p : Addr) (b : Body) (H' : Hp), BodyAt K H' p b → b.fit m → Tp t c H' → Kp [t] H H' → Q (.ref p) H'
theorem notInDL {X : Cx} (K : PySem.W.Frag) {k : Nat} {A : Around} (r : Room k A) (h : X.K = K := by rfl) (ha : X.A = A := by rfl) : OpR X (compareOp .NotIn) (rNotInD K) := h ▸ op_notInD (by rw [ha]; exact room65 r)
theorem inDL {X : Cx} (K : PySem.W.Frag) {k : Nat} {A : Around} (r : Room k A) (h : X.K = K := by rfl) (ha : X.A = A := by rfl) : OpR X (compareOp .In) (rInD K) := h ▸ op_inD (by rw [ha]; exact room65 r)
theorem slA {X : Cx} (K : PySem.W.Frag) (h : X.K = K := by rfl) : SlR X (rSlA K) := h ▸ sl_tupA
theorem cut_to {xs : List V} {n : Nat} : cutV xs none (some (n : Int)) = xs.take n := by
  unfold cutV
  rw [HT.sIx_nat, HT.sIx_none, List.drop_zero, Nat.sub_zero]
  by_cases h : n ≤ xs.length
  · rw [Nat.min_eq_left h]
  · rw [Nat.min_eq_right (by omega), List.take_of_length_le (Nat.le_refl _), List.take_of_length_le (by omega)]
/-- t[:n] -/
theorem r_slA {K : PySem.W.Frag} {H : Hp} {Q : VK} {p : Addr} {xs : List V} {n : Nat} (h : SqT K H p xs) (q : ∀ l H2, SqT K H2 l (xs.take n) → Kp [] H H2 → Q (.ref l) H2) : rSlA K (.ref p) none (some (n : Int)) H Q := by
  refine ⟨p, xs, rfl, h, fun e => ?_, fun _ l hl => ?_⟩
  · have e2 := e.2
    rw [HT.sIx_nat] at e2
    refine q p H ?_ .refl
    rw [List.take_of_length_le (by omega)]
    exact h
  · rw [cut_to]
    exact q l _ (SqT.of upd_same) (Kp.new hl)
/-- the ints of a range -/
def rgI (a b : Int) : List Int := (List.range (b - a).toNat).map fun i => a + ((i : Nat) : Int)
theorem rgV_eq (a b : Int) : rgV a b = (rgI a b).map V.int := by
  unfold rgV rgI
  rw [List.map_map]
  rfl
theorem rgI_mem {a b k : Int} : k ∈ rgI a b ↔ a ≤ k ∧ k < b := by
  unfold rgI
  rw [List.mem_map]
  constructor
  · rintro ⟨i, hi, rfl⟩
    rw [List.mem_range] at hi
    omega
  · intro h
    exact ⟨(k - a).toNat, by rw [List.mem_range]; omega, by omega⟩
theorem rgI_asc (a b : Int) : (rgI a b).Pairwise (· < ·) := by
  unfold rgI
  rw [List.pairwise_map]
  exact List.pairwise_lt_range.imp fun {a b} h => by omega
theorem rgI_len (a b : Int) : (rgI a b).length = (b - a).toNat := by
  unfold rgI
  rw [List.length_map, List.length_range]
def lstRg (a b : Int) (H : Hp) (Q : VK) : Prop := RgOk a b ∧ ∀ q, H q = none → Q (.ref q) (upd H q (.lst (rgV a b)))
instance s_lstRg {te : St → Hp → (Int → Int → Hp → Prop) → Prop} {σ : St} {H : Hp} {Q : VK} : Stp (tLstRg te σ H Q) (te σ H fun a b H1 => lstRg a b H1 Q) := ⟨id⟩
instance s_rg1 {ta : TE} {σ : St} {H : Hp} {R : Int → Int → Hp → Prop} : Stp (tRg1 ta σ H R) (ta σ H fun x H1 => asI x fun n => R 0 n H1) := ⟨id⟩
def asI2 (x y : V) (R : Int → Int → Prop) : Prop := ∃ i j, x = .int i ∧ y = .int j ∧ R i j
instance s_asI2 {i j : Int} {R : Int → Int → Prop} : Stp (asI2 (.int i) (.int j) R) (R i j) := ⟨fun h => ⟨i, j, rfl, rfl, h⟩⟩
instance s_rg2 {ta tb : TE} {σ : St} {H : Hp} {R : Int → Int → Hp → Prop} : Stp (tRg2 ta tb σ H R) (ta σ H fun x H1 => tb σ H1 fun y H2 => asI2 x y fun i j => R i j H2) := ⟨id⟩
theorem r_lstRg {a b : Int} {H : Hp} {Q : VK} (h0 : -1000000 ≤ a ∧ a ≤ 1000000) (h1 : -1000000 ≤ b ∧ b ≤ 1000000) (q : ∀ l H2, H l = none → H2 l = some (.lst ((rgI a b).map V.int)) → Kp [] H H2 → Q (.ref l) H2) : lstRg a b H Q :=
  ⟨⟨by omega, by omega, by omega, by omega, by omega⟩, fun l hl => q l _ hl (by rw [← rgV_eq]; exact upd_same) (Kp.new hl)⟩
theorem erase_map {α β : Type} (f : α → β) : ∀ (xs : List α) (k : Nat), (xs.map f).eraseIdx k = (xs.eraseIdx k).map f
  | [], _ => rfl
  | _ :: _, 0 => rfl
  | x :: xs, k + 1 => by
    show f x :: (xs.map f).eraseIdx k = f x :: (xs.eraseIdx k).map f
    rw [erase_map f xs k]
theorem erase_perm {α : Type} : ∀ (xs : List α) (k : Nat) (y : α), xs[k]? = some y → (y :: xs.eraseIdx k).Perm xs
  | [], _, _, h => by simp at h
  | x :: xs, 0, y, h => by
    simp at h
    subst h
    exact .refl _
  | x :: xs, k + 1, y, h => by
    rw [List.getElem?_cons_succ] at h
    exact (List.Perm.swap x y (xs.eraseIdx k)).trans ((erase_perm xs k y h).cons x)
theorem some_step {base fs rs : List Int} {k : Nat} {y : Int} (h : (fs ++ rs).Perm base) (e : rs[k]? = some y) : ((fs ++ [y]) ++ rs.eraseIdx k).Perm base := by
  refine List.Perm.trans ?_ h
  rw [List.append_assoc]
  exact (erase_perm rs k y e).append_left fs

/-! ### whether a body fits -/
instance {m : Int} {l : Lit} : Decidable (litFit m l) := by unfold litFit; infer_instance
instance {es : List Int} : Decidable (entFit es) := by unfold entFit; infer_instance

def fitQ (P : Prop) (H : Hp) (Q : VK) : Prop := ∀ (r : Bool) (H' : Hp), (r = true ↔ P) → Kp [] H H' → Q (.bl r) H'
def spTmFit (K : PySem.W.Frag) : Sp := fun vs H Q _ => ∃ (p : Addr) (m : Int) (ts : Tms), vs = [.ref p, .int m] ∧ Im K H (.ref p) (tmD ts) ∧ fitQ (tmFit m ts) H Q
def spLitFit (K : PySem.W.Frag) : Sp := fun vs H Q _ => ∃ (p : Addr) (m : Int) (l : Lit), vs = [.ref p, .int m] ∧ LitAt K H p l.v l.r l.a ∧ fitQ (litFit m l) H Q
def spLinFit (K : PySem.W.Frag) : Sp := fun vs H Q _ => ∃ (p : Addr) (m n : Int) (ts : Tms) (r : Rel), vs = [.ref p, .str r.s, .int n, .int m] ∧ Im K H (.ref p) (tmD ts) ∧ fitQ (linFit m ts r n) H Q
def spDistinct (K : PySem.W.Frag) : Sp := fun vs H Q _ => ∃ (p : Addr) (m lo hi : Int) (us : List Int), vs = [.ref p, .int lo, .int hi, .int m] ∧ SqT K H p (us.map V.int) ∧ hi ≤ 60 ∧ us.length ≤ 4000 ∧ fitQ ((lo ≤ us.length ∧ us.length ≤ hi) ∧ numFit m us) H Q
def spEntries (K : PySem.W.Frag) : Sp := fun vs H Q _ => ∃ (p : Addr) (es : List Int), vs = [.ref p] ∧ SqT K H p (es.map V.int) ∧ es.length ≤ 4000 ∧ fitQ (entFit es) H Q
def spAnyFits (K : PySem.W.Frag) : Sp := fun vs H Q _ => ∃ (p : Addr) (m : Int) (ls : List Lit), vs = [.ref p, .int m] ∧ Im K H (.ref p) (litsD ls) ∧ fitQ ((Body.any ls).fit m) H Q
def spTableFits (K : PySem.W.Frag) : Sp := fun vs H Q _ => ∃ (p q : Addr) (m : Int) (us : List Int) (rows : List (List Int)), vs = [.ref p, .ref q, .int m] ∧ SqT K H p (us.map V.int) ∧ Im K H (.ref q) (rowsD rows) ∧ us.length ≤ 4000 ∧ (∀ r ∈ rows, r.length ≤ 4000) ∧ fitQ ((Body.table us rows).fit m) H Q
/-- lists short enough to be walked -/
def Body.walk : Body → Prop
  | .diff us => us.length ≤ 4000
  | .table us rows => us.length ≤ 4000 ∧ ∀ r ∈ rows, r.length ≤ 4000
  | .elem _ es _ => es.length ≤ 4000
  | _ => True
def spBodyFits (K : PySem.W.Frag) : Sp := fun vs H Q _ => ∃ (p : Addr) (m : Int) (b : Body), vs = [.ref p, .int m] ∧ BodyAt K H p b ∧ b.walk ∧ fitQ (b.fit m) H Q
theorem Body.fit_walk {m : Int} {b : Body} (h : b.fit m) : b.walk := by
  cases b with
  | diff us => exact (show us.length ≤ 4000 by have := h.1.2; omega)
  | table us rows => exact ⟨by have := h.1.1.2; omega, fun r hr => by have := (h.2.2 r hr).1; have := h.1.1.2; omega⟩
  | elem x es y => exact (show es.length ≤ 4000 by have := h.2.1.2; omega)
  | _ => trivial
theorem fst_before {m : Int} {ts : Tms} {i : Nat} {z : Int × Int} (h : tmFit m ts) (e : ts[i]? = some z) : ∀ a ∈ (ts.take i).map (fun z : Int × Int => z.1), a < z.1 := fun a ha => by
  have e2 : ts = ts.take i ++ z :: ts.drop (i + 1) := by
    obtain ⟨hi, rfl⟩ := List.getElem?_eq_some_iff.mp e
    rw [List.getElem_cons_drop, List.take_append_drop]
  have q := h.2.1
  rw [e2, List.map_append, List.pairwise_append] at q
  exact q.2.2 a ha z.1 (by simp)
/-- the literal as a key -/
def litK (l : Lit) : List Leaf := [.num l.v, .text l.r.s, .num l.a]
theorem litK_inj {a b : Lit} (h : litK a = litK b) : a = b := by
  simp only [litK, List.cons.injEq, Leaf.num.injEq, Leaf.text.injEq, and_true] at h
  obtain ⟨h1, h2, h3⟩ := h
  cases a
  cases b
  simp only at h1 h2 h3
  rw [h1, Rel.s_inj _ _ h2, h3]
theorem nodup_inj {α β : Type} {f : α → β} (hf : ∀ {a b}, f a = f b → a = b) {xs : List α} : (xs.map f).Nodup ↔ xs.Nodup := by
  unfold List.Nodup
  rw [List.pairwise_map]
  exact ⟨fun h => h.imp fun {a b} h e => h (congrArg f e), fun h => h.imp fun {a b} h e => h (hf e)⟩
/-- the places of literals -/
theorem lits_at {K : PySem.W.Frag} {H : Hp} : ∀ {xs : List V} {ls : List Lit}, ImAll K H xs (ls.map Lit.d) → ∃ ks : List (Addr × List V), xs = ks.map (fun p => V.ref p.1) ∧ (∀ p ∈ ks, SqT K H p.1 p.2 ∧ p.2.all flatV = true) ∧ ks.map (fun p => p.2.map lfV) = ls.map litK
  | _, [], .nil => ⟨[], rfl, (fun p hp => by cases hp), rfl⟩
  | _, l :: ls, .cons h a => by
    obtain ⟨ks, rfl, h2, h3⟩ := lits_at a
    obtain ⟨q, rfl, L⟩ := lit_at h
    refine ⟨(q, [.int l.v, .str l.r.s, .int l.a]) :: ks, rfl, fun p hp => ?_, by rw [List.map_cons, h3]; rfl⟩
    rcases List.mem_cons.mp hp with rfl | hp
    · exact ⟨L, rfl⟩
    · exact h2 p hp
theorem r_slT1 {K : PySem.W.Frag} {H : Hp} {Q : VK} {p : Addr} {x : V} {xs : List V} (h : SqT K H p (x :: xs)) (q : ∀ l H2, H l = none → SqT K H2 l xs → Kp [] H H2 → Q (.ref l) H2) : rSlT K (.ref p) (some 1) none H Q := by
  refine ⟨p, _, rfl, h, fun e => ?_, fun l hl => ?_⟩
  · have e1 := e.1
    have e0 : HT.sIx (x :: xs).length 0 (some ((1 : Nat) : Int)) = 0 := e1
    rw [HT.sIx_nat] at e0
    simp at e0
  · have e : cutV (x :: xs) (some 1) none = xs := by rw [cut_from (by decide)]; rfl
    rw [e]
    exact q l _ hl (SqT.of upd_same) (Kp.new hl)
theorem all_iff {α : Type} {as : List α} {f : α → Bool} {P : α → Prop} (h : ∀ a ∈ as, (f a = true ↔ P a)) : (as.map f).all id = true ↔ ∀ a ∈ as, P a := by
  rw [List.all_map, List.all_eq_true]
  exact ⟨fun g a ha => (h a ha).mp (g a ha), fun g a ha => (h a ha).mpr (g a ha)⟩
local macro_rules | `(tactic| walk_at "cg all") => `(tactic| (repeat' (first | walk_at "cg s" | ((with_reducible refine if_S ?_ ?_) <;> intro _) | ((with_reducible refine if_NS ?_ ?_) <;> intro _))))

/-! ### the law's own reading of a body -/
def spLawLit (K : PySem.W.Frag) : Sp := fun vs H Q _ => ∃ (p q : Addr) (l : Lit) (f : Pt) (dom : Int → Prop), vs = [.ref p, .ref q] ∧ LitAt K H p l.v l.r l.a ∧ PtAt K H q f dom ∧ dom l.v ∧ Q (.bl (l.h f)) H
theorem inV_ints_t (v : Int) (us : List Int) : (if false = true then !inV (.int v) (us.map V.int) else inV (.int v) (us.map V.int)) = decide (v ∈ us) := by
  rw [if_neg (by decide), inV_ints]

/-! ### a <= b <= c <= d -/
def tChain3 (r r' r2 : R2) (ta tb tc td : TE) : TE := fun σ H Q => ta σ H fun x H1 => tb σ H1 fun y H2 => r x y H2 fun z H3 => asB z fun k => iteP k (tc σ H3 fun u H4 => r' y u H4 fun z2 H5 => asB z2 fun k2 => iteP k2 (td σ H5 fun v H6 => r2 u v H6 Q) (Q (.bl false) H5)) (Q (.bl false) H3)
open PySem.Spec PyProof.Rows in
theorem pe_chain3 {X : Cx} {a b c d : Expr} {ta tb tc td : TE} {pos : Pos} {op op' op2 : CmpOp} {r r' r2 : R2} (ho : OpR X (compareOp op) r) (ho' : OpR X (compareOp op') r') (ho2 : OpR X (compareOp op2) r2) (ha : PE X a ta) (hb : PE X b tb) (hc : PE X c tc) (hd : PE X d td)
    (hm : lastMarks [op, op', op2] [b, c, d] = false := by with_unfolding_all rfl) : PE X (.Compare a [op, op', op2] [b, c, d] pos) (tChain3 r r' r2 ta tb tc td) := by
  refine ⟨fun pins s σ H Q I h => ?_⟩
  refine Compare_chain (thn (ha.run pins s σ H _ I h) fun v s1 ⟨x, H1, I1, r1, q1⟩ => chain_link (thn (hb.run pins s1 σ H1 _ I1 q1) fun u s2 ⟨y, H2, I2, w2, q2⟩ =>
    thn (ho pins s2 σ H2 x y v u _ I2 r1 w2 q2) fun z0 s3 ⟨z, H3, I3, r3, k, e, q3⟩ => ?_)) hm
  subst e
  cases r3
  refine wpAny_truthy_bool ?_
  cases k with
  | false => exact ite_ff ⟨.bl false, H3, I3, rfl, q3⟩
  | true =>
    refine ite_tt (chain_link (thn (hc.run pins s3 σ H3 _ I3 q3) fun v4 s4 ⟨y4, H4, I4, r4, q4⟩ => thn (ho' pins s4 σ H4 y y4 u v4 _ I4 w2 r4 q4) fun z5 s5 ⟨z6, H5, I5, r5, k2, e2, q5⟩ => ?_))
    subst e2
    cases r5
    refine wpAny_truthy_bool ?_
    cases k2 with
    | false => exact ite_ff ⟨.bl false, H5, I5, rfl, q5⟩
    | true => exact ite_tt (chain_last (thn (hd.run pins s5 σ H5 _ I5 q5) fun v7 s7 ⟨y7, H7, I7, r7, q7⟩ => ho2 pins s7 σ H7 y4 y7 v4 v7 Q I7 r4 r7 q7))
instance s_chain3 {r r' r2 : R2} {ta tb tc td : TE} {σ : St} {H : Hp} {Q : VK} : Stp (tChain3 r r' r2 ta tb tc td σ H Q) (ta σ H fun x H1 => tb σ H1 fun y H2 => r x y H2 fun z H3 => asB z fun k => iteP k (tc σ H3 fun u H4 => r' y u H4 fun z2 H5 => asB z2 fun k2 => iteP k2 (td σ H5 fun v H6 => r2 u v H6 Q) (Q (.bl false) H5)) (Q (.bl false) H3)) := ⟨id⟩
/-! ### own classes -/
structure IsM (P : Program) (w : World) (K : PySem.W.Frag) (mg : Str → Option Value) (base : Heap) (CX : CXT) (k : Nat) (C : Addr) (m : Str) (ps : List Str) (sp : Sp) : Prop where
  ex : ∃ (f : Addr) (fd : FuncData), FnOk P w K mg base CX k f fd ps sp ∧ Meth K C m f ∧ Binds K fd ps []
  cl : Cls K C
structure IsI (P : Program) (w : World) (K : PySem.W.Frag) (mg : Str → Option Value) (base : Heap) (CX : CXT) (k : Nat) (C : Addr) (x : Str) (ps : List Str) (sp : Sp) : Prop where
  ex : ∃ (f : Addr) (fd : FuncData), FnOk P w K mg base CX k f fd ps sp ∧ Mk K C f ∧ Binds K fd ps [] ∧ mg x = some (.ref C)
def mtS (C : Addr) (m : Str) (x : V) (H : Hp) (R : Prop) : Prop := ∃ a dx fs, x = .ref a ∧ H a = some (.ins C dx fs) ∧ fs.lookup m = none ∧ R
def mkS (C : Addr) (sp : Sp) (E : XK) (vs : List V) (H1 : Hp) (Q : VK) : Prop := ∀ x dx, H1 x = none → H1 dx = none → dx ≠ x → sp (.ref x :: (vs ++ [])) (upd (upd H1 dx (.own x)) x (.ins C dx [])) (fun v H2 => v = .non ∧ Q (.ref x) H2) E
def fldS (K : PySem.W.Frag) (f : Str) (x : V) (H : Hp) (Q : VK) : Prop := ∃ a C dx fs v, x = .ref a ∧ H a = some (.ins C dx fs) ∧ Cls K C ∧ NoAttr K C f ∧ fs.lookup f = some v ∧ Q v H
def setF (K : PySem.W.Frag) (f : Str) (x y : V) (H2 : Hp) (R : Hp → Prop) : Prop := ∃ a C dx fs, x = .ref a ∧ H2 a = some (.ins C dx fs) ∧ Cls K C ∧ NoAttr K C f ∧ fs.length < 1000 ∧ R (upd H2 a (.ins C dx (putF f y fs)))
def newD (H : Hp) (Q : VK) : Prop := ∀ p, H p = none → Q (.ref p) (upd H p (.dK []))
def inDk (x y : V) (H : Hp) (Q : VK) : Prop := ∃ a o, x = .ref a ∧ DGet H a y o ∧ Q (.bl o.isSome) H
def putD (x y v : V) (H3 : Hp) (R : Hp → Prop) : Prop := ∃ a H4, x = .ref a ∧ DPut H3 a y v H4 ∧ R H4
section
variable {K : PySem.W.Frag} {C : Addr} {m f : Str} {sp : Sp} {E : XK} {ta tv td ty : TE} {t : TA} {σ : St} {H : Hp} {Q : VK} {a dx : Addr} {fs : List (Str × V)} {v x y : V} {nx bk ct : St → Hp → Prop} {rt : VK} {R : Hp → Prop}
instance s_meth : Stp (tMeth C m sp [] E ta t σ H Q) (ta σ H fun x H1 => mtS C m x H1 (t σ H1 fun vs H2 => sp (x :: vs) H2 Q E)) := ⟨fun h => by
  unfold tMeth
  simp only [List.append_nil]
  exact h⟩
theorem r_mt {R : Prop} (h : H a = some (.ins C dx fs)) (l : fs.lookup m = none) (q : R) : mtS C m (.ref a) H R := ⟨a, dx, fs, rfl, h, l, q⟩
instance s_make : Stp (tMake C sp [] E t σ H Q) (t σ H fun vs H1 => mkS C sp E vs H1 Q) := ⟨id⟩
theorem r_make {vs : List V} (q : ∀ x dx H2, H x = none → H2 x = some (.ins C dx []) → Kp [] H H2 → sp (.ref x :: vs) H2 (fun v H3 => v = .non ∧ Q (.ref x) H3) E) : mkS C sp E vs H Q := fun x dx nx ndx ne => by
  rw [List.append_nil]
  exact q x dx _ nx upd_same ⟨fun b o _ h => by rw [upd_ne (ne_of_none h nx), upd_ne (ne_of_none h ndx)]; exact h, fun _ h => nomatch h⟩
instance s_fld : Stp (tFld K ta f σ H Q) (ta σ H fun x H1 => fldS K f x H1 Q) := ⟨id⟩
theorem r_fld (h : H a = some (.ins C dx fs)) (c : Cls K C) (n : NoAttr K C f) (l : fs.lookup f = some v) (q : Q v H) : fldS K f (.ref a) H Q := ⟨a, C, dx, fs, v, rfl, h, c, n, l, q⟩
instance s_sfld : Stp (sFld K ta tv f ⟨nx, rt, bk, ct⟩ σ H) (tv σ H fun y H1 => ta σ H1 fun x H2 => setF K f x y H2 fun H3 => nx σ H3) := ⟨id⟩
theorem r_setF (h : H a = some (.ins C dx fs)) (c : Cls K C) (n : NoAttr K C f) (few : fs.length < 1000) (q : ∀ H2, H2 a = some (.ins C dx (putF f y fs)) → Kp [a] H H2 → R H2) : setF K f (.ref a) y H R :=
  ⟨a, C, dx, fs, rfl, h, c, n, few, q _ upd_same (Kp.put h trivial)⟩
instance s_dnew : Stp (tDNewK σ H Q) (newD H Q) := ⟨id⟩
theorem r_newD (q : ∀ p H2, H p = none → H2 p = some (.dK []) → Kp [] H H2 → Q (.ref p) H2) : newD H Q := fun p hp => q p _ hp upd_same (Kp.new hp)
instance s_dIn : Stp (tDIn ty td σ H Q) (ty σ H fun y H1 => td σ H1 fun x H2 => inDk x y H2 Q) := ⟨id⟩
theorem r_inDk {kvs : List (Key × V)} {k : Key} {o : Option V} (h : H a = some (.dK kvs)) (e : valV kvs k = o) (q : Q (.bl o.isSome) H) : inDk (.ref a) (kV k) H Q := ⟨a, o, rfl, e ▸ DGet.k h, q⟩
theorem r_inDk0 {kvs : List (Key × V)} {k : Key} (h : H a = some (.dK kvs)) (e : valV kvs k = none) (q : Q (.bl false) H) : inDk (.ref a) (kV k) H Q := r_inDk h e q
theorem r_inDk1 {kvs : List (Key × V)} {k : Key} {w : V} (h : H a = some (.dK kvs)) (e : valV kvs k = some w) (q : Q (.bl true) H) : inDk (.ref a) (kV k) H Q := r_inDk h e q
instance s_dPut : Stp (sDPut td ty tv ⟨nx, rt, bk, ct⟩ σ H) (tv σ H fun v H1 => td σ H1 fun x H2 => ty σ H2 fun y H3 => putD x y v H3 fun H4 => nx σ H4) := ⟨id⟩
theorem r_putD {kvs : List (Key × V)} {k : Key} (h : H a = some (.dK kvs)) (few : kvs.length ≤ 10000) (q : ∀ H2, H2 a = some (.dK (putK kvs k v)) → Kp [a] H H2 → R H2) : putD (.ref a) (kV k) v H R :=
  ⟨a, _, rfl, DPut.k h (small1e4 few), q _ upd_same (Kp.put h trivial)⟩
theorem not_valV {κ : Type} [DecidableEq κ] {kvs : List (κ × V)} {k : κ} (h : ¬ k ∈ kvs.map (·.1)) : valV kvs k = none := by
  cases e : valV kvs k with
  | none => rfl
  | some v => exact absurd (valV_in e) h
end
/-! ### texts -/
section
variable {s : Str} {σ : St} {H : Hp} {g : TG} {tb : TS} {nx bk ct : St → Hp → Prop} {rt : VK} {te : TE} {R : It → Hp → Prop} {Q : VK}
def isS (x : V) (H : Hp) (R : It → Hp → Prop) : Prop := ∃ z, x = .str z ∧ R (Its z) H
instance s_iStr : Stp (iStr te σ H R) (te σ H fun x H1 => isS x H1 R) := ⟨id⟩
instance s_isS : Stp (isS (.str s) H R) (R (Its s) H) := ⟨fun h => ⟨s, rfl, h⟩⟩
theorem r_forS (Pv : Nat → St → Hp → Prop) (h0 : Pv 0 σ H) (hs : ∀ (i c : Nat) σ' H', s.cps[i]? = some c → Pv i σ' H' → g (.str ⟨#[c]⟩) σ' H' fun σ2 H2 => tb ⟨Pv (i + 1), rt, nx, Pv (i + 1)⟩ σ2 H2)
    (hd : ∀ σ' H', Pv s.cps.size σ' H' → nx σ' H') : forS (Its s) g tb ⟨nx, rt, bk, ct⟩ σ H :=
  for_it walk_str Pv h0 (fun _ _ _ _ _ => trivial) (fun i x σ' H1 H2 hi h y => by obtain ⟨rfl, c, hc, rfl⟩ := y; exact hs i c σ' _ hc h) hd
def rLenS : List V → Hp → VK → Prop := fun xs H Q => ∃ z, xs = [.str z] ∧ z.length ≤ sizeLine ∧ Q (.int z.length) H
theorem cg_lenS {X : Cx} : CallR X (.builtin "len") rLenS := call_len_str
theorem r_lenS (h : s.length ≤ 10000) (q : Q (.int s.length) H) : rLenS [.str s] H Q := ⟨s, rfl, by rw [sizeLine_eq]; omega, q⟩
def rSgnNot : R2 := fun x y H Q => ∃ (c : Nat) (z : Str), x = .str ⟨#[c]⟩ ∧ y = .str z ∧ Q (.bl (!decide (c ∈ z.cps.toList))) H
theorem op_sgnNot {X : Cx} : OpR X (compareOp .NotIn) rSgnNot := op_notIn_sign
instance s_sgnNot {c : Nat} {z : Str} : Stp (rSgnNot (.str ⟨#[c]⟩) (.str z) H Q) (Q (.bl (!decide (c ∈ z.cps.toList))) H) := ⟨fun h => ⟨c, z, rfl, rfl, h⟩⟩
theorem r_ixS {i : Int} {c : Nat} (h : s.length ≤ 10000) (e : atI s.cps.toList i = some c) (q : Q (.str ⟨#[c]⟩) H) : rIxS (.str s) (.int i) H Q := ⟨s, i, c, rfl, rfl, by rw [sizeLine_eq]; omega, e, q⟩
end
/-! ### labels -/
def lettersS : Str := Str.ofString "abcdefghijklmnopqrstuvwxyz"
def digitsS : Str := Str.ofString "0123456789"
def sgnOk (c : Nat) : Bool := decide (c ∈ lettersS.cps.toList) || decide (c ∈ digitsS.cps.toList)
def labelB (s : Str) : Bool := decide (1 ≤ s.length) && decide (s.length ≤ 20) && (match s.cps.toList with | [] => false | c :: _ => decide (c ∈ lettersS.cps.toList)) && s.cps.toList.all sgnOk
def spLabel : Sp := fun vs H Q _ => ∃ s : Str, vs = [.str s] ∧ s.length ≤ 10000 ∧ Q (.bl (labelB s)) H

/-! ### models -/
structure Goal where
  mx : Bool
  ts : Tms
  c : Int
def senseS (b : Bool) : Str := if b then Str.ofString "max" else Str.ofString "min"
def Goal.d (g : Goal) : PyData := .tuple [.str (senseS g.mx), tmD g.ts, .int g.c]
structure Mdl where
  us : List (Str × Int × Int)
  bs : List (Str × Body)
  g : Goal
def unD (u : Str × Int × Int) : PyData := .tuple [.str u.1, .int u.2.1, .int u.2.2]
structure MA where
  p : Addr
  n : Addr
  l : Addr
  h : Addr
  b : Addr
def MA.all (a : MA) : List Addr := [a.p, a.n, a.l, a.h, a.b]
structure MFs (fs : List (Str × V)) (a : MA) (g : V) : Prop where
  nm : fs.lookup (Str.ofString "_names") = some (.ref a.n)
  lo : fs.lookup (Str.ofString "_lows") = some (.ref a.l)
  hi : fs.lookup (Str.ofString "_highs") = some (.ref a.h)
  bo : fs.lookup (Str.ofString "_bodies") = some (.ref a.b)
  go : fs.lookup (Str.ofString "_goal") = some g
  le : fs.length ≤ 10
  no : ∀ m : Str, ¬ m = "_names" → ¬ m = "_lows" → ¬ m = "_highs" → ¬ m = "_bodies" → ¬ m = "_goal" → fs.lookup m = none
theorem putF_len (f : Str) (v w : V) : ∀ fs : List (Str × V), fs.lookup f = some w → (putF f v fs).length = fs.length
  | [], h => by simp at h
  | (x, y) :: fs, h => by
    show (if x = f then (x, v) :: fs else (x, y) :: putF f v fs).length = _
    by_cases e : x = f
    · rw [if_pos e]
      rfl
    · rw [if_neg e, List.length_cons, List.length_cons, putF_len f v w fs (by
        rw [List.lookup_cons] at h
        have : (f == x) = false := beq_false_of_ne (fun z => e z.symm)
        rw [this] at h
        exact h)]
theorem putF_le (f : Str) (v : V) : ∀ fs : List (Str × V), (putF f v fs).length ≤ fs.length + 1
  | [] => Nat.le_refl _
  | (x, y) :: fs => by
    show (if x = f then (x, v) :: fs else (x, y) :: putF f v fs).length ≤ _
    by_cases e : x = f
    · rw [if_pos e]
      simp
    · rw [if_neg e, List.length_cons, List.length_cons]
      have := putF_le f v fs
      omega
theorem MFs.goal {fs : List (Str × V)} {a : MA} {g g' : V} (h : MFs fs a g) : MFs (putF (Str.ofString "_goal") g' fs) a g' := by
  have l : ∀ m : Str, ¬ m = Str.ofString "_goal" → (putF (Str.ofString "_goal") g' fs).lookup m = fs.lookup m := fun m hm => by rw [lookup_putF, if_neg hm]
  exact ⟨(l _ (by decide +kernel)).trans h.nm, (l _ (by decide +kernel)).trans h.lo, (l _ (by decide +kernel)).trans h.hi, (l _ (by decide +kernel)).trans h.bo, by rw [lookup_putF, if_pos rfl], by rw [putF_len _ _ _ _ h.go]; exact h.le,
    fun m h1 h2 h3 h4 h5 => (l m h5).trans (h.no m h1 h2 h3 h4 h5)⟩
def fs3 (n l h : Addr) : List (Str × V) := putF (Str.ofString "_highs") (.ref h) (putF (Str.ofString "_lows") (.ref l) (putF (Str.ofString "_names") (.ref n) []))
theorem fs3_nm (n l h : Addr) : (fs3 n l h).lookup (Str.ofString "_names") = some (.ref n) := by
  unfold fs3
  rw [lookup_putF, if_neg (by decide +kernel), lookup_putF, if_neg (by decide +kernel), lookup_putF, if_pos rfl]
theorem fs3_lo (n l h : Addr) : (fs3 n l h).lookup (Str.ofString "_lows") = some (.ref l) := by
  unfold fs3
  rw [lookup_putF, if_neg (by decide +kernel), lookup_putF, if_pos rfl]
theorem fs3_hi (n l h : Addr) : (fs3 n l h).lookup (Str.ofString "_highs") = some (.ref h) := by
  unfold fs3
  rw [lookup_putF, if_pos rfl]
theorem fs3_len (n l h : Addr) : (fs3 n l h).length ≤ 3 := by
  unfold fs3
  refine Nat.le_trans (putF_le _ _ _) (Nat.succ_le_succ (Nat.le_trans (putF_le _ _ _) (Nat.succ_le_succ (putF_le _ _ _))))
theorem MFs.new {p n l h b : Addr} {g : V} : MFs (putF (Str.ofString "_goal") g (putF (Str.ofString "_bodies") (.ref b) (fs3 n l h))) ⟨p, n, l, h, b⟩ g := by
  have k : ∀ m : Str, ¬ m = Str.ofString "_goal" → ¬ m = Str.ofString "_bodies" → (putF (Str.ofString "_goal") g (putF (Str.ofString "_bodies") (.ref b) (fs3 n l h))).lookup m = (fs3 n l h).lookup m := fun m h1 h2 => by rw [lookup_putF, if_neg h1, lookup_putF, if_neg h2]
  refine ⟨(k _ (by decide +kernel) (by decide +kernel)).trans (fs3_nm n l h), (k _ (by decide +kernel) (by decide +kernel)).trans (fs3_lo n l h), (k _ (by decide +kernel) (by decide +kernel)).trans (fs3_hi n l h), by rw [lookup_putF, if_neg (by decide +kernel), lookup_putF, if_pos rfl], by rw [lookup_putF, if_pos rfl], ?_, fun m h1 h2 h3 h4 h5 => ?_⟩
  · have a1 := putF_le (Str.ofString "_goal") g (putF (Str.ofString "_bodies") (.ref b) (fs3 n l h))
    have a2 := putF_le (Str.ofString "_bodies") (.ref b) (fs3 n l h)
    have a3 := fs3_len n l h
    omega
  · rw [k m h5 h4]
    unfold fs3
    rw [lookup_putF, if_neg h3, lookup_putF, if_neg h2, lookup_putF, if_neg h1]
    rfl
/-- a model stands at a -/
structure MdlAt (K : PySem.W.Frag) (C : Addr) (H : Hp) (a : MA) (M : Mdl) : Prop where
  ob : ∃ dx fs g, H a.p = some (.ins C dx fs) ∧ MFs fs a g ∧ Im K H g M.g.d
  nm : H a.n = some (.lst (M.us.map fun u => V.str u.1))
  lo : H a.l = some (.lst (M.us.map fun u => V.int u.2.1))
  hi : H a.h = some (.lst (M.us.map fun u => V.int u.2.2))
  bo : ∃ kvs : List (Key × V), H a.b = some (.dK kvs) ∧ kvs.map (fun z => z.1) = M.bs.map (fun b => Sum.inr b.1) ∧ ImAll K H (kvs.map (fun z => z.2)) (M.bs.map fun b => b.2.d)
  ne : a.n ≠ a.l ∧ a.n ≠ a.h ∧ a.l ≠ a.h
section
variable {K : PySem.W.Frag} {C : Addr} {H H' : Hp} {a : MA} {M : Mdl} {S : List Addr}
theorem MdlAt.kp (k : Kp S H H') (h : MdlAt K C H a M) (d : ∀ x ∈ a.all, ¬ x ∈ S) : MdlAt K C H' a M := by
  obtain ⟨dx, fs, g, h1, h2, h3⟩ := h.ob
  obtain ⟨kvs, h4, h5, h6⟩ := h.bo
  exact ⟨⟨dx, fs, g, k.get (d _ (by simp [MA.all])) h1, h2, k.im h3⟩, k.get (d _ (by simp [MA.all])) h.nm, k.get (d _ (by simp [MA.all])) h.lo, k.get (d _ (by simp [MA.all])) h.hi, ⟨kvs, k.get (d _ (by simp [MA.all])) h4, h5, k.imAll h6⟩, h.ne⟩
theorem MdlAt.kp0 (k : Kp [] H H') (h : MdlAt K C H a M) : MdlAt K C H' a M := h.kp k fun _ _ z => nomatch z
/-- none of its places is one of these -/
def offA (a : MA) (t : Addr) : Prop := ∀ x ∈ a.all, x ≠ t
theorem MdlAt.kp1 {t : Addr} (k : Kp [t] H H') (h : MdlAt K C H a M) (n : offA a t) : MdlAt K C H' a M := h.kp k fun x hx z => n x hx (by simpa using z)
end
/-- what a model takes -/
def unOk (u : Str × Int × Int) : Prop := labelB u.1 = true ∧ u.1.length ≤ 10000 ∧ -1000 ≤ u.2.1 ∧ u.2.1 ≤ u.2.2 ∧ u.2.2 ≤ 1000
def Goal.fit (m : Int) (g : Goal) : Prop := tmFit m g.ts ∧ -1000000000 ≤ g.c ∧ g.c ≤ 1000000000
def goal0 : Goal := ⟨true, [], 0⟩
def spBounds : Sp := fun vs H Q _ => ∃ lo hi : Int, vs = [.int lo, .int hi] ∧ Q (.bl (decide (-1000 ≤ lo) && (decide (lo ≤ hi) && decide (hi ≤ 1000)))) H
def spInit (K : PySem.W.Frag) (C : Addr) : Sp := fun vs H Q _ => ∃ (p l dx : Addr) (refs : List V) (us : List (Str × Int × Int)), vs = [.ref p, .ref l] ∧ H p = some (.ins C dx []) ∧ H l = some (.lst refs) ∧ ImAll K H refs (us.map unD) ∧ 1 ≤ us.length ∧ us.length ≤ 60 ∧
  (∀ u ∈ us, unOk u) ∧ (us.map (·.1)).Nodup ∧ ∀ (a : MA) (H' : Hp), a.p = p → MdlAt K C H' a ⟨us, [], goal0⟩ → (∀ x ∈ a.all, x = p ∨ H x = none) → Kp [p] H H' → Q .non H'
def spPut (K : PySem.W.Frag) (C : Addr) : Sp := fun vs H Q _ => ∃ (a : MA) (s : Str) (pb : Addr) (b : Body) (M : Mdl), vs = [.ref a.p, .str s, .ref pb] ∧ MdlAt K C H a M ∧ labelB s = true ∧ s.length ≤ 10000 ∧ ¬ s ∈ M.bs.map (·.1) ∧ BodyAt K H pb b ∧ b.fit M.us.length ∧ M.bs.length < 200 ∧
  ∀ H', MdlAt K C H' a ⟨M.us, M.bs ++ [(s, b)], M.g⟩ → Kp [a.b] H H' → Q .non H'
def spAim (K : PySem.W.Frag) (C : Addr) : Sp := fun vs H Q _ => ∃ (a : MA) (pg : Addr) (g : Goal) (M : Mdl), vs = [.ref a.p, .ref pg] ∧ MdlAt K C H a M ∧ Im K H (.ref pg) g.d ∧ g.fit M.us.length ∧ ∀ H', MdlAt K C H' a ⟨M.us, M.bs, g⟩ → Kp [a.p] H H' → Q .non H'
theorem goal_at {K : PySem.W.Frag} {H : Hp} {x : V} {g : Goal} (h : Im K H x g.d) : ∃ p q, x = .ref p ∧ SqT K H p [.str (senseS g.mx), .ref q, .int g.c] ∧ Im K H (.ref q) (tmD g.ts) := by
  obtain ⟨p, rfl⟩ := Im.isRef h
  obtain ⟨_, h1, h2⟩ := Im.open h
  obtain ⟨_, _, rfl, a1, h2⟩ := h2.c
  obtain ⟨_, _, rfl, a2, h2⟩ := h2.c
  obtain ⟨_, _, rfl, a3, h2⟩ := h2.c
  obtain rfl := h2.n
  obtain ⟨q, rfl⟩ := a2.isRef
  cases a1; cases a3
  exact ⟨p, q, rfl, h1, a2⟩
theorem un_at {K : PySem.W.Frag} {H : Hp} {x : V} {u : Str × Int × Int} (h : Im K H x (unD u)) : ∃ p, x = .ref p ∧ SqT K H p [.str u.1, .int u.2.1, .int u.2.2] := by
  obtain ⟨p, rfl⟩ := Im.isRef h
  exact ⟨p, rfl, Im.sq h rfl⟩
theorem flat_strs (us : List Str) : (us.map V.str).all flatV = true := by
  rw [List.all_map]
  exact List.all_eq_true.mpr fun x _ => rfl
theorem inV_strs (v : Str) (us : List Str) : inV (.str v) (us.map V.str) = decide (v ∈ us) := by
  unfold inV
  rw [List.any_map]
  induction us with
  | nil => rfl
  | cons u us ih =>
    have e : ((fun y => eqV y (.str v)) ∘ V.str) u = decide (v = u) := by
      show (u == v) = decide (v = u)
      rw [Bool.eq_iff_iff, beq_iff_eq, decide_eq_true_eq]
      exact eq_comm
    rw [List.any_cons, ih, e, Bool.eq_iff_iff]
    simp only [Bool.or_eq_true, decide_eq_true_eq, List.mem_cons]
def mOk (m : Str) : Bool := decide (¬ m = Str.ofString "_names") && decide (¬ m = Str.ofString "_lows") && decide (¬ m = Str.ofString "_highs") && decide (¬ m = Str.ofString "_bodies") && decide (¬ m = Str.ofString "_goal")
/-- a method of a model is called -/
theorem r_mtM {K : PySem.W.Frag} {C : Addr} {H : Hp} {a : MA} {M : Mdl} {m : Str} {R : Prop} (h : MdlAt K C H a M) (n : mOk m = true) (q : R) : mtS C m (.ref a.p) H R := by
  obtain ⟨dx, fs, g, h1, h2, _⟩ := h.ob
  unfold mOk at n
  simp only [Bool.and_eq_true, decide_eq_true_eq] at n
  exact r_mt h1 (h2.no m n.1.1.1.1 n.1.1.1.2 n.1.1.2 n.1.2 n.2) q
local macro_rules | `(tactic| walk_at "cg h") => `(tactic| (first
  | ((with_reducible show MdlAt _ _ _ _ _); exact MdlAt.kp0 (by assumption) (by walk_at "cg h"))
  | ((with_reducible show MdlAt _ _ _ _ _); exact MdlAt.kp1 (by assumption) (by walk_at "cg h") (by assumption))
  | fail))
local macro_rules | `(tactic| walk_at "cg h") => `(tactic| assumption)
local macro_rules | `(tactic| walk_at "cg s") => `(tactic| (first
  | ((with_reducible apply r_fld); (focus (walk_at "cg h")); (focus assumption); (focus assumption); (focus assumption))
  | ((with_reducible apply r_mt); (focus (walk_at "cg h")); (focus assumption))
  | ((with_reducible apply r_newD); intro _ _ _ _ _)
  | ((with_reducible apply r_setF); (focus (walk_at "cg h")); (focus assumption); (focus assumption); (focus (first | assumption | exact Nat.lt_of_sub_pos (by decide) | omega)); intro _ _ _)
  | fail))
local macro_rules | `(tactic| walk_at "cg s") => `(tactic| ((with_reducible apply r_mtM); (focus (walk_at "cg h")); (focus (decide +kernel))))

/-! ### the law's own world -/
section
variable {σ σ0 : St} {H : Hp} {K : PySem.W.Frag} {p : Addr} {xs : List V} {g : TG} {tt : TT} {te : TE} {vs : List Nat} {Q : VK} {n : Nat} {lo : Int} {α : Type} {as : List α} {d : α → PyData} {t c : Addr}
/-- .. one for each item of a list -/
theorem lcL_d {β : Type} {bs : List β} {e : β → PyData} [hw : Wip σ vs σ0] (s : H p = some (.lst xs)) (np : p ≠ t) (ib : ImAll K H xs (bs.map e)) (d : α → PyData) (Pr : β → α → Prop) (T : Tp t c H) (small : bs.length ≤ 10000)
    (hs : ∀ (i : Nat) (b : β) (x : V) (H' : Hp) (R : V → Hp → Prop) (R' : Hp → Prop), bs[i]? = some b → Im K H' x (e b) → Tp t c H' → Kp [t] H H' → (∀ y H4 a, Pr b a → Im K H4 y (d a) → Tp t c H4 → Kp [t] H' H4 → R y H4) → lcTurn g tt te vs σ σ0 x H' R R')
    (hd : ∀ D H' acc (as : List α), H D = none → H' D = some (.lst acc) → as.length = bs.length → (∀ (i : Nat) a, as[i]? = some a → ∃ b, bs[i]? = some b ∧ Pr b a) → ImAll K H' acc (as.map d) → Tp t c H' → Kp [t] H H' → Q (.ref D) H') : lcS (Itl K p) g tt te vs σ H Q := by
  have hxl := mapLenP ib
  refine r_lcL xs (fun D i H' => Kp [t] H H' ∧ H D = none ∧ Tp t c H' ∧ ∃ (acc : List V) (as : List α), H' D = some (.lst acc) ∧ as.length = i ∧ (∀ (i : Nat) a, as[i]? = some a → ∃ b, bs[i]? = some b ∧ Pr b a) ∧ ImAll K H' acc (as.map d))
    (fun D H2 hD e2 k2 => ⟨Kp.tr0 k2 (Tp.base T), hD, Tp.kp0 k2 T, [], [], e2, rfl, (fun i a h => by simp at h), .nil⟩) (fun D i H' h => h.1.get1 np s) ?_ ?_
  · rintro D i x H' hx ⟨k2, hD, T2, acc, as, eD, hl, hP, hA⟩
    obtain ⟨b, hb, hxd⟩ := mapGetP (k2.imAll ib) hx
    have hi : i < bs.length := (List.getElem?_eq_some_iff.mp hb).1
    have nt : D ≠ t := Tp.nef hD T
    have nc : D ≠ c := Tp.nefc hD T
    have hal : acc.length = i := by rw [hA.length, List.length_map, hl]
    refine hs i b x H' _ _ hb hxd T2 k2 fun y H4 a ha hy T4 k4 => ?_
    refine r_ap (k4.get1 nt eD) (small1e4 (by omega)) fun H5 e5 k5 => ⟨Kp.trN k5 (Kp.tr1 k4 k2) hD, hD, Tp.kp1 k5 T4 nt.symm nc.symm, _, as ++ [a], e5, by simp [hl], fun j b' hb' => ?_, ?_⟩
    · rcases Nat.lt_or_ge j as.length with h | h
      · rw [List.getElem?_append_left h] at hb'
        exact hP j b' hb'
      · rw [List.getElem?_append_right h] at hb'
        have e0 : j - as.length = 0 := by
          have := (List.getElem?_eq_some_iff.mp hb').1
          simp at this
          omega
        rw [e0] at hb'
        simp at hb'
        subst hb'
        rw [show j = i by omega]
        exact ⟨b, hb, ha⟩
    · rw [List.map_append]
      exact (k5.imAll (k4.imAll hA)).snoc (k5.im hy)
  · rintro D H' ⟨k2, hD, T2, acc, as, eD, hl, hP, hA⟩
    exact hd D H' acc as hD eD (by rw [hl, hxl]) hP hA T2 k2
end
def labD (b : Str × Body) : PyData := .tuple [.str b.1, b.2.d]
structure Mdl.ok (M : Mdl) : Prop where
  n0 : 1 ≤ M.us.length
  n1 : M.us.length ≤ 60
  un : ∀ u ∈ M.us, unOk u
  nd : (M.us.map (·.1)).Nodup
  lb : ∀ b ∈ M.bs, labelB b.1 = true ∧ b.1.length ≤ 10000
  ln : (M.bs.map (·.1)).Nodup
  bf : ∀ b ∈ M.bs, b.2.fit M.us.length
  nb : M.bs.length ≤ 200
  gf : M.g.fit M.us.length
def nmS : Nat → Str
  | 0 => Str.ofString "x"
  | 1 => Str.ofString "y"
  | 2 => Str.ofString "z"
  | 3 => Str.ofString "u"
  | _ => Str.ofString "w"
def labC (k : Int) : Str := Str.ofString "c" ++ ((toString k : String) : Str)
/-- the drawn ones are small -/
structure Mdl.sm (M : Mdl) (most width bodies : Int) : Prop where
  n : (M.us.length : Int) ≤ most
  u : ∀ u ∈ M.us, -2 ≤ u.2.1 ∧ u.2.1 ≤ 2 ∧ u.2.2 < u.2.1 + width
  b : (M.bs.length : Int) ≤ bodies
  g : tmLaw M.us.length M.g.ts ∧ -2 ≤ M.g.c ∧ M.g.c ≤ 2
  l : ∀ b ∈ M.bs, ∃ k : Int, 0 ≤ k ∧ k < 10 ∧ b.1 = labC k
  nm : ∀ u ∈ M.us, ∃ i : Nat, i < 5 ∧ u.1 = nmS i
structure WA where
  w : Addr
  u : Addr
  f : Addr
def WA.all (a : WA) : List Addr := [a.w, a.u, a.f]
structure WorldAt (K : PySem.W.Frag) (H : Hp) (a : WA) (M : Mdl) : Prop where
  w : ∃ pg, H a.w = some (.lst [.ref a.u, .ref a.f, .ref pg]) ∧ Im K H (.ref pg) M.g.d
  u : ∃ refs, H a.u = some (.lst refs) ∧ ImAll K H refs (M.us.map unD)
  f : ∃ refs, H a.f = some (.lst refs) ∧ ImAll K H refs (M.bs.map labD)
  d : a.w ≠ a.u ∧ a.w ≠ a.f
section
variable {K : PySem.W.Frag} {C : Addr} {H H' : Hp} {a : WA} {M : Mdl} {S : List Addr}
theorem WorldAt.kp (k : Kp S H H') (h : WorldAt K H a M) (d : ∀ x ∈ a.all, ¬ x ∈ S) : WorldAt K H' a M := by
  obtain ⟨pg, h1, h2⟩ := h.w
  obtain ⟨r1, h3, h4⟩ := h.u
  obtain ⟨r2, h5, h6⟩ := h.f
  exact ⟨⟨pg, k.get (d _ (by simp [WA.all])) h1, k.im h2⟩, ⟨r1, k.get (d _ (by simp [WA.all])) h3, k.imAll h4⟩, ⟨r2, k.get (d _ (by simp [WA.all])) h5, k.imAll h6⟩, h.d⟩
theorem WorldAt.kp0 (k : Kp [] H H') (h : WorldAt K H a M) : WorldAt K H' a M := h.kp k fun _ _ z => nomatch z
def offW (a : WA) (t : Addr) : Prop := ∀ x ∈ a.all, x ≠ t
theorem WorldAt.kp1 {t : Addr} (k : Kp [t] H H') (h : WorldAt K H a M) (n : offW a t) : WorldAt K H' a M := h.kp k fun x hx z => n x hx (by simpa using z)
end
def spWorld (K : PySem.W.Frag) : Sp := fun vs H Q _ => ∃ (t c : Addr) (most width bodies : Int), vs = [.ref t, .int most, .int width, .int bodies] ∧ Tp t c H ∧ 1 ≤ most ∧ most ≤ 5 ∧ 1 ≤ width ∧ width ≤ 900 ∧ 0 ≤ bodies ∧ bodies ≤ 9 ∧
  ∀ (a : WA) (M : Mdl) (H' : Hp), WorldAt K H' a M → M.ok → M.sm most width bodies → (∀ x ∈ a.all, H x = none) → Tp t c H' → Kp [t] H H' → Q (.ref a.w) H'
def spLawModel (K : PySem.W.Frag) (C : Addr) : Sp := fun vs H Q _ => ∃ (a : WA) (M : Mdl), vs = [.ref a.w] ∧ WorldAt K H a M ∧ M.ok ∧ ∀ (m : MA) (H' : Hp), MdlAt K C H' m M → (∀ x ∈ m.all, H x = none) → Kp [] H H' → Q (.ref m.p) H'
def ptIn (us : List (Str × Int × Int)) (pt : List Int) : Prop := pt.length = us.length ∧ ∀ (i : Nat) z, pt[i]? = some z → ∃ u, us[i]? = some u ∧ u.2.1 ≤ z ∧ z ≤ u.2.2
def spLawPoint (K : PySem.W.Frag) : Sp := fun vs H Q _ => ∃ (t c l : Addr) (refs : List V) (us : List (Str × Int × Int)), vs = [.ref t, .ref l] ∧ Tp t c H ∧ H l = some (.lst refs) ∧ l ≠ t ∧ ImAll K H refs (us.map unD) ∧ us.length ≤ 60 ∧ (∀ u ∈ us, -1000 ≤ u.2.1 ∧ u.2.1 ≤ u.2.2 ∧ u.2.2 ≤ 1000) ∧
  ∀ (p : Addr) (pt : List Int) (H' : Hp), SqT K H' p (pt.map V.int) → ptIn us pt → Tp t c H' → Kp [t] H H' → Q (.ref p) H'
def rStrI : List V → Hp → VK → Prop := fun xs H Q => ∃ i, xs = [.int i] ∧ i.natAbs.log2 < 1920 ∧ Q (.str (toString i)) H
theorem cg_strI {X : Cx} : CallR X (.type "str") rStrI := call_str_int
theorem r_strI {i : Int} {H : Hp} {Q : VK} (h0 : 0 ≤ i) (h1 : i ≤ 1000) (q : Q (.str (toString i)) H) : rStrI [.int i] H Q := ⟨i, rfl, Nat.lt_of_le_of_lt (Nat.log2_le_self _) (by omega), q⟩
def rAddS : R2 := fun x y H Q => ∃ i j, x = .str i ∧ y = .str j ∧ i.length + j.length ≤ sizeLine ∧ Q (.str (i ++ j)) H
theorem cg_addS {X : Cx} : OpR X (binaryOp .Add) rAddS := op_add_str
theorem r_addS {i j : Str} {H : Hp} {Q : VK} (h : i.length + j.length ≤ 10000) (q : Q (.str (i ++ j)) H) : rAddS (.str i) (.str j) H Q := ⟨i, j, rfl, rfl, by rw [sizeLine_eq]; omega, q⟩
theorem ten (P : Int → Prop) (h : P 0 ∧ P 1 ∧ P 2 ∧ P 3 ∧ P 4 ∧ P 5 ∧ P 6 ∧ P 7 ∧ P 8 ∧ P 9) {k : Int} (h0 : 0 ≤ k) (h1 : k < 10) : P k := by
  have e : k = 0 ∨ k = 1 ∨ k = 2 ∨ k = 3 ∨ k = 4 ∨ k = 5 ∨ k = 6 ∨ k = 7 ∨ k = 8 ∨ k = 9 := by omega
  obtain ⟨p0, p1, p2, p3, p4, p5, p6, p7, p8, p9⟩ := h
  rcases e with rfl | rfl | rfl | rfl | rfl | rfl | rfl | rfl | rfl | rfl <;> assumption
theorem labC_ok {k : Int} (h0 : 0 ≤ k) (h1 : k < 10) : labelB (labC k) = true ∧ (Str.ofString "c").length + (((toString k : String) : Str)).length ≤ 10 ∧ (labC k).length ≤ 10 :=
  ten (fun k => labelB (labC k) = true ∧ (Str.ofString "c").length + (((toString k : String) : Str)).length ≤ 10 ∧ (labC k).length ≤ 10) (by decide +kernel) h0 h1
theorem labC_inj {j k : Int} (h0 : 0 ≤ j) (h1 : j < 10) (h2 : 0 ≤ k) (h3 : k < 10) (e : labC j = labC k) : j = k := by
  have q : ((List.range 10).all fun a => (List.range 10).all fun b => decide (labC (a : Nat) = labC (b : Nat) → a = b)) = true := by decide +kernel
  have q1 := List.all_eq_true.mp q j.toNat (List.mem_range.mpr (by omega))
  have q2 := List.all_eq_true.mp q1 k.toNat (List.mem_range.mpr (by omega))
  have q3 := of_decide_eq_true q2
  rw [Int.toNat_of_nonneg h0, Int.toNat_of_nonneg h2] at q3
  have := q3 e
  omega
theorem nmS_ok : ∀ i < 5, labelB (nmS i) = true ∧ (nmS i).length ≤ 10 := by decide +kernel
theorem nmS_inj : ∀ i < 5, ∀ j < 5, nmS i = nmS j → i = j := by decide +kernel
theorem ix_nm {K : PySem.W.Frag} {p : Addr} {H : Hp} {Q : VK} {i : Nat} (h : H p = some (.lst [.str (Str.ofString "x"), .str (Str.ofString "y"), .str (Str.ofString "z"), .str (Str.ofString "u"), .str (Str.ofString "w")])) (h1 : i < 5) (q : Q (.str (nmS i)) H) : rIxL K (.ref p) (.int (0 + (i : Int))) H Q := by
  have e : i = 0 ∨ i = 1 ∨ i = 2 ∨ i = 3 ∨ i = 4 := by omega
  rcases e with rfl | rfl | rfl | rfl | rfl <;> exact r_ixL h rfl q
theorem ix_mm {K : PySem.W.Frag} {p : Addr} {H : Hp} {Q : VK} {d : Int} (h : H p = some (.lst [.str (Str.ofString "max"), .str (Str.ofString "min")])) (h0 : 0 ≤ d) (h1 : d < 2) (q : ∀ b, Q (.str (senseS b)) H) : rIxL K (.ref p) (.int d) H Q := by
  have e : d = 0 ∨ d = 1 := by omega
  rcases e with rfl | rfl
  · exact r_ixL h rfl (q true)
  · exact r_ixL h rfl (q false)
theorem nodup_map_range {α : Type} {f : Nat → α} {n : Nat} (h : ∀ i < n, ∀ j < n, f i = f j → i = j) : ((List.range n).map f).Nodup := by
  unfold List.Nodup
  rw [List.pairwise_map]
  refine List.Pairwise.imp_of_mem (fun {a b} ha hb hab e => ?_) (List.nodup_range (n := n))
  exact hab (h a (List.mem_range.mp ha) b (List.mem_range.mp hb) e)

/-! ### the next point -/
def rGetL : V → V → Hp → VK → Prop := fun x y H Q => ∃ p xs i v, x = .ref p ∧ y = .int i ∧ H p = some (.lst xs) ∧ 0 ≤ i ∧ atI xs i = some v ∧ Q v H
theorem get_list {X : Cx} : PGet X rGetL := by
  intro pins s σ H o i ov iv Q I ro ri h
  obtain ⟨p, xs, k, z, rfl, rfl, hp, h0, he, q⟩ := h
  cases ro
  obtain ⟨t, rfl⟩ := ri
  obtain ⟨its, r, pl, hz⟩ := I.list (SqL.of hp)
  obtain ⟨j, h1, h2, h3, h4, h5⟩ := atI_get he
  obtain ⟨w, ew, rw'⟩ := r.get h2
  have hj : k.toNat = j := by
    rw [seqIndex_of h0 h5] at h1
    exact Option.some.inj h1
  have hn := line63
  have hl := r.length
  exact wpAny_getItem_list pl.isList h0 (by omega) (by rw [hj]; simpa using ew) ⟨z, H, I, rw', q⟩
theorem r_getL {H : Hp} {Q : VK} {p : Addr} {xs : List V} {i : Int} {v : V} (h : H p = some (.lst xs)) (h0 : 0 ≤ i) (e : atI xs i = some v) (q : Q v H) : rGetL (.ref p) (.int i) H Q := ⟨p, xs, i, v, rfl, rfl, h, h0, e, q⟩
instance s_augS {to ti te : TE} {tget : V → V → Hp → VK → Prop} {tip : TIp} {tset : V → V → V → Hp → (Hp → Prop) → Prop} {D : Ends} {σ : St} {H : Hp} : Stp (tAugS to ti te tget tip tset D σ H) (to σ H fun o H1 => ti σ H1 fun i H2 => tget o i H2 fun x H3 => te σ H3 fun y H4 => tip x y H4 fun z H5 => tset o i z H5 fun H6 => D.nx σ H6) := ⟨id⟩
abbrev Un := Str × Int × Int
def nxP : List Un → List Int → Option (List Int)
  | u :: us, x :: xs => match nxP us xs with
    | some ys => some (x :: ys)
    | none => if x < u.2.2 then some ((x + 1) :: us.map (·.2.1)) else none
  | _, _ => none
theorem nxP_step {us : List Un} {pt : List Int} {k : Nat} {u : Un} {x : Int} (h1 : us[k]? = some u) (h2 : pt[k]? = some x) (h3 : nxP (us.drop (k + 1)) (pt.drop (k + 1)) = none) : nxP (us.drop k) (pt.drop k) = if x < u.2.2 then some ((x + 1) :: (us.drop (k + 1)).map (·.2.1)) else none := by
  obtain ⟨i1, e1⟩ := List.getElem?_eq_some_iff.mp h1
  obtain ⟨i2, e2⟩ := List.getElem?_eq_some_iff.mp h2
  rw [List.drop_eq_getElem_cons i1, List.drop_eq_getElem_cons i2, e1, e2]
  simp only [nxP, h3]
theorem nxP_pre : ∀ {us : List Un} {pt ys : List Int} (k : Nat), us.length = pt.length → k ≤ pt.length → nxP (us.drop k) (pt.drop k) = some ys → nxP us pt = some (pt.take k ++ ys)
  | _, _, _, 0, _, _, h => h
  | [], [], _, k + 1, _, h, _ => by simp at h
  | u :: us, x :: xs, ys, k + 1, hl, hk, h => by
    have q := nxP_pre (us := us) (pt := xs) k (by simpa using hl) (by simpa using hk) h
    simp only [nxP, q]
    rfl
def spMany (K : PySem.W.Frag) (C : Addr) : Sp := fun vs H Q _ => ∃ (a : MA) (M : Mdl), vs = [.ref a.p] ∧ MdlAt K C H a M ∧ M.us.length ≤ 60 ∧ Q (.int M.us.length) H
def spNeed (K : PySem.W.Frag) (C : Addr) : Sp := fun vs H Q _ => ∃ (a : MA) (M : Mdl) (v : Int), vs = [.ref a.p, .int v] ∧ MdlAt K C H a M ∧ M.us.length ≤ 60 ∧ 0 ≤ v ∧ v < M.us.length ∧ Q .non H
def spLow (K : PySem.W.Frag) (C : Addr) : Sp := fun vs H Q _ => ∃ (a : MA) (M : Mdl) (v : Int) (u : Un), vs = [.ref a.p, .int v] ∧ MdlAt K C H a M ∧ M.us.length ≤ 60 ∧ 0 ≤ v ∧ M.us[v.toNat]? = some u ∧ Q (.int u.2.1) H
def spHigh (K : PySem.W.Frag) (C : Addr) : Sp := fun vs H Q _ => ∃ (a : MA) (M : Mdl) (v : Int) (u : Un), vs = [.ref a.p, .int v] ∧ MdlAt K C H a M ∧ M.us.length ≤ 60 ∧ 0 ≤ v ∧ M.us[v.toNat]? = some u ∧ Q (.int u.2.2) H
def spNext (K : PySem.W.Frag) (C : Addr) : Sp := fun vs H Q _ => ∃ (a : MA) (M : Mdl) (q : Addr) (pt : List Int), vs = [.ref a.p, .ref q] ∧ MdlAt K C H a M ∧ M.us.length ≤ 60 ∧ pt.length = M.us.length ∧ SqT K H q (pt.map V.int) ∧
  (nxP M.us pt = none → ∀ H', Kp [] H H' → Q .non H') ∧ ∀ pt' p H', nxP M.us pt = some pt' → SqT K H' p (pt'.map V.int) → Kp [] H H' → Q (.ref p) H'
theorem at_lo {us : List Un} {v : Int} {u : Un} (h0 : 0 ≤ v) (h : us[v.toNat]? = some u) : atI (us.map fun u => V.int u.2.1) v = some (.int u.2.1) := by
  have hi := (List.getElem?_eq_some_iff.mp h).1
  rw [atI_nat h0 (by rw [List.length_map]; omega), List.getElem?_map, h]
  rfl
theorem at_hi {us : List Un} {v : Int} {u : Un} (h0 : 0 ≤ v) (h : us[v.toNat]? = some u) : atI (us.map fun u => V.int u.2.2) v = some (.int u.2.2) := by
  have hi := (List.getElem?_eq_some_iff.mp h).1
  rw [atI_nat h0 (by rw [List.length_map]; omega), List.getElem?_map, h]
  rfl

/-! ### a tuple of the top -/
def TupIn (K : PySem.W.Frag) (a : Addr) (xs : List V) : Prop := ∃ (o : Obj) (its : Array Value) (n : Nat), K.lookup a = some o ∧ o.cls = .type "tuple" ∧ o.data = .seq its n ∧ its.size ≤ sizeLine ∧ Vals xs its.toList
theorem TupIn.sq {K : PySem.W.Frag} {a : Addr} {xs : List V} {H : Hp} (h : TupIn K a xs) : SqT K H a xs := .inr h

structure Bi (K : PySem.W.Frag) (mg : Str → Option Value) (C_Model C_Remaining : Addr) : Prop where
  n_len : mg "len" = none
  n_int : mg "int" = none
  n_list : mg "list" = none
  n_tuple : mg "tuple" = none
  n_range : mg "range" = none
  n_all : mg "all" = none
  n_any : mg "any" = none
  n_isinstance : mg "isinstance" = none
  n_bool : mg "bool" = none
  n_set : mg "set" = none
  n_str : mg "str" = none
  n_sorted : mg "sorted" = none
  n_sum : mg "sum" = none
  n_min : mg "min" = none
  n_repr : mg "repr" = none
  c_LETTERS : ∃ u, mg "LETTERS" = some u ∧ RelV (.str (Str.ofString "abcdefghijklmnopqrstuvwxyz")) u
  c_DIGITS : ∃ u, mg "DIGITS" = some u ∧ RelV (.str (Str.ofString "0123456789")) u
  c_UNKNOWNS_MOST : ∃ u, mg "UNKNOWNS_MOST" = some u ∧ RelV (.int 60) u
  c_BOUND_MOST : ∃ u, mg "BOUND_MOST" = some u ∧ RelV (.int 1000) u
  cl_Model : Cls K C_Model
  at_Model__names : NoAttr K C_Model "_names"
  at_Model__lows : NoAttr K C_Model "_lows"
  at_Model__highs : NoAttr K C_Model "_highs"
  at_Model__bodies : NoAttr K C_Model "_bodies"
  at_Model__goal : NoAttr K C_Model "_goal"
  cl_Remaining : Cls K C_Remaining
  at_Remaining__many : NoAttr K C_Remaining "_many"
  at_Remaining__domains : NoAttr K C_Remaining "_domains"
section
variable {P : Program} {w : World} {K : PySem.W.Frag} {mg : Str → Option Value} {base : Heap} {C_Model C_Remaining : Addr}
theorem ok_relation_holds {f : Addr} {fd : FuncData} (F : Fun K "relation_holds" "relation_holds" s_relation_holds f fd) (B : Bi K mg C_Model C_Remaining)  : FnOk P w K mg base CX0 1 f fd ["relation", "left", "right"] spRel := by
  have nd := sc_relation_holds.nd
  refine F.ok sc_relation_holds ?len (fun cdv A outer s H vs Q E hr h => ?body)
  case len =>
    rintro vs H Q E ⟨r, a, b, rfl, _⟩
    rfl
  case body =>
    obtain ⟨r, a, b, rfl, q⟩ := h
    refine ⟨_, (pss_cons (ps_if (pt_cmpR op_eq (pv 0) pe_str (nomark _))
      (pss_one (ps_ret (pe_cmpR op_le (pv 1) (pv 2) (nomark _))))
      pss_nil)
      (pss_cons (ps_if (pt_cmpR op_eq (pv 0) pe_str (nomark _))
      (pss_one (ps_ret (pe_cmpR op_ge (pv 1) (pv 2) (nomark _))))
      pss_nil)
      (pss_cons (ps_if (pt_cmpR op_eq (pv 0) pe_str (nomark _))
      (pss_one (ps_ret (pe_cmpR op_eq (pv 1) (pv 2) (nomark _))))
      pss_nil)
      (pss_one (ps_ret (pe_cmpR op_ne (pv 1) (pv 2) (nomark _))))))), ?_⟩
    try dsimp only [L2.cxOf, L2.Cx.nox, L2.Cx.wish]
    rw [st_relation_holds]
    cases r
    all_goals
      walk_at "cg"
      exact q

theorem ok_literal_holds {f : Addr} {fd : FuncData} (F : Fun K "literal_holds" "literal_holds" s_literal_holds f fd) (B : Bi K mg C_Model C_Remaining) (D_relation_holds : Is P w K mg base CX0 1 "relation_holds" ["relation", "left", "right"] spRel) : FnOk P w K mg base CX0 2 f fd ["literal", "worth"] (spLit K) := by
  have nd := sc_literal_holds.nd
  refine F.ok sc_literal_holds ?len (fun cdv A outer s H vs Q E hr h => ?body)
  case len =>
    rintro vs H Q E ⟨p, v, r, a, x, rfl, _⟩
    rfl
  case body =>
    obtain ⟨p, v, r, a, x, rfl, hL, q⟩ := h
    refine ⟨_, (pss_one (ps_ret (pe_is D_relation_holds (hr.mono (by decide)) rfl pass0 (pa_cons (pe_ix (ixT K) (pv 0) pe_int (fun _ _ => rfl)) (pa_cons (pv 1) (pa_cons (pe_ix (ixT K) (pv 0) pe_int (fun _ _ => rfl)) pa_nil)))))), ?_⟩
    try dsimp only [L2.cxOf, L2.Cx.nox, L2.Cx.wish]
    rw [st_literal_holds]
    walk_at "cg"
    exact q

theorem ok_terms_sum {f : Addr} {fd : FuncData} (F : Fun K "terms_sum" "terms_sum" s_terms_sum f fd) (B : Bi K mg C_Model C_Remaining)  : FnOk P w K mg base CX0 1 f fd ["terms", "point"] (spSumF K) := by
  have nd := sc_terms_sum.nd
  refine F.ok sc_terms_sum ?len (fun cdv A outer s H vs Q E hr h => ?body)
  case len =>
    rintro vs H Q E ⟨p, q, ts, f, dom, rfl, _⟩
    rfl
  case body =>
    obtain ⟨p, q, ts, f, dom, rfl, hI, hP, hD, hT, k⟩ := h
    refine ⟨_, (pss_cons (ps_set (i := 2) nd rfl (Or.inl rfl) pe_int)
      (pss_cons (ps_for PassesOwn.never rfl (pi_tup (pv 0)) (pg_tup (n := 2) rfl (pgs_cons (pg_name (i := 3) nd rfl (Or.inl rfl)) (pgs_cons (pg_name (i := 4) nd rfl (Or.inl rfl)) pgs_nil)))
      (pss_one (ps_aug (i := 2) nd rfl (Or.inl rfl) (pe_op op_mul (pv 4) (pe_ix (ixP K) (pv 1) (pv 3) (fun _ _ => rfl))) ip_add)))
      (pss_one (ps_ret (pv 2))))), ?_⟩
    try dsimp only [L2.cxOf, L2.Cx.nox, L2.Cx.wish]
    rw [st_terms_sum]
    obtain ⟨xs, h1, h2⟩ := hI.open
    walk_at "cg"
    refine r_forTI [] h1 h2 (fun i σ' H' => ∃ x3 x4 : Option V, σ' = [some (.ref p), some (.ref q), some (.int (sumF (ts.take i) f)), x3, x4] ∧ H = H') ⟨_, _, rfl, rfl⟩ (fun i σ' H' ⟨_, _, _, e⟩ => e ▸ .refl) ?_ ?_
    · rintro i z x σ' H' hz hxd _ ⟨x3, x4, rfl, rfl⟩
      obtain ⟨px, rfl, hs⟩ := term_at hxd
      have hzt := hT z (List.mem_of_getElem? hz)
      walk_at "cg"
      refine r_pt hP (hD z (List.mem_of_getElem? hz)) ?_
      walk_at "cg"
      exact ⟨_, _, by rw [sumF_take f hz], rfl⟩
    · rintro σ' H' _ ⟨x3, x4, rfl, rfl⟩
      walk_at "cg"
      rw [List.take_length]
      exact k

theorem ok_is_label {f : Addr} {fd : FuncData} (F : Fun K "is_label" "is_label" s_is_label f fd) (B : Bi K mg C_Model C_Remaining)  : FnOk P w K mg base CX0 1 f fd ["text"] spLabel := by
  have nd := sc_is_label.nd
  refine F.ok sc_is_label ?len (fun cdv A outer s H vs Q E hr h => ?body)
  case len =>
    rintro vs H Q E ⟨s, rfl, _⟩
    rfl
  case body =>
    obtain ⟨s, rfl, hl, k⟩ := h
    refine ⟨_, (pss_cons (ps_if (PW.pt (pw_or (pt_not (pt_chain op_le op_le pe_int (pe_callB cg_lenS (by rfl) B.n_len PySem.boot_len (pa_cons (pv 0) pa_nil)) pe_int)) (pw_or1 (pt_cmpR op_sgnNot (pe_ix ix_str (pv 0) pe_int (fun _ _ => rfl)) (pe_gc rfl B.c_LETTERS) rfl))))
      (pss_one (ps_ret pe_bl))
      pss_nil)
      (pss_cons (ps_for PassesOwn.never rfl (pi_str (pv 0)) (pg_name (i := 1) nd rfl (Or.inl rfl))
      (pss_one (ps_if (PW.pt (pw_and (pt_cmpR op_sgnNot (pv 1) (pe_gc rfl B.c_LETTERS) rfl) (pw_and1 (pt_cmpR op_sgnNot (pv 1) (pe_gc rfl B.c_DIGITS) rfl))))
      (pss_one (ps_ret pe_bl))
      pss_nil)))
      (pss_one (ps_ret pe_bl)))), ?_⟩
    try dsimp only [L2.cxOf, L2.Cx.nox, L2.Cx.wish]
    rw [st_is_label]
    have hsz : s.length = s.cps.toList.length := by first | rfl | simp [Str.length]
    walk_at "cg"
    refine r_lenS hl ?_
    walk_at "cg"
    refine if_S (fun h1 => ?_) (fun h1 => ?_)
    · walk_at "cg"
      refine if_NS (fun h2 => ?_) (fun h2 => ?_)
      · walk_at "cg"
        have e : labelB s = false := by
          unfold labelB
          rw [decide_eq_false (show ¬ s.length ≤ 20 by omega)]
          simp
        rw [e] at k
        exact k
      · obtain ⟨c, cs, ec⟩ : ∃ c cs, s.cps.toList = c :: cs := by
          cases e : s.cps.toList with
          | nil =>
            rw [e] at hsz
            simp at hsz
            omega
          | cons c cs => exact ⟨c, cs, rfl⟩
        walk_at "cg"
        refine r_ixS (c := c) hl (by rw [ec]; exact atI_0) ?_
        walk_at "cg"
        refine if_NS (fun h3 => ?_) (fun h3 => ?_)
        · walk_at "cg"
          have e : labelB s = false := by
            unfold labelB
            rw [ec]
            simp only
            rw [decide_eq_false (show ¬ c ∈ lettersS.cps.toList from h3)]
            simp
          rw [e] at k
          exact k
        · walk_at "cg"
          have top3 : labelB s = s.cps.toList.all sgnOk := by
            unfold labelB
            rw [decide_eq_true (show 1 ≤ s.length by omega), decide_eq_true (show s.length ≤ 20 by omega)]
            rw [ec]
            simp only
            rw [decide_eq_true (show c ∈ lettersS.cps.toList from h3)]
            simp
          rw [top3] at k
          refine r_forS (fun i σ' H' => ∃ x : Option V, σ' = [some (.str s), x] ∧ H = H' ∧ (s.cps.toList.take i).all sgnOk = true) ⟨none, rfl, rfl, rfl⟩ ?_ ?_
          · rintro i c' σ' H' hc ⟨x, rfl, rfl, ok⟩
            have hc' : s.cps.toList[i]? = some c' := by rw [Array.getElem?_toList]; exact hc
            have bad : sgnOk c' = false → s.cps.toList.all sgnOk = false := fun h => by
              rw [Bool.eq_false_iff]
              intro a
              have := List.all_eq_true.mp a c' (List.mem_of_getElem? hc')
              rw [h] at this
              cases this
            have good : sgnOk c' = true → (s.cps.toList.take (i + 1)).all sgnOk = true := fun h => by
              rw [List.take_add_one, hc', List.all_append, ok]
              simp [h]
            walk_at "cg"
            refine if_NS (fun h4 => ?_) (fun h4 => ?_)
            · walk_at "cg"
              refine if_NS (fun h5 => ?_) (fun h5 => ?_)
              · walk_at "cg"
                have e := bad (by unfold sgnOk; rw [decide_eq_false (show ¬ c' ∈ lettersS.cps.toList from h4), decide_eq_false (show ¬ c' ∈ digitsS.cps.toList from h5)]; rfl)
                rw [e] at k
                exact k
              · walk_at "cg"
                exact ⟨_, rfl, rfl, good (by unfold sgnOk; rw [decide_eq_true (show c' ∈ digitsS.cps.toList from h5), Bool.or_true])⟩
            · walk_at "cg"
              exact ⟨_, rfl, rfl, good (by unfold sgnOk; rw [decide_eq_true (show c' ∈ lettersS.cps.toList from h4), Bool.true_or])⟩
          · rintro σ' H' ⟨x, rfl, rfl, ok⟩
            walk_at "cg"
            have e : s.cps.toList.all sgnOk = true := by
              have e1 : s.cps.toList.take s.cps.size = s.cps.toList := by rw [← Array.length_toList, List.take_length]
              rw [e1] at ok
              exact ok
            rw [e] at k
            exact k
    · walk_at "cg"
      have e : labelB s = false := by
        unfold labelB
        rw [decide_eq_false (show ¬ 1 ≤ s.length by omega)]
        simp
      rw [e] at k
      exact k

end
section
variable {P : Program} {w : World} {K : PySem.W.Frag} {mg : Str → Option Value} {base : Heap} {C_Model C_Remaining : Addr}
theorem ok_bounds_fit {f : Addr} {fd : FuncData} (F : Fun K "bounds_fit" "bounds_fit" s_bounds_fit f fd) (B : Bi K mg C_Model C_Remaining)  : FnOk P w K mg base CX0 1 f fd ["low", "high"] spBounds := by
  have nd := sc_bounds_fit.nd
  refine F.ok sc_bounds_fit ?len (fun cdv A outer s H vs Q E hr h => ?body)
  case len =>
    rintro vs H Q E ⟨lo, hi, rfl, _⟩
    rfl
  case body =>
    obtain ⟨lo, hi, rfl, k⟩ := h
    refine ⟨_, (pss_one (ps_ret (pe_chain3 op_le op_le op_le (pe_un un_neg (pe_gc rfl B.c_BOUND_MOST)) (pv 0) (pv 1) (pe_gc rfl B.c_BOUND_MOST)))), ?_⟩
    try dsimp only [L2.cxOf, L2.Cx.nox, L2.Cx.wish]
    rw [st_bounds_fit]
    walk_at "cg"
    refine if_S (fun h1 => ?_) (fun h1 => ?_)
    · rw [decide_eq_true h1, Bool.true_and] at k
      walk_at "cg"
      refine if_S (fun h2 => ?_) (fun h2 => ?_)
      · rw [decide_eq_true h2, Bool.true_and] at k
        walk_at "cg"
        exact k
      · rw [decide_eq_false h2, Bool.false_and] at k
        walk_at "cg"
        exact k
    · rw [decide_eq_false h1, Bool.false_and] at k
      walk_at "cg"
      exact k
theorem ok_Model___init__ {f : Addr} {fd : FuncData} (F : Fun K "__init__" "Model.__init__" s_Model___init__ f fd) (B : Bi K mg C_Model C_Remaining) (D_is_label : Is P w K mg base CX0 1 "is_label" ["text"] spLabel) (D_bounds_fit : Is P w K mg base CX0 1 "bounds_fit" ["low", "high"] spBounds) : FnOk P w K mg base CX0 2 f fd ["self", "unknowns"] (spInit K C_Model) := by
  have nd := sc_Model___init__.nd
  refine F.ok sc_Model___init__ ?len (fun cdv A outer s H vs Q E hr h => ?body)
  case len =>
    rintro vs H Q E ⟨p, l, dx, refs, us, rfl, _⟩
    rfl
  case body =>
    obtain ⟨p, l, dx, refs, us, rfl, hp, hl, hI, n0, n1, ok, hnd, k⟩ := h
    refine ⟨_, (pss_cons (ps_if (pt_not (pt_chain op_le op_le pe_int (pe_callB (cgLen K) (by rfl) B.n_len PySem.boot_len (pa_cons (pv 1) pa_nil)) (pe_gc rfl B.c_UNKNOWNS_MOST)))
      (pss_one ps_never)
      pss_nil)
      (pss_cons (ps_fld (pv 0) (pe_lst pa_nil) rfl)
      (pss_cons (ps_fld (pv 0) (pe_lst pa_nil) rfl)
      (pss_cons (ps_fld (pv 0) (pe_lst pa_nil) rfl)
      (pss_cons (ps_for PassesOwn.never rfl ((piLst K) (pv 1)) (pg_tup (n := 3) rfl (pgs_cons (pg_name (i := 2) nd rfl (Or.inl rfl)) (pgs_cons (pg_name (i := 3) nd rfl (Or.inl rfl)) (pgs_cons (pg_name (i := 4) nd rfl (Or.inl rfl)) pgs_nil))))
      (pss_cons (ps_if (PW.pt (pw_or (pt_not (pt_val (pe_is D_is_label (hr.mono (by decide)) rfl pass0 (pa_cons (pv 2) pa_nil)))) (pw_or1 (pt_not (pt_val (pe_is D_bounds_fit (hr.mono (by decide)) rfl pass0 (pa_cons (pv 3) (pa_cons (pv 4) pa_nil))))))))
      (pss_one ps_never)
      pss_nil)
      (pss_cons (ps_if (pt_cmpR (inS K) (pv 2) (pe_fld (pv 0) rfl) rfl)
      (pss_one ps_never)
      pss_nil)
      (pss_cons (ps_expr (pe_bm PySem.F.plainAttrs_list PySem.F.slot_list_append PySem.F.type_list_append mt_append (pe_fld (pv 0) rfl) (pa_cons (pv 2) pa_nil)))
      (pss_cons (ps_expr (pe_bm PySem.F.plainAttrs_list PySem.F.slot_list_append PySem.F.type_list_append mt_append (pe_fld (pv 0) rfl) (pa_cons (pv 3) pa_nil)))
      (pss_one (ps_expr (pe_bm PySem.F.plainAttrs_list PySem.F.slot_list_append PySem.F.type_list_append mt_append (pe_fld (pv 0) rfl) (pa_cons (pv 4) pa_nil)))))))))
      (pss_cons (ps_fld (pv 0) pe_dnewK rfl)
      (pss_one (ps_fld (pv 0) (pe_tup (pa_cons pe_str (pa_cons (pe_tup pa_nil) (pa_cons pe_int pa_nil)))) rfl)))))))), ?_⟩
    try dsimp only [L2.cxOf, L2.Cx.nox, L2.Cx.wish]
    rw [st_Model___init__]
    have c := B.cl_Model
    have a1 := B.at_Model__names
    have a2 := B.at_Model__lows
    have a3 := B.at_Model__highs
    have a4 := B.at_Model__bodies
    have a5 := B.at_Model__goal
    have hrl := mapLenP hI
    have npl : p ≠ l := ne_of hp hl (fun e => by cases e)
    walk_at "cg"
    rename_i n H1 hn en kn H2 p2 k2 lo H3 hlo elo k3
    refine r_setF (by walk_at "cg h") c a2 (Nat.lt_of_le_of_lt (putF_le _ _ _) (by decide)) fun H4 p4 k4 => ?_
    walk_at "cg"
    rename_i hi H5 hhi ehi k5
    refine r_setF (by walk_at "cg h") c a3 (Nat.lt_of_le_of_lt (Nat.le_trans (putF_le _ _ _) (Nat.succ_le_succ (putF_le _ _ _))) (by decide)) fun H6 p6 k6 => ?_
    have fn : H n = none := hn
    have npn : n ≠ p := ne_newR hn hp
    have flo : H lo = none := by
      cases q : H lo with
      | none => rfl
      | some o =>
        have e1 : lo ≠ p := fun e => by rw [e, p2] at hlo; cases hlo
        rw [Kp.get1 k2 e1 (kn.get0 q)] at hlo
        cases hlo
    have nplo : lo ≠ p := ne_newR hlo p2
    have fhi : H hi = none := by
      cases q : H hi with
      | none => rfl
      | some o =>
        have e1 : hi ≠ p := fun e => by rw [e, p4] at hhi; cases hhi
        rw [Kp.get1 k4 e1 (k3.get0 (Kp.get1 k2 e1 (kn.get0 q)))] at hhi
        cases hhi
    have nphi : hi ≠ p := ne_newR hhi p4
    have en2 : H2 n = some (.lst []) := Kp.get1 k2 npn en
    have nlon : lo ≠ n := ne_newR hlo en2
    have en4 : H4 n = some (.lst []) := Kp.get1 k4 npn (k3.get0 en2)
    have nhin : hi ≠ n := ne_newR hhi en4
    have elo4 : H4 lo = some (.lst []) := Kp.get1 k4 nplo elo
    have nhil : hi ≠ lo := ne_newR hhi elo4
    have e6n : H6 n = some (.lst []) := Kp.get1 k6 npn (k5.get0 en4)
    have e6l : H6 lo = some (.lst []) := Kp.get1 k6 nplo (k5.get0 elo4)
    have e6h : H6 hi = some (.lst []) := Kp.get1 k6 nphi ehi
    have K6 : Kp [p] H H6 := Kp.tr1 k6 (Kp.tr0 k5 (Kp.tr1 k4 (Kp.tr0 k3 (Kp.tr1 k2 (Kp.tr0 kn (.base fun b hb => by rw [List.mem_singleton] at hb; subst hb; rw [hp]; trivial))))))
    have p6' : H6 p = some (.ins C_Model dx (fs3 n lo hi)) := p6
    clear k2 k3 k4 k5 k6 kn p2 p4 p6 en en2 en4 elo elo4 ehi hlo hhi hn
    have f1 := fs3_nm n lo hi
    have f2 := fs3_lo n lo hi
    have f3 := fs3_hi n lo hi
    have f4 := fs3_len n lo hi
    generalize hfs : fs3 n lo hi = fs at p6' f1 f2 f3 f4
    walk_at "cg"
    refine r_forL refs (fun i σ' H' => ∃ x2 x3 x4 : Option V, σ' = [some (.ref p), some (.ref l), x2, x3, x4] ∧ Kp [p] H H' ∧ H' p = some (.ins C_Model dx fs) ∧ H' n = some (.lst (((us.take i).map (·.1)).map V.str)) ∧
      H' lo = some (.lst (((us.take i).map (·.2.1)).map V.int)) ∧ H' hi = some (.lst (((us.take i).map (·.2.2)).map V.int))) ⟨none, none, none, rfl, K6, p6', e6n, e6l, e6h⟩ (fun i σ' H' ⟨_, _, _, _, kk, _⟩ => kk.get1 npl.symm hl) ?_ ?_
    · clear K6 p6' e6n e6l e6h
      rintro i x σ' H' hx ⟨x2, x3, x4, rfl, kk, e1, e2, e3, e4⟩
      obtain ⟨u, hu, hux⟩ := mapGetP (kk.imAll hI) hx
      obtain ⟨q, rfl, sq⟩ := un_at hux
      have hum := List.mem_of_getElem? hu
      have hi60 : i < us.length := (List.getElem?_eq_some_iff.mp hu).1
      have ou := ok u hum
      have z1 : (((us.take i).map (·.1)).map V.str).length ≤ 60 := by simp; omega
      have z2 : (((us.take i).map (·.2.1)).map V.int).length ≤ 60 := by simp; omega
      have z3 : (((us.take i).map (·.2.2)).map V.int).length ≤ 60 := by simp; omega
      have nin : decide (u.1 ∈ (us.take i).map (·.1)) = false := by
        refine decide_eq_false fun hm => ?_
        have e9 : us = us.take i ++ u :: us.drop (i + 1) := by
          obtain ⟨hi, rfl⟩ := List.getElem?_eq_some_iff.mp hu
          rw [List.getElem_cons_drop, List.take_append_drop]
        rw [e9, List.map_append, List.nodup_append] at hnd
        exact hnd.2.2 u.1 hm u.1 (by simp) rfl
      walk_at "cg"
      refine ⟨u.1, rfl, ou.2.1, ?_⟩
      rw [ou.1]
      walk_at "cg"
      refine ⟨_, _, rfl, ?_⟩
      rw [decide_eq_true ou.2.2.1, decide_eq_true ou.2.2.2.1, decide_eq_true ou.2.2.2.2, show (true && (true && true)) = true from rfl]
      walk_at "cg"
      refine r_inL e2 rfl (flat_strs _) (b := false) (by rw [if_neg Bool.false_ne_true, inV_strs]; exact nin) ?_
      walk_at "cg"
      rename_i H7 e7 k7 H8 e8 k8 H9 e9 k9
      have e7p := Kp.get1 k7 npn.symm e1
      have e7l := Kp.get1 k7 nlon e3
      have e7h := Kp.get1 k7 nhin e4
      have e8p := Kp.get1 k8 nplo.symm e7p
      have e8n := Kp.get1 k8 nlon.symm e7
      have e8h := Kp.get1 k8 nhil e7h
      refine ⟨_, _, _, rfl, Kp.trN k9 (Kp.trN k8 (Kp.trN k7 kk fn) flo) fhi, Kp.get1 k9 nphi.symm e8p, ?_, ?_, ?_⟩
      · rw [Kp.get1 k9 nhin.symm e8n, map_take_snoc hu, List.map_append]
        rfl
      · rw [Kp.get1 k9 nhil.symm e8, map_take_snoc hu, List.map_append]
        rfl
      · rw [e9, map_take_snoc hu, List.map_append]
        rfl
    · clear K6 p6' e6n e6l e6h
      rintro σ' H' ⟨x2, x3, x4, rfl, kk, e1, e2, e3, e4⟩
      rw [hrl, List.take_length, List.map_map] at e2 e3 e4
      have few4 : fs.length < 1000 := by omega
      walk_at "cg"
      rename_i bd H7 hbd ebd k7 H8 e8 k8 pe H9 hpe se k9 pg H10 hpg sg k10
      refine r_setF (by walk_at "cg h") c a5 (by have := putF_le (Str.ofString "_bodies") (.ref bd) fs; omega) fun H11 e11 k11 => ?_
      have npbd : bd ≠ p := ne_newR hbd e1
      have nnbd : bd ≠ n := ne_newR hbd e2
      have fbd : H bd = none := by
        refine kk.free hbd fun b hb => ?_
        rw [List.mem_singleton] at hb
        subst hb
        exact ⟨_, e1⟩
      have up : ∀ {x o}, x ≠ p → H' x = some o → H11 x = some o := fun {x o} hx e => Kp.get1 k11 hx (k10.get0 (k9.get0 (Kp.get1 k8 hx (k7.get0 e))))
      have ebd11 : H11 bd = some (.dK []) := Kp.get1 k11 npbd (k10.get0 (k9.get0 (Kp.get1 k8 npbd ebd)))
      subst hfs
      refine k ⟨p, n, lo, hi, bd⟩ H11 rfl ⟨⟨dx, _, _, e11, MFs.new, k11.im (.tup sg (.cons (.str _) (.cons (.tup (k10.tup se) .nil) (.cons (.int _) .nil))))⟩, up npn e2, up nplo e3, up nphi e4, ⟨[], ebd11, rfl, .nil⟩, ⟨nlon.symm, nhin.symm, nhil.symm⟩⟩ (fun x hx => ?_) (Kp.tr1 k11 (Kp.tr0 k10 (Kp.tr0 k9 (Kp.tr1 k8 (Kp.tr0 k7 kk)))))
      simp only [MA.all, List.mem_cons, List.not_mem_nil, or_false] at hx
      rcases hx with rfl | rfl | rfl | rfl | rfl
      · exact .inl rfl
      · exact .inr fn
      · exact .inr flo
      · exact .inr fhi
      · exact .inr fbd
theorem MdlAt.off {K : PySem.W.Frag} {C : Addr} {H : Hp} {a : MA} {M : Mdl} {l : Addr} (h : MdlAt K C H a M) (f : H l = none) : offA a l := fun x hx e => by
  subst e
  obtain ⟨dx, fs, g, h1, _⟩ := h.ob
  obtain ⟨kvs, h4, _⟩ := h.bo
  have h5 := h.nm
  have h6 := h.lo
  have h7 := h.hi
  simp only [MA.all, List.mem_cons, List.not_mem_nil, or_false] at hx
  rcases hx with rfl | rfl | rfl | rfl | rfl
  · rw [f] at h1
    cases h1
  · rw [f] at h5
    cases h5
  · rw [f] at h6
    cases h6
  · rw [f] at h7
    cases h7
  · rw [f] at h4
    cases h4
theorem set_at {pt B : List Int} {k : Nat} {x y : Int} (h : pt[k]? = some x) : (pt.take (k + 1) ++ B).set k y = pt.take k ++ y :: B := by
  have hk := (List.getElem?_eq_some_iff.mp h).1
  have e : pt.take (k + 1) = pt.take k ++ [x] := by
    rw [List.take_add_one, h]
    rfl
  have l : (pt.take k).length = k := by
    rw [List.length_take]
    omega
  rw [e, List.append_assoc, List.set_append_right _ _ (by omega), l, Nat.sub_self]
  rfl
theorem get_at {pt B : List Int} {k : Nat} {x : Int} (h : pt[k]? = some x) : atI ((pt.take (k + 1) ++ B).map V.int) (k : Int) = some (.int x) := by
  have hk := (List.getElem?_eq_some_iff.mp h).1
  have e : pt.take (k + 1) = pt.take k ++ [x] := by
    rw [List.take_add_one, h]
    rfl
  have l : (pt.take k).length = k := by
    rw [List.length_take]
    omega
  have e2 : (pt.take (k + 1) ++ B)[k]? = some x := by
    rw [e, List.append_assoc, List.getElem?_append_right (by omega), l, Nat.sub_self]
    rfl
  rw [atI_nat (by omega) (by rw [List.length_map, List.length_append, List.length_take]; omega), Int.toNat_natCast, List.getElem?_map, e2]
  rfl
theorem ok_Model_many {f : Addr} {fd : FuncData} (F : Fun K "many" "Model.many" s_Model_many f fd) (B : Bi K mg C_Model C_Remaining)  : FnOk P w K mg base CX0 1 f fd ["self"] (spMany K C_Model) := by
  have nd := sc_Model_many.nd
  refine F.ok sc_Model_many ?len (fun cdv A outer s H vs Q E hr h => ?body)
  case len =>
    rintro vs H Q E ⟨a, M, rfl, _⟩
    rfl
  case body =>
    obtain ⟨a, M, rfl, hM, h60, k⟩ := h
    refine ⟨_, (pss_one (ps_ret (pe_callB (cgLen K) (by rfl) B.n_len PySem.boot_len (pa_cons (pe_fld (pv 0) rfl) pa_nil)))), ?_⟩
    try dsimp only [L2.cxOf, L2.Cx.nox, L2.Cx.wish]
    rw [st_Model_many]
    have c := B.cl_Model
    have a1 := B.at_Model__names
    obtain ⟨dx, fs, g, h1, h2, h3⟩ := hM.ob
    have l1 := h2.nm
    have e1 := hM.nm
    have hln : ((M.us.map fun u => V.str u.1).length : Int) = M.us.length := by rw [List.length_map]
    walk_at "cg"
    rw [hln]
    exact k
theorem ok_Model__need {f : Addr} {fd : FuncData} (F : Fun K "_need" "Model._need" s_Model__need f fd) (B : Bi K mg C_Model C_Remaining)  : FnOk P w K mg base CX0 1 f fd ["self", "v"] (spNeed K C_Model) := by
  have nd := sc_Model__need.nd
  refine F.ok sc_Model__need ?len (fun cdv A outer s H vs Q E hr h => ?body)
  case len =>
    rintro vs H Q E ⟨a, M, v, rfl, _⟩
    rfl
  case body =>
    obtain ⟨a, M, v, rfl, hM, h60, v0, v1, k⟩ := h
    refine ⟨_, (pss_one (ps_if (pt_not (pt_chain op_le op_lt pe_int (pv 1) (pe_callB (cgLen K) (by rfl) B.n_len PySem.boot_len (pa_cons (pe_fld (pv 0) rfl) pa_nil))))
      (pss_one ps_never)
      pss_nil)), ?_⟩
    try dsimp only [L2.cxOf, L2.Cx.nox, L2.Cx.wish]
    rw [st_Model__need]
    have c := B.cl_Model
    have a1 := B.at_Model__names
    obtain ⟨dx, fs, g, h1, h2, h3⟩ := hM.ob
    have l1 := h2.nm
    have e1 := hM.nm
    have hln : ((M.us.map fun u => V.str u.1).length : Int) = M.us.length := by rw [List.length_map]
    walk_at "cg"
    exact k
theorem ok_Model_low {f : Addr} {fd : FuncData} (F : Fun K "low" "Model.low" s_Model_low f fd) (B : Bi K mg C_Model C_Remaining) (D_Model__need : IsM P w K mg base CX0 1 C_Model "_need" ["self", "v"] (spNeed K C_Model)) : FnOk P w K mg base CX0 2 f fd ["self", "v"] (spLow K C_Model) := by
  have nd := sc_Model_low.nd
  obtain ⟨f_Model__need, fd_Model__need, G_Model__need, m_Model__need, b_Model__need⟩ := D_Model__need.ex
  refine F.ok sc_Model_low ?len (fun cdv A outer s H vs Q E hr h => ?body)
  case len =>
    rintro vs H Q E ⟨a, M, v, u, rfl, _⟩
    rfl
  case body =>
    obtain ⟨a, M, v, u, rfl, hM, h60, v0, hu, k⟩ := h
    refine ⟨_, (pss_cons (ps_expr (pe_meth (pv 0) D_Model__need.cl m_Model__need G_Model__need (hr.mono (by decide)) b_Model__need .nil pass0 (pa_cons (pv 1) pa_nil)))
      (pss_one (ps_ret (pe_ix (ixL K) (pe_fld (pv 0) rfl) (pv 1) (fun _ _ => rfl))))), ?_⟩
    try dsimp only [L2.cxOf, L2.Cx.nox, L2.Cx.wish]
    rw [st_Model_low]
    have c := B.cl_Model
    have a1 := B.at_Model__lows
    obtain ⟨dx, fs, g, h1, h2, h3⟩ := hM.ob
    have l1 := h2.lo
    have e1 := hM.lo
    have hi := (List.getElem?_eq_some_iff.mp hu).1
    walk_at "cg"
    refine ⟨a, M, v, rfl, hM, h60, v0, by omega, ?_⟩
    walk_at "cg"
    refine r_ixL e1 (at_lo v0 hu) ?_
    walk_at "cg"
    exact k
theorem ok_Model_high {f : Addr} {fd : FuncData} (F : Fun K "high" "Model.high" s_Model_high f fd) (B : Bi K mg C_Model C_Remaining) (D_Model__need : IsM P w K mg base CX0 1 C_Model "_need" ["self", "v"] (spNeed K C_Model)) : FnOk P w K mg base CX0 2 f fd ["self", "v"] (spHigh K C_Model) := by
  have nd := sc_Model_high.nd
  obtain ⟨f_Model__need, fd_Model__need, G_Model__need, m_Model__need, b_Model__need⟩ := D_Model__need.ex
  refine F.ok sc_Model_high ?len (fun cdv A outer s H vs Q E hr h => ?body)
  case len =>
    rintro vs H Q E ⟨a, M, v, u, rfl, _⟩
    rfl
  case body =>
    obtain ⟨a, M, v, u, rfl, hM, h60, v0, hu, k⟩ := h
    refine ⟨_, (pss_cons (ps_expr (pe_meth (pv 0) D_Model__need.cl m_Model__need G_Model__need (hr.mono (by decide)) b_Model__need .nil pass0 (pa_cons (pv 1) pa_nil)))
      (pss_one (ps_ret (pe_ix (ixL K) (pe_fld (pv 0) rfl) (pv 1) (fun _ _ => rfl))))), ?_⟩
    try dsimp only [L2.cxOf, L2.Cx.nox, L2.Cx.wish]
    rw [st_Model_high]
    have c := B.cl_Model
    have a1 := B.at_Model__highs
    obtain ⟨dx, fs, g, h1, h2, h3⟩ := hM.ob
    have l1 := h2.hi
    have e1 := hM.hi
    have hi := (List.getElem?_eq_some_iff.mp hu).1
    walk_at "cg"
    refine ⟨a, M, v, rfl, hM, h60, v0, by omega, ?_⟩
    walk_at "cg"
    refine r_ixL e1 (at_hi v0 hu) ?_
    walk_at "cg"
    exact k
end
section
variable {P : Program} {w : World} {K : PySem.W.Frag} {mg : Str → Option Value} {base : Heap} {C_Model C_Remaining : Addr}
theorem ok_law_draw {f : Addr} {fd : FuncData} (F : Fun K "_law_draw" "_law_draw" s_law_draw f fd) (B : Bi K mg C_Model C_Remaining)  : FnOk P w K mg base CX0 1 f fd ["_law_tape_here", "_law_many"] spDraw := by
  have nd := sc_law_draw.nd
  refine F.ok sc_law_draw ?len (fun cdv A outer s H vs Q E hr h => ?body)
  case len =>
    rintro vs H Q E ⟨t, c, m, rfl, _⟩
    rfl
  case body =>
    obtain ⟨t, c, m, rfl, T, hm1, hm2, q⟩ := h
    refine ⟨_, (Evl.pss_cut (ps_if (pt_cmpR op_lt (pe_ix (ixL K) (pv 0) pe_int (fun _ _ => rfl)) (pv 1) (nomark _))
      (pss_cons (ps_set (i := 2) nd rfl (Or.inl rfl) (pe_ix (ixL K) (pv 0) pe_int (fun _ _ => rfl)))
      (pss_cons (ps_set (i := 3) nd rfl (Or.inl rfl) (pe_ix (ixL K) (pv 0) pe_int (fun _ _ => rfl)))
      (pss_cons (ps_set (i := 4) nd rfl (Or.inl rfl) pe_int)
      (Evl.pss_cut (ps_if (pt_cmpR op_lt (pv 3) (pe_callB (cgLen K) (by rfl) B.n_len PySem.boot_len (pa_cons (pv 2) pa_nil)) (nomark _))
      (pss_one (ps_set (i := 4) nd rfl (Or.inl rfl) (pe_ix (ixL K) (pv 2) (pv 3) (fun _ _ => rfl))))
      pss_nil)
      (Evl.pss_cut (ps_if (pt_cmpR op_lt (pv 4) pe_int (nomark _))
      (pss_one (ps_set (i := 4) nd rfl (Or.inl rfl) (pe_op op_sub (pe_op op_mul (pe_un un_neg pe_int) (pv 4)) pe_int)))
      pss_nil)
      (Evl.pss_cut (ps_if (pt_cmpR op_lt (pv 4) (pe_op op_pow pe_int pe_int) (nomark _))
      (pss_cons (ps_set (i := 4) nd rfl (Or.inl rfl) (pe_op op_mod (pe_callTy cg_int (by rfl) B.n_int PyProof.Rows.boot_int (pa_cons (pe_op op_add (pe_op op_add (pe_op op_mul (pv 4) pe_int) (pe_op op_mul (pv 3) pe_int)) pe_int) pa_nil)) pe_int))
      (pss_one (ps_set (i := 4) nd rfl (Or.inl rfl) (pe_op op_mod (pe_callTy cg_int (by rfl) B.n_int PyProof.Rows.boot_int (pa_cons (pe_op op_add (pe_op op_add (pe_op op_mul (pv 4) pe_int) (pe_op op_mul (pv 3) pe_int)) pe_int) pa_nil)) pe_int))))
      pss_nil)
      (pss_cons (ps_asg (pe_op op_add (pv 3) pe_int) (pg_sub (pv 0) pe_int set_list))
      (pss_one (ps_asg (pv 4) (pg_sub (pv 0) pe_int set_list))))))))))
      pss_nil)
      (pss_cons (ps_set (i := 5) nd rfl (Or.inl rfl) (pe_op op_mod (pe_callTy cg_int (by rfl) B.n_int PyProof.Rows.boot_int (pa_cons (pe_ix (ixL K) (pv 0) pe_int (fun _ _ => rfl)) pa_nil)) (pv 1)))
      (pss_cons (ps_asg (pe_op op_fdivW (pe_ix (ixL K) (pv 0) pe_int (fun _ _ => rfl)) (pv 1)) (pg_sub (pv 0) pe_int set_list))
      (pss_one (ps_ret (pv 5)))))), ?_⟩
    try dsimp only [L2.cxOf, L2.Cx.nox, L2.Cx.wish]
    rw [st_law_draw]
    obtain ⟨ns, k, z, h1, h2, hk, hz⟩ := id T.ex
    have net := T.ne
    show Evl.tCut _ _ _ _ _
    refine ⟨fun σ' H1 => ∃ (k z : Int) (x1 x2 x3 x4 : Option V), σ' = [some (V.ref t), some (.int m), x1, x2, x3, x4] ∧ H1 t = some (.lst [.ref c, .int k, .int z]) ∧ H1 c = some (.lst (ns.map V.int)) ∧ 0 ≤ k ∧ 0 ≤ z ∧ (H1 = H ∨ Kp [t] H H1), ?_, ?_⟩
    · walk_at "cg"
      refine if_S (fun hc => ?_) (fun hc => ?_)
      · walk_at "cg"
        refine ⟨fun σ' H1 => ∃ z' : Int, σ' = [some (V.ref t), some (.int m), some (V.ref c), some (.int k), some (.int z'), none] ∧ H = H1, ?_, ?_⟩
        · walk_at "cg"
          refine if_S (fun hk1 => ?_) (fun hk1 => ?_)
          · walk_at "cg"
            rw [List.length_map] at hk1
            refine r_ixL h2 (v := .int (ns.getD k.toNat 0)) ?_ ?_
            · have e : k.toNat < ns.length := by omega
              simp [atI, ixN, hk, hk1, e]
            · walk_at "cg"
              exact ⟨_, rfl, rfl⟩
          · walk_at "cg"
            exact ⟨_, rfl, rfl⟩
        · rintro σ' H1 ⟨z1, rfl, rfl⟩
          refine ⟨fun σ' H2 => ∃ z' : Int, 0 ≤ z' ∧ σ' = [some (V.ref t), some (.int m), some (V.ref c), some (.int k), some (.int z'), none] ∧ H = H2, ?_, ?_⟩
          · walk_at "cg"
            refine if_S (fun hk1 => ?_) (fun hk1 => ?_)
            · walk_at "cg"
              exact ⟨_, by omega, rfl, rfl⟩
            · walk_at "cg"
              exact ⟨_, by omega, rfl, rfl⟩
          · rintro σ' H2 ⟨z2, hz2, rfl, rfl⟩
            refine ⟨fun σ' H2 => ∃ z' : Int, 0 ≤ z' ∧ σ' = [some (V.ref t), some (.int m), some (V.ref c), some (.int k), some (.int z'), none] ∧ H = H2, ?_, ?_⟩
            · walk_at "cg"
              refine if_S (fun hk1 => ?_) (fun hk1 => ?_)
              · walk_at "cg"
                exact ⟨_, by omega, rfl, rfl⟩
              · walk_at "cg"
                exact ⟨_, hz2, rfl, rfl⟩
            · rintro σ' H2 ⟨z3, hz3, rfl, rfl⟩
              walk_at "cg"
              intro H2 e1 k1
              walk_at "cg"
              intro H3 e2 k2
              walk_at "cg"
              exact ⟨k + 1, z3, _, _, _, _, rfl, e2, k2.get1 net.symm (k1.get1 net.symm h2), by omega, hz3, .inr ⟨fun b o hb e => k2.k b o hb (k1.k b o hb e), k1.mu⟩⟩
      · walk_at "cg"
        exact ⟨k, z, _, _, _, _, rfl, h1, h2, hk, hz, .inl rfl⟩
    · rintro σ' H1 ⟨k, z, x1, x2, x3, x4, rfl, g1, g2, gk, gz, hk⟩
      walk_at "cg"
      refine r_rI (bigB_ok hm1 hm2) ?_
      walk_at "cg"
      intro H2 e1 k1
      walk_at "cg"
      refine q _ _ (Int.emod_nonneg _ (by omega)) (Int.emod_lt_of_pos _ (by omega)) ⟨ns, k, _, e1, k1.get1 net.symm g2, gk, Int.ediv_nonneg gz (by omega)⟩ ?_
      rcases hk with rfl | hk
      · exact k1
      · exact ⟨fun b o hb e => k1.k b o hb (hk.k b o hb e), hk.mu⟩

theorem ok_law_tape {f : Addr} {fd : FuncData} (F : Fun K "_law_tape" "_law_tape" s_law_tape f fd) (B : Bi K mg C_Model C_Remaining)  : FnOk P w K mg base CX0 1 f fd ["_law_script"] (spTape K) := by
  have nd := sc_law_tape.nd
  refine F.ok sc_law_tape ?len (fun cdv A outer s H vs Q E hr h => ?body)
  case len =>
    rintro vs H Q E ⟨a, ns, rfl, _⟩
    rfl
  case body =>
    obtain ⟨a, ns, rfl, hS, q⟩ := h
    refine ⟨_, (pss_one (ps_ret (pe_lst (pa_cons (pe_callTy (cgList K) (by rfl) B.n_list (by decide +kernel) (pa_cons (pv 0) pa_nil)) (pa_cons pe_int (pa_cons pe_int pa_nil)))))), ?_⟩
    try dsimp only [L2.cxOf, L2.Cx.nox, L2.Cx.wish]
    rw [st_law_tape]
    walk_at "cg"
    rename_i c H1 hc h1 k1 t H2 ht h2 k2
    exact q _ _ _ (Kp.free0 (by assumption) ht) hc ⟨ns, 0, 0, h2, k2.get0 h1, by decide, by decide⟩ (by walk_at "cg kp")

theorem ok_law_same {f : Addr} {fd : FuncData} (F : Fun K "_law_same" "_law_same" s_law_same f fd) (B : Bi K mg C_Model C_Remaining)  : FnOk P w K mg base CX0 1 f fd ["_law_answer", "_law_due"] spSame := by
  have nd := sc_law_same.nd
  refine F.ok sc_law_same ?len (fun cdv A outer s H vs Q E hr h => ?body)
  case len =>
    rintro vs H Q E ⟨a, b, rfl, _⟩
    rfl
  case body =>
    obtain ⟨a, b, rfl, q⟩ := h
    refine ⟨_, (pss_one (ps_ret (pe_and (pe_callB (cgIsi K) (by rfl) B.n_isinstance (by decide +kernel) (pa_cons (pv 0) (pa_cons (pe_bltn (v := .ty "bool") rfl B.n_bool (by decide +kernel) rfl) pa_nil))) (pe_one (pe_cmpR op_eq (pv 0) (pv 1) (nomark _)))))), ?_⟩
    try dsimp only [L2.cxOf, L2.Cx.nox, L2.Cx.wish]
    rw [st_law_same]
    walk_at "cg"
    exact q

theorem ok_law_terms {f : Addr} {fd : FuncData} (F : Fun K "_law_terms" "_law_terms" s_law_terms f fd) (B : Bi K mg C_Model C_Remaining) (D_law_draw : Is P w K mg base CX0 1 "_law_draw" ["_law_tape_here", "_law_many"] spDraw) : FnOk P w K mg base CX0 2 f fd ["_law_tape_here", "_law_many"] (spLawTerms K) := by
  have nd := sc_law_terms.nd
  refine F.ok sc_law_terms ?len (fun cdv A outer s H vs Q E hr h => ?body)
  case len =>
    rintro vs H Q E ⟨t, c, m, rfl, _⟩
    rfl
  case body =>
    obtain ⟨t, c, m, rfl, T, m0, m1, q⟩ := h
    refine ⟨_, (pss_cons (ps_set (i := 2) nd rfl (Or.inl rfl) (pe_lst pa_nil))
      (pss_cons (ps_for PassesOwn.never rfl (pi_range1 rfl B.n_range (pa_cons (pv 1) pa_nil)) (pg_name (i := 3) nd rfl (Or.inl rfl))
      (pss_cons (ps_set (i := 4) nd rfl (Or.inl rfl) (pe_op op_sub (pe_is D_law_draw (hr.mono (by decide)) rfl pass0 (pa_cons (pv 0) (pa_cons pe_int pa_nil))) pe_int))
      (pss_one (ps_if (pt_cmpR op_ne (pv 4) pe_int (nomark _))
      (pss_one (ps_expr (pe_bm PySem.F.plainAttrs_list PySem.F.slot_list_append PySem.F.type_list_append mt_append (pv 2) (pa_cons (pe_tup (pa_cons (pv 3) (pa_cons (pv 4) pa_nil))) pa_nil))))
      pss_nil))))
      (pss_one (ps_ret (pe_callTy (cgTuple K) (by rfl) B.n_tuple (by decide +kernel) (pa_cons (pv 2) pa_nil)))))), ?_⟩
    try dsimp only [L2.cxOf, L2.Cx.nox, L2.Cx.wish]
    rw [st_law_terms]
    walk_at "cg"
    rename_i l H1 hl el kl
    have nlt : l ≠ t := by walk_at "cg ne"
    have nlc : l ≠ c := by walk_at "cg ne"
    have T1 : Tp t c H1 := by walk_at "cg h"
    refine r_forR (fun i σ' H' => ∃ (ts : Tms) (refs : List V) (x3 x4 : Option V), σ' = [some (.ref t), some (.int m), some (.ref l), x3, x4] ∧ Tp t c H' ∧ Kp [t] H H' ∧ H' l = some (.lst refs) ∧ ImAll K H' refs (ts.map tD) ∧
      (∀ z ∈ ts, 0 ≤ z.1 ∧ z.1 < i ∧ z.2 ≠ 0 ∧ -3 ≤ z.2 ∧ z.2 ≤ 3) ∧ (ts.map (·.1)).Pairwise (· < ·) ∧ ts.length ≤ i) ⟨[], [], none, none, rfl, T1, by walk_at "cg kp", el, .nil, (fun z hz => by cases hz), List.Pairwise.nil, Nat.le_refl _⟩ ?_ ?_
    · rintro i σ' H2 hi ⟨ts, refs, x3, x4, rfl, T2, k2, e2, A2, ok, asc, hn⟩
      have hrl := mapLenP A2
      clear T1 el kl T
      walk_at "cg"
      refine if_S (fun h0 => ?_) (fun h0 => ?_)
      · walk_at "cg"
        rename_i d H3 d0 d6 T3 k3 pn H4 hpn sn k4 H5 e5 k5
        refine ⟨ts ++ [((i : Int), d - 3)], refs ++ [.ref pn], some (.int (0 + (i : Int))), some (.int (d - 3)), rfl, by walk_at "cg h", by walk_at "cg kp", e5, ?_, fun z hz => ?_, ?_, by simp; omega⟩
        · rw [List.map_append]
          refine (k5.imAll (k4.imAll (k3.imAll A2))).snoc (.tup (k5.tup sn) ?_)
          rw [show (0 + (i : Int)) = (i : Int) by omega]
          exact .cons (.int _) (.cons (.int _) .nil)
        · rcases List.mem_append.mp hz with h | h
          · have q := ok z h
            omega
          · rw [List.mem_singleton] at h
            subst h
            simp only
            omega
        · rw [List.map_append, List.pairwise_append]
          refine ⟨asc, List.pairwise_singleton .., fun a ha b hb => ?_⟩
          obtain ⟨z, hz, rfl⟩ := List.mem_map.mp ha
          have q := ok z hz
          simp only [List.map_cons, List.map_nil, List.mem_singleton] at hb
          subst hb
          exact q.2.1
      · walk_at "cg"
        rename_i d H3 d0 d6 T3 k3
        exact ⟨ts, refs, some (.int (0 + (i : Int))), some (.int (d - 3)), rfl, by walk_at "cg h", by walk_at "cg kp", by walk_at "cg h", by walk_at "cg h", (fun z hz => by have q := ok z hz; omega), asc, by omega⟩
    · rintro σ' H2 ⟨ts, refs, x3, x4, rfl, T2, k2, e2, A2, ok, asc, hn⟩
      clear T1 el kl T
      walk_at "cg"
      exact q _ _ _ (.tup (by assumption) (by walk_at "cg h")) ⟨(fun z hz => by have q := ok z hz; omega), asc, by omega⟩ (by walk_at "cg h") (by walk_at "cg kp")
theorem ok_law_literal {f : Addr} {fd : FuncData} (F : Fun K "_law_literal" "_law_literal" s_law_literal f fd) (B : Bi K mg C_Model C_Remaining) (D_law_draw : Is P w K mg base CX0 1 "_law_draw" ["_law_tape_here", "_law_many"] spDraw) : FnOk P w K mg base CX0 2 f fd ["_law_tape_here", "_law_many"] (spLawLiteral K) := by
  have nd := sc_law_literal.nd
  refine F.ok sc_law_literal ?len (fun cdv A outer s H vs Q E hr h => ?body)
  case len =>
    rintro vs H Q E ⟨t, c, m, rfl, _⟩
    rfl
  case body =>
    obtain ⟨t, c, m, rfl, T, m0, m1, q⟩ := h
    refine ⟨_, (pss_cons (ps_set (i := 2) nd rfl (Or.inl rfl) (pe_ix (ixL K) (pe_lst (pa_cons pe_str (pa_cons pe_str (pa_cons pe_str (pa_cons pe_str pa_nil))))) (pe_is D_law_draw (hr.mono (by decide)) rfl pass0 (pa_cons (pv 0) (pa_cons pe_int pa_nil))) (fun _ _ => rfl)))
      (pss_one (ps_ret (pe_tup (pa_cons (pe_is D_law_draw (hr.mono (by decide)) rfl pass0 (pa_cons (pv 0) (pa_cons (pv 1) pa_nil))) (pa_cons (pv 2) (pa_cons (pe_op op_sub (pe_is D_law_draw (hr.mono (by decide)) rfl pass0 (pa_cons (pv 0) (pa_cons pe_int pa_nil))) pe_int) pa_nil))))))), ?_⟩
    try dsimp only [L2.cxOf, L2.Cx.nox, L2.Cx.wish]
    rw [st_law_literal]
    have mb : m < bigB := by
      have e : (60 : Int) < bigB := by decide
      omega
    walk_at "cg"
    refine ix_rel4 (by walk_at "cg h") (by assumption) (by assumption) fun r => ?_
    walk_at "cg"
    rename_i d1 _ _ _ _ _ d2 _ _ _ _ _ p1 H5 _ _ _
    exact q p1 ⟨d1, r, d2 - 3⟩ _ (by assumption) ⟨by assumption, by assumption, by simp only; omega, by simp only; omega⟩ (by walk_at "cg h") (by walk_at "cg kp")
theorem ok_law_some {f : Addr} {fd : FuncData} (F : Fun K "_law_some" "_law_some" s_law_some f fd) (B : Bi K mg C_Model C_Remaining) (D_law_draw : Is P w K mg base CX0 1 "_law_draw" ["_law_tape_here", "_law_many"] spDraw) : FnOk P w K mg base CX0 2 f fd ["_law_tape_here", "_law_many", "_law_least"] (spLawSome K) := by
  have nd := sc_law_some.nd
  refine F.ok sc_law_some ?len (fun cdv A outer s H vs Q E hr h => ?body)
  case len =>
    rintro vs H Q E ⟨t, c, m, k, rfl, _⟩
    rfl
  case body =>
    obtain ⟨t, c, m, k, rfl, T, k0, k1, m1, q⟩ := h
    refine ⟨_, (pss_cons (ps_set (i := 3) nd rfl (Or.inl rfl) (pe_listRg rfl (by rfl) B.n_list (prg_1 (by rfl) B.n_range (pv 1))))
      (pss_cons (ps_set (i := 4) nd rfl (Or.inl rfl) (pe_lst pa_nil))
      (pss_cons (ps_for PassesOwn.never rfl (pi_range1 rfl B.n_range (pa_cons (pe_op op_add (pv 2) (pe_is D_law_draw (hr.mono (by decide)) rfl pass0 (pa_cons (pv 0) (pa_cons (pe_op op_add (pe_op op_sub (pv 1) (pv 2)) pe_int) pa_nil)))) pa_nil)) (pg_name (i := 5) nd rfl (Or.inl rfl))
      (pss_one (ps_expr (pe_bm PySem.F.plainAttrs_list PySem.F.slot_list_append PySem.F.type_list_append mt_append (pv 4) (pa_cons (pe_bm PySem.F.plainAttrs_list PySem.F.slot_list_pop PySem.F.type_list_pop mt_popAt (pv 3) (pa_cons (pe_is D_law_draw (hr.mono (by decide)) rfl pass0 (pa_cons (pv 0) (pa_cons (pe_callB (cgLen K) (by rfl) B.n_len PySem.boot_len (pa_cons (pv 3) pa_nil)) pa_nil))) pa_nil)) pa_nil)))))
      (pss_one (ps_ret (pe_callTy (cgTuple K) (by rfl) B.n_tuple (by decide +kernel) (pa_cons (pv 4) pa_nil))))))), ?_⟩
    try dsimp only [L2.cxOf, L2.Cx.nox, L2.Cx.wish]
    rw [st_law_some]
    have mb : m - k + 1 < bigB := by
      have e : (62 : Int) < bigB := by decide
      omega
    walk_at "cg"
    refine r_lstRg (by omega) (by omega) fun l1 H1 hl1 el1 kl1 => ?_
    walk_at "cg"
    rename_i l2 H2 hl2 el2 kl2 d H3 d0 d1 T3 kd
    have n1t : l1 ≠ t := by walk_at "cg ne"
    have n1c : l1 ≠ c := by walk_at "cg ne"
    have n2t : l2 ≠ t := by walk_at "cg ne"
    have n2c : l2 ≠ c := by walk_at "cg ne"
    have n12 : l1 ≠ l2 := ne_newL hl2 el1
    have K3 : Kp [t] H H3 := by walk_at "cg kp"
    have E1 : H3 l1 = some (.lst ((rgI 0 m).map V.int)) := Kp.get1 kd n1t (kl2.get0 el1)
    have E2 : H3 l2 = some (.lst []) := Kp.get1 kd n2t el2
    have f1 : H l1 = none := hl1
    have f2 : H l2 = none := by walk_at "cg fr"
    clear T kl1 kl2 el1 el2 kd hl2
    refine r_forR (fun i σ' H' => ∃ (rs fs : List Int) (x5 : Option V), σ' = [some (.ref t), some (.int m), some (.int k), some (.ref l1), some (.ref l2), x5] ∧ Tp t c H' ∧ Kp [t] H H' ∧ H' l1 = some (.lst (rs.map V.int)) ∧ H' l2 = some (.lst (fs.map V.int)) ∧
      (fs ++ rs).Perm (rgI 0 m) ∧ fs.length = i) ⟨rgI 0 m, [], _, rfl, T3, K3, E1, E2, by rw [List.nil_append], rfl⟩ ?_ ?_
    · clear T3 K3 E1 E2
      rintro i σ' H4 hi ⟨rs, fs, x5, rfl, T4, k4, e1, e2, pm, hn⟩
      have tot := pm.length_eq
      rw [List.length_append, rgI_len] at tot
      have hrl : (rs.map V.int).length = rs.length := List.length_map ..
      have hr1 : 1 ≤ (((rs.map V.int).length : Nat) : Int) := by omega
      have hrb : (((rs.map V.int).length : Nat) : Int) < bigB := by
        have e : (62 : Int) < bigB := by decide
        omega
      have hfl : (fs.map V.int).length = fs.length := List.length_map ..
      walk_at "cg"
      rename_i d' H5 d0' d1' T5 k5
      refine r_pop (by walk_at "cg h") d0' (by omega) (by omega) fun y H6 ey e6 k6 => ?_
      rw [List.getElem?_map] at ey
      cases hy : rs[d'.toNat]? with
      | none =>
        rw [hy] at ey
        cases ey
      | some y' =>
        rw [hy] at ey
        cases ey
        have E6 : H6 l2 = some (.lst (fs.map V.int)) := Kp.get1 k6 n12.symm (by walk_at "cg h")
        walk_at "cg"
        rename_i H7 e7 k7
        refine ⟨rs.eraseIdx d'.toNat, fs ++ [y'], _, rfl, by walk_at "cg h", by walk_at "cg kp", ?_, by rw [e7, List.map_append]; rfl, some_step pm hy, by simp [hn]⟩
        rw [← erase_map]
        exact Kp.get1 k7 n12 e6
    · clear T3 K3 E1 E2
      rintro σ' H4 ⟨rs, fs, x5, rfl, T4, k4, e1, e2, pm, hn⟩
      walk_at "cg"
      have tot := pm.length_eq
      rw [List.length_append, rgI_len] at tot
      have nd : (fs ++ rs).Nodup := pm.nodup_iff.mpr ((rgI_asc 0 m).imp fun {a b} h => by omega)
      refine q _ fs _ (by assumption) ⟨(List.nodup_append.mp nd).1, fun u hu => ?_⟩ (by omega) (by omega) (by walk_at "cg h") (by walk_at "cg kp")
      have hm := pm.mem_iff.mp (List.mem_append_left rs hu)
      rw [rgI_mem] at hm
      omega

theorem ok_law_body {f : Addr} {fd : FuncData} (F : Fun K "_law_body" "_law_body" s_law_body f fd) (B : Bi K mg C_Model C_Remaining) (D_law_draw : Is P w K mg base CX0 1 "_law_draw" ["_law_tape_here", "_law_many"] spDraw) (D_law_literal : Is P w K mg base CX0 2 "_law_literal" ["_law_tape_here", "_law_many"] (spLawLiteral K)) (D_law_terms : Is P w K mg base CX0 2 "_law_terms" ["_law_tape_here", "_law_many"] (spLawTerms K)) (D_law_some : Is P w K mg base CX0 2 "_law_some" ["_law_tape_here", "_law_many", "_law_least"] (spLawSome K)) : FnOk P w K mg base CX0 3 f fd ["_law_tape_here", "_law_many"] (spLawBody K) := by
  have nd := sc_law_body.nd
  refine F.ok sc_law_body ?len (fun cdv A outer s H vs Q E hr h => ?body)
  case len =>
    rintro vs H Q E ⟨t, c, m, rfl, _⟩
    rfl
  case body =>
    obtain ⟨t, c, m, rfl, T, m0, m1, q⟩ := h
    refine ⟨_, (pss_cons (ps_set (i := 2) nd rfl (Or.inl rfl) (pe_is D_law_draw (hr.mono (by decide)) rfl pass0 (pa_cons (pv 0) (pa_cons pe_int pa_nil))))
      (pss_cons (ps_set (i := 3) nd rfl (Or.inl rfl) (pe_ix (ixL K) (pe_lst (pa_cons pe_str (pa_cons pe_str (pa_cons pe_str pa_nil)))) (pe_is D_law_draw (hr.mono (by decide)) rfl pass0 (pa_cons (pv 0) (pa_cons pe_int pa_nil))) (fun _ _ => rfl)))
      (pss_cons (ps_if (pt_cmpR op_eq (pv 2) pe_int (nomark _))
      (pss_cons (ps_set (i := 4) nd rfl (Or.inl rfl) (pe_lst pa_nil))
      (pss_cons (ps_for PassesOwn.never rfl (pi_range1 rfl B.n_range (pa_cons (pe_op op_add pe_int (pe_is D_law_draw (hr.mono (by decide)) rfl pass0 (pa_cons (pv 0) (pa_cons pe_int pa_nil)))) pa_nil)) (pg_name (i := 5) nd rfl (Or.inl rfl))
      (pss_cons (ps_set (i := 6) nd rfl (Or.inl rfl) (pe_is D_law_literal (hr.mono (by decide)) rfl pass0 (pa_cons (pv 0) (pa_cons (pv 1) pa_nil))))
      (pss_one (ps_if (pt_cmpR (notInDL K hr) (pv 6) (pv 4) rfl)
      (pss_one (ps_expr (pe_bm PySem.F.plainAttrs_list PySem.F.slot_list_append PySem.F.type_list_append mt_append (pv 4) (pa_cons (pv 6) pa_nil))))
      pss_nil))))
      (pss_one (ps_ret (pe_tup (pa_cons pe_str (pa_cons (pe_callTy (cgTuple K) (by rfl) B.n_tuple (by decide +kernel) (pa_cons (pv 4) pa_nil)) pa_nil)))))))
      pss_nil)
      (pss_cons (ps_if (pt_cmpR op_eq (pv 2) pe_int (nomark _))
      (pss_cons (ps_set (i := 6) nd rfl (Or.inl rfl) (pe_is D_law_literal (hr.mono (by decide)) rfl pass0 (pa_cons (pv 0) (pa_cons (pv 1) pa_nil))))
      (pss_one (ps_ret (pe_tup (pa_cons pe_str (pa_cons (pv 6) (pa_cons (pe_is D_law_terms (hr.mono (by decide)) rfl pass0 (pa_cons (pv 0) (pa_cons (pv 1) pa_nil))) (pa_cons (pv 3) (pa_cons (pe_op op_sub (pe_is D_law_draw (hr.mono (by decide)) rfl pass0 (pa_cons (pv 0) (pa_cons pe_int pa_nil))) pe_int) pa_nil)))))))))
      pss_nil)
      (pss_cons (ps_if (PW.pt (pw_and (pt_cmpR op_eq (pv 2) pe_int (nomark _)) (pw_and1 (pt_cmpR op_gt (pv 1) pe_int (nomark _)))))
      (pss_one (ps_ret (pe_tup (pa_cons pe_str (pa_cons (pe_is D_law_some (hr.mono (by decide)) rfl pass0 (pa_cons (pv 0) (pa_cons (pv 1) (pa_cons pe_int pa_nil)))) pa_nil)))))
      pss_nil)
      (pss_cons (ps_if (pt_cmpR op_eq (pv 2) pe_int (nomark _))
      (pss_cons (ps_set (i := 7) nd rfl (Or.inl rfl) (pe_slice (slA K) (pe_is D_law_some (hr.mono (by decide)) rfl pass0 (pa_cons (pv 0) (pa_cons (pv 1) (pa_cons pe_int pa_nil)))) po_none (po_some pe_int)))
      (pss_cons (ps_set (i := 8) nd rfl (Or.inl rfl) (pe_lst pa_nil))
      (pss_cons (ps_for PassesOwn.never rfl (pi_range1 rfl B.n_range (pa_cons (pe_op op_add pe_int (pe_is D_law_draw (hr.mono (by decide)) rfl pass0 (pa_cons (pv 0) (pa_cons pe_int pa_nil)))) pa_nil)) (pg_name (i := 5) nd rfl (Or.inl rfl))
      (pss_one (ps_expr (pe_bm PySem.F.plainAttrs_list PySem.F.slot_list_append PySem.F.type_list_append mt_append (pv 8) (pa_cons (pe_callTy (cgTuple K) (by rfl) B.n_tuple (by decide +kernel) (pa_cons (by exact pe_lc (own := [("_law_v", 10)]) (g := (gName 10)) (tt := tYes) rfl nd (pi_tup (pv 7)) (blkOk_by (N := ["_law_tape_here", "_law_many", "_law_kind", "_law_relation", "_law_literals", "_law_k", "_law_literal_here", "_law_numbers", "_law_rows", "_law_entries", "_law_v"]) (sc := defScope s_law_body) (by decide +kernel)) (fun _ _ _ _ _ => (pg_name (i := 10) nd rfl (Or.inl rfl))) (fun _ _ _ _ _ => pts_nil) (fun _ _ _ _ _ => (pe_op op_sub (pe_is D_law_draw (hr.mono (by decide)) rfl pass0 (pa_cons (pv 0) (pa_cons pe_int pa_nil))) pe_int))) pa_nil)) pa_nil)))))
      (pss_one (ps_ret (pe_tup (pa_cons pe_str (pa_cons (pv 7) (pa_cons (pe_callTy (cgTuple K) (by rfl) B.n_tuple (by decide +kernel) (pa_cons (pv 8) pa_nil)) pa_nil)))))))))
      pss_nil)
      (pss_cons (ps_if (pt_cmpR op_eq (pv 2) pe_int (nomark _))
      (pss_cons (ps_setLc (i := 9) (own := [("_law_k", 5)]) (g := (gName 5)) (tt := tYes) rfl nd rfl rfl (sw_true rfl rfl rfl (by decide +kernel)) (pi_range1 rfl B.n_range (pa_cons (pe_op op_add pe_int (pe_is D_law_draw (hr.mono (by decide)) rfl pass0 (pa_cons (pv 0) (pa_cons pe_int pa_nil)))) pa_nil)) (blkOk_by (N := ["_law_tape_here", "_law_many", "_law_kind", "_law_relation", "_law_literals", "_law_k", "_law_literal_here", "_law_numbers", "_law_rows", "_law_entries", "_law_v"]) (sc := defScope s_law_body) (by decide +kernel)) (fun _ _ _ _ _ => (pg_name (i := 5) nd rfl (Or.inl rfl))) (fun _ _ _ _ _ => pts_nil) (fun _ _ _ _ _ => (pe_op op_sub (pe_is D_law_draw (hr.mono (by decide)) rfl pass0 (pa_cons (pv 0) (pa_cons pe_int pa_nil))) pe_int)))
      (pss_one (ps_ret (pe_tup (pa_cons pe_str (pa_cons (pe_is D_law_draw (hr.mono (by decide)) rfl pass0 (pa_cons (pv 0) (pa_cons (pv 1) pa_nil))) (pa_cons (pe_callTy (cgTuple K) (by rfl) B.n_tuple (by decide +kernel) (pa_cons (pv 9) pa_nil)) (pa_cons (pe_is D_law_draw (hr.mono (by decide)) rfl pass0 (pa_cons (pv 0) (pa_cons (pv 1) pa_nil))) pa_nil))))))))
      pss_nil)
      (pss_cons (ps_if (pt_cmpR op_eq (pv 2) pe_int (nomark _))
      (pss_one (ps_ret (pe_tup (pa_cons pe_str (pa_cons (pe_is D_law_draw (hr.mono (by decide)) rfl pass0 (pa_cons (pv 0) (pa_cons (pv 1) pa_nil))) (pa_cons (pe_is D_law_draw (hr.mono (by decide)) rfl pass0 (pa_cons (pv 0) (pa_cons (pv 1) pa_nil))) (pa_cons (pe_is D_law_draw (hr.mono (by decide)) rfl pass0 (pa_cons (pv 0) (pa_cons (pv 1) pa_nil))) pa_nil)))))))
      pss_nil)
      (pss_one (ps_ret (pe_tup (pa_cons pe_str (pa_cons (pe_is D_law_terms (hr.mono (by decide)) rfl pass0 (pa_cons (pv 0) (pa_cons (pv 1) pa_nil))) (pa_cons (pv 3) (pa_cons (pe_op op_sub (pe_is D_law_draw (hr.mono (by decide)) rfl pass0 (pa_cons (pv 0) (pa_cons pe_int pa_nil))) pe_int) pa_nil))))))))))))))), ?_⟩
    try dsimp only [L2.cxOf, L2.Cx.nox, L2.Cx.wish]
    rw [st_law_body]
    have mb : m < bigB := by
      have e : (60 : Int) < bigB := by decide
      omega
    walk_at "cg"
    rename_i dk Hk dk0 dk1 Tk kk pl H1 hpl epl kl dr H2 dr0 dr1 T2 k2
    refine ix_rel3 (by walk_at "cg h") dr0 dr1 fun r hr3 => ?_
    have K2 : Kp [t] H H2 := Kp.tr1 k2 (Kp.tr0 kl kk)
    clear kk epl kl k2 Tk T
    walk_at "cg"
    refine if_S (fun c2 => ?_) (fun c2 => ?_)
    · -- any
      walk_at "cg"
      rename_i l H3 hl el kl d H4 d0 d1 T4 kd
      have nlt : l ≠ t := by walk_at "cg ne"
      have nlc : l ≠ c := by walk_at "cg ne"
      have fl : H l = none := by
        refine K2.free hl fun b hb => ?_
        rw [List.mem_singleton] at hb
        subst hb
        exact T2.it
      have K4 : Kp [t] H H4 := Kp.tr1 kd (Kp.tr0 kl K2)
      have E4 : H4 l = some (.lst []) := Kp.get1 kd nlt el
      clear K2 T2 kl el kd
      refine r_forR (fun i σ' H' => ∃ (ls : List Lit) (refs : List V) (x5 x6 : Option V), σ' = [some (.ref t), some (.int m), some (.int dk), some (.str r.s), some (.ref l), x5, x6, none, none, none, none] ∧ Tp t c H' ∧ Kp [t] H H' ∧ H' l = some (.lst refs) ∧ ImAll K H' refs (ls.map Lit.d) ∧
        ls.Nodup ∧ (∀ x ∈ ls, litFit m x) ∧ ls.length ≤ i ∧ (0 < i → 0 < ls.length)) ⟨[], [], none, none, rfl, T4, K4, E4, .nil, List.nodup_nil, (fun z hz => by cases hz), Nat.le_refl _, fun h => absurd h (by decide)⟩ ?_ ?_
      · clear T4 K4 E4
        rintro i σ' H5 hi ⟨ls, refs, x5, x6, rfl, T5, k5, e5, A5, nd, ok, hn, h1⟩
        have hrl := mapLenP A5
        walk_at "cg"
        refine ⟨t, c, m, rfl, T5, by omega, by omega, fun p x H6 L6 f6 T6 k6 => ?_⟩
        have e6 := Kp.get1 k6 nlt e5
        have A6 := k6.imAll A5
        walk_at "cg"
        refine ⟨x.d, ls.map Lit.d, Im.dp (lit_mk L6), .lst (SqL.of e6) A6.dp, (Lit.shp x).ok, (Shp.list (n := 1) fun d hd => ?_).ok, ?_⟩
        · obtain ⟨z, _, rfl⟩ := List.mem_map.mp hd
          exact Lit.shp z
        rw [any_in Lit.eqv]
        walk_at "cg"
        refine if_NS (fun hm => ?_) (fun hm => ?_)
        · walk_at "cg"
          rename_i H7 e7 k7
          refine ⟨ls ++ [x], refs ++ [.ref p], _, _, rfl, by walk_at "cg h", by walk_at "cg kp", e7, ?_, ?_, fun z hz => ?_, by simp; omega, fun _ => by simp⟩
          · rw [List.map_append]
            exact (k7.imAll A6).snoc (k7.im (lit_mk L6))
          · rw [List.nodup_append]
            exact ⟨nd, by simp, fun a ha b hb => by rw [List.mem_singleton] at hb; subst hb; exact fun e => hm (e ▸ ha)⟩
          · rcases List.mem_append.mp hz with h | h
            · exact ok z h
            · rw [List.mem_singleton] at h
              subst h
              exact f6
        · walk_at "cg"
          exact ⟨ls, refs, _, _, rfl, by walk_at "cg h", by walk_at "cg kp", e6, A6, nd, ok, by omega, fun _ => List.length_pos_of_mem hm⟩
      · clear T4 K4 E4
        rintro σ' H5 ⟨ls, refs, x5, x6, rfl, T5, k5, e5, A5, nd, ok, hn, h1⟩
        have h1' := h1 (by omega)
        walk_at "cg"
        exact q _ (.any ls) _ (.tup (by assumption) (.cons (.str _) (.cons (.tup (by walk_at "cg h") (by walk_at "cg h")) .nil))) ⟨⟨h1', by omega⟩, nd, ok⟩ (by walk_at "cg h") (by walk_at "cg kp")
    · walk_at "cg"
      refine if_S (fun c3 => ?_) (fun c3 => ?_)
      · -- when
        walk_at "cg"
        refine ⟨t, c, m, rfl, by walk_at "cg h", by omega, by omega, fun p x H6 L6 f6 T6 k6 => ?_⟩
        walk_at "cg"
        refine ⟨t, c, m, rfl, by walk_at "cg h", by omega, by omega, fun p2 ts H7 I7 f7 T7 k7 => ?_⟩
        walk_at "cg"
        exact q _ (.when x ts r _) _ (.tup (by assumption) (.cons (.str _) (.cons (lit_mk (by walk_at "cg h")) (.cons (by walk_at "cg h") (.cons (.str _) (.cons (.int _) .nil)))))) ⟨f6, f7.fit (by omega), hr3, by omega, by omega⟩ (by walk_at "cg h") (by walk_at "cg kp")
      · walk_at "cg"
        refine if_S (fun c4 => ?_) (fun c4 => ?_)
        · walk_at "cg"
          refine if_S (fun c5 => ?_) (fun c5 => ?_)
          · walk_at "cg"
            refine ⟨t, c, m, 2, rfl, by walk_at "cg h", by omega, by omega, by omega, fun p us H6 S6 f6 u0 u1 T6 k6 => ?_⟩
            walk_at "cg"
            exact q _ (.diff us) _ (.tup (by assumption) (.cons (.str _) (.cons (intsT_im (by walk_at "cg h")) .nil))) ⟨⟨by omega, by omega⟩, f6⟩ (by walk_at "cg h") (by walk_at "cg kp")
          · -- row, one unknown
            walk_at "cg"
            refine ⟨t, c, m, rfl, by walk_at "cg h", by omega, by omega, fun p2 ts H7 I7 f7 T7 k7 => ?_⟩
            walk_at "cg"
            exact q _ (.row ts r _) _ (.tup (by assumption) (.cons (.str _) (.cons (by walk_at "cg h") (.cons (.str _) (.cons (.int _) .nil))))) ⟨f7.fit (by omega), hr3, by omega, by omega⟩ (by walk_at "cg h") (by walk_at "cg kp")
        · walk_at "cg"
          refine if_S (fun c5 => ?_) (fun c5 => ?_)
          · -- table
            walk_at "cg"
            refine ⟨t, c, m, 1, rfl, by walk_at "cg h", by omega, by omega, by omega, fun p us H6 S6 f6 u0 u1 T6 k6 => ?_⟩
            walk_at "cg"
            refine r_slA (n := 3) S6 fun p3 H7 S7 k7 => ?_
            have S7' : SqT K H7 p3 ((us.take 3).map V.int) := by rw [List.map_take]; exact S7
            have f7 : numFit m (us.take 3) := ⟨f6.1.sublist (List.take_sublist ..), fun u hu => f6.2 u (List.mem_of_mem_take hu)⟩
            have l7 : 1 ≤ (us.take 3).length ∧ (us.take 3).length ≤ 3 := by rw [List.length_take]; omega
            generalize us.take 3 = ws at S7' f7 l7
            have T7 : Tp t c H7 := T6.kp0 k7
            have K7 : Kp [t] H H7 := Kp.tr0 k7 (Kp.tr1 k6 K2)
            clear S7 k7 S6 k6 T6 K2 T2
            walk_at "cg"
            rename_i l H3 hl el kl d H4 d0 d1 T4 kd
            have nlt : l ≠ t := by walk_at "cg ne"
            have nlc : l ≠ c := by walk_at "cg ne"
            have fl : H l = none := by
              refine K7.free hl fun b hb => ?_
              rw [List.mem_singleton] at hb
              subst hb
              exact T7.it
            have K4 : Kp [t] H H4 := Kp.tr1 kd (Kp.tr0 kl K7)
            have E4 : H4 l = some (.lst []) := Kp.get1 kd nlt el
            have S4 : SqT K H4 p3 (ws.map V.int) := kd.tup (kl.tup S7')
            clear K7 T7 kl el kd S7'
            refine r_forR (fun i σ' H' => ∃ (rows : List (List Int)) (refs : List V) (x5 x6 x9 x10 x11 : Option V), σ' = [some (.ref t), some (.int m), some (.int dk), some (.str r.s), x5, x6, x9, some (.ref p3), some (.ref l), x10, x11] ∧ Tp t c H' ∧ Kp [t] H H' ∧ SqT K H' p3 (ws.map V.int) ∧ H' l = some (.lst refs) ∧ ImAll K H' refs (rows.map intsD) ∧
              (∀ x ∈ rows, x.length = ws.length ∧ entFit x) ∧ rows.length = i) ⟨[], [], _, _, _, _, _, rfl, T4, K4, S4, E4, .nil, (fun z hz => by cases hz), rfl⟩ ?_ ?_
            · clear T4 K4 E4 S4
              rintro i σ' H5 hi ⟨rows, refs, x5, x6, x9, x10, x11, rfl, T5, k5, S5, e5, A5, ok, hn⟩
              have hrl := mapLenP A5
              walk_at "cg"
              refine lcT_d S5 (imInts ws) PyData.int (fun _ z => -1000 ≤ z ∧ z ≤ 1000) T5 (by omega) (fun j b x H' R R' hb hx T' k' q' => ?_) (fun D H6 acc as hD eD hl2 hP hA T6 k6 => ?_)
              · walk_at "cg"
                exact q' _ _ _ (by omega) (.int _) (by walk_at "cg h") (by walk_at "cg kp")
              · have e6 := Kp.get1 k6 nlt e5
                have A6 := k6.imAll A5
                rw [hA.ints] at eD
                walk_at "cg"
                rename_i p9 H9 hp9 s9 k9 H10 e10 k10
                refine ⟨rows ++ [as], refs ++ [.ref p9], _, _, _, _, _, rfl, by walk_at "cg h", by walk_at "cg kp", by walk_at "cg h", e10, ?_, fun z hz => ?_, by simp [hn]⟩
                · rw [List.map_append]
                  exact (k10.imAll (k9.imAll A6)).snoc (k10.im (intsT_im s9))
                · rcases List.mem_append.mp hz with h | h
                  · exact ok z h
                  · rw [List.mem_singleton] at h
                    subst h
                    refine ⟨hl2, fun e he => ?_⟩
                    obtain ⟨j, hj⟩ := List.getElem?_of_mem he
                    obtain ⟨_, _, g⟩ := hP j e hj
                    exact g
            · clear T4 K4 E4 S4
              rintro σ' H5 ⟨rows, refs, x5, x6, x9, x10, x11, rfl, T5, k5, S5, e5, A5, ok, hn⟩
              walk_at "cg"
              exact q _ (.table ws rows) _ (.tup (by assumption) (.cons (.str _) (.cons (intsT_im (by walk_at "cg h")) (.cons (.tup (by walk_at "cg h") (by walk_at "cg h")) .nil)))) ⟨⟨⟨l7.1, by omega⟩, f7⟩, ⟨by omega, by omega⟩, ok⟩ (by walk_at "cg h") (by walk_at "cg kp")
          · walk_at "cg"
            refine if_S (fun c6 => ?_) (fun c6 => ?_)
            · -- element
              walk_at "cg"
              rename_i d H4 d0 d1 T4 kd
              refine lcR_d (K := K) PyData.int (fun _ z => -1000 ≤ z ∧ z ≤ 1000) T4 (by omega) (fun j H' R R' hj T' k' q' => ?_) (fun D H6 acc as hD eD hl2 hP hA T6 k6 => ?_)
              · walk_at "cg"
                exact q' _ _ _ (by omega) (.int _) (by walk_at "cg h") (by walk_at "cg kp")
              · rw [hA.ints] at eD
                walk_at "cg"
                refine q _ (.elem _ as _) _ (.tup (by assumption) (.cons (.str _) (.cons (.int _) (.cons (intsT_im (by walk_at "cg h")) (.cons (.int _) .nil))))) ⟨⟨⟨by assumption, by assumption⟩, by assumption, by assumption⟩, ⟨by omega, by omega⟩, fun e he => ?_⟩ (by walk_at "cg h") (by walk_at "cg kp")
                obtain ⟨j, hj⟩ := List.getElem?_of_mem he
                exact hP j e hj
            · walk_at "cg"
              refine if_S (fun c7 => ?_) (fun c7 => ?_)
              · -- times
                walk_at "cg"
                exact q _ (.times _ _ _) _ (.tup (by assumption) (.cons (.str _) (.cons (.int _) (.cons (.int _) (.cons (.int _) .nil))))) ⟨⟨by assumption, by assumption⟩, ⟨by assumption, by assumption⟩, by assumption, by assumption⟩ (by walk_at "cg h") (by walk_at "cg kp")
              · -- row
                walk_at "cg"
                refine ⟨t, c, m, rfl, by walk_at "cg h", by omega, by omega, fun p2 ts H7 I7 f7 T7 k7 => ?_⟩
                walk_at "cg"
                exact q _ (.row ts r _) _ (.tup (by assumption) (.cons (.str _) (.cons (by walk_at "cg h") (.cons (.str _) (.cons (.int _) .nil))))) ⟨f7.fit (by omega), hr3, by omega, by omega⟩ (by walk_at "cg h") (by walk_at "cg kp")

end
section
variable {P : Program} {w : World} {K : PySem.W.Frag} {mg : Str → Option Value} {base : Heap} {C_Model C_Remaining : Addr}
theorem ok_law_rel {f : Addr} {fd : FuncData} (F : Fun K "_law_rel" "_law_rel" s_law_rel f fd) (B : Bi K mg C_Model C_Remaining)  : FnOk P w K mg base CX0 1 f fd ["_law_relation", "_law_left", "_law_right"] spRel := by
  have nd := sc_law_rel.nd
  refine F.ok sc_law_rel ?len (fun cdv A outer s H vs Q E hr h => ?body)
  case len =>
    rintro vs H Q E ⟨r, a, b, rfl, _⟩
    rfl
  case body =>
    obtain ⟨r, a, b, rfl, q⟩ := h
    refine ⟨_, (pss_cons (ps_if (pt_cmpR op_eq (pv 0) pe_str (nomark _))
      (pss_one (ps_ret (pe_cmpR op_le (pv 1) (pv 2) (nomark _))))
      pss_nil)
      (pss_cons (ps_if (pt_cmpR op_eq (pv 0) pe_str (nomark _))
      (pss_one (ps_ret (pe_cmpR op_ge (pv 1) (pv 2) (nomark _))))
      pss_nil)
      (pss_one (ps_ret (pe_cmpR op_eq (pe_cmpR op_eq (pv 1) (pv 2) (nomark _)) (pe_cmpR op_eq (pv 0) pe_str (nomark _)) (nomark _)))))), ?_⟩
    try dsimp only [L2.cxOf, L2.Cx.nox, L2.Cx.wish]
    rw [st_law_rel]
    have e : Rel.h r a b = (match r with | .le => decide (a ≤ b) | .ge => decide (b ≤ a) | .eq => decide (decide (a = b) = true) | .ne => decide (decide (a = b) = false)) := by
      cases r <;> simp only [Rel.h] <;> rw [Bool.eq_iff_iff] <;> simp
    rw [e] at q
    cases r
    all_goals
      walk_at "cg"
      exact q

theorem ok_law_world {f : Addr} {fd : FuncData} (F : Fun K "_law_world" "_law_world" s_law_world f fd) (B : Bi K mg C_Model C_Remaining) (D_law_terms : Is P w K mg base CX0 2 "_law_terms" ["_law_tape_here", "_law_many"] (spLawTerms K)) (D_law_draw : Is P w K mg base CX0 1 "_law_draw" ["_law_tape_here", "_law_many"] spDraw) (D_law_body : Is P w K mg base CX0 3 "_law_body" ["_law_tape_here", "_law_many"] (spLawBody K)) : FnOk P w K mg base CX0 4 f fd ["_law_tape_here", "_law_most", "_law_width", "_law_bodies"] (spWorld K) := by
  have nd := sc_law_world.nd
  refine F.ok sc_law_world ?len (fun cdv A outer s H vs Q E hr h => ?body)
  case len =>
    rintro vs H Q E ⟨t, c, most, width, bodies, rfl, _⟩
    rfl
  case body =>
    obtain ⟨t, c, most, width, bodies, rfl, T, m0, m1, w0, w1, b0, b1, q⟩ := h
    refine ⟨_, (pss_cons (ps_set (i := 4) nd rfl (Or.inl rfl) (pe_lst pa_nil))
      (pss_cons (ps_for PassesOwn.never rfl (pi_range1 rfl B.n_range (pa_cons (pe_op op_add pe_int (pe_is D_law_draw (hr.mono (by decide)) rfl pass0 (pa_cons (pv 0) (pa_cons (pv 1) pa_nil)))) pa_nil)) (pg_name (i := 5) nd rfl (Or.inl rfl))
      (pss_cons (ps_set (i := 6) nd rfl (Or.inl rfl) (pe_op op_sub (pe_is D_law_draw (hr.mono (by decide)) rfl pass0 (pa_cons (pv 0) (pa_cons pe_int pa_nil))) pe_int))
      (pss_one (ps_expr (pe_bm PySem.F.plainAttrs_list PySem.F.slot_list_append PySem.F.type_list_append mt_append (pv 4) (pa_cons (pe_tup (pa_cons (pe_ix (ixL K) (pe_lst (pa_cons pe_str (pa_cons pe_str (pa_cons pe_str (pa_cons pe_str (pa_cons pe_str pa_nil)))))) (pv 5) (fun _ _ => rfl)) (pa_cons (pv 6) (pa_cons (pe_op op_add (pv 6) (pe_is D_law_draw (hr.mono (by decide)) rfl pass0 (pa_cons (pv 0) (pa_cons (pv 2) pa_nil)))) pa_nil)))) pa_nil))))))
      (pss_cons (ps_set (i := 7) nd rfl (Or.inr rfl) (pe_callB (cgLen K) (by rfl) B.n_len PySem.boot_len (pa_cons (pv 4) pa_nil)))
      (pss_cons (ps_setLc (i := 8) (own := [("_law_k", 10)]) (g := (gName 10)) (tt := tYes) rfl nd rfl rfl (sw_true rfl rfl rfl (by decide +kernel)) (pi_range1 rfl B.n_range (pa_cons (pe_is D_law_draw (hr.mono (by decide)) rfl pass0 (pa_cons (pv 0) (pa_cons (pe_op op_add (pv 3) pe_int) pa_nil))) pa_nil)) (blkOk_by (N := ["_law_tape_here", "_law_most", "_law_width", "_law_bodies", "_law_unknowns", "_law_v", "_law_low", "_law_many", "_law_found", "_law_goal", "_law_k"]) (sc := defScope s_law_world) (by decide +kernel)) (fun _ _ _ _ _ => (pg_name (i := 10) nd rfl (Or.inl rfl))) (fun _ _ _ _ _ => pts_nil) (fun _ _ _ _ _ => (pe_tup (pa_cons (pe_op cg_addS pe_str (pe_callTy cg_strI (by rfl) B.n_str (by decide +kernel) (pa_cons (pv 10) pa_nil))) (pa_cons (pe_is D_law_body (hr.mono (by decide)) rfl pass0 (pa_cons (pv 0) (pa_cons (pv 7) pa_nil))) pa_nil)))))
      (pss_cons (ps_set (i := 9) nd rfl (Or.inl rfl) (pe_tup (pa_cons (pe_ix (ixL K) (pe_lst (pa_cons pe_str (pa_cons pe_str pa_nil))) (pe_is D_law_draw (hr.mono (by decide)) rfl pass0 (pa_cons (pv 0) (pa_cons pe_int pa_nil))) (fun _ _ => rfl)) (pa_cons (pe_is D_law_terms (hr.mono (by decide)) rfl pass0 (pa_cons (pv 0) (pa_cons (pv 7) pa_nil))) (pa_cons (pe_op op_sub (pe_is D_law_draw (hr.mono (by decide)) rfl pass0 (pa_cons (pv 0) (pa_cons pe_int pa_nil))) pe_int) pa_nil)))))
      (pss_cons (ps_if (pt_cmpR op_eq (pe_is D_law_draw (hr.mono (by decide)) rfl pass0 (pa_cons (pv 0) (pa_cons pe_int pa_nil))) pe_int (nomark _))
      (pss_one (ps_set (i := 9) nd rfl (Or.inl rfl) (pe_tup (pa_cons pe_str (pa_cons (pe_tup pa_nil) (pa_cons pe_int pa_nil))))))
      pss_nil)
      (pss_one (ps_ret (pe_lst (pa_cons (pv 4) (pa_cons (pv 8) (pa_cons (pv 9) pa_nil)))))))))))), ?_⟩
    try dsimp only [L2.cxOf, L2.Cx.nox, L2.Cx.wish]
    rw [st_law_world]
    have bm : most < bigB := by
      have e : (1000 : Int) < bigB := by decide
      omega
    have bw : width < bigB := by
      have e : (1000 : Int) < bigB := by decide
      omega
    have bb : bodies + 1 < bigB := by
      have e : (1000 : Int) < bigB := by decide
      omega
    walk_at "cg"
    rename_i l H1 hl el kl d H2 d0 d1 T2 k2
    have nlt : l ≠ t := by walk_at "cg ne"
    have nlc : l ≠ c := by walk_at "cg ne"
    have e2 := Kp.get1 k2 nlt el
    have K2 : Kp [t] H H2 := by walk_at "cg kp"
    clear kl k2 el T
    refine r_forR (fun i σ' H' => ∃ (us : List (Str × Int × Int)) (refs : List V) (x5 x6 x7 x8 x9 x10 : Option V), σ' = [some (.ref t), some (.int most), some (.int width), some (.int bodies), some (.ref l), x5, x6, none, none, none, none] ∧ Tp t c H' ∧ Kp [t] H H' ∧ H' l = some (.lst refs) ∧ ImAll K H' refs (us.map unD) ∧
      us.length = i ∧ us.map (·.1) = (List.range i).map nmS ∧ ∀ u ∈ us, -2 ≤ u.2.1 ∧ u.2.1 ≤ 2 ∧ u.2.1 ≤ u.2.2 ∧ u.2.2 < u.2.1 + width) ⟨[], [], none, none, none, none, none, none, rfl, T2, K2, e2, .nil, rfl, rfl, fun u h => by cases h⟩ ?_ ?_
    · clear T2 K2 e2
      rintro i σ' H3 hi ⟨us, refs, x5, x6, x7, x8, x9, x10, rfl, T3, k3, e3, A3, hn, nm, ok⟩
      have hrl := mapLenP A3
      walk_at "cg"
      rename_i dl Hl dl0 dl1 Tl kl2 pl Hp hpl epl kpl
      refine ix_nm (i := i) (by walk_at "cg h") (by omega) ?_
      walk_at "cg"
      rename_i dw Hw dw0 dw1 Tw kw pt Ht hpt spt kpt Hf ef kf
      refine ⟨us ++ [(nmS i, dl - 2, dl - 2 + dw)], _, _, _, none, none, none, none, rfl, by walk_at "cg h", by walk_at "cg kp", by assumption, ?_, by simp [hn], ?_, fun u hu => ?_⟩
      · rw [List.map_append]
        exact ImAll.snoc (by walk_at "cg h") (.tup (by walk_at "cg h") (.cons (.str _) (.cons (.int _) (.cons (.int _) .nil))))
      · rw [List.map_append, nm, List.range_succ, List.map_append]
        rfl
      · rcases List.mem_append.mp hu with h | h
        · exact ok u h
        · rw [List.mem_singleton] at h
          subst h
          simp only
          omega
    · clear T2 K2 e2
      rintro σ' H3 ⟨us, refs, x5, x6, x7, x8, x9, x10, rfl, T3, k3, e3, A3, hn, nm, ok⟩
      have hrl := mapLenP A3
      have hl5 : 1 ≤ us.length ∧ (us.length : Int) ≤ most := by omega
      walk_at "cg"
      rename_i dn H4 dn0 dn1 T4 k4
      refine lcR_d (K := K) labD (fun i (a : Str × Body) => a.1 = labC (i : Int) ∧ a.2.fit us.length) T4 (by omega) (fun j H' R R' hj T' k' q' => ?_) (fun D H5 acc fs hD eD hfl hP hA T5 k5 => ?_)
      · have hj10 : (0 : Int) ≤ 0 + (j : Int) ∧ (0 : Int) + (j : Int) < 10 := by omega
        have lo := labC_ok hj10.1 hj10.2
        walk_at "cg"
        refine r_strI hj10.1 (by omega) ?_
        walk_at "cg"
        refine r_addS (by omega) ?_
        walk_at "cg"
        refine ⟨t, c, _, rfl, T', by omega, by omega, fun pb b H6 I6 fb T6 k6 => ?_⟩
        walk_at "cg"
        refine q' _ _ (labC (j : Int), b) ⟨rfl, by rw [← hrl]; exact fb⟩ ?_ (by walk_at "cg h") (by walk_at "cg kp")
        refine .tup (ds := [.str (labC (j : Int)), b.d]) (xs := [.str (labC (0 + (j : Int))), .ref pb]) (by assumption) ?_
        rw [Int.zero_add]
        exact .cons (.str _) (.cons (by walk_at "cg h") .nil)
      · have nDt : D ≠ t := by walk_at "cg ne"
        have nDc : D ≠ c := by walk_at "cg ne"
        have e5 := Kp.get1 k5 nlt (Kp.get1 k4 nlt e3)
        have A5 := k5.imAll (k4.imAll A3)
        have K5 : Kp [t] H H5 := Kp.tr1 k5 (Kp.tr1 k4 k3)
        have fl : H l = none := by assumption
        have fD : H D = none := (Kp.tr1 k4 k3).free hD fun b hb => by
          rw [List.mem_singleton] at hb
          subst hb
          exact T4.it
        clear k3 k4 k5 T3 T4 e3 A3
        have fin : ∀ (w pg : Addr) (g : Goal) (H9 : Hp), H w = none → w ≠ l ∧ w ≠ D → H9 w = some (.lst [.ref l, .ref D, .ref pg]) → Im K H9 (.ref pg) g.d → tmLaw us.length g.ts → -2 ≤ g.c → g.c ≤ 2 → Kp [t] H5 H9 → Tp t c H9 → Q (.ref w) H9 := fun w pg g H9 fw dw ew ig g1 g2 g3 k9 T9 => by
          refine q ⟨w, l, D⟩ ⟨us, fs, g⟩ H9 ⟨⟨pg, ew, ig⟩, ⟨_, Kp.get1 k9 nlt e5, k9.imAll A5⟩, ⟨_, Kp.get1 k9 nDt eD, k9.imAll hA⟩, dw⟩ ⟨hl5.1, by show us.length ≤ 60; omega, fun u hu => ?_, ?_, fun b hb => ?_, ?_, fun b hb => ?_, by show fs.length ≤ 200; omega, ⟨g1.fit (by omega), by show -1000000000 ≤ g.c; omega, by show g.c ≤ 1000000000; omega⟩⟩ ⟨hl5.2, fun u hu => ?_, by show (fs.length : Int) ≤ bodies; omega, ⟨g1, g2, g3⟩, fun b hb => ?_, fun u hu => ?_⟩ (fun x hx => ?_) T9 (Kp.tr1 k9 K5)
          · have o := ok u hu
            have hm : u.1 ∈ (List.range us.length).map nmS := by
              rw [hn, ← nm]
              exact List.mem_map.mpr ⟨u, hu, rfl⟩
            obtain ⟨i, hi, e⟩ := List.mem_map.mp hm
            rw [List.mem_range] at hi
            have n := nmS_ok i (by omega)
            rw [e] at n
            exact ⟨n.1, by omega, by omega, by omega, by omega⟩
          · show (us.map (·.1)).Nodup
            rw [nm, ← hn]
            exact nodup_map_range fun i hi j hj => nmS_inj i (by omega) j (by omega)
          · have hb : b ∈ fs := hb
            obtain ⟨j, hj⟩ := List.getElem?_of_mem hb
            have hjl := (List.getElem?_eq_some_iff.mp hj).1
            obtain ⟨e, _⟩ := hP j b hj
            have lo := labC_ok (k := (j : Int)) (by omega) (by omega)
            rw [e]
            exact ⟨lo.1, by omega⟩
          · show (fs.map (·.1)).Nodup
            refine List.pairwise_iff_getElem.mpr fun i j hi hj hij e => ?_
            rw [List.length_map] at hi hj
            rw [List.getElem_map, List.getElem_map] at e
            have a := (hP i _ (List.getElem?_eq_getElem hi)).1
            have b := (hP j _ (List.getElem?_eq_getElem hj)).1
            rw [a, b] at e
            have := labC_inj (by omega) (by omega) (by omega) (by omega) e
            omega
          · have hb : b ∈ fs := hb
            obtain ⟨j, hj⟩ := List.getElem?_of_mem hb
            exact (hP j b hj).2
          · have o := ok u hu
            exact ⟨o.1, o.2.1, o.2.2.2⟩
          · have hb : b ∈ fs := hb
            obtain ⟨j, hj⟩ := List.getElem?_of_mem hb
            have hjl := (List.getElem?_eq_some_iff.mp hj).1
            exact ⟨j, by omega, by omega, (hP j b hj).1⟩
          · have hm : u.1 ∈ (List.range us.length).map nmS := by
              rw [hn, ← nm]
              exact List.mem_map.mpr ⟨u, hu, rfl⟩
            obtain ⟨i, hi, e⟩ := List.mem_map.mp hm
            rw [List.mem_range] at hi
            exact ⟨i, by omega, e.symm⟩
          · simp only [WA.all, List.mem_cons, List.not_mem_nil, or_false] at hx
            rcases hx with rfl | rfl | rfl
            · exact fw
            · exact fl
            · exact fD
        walk_at "cg"
        refine ix_mm (by walk_at "cg h") (by assumption) (by assumption) fun mx => ?_
        walk_at "cg"
        refine ⟨t, c, _, rfl, by walk_at "cg h", by omega, by omega, fun pt ts H7 I7 f7 T7 k7 => ?_⟩
        rw [hrl] at f7
        walk_at "cg"
        rename_i d8 H8 d80 d81 T8 k8 pg H9 hpg sg k9 d10 H10 d100 d101 T10 k10
        refine if_S (fun c0 => ?_) (fun c0 => ?_)
        · walk_at "cg"
          rename_i w H13 hw ew k13
          exact fin w _ goal0 H13 (by walk_at "cg fr") ⟨by walk_at "cg ne", by walk_at "cg ne"⟩ ew (.tup (by walk_at "cg h") (.cons (.str _) (.cons (.tup (by walk_at "cg h") .nil) (.cons (.int _) .nil)))) ⟨(fun z hz => by cases hz), List.Pairwise.nil, by show ((0 : Nat) : Int) ≤ _; omega⟩ (by decide) (by decide) (by walk_at "cg kp") (by walk_at "cg h")
        · walk_at "cg"
          rename_i w H13 hw ew k13
          exact fin w _ ⟨mx, ts, d8 - 2⟩ H13 (by walk_at "cg fr") ⟨by walk_at "cg ne", by walk_at "cg ne"⟩ ew (.tup (by walk_at "cg h") (.cons (.str _) (.cons (by walk_at "cg h") (.cons (.int _) .nil)))) f7 (by show -2 ≤ d8 - 2; omega) (by show d8 - 2 ≤ 2; omega) (by walk_at "cg kp") (by walk_at "cg h")
end
/-! ### comprehensions over a range: ints, truth values -/
theorem at_map_range (L : List Int) : (List.range L.length).map (fun i : Nat => at_ L (i : Int)) = L := by
  refine List.ext_getElem (by simp) fun i h1 h2 => ?_
  rw [List.getElem_map, List.getElem_range]
  unfold at_
  rw [Int.toNat_natCast, List.getD_eq_getElem?_getD, List.getElem?_eq_getElem h2]
  rfl
section
variable {σ σ0 : St} {H : Hp} {K : PySem.W.Frag} {g : TG} {tt : TT} {te : TE} {vs : List Nat} {Q : VK} {n : Nat} {lo : Int}
theorem lcR_L (L : List Int) (hn : n = L.length) [hw : Wip σ vs σ0] (small : n ≤ 10000)
    (hs : ∀ (i : Nat) (H' : Hp) (R : V → Hp → Prop) (R' : Hp → Prop), i < L.length → Kp [] H H' → (∀ H4, Kp [] H' H4 → R (.int (at_ L i)) H4) → lcTurn g tt te vs σ σ0 (.int (lo + (i : Int))) H' R R')
    (hd : ∀ D H', H D = none → H' D = some (.lst (L.map V.int)) → Kp [] H H' → Q (.ref D) H') : lcS (Itr lo n) g tt te vs σ H Q :=
  lcR_m (K := default) (fun i => PyData.int (at_ L (i : Int))) small (fun i H' R R' hi k h => hs i H' R R' (hn ▸ hi) k fun H4 k4 => h _ H4 (.int _) k4) fun D H' acc hD eD hA k => hd D H' hD (by
    have e : (List.range n).map (fun i : Nat => PyData.int (at_ L (i : Int))) = L.map PyData.int := by
      have := congrArg (fun l => l.map PyData.int) (at_map_range L)
      rw [List.map_map] at this
      rw [hn]
      exact this
    rw [e] at hA
    rw [eD, hA.ints]) k
theorem lcR_B (f : Nat → Bool) [hw : Wip σ vs σ0] (small : n ≤ 10000)
    (hs : ∀ (i : Nat) (H' : Hp) (R : V → Hp → Prop) (R' : Hp → Prop), i < n → Kp [] H H' → (∀ H4, Kp [] H' H4 → R (.bl (f i)) H4) → lcTurn g tt te vs σ σ0 (.int (lo + (i : Int))) H' R R')
    (hd : ∀ D H', H D = none → H' D = some (.lst (((List.range n).map f).map V.bl)) → Kp [] H H' → Q (.ref D) H') : lcS (Itr lo n) g tt te vs σ H Q :=
  lcR_m (K := default) (fun i => PyData.bool (f i)) small (fun i H' R R' hi k h => hs i H' R R' hi k fun H4 k4 => h _ H4 (.bl _) k4) fun D H' acc hD eD hA k => hd D H' hD (by
    have e : (List.range n).map (fun i : Nat => PyData.bool (f i)) = ((List.range n).map f).map PyData.bool := by rw [List.map_map]; rfl
    rw [e] at hA
    rw [eD, hA.bls]) k
end
theorem mapGetJ {K : PySem.W.Frag} {H : Hp} {α : Type} {f : α → PyData} {xs : List V} {as : List α} {i : Nat} {a : α} (h : ImAll K H xs (as.map f)) (e : as[i]? = some a) : ∃ x, atI xs (0 + (i : Int)) = some x ∧ Im K H x (f a) := by
  have hl := mapLenP h
  have hi := (List.getElem?_eq_some_iff.mp e).1
  obtain ⟨x, hx⟩ : ∃ x, xs[i]? = some x := ⟨_, List.getElem?_eq_getElem (by omega)⟩
  obtain ⟨b, hb, hI⟩ := mapGetP h hx
  rw [e] at hb
  cases hb
  refine ⟨x, ?_, hI⟩
  rw [Int.zero_add, atI_nat (by omega) (by omega), Int.toNat_natCast, hx]

/-! ### facts, points as functions -/
inductive Fact where
  | row (ts : Tms) (n : Int)
  | any (ls : List Lit)
  deriving DecidableEq
def Fact.d : Fact → PyData
  | .row ts n => .tuple [.str (Str.ofString "row"), tmD ts, .int n]
  | .any ls => .tuple [.str (Str.ofString "any"), litsD ls]
theorem Fact.shp (f : Fact) : Shp 3 f.d := by
  cases f with
  | row ts n => exact .tup (shp_cons (.str (by decide +kernel)) (shp_cons (tmD_shp ts) (shp_cons (.int _) shp_nil)))
  | any ls => exact .tup (shp_cons (.str (by decide +kernel)) (shp_cons (litsD_shp ls) shp_nil))
def Fact.h (f : Pt) : Fact → Bool
  | .row ts n => decide (sumF ts f ≤ n)
  | .any ls => ls.any fun l => l.h f
def Fact.vars : Fact → List Int
  | .row ts _ => ts.map (·.1)
  | .any ls => ls.map (·.v)
abbrev FactAt (K : PySem.W.Frag) (H : Hp) (p : Addr) (f : Fact) : Prop := Im K H (.ref p) f.d
section
variable {K : PySem.W.Frag} {H : Hp} {p : Addr} {ts : Tms} {n : Int} {ls : List Lit} {l : Lit} {x : V}
theorem row_open (h : FactAt K H p (.row ts n)) : ∃ q, SqT K H p [.str (Str.ofString "row"), .ref q, .int n] ∧ Im K H (.ref q) (tmD ts) := by
  obtain ⟨_, h1, h2⟩ := Im.open h
  obtain ⟨_, _, rfl, a1, h2⟩ := h2.c
  obtain ⟨_, _, rfl, a2, h2⟩ := h2.c
  obtain ⟨_, _, rfl, a3, h2⟩ := h2.c
  obtain rfl := h2.n
  obtain ⟨q, rfl⟩ := a2.isRef
  cases a1; cases a3
  exact ⟨q, h1, a2⟩
theorem any_open (h : FactAt K H p (.any ls)) : ∃ q, SqT K H p [.str (Str.ofString "any"), .ref q] ∧ Im K H (.ref q) (litsD ls) := by
  obtain ⟨_, h1, h2⟩ := Im.open h
  obtain ⟨_, _, rfl, a1, h2⟩ := h2.c
  obtain ⟨_, _, rfl, a2, h2⟩ := h2.c
  obtain rfl := h2.n
  obtain ⟨q, rfl⟩ := a2.isRef
  cases a1
  exact ⟨q, h1, a2⟩
theorem row_mk (h1 : SqT K H p [.str (Str.ofString "row"), x, .int n]) (h2 : Im K H x (tmD ts)) : FactAt K H p (.row ts n) := .tup h1 (.cons (.str _) (.cons h2 (.cons (.int _) .nil)))
theorem any_mk (h1 : SqT K H p [.str (Str.ofString "any"), x]) (h2 : Im K H x (litsD ls)) : FactAt K H p (.any ls) := .tup h1 (.cons (.str _) (.cons h2 .nil))
theorem fact_at {f : Fact} (h : Im K H x f.d) : ∃ q, x = .ref q ∧ FactAt K H q f := by
  cases f with
  | row ts n =>
    obtain ⟨q, rfl⟩ := Im.isRef h
    exact ⟨q, rfl, h⟩
  | any ls =>
    obtain ⟨q, rfl⟩ := Im.isRef h
    exact ⟨q, rfl, h⟩
end
def Fact.asLit : Fact → Option Lit
  | .row [(v, c)] n => if 0 < c then some ⟨v, .le, n / c⟩ else some ⟨v, .ge, -(n / -c)⟩
  | .any [l] => some l
  | _ => none
theorem asLit_two (l l' : Lit) (ls : List Lit) : (Fact.any (l :: l' :: ls)).asLit = none := by
  obtain ⟨v, r, a⟩ := l
  rfl
theorem asLit_row2 (z z' : Int × Int) (ts : Tms) (n : Int) : (Fact.row (z :: z' :: ts) n).asLit = none := by
  obtain ⟨v, c⟩ := z
  rfl
/-- coefficients that are not 0 and small -/
def Fact.ok (m : Int) : Fact → Prop
  | .row ts n => (∀ z ∈ ts, 0 ≤ z.1 ∧ z.1 < m ∧ z.2 ≠ 0 ∧ -1000000000000000000 ≤ z.2 ∧ z.2 ≤ 1000000000000000000) ∧ ts.length ≤ 60 ∧ n ≤ n ∧ n ≤ n
  | .any ls => (∀ l ∈ ls, 0 ≤ l.v ∧ l.v < m ∧ -1000000000000000000 ≤ l.a ∧ l.a ≤ 1000000000000000000) ∧ ls.length ≤ 60
theorem Fact.ok_vars {m : Int} {f : Fact} (h : f.ok m) : ∀ v ∈ f.vars, 0 ≤ v ∧ v < m := by
  cases f with
  | row ts n =>
    intro v hv
    obtain ⟨z, hz, rfl⟩ := List.mem_map.mp hv
    have q := h.1 z hz
    exact ⟨q.1, q.2.1⟩
  | any ls =>
    intro v hv
    obtain ⟨l, hl, rfl⟩ := List.mem_map.mp hv
    have q := h.1 l hl
    exact ⟨q.1, q.2.1⟩
theorem Fact.asLit_v {f : Fact} {m : Int} {l : Lit} (ok : f.ok m) (h : f.asLit = some l) : 0 ≤ l.v ∧ l.v < m := by
  cases f with
  | row ts n =>
    match ts, h, ok with
    | [], h, _ => cases h
    | z :: z' :: ts, h, _ => rw [asLit_row2] at h; cases h
    | [(v, c)], h, ok =>
      have q := ok.1 (v, c) List.mem_cons_self
      simp only [Fact.asLit] at h
      by_cases hc : 0 < c
      · rw [if_pos hc] at h
        cases h
        exact ⟨q.1, q.2.1⟩
      · rw [if_neg hc] at h
        cases h
        exact ⟨q.1, q.2.1⟩
  | any ls =>
    match ls, h, ok with
    | [], h, _ => cases h
    | l1 :: l2 :: ls, h, _ => rw [asLit_two] at h; cases h
    | [l1], h, ok =>
      have q := ok.1 l1 List.mem_cons_self
      cases h
      exact ⟨q.1, q.2.1⟩
inductive LitO (K : PySem.W.Frag) (H : Hp) : V → Option Lit → Prop
  | none : LitO K H .non Option.none
  | some {p : Addr} {l : Lit} (h : LitAt K H p l.v l.r l.a) : LitO K H (.ref p) (Option.some l)
def spAsLit (K : PySem.W.Frag) : Sp := fun vs H Q _ => ∃ (p : Addr) (f : Fact) (m : Int), vs = [.ref p] ∧ FactAt K H p f ∧ f.ok m ∧ ∀ (x : V) (H' : Hp), LitO K H' x f.asLit → Kp [] H H' → Q x H'
def spTrue (K : PySem.W.Frag) : Sp := fun vs H Q _ => ∃ (p q : Addr) (f : Fact) (g : Pt) (dom : Int → Prop) (m : Int), vs = [.ref p, .ref q] ∧ FactAt K H p f ∧ PtAt K H q g dom ∧ f.ok m ∧ (∀ v ∈ f.vars, dom v) ∧ ∀ H', Kp [] H H' → Q (.bl (f.h g)) H'
/-- a drawn fact -/
def Fact.le (B : Int) : Fact → Prop
  | .row ts _ => ∀ z ∈ ts, -B ≤ z.2 ∧ z.2 ≤ B
  | .any ls => ∀ l ∈ ls, -B ≤ l.a ∧ l.a ≤ B
def spLawFact (K : PySem.W.Frag) : Sp := fun vs H Q _ => ∃ (t c : Addr) (m : Int), vs = [.ref t, .int m] ∧ Tp t c H ∧ 1 ≤ m ∧ m ≤ 60 ∧ ∀ (p : Addr) (f : Fact) (H' : Hp), FactAt K H' p f → f.ok m → f.le 1001 → (f.vars.length : Int) ≤ m + 3 → Tp t c H' → Kp [t] H H' → Q (.ref p) H'
theorem wdiv {i j : Int} (h : 0 < j) (h1 : j ≤ 1000000000000000000) : CDivW i j := wide_div (b := 60) h (show j.natAbs < 1152921504606846976 by omega) (by decide) (by decide)

section
variable {P : Program} {w : World} {K : PySem.W.Frag} {mg : Str → Option Value} {base : Heap} {C_Model C_Remaining : Addr}
theorem ok_law_fact {f : Addr} {fd : FuncData} (F : Fun K "_law_fact" "_law_fact" s_law_fact f fd) (B : Bi K mg C_Model C_Remaining) (D_law_draw : Is P w K mg base CX0 1 "_law_draw" ["_law_tape_here", "_law_many"] spDraw) (D_law_terms : Is P w K mg base CX0 2 "_law_terms" ["_law_tape_here", "_law_many"] (spLawTerms K)) (D_law_literal : Is P w K mg base CX0 2 "_law_literal" ["_law_tape_here", "_law_many"] (spLawLiteral K)) : FnOk P w K mg base CX0 3 f fd ["_law_tape_here", "_law_many"] (spLawFact K) := by
  have nd := sc_law_fact.nd
  refine F.ok sc_law_fact ?len (fun cdv A outer s H vs Q E hr h => ?body)
  case len =>
    rintro vs H Q E ⟨t, c, m, rfl, _⟩
    rfl
  case body =>
    obtain ⟨t, c, m, rfl, T, m0, m1, q⟩ := h
    refine ⟨_, (pss_cons (ps_if (pt_cmpR op_eq (pe_is D_law_draw (hr.mono (by decide)) rfl pass0 (pa_cons (pv 0) (pa_cons pe_int pa_nil))) pe_int (nomark _))
      (pss_one (ps_ret (pe_tup (pa_cons pe_str (pa_cons (pe_is D_law_terms (hr.mono (by decide)) rfl pass0 (pa_cons (pv 0) (pa_cons (pv 1) pa_nil))) (pa_cons (pe_op op_sub (pe_is D_law_draw (hr.mono (by decide)) rfl pass0 (pa_cons (pv 0) (pa_cons pe_int pa_nil))) pe_int) pa_nil))))))
      pss_nil)
      (pss_one (ps_ret (pe_tup (pa_cons pe_str (pa_cons (pe_callTy (cgTuple K) (by rfl) B.n_tuple (by decide +kernel) (pa_cons (by exact pe_lc (own := [("_law_k", 2)]) (g := (gName 2)) (tt := tYes) rfl nd (pi_range1 rfl B.n_range (pa_cons (pe_is D_law_draw (hr.mono (by decide)) rfl pass0 (pa_cons (pv 0) (pa_cons pe_int pa_nil))) pa_nil)) (blkOk_by (N := ["_law_tape_here", "_law_many", "_law_k"]) (sc := defScope s_law_fact) (by decide +kernel)) (fun _ _ _ _ _ => (pg_name (i := 2) nd rfl (Or.inl rfl))) (fun _ _ _ _ _ => pts_nil) (fun _ _ _ _ _ => (pe_is D_law_literal (hr.mono (by decide)) rfl pass0 (pa_cons (pv 0) (pa_cons (pv 1) pa_nil))))) pa_nil)) pa_nil)))))), ?_⟩
    try dsimp only [L2.cxOf, L2.Cx.nox, L2.Cx.wish]
    rw [st_law_fact]
    walk_at "cg"
    refine if_S (fun h0 => ?_) (fun h0 => ?_)
    · walk_at "cg"
      refine ⟨t, c, m, rfl, by walk_at "cg h", by omega, by omega, fun p ts H2 I2 tl T2 k2 => ?_⟩
      walk_at "cg"
      exact q _ (.row ts _) _ (row_mk (by assumption) (by walk_at "cg h")) ⟨fun z hz => by have q := tl.1 z hz; omega, by have := tl.2.2; omega, by omega, by omega⟩ (fun z hz => by have q := tl.1 z hz; omega) (by show ((ts.map (·.1)).length : Int) ≤ m + 3; have := tl.2.2; rw [List.length_map]; omega) (by walk_at "cg h") (by walk_at "cg kp")
    · walk_at "cg"
      rename_i d0 H0 _ _ T0 k0 d H1 d0 d4 T1 k1
      refine lcR_d (K := K) Lit.d (fun _ l => litFit m l) T1 (by omega) (fun j H' R R' hj T' k' q' => ?_) (fun D H6 acc ls hD eD hl2 hP hA T6 k6 => ?_)
      · walk_at "cg"
        refine ⟨t, c, m, rfl, T', m0, m1, fun p l H3 L3 fl T3 k3 => ?_⟩
        exact q' _ _ _ fl (lit_mk L3) T3 k3
      · walk_at "cg"
        refine q _ (.any ls) _ (any_mk (by assumption) (.tup (by walk_at "cg h") (by walk_at "cg h"))) ⟨fun l hl => ?_, by omega⟩ (fun l hl => ?_) (by show ((ls.map (·.v)).length : Int) ≤ m + 3; rw [List.length_map]; omega) (by walk_at "cg h") (by walk_at "cg kp")
        · obtain ⟨j, hj⟩ := List.getElem?_of_mem hl
          have := hP j l hj
          unfold litFit at this
          omega
        · obtain ⟨j, hj⟩ := List.getElem?_of_mem hl
          have := hP j l hj
          unfold litFit at this
          omega

end
/-! ### steps -/



inductive Rule where
  | bound (v : Int)
  | given (s : Str)
  | suppose
  | sum (ps : List (Int × Int))
  | divide (i d : Int)
  | look (s : Str) (is : List Int)
  | apart (s : Str)
  | thn (s : Str) (i : Int)
  | unit (is : List Int)
  | cases (i j s t : Int)
  | absurd (i : Int)
  | weaken (i : Int)
def Rule.name : Rule → Str
  | .bound _ => Str.ofString "bound"
  | .given _ => Str.ofString "given"
  | .suppose => Str.ofString "suppose"
  | .sum _ => Str.ofString "sum"
  | .divide _ _ => Str.ofString "divide"
  | .look _ _ => Str.ofString "look"
  | .apart _ => Str.ofString "apart"
  | .thn _ _ => Str.ofString "then"
  | .unit _ => Str.ofString "unit"
  | .cases _ _ _ _ => Str.ofString "cases"
  | .absurd _ => Str.ofString "absurd"
  | .weaken _ => Str.ofString "weaken"
def Rule.args : Rule → List PyData
  | .bound v => [.int v]
  | .given s => [.str s]
  | .suppose => []
  | .sum ps => [tmD ps]
  | .divide i d => [.int i, .int d]
  | .look s is => [.str s, intsD is]
  | .apart s => [.str s]
  | .thn s i => [.str s, .int i]
  | .unit is => [intsD is]
  | .cases i j s t => [.int i, .int j, .int s, .int t]
  | .absurd i => [.int i]
  | .weaken i => [.int i]
def Rule.prem : Rule → List Int
  | .sum ps => ps.map (·.1)
  | .divide i _ => [i]
  | .look _ is => is
  | .thn _ i => [i]
  | .unit is => is
  | .cases i j s t => [i, j, s, t]
  | .absurd i => [i]
  | .weaken i => [i]
  | _ => []
def Rule.label : Rule → Option Str
  | .given s => some s
  | .look s _ => some s
  | .apart s => some s
  | .thn s _ => some s
  | _ => none
/-- sizes for the walk -/
def Rule.bd : Rule → Prop
  | .sum ps => ps.length ≤ 60
  | .look _ is => is.length ≤ 60
  | .unit is => is.length ≤ 60
  | _ => True
structure Step where
  f : Fact
  r : Rule
def Step.d (s : Step) : PyData := .tuple (s.f.d :: .str s.r.name :: s.r.args)
theorem step_open {K : PySem.W.Frag} {H : Hp} {p : Addr} {s : Step} (h : Im K H (.ref p) s.d) : ∃ q xs, SqT K H p (.ref q :: .str s.r.name :: xs) ∧ FactAt K H q s.f ∧ ImAll K H xs s.r.args := by
  obtain ⟨_, h1, h2⟩ := Im.open h
  obtain ⟨_, _, rfl, a1, h3⟩ := h2.c
  obtain ⟨_, ys, rfl, a2, h4⟩ := h3.c
  obtain ⟨q, rfl, a3⟩ := fact_at a1
  cases a2
  exact ⟨q, ys, h1, a3, h4⟩
theorem step_mk {K : PySem.W.Frag} {H : Hp} {p q : Addr} {s : Step} {xs : List V} (h : SqT K H p (.ref q :: .str s.r.name :: xs)) (hf : FactAt K H q s.f) (ha : ImAll K H xs s.r.args) : Im K H (.ref p) s.d := .tup h (.cons hf (.cons (.str _) ha))
/-- an entry: a step, or None where it sleeps -/
def entD : Option Step → PyData
  | none => .none
  | some s => s.d
def awake (es : List (Option Step)) (i : Int) : Bool := decide (0 ≤ i) && (decide (i < es.length) && (match es[i.toNat]? with | some (some _) => true | _ => false))
structure EntAt (K : PySem.W.Frag) (H : Hp) (l : Addr) (es : List (Option Step)) : Prop where
  ex : ∃ refs, H l = some (.lst refs) ∧ ImAll K H refs (es.map entD)
theorem EntAt.kp {K : PySem.W.Frag} {H H' : Hp} {l : Addr} {es : List (Option Step)} {S : List Addr} (k : Kp S H H') (h : EntAt K H l es) (n : ¬ l ∈ S) : EntAt K H' l es := by
  obtain ⟨refs, a, b⟩ := h.ex
  exact ⟨refs, k.get n a, k.imAll b⟩
theorem EntAt.kp0 {K : PySem.W.Frag} {H H' : Hp} {l : Addr} {es : List (Option Step)} (k : Kp [] H H') (h : EntAt K H l es) : EntAt K H' l es := h.kp k fun z => nomatch z
def knownB (M : Mdl) (es : List (Option Step)) (s : Step) : Bool :=
  (s.r.prem.all (awake es)) && ((match s.r.label with | some x => decide (x ∈ M.bs.map (·.1)) | none => true) && s.f.vars.all fun v => decide (0 ≤ v) && decide (v < M.us.length))
theorem ok_few {f : Fact} {m : Int} (h : f.ok m) : f.vars.length ≤ 60 := by
  cases f with
  | row ts n => simpa [Fact.vars] using h.2.1
  | any ls => simpa [Fact.vars] using h.2
theorem ok_tms {f : Fact} {m : Int} (h : f.ok m) : ∀ ts n, f = .row ts n → ts.length ≤ 1000 := fun ts n e => by
  subst e
  have := h.2.1
  omega
def spPrem (K : PySem.W.Frag) : Sp := fun vs H Q _ => ∃ (p : Addr) (s : Step), vs = [.ref p] ∧ Im K H (.ref p) s.d ∧ s.r.bd ∧ ∀ (l : Addr) H', H' l = some (.lst (s.r.prem.map V.int)) → Kp [] H H' → Q (.ref l) H'
def spUnkIn (K : PySem.W.Frag) : Sp := fun vs H Q _ => ∃ (p : Addr) (f : Fact), vs = [.ref p] ∧ FactAt K H p f ∧ f.vars.length ≤ 60 ∧ ∀ (l : Addr) (ns : List Int) (H' : Hp), H l = none → H' l = some (.lst (ns.map V.int)) → ns.Pairwise (· < ·) → (∀ k, k ∈ ns ↔ k ∈ f.vars) → Kp [] H H' → Q (.ref l) H'
def spHas (K : PySem.W.Frag) (C : Addr) : Sp := fun vs H Q _ => ∃ (a : MA) (M : Mdl) (x : Str), vs = [.ref a.p, .str x] ∧ MdlAt K C H a M ∧ Q (.bl (decide (x ∈ M.bs.map (·.1)))) H
def spKnown (K : PySem.W.Frag) (C : Addr) : Sp := fun vs H Q _ => ∃ (a : MA) (M : Mdl) (l p : Addr) (es : List (Option Step)) (s : Step), vs = [.ref a.p, .ref l, .ref p] ∧ MdlAt K C H a M ∧ M.us.length ≤ 60 ∧ EntAt K H l es ∧ es.length ≤ 1000 ∧ Im K H (.ref p) s.d ∧ s.r.bd ∧ s.f.vars.length ≤ 60 ∧ ∀ H', Kp [] H H' → Q (.bl (knownB M es s)) H'
theorem kvs_has {kvs : List (Key × V)} {bs : List (Str × Body)} {x : Str} (h : kvs.map (fun z => z.1) = bs.map (fun b => Sum.inr b.1)) : (valV kvs (Sum.inr x)).isSome = decide (x ∈ bs.map (·.1)) := by
  have e : (Sum.inr x : Key) ∈ kvs.map (fun z => z.1) ↔ x ∈ bs.map (·.1) := by
    rw [h]
    simp only [List.mem_map, Sum.inr.injEq]
  rw [← valV_any, Bool.eq_iff_iff, decide_eq_true_eq, ← e, List.any_eq_true]
  simp only [decide_eq_true_eq, List.mem_map]
theorem r_slA2 {K : PySem.W.Frag} {H : Hp} {Q : VK} {p : Addr} {x y : V} {xs : List V} (h : SqT K H p (x :: y :: xs)) (q : ∀ l H2, SqT K H2 l xs → Kp [] H H2 → Q (.ref l) H2) : rSlA K (.ref p) (some 2) none H Q := by
  refine ⟨p, _, rfl, h, fun e => ?_, fun _ l hl => ?_⟩
  · exfalso
    have e1 := e.1
    have : HT.sIx (x :: y :: xs).length 0 (some ((2 : Nat) : Int)) = min 2 (x :: y :: xs).length := HT.sIx_nat _ _ _
    simp at this e1
    omega
  · have e : cutV (x :: y :: xs) (some 2) none = xs := cut_from (by decide)
    rw [e]
    exact q l _ (SqT.of upd_same) (Kp.new hl)
theorem lab_in (r : Rule) : inV (.str r.name) [.str (Str.ofString "given"), .str (Str.ofString "look"), .str (Str.ofString "apart"), .str (Str.ofString "then")] = r.label.isSome := by
  cases r <;> (simp only [Rule.name, Rule.label, Option.isSome_some, Option.isSome_none]; decide +kernel)
theorem lab_args {r : Rule} {x : Str} (h : r.label = some x) : ∃ ds, r.args = .str x :: ds := by
  cases r <;> first | (cases h; exact ⟨_, rfl⟩) | cases h
theorem atI_2 {α : Type} {x y z : α} {xs : List α} : atI (x :: y :: z :: xs) 2 = some z := by
  rw [atI_nat (by decide) (by simp <;> omega)]
  rfl
theorem nodup_le : ∀ {ns us : List Int}, ns.Nodup → (∀ k ∈ ns, k ∈ us) → ns.length ≤ us.length
  | [], _, _, _ => Nat.zero_le _
  | n :: ns, us, h, s => by
    rw [List.nodup_cons] at h
    have m := s n List.mem_cons_self
    have q := nodup_le (ns := ns) (us := us.erase n) h.2 fun k hk => (List.mem_erase_of_ne fun e => h.1 (by rw [← e]; exact hk)).mpr (s k (List.mem_cons_of_mem _ hk))
    rw [List.length_erase_of_mem m] at q
    have := List.length_pos_of_mem m
    rw [List.length_cons]
    omega
theorem asc_le {ns us : List Int} (h : ns.Pairwise (· < ·)) (s : ∀ k, k ∈ ns ↔ k ∈ us) : ns.length ≤ us.length := nodup_le (h.imp fun {a b} q => by omega) fun k hk => (s k).mp hk

section
variable {P : Program} {w : World} {K : PySem.W.Frag} {mg : Str → Option Value} {base : Heap} {C_Model C_Remaining : Addr}
theorem ok_unknowns_in {f : Addr} {fd : FuncData} (F : Fun K "unknowns_in" "unknowns_in" s_unknowns_in f fd) (B : Bi K mg C_Model C_Remaining)  : FnOk P w K mg base CX0 1 f fd ["fact"] (spUnkIn K) := by
  have nd := sc_unknowns_in.nd
  refine F.ok sc_unknowns_in ?len (fun cdv A outer s H vs Q E hr h => ?body)
  case len =>
    rintro vs H Q E ⟨p, f, rfl, _⟩
    rfl
  case body =>
    obtain ⟨p, f, rfl, hf, few, k⟩ := h
    refine ⟨_, (pss_one (ps_ret (pe_callB (cr_sortedSet rfl) (by rfl) B.n_sorted (by decide +kernel) (pa_cons (pe_callTy (cg_setL rfl) (by rfl) B.n_set PyProof.Rows.boot_set (pa_cons (by exact pe_lc (own := [("part", 1)]) (g := (gName 1)) (tt := tYes) rfl nd (pi_tup (pe_ix (ixT K) (pv 0) pe_int (fun _ _ => rfl))) (blkOk_by (N := ["fact", "part"]) (sc := defScope s_unknowns_in) (by decide +kernel)) (fun _ _ _ _ _ => (pg_name (i := 1) nd rfl (Or.inl rfl))) (fun _ _ _ _ _ => pts_nil) (fun _ _ _ _ _ => (pe_ix (ixT K) (pv 1) pe_int (fun _ _ => rfl)))) pa_nil)) pa_nil)))), ?_⟩
    try dsimp only [L2.cxOf, L2.Cx.nox, L2.Cx.wish]
    rw [st_unknowns_in]
    have op : ∃ (q : Addr) (ds xs : List V), SqT K H p (V.str (Str.ofString (match f with | .row _ _ => "row" | .any _ => "any")) :: V.ref q :: ds) ∧ SqT K H q xs ∧ xs.length = f.vars.length ∧ ∀ (i : Nat) (x : V), xs[i]? = some x → ∃ (a : Addr) (u : Int) (ys : List V), x = V.ref a ∧ f.vars[i]? = some u ∧ SqT K H a (V.int u :: ys) := by
      cases f with
      | row ts n =>
        obtain ⟨qf, sf, jf⟩ := row_open hf
        obtain ⟨xs, s2, i2⟩ := Im.open jf
        refine ⟨qf, _, xs, sf, s2, by rw [mapLenP i2, Fact.vars, List.length_map], fun i x hx => ?_⟩
        obtain ⟨z, hz, hxd⟩ := mapGetP i2 hx
        obtain ⟨a, rfl, sa⟩ := term_at hxd
        exact ⟨a, z.1, _, rfl, by simp [Fact.vars, hz], sa⟩
      | any ls =>
        obtain ⟨qf, sf, jf⟩ := any_open hf
        obtain ⟨xs, s2, i2⟩ := Im.open jf
        refine ⟨qf, _, xs, sf, s2, by rw [mapLenP i2, Fact.vars, List.length_map], fun i x hx => ?_⟩
        obtain ⟨z, hz, hxd⟩ := mapGetP i2 hx
        obtain ⟨a, rfl, sa⟩ := lit_at hxd
        exact ⟨a, z.v, _, rfl, by simp [Fact.vars, hz], sa⟩
    obtain ⟨q, ds, xs, sp, sq, hln, at_⟩ := op
    walk_at "cg"
    refine r_ixT sp atI_1 ?_
    walk_at "cg"
    refine r_lcT xs (fun D i H' => Kp [] H H' ∧ H D = none ∧ H' D = some (.lst ((f.vars.take i).map V.int))) (fun D H2 hD e2 k2 => ⟨k2, hD, e2⟩) (fun D i H' ⟨k2, _⟩ => k2.tup sq) ?_ ?_
    · rintro D i x H' hx ⟨k2, hD, eD⟩
      obtain ⟨a, u, ys, rfl, hu, sa⟩ := at_ i x hx
      have hi : i < f.vars.length := (List.getElem?_eq_some_iff.mp hu).1
      walk_at "cg"
      refine r_ixT (k2.tup sa) atI_0 ?_
      walk_at "cg"
      refine r_ap (by walk_at "cg h") (small1000 (by simp; omega)) fun H4 e4 k4 => ?_
      refine ⟨by walk_at "cg kp", hD, ?_⟩
      rw [e4, map_take_snoc hu]
    · rintro D H' ⟨k2, hD, eD⟩
      rw [hln, List.take_length] at eD
      walk_at "cg"
      refine ⟨D, f.vars, rfl, SqL.of eD, by omega, fun S c hS hc _ => ?_⟩
      walk_at "cg"
      refine ⟨S, _, c, rfl, upd_same, by omega, fun ns l hp hm hn hl => ?_⟩
      have f1 : H S = none := k2.free0 hS
      have f2 : H l = none := k2.free0 (by
        cases q : H' l with
        | none => rfl
        | some o =>
          rw [upd_ne (ne_of_none q hS), q] at hl
          cases hl)
      refine k l ns _ f2 upd_same hp (fun j => by rw [hm j]; simp) ⟨fun b o _ e => ?_, fun _ h => by cases h⟩
      rw [upd_ne (ne_of_none e f2), upd_ne (ne_of_none e f1)]
      exact k2.get0 e
theorem ok_Model_has {f : Addr} {fd : FuncData} (F : Fun K "has" "Model.has" s_Model_has f fd) (B : Bi K mg C_Model C_Remaining)  : FnOk P w K mg base CX0 1 f fd ["self", "label"] (spHas K C_Model) := by
  have nd := sc_Model_has.nd
  refine F.ok sc_Model_has ?len (fun cdv A outer s H vs Q E hr h => ?body)
  case len =>
    rintro vs H Q E ⟨a, M, x, rfl, _⟩
    rfl
  case body =>
    obtain ⟨a, M, x, rfl, hM, k⟩ := h
    refine ⟨_, (pss_one (ps_ret (pe_cmp (pc_din (hu_of hr) (pv 1) (pe_fld (pv 0) rfl))))), ?_⟩
    try dsimp only [L2.cxOf, L2.Cx.nox, L2.Cx.wish]
    rw [st_Model_has]
    have c := B.cl_Model
    have a4 := B.at_Model__bodies
    obtain ⟨dx, fs, g, h1, h2, h3⟩ := hM.ob
    have l4 := h2.bo
    obtain ⟨kvs, h4, h5, h6⟩ := hM.bo
    walk_at "cg"
    refine r_inDk (k := Sum.inr x) h4 rfl ?_
    rw [kvs_has h5]
    exact k
end
/-! ### the points of a box that a body can tell apart -/
theorem at_set (os : List Int) (i : Nat) (x : Int) (v : Int) : at_ (os.set i x) v = if v.toNat = i ∧ i < os.length then x else at_ os v := by
  unfold at_
  rw [List.getD_eq_getElem?_getD, List.getD_eq_getElem?_getD, List.getElem?_set]
  by_cases h1 : i = v.toNat
  · subst h1
    by_cases h2 : v.toNat < os.length
    · simp [h2]
    · simp [h2]
  · rw [if_neg h1, if_neg (fun e => h1 e.1.symm)]
theorem ixN_ok {n : Nat} {i : Int} (h0 : 0 ≤ i) (h1 : i < n) : ixN n i = some i.toNat := by simp [ixN, h0, h1]
def prF (f : Int → Int) : List Int → Int
  | [] => 1
  | n :: ns => f n * prF f ns
theorem prF_snoc (f : Int → Int) : ∀ (ns : List Int) (n : Int), prF f (ns ++ [n]) = prF f ns * f n
  | [], n => by simp [prF]
  | m :: ns, n => by
    show f m * prF f (ns ++ [n]) = f m * prF f ns * f n
    rw [prF_snoc f ns n, Int.mul_assoc]
theorem prF_take {f : Int → Int} {ns : List Int} {i : Nat} {n : Int} (h : ns[i]? = some n) : prF f (ns.take (i + 1)) = prF f (ns.take i) * f n := by
  rw [List.take_add_one, h]
  exact prF_snoc _ _ _
theorem prF_pos {f : Int → Int} : ∀ {ns : List Int}, (∀ n ∈ ns, 1 ≤ f n) → 1 ≤ prF f ns
  | [], _ => Int.le_refl _
  | n :: ns, h => by
    have h1 := h n List.mem_cons_self
    have h2 := prF_pos (ns := ns) fun m hm => h m (List.mem_cons_of_mem _ hm)
    show 1 ≤ f n * prF f ns
    have := Int.mul_le_mul h1 h2 (by omega) (by omega)
    omega
theorem prF_le4 {f : Int → Int} : ∀ {ns : List Int}, (∀ n ∈ ns, 1 ≤ f n ∧ f n ≤ 4) → 1 ≤ prF f ns ∧ prF f ns ≤ 4 ^ ns.length
  | [], _ => ⟨Int.le_refl _, Int.le_refl _⟩
  | n :: ns, h => by
    have h1 := h n List.mem_cons_self
    have h2 := prF_le4 (ns := ns) fun m hm => h m (List.mem_cons_of_mem _ hm)
    refine ⟨prF_pos fun m hm => (h m hm).1, ?_⟩
    show f n * prF f ns ≤ 4 ^ (ns.length + 1)
    rw [Int.pow_succ, Int.mul_comm (4 ^ ns.length) 4]
    exact Int.mul_le_mul h1.2 h2.2 (by omega) (by omega)
/-- the size of a side -/
def szV (los his : List Int) (v : Int) : Int := at_ his v - at_ los v + 1
/-- the values of a place, put into a point -/
def decP (los his : List Int) : List Int → Int → List Int → List Int
  | [], _, pt => pt
  | v :: ns, r, pt => decP los his ns (r / szV los his v) (pt.set v.toNat (at_ los v + r % szV los his v))
def codP (los his : List Int) (f : Pt) : List Int → Int
  | [] => 0
  | v :: ns => (f v - at_ los v) + szV los his v * codP los his f ns
theorem decP_len (los his : List Int) : ∀ (ns : List Int) (r : Int) (pt : List Int), (decP los his ns r pt).length = pt.length
  | [], _, _ => rfl
  | v :: ns, r, pt => by
    show (decP los his ns _ _).length = _
    rw [decP_len los his ns, List.length_set]
theorem decP_off (los his : List Int) : ∀ (ns : List Int) (r : Int) (pt : List Int) (u : Int), (∀ v ∈ ns, v.toNat ≠ u.toNat) → at_ (decP los his ns r pt) u = at_ pt u
  | [], _, _, _, _ => rfl
  | v :: ns, r, pt, u, h => by
    show at_ (decP los his ns _ _) u = _
    rw [decP_off los his ns _ _ u fun w hw => h w (List.mem_cons_of_mem _ hw), at_set, if_neg fun e => h v List.mem_cons_self e.1.symm]
theorem decP_on (los his : List Int) (f : Pt) : ∀ (ns : List Int) (pt : List Int), ns.Nodup → (∀ v ∈ ns, 0 ≤ v ∧ v < pt.length) → (∀ v ∈ ns, at_ los v ≤ f v ∧ f v ≤ at_ his v) → ∀ u ∈ ns, at_ (decP los his ns (codP los his f ns) pt) u = f u
  | [], _, _, _, _, u, hu => by cases hu
  | v :: ns, pt, nd, rg, bx, u, hu => by
    rw [List.nodup_cons] at nd
    have hv := rg v List.mem_cons_self
    have hb := bx v List.mem_cons_self
    have hs : 1 ≤ szV los his v := by unfold szV; omega
    have e1 : codP los his f (v :: ns) % szV los his v = f v - at_ los v := by
      show (f v - at_ los v + szV los his v * _) % szV los his v = _
      rw [Int.add_mul_emod_self_left]
      exact Int.emod_eq_of_lt (by omega) (by unfold szV; omega)
    have e2 : codP los his f (v :: ns) / szV los his v = codP los his f ns := by
      show (f v - at_ los v + szV los his v * _) / szV los his v = _
      rw [Int.add_mul_ediv_left _ _ (by omega), Int.ediv_eq_zero_of_lt (by omega) (by unfold szV; omega), Int.zero_add]
    show at_ (decP los his ns (codP los his f (v :: ns) / szV los his v) (pt.set v.toNat (at_ los v + codP los his f (v :: ns) % szV los his v))) u = _
    rw [e1, e2]
    rcases List.mem_cons.mp hu with rfl | hu
    · rw [decP_off _ _ _ _ _ _ fun w hw e => nd.1 (by have := rg w (List.mem_cons_of_mem _ hw); rw [show u = w by omega]; exact hw), at_set, if_pos ⟨rfl, by omega⟩]
      omega
    · exact decP_on los his f ns _ nd.2 (fun w hw => by rw [List.length_set]; exact rg w (List.mem_cons_of_mem _ hw)) (fun w hw => bx w (List.mem_cons_of_mem _ hw)) u hu
theorem codP_lt (los his : List Int) (f : Pt) : ∀ (ns : List Int), (∀ v ∈ ns, at_ los v ≤ f v ∧ f v ≤ at_ his v) → 0 ≤ codP los his f ns ∧ codP los his f ns < prF (szV los his) ns
  | [], _ => ⟨Int.le_refl _, by show (0 : Int) < 1; decide⟩
  | v :: ns, bx => by
    have hb := bx v List.mem_cons_self
    have ih := codP_lt los his f ns fun w hw => bx w (List.mem_cons_of_mem _ hw)
    have hs : 1 ≤ szV los his v := by unfold szV; omega
    have hd : f v - at_ los v ≤ szV los his v - 1 := by unfold szV; omega
    show 0 ≤ f v - at_ los v + szV los his v * codP los his f ns ∧ f v - at_ los v + szV los his v * codP los his f ns < szV los his v * prF (szV los his) ns
    have a := Int.mul_nonneg (show 0 ≤ szV los his v by omega) ih.1
    have b := Int.mul_le_mul_of_nonneg_left (show codP los his f ns + 1 ≤ prF (szV los his) ns by omega) (show 0 ≤ szV los his v by omega)
    rw [Int.mul_add, Int.mul_one] at b
    omega
/-- a point of the box -/
def inLH (los his pt : List Int) : Prop := pt.length = los.length ∧ ∀ v : Int, 0 ≤ v → v < los.length → at_ los v ≤ at_ pt v ∧ at_ pt v ≤ at_ his v
theorem decP_in {los his : List Int} : ∀ (ns : List Int) (r : Int) (pt : List Int), (∀ v ∈ ns, (0 ≤ v ∧ v < los.length) ∧ at_ los v ≤ at_ his v) → inLH los his pt → inLH los his (decP los his ns r pt)
  | [], _, _, _, h => h
  | v :: ns, r, pt, g, h => by
    have g0 := g v List.mem_cons_self
    have hs : 0 < szV los his v := by unfold szV; omega
    have m0 := Int.emod_nonneg r (show szV los his v ≠ 0 by omega)
    have m1 := Int.emod_lt_of_pos r hs
    refine decP_in ns _ _ (fun w hw => g w (List.mem_cons_of_mem _ hw)) ⟨by rw [List.length_set]; exact h.1, fun u h0 h1 => ?_⟩
    rw [at_set]
    by_cases e : u.toNat = v.toNat ∧ v.toNat < pt.length
    · rw [if_pos e]
      have e2 : u = v := by omega
      subst e2
      unfold szV at m1 m0 ⊢
      omega
    · rw [if_neg e]
      exact h.2 u h0 h1
/-- the box of the model's kind: whole sides -/
def bxOk (los his : List Int) : Prop := his.length = los.length ∧ ∀ v : Int, 0 ≤ v → v < los.length → at_ los v ≤ at_ his v
def bxBd (los his : List Int) : Prop := ∀ v : Int, -1000000 ≤ at_ los v ∧ at_ los v ≤ 1000000 ∧ -1000000 ≤ at_ his v ∧ at_ his v ≤ 1000000
theorem inLH_bd {los his pt : List Int} (h : inLH los his pt) (b : bxBd los his) (v : Int) (h0 : 0 ≤ v) (h1 : v < los.length) : -1000000 ≤ at_ pt v ∧ at_ pt v ≤ 1000000 := by
  have q := h.2 v h0 h1
  have r := b v
  omega
structure BoxAt (K : PySem.W.Frag) (H : Hp) (p : Addr) (los his : List Int) : Prop where
  ex : ∃ q1 q2 : Addr, SqT K H p [.ref q1, .ref q2] ∧ SqT K H q1 (los.map V.int) ∧ SqT K H q2 (his.map V.int)
theorem BoxAt.kp {K : PySem.W.Frag} {H H' : Hp} {p : Addr} {S : List Addr} {los his : List Int} (k : Kp S H H') (h : BoxAt K H p los his) : BoxAt K H' p los his := by
  obtain ⟨q1, q2, a, b, c⟩ := h.ex
  exact ⟨q1, q2, k.tup a, k.tup b, k.tup c⟩
local macro_rules | `(tactic| walk_at "cg h") => `(tactic| (first
  | ((with_reducible show BoxAt _ _ _ _ _); exact BoxAt.kp (by assumption) (by walk_at "cg h"))
  | fail))
local macro_rules | `(tactic| walk_at "cg h") => `(tactic| assumption)
def spCost (K : PySem.W.Frag) : Sp := fun vs H Q _ => ∃ (p q : Addr) (b : Body) (los his : List Int), vs = [.ref p, .ref q] ∧ BodyAt K H p b ∧ b.bd ∧ BoxAt K H q los his ∧ bxOk los his ∧ bxBd los his ∧ (∀ v ∈ b.vars, 0 ≤ v ∧ v < los.length) ∧ ∀ H', Kp [] H H' → Q (.int (prF (szV los his) (numsOf b.vars los.length))) H'
/-- some point of the box does -/
def suppP (b : Body) (los his : List Int) : Prop := ∃ pt, inLH los his pt ∧ b.h (at_ pt) = true
def spSupp (K : PySem.W.Frag) : Sp := fun vs H Q _ => ∃ (p q : Addr) (b : Body) (los his : List Int), vs = [.ref p, .ref q] ∧ BodyAt K H p b ∧ b.bd ∧ BoxAt K H q los his ∧ bxOk los his ∧ bxBd los his ∧ (∀ v ∈ b.vars, 0 ≤ v ∧ v < los.length) ∧ prF (szV los his) (numsOf b.vars los.length) ≤ 1000000 ∧ ∀ (r : Bool) H', (r = true ↔ suppP b los his) → Kp [] H H' → Q (.bl r) H'
theorem supp_some {b : Body} {los his : List Int} {r : Int} (ok : bxOk los his) (hv : ∀ v ∈ b.vars, 0 ≤ v ∧ v < los.length) (h : b.h (at_ (decP los his (numsOf b.vars los.length) r los)) = true) : suppP b los his :=
  ⟨_, decP_in _ _ _ (fun v hm => by have q := numsOf_mem.mp hm; exact ⟨q.1, ok.2 v q.1.1 q.1.2⟩) ⟨rfl, fun v h0 h1 => ⟨Int.le_refl _, ok.2 v h0 h1⟩⟩, h⟩
theorem supp_none {b : Body} {los his : List Int} (hv : ∀ v ∈ b.vars, 0 ≤ v ∧ v < los.length) (h : ∀ j : Nat, (j : Int) < prF (szV los his) (numsOf b.vars los.length) → b.h (at_ (decP los his (numsOf b.vars los.length) j los)) = false) : ¬ suppP b los his := by
  rintro ⟨pt, hin, hb⟩
  have bx : ∀ v ∈ numsOf b.vars los.length, at_ los v ≤ at_ pt v ∧ at_ pt v ≤ at_ his v := fun v hm => hin.2 v (numsOf_mem.mp hm).1.1 (numsOf_mem.mp hm).1.2
  have c := codP_lt los his (at_ pt) _ bx
  have q := h (codP los his (at_ pt) (numsOf b.vars los.length)).toNat (by omega)
  rw [Int.toNat_of_nonneg c.1] at q
  have e : b.h (at_ (decP los his (numsOf b.vars los.length) (codP los his (at_ pt) (numsOf b.vars los.length)) los)) = b.h (at_ pt) := Body.h_congr fun v hm =>
    decP_on los his (at_ pt) _ los ((numsOf_asc _ _).imp fun {a b} h => by omega) (fun u hu => (numsOf_mem.mp hu).1) bx v (numsOf_mem.mpr ⟨hv v hm, hm⟩)
  rw [q, hb] at e
  cases e

/-! ### range(a, b); lists of lists of ints -/
def isR2 (vs : List V) (H : Hp) (R : It → Hp → Prop) : Prop := ∃ i j : Int, vs = [.int i, .int j] ∧ (-(2 ^ 62) ≤ i ∧ i < 2 ^ 62 ∧ -(2 ^ 62) ≤ j ∧ j < 2 ^ 62) ∧ R (Itr i (j - i).toNat) H
instance s_iR2 {ta : TA} {σ : St} {H : Hp} {R : It → Hp → Prop} : Stp (iRng2 ta σ H R) (ta σ H fun vs H1 => isR2 vs H1 R) := ⟨id⟩
theorem r_isR2 {i j : Int} {H : Hp} {R : It → Hp → Prop} (h1 : -1000000000 ≤ i ∧ i ≤ 1000000000) (h2 : -1000000000 ≤ j ∧ j ≤ 1000000000) (q : R (Itr i (j - i).toNat) H) : isR2 [.int i, .int j] H R := ⟨i, j, rfl, by omega, q⟩
local macro_rules | `(tactic| walk_at "cg s") => `(tactic| ((with_reducible apply r_isR2); (focus (first | omega | (constructor <;> decide))); (focus (first | omega | (constructor <;> decide)))))
inductive Els (H : Hp) : List V → List (List Int) → Prop
  | nil : Els H [] []
  | cons {p : Addr} {pt : List Int} {xs : List V} {L : List (List Int)} : H p = some (.lst (pt.map V.int)) → Els H xs L → Els H (.ref p :: xs) (pt :: L)
theorem Els.length {H : Hp} : ∀ {xs : List V} {L : List (List Int)}, Els H xs L → xs.length = L.length
  | _, _, .nil => rfl
  | _, _, .cons _ a => by rw [List.length_cons, List.length_cons, a.length]
theorem Els.kp {S : List Addr} {H H' : Hp} (k : Kp S H H') : ∀ {xs : List V} {L : List (List Int)}, Els H xs L → (∀ p, p ∈ S → V.ref p ∉ xs) → Els H' xs L
  | _, _, .nil, _ => .nil
  | _, _, .cons (p := p) h a, n => .cons (k.k p _ (fun hp => n p hp List.mem_cons_self) h) (a.kp k fun q hq hm => n q hq (List.mem_cons_of_mem _ hm))
theorem Els.kp0 {H H' : Hp} {xs : List V} {L : List (List Int)} (k : Kp [] H H') (h : Els H xs L) : Els H' xs L := h.kp k fun _ hp => nomatch hp
theorem Els.off {H : Hp} {D : Addr} (hD : H D = none) : ∀ {xs : List V} {L : List (List Int)}, Els H xs L → V.ref D ∉ xs
  | _, _, .nil, h => by cases h
  | _, _, .cons h a, m => by
    rcases List.mem_cons.mp m with e | m
    · cases e
      rw [hD] at h
      cases h
    · exact a.off hD m
theorem Els.snoc {H : Hp} {p : Addr} {pt : List Int} (h' : H p = some (.lst (pt.map V.int))) : ∀ {xs : List V} {L : List (List Int)}, Els H xs L → Els H (xs ++ [.ref p]) (L ++ [pt])
  | _, _, .nil => .cons h' .nil
  | _, _, .cons h a => .cons h (a.snoc h')
theorem Els.get {H : Hp} : ∀ {xs : List V} {L : List (List Int)} {i : Nat} {x : V}, Els H xs L → xs[i]? = some x → ∃ p pt, x = .ref p ∧ L[i]? = some pt ∧ H p = some (.lst (pt.map V.int))
  | _, _, _, _, .nil, e => by simp at e
  | _, _, 0, _, .cons (p := p) (pt := pt) h _, e => by simp at e; subst e; exact ⟨p, pt, rfl, rfl, h⟩
  | _, _, i + 1, _, .cons _ a, e => by
    obtain ⟨p, pt, h1, h2, h3⟩ := a.get (i := i) (by simpa using e)
    exact ⟨p, pt, h1, by simpa using h2, h3⟩
/-- all points of the first i sides -/
def extP (a b : Int) (pt : List Int) : List (List Int) := (rgI a b).map fun x => pt ++ [x]
def ptsL (los his : List Int) : Nat → List (List Int)
  | 0 => [[]]
  | i + 1 => (ptsL los his i).flatMap (extP (at_ los i) (at_ his i + 1))
theorem rgI_succ (a : Int) (k : Nat) (n : Nat) (h : k < n) : ((List.range (k + 1)).map fun i => a + ((i : Nat) : Int)) = ((List.range k).map fun i => a + ((i : Nat) : Int)) ++ [a + (k : Int)] := by
  rw [List.range_succ, List.map_append]
  rfl
theorem at_snoc_lt {pt : List Int} {x v : Int} (h0 : 0 ≤ v) (h : v < pt.length) : at_ (pt ++ [x]) v = at_ pt v := by
  unfold at_
  rw [List.getD_eq_getElem?_getD, List.getD_eq_getElem?_getD, List.getElem?_append_left (by omega)]
theorem at_snoc_eq {pt : List Int} {x v : Int} (h : v = pt.length) : at_ (pt ++ [x]) v = x := by
  subst h
  unfold at_
  rw [Int.toNat_natCast, List.getD_eq_getElem?_getD, List.getElem?_append_right (Nat.le_refl _), Nat.sub_self]
  rfl
theorem ptsL_mem (los his : List Int) : ∀ (i : Nat) (pt : List Int), pt ∈ ptsL los his i ↔ pt.length = i ∧ ∀ v : Int, 0 ≤ v → v < i → at_ los v ≤ at_ pt v ∧ at_ pt v ≤ at_ his v
  | 0, pt => by
    show pt ∈ [[]] ↔ _
    rw [List.mem_singleton]
    constructor
    · rintro rfl
      exact ⟨rfl, fun v h0 h1 => by omega⟩
    · exact fun h => List.length_eq_zero_iff.mp h.1
  | i + 1, pt => by
    show pt ∈ (ptsL los his i).flatMap (extP (at_ los i) (at_ his i + 1)) ↔ _
    rw [List.mem_flatMap]
    constructor
    · rintro ⟨z, hz, hp⟩
      obtain ⟨x, hx, rfl⟩ := List.mem_map.mp hp
      have q := (ptsL_mem los his i z).mp hz
      have r := rgI_mem.mp hx
      refine ⟨by rw [List.length_append, q.1]; rfl, fun v h0 h1 => ?_⟩
      by_cases e : v < i
      · rw [at_snoc_lt h0 (by omega)]
        exact q.2 v h0 e
      · have e2 : v = i := by omega
        subst e2
        rw [at_snoc_eq (by omega)]
        omega
    · rintro ⟨hl, hb⟩
      rcases List.eq_nil_or_concat pt with rfl | ⟨z, x, rfl⟩
      · simp at hl
      rw [List.concat_eq_append] at hl hb ⊢
      rw [List.length_append] at hl
      have hzl : z.length = i := by simpa using hl
      have hx := hb i (by omega) (by omega)
      rw [at_snoc_eq (by omega)] at hx
      refine ⟨z, (ptsL_mem los his i z).mpr ⟨hzl, fun v h0 h1 => ?_⟩, List.mem_map.mpr ⟨x, rgI_mem.mpr (by omega), rfl⟩⟩
      have q := hb v h0 (by omega)
      rw [at_snoc_lt h0 (by omega)] at q
      exact q
theorem ptsL_suppP {los his : List Int} {b : Body} : ((ptsL los his los.length).any fun pt => b.h (at_ pt)) = true ↔ suppP b los his := by
  rw [List.any_eq_true]
  constructor
  · rintro ⟨pt, hm, hb⟩
    exact ⟨pt, (ptsL_mem _ _ _ _).mp hm, hb⟩
  · rintro ⟨pt, hm, hb⟩
    exact ⟨pt, (ptsL_mem _ _ _ _).mpr hm, hb⟩
theorem flat_take {α β : Type} {l : List α} {f : α → List β} {i : Nat} {x : α} (h : l[i]? = some x) : (l.take (i + 1)).flatMap f = (l.take i).flatMap f ++ f x := by
  rw [List.take_add_one, h, List.flatMap_append]
  simp
theorem ptsL_le {los his : List Int} : ∀ i : Nat, i ≤ los.length → bxOk los his → (∀ v : Int, 0 ≤ v → v < los.length → szV los his v ≤ 4) → (ptsL los his i).length ≤ 4 ^ i
  | 0, _, _, _ => Nat.le_refl _
  | i + 1, hi, ok, h => by
    have ih := ptsL_le i (by omega) ok h
    have hs := h i (by omega) (by omega)
    have e : ∀ L : List (List Int), (L.flatMap (extP (at_ los i) (at_ his i + 1))).length ≤ L.length * 4 := fun L => by
      induction L with
      | nil => exact Nat.le_refl _
      | cons z L ih =>
        rw [List.flatMap_cons, List.length_append, List.length_cons]
        have : (extP (at_ los i) (at_ his i + 1) z).length ≤ 4 := by
          unfold extP
          rw [List.length_map, rgI_len]
          unfold szV at hs
          omega
        omega
    show ((ptsL los his i).flatMap _).length ≤ _
    rw [Nat.pow_succ]
    exact Nat.le_trans (e _) (Nat.mul_le_mul_right 4 ih)
/-- the sides that are drawn for these bounds -/
def sidesOk (us : List Un) (ls hs : List Int) : Prop := ls.length = hs.length ∧ ∀ (j : Nat) u a b, us[j]? = some u → ls[j]? = some a → hs[j]? = some b → u.2.1 ≤ a ∧ a ≤ b ∧ b ≤ u.2.2
theorem sidesOk.snoc {us : List Un} {ls hs : List Int} {u : Un} {a b : Int} (h : sidesOk us ls hs) (hu : us[ls.length]? = some u) (hb : u.2.1 ≤ a ∧ a ≤ b ∧ b ≤ u.2.2) : sidesOk us (ls ++ [a]) (hs ++ [b]) := by
  refine ⟨by simp [h.1], fun j v x y hv hx hy => ?_⟩
  rcases Nat.lt_trichotomy j ls.length with e | e | e
  · rw [List.getElem?_append_left e] at hx
    rw [List.getElem?_append_left (by rw [← h.1]; exact e)] at hy
    exact h.2 j v x y hv hx hy
  · subst e
    rw [hu] at hv
    rw [List.getElem?_append_right (Nat.le_refl _), Nat.sub_self] at hx
    rw [h.1, List.getElem?_append_right (Nat.le_refl _), Nat.sub_self] at hy
    simp at hv hx hy
    subst hv hx hy
    exact hb
  · rw [List.getElem?_eq_none (by simp; omega)] at hx
    cases hx
theorem sidesOk.at {us : List Un} {ls hs : List Int} (h : sidesOk us ls hs) (hl : ls.length = us.length) {i : Nat} {u : Un} (hu : us[i]? = some u) : u.2.1 ≤ at_ ls i ∧ at_ ls i ≤ at_ hs i ∧ at_ hs i ≤ u.2.2 := by
  have hi := (List.getElem?_eq_some_iff.mp hu).1
  have h1 : ls[i]? = some (at_ ls i) := by
    unfold at_
    rw [Int.toNat_natCast, List.getD_eq_getElem?_getD, List.getElem?_eq_getElem (by omega)]
    rfl
  have h2 : hs[i]? = some (at_ hs i) := by
    unfold at_
    rw [Int.toNat_natCast, List.getD_eq_getElem?_getD, List.getElem?_eq_getElem (by have := h.1; omega)]
    rfl
  exact h.2 i u _ _ hu h1 h2
theorem lst_snoc {H : Hp} {D : Addr} {ls : List Int} {x : Int} (h : H D = some (.lst (ls.map V.int ++ [.int x]))) : H D = some (.lst ((ls ++ [x]).map V.int)) := by
  rw [h, List.map_append]
  rfl
structure LtB (m : Int) : Prop where
  h : m < bigB
theorem LtB.of {m : Int} (h : m ≤ 1000000) : LtB m := ⟨by
  have e : (1000000 : Int) < bigB := by decide
  exact Int.lt_of_le_of_lt h e⟩
local macro_rules | `(tactic| walk_at "cg dr") => `(tactic| ((with_reducible refine spDraw_i (c := ?c) ?h ?h1 ?h2 ?_); (case h => walk_at "cg h"); (case h1 => first | omega | decide); (case h2 => first | (exact LtB.h (by with_reducible assumption)) | (with_reducible assumption) | decide)))
def spLawBox (K : PySem.W.Frag) : Sp := fun vs H Q _ => ∃ (t c l : Addr) (refs : List V) (us : List Un), vs = [.ref t, .ref l] ∧ Tp t c H ∧ H l = some (.lst refs) ∧ l ≠ t ∧ ImAll K H refs (us.map unD) ∧ us.length ≤ 1000 ∧ (∀ u ∈ us, -10000 ≤ u.2.1 ∧ u.2.1 ≤ u.2.2 ∧ u.2.2 ≤ 10000) ∧
  ∀ (p : Addr) (los his : List Int) H', BoxAt K H' p los his → los.length = us.length → sidesOk us los his → Tp t c H' → Kp [t] H H' → Q (.ref p) H'
def spLawPoints (K : PySem.W.Frag) : Sp := fun vs H Q _ => ∃ (p : Addr) (los his : List Int), vs = [.ref p] ∧ BoxAt K H p los his ∧ bxOk los his ∧ bxBd los his ∧ los.length ≤ 5 ∧ (∀ v : Int, 0 ≤ v → v < los.length → szV los his v ≤ 4) ∧
  ∀ (P : Addr) (refs : List V) H', H' P = some (.lst refs) → Els H' refs (ptsL los his los.length) → Kp [] H H' → Q (.ref P) H'

/-! ### the greater and the lesser of two -/
def rMax2 : List V → Hp → VK → Prop := fun xs H Q => ∃ i j, xs = [.int i, .int j] ∧ Q (.int (if j > i then j else i)) H
def rMin2 : List V → Hp → VK → Prop := fun xs H Q => ∃ i j, xs = [.int i, .int j] ∧ Q (.int (if j < i then j else i)) H
theorem cg_max2 {X : Cx} (hc : X.calm = true) : CallR X (.builtin "max") rMax2 := call_max2 hc
theorem cg_min2 {X : Cx} (hc : X.calm = true) : CallR X (.builtin "min") rMin2 := call_min2 hc
instance s_max2 {i j : Int} {H : Hp} {Q : VK} : Stp (rMax2 [.int i, .int j] H Q) (Q (.int (if j > i then j else i)) H) := ⟨fun h => ⟨i, j, rfl, h⟩⟩
instance s_min2 {i j : Int} {H : Hp} {Q : VK} : Stp (rMin2 [.int i, .int j] H Q) (Q (.int (if j < i then j else i)) H) := ⟨fun h => ⟨i, j, rfl, h⟩⟩

/-! ### dicts with numbers as keys -/
def ents (ks : List Int) (f : Int → V) : List (Key × V) := ks.map fun v => (Sum.inl v, f v)
theorem valV_ents {ks : List Int} {f : Int → V} {v : Int} : valV (ents ks f) (Sum.inl v) = if v ∈ ks then some (f v) else none := by
  unfold valV ents
  induction ks with
  | nil => rfl
  | cons u ks ih =>
    rw [List.map_cons, List.find?_cons]
    by_cases e : u = v
    · subst e
      simp
    · have e2 : decide ((Sum.inl u : Key) = Sum.inl v) = false := by
        rw [decide_eq_false_iff_not]
        intro z
        cases z
        exact e rfl
      simp only [e2]
      rw [ih]
      have e3 : (v ∈ u :: ks) ↔ v ∈ ks := by
        rw [List.mem_cons]
        exact ⟨fun h => h.resolve_left fun z => e z.symm, .inr⟩
      simp only [e3]
theorem any_ents {ks : List Int} {f : Int → V} {v : Int} : ((ents ks f).any fun kv => decide (kv.1 = Sum.inl v)) = decide (v ∈ ks) := by
  rw [valV_any, valV_ents]
  by_cases h : v ∈ ks
  · rw [if_pos h, decide_eq_true h]
    rfl
  · rw [if_neg h, decide_eq_false h]
    rfl
theorem putK_ents {ks : List Int} {f : Int → V} {v : Int} {x : V} : putK (ents ks f) (Sum.inl v) x = ents (if v ∈ ks then ks else ks ++ [v]) (fun u => if u = v then x else f u) := by
  unfold putK
  rw [any_ents]
  by_cases h : v ∈ ks
  · rw [decide_eq_true h, if_pos rfl, if_pos h]
    unfold ents
    rw [List.map_map]
    refine List.map_congr_left fun u _ => ?_
    show (if (Sum.inl u : Key) = Sum.inl v then (Sum.inl u, x) else (Sum.inl u, f u)) = _
    by_cases e : u = v
    · rw [if_pos (by rw [e])]
      show _ = (Sum.inl u, if u = v then x else f u)
      rw [if_pos e]
    · rw [if_neg (fun z => by cases z; exact e rfl)]
      show _ = (Sum.inl u, if u = v then x else f u)
      rw [if_neg e]
  · rw [decide_eq_false h, if_neg (by decide), if_neg h]
    unfold ents
    rw [List.map_append]
    have e1 : ks.map (fun u => ((Sum.inl u : Key), f u)) = ks.map (fun u => ((Sum.inl u : Key), if u = v then x else f u)) := List.map_congr_left fun u hu => by simp only [if_neg (show ¬ u = v from fun e => h (e ▸ hu))]
    rw [e1]
    simp
section
variable {td ty tx : TE} {σ : St} {H : Hp} {Q : VK} {a : Addr} {ks : List Int} {f : Int → V} {v : Int} {x y z : V} {kvs : List (Key × V)}
def isDk (x : V) (H : Hp) (R : Addr → Prop) : Prop := ∃ a, x = .ref a ∧ IsD H a ∧ R a
def dgD (a : Addr) (y z : V) (H : Hp) (Q : VK) : Prop := ∃ o, DGet H a y o ∧ Q (o.getD z) H
instance s_dg2 : Stp (tDGet2 td ty tx σ H Q) (td σ H fun x H1 => isDk x H1 fun a => ty σ H1 fun y H2 => tx σ H2 fun z H3 => dgD a y z H3 Q) := ⟨id⟩
theorem r_isDk {R : Addr → Prop} (h : H a = some (.dK kvs)) (q : R a) : isDk (.ref a) H R := ⟨a, rfl, .inl ⟨kvs, .inl h⟩, q⟩
theorem r_dgD (h : H a = some (.dK (ents ks f))) (q : Q (if v ∈ ks then f v else z) H) : dgD a (.int v) z H Q := by
  refine ⟨_, DGet.k (k := Sum.inl v) h, ?_⟩
  rw [valV_ents]
  by_cases e : v ∈ ks
  · rw [if_pos e] at q ⊢
    exact q
  · rw [if_neg e] at q ⊢
    exact q
theorem r_putE {R : Hp → Prop} (h : H a = some (.dK (ents ks f))) (few : ks.length ≤ 10000) (q : ∀ H2, H2 a = some (.dK (ents (if v ∈ ks then ks else ks ++ [v]) fun u => if u = v then x else f u)) → Kp [a] H H2 → R H2) : putD (.ref a) (.int v) x H R :=
  r_putD (k := Sum.inl v) h (by unfold ents; rw [List.length_map]; exact few) fun H2 e2 k2 => q H2 (by rw [e2, putK_ents]) k2
theorem r_ixDK {H : Hp} {Q : VK} {a : Addr} (h : H a = some (.dK (ents ks f))) (hv : v ∈ ks) (q : Q (f v) H) : rIxDK (.ref a) (.int v) H Q := ⟨a, _, v, f v, rfl, rfl, h, by rw [valV_ents, if_pos hv], q⟩
def rSortDI : List V → Hp → VK → Prop := fun xs H Q => ∃ (a : Addr) (kvs : List (Key × V)) (ks : List Int), xs = [.ref a] ∧ Rd H a (.dK kvs) ∧ kvs.map (·.1) = ks.map Sum.inl ∧ ks.length < 64 ∧ ∀ (ys : List Int) (p : Addr), ys.Perm ks → ys.Pairwise (· ≤ ·) → H p = none → Q (.ref p) (upd H p (.lst (ys.map V.int)))
theorem cg_sortDI {X : Cx} (hc : X.calm = true) : CallR X (.builtin "sorted") rSortDI := call_sortedDI hc
theorem r_sortDI (h : H a = some (.dK (ents ks f))) (nd : ks.Nodup) (h64 : ks.length < 64) (q : ∀ (ys : List Int) p H2, ys.Pairwise (· < ·) → (∀ k, k ∈ ys ↔ k ∈ ks) → H p = none → H2 p = some (.lst (ys.map V.int)) → Kp [] H H2 → Q (.ref p) H2) : rSortDI [.ref a] H Q := by
  refine ⟨a, _, ks, rfl, .inl h, ?_, h64, fun ys p hp hs hn => q ys p _ ?_ (fun k => hp.mem_iff) hn upd_same (Kp.new hn)⟩
  · unfold ents
    rw [List.map_map]
    rfl
  · have nd2 : ys.Nodup := hp.nodup_iff.mpr nd
    refine List.Pairwise.imp₂ (fun a b (h1 : a ≤ b) (h2 : a ≠ b) => (by omega : a < b)) hs nd2
end
theorem asc_ext : ∀ {xs ys : List Int}, xs.Pairwise (· < ·) → ys.Pairwise (· < ·) → (∀ k, k ∈ xs ↔ k ∈ ys) → xs = ys
  | [], [], _, _, _ => rfl
  | [], y :: ys, _, _, h => absurd ((h y).mpr List.mem_cons_self) (by simp)
  | x :: xs, [], _, _, h => absurd ((h x).mp List.mem_cons_self) (by simp)
  | x :: xs, y :: ys, hx, hy, h => by
    rw [List.pairwise_cons] at hx hy
    have e : x = y := by
      rcases List.mem_cons.mp ((h x).mp List.mem_cons_self) with e | e
      · exact e
      · rcases List.mem_cons.mp ((h y).mpr List.mem_cons_self) with e2 | e2
        · exact e2.symm
        · have a := hx.1 y e2
          have b := hy.1 x e
          omega
    subst e
    rw [asc_ext hx.2 hy.2 fun k => ?_]
    constructor
    · intro hk
      rcases List.mem_cons.mp ((h k).mp (List.mem_cons_of_mem _ hk)) with e | e
      · have := hx.1 k hk
        omega
      · exact e
    · intro hk
      rcases List.mem_cons.mp ((h k).mpr (List.mem_cons_of_mem _ hk)) with e | e
      · have := hy.1 k hk
        omega
      · exact e
/-- 0 .. n - 1 -/
def upTo (n : Nat) : List Int := (List.range n).map fun (k : Nat) => (k : Int)
theorem upTo_asc (n : Nat) : (upTo n).Pairwise (· < ·) := by
  unfold upTo
  rw [List.pairwise_map]
  exact (List.pairwise_lt_range (n := n)).imp fun h => by omega
theorem mem_upTo {n : Nat} {k : Int} : k ∈ upTo n ↔ 0 ≤ k ∧ k < n := by
  unfold upTo
  rw [List.mem_map]
  constructor
  · rintro ⟨j, hj, rfl⟩
    have := List.mem_range.mp hj
    omega
  · intro h
    exact ⟨k.toNat, List.mem_range.mpr (by omega), by omega⟩
theorem fm_asc {α : Type} {ys : List Int} {n : Nat} {f : Int → Option α} (h : ys.Pairwise (· < ·)) (hm : ∀ k ∈ ys, 0 ≤ k ∧ k < n) (hn : ∀ k, ¬ k ∈ ys → f k = none) : ys.filterMap f = (upTo n).filterMap f := by
  have e : ys = (upTo n).filter fun k => decide (k ∈ ys) := by
    refine asc_ext h ((upTo_asc n).filter _) fun k => ?_
    rw [List.mem_filter, mem_upTo, decide_eq_true_eq]
    exact ⟨fun q => ⟨hm k q, q⟩, fun q => q.2⟩
  conv => lhs; rw [e]
  rw [List.filterMap_filter]
  congr 1
  funext k
  by_cases q : k ∈ ys
  · rw [decide_eq_true q]; rfl
  · rw [decide_eq_false q, hn k q]; rfl
def coefF : Tms → Int → Int
  | [], _ => 0
  | z :: ts, v => (if z.1 = v then z.2 else 0) + coefF ts v
theorem coefF_app (ts us : Tms) (v : Int) : coefF (ts ++ us) v = coefF ts v + coefF us v := by
  induction ts with
  | nil => simp [coefF]
  | cons z ts ih => simp only [List.cons_append, coefF, ih]; omega
def scaleT (m : Int) (ts : Tms) : Tms := ts.map fun z => (z.1, m * z.2)
theorem coefF_zero {ts : Tms} {v : Int} (h : ¬ v ∈ ts.map (·.1)) : coefF ts v = 0 := by
  induction ts with
  | nil => rfl
  | cons z ts ih =>
    rw [List.map_cons, List.mem_cons, not_or] at h
    rw [coefF, if_neg (fun e => h.1 e.symm), ih h.2]
    rfl
def normT (n : Nat) (ts : Tms) : Tms := (upTo n).filterMap fun v => if coefF ts v = 0 then none else some (v, coefF ts v)
theorem sum_fm {l : List Int} {c g : Int → Int} : ((l.filterMap fun v => if c v = 0 then none else some (v, c v)).map fun z : Int × Int => z.2 * g z.1).sum = (l.map fun v => c v * g v).sum := by
  induction l with
  | nil => rfl
  | cons v l ih =>
    rw [List.filterMap_cons, List.map_cons, List.sum_cons]
    by_cases h : c v = 0
    · rw [if_pos h]
      simp only
      rw [ih, h, Int.zero_mul, Int.zero_add]
    · rw [if_neg h]
      simp only [List.map_cons, List.sum_cons]
      rw [ih]
theorem sum_add {l : List Int} {f g : Int → Int} : (l.map fun v => f v + g v).sum = (l.map f).sum + (l.map g).sum := by
  induction l with
  | nil => rfl
  | cons v l ih => simp only [List.map_cons, List.sum_cons, ih]; omega
theorem sum_one {l : List Int} (h : l.Nodup) {w : Int} (hw : w ∈ l) (a : Int) (g : Int → Int) : (l.map fun v => (if w = v then a else 0) * g v).sum = a * g w := by
  induction l with
  | nil => cases hw
  | cons v l ih =>
    rw [List.nodup_cons] at h
    rw [List.map_cons, List.sum_cons]
    by_cases e : w = v
    · subst e
      have z : (l.map fun v => (if w = v then a else 0) * g v).sum = 0 := by
        have : ∀ l : List Int, ¬ w ∈ l → (l.map fun v => (if w = v then a else 0) * g v).sum = 0 := by
          intro l hl
          induction l with
          | nil => rfl
          | cons u l ih =>
            rw [List.mem_cons, not_or] at hl
            rw [List.map_cons, List.sum_cons, ih hl.2, if_neg hl.1, Int.zero_mul]
            rfl
        exact this l h.1
      rw [z, if_pos rfl, Int.add_zero]
    · rw [if_neg e, Int.zero_mul, Int.zero_add]
      exact ih h.2 ((List.mem_cons.mp hw).resolve_left e)
theorem sumF_norm {n : Nat} {ts : Tms} (h : ∀ z ∈ ts, 0 ≤ z.1 ∧ z.1 < n) (g : Pt) : sumF (normT n ts) g = sumF ts g := by
  unfold sumF normT
  rw [sum_fm]
  induction ts with
  | nil =>
    simp only [coefF, Int.zero_mul, List.map_nil]
    have : ∀ l : List Int, (l.map fun _ => (0 : Int)).sum = 0 := by
      intro l
      induction l with
      | nil => rfl
      | cons _ l ih => simp only [List.map_cons, List.sum_cons, ih]; rfl
    exact this _
  | cons z ts ih =>
    simp only [coefF, Int.add_mul, List.map_cons, List.sum_cons]
    rw [sum_add, ih fun y hy => h y (List.mem_cons_of_mem _ hy), sum_one ((upTo_asc n).imp fun h => by omega) (mem_upTo.mpr (h z List.mem_cons_self))]
theorem sumF_scale (m : Int) (ts : Tms) (g : Pt) : sumF (scaleT m ts) g = m * sumF ts g := by
  unfold sumF scaleT
  induction ts with
  | nil => simp
  | cons z ts ih =>
    simp only [List.map_cons, List.sum_cons]
    rw [ih, Int.mul_add, Int.mul_assoc]
theorem sumF_app (ts us : Tms) (g : Pt) : sumF (ts ++ us) g = sumF ts g + sumF us g := by simp [sumF]
theorem r_dgC {H : Hp} {Q : VK} {a : Addr} {ks : List Int} {c : Int → Int} {v : Int} (h : H a = some (.dK (ents ks fun v => .int (c v)))) (hz : ¬ v ∈ ks → c v = 0) (q : Q (.int (c v)) H) : dgD a (.int v) (.int 0) H Q := by
  refine r_dgD h ?_
  by_cases e : v ∈ ks
  · rw [if_pos e]
    exact q
  · rw [if_neg e, ← hz e]
    exact q
theorem coefF_snoc (ts : Tms) (v c u : Int) : coefF (ts ++ [(v, c)]) u = if u = v then coefF ts v + c else coefF ts u := by
  rw [coefF_app]
  simp only [coefF]
  by_cases e : u = v
  · subst e
    rw [if_pos rfl, if_pos rfl]
    omega
  · rw [if_neg e, if_neg (fun z => e z.symm)]
    omega
theorem scale_take {us : Tms} {i : Nat} {z : Int × Int} {m : Int} (h : us[i]? = some z) : scaleT m (us.take (i + 1)) = scaleT m (us.take i) ++ [(z.1, m * z.2)] := by
  unfold scaleT
  rw [List.take_add_one, h, List.map_append]
  rfl
theorem atI_upTo {n : Nat} {g : Int → V} {v : Int} (h0 : 0 ≤ v) (h1 : v < n) : atI ((upTo n).map g) v = some (g v) := by
  have hl : ((upTo n).map g).length = n := by simp [upTo]
  rw [atI_nat h0 (by rw [hl]; exact h1), List.getElem?_map]
  unfold upTo
  rw [List.getElem?_map, List.getElem?_range (by omega)]
  show some (g ((v.toNat : Nat) : Int)) = _
  rw [Int.toNat_of_nonneg h0]
theorem set_upTo {n : Nat} {g : Int → V} {v : Int} {x : V} (h0 : 0 ≤ v) (h1 : v < n) : ((upTo n).map g).set v.toNat x = (upTo n).map fun u => if u = v then x else g u := by
  refine List.ext_getElem (by simp) fun i hi hi2 => ?_
  have hl : i < n := by simpa [upTo] using hi2
  rw [List.getElem_set]
  simp only [List.getElem_map, upTo, List.getElem_range]
  by_cases e : v.toNat = i
  · rw [if_pos e, if_pos (by omega)]
  · rw [if_neg e, if_neg (by omega)]
theorem upTo_len {g : Int → V} (n : Nat) : ((upTo n).map g).length = n := by simp [upTo]

/-! ### comprehensions of dicts; more on blocks within blocks -/
def AllP (sc : Scope) : List (Str × NameKind) → Prop
  | [] => True
  | p :: ps => sc.names.lookup p.1 = some p.2 ∧ AllP sc ps
theorem AllP.get {sc : Scope} : ∀ {L : List (Str × NameKind)} {x : Str} {k : NameKind}, AllP sc L → L.lookup x = some k → sc.names.lookup x = some k
  | [], _, _, _, h => by cases h
  | (y, j) :: ps, x, k, a, h => by
    rw [List.lookup_cons] at h
    by_cases e : x = y
    · subst e
      simp at h
      subst h
      exact a.1
    · have e2 : (x == y) = false := by simpa using e
      rw [e2] at h
      exact AllP.get a.2 h
theorem blkOk_cap {N : List Str} {sc scope : Scope} {own : List (Str × Nat)} (L : List (Str × NameKind)) (h : blkC N { kind := .function, names := L, isGenerator := false, isCoroutine := false } scope own = true) (hL : AllP sc L) : BlkOk N sc scope own := by
  have q := blkOk_by h
  exact ⟨q.1, q.2, q.3, fun y hy e => (q.4 y hy e).imp hL.get hL.get, q.5⟩
theorem cgAny {X : Cx} (K : PySem.W.Frag) (hc : X.calm = true) (h : X.K = K := by rfl) : CallR X (.builtin "any") (rAny K) := h ▸ cr_any hc
theorem cgAll {X : Cx} (K : PySem.W.Frag) (hc : X.calm = true) (h : X.K = K := by rfl) : CallR X (.builtin "all") (rAll K) := h ▸ cr_all hc
def pkS (D : Addr) (y z : V) (H : Hp) (R : Hp → Prop) : Prop := ∃ kvs k, y = kV k ∧ H D = some (.dK kvs) ∧ kvs.length < sizeLine ∧ R (upd H D (.dK (putK kvs k z)))
def dcS (J : It) (g : TG) (tt : TT) (tk tv : TE) (vs : List Nat) (σ : St) (H1 : Hp) (Q : VK) : Prop := ∀ D, H1 D = none → ∃ W : Nat → Nat → Hp → Prop, (∃ m, W 0 m (upd H1 D (.dK []))) ∧ ∀ i m H, W i m H →
  (J.stop i H ∧ Q (.ref D) H) ∨ (J.go i H ∧ ∃ Nx : Hp → Prop, (∀ H', Nx H' → ∃ m', m' < m ∧ W (i + 1) m' H') ∧ ∀ x H', J.yld i H x H' → g x (wipe σ vs) H' fun σ2 H2 => wpS σ2 σ vs (tt σ2 H2 fun b H3 =>
    iteP b (tk σ2 H3 fun y H4 => tv σ2 H4 fun z H5 => pkS D y z H5 Nx) (Nx H3)))
section
variable {σ σ0 : St} {H : Hp} {K : PySem.W.Frag} {p : Addr} {xs : List V} {g : TG} {wi : TI} {tt : TT} {te tk tv : TE} {vs : List Nat} {Q : VK} {J : It} {n : Nat} {lo : Int}
instance s_dc : Stp (tDc wi g tt tk tv vs σ H Q) (wi σ H fun J H1 => dcS J g tt tk tv vs σ H1 Q) := ⟨id⟩
theorem dc_by {G : Hp → Prop} {Y : Nat → Hp → V → Hp → Prop} (w : Walk J n G Y) [hw : Wip σ vs σ0] (Pv : Addr → Nat → Hp → Prop) (h0 : ∀ D H2, H D = none → H2 D = some (.dK []) → Kp [] H H2 → Pv D 0 H2) (hG : ∀ D i H', Pv D i H' → G H')
    (hs : ∀ D i x H' H'', i < n → Pv D i H' → Y i H' x H'' → g x σ0 H'' fun σ2 H2 => wpS σ2 σ vs (tt σ2 H2 fun b H3 => iteP b (tk σ2 H3 fun y H4 => tv σ2 H4 fun z H5 => pkS D y z H5 (Pv D (i + 1))) (Pv D (i + 1) H3)))
    (hd : ∀ D H', Pv D n H' → Q (.ref D) H') : dcS J g tt tk tv vs σ H Q := by
  intro D hD
  refine ⟨fun i m H => m = n - i ∧ i ≤ n ∧ Pv D i H, ⟨n, by simp, Nat.zero_le _, h0 D _ hD upd_same (Kp.new hD)⟩, ?_⟩
  rintro i m H ⟨rfl, hi, p⟩
  have q := hG D i H p
  by_cases hlt : i < n
  · refine .inr ⟨w.goes i H hlt q, Pv D (i + 1), fun H' p' => ⟨n - (i + 1), by omega, rfl, hlt, p'⟩, fun x H' y => ?_⟩
    rw [hw.e]
    exact hs D i x H H' hlt p (w.yields i H x H' hlt q y)
  · have e : i = n := by omega
    subst e
    exact .inl ⟨w.stops H q, hd D H p⟩
theorem r_pkE {D : Addr} {ks : List Int} {f : Int → V} {v : Int} {z : V} {R : Hp → Prop} (h : H D = some (.dK (ents ks f))) (few : ks.length ≤ 10000) (q : ∀ H2, H2 D = some (.dK (ents (if v ∈ ks then ks else ks ++ [v]) fun u => if u = v then z else f u)) → Kp [D] H H2 → R H2) : pkS D (.int v) z H R :=
  ⟨_, Sum.inl v, rfl, h, small1e4 (by unfold ents; rw [List.length_map]; exact few), q _ (by rw [← putK_ents]; exact upd_same) (Kp.put h trivial)⟩
theorem fm_filter (f : Int → Bool) (as : List Int) : as.filterMap (fun a => if f a = true then some (PyData.int a) else none) = (as.filter f).map PyData.int := by
  induction as with
  | nil => rfl
  | cons a as ih =>
    rw [List.filterMap_cons, List.filter_cons]
    cases h : f a
    · simp [ih]
    · simp [ih]
/-- ints, those that pass -/
theorem lcL_fi {as : List Int} [hw : Wip σ vs σ0] (s : H p = some (.lst (as.map V.int))) (f : Int → Bool) (small : as.length ≤ 10000)
    (hs : ∀ (i : Nat) (a : Int) (H' : Hp) (R : V → Hp → Prop) (R' : Hp → Prop), as[i]? = some a → Kp [] H H' → (∀ H4, f a = true → Kp [] H' H4 → R (.int a) H4) → (∀ H4, f a = false → Kp [] H' H4 → R' H4) →
      lcTurn g tt te vs σ σ0 (.int a) H' R R')
    (hd : ∀ D H', H D = none → H' D = some (.lst ((as.filter f).map V.int)) → Kp [] H H' → Q (.ref D) H') : lcS (Itl K p) g tt te vs σ H Q :=
  lcL_f (as := as) (d := PyData.int) s (imInts as) (fun a => if f a = true then some (.int a) else none) small (fun i a x H' R R' ha k hx q1 q2 => by
    cases hx
    refine hs i a H' R R' ha k (fun H4 e k4 => q1 _ _ (.int a) (by rw [if_pos e]) (.int a) k4) fun H4 e k4 => q2 _ (by rw [e]; rfl) k4) fun D H' acc hD eD hA k => hd D H' hD (by
    rw [fm_filter] at hA
    rw [eD, hA.ints]) k
end
/-! ### remaining values -/
abbrev Dm := Int → List Int
def updD (D : Dm) (v : Int) (xs : List Int) : Dm := fun u => if u = v then xs else D u
/-- ascending, not empty, small -/
structure Dom1 (xs : List Int) : Prop where
  ne : xs ≠ []
  asc : xs.Pairwise (· < ·)
  len : xs.length ≤ 2001
  bd : ∀ a ∈ xs, -1000 ≤ a ∧ a ≤ 1000
def DomOk (ks : List Int) (D : Dm) : Prop := ∀ v ∈ ks, Dom1 (D v)
theorem Dom1.filter {xs : List Int} {p : Int → Bool} (h : Dom1 xs) (ne : xs.filter p ≠ []) : Dom1 (xs.filter p) :=
  ⟨ne, h.asc.filter _, Nat.le_trans (List.length_filter_le _ _) h.len, fun a ha => h.bd a (List.mem_filter.mp ha).1⟩
theorem DomOk.upd {ks : List Int} {D : Dm} {v : Int} {xs : List Int} (h : DomOk ks D) (hx : Dom1 xs) : DomOk ks (updD D v xs) := fun u hu => by
  unfold updD
  split
  · exact hx
  · exact h u hu
def Within (ks : List Int) (D : Dm) (g : Pt) : Prop := ∀ v ∈ ks, g v ∈ D v
theorem Within.upd {ks : List Int} {D : Dm} {g : Pt} {v : Int} {xs : List Int} (h : Within ks D g) (hx : g v ∈ xs) : Within ks (updD D v xs) g := fun u hu => by
  unfold updD
  split
  · rename_i e
    rw [e]
    exact hx
  · exact h u hu
structure DomAt (H : Hp) (d : Addr) (ks : List Int) (D : Dm) : Prop where
  ex : ∃ f : Int → Addr, H d = some (.dK (ents ks fun v => .ref (f v))) ∧ ∀ v ∈ ks, H (f v) = some (.lst ((D v).map V.int))
section
variable {K : PySem.W.Frag} {H H' H2 : Hp} {d p : Addr} {ks : List Int} {D : Dm} {v : Int} {xs : List Int} {Q : VK}
theorem DomAt.kp0 (k : Kp [] H H') (h : DomAt H d ks D) : DomAt H' d ks D := by
  obtain ⟨f, e, a⟩ := h.ex
  exact ⟨f, k.get0 e, fun v hv => k.get0 (a v hv)⟩
theorem DomAt.kp {S : List Addr} (k : Kp S H H') (h : DomAt H d ks D) (n : ∀ a ∈ S, H a = none) : DomAt H' d ks D := by
  obtain ⟨f, e, a⟩ := h.ex
  exact ⟨f, k.get (fun z => by rw [n _ z] at e; cases e) e, fun v hv => k.get (fun z => by have := a v hv; rw [n _ z] at this; cases this) (a v hv)⟩
theorem DomAt.isD (h : DomAt H d ks D) : ∃ f, H d = some (.dK (ents ks f)) := by
  obtain ⟨f, e, a⟩ := h.ex
  exact ⟨_, e⟩
theorem DomAt.mut (h : DomAt H d ks D) : Kp [d] H H := Kp.base fun b hb => by
  obtain ⟨f, e⟩ := h.isD
  rw [List.mem_singleton] at hb
  rw [hb, e]
  trivial
theorem DomAt.congr {D' : Dm} (h : DomAt H d ks D) (e : ∀ v ∈ ks, D v = D' v) : DomAt H d ks D' := by
  obtain ⟨f, e1, a⟩ := h.ex
  exact ⟨f, e1, fun v hv => by rw [← e v hv]; exact a v hv⟩
theorem r_getDom (h : DomAt H d ks D) (hv : v ∈ ks) (q : ∀ p, H p = some (.lst ((D v).map V.int)) → Q (.ref p) H) : rIxDK (.ref d) (.int v) H Q := by
  obtain ⟨f, e, a⟩ := h.ex
  exact r_ixDK e hv (q _ (a v hv))
theorem r_putDom {R : Hp → Prop} (h : DomAt H d ks D) (hv : v ∈ ks) (hp : H p = some (.lst (xs.map V.int))) (few : ks.length ≤ 10000) (q : ∀ H2, DomAt H2 d ks (updD D v xs) → Kp [d] H H2 → R H2) : putD (.ref d) (.int v) (.ref p) H R := by
  obtain ⟨f, e, a⟩ := h.ex
  refine r_putE e few fun H2 e2 k2 => q H2 ⟨fun u => if u = v then p else f u, ?_, fun u hu => ?_⟩ k2
  · rw [e2, if_pos hv]
    congr 2
    congr 1
    funext u
    show (if u = v then V.ref p else V.ref (f u)) = V.ref (if u = v then p else f u)
    split <;> rfl
  · have nl : ∀ {b : Addr} {ys : List V}, H b = some (.lst ys) → b ≠ d := fun hb z => by rw [z, e] at hb; cases hb
    unfold updD
    simp only
    split
    · exact k2.get1 (nl hp) hp
    · exact k2.get1 (nl (a u hu)) (a u hu)
end
/-- literals taken out -/
def dropL : Dm → List Lit → Option Dm
  | D, [] => some D
  | D, l :: ls => let xs := (D l.v).filter fun a => !l.r.h a l.a
    if xs = [] then none else dropL (updD D l.v xs) ls
def keepL (D : Dm) (l : Lit) : Dm := updD D l.v ((D l.v).filter fun a => l.r.h a l.a)
def leastOf (c : Int) (xs : List Int) : Int := if 0 < c then c * xs.headD 0 else c * xs.getLastD 0
def leastR (D : Dm) (ts : Tms) : Int := (ts.map fun z => leastOf z.2 (D z.1)).sum
def cutR (D : Dm) (m n : Int) (z : Int × Int) : List Int := (D z.1).filter fun a => decide (z.2 * a + (m - leastOf z.2 (D z.1)) ≤ n)
def putAll (D : Dm) : List (Int × List Int) → Dm
  | [] => D
  | z :: zs => putAll (updD D z.1 z.2) zs
def applyR (D : Dm) (ts : Tms) (n : Int) : Option Dm := if n < leastR D ts then none else some (putAll D (ts.map fun z => (z.1, cutR D (leastR D ts) n z)))
def liveL (D : Dm) (ls : List Lit) : List Lit := ls.filter fun l => (D l.v).any fun a => l.r.h a l.a
def supposeF (D : Dm) : Fact → Option Dm
  | .any ls => dropL D ls
  | .row ts n => applyR D (negT ts) (-n - 1)
def endsB : Dm → List Fact → Bool
  | _, [] => false
  | D, .row ts n :: fs => match applyR D ts n with
    | none => true
    | some D' => endsB D' fs
  | D, .any ls :: fs => match liveL D ls with
    | [] => true
    | [l] => endsB (keepL D l) fs
    | _ :: _ :: _ => false
theorem endsB_row (D : Dm) (ts : Tms) (n : Int) (fs : List Fact) : endsB D (.row ts n :: fs) = (applyR D ts n).elim true fun D' => endsB D' fs := by
  rw [endsB]
  cases applyR D ts n <;> rfl
theorem endsB_any0 {D : Dm} {ls : List Lit} {fs : List Fact} (h : liveL D ls = []) : endsB D (.any ls :: fs) = true := by rw [endsB, h]
theorem endsB_any1 {D : Dm} {ls : List Lit} {l : Lit} {fs : List Fact} (h : liveL D ls = [l]) : endsB D (.any ls :: fs) = endsB (keepL D l) fs := by rw [endsB, h]
theorem endsB_any2 {D : Dm} {ls : List Lit} {l m : Lit} {lr : List Lit} {fs : List Fact} (h : liveL D ls = l :: m :: lr) : endsB D (.any ls :: fs) = false := by rw [endsB, h]
def fullD (us : List Un) : Dm := fun v => match us[v.toNat]? with
  | some u => rgI u.2.1 (u.2.2 + 1)
  | none => []
def unitB (us : List Un) (f : Fact) (fs : List Fact) : Bool := match supposeF (fullD us) f with
  | none => true
  | some D => endsB D fs
theorem least_le {c : Int} {xs : List Int} (h : xs.Pairwise (· < ·)) {a : Int} (ha : a ∈ xs) : leastOf c xs ≤ c * a := by
  unfold leastOf
  split
  · rename_i hc
    cases xs with
    | nil => cases ha
    | cons x xs =>
      rw [List.headD_cons]
      rw [List.pairwise_cons] at h
      refine Int.mul_le_mul_of_nonneg_left ?_ (by omega)
      rcases List.mem_cons.mp ha with rfl | ha
      · exact Int.le_refl _
      · have := h.1 a ha
        omega
  · rename_i hc
    have hl : a ≤ xs.getLastD 0 := by
      induction xs generalizing a with
      | nil => cases ha
      | cons x xs ih =>
        rw [List.pairwise_cons] at h
        cases xs with
        | nil =>
          rw [List.mem_singleton] at ha
          subst ha
          exact Int.le_refl _
        | cons y ys =>
          have e : (x :: y :: ys).getLastD 0 = (y :: ys).getLastD 0 := rfl
          rw [e]
          rcases List.mem_cons.mp ha with rfl | ha
          · have h1 := h.1 y List.mem_cons_self
            have h2 := ih h.2 List.mem_cons_self
            omega
          · exact ih h.2 ha
    exact Int.mul_le_mul_of_nonpos_left (by omega) hl
theorem least_mem {c : Int} {xs : List Int} (h : xs ≠ []) : ∃ a ∈ xs, leastOf c xs = c * a := by
  unfold leastOf
  cases xs with
  | nil => exact absurd rfl h
  | cons x xs =>
    split
    · exact ⟨x, List.mem_cons_self, rfl⟩
    · refine ⟨(x :: xs).getLastD 0, ?_, rfl⟩
      rw [List.getLastD_cons]
      cases xs with
      | nil => simp
      | cons y ys =>
        rw [List.getLastD_cons]
        have : ∀ (ys : List Int) (y : Int), ys.getLastD y ∈ y :: ys := by
          intro ys
          induction ys with
          | nil => intro y; simp
          | cons z zs ih =>
            intro y
            rw [List.getLastD_cons]
            exact List.mem_cons_of_mem _ (ih z)
        exact List.mem_cons_of_mem _ (this ys y)
theorem leastR_le {ks : List Int} {D : Dm} {g : Pt} (ok : DomOk ks D) (hg : Within ks D g) : ∀ (ts : Tms), (∀ z ∈ ts, z.1 ∈ ks) → leastR D ts ≤ sumF ts g
  | [], _ => Int.le_refl _
  | z :: ts, h => by
    have h1 := leastR_le ok hg ts fun y hy => h y (List.mem_cons_of_mem _ hy)
    have hz := h z List.mem_cons_self
    have h2 := least_le (c := z.2) (ok z.1 hz).asc (hg z.1 hz)
    have e1 : leastR D (z :: ts) = leastOf z.2 (D z.1) + leastR D ts := by simp [leastR]
    have e2 : sumF (z :: ts) g = z.2 * g z.1 + sumF ts g := by simp [sumF]
    omega
/-- the others of a sum are not below their least -/
theorem least_one {ks : List Int} {D : Dm} {g : Pt} (ok : DomOk ks D) (hg : Within ks D g) : ∀ (ts : Tms), (∀ z ∈ ts, z.1 ∈ ks) → ∀ z ∈ ts, z.2 * g z.1 + (leastR D ts - leastOf z.2 (D z.1)) ≤ sumF ts g
  | [], _, _, hz => by cases hz
  | y :: ts, h, z, hz => by
    have ht : ∀ z ∈ ts, z.1 ∈ ks := fun y hy => h y (List.mem_cons_of_mem _ hy)
    have e1 : leastR D (y :: ts) = leastOf y.2 (D y.1) + leastR D ts := by simp [leastR]
    have e2 : sumF (y :: ts) g = y.2 * g y.1 + sumF ts g := by simp [sumF]
    rcases List.mem_cons.mp hz with rfl | hz
    · have := leastR_le ok hg ts ht
      omega
    · have h1 := least_one ok hg ts ht z hz
      have hy := h y List.mem_cons_self
      have h2 := least_le (c := y.2) (ok y.1 hy).asc (hg y.1 hy)
      omega
theorem putAll_within {ks : List Int} {g : Pt} : ∀ (zs : List (Int × List Int)) {D : Dm}, Within ks D g → (∀ z ∈ zs, g z.1 ∈ z.2) → Within ks (putAll D zs) g
  | [], _, h, _ => h
  | z :: zs, _, h, hz => putAll_within zs (h.upd (hz z List.mem_cons_self)) fun y hy => hz y (List.mem_cons_of_mem _ hy)
theorem putAll_ok {ks : List Int} : ∀ (zs : List (Int × List Int)) {D : Dm}, DomOk ks D → (∀ z ∈ zs, Dom1 z.2) → DomOk ks (putAll D zs)
  | [], _, h, _ => h
  | z :: zs, _, h, hz => putAll_ok zs (h.upd (hz z List.mem_cons_self)) fun y hy => hz y (List.mem_cons_of_mem _ hy)
theorem cutR_ok {ks : List Int} {D : Dm} {ts : Tms} {n : Int} (ok : DomOk ks D) (hk : ∀ z ∈ ts, z.1 ∈ ks) (hn : leastR D ts ≤ n) {z : Int × Int} (hz : z ∈ ts) : Dom1 (cutR D (leastR D ts) n z) := by
  have d := ok z.1 (hk z hz)
  refine d.filter fun e => ?_
  obtain ⟨a, ha, el⟩ := least_mem (c := z.2) d.ne
  have : a ∈ cutR D (leastR D ts) n z := List.mem_filter.mpr ⟨ha, by rw [decide_eq_true_eq]; omega⟩
  unfold cutR at this
  rw [e] at this
  cases this
theorem applyR_ok {ks : List Int} {D D' : Dm} {ts : Tms} {n : Int} (ok : DomOk ks D) (hk : ∀ z ∈ ts, z.1 ∈ ks) (h : applyR D ts n = some D') : DomOk ks D' := by
  unfold applyR at h
  split at h
  · cases h
  · cases h
    refine putAll_ok _ ok fun y hy => ?_
    obtain ⟨z, hz, rfl⟩ := List.mem_map.mp hy
    exact cutR_ok ok hk (by omega) hz
theorem applyR_within {ks : List Int} {D : Dm} {ts : Tms} {n : Int} {g : Pt} (ok : DomOk ks D) (hk : ∀ z ∈ ts, z.1 ∈ ks) (hg : Within ks D g) (hs : sumF ts g ≤ n) : ∃ D', applyR D ts n = some D' ∧ Within ks D' g := by
  have h1 := leastR_le ok hg ts hk
  refine ⟨_, by unfold applyR; rw [if_neg (by omega)], putAll_within _ hg fun y hy => ?_⟩
  obtain ⟨z, hz, rfl⟩ := List.mem_map.mp hy
  have := least_one ok hg ts hk z hz
  exact List.mem_filter.mpr ⟨hg z.1 (hk z hz), by rw [decide_eq_true_eq]; show z.2 * g z.1 + _ ≤ _; omega⟩
theorem dropL_ok {ks : List Int} : ∀ (ls : List Lit) {D D' : Dm}, DomOk ks D → (∀ l ∈ ls, l.v ∈ ks) → dropL D ls = some D' → DomOk ks D'
  | [], _, _, ok, _, h => by cases h; exact ok
  | l :: ls, D, D', ok, hk, h => by
    unfold dropL at h
    simp only at h
    split at h
    · cases h
    · rename_i ne
      exact dropL_ok ls (ok.upd ((ok l.v (hk l List.mem_cons_self)).filter ne)) (fun y hy => hk y (List.mem_cons_of_mem _ hy)) h
theorem dropL_within {ks : List Int} {g : Pt} : ∀ (ls : List Lit) {D : Dm}, Within ks D g → (∀ l ∈ ls, l.v ∈ ks) → (∀ l ∈ ls, l.h g = false) → ∃ D', dropL D ls = some D' ∧ Within ks D' g
  | [], D, h, _, _ => ⟨D, rfl, h⟩
  | l :: ls, D, h, hk, hf => by
    have m : g l.v ∈ (D l.v).filter fun a => !l.r.h a l.a := List.mem_filter.mpr ⟨h l.v (hk l List.mem_cons_self), by
      have := hf l List.mem_cons_self
      unfold Lit.h at this
      rw [this]
      rfl⟩
    unfold dropL
    simp only
    rw [if_neg (fun e => by rw [e] at m; cases m)]
    exact dropL_within ls (h.upd m) (fun y hy => hk y (List.mem_cons_of_mem _ hy)) fun y hy => hf y (List.mem_cons_of_mem _ hy)
theorem keepL_ok {ks : List Int} {D : Dm} {l : Lit} (ok : DomOk ks D) (hk : l.v ∈ ks) (h : (D l.v).any (fun a => l.r.h a l.a) = true) : DomOk ks (keepL D l) := by
  refine ok.upd ((ok l.v hk).filter fun e => ?_)
  obtain ⟨a, ha, hl⟩ := List.any_eq_true.mp h
  have : a ∈ (D l.v).filter fun a => l.r.h a l.a := List.mem_filter.mpr ⟨ha, hl⟩
  rw [e] at this
  cases this
theorem keepL_within {ks : List Int} {D : Dm} {l : Lit} {g : Pt} (hg : Within ks D g) (hk : l.v ∈ ks) (h : l.h g = true) : Within ks (keepL D l) g := hg.upd (List.mem_filter.mpr ⟨hg l.v hk, h⟩)
theorem live_any {D : Dm} {ls : List Lit} {l : Lit} (h : l ∈ liveL D ls) : l ∈ ls ∧ (D l.v).any (fun a => l.r.h a l.a) = true := List.mem_filter.mp h
theorem endsB_sound {ks : List Int} {g : Pt} : ∀ (fs : List Fact) {D : Dm}, DomOk ks D → Within ks D g → (∀ f ∈ fs, (∀ v ∈ f.vars, v ∈ ks) ∧ f.h g = true) → endsB D fs = false
  | [], _, _, _, _ => rfl
  | .row ts n :: fs, D, ok, hg, h => by
    have h1 := h _ List.mem_cons_self
    have hk : ∀ z ∈ ts, z.1 ∈ ks := fun z hz => h1.1 z.1 (List.mem_map.mpr ⟨z, hz, rfl⟩)
    obtain ⟨D', e, hg'⟩ := applyR_within ok hk hg (of_decide_eq_true h1.2)
    unfold endsB
    rw [e]
    exact endsB_sound fs (applyR_ok ok hk e) hg' fun f hf => h f (List.mem_cons_of_mem _ hf)
  | .any ls :: fs, D, ok, hg, h => by
    have h1 := h _ List.mem_cons_self
    obtain ⟨l, hl, hh⟩ := List.any_eq_true.mp h1.2
    have hlk : l.v ∈ ks := h1.1 l.v (List.mem_map.mpr ⟨l, hl, rfl⟩)
    have m : l ∈ liveL D ls := List.mem_filter.mpr ⟨hl, List.any_eq_true.mpr ⟨g l.v, hg l.v hlk, hh⟩⟩
    unfold endsB
    match e : liveL D ls with
    | [] => rw [e] at m; cases m
    | [l2] =>
      rw [e, List.mem_singleton] at m
      subst m
      have lv := live_any (D := D) (ls := ls) (l := l) (by rw [e]; exact List.mem_cons_self)
      exact endsB_sound fs (keepL_ok ok hlk lv.2) (keepL_within hg hlk hh) fun f hf => h f (List.mem_cons_of_mem _ hf)
    | _ :: _ :: _ => rfl
theorem supposeF_sound {ks : List Int} {D : Dm} {f : Fact} {g : Pt} (ok : DomOk ks D) (hg : Within ks D g) (hk : ∀ v ∈ f.vars, v ∈ ks) (hf : f.h g = false) : ∃ D', supposeF D f = some D' ∧ DomOk ks D' ∧ Within ks D' g := by
  cases f with
  | any ls =>
    have hl : ∀ l ∈ ls, l.v ∈ ks := fun l h => hk l.v (List.mem_map.mpr ⟨l, h, rfl⟩)
    obtain ⟨D', e, h⟩ := dropL_within ls hg hl fun l h => Bool.eq_false_iff.mpr fun e => by
      have : (ls.any fun l => l.h g) = true := List.any_eq_true.mpr ⟨l, h, e⟩
      rw [show (Fact.any ls).h g = ls.any fun l => l.h g from rfl, this] at hf
      cases hf
    exact ⟨D', e, dropL_ok ls ok hl e, h⟩
  | row ts n =>
    have hl : ∀ z ∈ negT ts, z.1 ∈ ks := fun z h => by
      obtain ⟨y, hy, rfl⟩ := List.mem_map.mp h
      exact hk y.1 (List.mem_map.mpr ⟨y, hy, rfl⟩)
    have hn : sumF (negT ts) g ≤ -n - 1 := by
      rw [sumF_neg]
      have : ¬ sumF ts g ≤ n := of_decide_eq_false hf
      omega
    obtain ⟨D', e, h⟩ := applyR_within ok hl hg hn
    exact ⟨D', e, applyR_ok ok hl e, h⟩
def usOk (us : List Un) : Prop := ∀ u ∈ us, -1000 ≤ u.2.1 ∧ u.2.1 ≤ u.2.2 ∧ u.2.2 ≤ 1000
theorem fullD_ok {us : List Un} {ks : List Int} (ok : usOk us) (hk : ∀ v ∈ ks, 0 ≤ v ∧ v < us.length) : DomOk ks (fullD us) := fun v hv => by
  have h := hk v hv
  obtain ⟨u, hu⟩ : ∃ u, us[v.toNat]? = some u := ⟨_, List.getElem?_eq_getElem (by omega)⟩
  have o := ok u (List.mem_of_getElem? hu)
  unfold fullD
  rw [hu]
  refine ⟨fun e => ?_, rgI_asc _ _, by simp [rgI]; omega, fun a ha => by have := rgI_mem.mp ha; omega⟩
  have : u.2.1 ∈ rgI u.2.1 (u.2.2 + 1) := rgI_mem.mpr (by omega)
  simp only at e
  rw [e] at this
  cases this
theorem fullD_within {us : List Un} {ks : List Int} {g : Pt} (hk : ∀ v ∈ ks, 0 ≤ v ∧ v < us.length) (hg : ∀ (i : Nat) u, us[i]? = some u → u.2.1 ≤ g i ∧ g i ≤ u.2.2) : Within ks (fullD us) g := fun v hv => by
  have h := hk v hv
  obtain ⟨u, hu⟩ : ∃ u, us[v.toNat]? = some u := ⟨_, List.getElem?_eq_getElem (by omega)⟩
  have o := hg _ u hu
  rw [Int.toNat_of_nonneg h.1] at o
  unfold fullD
  rw [hu]
  exact rgI_mem.mpr (by omega)
theorem unit_sound {us : List Un} {f : Fact} {fs : List Fact} {g : Pt} (ok : usOk us) (hf : ∀ v ∈ f.vars, 0 ≤ v ∧ v < us.length) (hfs : ∀ f ∈ fs, ∀ v ∈ f.vars, 0 ≤ v ∧ v < us.length) (hg : ∀ (i : Nat) u, us[i]? = some u → u.2.1 ≤ g i ∧ g i ≤ u.2.2) (hh : ∀ f ∈ fs, f.h g = true) (h : unitB us f fs = true) : f.h g = true := by
  cases e : f.h g with
  | true => rfl
  | false =>
    have hk : ∀ v ∈ f.vars ++ fs.flatMap Fact.vars, 0 ≤ v ∧ v < us.length := fun v hv => by
      rcases List.mem_append.mp hv with h | h
      · exact hf v h
      · obtain ⟨f', h1, h2⟩ := List.mem_flatMap.mp h
        exact hfs f' h1 v h2
    obtain ⟨D', e1, ok', hg'⟩ := supposeF_sound (fullD_ok ok hk) (fullD_within hk hg) (fun v hv => List.mem_append_left _ hv) e
    unfold unitB at h
    rw [e1] at h
    have := endsB_sound fs ok' hg' fun f' hf' => ⟨fun v hv => List.mem_append_right _ (List.mem_flatMap.mpr ⟨f', hf', hv⟩), hh f' hf'⟩
    simp only [this] at h
    cases h
def spFullD (K : PySem.W.Frag) (C : Addr) : Sp := fun vs H Q _ => ∃ (a : MA) (M : Mdl) (l : Addr) (ks : List Int), vs = [.ref a.p, .ref l] ∧ MdlAt K C H a M ∧ M.us.length ≤ 60 ∧ usOk M.us ∧ H l = some (.lst (ks.map V.int)) ∧ ks.Nodup ∧ (∀ v ∈ ks, 0 ≤ v ∧ v < M.us.length) ∧ ∀ (d : Addr) (H' : Hp), H d = none → DomAt H' d ks (fullD M.us) → Kp [] H H' → Q (.ref d) H'
def spDropL (K : PySem.W.Frag) : Sp := fun vs H Q _ => ∃ (d p : Addr) (ks : List Int) (D : Dm) (ls : List Lit), vs = [.ref d, .ref p] ∧ DomAt H d ks D ∧ DomOk ks D ∧ ks.length ≤ 60 ∧ Im K H (.ref p) (litsD ls) ∧ (∀ l ∈ ls, l.v ∈ ks) ∧ (∀ H', dropL D ls = none → Kp [d] H H' → Q (.bl false) H') ∧ ∀ D' H', dropL D ls = some D' → DomAt H' d ks D' → Kp [d] H H' → Q (.bl true) H'
def spKeepL (K : PySem.W.Frag) : Sp := fun vs H Q _ => ∃ (d p : Addr) (ks : List Int) (D : Dm) (l : Lit), vs = [.ref d, .ref p] ∧ DomAt H d ks D ∧ DomOk ks D ∧ ks.length ≤ 60 ∧ LitAt K H p l.v l.r l.a ∧ l.v ∈ ks ∧ ∀ H', DomAt H' d ks (keepL D l) → Kp [d] H H' → Q .non H'
def spLeast (K : PySem.W.Frag) : Sp := fun vs H Q _ => ∃ (c : Int) (p : Addr) (xs : List Int), vs = [.int c, .ref p] ∧ H p = some (.lst (xs.map V.int)) ∧ Dom1 xs ∧ Q (.int (leastOf c xs)) H
def spApplyR (K : PySem.W.Frag) : Sp := fun vs H Q _ => ∃ (d p : Addr) (ks : List Int) (D : Dm) (ts : Tms) (n : Int), vs = [.ref d, .ref p] ∧ DomAt H d ks D ∧ DomOk ks D ∧ ks.length ≤ 60 ∧ FactAt K H p (.row ts n) ∧ ts.length ≤ 60 ∧ (∀ z ∈ ts, z.1 ∈ ks) ∧ (∀ H', applyR D ts n = none → Kp [d] H H' → Q (.bl false) H') ∧ ∀ D' H', applyR D ts n = some D' → DomAt H' d ks D' → Kp [d] H H' → Q (.bl true) H'
def spLive (K : PySem.W.Frag) : Sp := fun vs H Q _ => ∃ (d p : Addr) (ks : List Int) (D : Dm) (ls : List Lit), vs = [.ref d, .ref p] ∧ DomAt H d ks D ∧ DomOk ks D ∧ ks.length ≤ 60 ∧ Im K H (.ref p) (litsD ls) ∧ ls.length ≤ 60 ∧ (∀ l ∈ ls, l.v ∈ ks) ∧ ∀ (l : Addr) (refs : List V) H', H l = none → H' l = some (.lst refs) → ImAll K H' refs ((liveL D ls).map Lit.d) → Kp [] H H' → Q (.ref l) H'
def spSuppose (K : PySem.W.Frag) : Sp := fun vs H Q _ => ∃ (d p : Addr) (ks : List Int) (D : Dm) (f : Fact) (m : Int), vs = [.ref d, .ref p] ∧ DomAt H d ks D ∧ DomOk ks D ∧ ks.length ≤ 60 ∧ FactAt K H p f ∧ f.ok m ∧ (∀ v ∈ f.vars, v ∈ ks) ∧ (∀ H', supposeF D f = none → Kp [d] H H' → Q (.bl false) H') ∧ ∀ D' H', supposeF D f = some D' → DomAt H' d ks D' → Kp [d] H H' → Q (.bl true) H'
def spEnds (K : PySem.W.Frag) : Sp := fun vs H Q _ => ∃ (d l : Addr) (ks : List Int) (D : Dm) (refs : List V) (fs : List Fact) (m : Int), vs = [.ref d, .ref l] ∧ DomAt H d ks D ∧ DomOk ks D ∧ ks.length ≤ 60 ∧ H l = some (.lst refs) ∧ ImAll K H refs (fs.map Fact.d) ∧ (∀ f ∈ fs, f.ok m ∧ ∀ v ∈ f.vars, v ∈ ks) ∧ ∀ H', Kp [d] H H' → Q (.bl (endsB D fs)) H'
def spUnit (K : PySem.W.Frag) (C : Addr) : Sp := fun vs H Q _ => ∃ (a : MA) (M : Mdl) (p l : Addr) (refs : List V) (f : Fact) (fs : List Fact), vs = [.ref a.p, .ref p, .ref l] ∧ MdlAt K C H a M ∧ M.us.length ≤ 60 ∧ usOk M.us ∧ FactAt K H p f ∧ f.ok M.us.length ∧ H l = some (.lst refs) ∧ ImAll K H refs (fs.map Fact.d) ∧ (∀ f ∈ fs, f.ok M.us.length) ∧ fs.length ≤ 60 ∧ ∀ H', Kp [] H H' → Q (.bl (unitB M.us f fs)) H'

/-! ### entries that are awake -/
def premOf (es : List (Option Step)) (i : Int) : Option Fact := match es[i.toNat]? with | some (some s) => some s.f | _ => none
theorem awake_some {es : List (Option Step)} {i : Int} (h : awake es i = true) : ∃ s, es[i.toNat]? = some (some s) ∧ premOf es i = some s.f ∧ some s ∈ es ∧ 0 ≤ i ∧ i < es.length := by
  unfold awake at h
  simp only [Bool.and_eq_true, decide_eq_true_eq] at h
  obtain ⟨h0, h1, h2⟩ := h
  have hl : i.toNat < es.length := by omega
  unfold premOf
  rw [List.getElem?_eq_getElem hl] at h2 ⊢
  cases e : es[i.toNat] with
  | none => rw [e] at h2; cases h2
  | some s => exact ⟨s, rfl, rfl, e ▸ List.getElem_mem hl, h0, h1⟩
/-- an awake entry, read -/
theorem ent_awake {K : PySem.W.Frag} {H : Hp} {es : List (Option Step)} {refs : List V} {i : Int} (A : ImAll K H refs (es.map entD)) (aw : awake es i = true) : ∃ (p q : Addr) (s : Step) (xs : List V), atI refs i = some (.ref p) ∧ premOf es i = some s.f ∧ some s ∈ es ∧ es[i.toNat]? = some (some s) ∧ SqT K H p (.ref q :: .str s.r.name :: xs) ∧ FactAt K H q s.f := by
  obtain ⟨s, h1, h2, h3, h0, hl⟩ := awake_some aw
  obtain ⟨x, ex, hx⟩ := mapGetJ A h1
  rw [Int.toNat_of_nonneg h0, Int.zero_add] at ex
  obtain ⟨p, rfl⟩ := Im.isRef (show Im K H x (.tuple _) from hx)
  obtain ⟨q, xs, sp, hf, _⟩ := step_open hx
  exact ⟨p, q, s, xs, ex, h2, h3, h1, sp, hf⟩

/-! ### d[k] -/
def dgetS (x y : V) (H : Hp) (Q : VK) : Prop := ∃ a v, x = .ref a ∧ DGet H a y (some v) ∧ Q v H
instance s_dGet {td ty : TE} {σ : St} {H : Hp} {Q : VK} : Stp (tDGet td ty σ H Q) (td σ H fun x H1 => ty σ H1 fun y H2 => dgetS x y H2 Q) := ⟨id⟩
theorem r_getD {H : Hp} {Q : VK} {a : Addr} {kvs : List (Key × V)} {k : Key} {v : V} (h : H a = some (.dK kvs)) (e : valV kvs k = some v) (q : Q v H) : dgetS (.ref a) (kV k) H Q := ⟨a, v, rfl, e ▸ DGet.k h, q⟩
theorem valV_at {κ : Type} [DecidableEq κ] : ∀ {kvs : List (κ × V)} {i : Nat} {k : κ} {v : V}, (kvs.map (·.1)).Nodup → kvs[i]? = some (k, v) → valV kvs k = some v
  | [], _, _, _, _, h => by simp at h
  | p :: r, 0, k, v, _, h => by
    simp at h
    subst h
    exact valV_pos rfl
  | p :: r, i + 1, k, v, nd, h => by
    rw [List.map_cons, List.nodup_cons] at nd
    have h : r[i]? = some (k, v) := by simpa using h
    rw [valV_neg fun e => nd.1 (List.mem_map.mpr ⟨_, List.mem_of_getElem? h, e.symm⟩)]
    exact valV_at nd.2 h
def notInDk (x y : V) (H : Hp) (Q : VK) : Prop := ∃ a o, x = .ref a ∧ DGet H a y o ∧ Q (.bl (!o.isSome)) H
instance s_dNotIn {td ty : TE} {σ : St} {H : Hp} {Q : VK} : Stp (tDNotIn ty td σ H Q) (ty σ H fun y H1 => td σ H1 fun x H2 => notInDk x y H2 Q) := ⟨id⟩
theorem r_notInDk1 {H : Hp} {Q : VK} {a : Addr} {kvs : List (Key × V)} {k : Key} {v : V} (h : H a = some (.dK kvs)) (e : valV kvs k = some v) (q : Q (.bl false) H) : notInDk (.ref a) (kV k) H Q := ⟨a, some v, rfl, e ▸ DGet.k h, q⟩
theorem r_notInDk0 {H : Hp} {Q : VK} {a : Addr} {kvs : List (Key × V)} {k : Key} (h : H a = some (.dK kvs)) (e : valV kvs k = none) (q : Q (.bl true) H) : notInDk (.ref a) (kV k) H Q := ⟨a, none, rfl, e ▸ DGet.k h, q⟩

section
variable {P : Program} {w : World} {K : PySem.W.Frag} {mg : Str → Option Value} {base : Heap} {C_Model C_Remaining : Addr}
theorem Dom1.small {xs : List Int} (h : Dom1 xs) : xs.length ≤ 10000 := Nat.le_trans h.len (by decide)
theorem getLast_at {xs : List Int} (h : xs ≠ []) : atI (xs.map V.int) (-1) = some (.int (xs.getLastD 0)) := by
  have hl : 0 < xs.length := List.length_pos_iff.mpr h
  have e : ixN xs.length (-1) = some (xs.length - 1) := by
    unfold ixN
    rw [if_neg (by omega)]
    simp
    omega
  unfold atI
  rw [List.length_map, e]
  show (xs.map V.int)[xs.length - 1]? = _
  rw [List.getElem?_map, List.getElem?_eq_getElem (by omega)]
  show some (V.int xs[xs.length - 1]) = _
  rw [List.getLastD_eq_getLast?, List.getLast?_eq_getElem?, List.getElem?_eq_getElem (by omega)]
  rfl
theorem head_at {xs : List Int} (h : xs ≠ []) : atI (xs.map V.int) 0 = some (.int (xs.headD 0)) := by
  cases xs with
  | nil => exact absurd rfl h
  | cons x xs =>
    show atI (V.int x :: xs.map V.int) 0 = _
    rw [atI_0]
    rfl
theorem ok_least_of {f : Addr} {fd : FuncData} (F : Fun K "least_of" "least_of" s_least_of f fd) (B : Bi K mg C_Model C_Remaining)  : FnOk P w K mg base CX0 1 f fd ["c", "values"] (spLeast K) := by
  have nd := sc_least_of.nd
  refine F.ok sc_least_of ?len (fun cdv A outer s H vs Q E hr h => ?body)
  case len =>
    rintro vs H Q E ⟨c, p, xs, rfl, _⟩
    rfl
  case body =>
    obtain ⟨c, p, xs, rfl, hp, d1, k⟩ := h
    refine ⟨_, (pss_cons (ps_if (pt_cmpR op_gt (pv 0) pe_int (nomark _))
      (pss_one (ps_ret (pe_op op_mul (pv 0) (pe_ix (ixL K) (pv 1) pe_int (fun _ _ => rfl)))))
      pss_nil)
      (pss_one (ps_ret (pe_op op_mul (pv 0) (pe_ix (ixL K) (pv 1) (pe_un un_neg pe_int) (fun _ _ => rfl)))))), ?_⟩
    try dsimp only [L2.cxOf, L2.Cx.nox, L2.Cx.wish]
    rw [st_least_of]
    have b0 : -1000 ≤ xs.headD 0 ∧ xs.headD 0 ≤ 1000 := by
      cases xs with
      | nil => exact absurd rfl d1.ne
      | cons x xs => exact d1.bd x List.mem_cons_self
    have b1 : -1000 ≤ xs.getLastD 0 ∧ xs.getLastD 0 ≤ 1000 := by
      rw [List.getLastD_eq_getLast?, List.getLast?_eq_some_getLast d1.ne]
      exact d1.bd _ (List.getLast_mem d1.ne)
    have c0 : CMul c (xs.headD 0) := .inr ⟨by omega, by omega⟩
    have c1 : CMul c (xs.getLastD 0) := .inr ⟨by omega, by omega⟩
    unfold leastOf at k
    walk_at "cg"
    refine if_S (fun g => ?_) (fun g => ?_)
    · rw [if_pos (by omega)] at k
      walk_at "cg"
      refine r_ixL hp (head_at d1.ne) ?_
      walk_at "cg"
      exact k
    · rw [if_neg (by omega)] at k
      walk_at "cg"
      refine r_ixL hp (getLast_at d1.ne) ?_
      walk_at "cg"
      exact k

end
/-! ### defs that run where no repr is under way; repr of data -/
structure FnOkG (P : Program) (w : World) (K : PySem.W.Frag) (mg : Str → Option Value) (base : Heap) (CX : CXT) (k : Nat) (f : Addr) (fd : FuncData) (ps : List Str) (sp : Sp) : Prop where
  len : ∀ vs H Q E, sp vs H Q E → vs.length = ps.length
  run : ∀ (A : Around) (outer : List Env) (s : Shared) (H : Hp) (args : Args) (us : List Value) (vs : List V) (Q : VK) (E : XK), A.guards = some [] → Room k A → Env0 P w K mg base A outer s H → BindsTo s fd args (ps.zip us) → Vals vs us → sp vs H Q E →
    codeAny (model P w) A (.call (.ref f) args) (CR CX outer P w H s Q E) s
theorem FnOk.g {P : Program} {w : World} {K : PySem.W.Frag} {mg : Str → Option Value} {base : Heap} {CX : CXT} {k : Nat} {f : Addr} {fd : FuncData} {ps : List Str} {sp : Sp} (F : FnOk P w K mg base CX k f fd ps sp) : FnOkG P w K mg base CX k f fd ps sp :=
  ⟨F.len, fun A outer s H args us vs Q E _ => F.run A outer s H args us vs Q E⟩
section
open PySem.Spec PyProof.Rows
variable {P : Program} {w : World} {K : PySem.W.Frag} {mg : Str → Option Value} {base : Heap}
theorem fnG_of {CX : CXT} {k : Nat} {f : Addr} {name qual : Str} {params : Arguments} {body : List Stmt} {scope : Scope} {dV kV doc pm cdv ct oc : Value} {an od : Option Addr} {osl : Array (Option Value)} {N ps : List Str} {sp : Sp}
    (fl : K.lookup f = some ⟨oc, od, .func (PySem.W.fnOf name qual params body scope dV kV doc pm an cdv ct), osl⟩) (fc : PySem.W.codeIn K cdv qual = true) (S : FnScope N ps scope)
    (hlen : ∀ vs H Q E, sp vs H Q E → vs.length = ps.length)
    (bd : ∀ (A : Around) (outer : List Env) (s : Shared) (H : Hp) (vs : List V) (Q : VK) (E : XK), A.guards = some [] → Room k (A.deeper (envOfC qual scope s.heap.objs.size f cdv)) → sp vs H Q E →
      ∃ t, PSs (cxOf CX P w K mg base N qual scope f cdv A outer s H E) body t ∧ t { nx := fun _ H' => Q .non H', rt := Q } (start N vs) H) :
    FnOkG P w K mg base CX (k + 1) f (PySem.W.fnOf name qual params body scope dV kV doc pm an cdv ct) ps sp := by
  refine ⟨hlen, fun A outer s H args us vs Q E gg room env0 bnd rv want => ?_⟩
  have ln := hlen _ _ _ _ want
  have inK : K.In s.heap := env0.mod.kin.keeps fun c u z => (env0.bs c u z).1
  have nolim : s.heap.NoLimit := env0.mod.nolimit.keeps fun c u z => (env0.bs c u z).1
  have kinds : ∀ y ∈ ps.zip us, scope.names.lookup y.1 = some .local ∨ (scope.names.lookup y.1 = some .cell ∧ ((cellsFrom (s.heap.objs.size + 1) scope.names []).lookup y.1).isSome = true) := fun ⟨n, v⟩ hm => by
    rcases S.par n (List.of_mem_zip hm).1 with z | z
    · exact .inl z
    · exact .inr ⟨z, PySem.W.cellsFrom_some _ _ _ (.inl z)⟩
  refine codeAny_call_function room.depth (inK _ _ fl) rfl S.co S.gen rfl (PySem.W.codeRec_of inK fc) (bnd _ _ _ _ ?_)
  refine wpAny_newFunctionEnv_cells S.kind kinds fun env en s1 nw => ?_
  subst en
  refine ⟨nolim.keeps nw.toInCall.keep, codeAny_func ?_⟩
  obtain ⟨t, pt, rd⟩ := bd A outer s H vs Q E gg (room.deeper _) want
  have I : Inv (cxOf CX P w K mg base N qual scope f cdv A outer s H E) [] (start N vs) H s1 := inv_start S room.hd env0 ln rv nw
  refine wpAny_mono (pt.run [] s1 (start N vs) H _ I rd) (fun fin s2 hs => ?_) fun e s2 hs => hs
  have out : ∀ {σ2 : L2.St} {H2 : Hp} {v : V} {u : Value}, Inv (cxOf CX P w K mg base N qual scope f cdv A outer s H E) [] σ2 H2 s2 → RelV v u → Q v H2 → CE outer P w H s Q u s2 :=
    fun {σ2 H2 v u} J r q => ⟨v, H2, J.os, J.bare, J.base, J.hok, r, q⟩
  cases fin with
  | ret u =>
    obtain ⟨v, σ2, H2, J, r, q⟩ := hs
    exact out J r q
  | next =>
    obtain ⟨σ2, H2, J, q⟩ := hs
    exact out (v := V.non) (u := Value.none) J rfl q
  | brk =>
    obtain ⟨_, _, _, q⟩ := hs
    exact q.elim
  | cont =>
    obtain ⟨_, _, _, q⟩ := hs
    exact q.elim
theorem okG {x qual : Str} {st : Stmt} {f : Addr} {fd : FuncData} {N ps : List Str} {k : Nat} {sp : Sp} (F : Fun K x qual st f fd) (S : FnScope N ps (defScope st)) (len : ∀ vs H Q E, sp vs H Q E → vs.length = ps.length)
    (bd : ∀ (cdv : Value) (A : Around) (outer : List Env) (s : Shared) (H : Hp) (vs : List V) (Q : VK) (E : XK), A.guards = some [] → Room k (A.deeper (envOfC qual (defScope st) s.heap.objs.size f cdv)) → sp vs H Q E →
      ∃ t, PSs (cxOf CX0 P w K mg base N qual (defScope st) f cdv A outer s H E).nox (defBody st) t ∧ t { nx := fun _ H' => Q .non H', rt := Q } (start N vs) H) : FnOkG P w K mg base CX0 (k + 1) f fd ps sp := by
  obtain ⟨oc, od, kV, doc, pm, an, cdv, ct, osl, rfl, fl, fc⟩ := F.ex
  refine fnG_of fl fc S len fun A outer s H vs Q E gg room want => ?_
  obtain ⟨t, h1, h2⟩ := bd cdv A outer s H vs Q E gg room want
  exact ⟨t, h1.nox, h2⟩
structure IsG (P : Program) (w : World) (K : PySem.W.Frag) (mg : Str → Option Value) (base : Heap) (CX : CXT) (k : Nat) (x : Str) (ps : List Str) (sp : Sp) : Prop where
  ex : ∃ (f : Addr) (fd : FuncData), FnOkG P w K mg base CX k f fd ps sp ∧ mg x = some (.ref f) ∧ PySem.W.keepIn K (.ref f) = true ∧ Binds K fd ps []
end
section
open PySem.Spec PyProof.Rows
variable {X : Cx} {CX : CXT} {k : Nat} {x : Str} {ps : List Str} {sp : Sp} {E : XK} {t : TA} {p pos : Pos} {e : Expr} {es : List Expr}
theorem run_fnG {f : Addr} {fd : FuncData} {pins : List (Addr × Obj)} {σ : L2.St} {H : Hp} {s : Shared} {Q : VK} {us : List Value} {vs : List V} (F : FnOkG X.prog X.w X.K X.mg X.base CX k f fd ps sp) (gg : X.A.guards = some []) (hr : Room k X.A) (hb : Binds X.K fd ps []) (hx : Passes CX X E)
    (I : Inv X pins σ H s) (r : Vals vs us) (h : sp vs H Q E) : wpAny (model X.prog X.w) X.A (call (.ref f) us) (EP X pins σ Q) X.xe s := by
  have ln : us.length = ps.length := by rw [← r.length]; exact F.len _ _ _ _ h
  have b := hb s us I.kIn (by rw [List.append_nil]; exact ln)
  rw [List.append_nil] at b
  refine wpAny_call (codeAny_mono (F.run X.A X.stack s H ⟨us, []⟩ us vs Q E gg hr I.env0 b r h) fun res s2 hq => ?_)
  cases res with
  | error e => exact hx pins σ H s e s2 I hq
  | ok fl =>
    cases fl with
    | ret u => exact I.after hq
    | next => exact hq.elim
    | brk => exact hq.elim
    | cont => exact hq.elim
theorem pe_isG (D : IsG X.prog X.w X.K X.mg X.base CX k x ps sp) (gg : X.A.guards = some []) (hr : Room k X.A) (hg : Gl X x) (hx : Passes CX X E) (ha : PA X (e :: es) t) (hdb : (x == ("__debug__" : Str)) = false := by decide)
    (he : starEach (e :: es) X.env = (false, eval e X.env) :: starEach es X.env := by rfl) (hpl : (backTo pos (starEach es X.env)).any (·.1) = false := by rfl) : PE X (.Call (.Name x p) (e :: es) [] pos) (tCl sp E t) := by
  obtain ⟨f, fd, F, hm, hk, hb⟩ := D.ex
  refine ⟨fun pins s σ H Q I h => ?_⟩
  refine wpAny_Call_Name_kw (ld_glob I hg hm ?_ hdb)
  refine PySem.W.callWith_K (h₀ := X.base) I.ok.mod.kin hk (thn (ha.run pos pins s σ H _ I h) fun us s1 ⟨vs, H1, I1, r, q⟩ => ⟨I1.kIn, ?_⟩) he hpl
  exact run_fnG F gg hr hb hx I1 r q
def rRepr (K : PySem.W.Frag) : List V → Hp → VK → Prop := fun xs H Q => ∃ (a : Addr) (d : PyData), xs = [.ref a] ∧ Dp K H (.ref a) d ∧ d.showable = true ∧ d.hasDict = false ∧ d.shown.length ≤ sizeLine ∧ d.depth ≤ 60 ∧ Q (.str d.shown) H
theorem cg_repr (gg : X.A.guards = some []) (hr : Room k X.A) : CallR X (.builtin "repr") (rRepr X.K) := by
  intro pins s σ H xs us Q I r h
  obtain ⟨a, d, rfl, hd, hs, hn, hz, hk, q⟩ := h
  obtain ⟨u, rfl, ru⟩ := vals1 r
  cases ru
  obtain ⟨as, R⟩ := Dp.reads I d (.ref a) (.ref a) hd rfl
  have un := hr.units
  refine repr_of_reads' R hs (fun e => by rw [hn] at e; cases e) gg (by omega) (fun _ _ z => z) (fun h' u tk hk' => ?_) hz
  exact ⟨.str d.shown, H, I.kept hk', ⟨u, rfl⟩, q⟩
end
/-- how long a text shows data, at most -/
def intsLen (B : Nat) (d : PyData) : Prop := d.showable = true ∧ d.hasDict = false ∧ d.shown.length ≤ B
theorem strLen_app (a b : Str) : (a ++ b).length = a.length + b.length := strLen_append a b
theorem ofS_len (s : String) : (Str.ofString s).length = s.toList.length := by
  rw [Str.ofString_eq_byList]
  simp [Str.ofStringByList, Str.length]
theorem shown_int {i : Int} (h : i.natAbs < 10 ^ 18) : (PyData.int i).showable = true ∧ (PyData.int i).hasDict = false ∧ (PyData.int i).shown.length ≤ 19 := by
  refine ⟨?_, rfl, ?_⟩
  · show decide (i.natAbs.log2 < 1920) = true
    have := Nat.log2_lt (n := i.natAbs) (k := 64)
    rw [decide_eq_true_eq]
    by_cases z : i.natAbs = 0
    · rw [z]; decide
    · have := (Nat.log2_lt z (k := 64)).mpr (by omega)
      omega
  · show (Str.ofString (toString i)).length ≤ 19
    cases i with
    | ofNat n =>
      exact Nat.le_trans (PyProof.Rows.toString_length_le (v := (n : Int)) (by omega) (k := 18) (by decide) (by have : (Int.ofNat n).natAbs = n := rfl; omega)) (by decide)
    | negSucc n =>
      have e : (toString (Int.negSucc n)) = "-" ++ toString ((n + 1 : Nat) : Int) := rfl
      have : (Int.negSucc n).natAbs = n + 1 := rfl
      have l := PyProof.Rows.toString_length_le (v := ((n + 1 : Nat) : Int)) (by omega) (k := 18) (by decide) (by omega)
      rw [e, ofS_len, String.toList_append, List.length_append, ← ofS_len, ← ofS_len]
      have : (Str.ofString "-").length = 1 := by decide +kernel
      omega
theorem list_len (ts : List Str) : (listText ts).length ≤ 2 + piled ts := by
  cases ts with
  | nil => decide +kernel
  | cons t r =>
    have h := textFrom_length_pos r 1 (("[" : Str) ++ (if (0 : Nat) > 0 then ", " else "" : String) ++ t) (Nat.succ_pos 0)
    have e : ((("[" : Str) ++ (if (0 : Nat) > 0 then ", " else "" : String) ++ t)).length = 1 + t.length := by
      rw [strLen_append, strLen_append]
      rfl
    have hX : (listText (t :: r)).length = (textFrom 0 "[" (t :: r)).length + 1 := by
      show (textFrom 0 "[" (t :: r) ++ "]").length = _
      rw [strLen_append]
      rfl
    have hY : (textFrom 0 "[" (t :: r)).length = (textFrom 1 (("[" : Str) ++ (if (0 : Nat) > 0 then ", " else "" : String) ++ t) r).length := rfl
    rw [hX, hY, h, e, piled_cons]
    omega
theorem tup_len (ts : List Str) : (tupleText ts).length ≤ 3 + piled ts := by
  have a : (Str.join ", " ts).length ≤ piled ts := by
    by_cases h : ts = []
    · subst h
      exact Nat.zero_le _
    · have := join_length_add ts h
      omega
  unfold tupleText
  rw [strLen_append, strLen_append]
  have e1 : ((("(" : String) : Str)).length = 1 := rfl
  have e3 : (((if ts.length == 1 then ",)" else ")" : String) : Str)).length ≤ 2 := by split <;> decide
  omega
/-- every one of them shows in at most B signs -/
structure Shw (B : Nat) (d : PyData) : Prop where
  s : d.showable = true
  n : d.hasDict = false
  l : d.shown.length ≤ B
theorem Shw.mono {B C : Nat} {d : PyData} (h : Shw B d) (b : B ≤ C) : Shw C d := ⟨h.s, h.n, Nat.le_trans h.l b⟩
theorem shw_int {i : Int} (h : i.natAbs < 10 ^ 18) : Shw 19 (.int i) := by
  obtain ⟨a, b, c⟩ := shown_int h
  exact ⟨a, b, c⟩
theorem shw_all {B : Nat} : ∀ (ds : List PyData), (∀ d ∈ ds, Shw B d) → PyData.showableAll ds = true ∧ PyData.hasDictAll ds = false ∧ piled (PyData.shownAll ds) ≤ ds.length * (B + 2)
  | [], _ => ⟨rfl, rfl, Nat.zero_le _⟩
  | d :: ds, h => by
    have a := h d List.mem_cons_self
    obtain ⟨h1, h2, h3⟩ := shw_all ds fun d hd => h d (List.mem_cons_of_mem _ hd)
    refine ⟨?_, ?_, ?_⟩
    · show (d.showable && PyData.showableAll ds) = true
      rw [a.s, h1]
      rfl
    · show (d.hasDict || PyData.hasDictAll ds) = false
      rw [a.n, h2]
      rfl
    · show piled (d.shown :: PyData.shownAll ds) ≤ _
      rw [piled_cons, List.length_cons, Nat.succ_mul]
      have := a.l
      omega
theorem shw_list {B n : Nat} {ds : List PyData} (h : ∀ d ∈ ds, Shw B d) (l : ds.length ≤ n) : Shw (2 + n * (B + 2)) (.list ds) := by
  obtain ⟨h1, h2, h3⟩ := shw_all ds h
  have m := Nat.mul_le_mul_right (B + 2) l
  exact ⟨h1, h2, Nat.le_trans (list_len _) (by omega)⟩
theorem shw_tup {B n : Nat} {ds : List PyData} (h : ∀ d ∈ ds, Shw B d) (l : ds.length ≤ n) : Shw (3 + n * (B + 2)) (.tuple ds) := by
  obtain ⟨h1, h2, h3⟩ := shw_all ds h
  have m := Nat.mul_le_mul_right (B + 2) l
  exact ⟨h1, h2, Nat.le_trans (tup_len _) (by omega)⟩
theorem depth_all {n : Nat} : ∀ (ds : List PyData), (∀ d ∈ ds, d.depth ≤ n) → PyData.depthAll ds ≤ n
  | [], _ => Nat.zero_le _
  | d :: ds, h => Nat.max_le.mpr ⟨h d List.mem_cons_self, depth_all ds fun d hd => h d (List.mem_cons_of_mem _ hd)⟩
theorem depth_list {n : Nat} {ds : List PyData} (h : ∀ d ∈ ds, d.depth ≤ n) : (PyData.list ds).depth ≤ n + 1 := Nat.succ_le_succ (depth_all ds h)
theorem depth_tup {n : Nat} {ds : List PyData} (h : ∀ d ∈ ds, d.depth ≤ n) : (PyData.tuple ds).depth ≤ n + 1 := Nat.succ_le_succ (depth_all ds h)
theorem r_repr {K : PySem.W.Frag} {H : Hp} {Q : VK} {a : Addr} {d : PyData} {B : Nat} (h : Dp K H (.ref a) d) (s : Shw B d) (b : B ≤ 1000000) (dp : d.depth ≤ 60) (q : Q (.str d.shown) H) : rRepr K [.ref a] H Q :=
  ⟨a, d, rfl, h, s.s, s.n, Nat.le_trans s.l (by rw [sizeLine_eq]; omega), dp, q⟩

/-! ### the law's call, where its def runs with no repr under way -/
section
open PySem.Spec PyProof.Rows
theorem law_callG {P : Program} {w : World} {K : PySem.W.Frag} {mg mb : Str → Option Value} {k : Nat} {fa a : Addr} {fd : FuncData} {x : Str} {sp : Sp} {s₁ : Shared} {vs : List Value} {ns : List Int}
    (inK : K.In s₁.heap) (gl : s₁.heap.Ns mainGlobals mg) (bl : s₁.heap.Ns builtinsNs mb) (boot : ∀ x : Str, x ≠ "__name__" → mb x = bootBuiltins x) (nolim : s₁.heap.NoLimit) (nog : s₁.gens = #[])
    (obj : s₁.heap.get? a = some { cls := .type "list", data := .seq vs.toArray }) (intA : IntsAre vs ns) (few : ns.length ≤ sizeLine) (room : Room k callerA)
    (F : ∀ base : Heap, K.In base → base.Ns mainGlobals mg → FnOkG P w K mg base CX0 k fa fd [x] sp) (bnd : ∀ (s : Shared) (u : Value), BindsTo s fd ⟨[u], []⟩ [(x, u)])
    (want : ∀ H : Hp, Only H → SqL K H a (ns.map V.int) → sp [.ref a] H (fun v _ => v = .bl true) fun _ _ _ => False) :
    codeAny (model P w) callerA (.call (.ref fa) ⟨[.ref a], []⟩) (fun r z => r = .ok (.ret (.bool true)) ∧ OldK s₁.heap z.heap ∧ z.os = s₁.os ∧ AllBare z.gens) s₁ := by
  have vals := vals_ints intA
  have vl := intA.length
  have main : ∀ H : Hp, Only H → SqL K H a (ns.map V.int) → HOk P w H s₁.heap → (∀ c, H c ≠ none → c = a) → (H a ≠ none → K.lookup a = none) →
      codeAny (model P w) callerA (.call (.ref fa) ⟨[.ref a], []⟩) (fun r z => r = .ok (.ret (.bool true)) ∧ OldK s₁.heap z.heap ∧ z.os = s₁.os ∧ AllBare z.gens) s₁ := by
    intro H only isl laid onlyA notK
    have hid : ∀ {c : Addr} {u : Obj}, s₁.heap.get? c = some u → H c = none → (hidT s₁.heap H).get? c = some u := fun e n => hidT_get e n
    have notD : ∀ {c : Addr} {u : Obj} {es : Array DictEntry} {ep : Nat}, s₁.heap.get? c = some u → u.data = .dict es ep → H c = none := fun {c u es ep} e d => by
      cases q : H c with
      | none => rfl
      | some y =>
        have ca : c = a := onlyA c (by rw [q]; simp)
        subst ca
        rw [obj] at e
        cases e
        have dd : Data.seq vs.toArray _ = Data.dict es ep := d
        cases dd
    have nsH : ∀ {c : Addr} {m : Str → Option Value}, s₁.heap.Ns c m → (hidT s₁.heap H).Ns c m := fun {c m} ⟨u, es, ep, e, d, r⟩ => ⟨u, es, ep, hid e (notD e d), d, r⟩
    have inB : K.In (hidT s₁.heap H) := fun c u e => hid (inK c u e) (by
      cases q : H c with
      | none => rfl
      | some y =>
        have ca : c = a := onlyA c (by rw [q]; simp)
        subst ca
        rw [notK (by rw [q]; simp)] at e
        cases e)
    have mods : Mod K mg (hidT s₁.heap H) := ⟨inB, nsH gl, ⟨mb, nsH bl, boot⟩, let ⟨mc, h1, h2⟩ := nolim; ⟨mc, nsH h1, h2⟩⟩
    have env0 : Env0 P w K mg (hidT s₁.heap H) callerA [] s₁ H := ⟨rfl, mods, fun c u e => of_hidT e, Nat.le_of_eq (hidT_size _ _), trivial, fun c hc => absurd (show c ∈ ([] : List Addr) from hc) (by simp), laid, .of_eq nog⟩
    refine codeAny_mono ((F _ inB (nsH gl)).run callerA [] s₁ H ⟨[.ref a], []⟩ [.ref a] [.ref a] _ _ rfl room env0 (bnd s₁ (.ref a)) (.cons rfl .nil) (want H only isl)) fun r z h => ?_
    cases r with
    | error e => exact h.elim
    | ok fl =>
      cases fl with
      | next => exact h.elim
      | brk => exact h.elim
      | cont => exact h.elim
      | ret u =>
        obtain ⟨v, H2, os, bare, un, laid2, ru, q⟩ := h
        have vt : v = .bl true := q
        subst vt
        obtain rfl : u = Value.bool true := ru
        refine ⟨rfl, OldK.of_keep fun c y e => ?_, os, bare⟩
        cases q : H c with
        | none => exact un.keep c y e q (by intro z; exact absurd (show c ∈ ([] : List Addr) from z) (by simp)) (by simp)
        | some t =>
          rcases only c with z | ⟨oc, xs, z⟩
          · rw [q] at z
            cases z
          · have z2 := un.frzs c oc _ z
            obtain ⟨e1, _⟩ := laid c _ z
            obtain ⟨e2, _⟩ := laid2 c _ z2
            rw [e] at e1
            cases e1
            exact e2
  cases hk : K.lookup a with
  | some o =>
    have e := inK a o hk
    rw [obj] at e
    cases e
    refine main (fun _ => none) (fun _ => .inl rfl) (.inr ⟨_, vs.toArray, _, hk, rfl, rfl, rfl, by rw [List.size_toArray, vl]; exact few, by simpa using vals⟩) (fun c u z => by have z2 : (none : Option HO) = some u := z; cases z2) (fun c z => absurd rfl z) fun z => absurd rfl z
  | none =>
    refine main (fun c => if c = a then some (.frz { cls := .type "list", data := .seq vs.toArray } (.lst (ns.map V.int))) else none) (fun c => ?_) (.inl (.inr ⟨{ cls := .type "list", data := .seq vs.toArray }, if_pos rfl⟩)) (fun c u z => ?_) (fun c z => ?_) fun _ => hk
    · by_cases hc : c = a
      · exact .inr ⟨_, _, if_pos hc⟩
      · exact .inl (if_neg hc)
    · by_cases hc : c = a
      · have z2 := (if_pos hc).symm.trans z
        cases z2
        subst hc
        exact ⟨obj, by rw [List.length_map]; exact few, vs, _, vals, obj⟩
      · have z2 := (if_neg hc).symm.trans z
        cases z2
    · by_cases hc : c = a
      · exact hc
      · exact absurd (if_neg hc) z
theorem walk_ofG {l : PySem.W.OpenLaw} {n k : Nat} {q : Program} {loose : List Str} {XP : (Str → Option Value) → Heap → Prop} {YP : World → Heap → Prop} {d : DefRec} {K : Params → PySem.W.Frag} {sp : World → Sp} {x : Str}
    (most : l.most = some n) (small : n ≤ sizeLine) (nodf : d.params.defaults = []) (room : Room k callerA)
    (inn : ∀ (w : World) (h : Heap), YP w h → (K w.params).In h)
    (F : ∀ (w : World) (mg : Str → Option Value) (fa : Addr) (h : Heap), (K w.params).In h → h.Ns mainGlobals mg → mg d.name = some (.ref fa) →
      ∃ fd : FuncData, (∀ (s : Shared) (u : Value), BindsTo s fd ⟨[u], []⟩ [(x, u)]) ∧
        ∀ base : Heap, (K w.params).In base → base.Ns mainGlobals mg → FnOkG l.prog w (K w.params) mg base CX0 k fa fd [x] (sp w))
    (want : ∀ (w : World) (H : Hp) (a : Addr) (ns : List Int), ns.length ≤ n → Only H → SqL (K w.params) H a (ns.map V.int) → sp w [.ref a] H (fun v _ => v = .bl true) fun _ _ _ => False) :
    PySem.W.WalkO q loose XP YP l.row.toRowW d [] (fun f vs => PySem.call f vs) := by
  refine Att.attach_call most nodf fun w s₀ s₁ mg mb fa o pm cd doc a vs ns G Y ho hd hcd hm obj intA len hg => ?_
  have inK := inn w _ Y
  obtain ⟨fd, bnd, FF⟩ := F w mg fa _ inK G.T.g hm
  exact law_callG inK G.T.g G.T.b G.T.builtins G.T.nolimit hg obj intA (Nat.le_trans len small) room FF bnd (fun H only isl => want w H a ns len only isl)
end

/-! ### remaining values, kept apart from some places -/
structure DomF (S : List Addr) (H : Hp) (d : Addr) (ks : List Int) (D : Dm) : Prop where
  ex : ∃ f : Int → Addr, H d = some (.dK (ents ks fun v => .ref (f v))) ∧ ∀ v ∈ ks, H (f v) = some (.lst ((D v).map V.int)) ∧ f v ∉ S
structure Alc (S : List Addr) (H : Hp) : Prop where
  h : ∀ s ∈ S, H s ≠ none
theorem Alc.no {S : List Addr} {H : Hp} {p : Addr} (h : Alc S H) (hp : H p = none) : p ∉ S := fun m => h.h p m hp
theorem Alc.kp0 {S : List Addr} {H H' : Hp} (k : Kp [] H H') (h : Alc S H) : Alc S H' := ⟨fun s hs z => h.h s hs (k.free0 z)⟩
theorem Alc.kp {S T : List Addr} {H H' : Hp} (k : Kp T H H') (h : Alc S H) (a : ∀ b ∈ T, ∃ o, H' b = some o) : Alc S H' := ⟨fun s hs z => h.h s hs (k.free z a)⟩
section
variable {S : List Addr} {H H' H2 : Hp} {d p : Addr} {ks : List Int} {D : Dm} {v : Int} {xs : List Int} {Q : VK}
theorem DomF.at (h : DomF S H d ks D) : DomAt H d ks D := by
  obtain ⟨f, e, a⟩ := h.ex
  exact ⟨f, e, fun v hv => (a v hv).1⟩
theorem DomF.kp0 (k : Kp [] H H') (h : DomF S H d ks D) : DomF S H' d ks D := by
  obtain ⟨f, e, a⟩ := h.ex
  exact ⟨f, k.get0 e, fun v hv => ⟨k.get0 (a v hv).1, (a v hv).2⟩⟩
theorem DomF.kpS {T : List Addr} (k : Kp T H H') (h : DomF S H d ks D) (hd : d ∉ T) (hT : ∀ x ∈ T, x ∈ S) : DomF S H' d ks D := by
  obtain ⟨f, e, a⟩ := h.ex
  exact ⟨f, k.get hd e, fun v hv => ⟨k.get (fun m => (a v hv).2 (hT _ m)) (a v hv).1, (a v hv).2⟩⟩
theorem DomF.isD (h : DomF S H d ks D) : ∃ f, H d = some (.dK (ents ks f)) := h.at.isD
theorem DomF.mut (h : DomF S H d ks D) : Kp [d] H H := h.at.mut
theorem r_putDomF {R : Hp → Prop} (h : DomF S H d ks D) (hv : v ∈ ks) (hp : H p = some (.lst (xs.map V.int))) (np : p ∉ S) (few : ks.length ≤ 10000) (q : ∀ H2, DomF S H2 d ks (updD D v xs) → Kp [d] H H2 → R H2) : putD (.ref d) (.int v) (.ref p) H R := by
  obtain ⟨f, e, a⟩ := h.ex
  refine r_putE e few fun H2 e2 k2 => q H2 ⟨fun u => if u = v then p else f u, ?_, fun u hu => ?_⟩ k2
  · rw [e2, if_pos hv]
    congr 2
    congr 1
    funext u
    show (if u = v then V.ref p else V.ref (f u)) = V.ref (if u = v then p else f u)
    split <;> rfl
  · have nl : ∀ {b : Addr} {ys : List V}, H b = some (.lst ys) → b ≠ d := fun hb z => by rw [z, e] at hb; cases hb
    unfold updD
    simp only
    split
    · exact ⟨k2.get1 (nl hp) hp, np⟩
    · exact ⟨k2.get1 (nl (a u hu).1) (a u hu).1, (a u hu).2⟩
end
def spFullDF (K : PySem.W.Frag) (C : Addr) : Sp := fun vs H Q _ => ∃ (a : MA) (M : Mdl) (l : Addr) (ks : List Int) (S : List Addr), vs = [.ref a.p, .ref l] ∧ Alc S H ∧ MdlAt K C H a M ∧ M.us.length ≤ 60 ∧ usOk M.us ∧ H l = some (.lst (ks.map V.int)) ∧ ks.Nodup ∧ (∀ v ∈ ks, 0 ≤ v ∧ v < M.us.length) ∧ ∀ (d : Addr) (H' : Hp), H d = none → DomF S H' d ks (fullD M.us) → Kp [] H H' → Q (.ref d) H'
def spKeepLF (K : PySem.W.Frag) : Sp := fun vs H Q _ => ∃ (d p : Addr) (ks : List Int) (D : Dm) (l : Lit) (S : List Addr), vs = [.ref d, .ref p] ∧ Alc S H ∧ DomF S H d ks D ∧ DomOk ks D ∧ ks.length ≤ 60 ∧ LitAt K H p l.v l.r l.a ∧ l.v ∈ ks ∧ ∀ H', DomF S H' d ks (keepL D l) → Kp [d] H H' → Q .non H'
def spApplyR0 (K : PySem.W.Frag) : Sp := fun vs H Q _ => ∃ (d p : Addr) (ks : List Int) (D : Dm) (ts : Tms) (n : Int) (S : List Addr), vs = [.ref d, .ref p] ∧ Alc S H ∧ DomF S H d ks D ∧ DomOk ks D ∧ ks.length ≤ 60 ∧ FactAt K H p (.row ts n) ∧ ts.length ≤ 60 ∧ (∀ z ∈ ts, z.1 ∈ ks) ∧ (∀ H', applyR D ts n = none → Kp [] H H' → Q (.bl false) H') ∧ ∀ D' H', applyR D ts n = some D' → DomF S H' d ks D' → Kp [d] H H' → Q (.bl true) H'

section
variable {P : Program} {w : World} {K : PySem.W.Frag} {mg : Str → Option Value} {base : Heap} {C_Model C_Remaining : Addr}
theorem r_sum {K : PySem.W.Frag} {H : Hp} {Q : VK} {p : Addr} {ns : List Int} (h : H p = some (.lst (ns.map V.int))) (q : Q (.int ns.sum) H) : rSum K [.ref p] H Q := ⟨p, ns, rfl, SqL.of h, q⟩
theorem putAll_snoc : ∀ (zs : List (Int × List Int)) (D : Dm) (z : Int × List Int), putAll D (zs ++ [z]) = updD (putAll D zs) z.1 z.2
  | [], _, _ => rfl
  | y :: ys, D, z => by
    show putAll (updD D y.1 y.2) (ys ++ [z]) = _
    rw [putAll_snoc ys]
    rfl
structure CutAll (K : PySem.W.Frag) (c : Addr) (H : Hp) (refs : List V) (zs : List (Int × List Int)) : Prop where
  len : refs.length = zs.length
  at_ : ∀ (i : Nat) z, zs[i]? = some z → ∃ pt pl, refs[i]? = some (.ref pt) ∧ SqT K H pt [.int z.1, .ref pl] ∧ H pl = some (.lst (z.2.map V.int)) ∧ pl ≠ c
theorem CutAll.kp {K : PySem.W.Frag} {c : Addr} {H H' : Hp} {refs : List V} {zs : List (Int × List Int)} {S : List Addr} (h : CutAll K c H refs zs) (k : Kp S H H') (n : ∀ pl xs, H pl = some (.lst xs) → pl ≠ c → ¬ pl ∈ S) : CutAll K c H' refs zs :=
  ⟨h.len, fun i z hz => by
    obtain ⟨pt, pl, a, b, e, f⟩ := h.at_ i z hz
    exact ⟨pt, pl, a, k.tup b, k.get (n pl _ e f) e, f⟩⟩
theorem CutAll.snoc {K : PySem.W.Frag} {c pt pl : Addr} {H : Hp} {refs : List V} {zs : List (Int × List Int)} {z : Int × List Int} (h : CutAll K c H refs zs) (a : SqT K H pt [.int z.1, .ref pl]) (b : H pl = some (.lst (z.2.map V.int))) (n : pl ≠ c) : CutAll K c H (refs ++ [.ref pt]) (zs ++ [z]) :=
  ⟨by simp [h.len], fun i y hy => by
    rcases Nat.lt_or_ge i zs.length with hi | hi
    · rw [List.getElem?_append_left hi] at hy
      obtain ⟨pt', pl', e, r⟩ := h.at_ i y hy
      exact ⟨pt', pl', by rw [List.getElem?_append_left (by rw [h.len]; exact hi)]; exact e, r⟩
    · rw [List.getElem?_append_right hi] at hy
      have e0 : i - zs.length = 0 := by
        have := (List.getElem?_eq_some_iff.mp hy).1
        simp at this
        omega
      rw [e0] at hy
      simp at hy
      subst hy
      refine ⟨pt, pl, ?_, a, b, n⟩
      rw [List.getElem?_append_right (by rw [h.len]; exact hi), h.len, e0]
      rfl⟩
theorem live_fm (D : Dm) (ls : List Lit) : ls.filterMap (fun l => if (D l.v).any (fun a => l.r.h a l.a) = true then some l.d else none) = (liveL D ls).map Lit.d := by
  unfold liveL
  induction ls with
  | nil => rfl
  | cons l ls ih =>
    rw [List.filterMap_cons, List.filter_cons]
    cases h : (D l.v).any fun a => l.r.h a l.a
    · simp only [Bool.false_eq_true, if_false]
      exact ih
    · simp only [if_true, List.map_cons]
      rw [ih]
theorem ok_live_literals {f : Addr} {fd : FuncData} (F : Fun K "live_literals" "live_literals" s_live_literals f fd) (B : Bi K mg C_Model C_Remaining) (D_literal_holds : Is P w K mg base CX0 2 "literal_holds" ["literal", "worth"] (spLit K)) : FnOk P w K mg base CX0 3 f fd ["domains", "literals"] (spLive K) := by
  have nd := sc_live_literals.nd
  refine F.ok sc_live_literals ?len (fun cdv A outer s H vs Q E hr h => ?body)
  case len =>
    rintro vs H Q E ⟨d, p, ks, D, ls, rfl, _⟩
    rfl
  case body =>
    obtain ⟨d, p, ks, D, ls, rfl, hD, ok, l60, hI, ll, hk, k⟩ := h
    refine ⟨_, (pss_one (ps_ret (by exact pe_lc (own := [("literal", 2)]) (g := (gName 2)) rfl nd (pi_tup (pv 1)) (blkOk_by (N := ["domains", "literals", "literal", "a"]) (sc := defScope s_live_literals) (by decide +kernel)) (fun _ _ _ _ _ => (pg_name (i := 2) nd rfl (Or.inr rfl))) (fun _ _ _ _ _ => pts_one (pt_val (pe_callB (cgAny K rfl) (by rfl) B.n_any (by decide +kernel) (pa_cons (by apply pe_lc (own := [("a", 3)]) (g := (gName 3)) (tt := tYes) rfl nd; exact ((piLst K) (pe_ix ix_dK (pv 0) (pe_ix (ixT K) (pv 2) pe_int (fun _ _ => rfl)) (fun _ _ => rfl))); exact (blkOk_cap (N := ["domains", "literals", "literal", "a"]) [("literal", .cell)] (by decide +kernel) ⟨rfl, trivial⟩); exact (fun _ _ _ _ _ => (pg_name (i := 3) nd rfl (Or.inl rfl))); exact (fun _ _ _ _ _ => pts_nil); exact (fun _ _ _ _ _ => (pe_is D_literal_holds (hr.mono (by decide)) rfl pass0 (pa_cons (pv 2) (pa_cons (pv 3) pa_nil))))) pa_nil)))) (fun _ _ _ _ _ => (pv 2))))), ?_⟩
    try dsimp only [L2.cxOf, L2.Cx.nox, L2.Cx.wish]
    rw [st_live_literals]
    obtain ⟨xs, s1, i1⟩ := hI.open
    walk_at "cg"
    refine lcT_f (as := ls) (d := Lit.d) s1 i1 (fun l => if (D l.v).any (fun a => l.r.h a l.a) = true then some l.d else none) (by omega) (fun i l x H' R R' hl kk hx q1 q2 => ?_) (fun D1 H1 acc hD1 eD1 hA k1 => ?_)
    · obtain ⟨px, rfl, L⟩ := lit_at hx
      have hlk := hk l (List.mem_of_getElem? hl)
      have D' := hD.kp0 kk
      have d1 := ok l.v hlk
      walk_at "cg"
      refine r_getDom D' hlk fun b hb => ?_
      walk_at "cg"
      refine lcL_b (as := D l.v) (d := PyData.int) hb (imInts _) (fun a => l.r.h a l.a) d1.small (fun j a x2 H2 R2 R2' ha k2 hx2 q3 => ?_) (fun D2 H2 hD2 eD2 k2 => ?_)
      · cases hx2
        have L2 : LitAt K H2 px l.v l.r l.a := k2.tup L
        walk_at "cg"
        exact q3 _ .refl
      walk_at "cg"
      refine r_any eD2 ?_
      have ea : ((D l.v).map fun a => l.r.h a l.a).any id = (D l.v).any fun a => l.r.h a l.a := by rw [List.any_map]; rfl
      rw [ea]
      walk_at "cg"
      cases e : (D l.v).any fun a => l.r.h a l.a
      · walk_at "cg"
        exact q2 _ (by rw [e]; rfl) k2
      · walk_at "cg"
        exact q1 _ _ l.d (by rw [e]; rfl) (k2.im hx) k2
    walk_at "cg"
    rw [live_fm] at hA
    exact k D1 acc H1 hD1 eD1 hA k1
theorem ok_full_domains {f : Addr} {fd : FuncData} (F : Fun K "full_domains" "full_domains" s_full_domains f fd) (B : Bi K mg C_Model C_Remaining) (D_Model_low : IsM P w K mg base CX0 2 C_Model "low" ["self", "v"] (spLow K C_Model)) (D_Model_high : IsM P w K mg base CX0 2 C_Model "high" ["self", "v"] (spHigh K C_Model)) : FnOk P w K mg base CX0 3 f fd ["model", "unknowns"] (spFullDF K C_Model) := by
  have nd := sc_full_domains.nd
  obtain ⟨f_Model_low, fd_Model_low, G_Model_low, m_Model_low, b_Model_low⟩ := D_Model_low.ex
  obtain ⟨f_Model_high, fd_Model_high, G_Model_high, m_Model_high, b_Model_high⟩ := D_Model_high.ex
  refine F.ok sc_full_domains ?len (fun cdv A outer s H vs Q E hr h => ?body)
  case len =>
    rintro vs H Q E ⟨a, M, l, ks, S, rfl, _⟩
    rfl
  case body =>
    obtain ⟨a, M, l, ks, S, rfl, al, hM, h60, ok, hl, nd9, hk, k⟩ := h
    refine ⟨_, (pss_one (ps_ret (by exact pe_dc (own := [("v", 2)]) (g := (gName 2)) (tt := tYes) rfl nd ((piLst K) (pv 1)) (blkOk_by (N := ["model", "unknowns", "v"]) (sc := defScope s_full_domains) (by decide +kernel)) (fun _ _ _ _ _ => (pg_name (i := 2) nd rfl (Or.inl rfl))) (fun _ _ _ _ _ => pts_nil) (fun _ _ _ _ _ => (pv 2)) (fun _ _ _ _ _ => (pe_listRg rfl (by rfl) B.n_list (prg_2 (by rfl) B.n_range (pe_meth (pv 0) D_Model_low.cl m_Model_low G_Model_low (hr.mono (by decide)) b_Model_low .nil pass0 (pa_cons (pv 2) pa_nil)) (pe_op op_add (pe_meth (pv 0) D_Model_high.cl m_Model_high G_Model_high (hr.mono (by decide)) b_Model_high .nil pass0 (pa_cons (pv 2) pa_nil)) pe_int))))))), ?_⟩
    try dsimp only [L2.cxOf, L2.Cx.nox, L2.Cx.wish]
    rw [st_full_domains]
    have l60 : ks.length ≤ 60 := by
      have := nodup_le (us := upTo M.us.length) nd9 fun k hk' => mem_upTo.mpr (hk k hk')
      simp [upTo] at this
      omega
    have D := fullD_ok ok hk
    walk_at "cg"
    refine dc_by (walk_list (K := K) (a := l) (xs := ks.map V.int)) (fun d i H' => ∃ f : Int → Addr, H d = none ∧ H' d = some (.dK (ents (ks.take i) fun v => .ref (f v))) ∧ (∀ v ∈ ks.take i, H' (f v) = some (.lst ((fullD M.us v).map V.int)) ∧ f v ∉ S) ∧ Kp [] H H') (fun d H2 hd e2 k2 => ⟨fun _ => d, hd, e2, fun v hv => (by simp at hv), k2⟩) (fun d i H' ⟨f, hd, e, a, kk⟩ => SqL.of (kk.get0 hl)) ?_ ?_
    · rintro d i x H' H'' hi ⟨f, hd, ed, hf, kk⟩ ⟨rfl, hx⟩
      rw [List.length_map] at hi
      obtain ⟨v, hv⟩ : ∃ v, ks[i]? = some v := ⟨_, List.getElem?_eq_getElem hi⟩
      rw [List.getElem?_map, hv] at hx
      cases hx
      have hvk := List.mem_of_getElem? hv
      have hb := hk v hvk
      obtain ⟨u, hu⟩ : ∃ u, M.us[v.toNat]? = some u := ⟨_, List.getElem?_eq_getElem (by omega)⟩
      have o := ok u (List.mem_of_getElem? hu)
      have M' := hM.kp0 kk
      have ef : fullD M.us v = rgI u.2.1 (u.2.2 + 1) := by unfold fullD; rw [hu]
      have hnv : ¬ v ∈ ks.take i := fun hm => by
        obtain ⟨j, hj⟩ := List.getElem?_of_mem hm
        obtain ⟨hjl, ej⟩ := List.getElem?_eq_some_iff.mp hj
        rw [List.length_take] at hjl
        rw [List.getElem_take] at ej
        obtain ⟨hil, ei⟩ := List.getElem?_eq_some_iff.mp hv
        have := (List.nodup_iff_pairwise_ne (l := ks)).mp nd9
        exact absurd (ej.trans ei.symm) (List.pairwise_iff_getElem.mp nd9 j i (by omega) hil (by omega))
      walk_at "cg"
      refine ⟨a, M, v, u, rfl, M', h60, hb.1, hu, ?_⟩
      walk_at "cg"
      refine ⟨a, M, v, u, rfl, M', h60, hb.1, hu, ?_⟩
      walk_at "cg"
      refine r_lstRg (by omega) (by omega) fun p H2 hp ep k2 => ?_
      refine r_pkE (k2.get0 ed) (by rw [List.length_take]; omega) fun H3 e3 k3 => ?_
      have npd : p ≠ d := ne_newR hp ed
      refine ⟨fun w => if w = v then p else f w, hd, ?_, fun w hw => ?_, Kp.trN k3 (Kp.tr0 k2 kk) hd⟩
      · rw [e3, if_neg hnv]
        have et : ks.take (i + 1) = ks.take i ++ [v] := by rw [List.take_add_one, hv]; rfl
        rw [et]
        congr 2
        congr 1
        funext w
        show (if w = v then V.ref p else V.ref (f w)) = V.ref (if w = v then p else f w)
        split <;> rfl
      · have et : ks.take (i + 1) = ks.take i ++ [v] := by rw [List.take_add_one, hv]; rfl
        rw [et, List.mem_append, List.mem_singleton] at hw
        by_cases e : w = v
        · subst e
          simp only [if_pos]
          rw [ef]
          exact ⟨k3.get1 npd ep, al.no (kk.free0 hp)⟩
        · simp only [if_neg e]
          have hw' := hw.resolve_right e
          have h1 := hf w hw'
          exact ⟨k3.get1 (fun z => by have h1 := h1.1; rw [z, ed] at h1; cases h1) (k2.get0 h1.1), h1.2⟩
    · rintro d H' ⟨f, hd, ed, hf, kk⟩
      have et : ks.take (ks.map V.int).length = ks := by rw [List.length_map, List.take_length]
      rw [et] at ed hf
      exact k d H' hd ⟨f, ed, hf⟩ kk
theorem ok_keep_literal {f : Addr} {fd : FuncData} (F : Fun K "keep_literal" "keep_literal" s_keep_literal f fd) (B : Bi K mg C_Model C_Remaining) (D_literal_holds : Is P w K mg base CX0 2 "literal_holds" ["literal", "worth"] (spLit K)) : FnOk P w K mg base CX0 3 f fd ["domains", "literal"] (spKeepLF K) := by
  have nd := sc_keep_literal.nd
  refine F.ok sc_keep_literal ?len (fun cdv A outer s H vs Q E hr h => ?body)
  case len =>
    rintro vs H Q E ⟨d, p, ks, D, l, S, rfl, _⟩
    rfl
  case body =>
    obtain ⟨d, p, ks, D, l, S, rfl, al, hD, ok, l60, L, hlk, k⟩ := h
    refine ⟨_, (pss_cons (ps_set (i := 2) nd rfl (Or.inl rfl) (pe_ix (ixT K) (pv 1) pe_int (fun _ _ => rfl)))
      (pss_one (ps_dput (hu_of hr) (pv 0) (pv 2) (by exact pe_lc (own := [("a", 3)]) (g := (gName 3)) rfl nd ((piLst K) (pe_ix ix_dK (pv 0) (pv 2) (fun _ _ => rfl))) (blkOk_by (N := ["domains", "literal", "v", "a"]) (sc := defScope s_keep_literal) (by decide +kernel)) (fun _ _ _ _ _ => (pg_name (i := 3) nd rfl (Or.inl rfl))) (fun _ _ _ _ _ => pts_one (pt_val (pe_is D_literal_holds (hr.mono (by decide)) rfl pass0 (pa_cons (pv 1) (pa_cons (pv 3) pa_nil))))) (fun _ _ _ _ _ => (pv 3))) rfl))), ?_⟩
    try dsimp only [L2.cxOf, L2.Cx.nox, L2.Cx.wish]
    rw [st_keep_literal]
    have d1 := ok l.v hlk
    walk_at "cg"
    refine r_getDom hD.at hlk fun q hq => ?_
    walk_at "cg"
    refine lcL_fi (K := K) hq (fun a => l.r.h a l.a) d1.small (fun j a H2 R R' ha k2 q1 q2 => ?_) (fun q2 H2 hq2 eq2 k2 => ?_)
    · have L2 : LitAt K H2 p l.v l.r l.a := k2.tup L
      walk_at "cg"
      cases eh : l.r.h a l.a
      · walk_at "cg"
        exact q2 _ eh .refl
      · walk_at "cg"
        exact q1 _ eh .refl
    walk_at "cg"
    refine r_putDomF (hD.kp0 k2) hlk eq2 (al.no hq2) (by omega) fun H3 D3 k3 => ?_
    walk_at "cg"
    exact k _ D3 (Kp.tr1 k3 (Kp.tr0 k2 hD.mut))
structure CutF (K : PySem.W.Frag) (c : Addr) (S0 : List Addr) (H : Hp) (refs : List V) (zs : List (Int × List Int)) : Prop where
  len : refs.length = zs.length
  at_ : ∀ (i : Nat) z, zs[i]? = some z → ∃ pt pl, refs[i]? = some (.ref pt) ∧ SqT K H pt [.int z.1, .ref pl] ∧ H pl = some (.lst (z.2.map V.int)) ∧ pl ≠ c ∧ pl ∉ S0
theorem CutF.kp {K : PySem.W.Frag} {c : Addr} {S0 : List Addr} {H H' : Hp} {refs : List V} {zs : List (Int × List Int)} {S : List Addr} (h : CutF K c S0 H refs zs) (k : Kp S H H') (n : ∀ pl xs, H pl = some (.lst xs) → (pl ≠ c ∧ pl ∉ S0) → ¬ pl ∈ S) : CutF K c S0 H' refs zs :=
  ⟨h.len, fun i z hz => by
    obtain ⟨pt, pl, a, b, e, f⟩ := h.at_ i z hz
    exact ⟨pt, pl, a, k.tup b, k.get (n pl _ e f) e, f⟩⟩
theorem CutF.snoc {K : PySem.W.Frag} {c pt pl : Addr} {S0 : List Addr} {H : Hp} {refs : List V} {zs : List (Int × List Int)} {z : Int × List Int} (h : CutF K c S0 H refs zs) (a : SqT K H pt [.int z.1, .ref pl]) (b : H pl = some (.lst (z.2.map V.int))) (n : pl ≠ c ∧ pl ∉ S0) : CutF K c S0 H (refs ++ [.ref pt]) (zs ++ [z]) :=
  ⟨by simp [h.len], fun i y hy => by
    rcases Nat.lt_or_ge i zs.length with hi | hi
    · rw [List.getElem?_append_left hi] at hy
      obtain ⟨pt', pl', e, r⟩ := h.at_ i y hy
      exact ⟨pt', pl', by rw [List.getElem?_append_left (by rw [h.len]; exact hi)]; exact e, r⟩
    · rw [List.getElem?_append_right hi] at hy
      have e0 : i - zs.length = 0 := by
        have := (List.getElem?_eq_some_iff.mp hy).1
        simp at this
        omega
      rw [e0] at hy
      simp at hy
      subst hy
      refine ⟨pt, pl, ?_, a, b, n⟩
      rw [List.getElem?_append_right (by rw [h.len]; exact hi), h.len, e0]
      rfl⟩
theorem ok_apply_row {f : Addr} {fd : FuncData} (F : Fun K "apply_row" "apply_row" s_apply_row f fd) (B : Bi K mg C_Model C_Remaining) (D_least_of : Is P w K mg base CX0 1 "least_of" ["c", "values"] (spLeast K)) : FnOk P w K mg base CX0 2 f fd ["domains", "row"] (spApplyR0 K) := by
  have nd := sc_apply_row.nd
  refine F.ok sc_apply_row ?len (fun cdv A outer s H vs Q E hr h => ?body)
  case len =>
    rintro vs H Q E ⟨d, p, ks, D, ts, n, S, rfl, _⟩
    rfl
  case body =>
    obtain ⟨d, p, ks, D, ts, n, S, rfl, al, hD, ok, l60, hf, tl, hk, k0, k1⟩ := h
    refine ⟨_, (pss_cons (ps_set (i := 2) nd rfl (Or.inl rfl) (pe_callB (cr_sum rfl) (by rfl) B.n_sum (by decide +kernel) (pa_cons (by exact pe_lc (own := [("v", 4), ("c", 5)]) (g := (gTup K 2 (gCons (gName 4) (gCons (gName 5) gNil)))) (tt := tYes) rfl nd (pi_tup (pe_ix (ixT K) (pv 1) pe_int (fun _ _ => rfl))) (blkOk_by (N := ["domains", "row", "least", "cut", "v", "c", "rest", "values", "a"]) (sc := defScope s_apply_row) (by decide +kernel)) (fun _ _ _ _ _ => (pg_tup (n := 2) rfl (pgs_cons (pg_name (i := 4) nd rfl (Or.inl rfl)) (pgs_cons (pg_name (i := 5) nd rfl (Or.inl rfl)) pgs_nil)))) (fun _ _ _ _ _ => pts_nil) (fun _ _ _ _ _ => (pe_is D_least_of (hr.mono (by decide)) rfl pass0 (pa_cons (pv 5) (pa_cons (pe_ix ix_dK (pv 0) (pv 4) (fun _ _ => rfl)) pa_nil))))) pa_nil)))
      (pss_cons (ps_if (pt_cmpR op_gt (pv 2) (pe_ix (ixT K) (pv 1) pe_int (fun _ _ => rfl)) (nomark _))
      (pss_one (ps_ret pe_bl))
      pss_nil)
      (pss_cons (ps_set (i := 3) nd rfl (Or.inl rfl) (pe_lst pa_nil))
      (pss_cons (ps_for PassesOwn.never rfl (pi_tup (pe_ix (ixT K) (pv 1) pe_int (fun _ _ => rfl))) (pg_tup (n := 2) rfl (pgs_cons (pg_name (i := 4) nd rfl (Or.inl rfl)) (pgs_cons (pg_name (i := 5) nd rfl (Or.inr rfl)) pgs_nil)))
      (pss_cons (ps_set (i := 6) nd rfl (Or.inr rfl) (pe_op op_sub (pv 2) (pe_is D_least_of (hr.mono (by decide)) rfl pass0 (pa_cons (pv 5) (pa_cons (pe_ix ix_dK (pv 0) (pv 4) (fun _ _ => rfl)) pa_nil)))))
      (pss_one (ps_expr (pe_bm PySem.F.plainAttrs_list PySem.F.slot_list_append PySem.F.type_list_append mt_append (pv 3) (pa_cons (pe_tup (pa_cons (pv 4) (pa_cons (by exact pe_lc (own := [("a", 8)]) (g := (gName 8)) rfl nd ((piLst K) (pe_ix ix_dK (pv 0) (pv 4) (fun _ _ => rfl))) (blkOk_by (N := ["domains", "row", "least", "cut", "v", "c", "rest", "values", "a"]) (sc := defScope s_apply_row) (by decide +kernel)) (fun _ _ _ _ _ => (pg_name (i := 8) nd rfl (Or.inl rfl))) (fun _ _ _ _ _ => pts_one (pt_cmpR op_le (pe_op op_add (pe_op op_mul (pv 5) (pv 8)) (pv 6)) (pe_ix (ixT K) (pv 1) pe_int (fun _ _ => rfl)) (nomark _))) (fun _ _ _ _ _ => (pv 8))) pa_nil))) pa_nil))))))
      (pss_cons (ps_for PassesOwn.never rfl ((piLst K) (pv 3)) (pg_tup (n := 2) rfl (pgs_cons (pg_name (i := 4) nd rfl (Or.inl rfl)) (pgs_cons (pg_name (i := 7) nd rfl (Or.inl rfl)) pgs_nil)))
      (pss_one (ps_dput (hu_of hr) (pv 0) (pv 4) (pv 7) rfl)))
      (pss_one (ps_ret pe_bl))))))), ?_⟩
    try dsimp only [L2.cxOf, L2.Cx.nox, L2.Cx.wish]
    rw [st_apply_row]
    obtain ⟨q, s0, i0⟩ := row_open hf
    obtain ⟨xs, h1, h2⟩ := i0.open
    walk_at "cg"
    refine lcT_i (as := ts) (d := tD) h1 h2 (fun z => leastOf z.2 (D z.1)) (by omega) (fun i z x H' R R' hz kk hx q1 => ?_) (fun D1 H1 hD1 eD1 k1' => ?_)
    · obtain ⟨px, rfl, hs⟩ := term_at hx
      have hzk := hk z (List.mem_of_getElem? hz)
      walk_at "cg"
      refine r_getDom (hD.kp0 kk).at hzk fun b hb => ?_
      walk_at "cg"
      refine ⟨z.2, b, _, rfl, hb, ok z.1 hzk, ?_⟩
      exact q1 _ .refl
    walk_at "cg"
    refine r_sum (ns := ts.map fun z => leastOf z.2 (D z.1)) eD1 ?_
    have el : (ts.map fun z => leastOf z.2 (D z.1)).sum = leastR D ts := rfl
    rw [el]
    have s1 := k1'.tup s0
    have hD1' := hD.kp0 k1'
    have h11 := k1'.tup h1
    have h21 := k1'.imAll h2
    walk_at "cg"
    refine if_S (fun g => ?_) (fun g => ?_)
    · walk_at "cg"
      exact k0 _ (by unfold applyR; rw [if_pos (by omega)]) k1'
    have ea : applyR D ts n = some (putAll D (ts.map fun z => (z.1, cutR D (leastR D ts) n z))) := by unfold applyR; rw [if_neg (by omega)]
    walk_at "cg"
    rename_i c H2 hc ec k2
    have K2 : Kp [] H H2 := Kp.tr0 k2 k1'
    have bs : Kp [c] H2 H2 := Kp.base fun b hb => by rw [List.mem_singleton] at hb; rw [hb, ec]; trivial
    have fc : H c = none := k1'.free0 hc
    refine r_forTI [c] (k2.tup h11) (k2.imAll h21) (fun i σ' H' => ∃ (refs : List V) (x4 x5 x6 x7 x8 : Option V), σ' = [some (.ref d), some (.ref p), some (.int (leastR D ts)), some (.ref c), x4, x5, x6, x7, x8] ∧ H' c = some (.lst refs) ∧ CutF K c S H' refs ((ts.take i).map fun z => (z.1, cutR D (leastR D ts) n z)) ∧ Kp [c] H2 H') ⟨[], _, _, _, _, _, rfl, ec, ⟨rfl, fun i z hz => (by simp at hz)⟩, bs⟩ (fun i σ' H' ⟨_, _, _, _, _, _, _, _, _, h⟩ => h) ?_ ?_
    · rintro i z x σ' H3 hz hx kk ⟨refs, x4, x5, x6, x7, x8, rfl, ec3, C3, -⟩
      obtain ⟨px, rfl, hs⟩ := term_at hx
      have hzk := hk z (List.mem_of_getElem? hz)
      have K3 : Kp [] H H3 := Kp.trN kk K2 fc
      have D3 := hD.kp0 K3
      have s3 := K3.tup s0
      have dz := ok z.1 hzk
      have hi : i < ts.length := (List.getElem?_eq_some_iff.mp hz).1
      walk_at "cg"
      refine r_getDom D3.at hzk fun b hb => ?_
      walk_at "cg"
      refine ⟨z.2, b, _, rfl, hb, dz, ?_⟩
      walk_at "cg"
      refine r_getDom D3.at hzk fun b hb => ?_
      walk_at "cg"
      refine lcL_fi (K := K) hb (fun a => decide (z.2 * a + (leastR D ts - leastOf z.2 (D z.1)) ≤ n)) dz.small (fun j a H4 R R' ha k4 q1 q2 => ?_) (fun b4 H4 hb4 eb4 k4 => ?_)
      · have ba := dz.bd a (List.mem_of_getElem? ha)
        have cm : CMul z.2 a := .inr ⟨by omega, by omega⟩
        have s4 := k4.tup s3
        walk_at "cg"
        refine if_S (fun g => ?_) (fun g => ?_)
        · walk_at "cg"
          exact q1 _ (decide_eq_true g) .refl
        · walk_at "cg"
          exact q2 _ (decide_eq_false g) .refl
      have eb4' : H4 b4 = some (.lst ((cutR D (leastR D ts) n z).map V.int)) := eb4
      have nbc : b4 ≠ c := ne_newR hb4 ec3
      have lrefs : refs.length ≤ 60 := by have := C3.len; simp at this; omega
      have ec4 := k4.get0 ec3
      walk_at "cg"
      rename_i p5 H5 hp5 s5 k5 H6 e6 k6
      refine ⟨_, _, _, _, _, _, rfl, e6, ?_, Kp.tr1 k6 (Kp.tr0 k5 (Kp.tr0 k4 kk))⟩
      rw [map_take_snoc hz]
      refine CutF.snoc (pt := p5) (pl := b4) (((C3.kp k4 (fun _ _ _ _ z => nomatch z)).kp k5 (fun _ _ _ _ z => nomatch z)).kp k6 (fun pl _ _ n z => n.1 (by simpa using z))) (k6.tup s5) (k6.get1 nbc (k5.get0 eb4')) ⟨nbc, al.no (K3.free0 hb4)⟩
    · rintro σ' H3 kk ⟨refs, x4, x5, x6, x7, x8, rfl, ec3, C3, -⟩
      rw [List.take_length] at C3
      have K3 : Kp [] H H3 := Kp.trN kk K2 fc
      have D3 := hD.kp0 K3
      have ncd : c ≠ d := by
        obtain ⟨f, e⟩ := D3.isD
        intro z
        rw [z, e] at ec3
        cases ec3
      generalize hzs : ts.map (fun z => (z.1, cutR D (leastR D ts) n z)) = zs at C3 ea
      have hzk : ∀ z ∈ zs, z.1 ∈ ks := fun z hz => by
        rw [← hzs] at hz
        obtain ⟨y, hy, rfl⟩ := List.mem_map.mp hz
        exact hk y hy
      walk_at "cg"
      refine r_forL refs (fun i σ' H' => ∃ (x4 x5 x6 x7 x8 : Option V), σ' = [some (.ref d), some (.ref p), some (.int (leastR D ts)), some (.ref c), x4, x5, x6, x7, x8] ∧ DomF S H' d ks (putAll D (zs.take i)) ∧ Kp [d] H3 H') ⟨_, _, _, _, _, rfl, D3, D3.mut⟩ (fun i σ' H' ⟨_, _, _, _, _, _, _, kk⟩ => kk.get1 ncd ec3) ?_ ?_
      · rintro i x σ' H4 hx ⟨x4, x5, x6, x7, x8, rfl, D4, k4⟩
        have hi : i < zs.length := by rw [← C3.len]; exact (List.getElem?_eq_some_iff.mp hx).1
        obtain ⟨z, hz⟩ : ∃ z, zs[i]? = some z := ⟨_, List.getElem?_eq_getElem hi⟩
        obtain ⟨pt, pl, e1, e2, e3, e4⟩ := C3.at_ i z hz
        rw [hx] at e1
        cases e1
        have s4 := k4.tup e2
        have npd : pl ≠ d := by
          obtain ⟨f, e⟩ := D3.isD
          intro z
          rw [z, e] at e3
          cases e3
        walk_at "cg"
        refine r_putDomF D4 (hzk z (List.mem_of_getElem? hz)) (k4.get1 npd e3) e4.2 (by omega) fun H5 D5 k5 => ?_
        walk_at "cg"
        refine ⟨_, _, _, _, _, rfl, ?_, Kp.tr1 k5 k4⟩
        have et : zs.take (i + 1) = zs.take i ++ [z] := by rw [List.take_add_one, hz]; rfl
        rw [et, putAll_snoc]
        exact D5
      · rintro σ' H4 ⟨x4, x5, x6, x7, x8, rfl, D4, k4⟩
        rw [C3.len, List.take_length] at D4
        walk_at "cg"
        exact k1 _ _ ea D4 (Kp.tr1 k4 (Kp.tr0 K3 hD.mut))

end
/-! ### the law's own remaining values -/
structure LDom (H : Hp) (L : Addr) (n : Nat) (D : Dm) : Prop where
  ex : ∃ f : Int → Addr, H L = some (.lst ((upTo n).map fun v => .ref (f v))) ∧ ∀ v : Int, 0 ≤ v → v < n → H (f v) = some (.lst ((D v).map V.int)) ∧ f v ≠ L
section
variable {K : PySem.W.Frag} {H H' : Hp} {L p : Addr} {n : Nat} {D : Dm} {v : Int} {xs : List Int} {Q : VK}
theorem LDom.kp0 (k : Kp [] H H') (h : LDom H L n D) : LDom H' L n D := by
  obtain ⟨f, e, a⟩ := h.ex
  exact ⟨f, k.get0 e, fun v h0 h1 => ⟨k.get0 (a v h0 h1).1, (a v h0 h1).2⟩⟩
theorem LDom.mut (h : LDom H L n D) : Kp [L] H H := Kp.base fun b hb => by
  obtain ⟨f, e, _⟩ := h.ex
  rw [List.mem_singleton] at hb
  rw [hb, e]
  trivial
theorem r_getLD (h : LDom H L n D) (h0 : 0 ≤ v) (h1 : v < n) (q : ∀ p, H p = some (.lst ((D v).map V.int)) → Q (.ref p) H) : rIxL K (.ref L) (.int v) H Q := by
  obtain ⟨f, e, a⟩ := h.ex
  exact r_ixL e (atI_upTo h0 h1) (q _ (a v h0 h1).1)
theorem r_setLD {R : Hp → Prop} (h : LDom H L n D) (h0 : 0 ≤ v) (h1 : v < n) (hp : H p = some (.lst (xs.map V.int))) (np : p ≠ L) (q : ∀ H2, LDom H2 L n (updD D v xs) → Kp [L] H H2 → R H2) : L2.rSetL (.ref L) (.int v) (.ref p) H R := by
  obtain ⟨f, e, a⟩ := h.ex
  refine r_setL (m := v.toNat) e (ixN_ok h0 (by rw [upTo_len]; exact h1)) fun H2 e2 k2 => q H2 ⟨fun u => if u = v then p else f u, ?_, fun u u0 u1 => ?_⟩ k2
  · rw [e2, set_upTo h0 h1]
    congr 2
    refine List.map_congr_left fun u _ => ?_
    show (if u = v then V.ref p else V.ref (f u)) = V.ref (if u = v then p else f u)
    split <;> rfl
  · unfold updD
    simp only
    split
    · exact ⟨k2.get1 np hp, np⟩
    · exact ⟨k2.get1 (a u u0 u1).2 (a u u0 u1).1, (a u u0 u1).2⟩
end
theorem least_min {c m : Int} {xs : List Int} (h : Dom1 xs) (h1 : m ∈ xs.map fun a => c * a) (h2 : ∀ y ∈ xs.map (fun a => c * a), m ≤ y) : m = leastOf c xs := by
  obtain ⟨a, ha, e⟩ := List.mem_map.mp h1
  obtain ⟨b, hb, e2⟩ := least_mem (c := c) h.ne
  have h3 := h2 (c * b) (List.mem_map.mpr ⟨b, hb, rfl⟩)
  have h4 := least_le (c := c) h.asc ha
  omega
theorem r_min {K : PySem.W.Frag} {H : Hp} {Q : VK} {p : Addr} {xs : List Int} {c : Int} (h : H p = some (.lst ((xs.map fun a => c * a).map V.int))) (d : Dom1 xs) (q : Q (.int (leastOf c xs)) H) : rMin K [.ref p] H Q :=
  ⟨p, _, rfl, SqL.of h, by rw [List.length_map]; exact List.length_pos_iff.mpr d.ne, fun m hm hle => by rw [least_min d hm hle]; exact q⟩

structure LDomF (S : List Addr) (H : Hp) (L : Addr) (n : Nat) (D : Dm) : Prop where
  ex : ∃ f : Int → Addr, H L = some (.lst ((upTo n).map fun v => .ref (f v))) ∧ ∀ v : Int, 0 ≤ v → v < n → H (f v) = some (.lst ((D v).map V.int)) ∧ f v ≠ L ∧ f v ∉ S
section
variable {K : PySem.W.Frag} {S : List Addr} {H H' : Hp} {L p : Addr} {n : Nat} {D : Dm} {v : Int} {xs : List Int} {Q : VK}
theorem LDomF.at (h : LDomF S H L n D) : LDom H L n D := by
  obtain ⟨f, e, a⟩ := h.ex
  exact ⟨f, e, fun v h0 h1 => ⟨(a v h0 h1).1, (a v h0 h1).2.1⟩⟩
theorem LDomF.kp0 (k : Kp [] H H') (h : LDomF S H L n D) : LDomF S H' L n D := by
  obtain ⟨f, e, a⟩ := h.ex
  exact ⟨f, k.get0 e, fun v h0 h1 => ⟨k.get0 (a v h0 h1).1, (a v h0 h1).2⟩⟩
theorem LDomF.kpS {T : List Addr} (k : Kp T H H') (h : LDomF S H L n D) (hL : L ∉ T) (hT : ∀ x ∈ T, x ∈ S) : LDomF S H' L n D := by
  obtain ⟨f, e, a⟩ := h.ex
  exact ⟨f, k.get hL e, fun v h0 h1 => ⟨k.get (fun m => (a v h0 h1).2.2 (hT _ m)) (a v h0 h1).1, (a v h0 h1).2⟩⟩
theorem LDomF.kpD {d : Addr} {kvs : List (Key × V)} (k : Kp [d] H H') (h : LDomF S H L n D) (hd : H d = some (.dK kvs)) : LDomF S H' L n D := by
  obtain ⟨f, e, a⟩ := h.ex
  exact ⟨f, k.get1 (fun z => by rw [z, hd] at e; cases e) e, fun v h0 h1 => ⟨k.get1 (fun z => by have := (a v h0 h1).1; rw [z, hd] at this; cases this) (a v h0 h1).1, (a v h0 h1).2⟩⟩
theorem LDomF.mut (h : LDomF S H L n D) : Kp [L] H H := h.at.mut
theorem r_setLDF {R : Hp → Prop} (h : LDomF S H L n D) (h0 : 0 ≤ v) (h1 : v < n) (hp : H p = some (.lst (xs.map V.int))) (np : p ≠ L) (nS : p ∉ S) (q : ∀ H2, LDomF S H2 L n (updD D v xs) → Kp [L] H H2 → R H2) : L2.rSetL (.ref L) (.int v) (.ref p) H R := by
  obtain ⟨f, e, a⟩ := h.ex
  refine r_setL (m := v.toNat) e (ixN_ok h0 (by rw [upTo_len]; exact h1)) fun H2 e2 k2 => q H2 ⟨fun u => if u = v then p else f u, ?_, fun u u0 u1 => ?_⟩ k2
  · rw [e2, set_upTo h0 h1]
    congr 2
    refine List.map_congr_left fun u _ => ?_
    show (if u = v then V.ref p else V.ref (f u)) = V.ref (if u = v then p else f u)
    split <;> rfl
  · unfold updD
    simp only
    split
    · exact ⟨k2.get1 np hp, np, nS⟩
    · exact ⟨k2.get1 (a u u0 u1).2.1 (a u u0 u1).1, (a u u0 u1).2⟩
end
section
variable {σ σ0 : St} {H : Hp} {K : PySem.W.Frag} {p : Addr} {xs : List V} {g : TG} {tt : TT} {te : TE} {vs : List Nat} {Q : VK} {S : List Addr}
/-- a comprehension that makes a list of ints for each item of a list -/
theorem lcL_D [hw : Wip σ vs σ0] (s : H p = some (.lst xs)) (al : Alc S H) (D : Dm) (m : Nat) (hm : xs.length = m) (m60 : m ≤ 60)
    (hs : ∀ (i : Nat) (x : V) (H' : Hp) (R : V → Hp → Prop) (R' : Hp → Prop), i < m → xs[i]? = some x → Kp [] H H' → (∀ l2 H4, H' l2 = none → H4 l2 = some (.lst ((D (i : Int)).map V.int)) → Kp [] H' H4 → R (.ref l2) H4) → lcTurn g tt te vs σ σ0 x H' R R')
    (hd : ∀ c H', H c = none → LDomF S H' c m D → Kp [] H H' → Q (.ref c) H') : lcS (Itl K p) g tt te vs σ H Q := by
  refine r_lcL xs (fun c i H' => ∃ f : Int → Addr, H c = none ∧ Kp [] H H' ∧ H' c = some (.lst ((upTo i).map fun v => .ref (f v))) ∧ ∀ v : Int, 0 ≤ v → v < (i : Int) → H' (f v) = some (.lst ((D v).map V.int)) ∧ f v ≠ c ∧ f v ∉ S) (fun c H2 hc ec k2 => ⟨fun _ => c, hc, k2, ec, fun v h0 h1 => by omega⟩) (fun c i H' ⟨f, hc, kk, _⟩ => kk.get0 s) ?_ ?_
  · rintro c i x H' hx ⟨f, hc, kk, ec, af⟩
    have hi : i < m := by have := (List.getElem?_eq_some_iff.mp hx).1; omega
    refine hs i x H' _ _ hi hx kk fun l2 H2 hl2 el2 k2 => ?_
    refine r_ap (k2.get0 ec) (small1000 (by simp [upTo]; omega)) fun H3 e3 k3 => ?_
    refine ⟨fun v => if v = (i : Int) then l2 else f v, hc, Kp.trN k3 (Kp.tr0 k2 kk) hc, ?_, fun v h0 h1 => ?_⟩
    · rw [e3]
      have e5 : upTo (i + 1) = upTo i ++ [(i : Int)] := by
        unfold upTo
        rw [List.range_succ, List.map_append]
        rfl
      rw [e5, List.map_append]
      congr 3
      · refine List.map_congr_left fun v hv => ?_
        show V.ref (f v) = V.ref (if v = (i : Int) then l2 else f v)
        rw [if_neg (by have := mem_upTo.mp hv; omega)]
      · simp
    · have n2 : l2 ≠ c := ne_newR hl2 ec
      by_cases e : v = (i : Int)
      · simp only [if_pos e]
        rw [e]
        exact ⟨k3.get1 n2 el2, n2, al.no (kk.free0 hl2)⟩
      · simp only [if_neg e]
        have a := af v h0 (by omega)
        exact ⟨k3.get1 a.2.1 (k2.get0 a.1), a.2⟩
  · rintro c H' ⟨f, hc, kk, ec, af⟩
    rw [hm] at ec af
    exact hd c H' hc ⟨f, ec, af⟩ kk
/-- a truth value for each item of a list of anything -/
theorem lcL_x [hw : Wip σ vs σ0] (s : H p = some (.lst xs)) (f : Nat → Bool) (small : xs.length ≤ 10000)
    (hs : ∀ (i : Nat) (x : V) (H' : Hp) (R : V → Hp → Prop) (R' : Hp → Prop), xs[i]? = some x → Kp [] H H' → (∀ H4, Kp [] H' H4 → R (.bl (f i)) H4) → lcTurn g tt te vs σ σ0 x H' R R')
    (hd : ∀ D H', H D = none → H' D = some (.lst (((List.range xs.length).map f).map V.bl)) → Kp [] H H' → Q (.ref D) H') : lcS (Itl K p) g tt te vs σ H Q := by
  refine r_lcL xs (fun c i H' => H c = none ∧ Kp [] H H' ∧ H' c = some (.lst (((List.range i).map f).map V.bl))) (fun c H2 hc ec k2 => ⟨hc, k2, ec⟩) (fun c i H' ⟨hc, kk, _⟩ => kk.get0 s) ?_ ?_
  · rintro c i x H' hx ⟨hc, kk, ec⟩
    have hi := (List.getElem?_eq_some_iff.mp hx).1
    refine hs i x H' _ _ hx kk fun H2 k2 => ?_
    refine r_ap (k2.get0 ec) (small1e4 (by simp; omega)) fun H3 e3 k3 => ⟨hc, Kp.trN k3 (Kp.tr0 k2 kk) hc, ?_⟩
    rw [e3, List.range_succ, List.map_append, List.map_append]
    rfl
  · rintro c H' ⟨hc, kk, ec⟩
    exact hd c H' hc ec kk
theorem LDom.open {L : Addr} {m : Nat} {D : Dm} (h : LDom H L m D) : ∃ xs, H L = some (.lst xs) ∧ xs.length = m ∧ ∀ (i : Nat) x, xs[i]? = some x → ∃ b, x = .ref b ∧ H b = some (.lst ((D (i : Int)).map V.int)) := by
  obtain ⟨f, e, a⟩ := h.ex
  refine ⟨_, e, by simp [upTo], fun i x hx => ?_⟩
  have hi : i < m := by have := (List.getElem?_eq_some_iff.mp hx).1; simpa [upTo] using this
  have ex : ((upTo m).map fun v => V.ref (f v))[i]? = some (.ref (f i)) := by
    unfold upTo
    rw [List.getElem?_map, List.getElem?_map, List.getElem?_range hi]
    rfl
  rw [ex] at hx
  cases hx
  exact ⟨_, rfl, (a i (by omega) (by omega)).1⟩
end

/-! ### k72: the remaining values -/
def applyF (D : Dm) : Fact → Option Dm
  | .row ts n => applyR D ts n
  | .any ls => match liveL D ls with
    | [] => none
    | [l] => some (keepL D l)
    | _ :: _ :: _ => some D
theorem applyF0 {D : Dm} {ls : List Lit} (h : liveL D ls = []) : applyF D (.any ls) = none := by
  show (match liveL D ls with | [] => none | [l] => some (keepL D l) | _ :: _ :: _ => some D) = none
  rw [h]
theorem applyF1 {D : Dm} {ls : List Lit} {l : Lit} (h : liveL D ls = [l]) : applyF D (.any ls) = some (keepL D l) := by
  show (match liveL D ls with | [] => none | [l] => some (keepL D l) | _ :: _ :: _ => some D) = _
  rw [h]
theorem applyF2 {D : Dm} {ls : List Lit} {l m : Lit} {lr : List Lit} (h : liveL D ls = l :: m :: lr) : applyF D (.any ls) = some D := by
  show (match liveL D ls with | [] => none | [l] => some (keepL D l) | _ :: _ :: _ => some D) = _
  rw [h]
theorem updD_other {D : Dm} {v u : Int} {xs : List Int} (h : u ≠ v) : updD D v xs u = D u := by unfold updD; rw [if_neg h]
theorem putAll_other : ∀ (zs : List (Int × List Int)) {D : Dm} {u : Int}, (∀ z ∈ zs, z.1 ≠ u) → putAll D zs u = D u
  | [], _, _, _ => rfl
  | z :: zs, D, u, h => by
    show putAll (updD D z.1 z.2) zs u = D u
    rw [putAll_other zs fun y hy => h y (List.mem_cons_of_mem _ hy), updD_other (h z List.mem_cons_self).symm]
theorem live_sub {D : Dm} {ls : List Lit} {l : Lit} (h : l ∈ liveL D ls) : l ∈ ls ∧ ∃ a ∈ D l.v, l.r.h a l.a = true := by
  unfold liveL at h
  rw [List.mem_filter, List.any_eq_true] at h
  exact h
theorem applyF_ok {ks : List Int} {D D' : Dm} {f : Fact} (ok : DomOk ks D) (hk : ∀ v ∈ f.vars, v ∈ ks) (h : applyF D f = some D') : DomOk ks D' := by
  cases f with
  | row ts n => exact applyR_ok ok (fun z hz => hk z.1 (List.mem_map.mpr ⟨z, hz, rfl⟩)) h
  | any ls =>
    cases e : liveL D ls with
    | nil => rw [applyF0 e] at h; cases h
    | cons l lr =>
      cases lr with
      | nil =>
        rw [applyF1 e] at h
        cases h
        obtain ⟨hl, a, ha, hh⟩ := live_sub (D := D) (ls := ls) (l := l) (by rw [e]; exact List.mem_cons_self)
        refine ok.upd ((ok l.v (hk _ (List.mem_map.mpr ⟨l, hl, rfl⟩))).filter fun z => ?_)
        have : a ∈ (D l.v).filter fun a => l.r.h a l.a := List.mem_filter.mpr ⟨ha, hh⟩
        rw [z] at this
        cases this
      | cons m lr =>
        rw [applyF2 e] at h
        cases h
        exact ok
theorem applyF_other {D D' : Dm} {f : Fact} (h : applyF D f = some D') {u : Int} (hu : u ∉ f.vars) : D' u = D u := by
  cases f with
  | row ts n =>
    have h : applyR D ts n = some D' := h
    unfold applyR at h
    split at h
    · cases h
    · cases h
      refine putAll_other _ fun z hz e => hu ?_
      obtain ⟨y, hy, rfl⟩ := List.mem_map.mp hz
      exact List.mem_map.mpr ⟨y, hy, e⟩
  | any ls =>
    cases e : liveL D ls with
    | nil => rw [applyF0 e] at h; cases h
    | cons l lr =>
      cases lr with
      | nil =>
        rw [applyF1 e] at h
        cases h
        obtain ⟨hl, _⟩ := live_sub (D := D) (ls := ls) (l := l) (by rw [e]; exact List.mem_cons_self)
        exact updD_other fun z => hu (List.mem_map.mpr ⟨l, hl, z.symm⟩)
      | cons m lr =>
        rw [applyF2 e] at h
        cases h
        rfl
/-- the unknowns that lost values -/
def lostL (m : Nat) (D D' : Dm) : List Int := (upTo m).filter fun v => decide ((D' v).length < (D v).length)
theorem lost_of {m : Nat} {D D' : Dm} {f : Fact} {us : List Int} (h : applyF D f = some D') (asc : us.Pairwise (· < ·)) (hu : ∀ k, k ∈ us ↔ k ∈ f.vars) (hk : ∀ v ∈ f.vars, v ∈ upTo m) : (us.filter fun v => decide ((D' v).length < (D v).length)) = lostL m D D' := by
  refine asc_ext (asc.filter _) ((upTo_asc _).filter _) fun k => ?_
  unfold lostL
  rw [List.mem_filter, List.mem_filter, hu]
  constructor
  · exact fun h1 => ⟨hk k h1.1, h1.2⟩
  · intro h1
    refine ⟨?_, h1.2⟩
    by_cases g : k ∈ f.vars
    · exact g
    · have := h1.2
      rw [applyF_other h g, decide_eq_true_eq] at this
      omega
theorem rgI_up (n : Nat) : rgI 0 (n : Int) = upTo n := by
  unfold rgI upTo
  rw [show ((n : Int) - 0).toNat = n by omega]
  exact List.map_congr_left fun i _ => by omega
theorem Fact.ok_few {m : Int} {f : Fact} (h : f.ok m) : f.vars.length ≤ 60 := by
  cases f with
  | row ts n => simpa [Fact.vars] using h.2.1
  | any ls => simpa [Fact.vars] using h.2
theorem set_same {α : Type} {xs : List α} {i : Nat} {x : α} (h : xs[i]? = some x) : xs.set i x = xs := by
  refine List.ext_getElem? fun j => ?_
  rw [List.getElem?_set]
  split
  · rename_i e
    subst e
    split
    · exact h.symm
    · rename_i q
      exact absurd (List.getElem?_eq_some_iff.mp h).1 q
  · rfl
/-- how it stands -/
structure RemAt (K : PySem.W.Frag) (C : Addr) (H : Hp) (p d : Addr) (m : Nat) : Prop where
  ob : ∃ dx fs, H p = some (.ins C dx fs) ∧ fs.lookup (Str.ofString "_many") = some (.int m) ∧ fs.lookup (Str.ofString "_domains") = some (.ref d) ∧ fs.lookup (Str.ofString "left") = none ∧ fs.lookup (Str.ofString "fix") = none ∧ fs.lookup (Str.ofString "single") = none ∧ fs.lookup (Str.ofString "apply") = none
theorem RemAt.kp {K : PySem.W.Frag} {C : Addr} {H H' : Hp} {S : List Addr} {p d : Addr} {m : Nat} (k : Kp S H H') (hp : p ∉ S) (h : RemAt K C H p d m) : RemAt K C H' p d m := by
  obtain ⟨dx, fs, h1, h2⟩ := h.ob
  exact ⟨dx, fs, k.get hp h1, h2⟩
theorem RemAt.kp0 {K : PySem.W.Frag} {C : Addr} {H H' : Hp} {p d : Addr} {m : Nat} (k : Kp [] H H') (h : RemAt K C H p d m) : RemAt K C H' p d m := h.kp k (fun z => nomatch z)
theorem MdlAt.ne_ins {K : PySem.W.Frag} {C C2 : Addr} {H : Hp} {a : MA} {M : Mdl} {p dx : Addr} (h : MdlAt K C H a M) (hp : H p = some (.ins C2 dx [])) : ∀ x ∈ a.all, x ≠ p := fun x hx => by
  obtain ⟨dx', fs, g, h1, h2, _⟩ := h.ob
  obtain ⟨kvs, h4, _⟩ := h.bo
  simp only [MA.all, List.mem_cons, List.not_mem_nil, or_false] at hx
  intro e
  subst e
  rcases hx with rfl | rfl | rfl | rfl | rfl
  · rw [h1] at hp
    cases hp
    have := h2.nm
    cases this
  · rw [h.nm] at hp; cases hp
  · rw [h.lo] at hp; cases hp
  · rw [h.hi] at hp; cases hp
  · rw [h4] at hp; cases hp
theorem DomAt.kpI {H H' : Hp} {d p C dx : Addr} {fs : List (Str × V)} {ks : List Int} {D : Dm} (h : DomAt H d ks D) (hp : H p = some (.ins C dx fs)) (k : Kp [p] H H') : DomAt H' d ks D := by
  obtain ⟨f, e, a⟩ := h.ex
  exact ⟨f, k.get1 (fun z => by rw [z, hp] at e; cases e) e, fun v hv => k.get1 (fun z => by have := a v hv; rw [z, hp] at this; cases this) (a v hv)⟩
theorem DomF.kpI {S : List Addr} {H H' : Hp} {d p C dx : Addr} {fs : List (Str × V)} {ks : List Int} {D : Dm} (h : DomF S H d ks D) (hp : H p = some (.ins C dx fs)) (k : Kp [p] H H') : DomF S H' d ks D := by
  obtain ⟨f, e, a⟩ := h.ex
  exact ⟨f, k.get1 (fun z => by rw [z, hp] at e; cases e) e, fun v hv => ⟨k.get1 (fun z => by have := (a v hv).1; rw [z, hp] at this; cases this) (a v hv).1, (a v hv).2⟩⟩
def spRInit (K : PySem.W.Frag) (C C2 : Addr) : Sp := fun vs H Q _ => ∃ (p dx : Addr) (a : MA) (M : Mdl) (S : List Addr), vs = [.ref p, .ref a.p] ∧ Alc S H ∧ H p = some (.ins C2 dx []) ∧ MdlAt K C H a M ∧ M.us.length ≤ 60 ∧ usOk M.us ∧ ∀ (d : Addr) H', H d = none → RemAt K C2 H' p d M.us.length → DomF S H' d (upTo M.us.length) (fullD M.us) → Kp [p] H H' → Q .non H'
def spLeft (K : PySem.W.Frag) (C2 : Addr) : Sp := fun vs H Q _ => ∃ (p d : Addr) (m : Nat) (D : Dm) (v : Int), vs = [.ref p, .int v] ∧ RemAt K C2 H p d m ∧ DomAt H d (upTo m) D ∧ v ∈ upTo m ∧ ∀ (l : Addr) H', H l = none → H' l = some (.lst ((D v).map V.int)) → Kp [] H H' → Q (.ref l) H'
def spFix (K : PySem.W.Frag) (C2 : Addr) : Sp := fun vs H Q _ => ∃ (p d : Addr) (m : Nat) (D : Dm) (v a : Int) (S : List Addr), vs = [.ref p, .int v, .int a] ∧ Alc S H ∧ RemAt K C2 H p d m ∧ m ≤ 60 ∧ DomF S H d (upTo m) D ∧ v ∈ upTo m ∧ ∀ H', DomF S H' d (upTo m) (updD D v [a]) → Kp [d] H H' → Q .non H'
def oneB (m : Nat) (D : Dm) : Bool := (upTo m).all fun v => decide ((D v).length = 1)
def spSingle (K : PySem.W.Frag) (C2 : Addr) : Sp := fun vs H Q _ => ∃ (p d : Addr) (m : Nat) (D : Dm), vs = [.ref p] ∧ RemAt K C2 H p d m ∧ m ≤ 60 ∧ DomAt H d (upTo m) D ∧ DomOk (upTo m) D ∧ ∀ H', Kp [] H H' → Q (.bl (oneB m D)) H'
def spRApply (K : PySem.W.Frag) (C2 : Addr) : Sp := fun vs H Q _ => ∃ (p d q : Addr) (m : Nat) (D : Dm) (f : Fact) (S : List Addr), vs = [.ref p, .ref q] ∧ Alc S H ∧ RemAt K C2 H p d m ∧ m ≤ 60 ∧ DomF S H d (upTo m) D ∧ DomOk (upTo m) D ∧ FactAt K H q f ∧ f.ok m ∧ (∀ H', applyF D f = none → Kp [] H H' → Q .non H') ∧
  ∀ (D' : Dm) (l : Addr) H', applyF D f = some D' → DomF S H' d (upTo m) D' → H l = none → H' l = some (.lst ((lostL m D D').map V.int)) → Kp [d] H H' → Q (.ref l) H'
def spLApply (K : PySem.W.Frag) : Sp := fun vs H Q _ => ∃ (L q : Addr) (m : Nat) (D : Dm) (f : Fact) (S : List Addr), vs = [.ref L, .ref q] ∧ Alc S H ∧ LDom H L m D ∧ m ≤ 60 ∧ DomOk (upTo m) D ∧ FactAt K H q f ∧ f.ok m ∧ (∀ H', applyF D f = none → Kp [] H H' → Q .non H') ∧
  ∀ (D' : Dm) (L' : Addr) H', applyF D f = some D' → H L' = none → LDomF S H' L' m D' → Kp [] H H' → Q (.ref L') H'
def spLost (K : PySem.W.Frag) : Sp := fun vs H Q _ => ∃ (L L' : Addr) (m : Nat) (D D' : Dm), vs = [.ref L, .ref L'] ∧ LDom H L m D ∧ LDom H L' m D' ∧ m ≤ 60 ∧ ∀ (l : Addr) H', H l = none → H' l = some (.lst ((lostL m D D').map V.int)) → Kp [] H H' → Q (.ref l) H'
def spAgrees (K : PySem.W.Frag) (C2 : Addr) : Sp := fun vs H Q _ => ∃ (p d L : Addr) (m : Nat) (D : Dm), vs = [.ref p, .ref L] ∧ RemAt K C2 H p d m ∧ m ≤ 60 ∧ DomAt H d (upTo m) D ∧ DomOk (upTo m) D ∧ LDom H L m D ∧ ∀ H', Kp [] H H' → Q (.bl true) H'
def spMove (K : PySem.W.Frag) (C : Addr) : Sp := fun vs H Q _ => ∃ (a : MA) (M : Mdl) (v lo hi : Int), vs = [.ref a.p, .int v, .int lo, .int hi] ∧ MdlAt K C H a M ∧ M.us.length ≤ 60 ∧ 0 ≤ v ∧ v < M.us.length ∧ -1000 ≤ lo ∧ lo ≤ hi ∧ hi ≤ 1000 ∧ ∀ H' (us : List Un), us.length = M.us.length → MdlAt K C H' a ⟨us, M.bs, M.g⟩ → Kp [a.l, a.h] H H' → Q .non H'
def spLaw (K : PySem.W.Frag) : Sp := fun vs H Q _ => ∃ (a : Addr) (ns : List Int), vs = [.ref a] ∧ SqL K H a (ns.map V.int) ∧ ns.length ≤ 63 ∧ ∀ H', Q (.bl true) H'
theorem pe_fldK {X : Cx} {e : Expr} {f : Str} {pos : Pos} {ta : TE} (K : PySem.W.Frag) (he : PE X e ta) (hb : attributeBase e f X.env (eval e X.env) = eval e X.env) (h : X.K = K := by rfl) : PE X (.Attribute e f pos) (tFld K ta f) := h ▸ pe_fld he hb
theorem cgMin {X : Cx} (K : PySem.W.Frag) (hc : X.calm = true) (h : X.K = K := by rfl) : CallR X (.builtin "min") (rMin K) := h ▸ cr_min hc
def methR (s : Str) : Bool := decide (s = Str.ofString "left") || (decide (s = Str.ofString "fix") || (decide (s = Str.ofString "single") || decide (s = Str.ofString "apply")))
theorem r_mtR {K : PySem.W.Frag} {C : Addr} {H : Hp} {p d : Addr} {m : Nat} {s : Str} {R : Prop} (h : RemAt K C H p d m) (hs : methR s = true) (q : R) : mtS C s (.ref p) H R := by
  obtain ⟨dx, fs, h1, _, _, h2, h3, h4, h5⟩ := h.ob
  refine r_mt h1 ?_ q
  unfold methR at hs
  rw [Bool.or_eq_true, Bool.or_eq_true, Bool.or_eq_true, decide_eq_true_eq, decide_eq_true_eq, decide_eq_true_eq, decide_eq_true_eq] at hs
  rcases hs with rfl | rfl | rfl | rfl <;> assumption
local macro_rules | `(tactic| walk_at "cg s") => `(tactic| ((with_reducible apply r_mtR); (focus (walk_at "cg h")); (focus (decide +kernel))))

section
variable {P : Program} {w : World} {K : PySem.W.Frag} {mg : Str → Option Value} {base : Heap} {C_Model C_Remaining : Addr}
theorem ok_Remaining___init__ {f : Addr} {fd : FuncData} (F : Fun K "__init__" "Remaining.__init__" s_Remaining___init__ f fd) (B : Bi K mg C_Model C_Remaining) (D_Model_many : IsM P w K mg base CX0 1 C_Model "many" ["self"] (spMany K C_Model)) (D_full_domains : Is P w K mg base CX0 3 "full_domains" ["model", "unknowns"] (spFullDF K C_Model)) : FnOk P w K mg base CX0 4 f fd ["self", "model"] (spRInit K C_Model C_Remaining) := by
  have nd := sc_Remaining___init__.nd
  obtain ⟨f_Model_many, fd_Model_many, G_Model_many, m_Model_many, b_Model_many⟩ := D_Model_many.ex
  refine F.ok sc_Remaining___init__ ?len (fun cdv A outer s H vs Q E hr h => ?body)
  case len =>
    rintro vs H Q E ⟨p, dx, a, M, S, rfl, _⟩
    rfl
  case body =>
    obtain ⟨p, dx, a, M, S, rfl, al, hp, hM, h60, ok, k⟩ := h
    refine ⟨_, (pss_cons (ps_fld (pv 0) (pe_meth0 (pv 1) D_Model_many.cl m_Model_many G_Model_many (hr.mono (by decide)) b_Model_many .nil pass0) rfl)
      (pss_one (ps_fld (pv 0) (pe_is D_full_domains (hr.mono (by decide)) rfl pass0 (pa_cons (pv 1) (pa_cons (pe_listRg rfl (by rfl) B.n_list (prg_1 (by rfl) B.n_range (pe_meth0 (pv 1) D_Model_many.cl m_Model_many G_Model_many (hr.mono (by decide)) b_Model_many .nil pass0))) pa_nil))) rfl))), ?_⟩
    try dsimp only [L2.cxOf, L2.Cx.nox, L2.Cx.wish]
    rw [st_Remaining___init__]
    have c2 := B.cl_Remaining
    have a1 := B.at_Remaining__many
    have a2 := B.at_Remaining__domains
    have hpa : ∀ x ∈ a.all, x ≠ p := hM.ne_ins hp
    walk_at "cg"
    refine ⟨a, M, rfl, hM, h60, ?_⟩
    walk_at "cg"
    rename_i H1 e1 k1
    have M1 := hM.kp1 k1 hpa
    refine ⟨a, M, rfl, M1, h60, ?_⟩
    walk_at "cg"
    refine r_lstRg (by omega) (by omega) fun l H2 hl el k2 => ?_
    rw [rgI_up] at el
    walk_at "cg"
    refine ⟨a, M, l, upTo M.us.length, S, rfl, (al.kp k1 fun b hb => by rw [List.mem_singleton] at hb; rw [hb]; exact ⟨_, e1⟩).kp0 k2, M1.kp0 k2, h60, ok, el, (upTo_asc _).imp fun h => Int.ne_of_lt h, fun v hv => mem_upTo.mp hv, fun d H3 hd D3 k3 => ?_⟩
    have K3 := Kp.tr0 k3 k2
    have hdp : d ≠ p := (ne_newL hd (k2.get0 e1)).symm
    have hd0 : H d = none := (Kp.tr0 k2 k1).free hd fun b hb => by
      rw [List.mem_singleton] at hb
      rw [hb]
      exact ⟨_, k2.get0 e1⟩
    have e3 := K3.get0 e1
    walk_at "cg"
    refine r_setF e3 c2 a2 (by simp [putF]) fun H4 e4 k4 => ?_
    refine k d H4 hd0 ⟨dx, _, e4, by rw [lookup_putF, if_neg (by decide +kernel), lookup_putF, if_pos rfl], by rw [lookup_putF, if_pos rfl], ?_, ?_, ?_, ?_⟩ (D3.kpI e3 k4) (Kp.tr1 k4 (Kp.tr0 K3 k1))
    all_goals rw [lookup_putF, if_neg (by decide +kernel), lookup_putF, if_neg (by decide +kernel)]; rfl
theorem ok_Remaining_left {f : Addr} {fd : FuncData} (F : Fun K "left" "Remaining.left" s_Remaining_left f fd) (B : Bi K mg C_Model C_Remaining)  : FnOk P w K mg base CX0 1 f fd ["self", "v"] (spLeft K C_Remaining) := by
  have nd := sc_Remaining_left.nd
  refine F.ok sc_Remaining_left ?len (fun cdv A outer s H vs Q E hr h => ?body)
  case len =>
    rintro vs H Q E ⟨p, d, m, D, v, rfl, _⟩
    rfl
  case body =>
    obtain ⟨p, d, m, D, v, rfl, hR, hD, hv, k⟩ := h
    refine ⟨_, (pss_one (ps_ret (pe_callTy (cgList K) (by rfl) B.n_list (by decide +kernel) (pa_cons (pe_ix ix_dK (pe_fld (pv 0) rfl) (pv 1) (fun _ _ => rfl)) pa_nil)))), ?_⟩
    try dsimp only [L2.cxOf, L2.Cx.nox, L2.Cx.wish]
    rw [st_Remaining_left]
    have c2 := B.cl_Remaining
    have a2 := B.at_Remaining__domains
    obtain ⟨dx, fs, h1, f1, f2, _⟩ := hR.ob
    walk_at "cg"
    refine r_getDom hD hv fun b hb => ?_
    walk_at "cg"
    refine r_listL (SqL.of hb) fun l H1 hl el k1 => ?_
    exact k l H1 hl el k1
theorem ok_Remaining_fix {f : Addr} {fd : FuncData} (F : Fun K "fix" "Remaining.fix" s_Remaining_fix f fd) (B : Bi K mg C_Model C_Remaining)  : FnOk P w K mg base CX0 1 f fd ["self", "v", "a"] (spFix K C_Remaining) := by
  have nd := sc_Remaining_fix.nd
  refine F.ok sc_Remaining_fix ?len (fun cdv A outer s H vs Q E hr h => ?body)
  case len =>
    rintro vs H Q E ⟨p, d, m, D, v, a, S, rfl, _⟩
    rfl
  case body =>
    obtain ⟨p, d, m, D, v, a, S, rfl, al, hR, h60, hD, hv, k⟩ := h
    refine ⟨_, (pss_one (ps_dput (hu_of hr) (pe_fld (pv 0) rfl) (pv 1) (pe_lst (pa_cons (pv 2) pa_nil)) rfl)), ?_⟩
    try dsimp only [L2.cxOf, L2.Cx.nox, L2.Cx.wish]
    rw [st_Remaining_fix]
    have c2 := B.cl_Remaining
    have a2 := B.at_Remaining__domains
    obtain ⟨dx, fs, h1, f1, f2, _⟩ := hR.ob
    have lm : (upTo m).length ≤ 60 := by simp [upTo]; omega
    walk_at "cg"
    rename_i l H1 hl e1 k1
    refine r_putDomF (hD.kp0 k1) hv (xs := [a]) e1 (al.no hl) (by omega) fun H2 D2 k2 => ?_
    walk_at "cg"
    exact k H2 D2 (Kp.tr1 k2 (Kp.tr0 k1 hD.mut))
theorem ok_Remaining_single {f : Addr} {fd : FuncData} (F : Fun K "single" "Remaining.single" s_Remaining_single f fd) (B : Bi K mg C_Model C_Remaining)  : FnOk P w K mg base CX0 1 f fd ["self"] (spSingle K C_Remaining) := by
  have nd := sc_Remaining_single.nd
  refine F.ok sc_Remaining_single ?len (fun cdv A outer s H vs Q E hr h => ?body)
  case len =>
    rintro vs H Q E ⟨p, d, m, D, rfl, _⟩
    rfl
  case body =>
    obtain ⟨p, d, m, D, rfl, hR, h60, hD, ok, k⟩ := h
    refine ⟨_, (pss_one (ps_ret (pe_callB (cgAll K rfl) (by rfl) B.n_all (by decide +kernel) (pa_cons (by exact pe_lc (own := [("v", 1)]) (g := (gName 1)) (tt := tYes) rfl nd (pi_range1 rfl B.n_range (pa_cons (pe_fld (pv 0) rfl) pa_nil)) (blkOk_by (N := ["self", "v"]) (sc := defScope s_Remaining_single) (by decide +kernel)) (fun _ _ _ _ _ => (pg_name (i := 1) nd rfl (Or.inl rfl))) (fun _ _ _ _ _ => pts_nil) (fun _ _ _ _ _ => (pe_cmpR op_eq (pe_callB (cgLen K) (by rfl) B.n_len PySem.boot_len (pa_cons (pe_ix ix_dK (pe_fldK K (pv 0) rfl) (pv 1) (fun _ _ => rfl)) pa_nil)) pe_int (nomark _)))) pa_nil)))), ?_⟩
    try dsimp only [L2.cxOf, L2.Cx.nox, L2.Cx.wish]
    rw [st_Remaining_single]
    have c2 := B.cl_Remaining
    have a1 := B.at_Remaining__many
    have a2 := B.at_Remaining__domains
    obtain ⟨dx, fs, h1, f1, f2, _⟩ := hR.ob
    walk_at "cg"
    refine lcR_B (fun i => decide ((D (i : Int)).length = 1)) (by omega) (fun i H' R R' hi k' q' => ?_) (fun D1 H4 hD1 eD1 k4 => ?_)
    · have h1' := k'.get0 h1
      have z0 : (0 + (i : Int)) = i := by omega
      rw [z0]
      walk_at "cg"
      refine r_getDom (hD.kp0 k') (mem_upTo.mpr ⟨by omega, by omega⟩) fun b hb => ?_
      walk_at "cg"
      have el : (((D (i : Int)).map V.int).length : Int) = (D (i : Int)).length := by simp
      rw [show (decide ((D (i : Int)).length = 1)) = decide ((((D (i : Int)).map V.int).length : Int) = 1) by rw [el]; exact decide_eq_decide.mpr (by omega)] at q'
      exact q' _ .refl
    · walk_at "cg"
      refine r_all eD1 ?_
      have e : ((List.range ((m : Int) - 0).toNat).map fun i : Nat => decide ((D (i : Int)).length = 1)).all id = oneB m D := by
        rw [show ((m : Int) - 0).toNat = m by omega]
        unfold oneB upTo
        rw [List.all_map, List.all_map]
        rfl
      rw [show ((m : Int) - 0).toNat = (m : Int).toNat by omega] at e
      rw [e]
      exact k _ k4
theorem ok_Remaining_apply {f : Addr} {fd : FuncData} (F : Fun K "apply" "Remaining.apply" s_Remaining_apply f fd) (B : Bi K mg C_Model C_Remaining) (D_live_literals : Is P w K mg base CX0 3 "live_literals" ["domains", "literals"] (spLive K)) (D_unknowns_in : Is P w K mg base CX0 1 "unknowns_in" ["fact"] (spUnkIn K)) (D_apply_row : Is P w K mg base CX0 2 "apply_row" ["domains", "row"] (spApplyR0 K)) (D_keep_literal : Is P w K mg base CX0 3 "keep_literal" ["domains", "literal"] (spKeepLF K)) : FnOk P w K mg base CX0 4 f fd ["self", "fact"] (spRApply K C_Remaining) := by
  have nd := sc_Remaining_apply.nd
  refine F.ok sc_Remaining_apply ?len (fun cdv A outer s H vs Q E hr h => ?body)
  case len =>
    rintro vs H Q E ⟨p, d, q, m, D, f, S, rfl, _⟩
    rfl
  case body =>
    obtain ⟨p, d, q, m, D, f, S, rfl, al, hR, h60, hD, ok, hf, okf, k0, k1⟩ := h
    refine ⟨_, (pss_cons (ps_setLc (i := 2) (own := [("v", 4)]) (g := (gName 4)) (tt := tYes) rfl nd rfl rfl (sw_true rfl rfl rfl (by decide +kernel)) ((piLst K) (pe_is D_unknowns_in (hr.mono (by decide)) rfl pass0 (pa_cons (pv 1) pa_nil))) (blkOk_by (N := ["self", "fact", "before", "live", "v", "many"]) (sc := defScope s_Remaining_apply) (by decide +kernel)) (fun _ _ _ _ _ => (pg_name (i := 4) nd rfl (Or.inl rfl))) (fun _ _ _ _ _ => pts_nil) (fun _ _ _ _ _ => (pe_tup (pa_cons (pv 4) (pa_cons (pe_callB (cgLen K) (by rfl) B.n_len PySem.boot_len (pa_cons (pe_ix ix_dK (pe_fldK K (pv 0) rfl) (pv 4) (fun _ _ => rfl)) pa_nil)) pa_nil)))))
      (Evl.pss_cut (ps_if (pt_cmpR op_eq (pe_ix (ixT K) (pv 1) pe_int (fun _ _ => rfl)) pe_str (nomark _))
      (pss_one (ps_if (pt_not (pt_val (pe_is D_apply_row (hr.mono (by decide)) rfl pass0 (pa_cons (pe_fld (pv 0) rfl) (pa_cons (pv 1) pa_nil)))))
      (pss_one (ps_ret pe_non))
      pss_nil))
      (pss_cons (ps_set (i := 3) nd rfl (Or.inl rfl) (pe_is D_live_literals (hr.mono (by decide)) rfl pass0 (pa_cons (pe_fld (pv 0) rfl) (pa_cons (pe_ix (ixT K) (pv 1) pe_int (fun _ _ => rfl)) pa_nil))))
      (pss_cons (ps_if (pt_cmpR op_eq (pe_callB (cgLen K) (by rfl) B.n_len PySem.boot_len (pa_cons (pv 3) pa_nil)) pe_int (nomark _))
      (pss_one (ps_ret pe_non))
      pss_nil)
      (pss_one (ps_if (pt_cmpR op_eq (pe_callB (cgLen K) (by rfl) B.n_len PySem.boot_len (pa_cons (pv 3) pa_nil)) pe_int (nomark _))
      (pss_one (ps_expr (pe_is D_keep_literal (hr.mono (by decide)) rfl pass0 (pa_cons (pe_fld (pv 0) rfl) (pa_cons (pe_ix (ixL K) (pv 3) pe_int (fun _ _ => rfl)) pa_nil)))))
      pss_nil)))))
      (pss_one (ps_ret (by exact pe_lc (own := [("v", 4), ("many", 5)]) (g := (gTup K 2 (gCons (gName 4) (gCons (gName 5) gNil)))) rfl nd ((piLst K) (pv 2)) (blkOk_by (N := ["self", "fact", "before", "live", "v", "many"]) (sc := defScope s_Remaining_apply) (by decide +kernel)) (fun _ _ _ _ _ => (pg_tup (n := 2) rfl (pgs_cons (pg_name (i := 4) nd rfl (Or.inl rfl)) (pgs_cons (pg_name (i := 5) nd rfl (Or.inl rfl)) pgs_nil)))) (fun _ _ _ _ _ => pts_one (pt_cmpR op_lt (pe_callB (cgLen K) (by rfl) B.n_len PySem.boot_len (pa_cons (pe_ix ix_dK (pe_fldK K (pv 0) rfl) (pv 4) (fun _ _ => rfl)) pa_nil)) (pv 5) (nomark _))) (fun _ _ _ _ _ => (pv 4))))))), ?_⟩
    try dsimp only [L2.cxOf, L2.Cx.nox, L2.Cx.wish]
    rw [st_Remaining_apply]
    have c2 := B.cl_Remaining
    have a2 := B.at_Remaining__domains
    obtain ⟨dx, fs, h1, f1, f2, _⟩ := hR.ob
    have few := Fact.ok_few okf
    have hv : ∀ v ∈ f.vars, v ∈ upTo m := fun v h => mem_upTo.mpr (Fact.ok_vars okf v h)
    have lm : (upTo m).length ≤ 60 := by simp [upTo]; omega
    walk_at "cg"
    refine ⟨q, f, rfl, hf, few, fun l us H1 hl el asc mem k1' => ?_⟩
    have lus : us.length ≤ 60 := by
      have := asc_le asc mem
      omega
    have huk : ∀ v ∈ us, v ∈ upTo m := fun v h => hv v ((mem v).mp h)
    have h11 := k1'.get0 h1
    walk_at "cg"
    refine lcL_m (as := us) (d := PyData.int) el (imInts us) (fun v => tD (v, ((D v).length : Int))) (by omega) (fun i v x H' R R' hi kk hx q1 => ?_) (fun B1 H2 acc hB eB hA k2 => ?_)
    · cases hx
      have h12 := kk.get0 h11
      walk_at "cg"
      refine r_getDom ((hD.kp0 k1').kp0 kk).at (huk v (List.mem_of_getElem? hi)) fun b hb => ?_
      walk_at "cg"
      rename_i pt H4 hpt ept kpt
      refine q1 _ _ ?_ kpt
      rw [List.length_map] at ept
      exact .tup ept (.cons (.int _) (.cons (.int _) .nil))
    have K2 := Kp.tr0 k2 k1'
    have dp : p ≠ d := by
      obtain ⟨f, e⟩ := hD.isD
      intro z
      rw [← z, h1] at e
      cases e
    have nB : B1 ≠ d := by
      obtain ⟨f, e⟩ := (hD.kp0 k1').isD
      exact ne_newR hB e
    have h12 := K2.get0 h1
    walk_at "cg"
    refine ⟨fun σ' H' => ∃ (D' : Dm) (x3 : Option V), σ' = [some (.ref p), some (.ref q), some (.ref B1), x3, none, none] ∧ applyF D f = some D' ∧ DomF S H' d (upTo m) D' ∧ Kp [d] H2 H', ?_, ?_⟩
    · have D2 := hD.kp0 K2
      cases f with
      | row ts n =>
        obtain ⟨q0, s0, i0⟩ := row_open (K2.im hf)
        walk_at "cg"
        refine ⟨d, q, _, D, ts, n, S, rfl, al.kp0 K2, D2, ok, lm, K2.im hf, okf.2.1, fun z hz => hv z.1 (List.mem_map.mpr ⟨z, hz, rfl⟩), fun H3 e k3 => ?_, fun D' H3 e D3 k3 => ?_⟩
        · walk_at "cg"
          exact k0 _ e (Kp.tr0 k3 K2)
        · walk_at "cg"
          exact ⟨D', none, rfl, e, D3, k3⟩
      | any ls =>
        obtain ⟨q0, s0, i0⟩ := any_open (K2.im hf)
        have hk : ∀ l ∈ ls, l.v ∈ upTo m := fun l hl => hv _ (List.mem_map.mpr ⟨l, hl, rfl⟩)
        walk_at "cg"
        refine ⟨d, q0, _, D, ls, rfl, D2.at, ok, lm, i0, okf.2, hk, fun lv refs H3 hlv elv A3 k3 => ?_⟩
        have hl2 := mapLenP A3
        have K3 := Kp.tr0 k3 K2
        have lvp : ∀ l ∈ liveL D ls, l.v ∈ upTo m := fun l hl => hk l (live_sub hl).1
        have h13 := k3.get0 h12
        generalize hlv1 : liveL D ls = lv1 at *
        match lv1, A3, hl2, hlv1, lvp with
        | [], A3, hl2, hlv1, lvp =>
          simp only [List.length_nil] at hl2
          walk_at "cg"
          exact k0 _ (applyF0 hlv1) K3
        | [l1], A3, hl2, hlv1, lvp =>
          simp only [List.length_cons, List.length_nil] at hl2
          obtain ⟨_, _, rfl, a1', h4⟩ := A3.c
          obtain rfl := h4.n
          obtain ⟨px, rfl, L1⟩ := lit_at a1'
          walk_at "cg"
          refine ⟨d, px, _, D, l1, S, rfl, al.kp0 K3, D2.kp0 k3, ok, lm, L1, lvp l1 List.mem_cons_self, fun H4 D4 k4 => ?_⟩
          walk_at "cg"
          exact ⟨_, _, rfl, applyF1 hlv1, D4, Kp.tr1 k4 (Kp.tr0 k3 D2.mut)⟩
        | l1 :: l2 :: lr, A3, hl2, hlv1, lvp =>
          simp only [List.length_cons] at hl2
          walk_at "cg"
          exact ⟨_, _, rfl, applyF2 hlv1, D2.kp0 k3, Kp.tr0 k3 D2.mut⟩
    · rintro σ' H3 ⟨D', x3, rfl, eD', D3, k3⟩
      have h13 := k3.get1 dp h12
      have eB3 := k3.get1 nB eB
      have K3 : Kp [d] H H3 := Kp.tr1 k3 (Kp.tr0 K2 hD.mut)
      walk_at "cg"
      refine lcL_f (as := us) (d := fun v => tD (v, ((D v).length : Int))) eB3 (k3.imAll hA) (fun v => if decide ((D' v).length < (D v).length) = true then some (.int v) else none) (by omega) (fun i v x H' R R' hi kk hx q1 q2 => ?_) (fun L1 H4 acc2 hL1 eL1 hA2 k4 => ?_)
      · obtain ⟨px, rfl, sx⟩ := term_at hx
        have h14 := kk.get0 h13
        walk_at "cg"
        refine r_getDom (D3.kp0 kk).at (huk v (List.mem_of_getElem? hi)) fun b hb => ?_
        have el : (((D' v).map V.int).length : Int) = (D' v).length := by simp
        walk_at "cg"
        refine if_S (fun g => ?_) (fun g => ?_)
        · clear el
          walk_at "cg"
          exact q1 _ _ _ (by rw [if_pos (decide_eq_true (by simp at g; omega))]) (.int v) .refl
        · walk_at "cg"
          exact q2 _ (by rw [if_neg (by rw [decide_eq_true_eq]; simp at g; omega)]) .refl
      rw [fm_filter (fun v => decide ((D' v).length < (D v).length)), lost_of eD' asc mem hv] at hA2
      walk_at "cg"
      exact k1 D' L1 H4 eD' (D3.kp0 k4) (K3.free hL1 fun b hb => by rw [List.mem_singleton] at hb; rw [hb]; obtain ⟨f, e⟩ := D3.isD; exact ⟨_, e⟩) (by rw [eL1, hA2.ints]) (Kp.tr0 k4 K3)
theorem ok_Model_move {f : Addr} {fd : FuncData} (F : Fun K "move" "Model.move" s_Model_move f fd) (B : Bi K mg C_Model C_Remaining) (D_Model__need : IsM P w K mg base CX0 1 C_Model "_need" ["self", "v"] (spNeed K C_Model)) (D_bounds_fit : Is P w K mg base CX0 1 "bounds_fit" ["low", "high"] spBounds) : FnOk P w K mg base CX0 2 f fd ["self", "v", "low", "high"] (spMove K C_Model) := by
  have nd := sc_Model_move.nd
  obtain ⟨f_Model__need, fd_Model__need, G_Model__need, m_Model__need, b_Model__need⟩ := D_Model__need.ex
  refine F.ok sc_Model_move ?len (fun cdv A outer s H vs Q E hr h => ?body)
  case len =>
    rintro vs H Q E ⟨a, M, v, lo, hi, rfl, _⟩
    rfl
  case body =>
    obtain ⟨a, M, v, lo, hi, rfl, hM, h60, v0, v1, l0, l1, l2, k⟩ := h
    refine ⟨_, (pss_cons (ps_expr (pe_meth (pv 0) D_Model__need.cl m_Model__need G_Model__need (hr.mono (by decide)) b_Model__need .nil pass0 (pa_cons (pv 1) pa_nil)))
      (pss_cons (ps_if (pt_not (pt_val (pe_is D_bounds_fit (hr.mono (by decide)) rfl pass0 (pa_cons (pv 2) (pa_cons (pv 3) pa_nil)))))
      (pss_one ps_never)
      pss_nil)
      (pss_cons (ps_asg (pv 2) (pg_sub (pe_fld (pv 0) rfl) (pv 1) set_list))
      (pss_one (ps_asg (pv 3) (pg_sub (pe_fld (pv 0) rfl) (pv 1) set_list)))))), ?_⟩
    try dsimp only [L2.cxOf, L2.Cx.nox, L2.Cx.wish]
    rw [st_Model_move]
    have c := B.cl_Model
    have a2 := B.at_Model__lows
    have a3 := B.at_Model__highs
    obtain ⟨dx, fs, g, h1, h2, h3⟩ := hM.ob
    have f2 := h2.lo
    have f3 := h2.hi
    walk_at "cg"
    refine ⟨a, M, v, rfl, hM, h60, v0, v1, ?_⟩
    walk_at "cg"
    refine ⟨lo, hi, rfl, ?_⟩
    rw [show (decide (-1000 ≤ lo) && (decide (lo ≤ hi) && decide (hi ≤ 1000))) = true by simp [l0, l1, l2]]
    walk_at "cg"
    have eS : ∀ (g : Un → V), (M.us.map g).length = M.us.length := fun g => List.length_map _
    refine r_setL (m := v.toNat) hM.lo (ixN_ok v0 (by rw [eS]; exact v1)) fun H2 e2 k2 => ?_
    have npl : a.p ≠ a.l := ne_of h1 hM.lo (fun e => by cases e)
    have nph : a.p ≠ a.h := ne_of h1 hM.hi (fun e => by cases e)
    have h1' := k2.get1 npl h1
    have ehi := k2.get1 hM.ne.2.2.symm hM.hi
    walk_at "cg"
    refine r_setL (m := v.toNat) ehi (ixN_ok v0 (by rw [eS]; exact v1)) fun H3 e3 k3 => ?_
    have base : Kp [a.l, a.h] H H := Kp.base fun b hb => by
      rcases List.mem_cons.mp hb with rfl | hb
      · rw [hM.lo]; trivial
      · rw [List.mem_singleton] at hb
        rw [hb, hM.hi]; trivial
    have K2 : Kp [a.l, a.h] H H2 := base.tr k2 fun x hx => .inl (by rw [List.mem_singleton] at hx; rw [hx]; exact List.mem_cons_self)
    have K3 : Kp [a.l, a.h] H H3 := K2.tr k3 fun x hx => .inl (by rw [List.mem_singleton] at hx; rw [hx]; exact List.mem_cons_of_mem _ List.mem_cons_self)
    obtain ⟨kvs, b1, b2, b3⟩ := hM.bo
    have nbl : a.b ≠ a.l := ne_of b1 hM.lo (fun e => by cases e)
    have nbh : a.b ≠ a.h := ne_of b1 hM.hi (fun e => by cases e)
    have hv : v.toNat < M.us.length := by omega
    obtain ⟨u, hu⟩ : ∃ u, M.us[v.toNat]? = some u := ⟨_, List.getElem?_eq_getElem hv⟩
    have en : (M.us.set v.toNat (u.1, lo, hi)).map (fun u => V.str u.1) = M.us.map fun u => V.str u.1 := by
      rw [List.map_set]
      refine set_same ?_
      rw [List.getElem?_map, hu]
      rfl
    refine k H3 (M.us.set v.toNat (u.1, lo, hi)) (by simp) ⟨⟨dx, fs, g, k3.get1 nph h1', h2, k3.im (k2.im h3)⟩, ?_, ?_, ?_, ⟨kvs, k3.get1 nbh (k2.get1 nbl b1), b2, k3.imAll (k2.imAll b3)⟩, hM.ne⟩ K3
    · rw [en]
      exact k3.get1 hM.ne.2.1 (k2.get1 hM.ne.1 hM.nm)
    · rw [List.map_set]
      exact k3.get1 hM.ne.2.2 e2
    · rw [List.map_set]
      exact e3
end

section
variable {P : Program} {w : World} {K : PySem.W.Frag} {mg : Str → Option Value} {base : Heap} {C_Model C_Remaining : Addr}
theorem ok_law_apply {f : Addr} {fd : FuncData} (F : Fun K "_law_apply" "_law_apply" s_law_apply f fd) (B : Bi K mg C_Model C_Remaining) (D_law_rel : Is P w K mg base CX0 1 "_law_rel" ["_law_relation", "_law_left", "_law_right"] spRel) : FnOk P w K mg base CX0 2 f fd ["_law_left", "_law_fact_here"] (spLApply K) := by
  have nd := sc_law_apply.nd
  refine F.ok sc_law_apply ?len (fun cdv A outer s H vs Q E hr h => ?body)
  case len =>
    rintro vs H Q E ⟨L, q, m, D, f, S, rfl, _⟩
    rfl
  case body =>
    obtain ⟨L, q, m, D, f, S, rfl, al, hL, m60, ok, hf, okf, k0, k1⟩ := h
    refine ⟨_, (pss_cons (ps_setLc (i := 2) (own := [("_law_values", 11)]) (g := (gName 11)) (tt := tYes) rfl nd rfl rfl (sw_true rfl rfl rfl (by decide +kernel)) ((piLst K) (pv 0)) (blkOk_by (N := ["_law_left", "_law_fact_here", "_law_new", "_law_least", "_law_v", "_law_c", "_law_rest", "_law_live", "_law_literal_here", "_law_relation", "_law_b", "_law_values", "_law_a"]) (sc := defScope s_law_apply) (by decide +kernel)) (fun _ _ _ _ _ => (pg_name (i := 11) nd rfl (Or.inl rfl))) (fun _ _ _ _ _ => pts_nil) (fun _ _ _ _ _ => (pe_callTy (cgList K) (by rfl) B.n_list (by decide +kernel) (pa_cons (pv 11) pa_nil))))
      (pss_cons (ps_if (pt_cmpR op_eq (pe_ix (ixT K) (pv 1) pe_int (fun _ _ => rfl)) pe_str (nomark _))
      (pss_cons (ps_set (i := 3) nd rfl (Or.inl rfl) (pe_callB (cr_sum rfl) (by rfl) B.n_sum (by decide +kernel) (pa_cons (by exact pe_lc (own := [("_law_v", 4), ("_law_c", 5)]) (g := (gTup K 2 (gCons (gName 4) (gCons (gName 5) gNil)))) (tt := tYes) rfl nd (pi_tup (pe_ix (ixT K) (pv 1) pe_int (fun _ _ => rfl))) (blkOk_by (N := ["_law_left", "_law_fact_here", "_law_new", "_law_least", "_law_v", "_law_c", "_law_rest", "_law_live", "_law_literal_here", "_law_relation", "_law_b", "_law_values", "_law_a"]) (sc := defScope s_law_apply) (by decide +kernel)) (fun _ _ _ _ _ => (pg_tup (n := 2) rfl (pgs_cons (pg_name (i := 4) nd rfl (Or.inl rfl)) (pgs_cons (pg_name (i := 5) nd rfl (Or.inr rfl)) pgs_nil)))) (fun _ _ _ _ _ => pts_nil) (fun _ _ _ _ _ => (pe_callB (cgMin K rfl) (by rfl) B.n_min (by decide +kernel) (pa_cons (by apply pe_lc (own := [("_law_a", 12)]) (g := (gName 12)) (tt := tYes) rfl nd; exact ((piLst K) (pe_ix (ixL K) (pv 0) (pv 4) (fun _ _ => rfl))); exact (blkOk_cap (N := ["_law_left", "_law_fact_here", "_law_new", "_law_least", "_law_v", "_law_c", "_law_rest", "_law_live", "_law_literal_here", "_law_relation", "_law_b", "_law_values", "_law_a"]) [("_law_c", .cell)] (by decide +kernel) ⟨rfl, trivial⟩); exact (fun _ _ _ _ _ => (pg_name (i := 12) nd rfl (Or.inl rfl))); exact (fun _ _ _ _ _ => pts_nil); exact (fun _ _ _ _ _ => (pe_op op_mul (pv 5) (pv 12)))) pa_nil)))) pa_nil)))
      (pss_cons (ps_if (pt_cmpR op_gt (pv 3) (pe_ix (ixT K) (pv 1) pe_int (fun _ _ => rfl)) (nomark _))
      (pss_one (ps_ret pe_non))
      pss_nil)
      (pss_cons (ps_for PassesOwn.never rfl (pi_tup (pe_ix (ixT K) (pv 1) pe_int (fun _ _ => rfl))) (pg_tup (n := 2) rfl (pgs_cons (pg_name (i := 4) nd rfl (Or.inl rfl)) (pgs_cons (pg_name (i := 5) nd rfl (Or.inr rfl)) pgs_nil)))
      (pss_cons (ps_set (i := 6) nd rfl (Or.inr rfl) (pe_op op_sub (pv 3) (pe_callB (cgMin K rfl) (by rfl) B.n_min (by decide +kernel) (pa_cons (by exact pe_lc (own := [("_law_a", 12)]) (g := (gName 12)) (tt := tYes) rfl nd ((piLst K) (pe_ix (ixL K) (pv 0) (pv 4) (fun _ _ => rfl))) (blkOk_by (N := ["_law_left", "_law_fact_here", "_law_new", "_law_least", "_law_v", "_law_c", "_law_rest", "_law_live", "_law_literal_here", "_law_relation", "_law_b", "_law_values", "_law_a"]) (sc := defScope s_law_apply) (by decide +kernel)) (fun _ _ _ _ _ => (pg_name (i := 12) nd rfl (Or.inl rfl))) (fun _ _ _ _ _ => pts_nil) (fun _ _ _ _ _ => (pe_op op_mul (pv 5) (pv 12)))) pa_nil))))
      (pss_one (ps_asg (by exact pe_lc (own := [("_law_a", 12)]) (g := (gName 12)) rfl nd ((piLst K) (pe_ix (ixL K) (pv 0) (pv 4) (fun _ _ => rfl))) (blkOk_by (N := ["_law_left", "_law_fact_here", "_law_new", "_law_least", "_law_v", "_law_c", "_law_rest", "_law_live", "_law_literal_here", "_law_relation", "_law_b", "_law_values", "_law_a"]) (sc := defScope s_law_apply) (by decide +kernel)) (fun _ _ _ _ _ => (pg_name (i := 12) nd rfl (Or.inl rfl))) (fun _ _ _ _ _ => pts_one (pt_cmpR op_le (pe_op op_add (pe_op op_mul (pv 5) (pv 12)) (pv 6)) (pe_ix (ixT K) (pv 1) pe_int (fun _ _ => rfl)) (nomark _))) (fun _ _ _ _ _ => (pv 12))) (pg_sub (pv 2) (pv 4) set_list)))))
      (pss_one (ps_ret (pv 2))))))
      pss_nil)
      (pss_cons (ps_set (i := 7) nd rfl (Or.inl rfl) (pe_lst pa_nil))
      (pss_cons (ps_for PassesOwn.never rfl (pi_tup (pe_ix (ixT K) (pv 1) pe_int (fun _ _ => rfl))) (pg_name (i := 8) nd rfl (Or.inr rfl))
      (pss_one (ps_if (pt_cmpR (inS K) pe_bl (by exact pe_lc (own := [("_law_a", 12)]) (g := (gName 12)) (tt := tYes) rfl nd ((piLst K) (pe_ix (ixL K) (pv 0) (pe_ix (ixT K) (pv 8) pe_int (fun _ _ => rfl)) (fun _ _ => rfl))) (blkOk_by (N := ["_law_left", "_law_fact_here", "_law_new", "_law_least", "_law_v", "_law_c", "_law_rest", "_law_live", "_law_literal_here", "_law_relation", "_law_b", "_law_values", "_law_a"]) (sc := defScope s_law_apply) (by decide +kernel)) (fun _ _ _ _ _ => (pg_name (i := 12) nd rfl (Or.inl rfl))) (fun _ _ _ _ _ => pts_nil) (fun _ _ _ _ _ => (pe_is D_law_rel (hr.mono (by decide)) rfl pass0 (pa_cons (pe_ix (ixT K) (pv 8) pe_int (fun _ _ => rfl)) (pa_cons (pv 12) (pa_cons (pe_ix (ixT K) (pv 8) pe_int (fun _ _ => rfl)) pa_nil)))))) rfl)
      (pss_one (ps_expr (pe_bm PySem.F.plainAttrs_list PySem.F.slot_list_append PySem.F.type_list_append mt_append (pv 7) (pa_cons (pv 8) pa_nil))))
      pss_nil)))
      (pss_cons (ps_if (pt_cmpR op_eq (pe_callB (cgLen K) (by rfl) B.n_len PySem.boot_len (pa_cons (pv 7) pa_nil)) pe_int (nomark _))
      (pss_one (ps_ret pe_non))
      pss_nil)
      (pss_cons (ps_if (pt_cmpR op_eq (pe_callB (cgLen K) (by rfl) B.n_len PySem.boot_len (pa_cons (pv 7) pa_nil)) pe_int (nomark _))
      (pss_cons (ps_asg (pe_ix (ixL K) (pv 7) pe_int (fun _ _ => rfl)) (pg_tup (n := 3) rfl (pgs_cons (pg_name (i := 4) nd rfl (Or.inl rfl)) (pgs_cons (pg_name (i := 9) nd rfl (Or.inr rfl)) (pgs_cons (pg_name (i := 10) nd rfl (Or.inr rfl)) pgs_nil)))))
      (pss_one (ps_asg (by exact pe_lc (own := [("_law_a", 12)]) (g := (gName 12)) rfl nd ((piLst K) (pe_ix (ixL K) (pv 0) (pv 4) (fun _ _ => rfl))) (blkOk_by (N := ["_law_left", "_law_fact_here", "_law_new", "_law_least", "_law_v", "_law_c", "_law_rest", "_law_live", "_law_literal_here", "_law_relation", "_law_b", "_law_values", "_law_a"]) (sc := defScope s_law_apply) (by decide +kernel)) (fun _ _ _ _ _ => (pg_name (i := 12) nd rfl (Or.inl rfl))) (fun _ _ _ _ _ => pts_one (pt_val (pe_is D_law_rel (hr.mono (by decide)) rfl pass0 (pa_cons (pv 9) (pa_cons (pv 12) (pa_cons (pv 10) pa_nil)))))) (fun _ _ _ _ _ => (pv 12))) (pg_sub (pv 2) (pv 4) set_list))))
      pss_nil)
      (pss_one (ps_ret (pv 2))))))))), ?_⟩
    try dsimp only [L2.cxOf, L2.Cx.nox, L2.Cx.wish]
    rw [st_law_apply]
    obtain ⟨xs, eL, nL, aL⟩ := hL.open
    walk_at "cg"
    refine lcL_D eL al D m nL m60 (fun i x H' R R' hi hx k2 q1 => ?_) (fun c H1 hc LC k2 => ?_)
    · obtain ⟨b, rfl, hb⟩ := aL i x hx
      have hb' := k2.get0 hb
      walk_at "cg"
      refine r_listL (SqL.of hb') fun l2 H2 hl2 el2 k3 => ?_
      exact q1 l2 H2 hl2 el2 k3
    have hL1 := hL.kp0 k2
    have ncL : L ≠ c := fun e => by
      obtain ⟨f2, e2, _⟩ := hL.ex
      rw [e, hc] at e2
      cases e2
    cases f with
    | row ts n =>
      obtain ⟨q0, s0, i0⟩ := row_open (k2.im hf)
      obtain ⟨xs2, h1, h2⟩ := i0.open
      have hz : ∀ z ∈ ts, 0 ≤ z.1 ∧ z.1 < m := fun z hz => Fact.ok_vars okf z.1 (List.mem_map.mpr ⟨z, hz, rfl⟩)
      have lts := okf.2.1
      walk_at "cg"
      refine lcT_i (as := ts) (d := tD) h1 h2 (fun z => leastOf z.2 (D z.1)) (by omega) (fun i z x H' R R' hi kk hx q1 => ?_) (fun D1 H2 hD1 eD1 k3 => ?_)
      · obtain ⟨px, rfl, hs⟩ := term_at hx
        have bz := hz z (List.mem_of_getElem? hi)
        have dz := ok z.1 (mem_upTo.mpr bz)
        walk_at "cg"
        refine r_getLD (hL1.kp0 kk) bz.1 bz.2 fun b hb => ?_
        walk_at "cg"
        refine lcL_i (as := D z.1) (d := PyData.int) hb (imInts _) (fun a => z.2 * a) dz.small (fun j a x2 H2 R R' ha k2 hx2 q1 => ?_) (fun D1 H2 hD1 eD1 k2 => ?_)
        · cases hx2
          have ba := dz.bd a (List.mem_of_getElem? ha)
          have cm : CMul z.2 a := .inr ⟨by omega, by omega⟩
          walk_at "cg"
          exact q1 _ .refl
        walk_at "cg"
        refine r_min eD1 dz ?_
        exact q1 _ k2
      walk_at "cg"
      refine r_sum (ns := ts.map fun z => leastOf z.2 (D z.1)) eD1 ?_
      have el : (ts.map fun z => leastOf z.2 (D z.1)).sum = leastR D ts := rfl
      rw [el]
      have K2 := Kp.tr0 k3 k2
      have s1 := k3.tup s0
      have LC2 := LC.kp0 k3
      have h11 := k3.tup h1
      have h21 := k3.imAll h2
      walk_at "cg"
      refine if_S (fun g => ?_) (fun g => ?_)
      · walk_at "cg"
        exact k0 _ (show applyR D ts n = none by unfold applyR; rw [if_pos (by omega)]) K2
      have ea : applyR D ts n = some (putAll D (ts.map fun z => (z.1, cutR D (leastR D ts) n z))) := by unfold applyR; rw [if_neg (by omega)]
      have hL2 := hL1.kp0 k3
      walk_at "cg"
      have fc : H2 c ≠ none := fun z => by
        obtain ⟨f2, e2, _⟩ := LC2.ex
        rw [z] at e2
        cases e2
      refine r_forTI [c] h11 h21 (fun i σ' H'' => ∃ (x4 x5 x6 x7 x8 x9 x10 x11 x12 : Option V), σ' = [some (.ref L), some (.ref q), some (.ref c), some (.int (leastR D ts)), x4, x5, x6, x7, x8, x9, x10, x11, x12] ∧ LDomF S H'' c m (putAll D ((ts.take i).map fun z => (z.1, cutR D (leastR D ts) n z))) ∧ Kp [c] H2 H'') ⟨_, _, _, _, _, _, _, _, _, rfl, LC2, LC2.mut⟩ (fun i σ' H' ⟨_, _, _, _, _, _, _, _, _, _, _, h⟩ => h) ?_ ?_
      · rintro i z x σ' H3 hi hx k3' ⟨x4, x5, x6, x7, x8, x9, x10, x11, x12, rfl, C3, -⟩
        obtain ⟨px, rfl, hs⟩ := term_at hx
        have bz := hz z (List.mem_of_getElem? hi)
        have dz := ok z.1 (mem_upTo.mpr bz)
        have L3 : LDom H3 L m D := hL.kp0 (Kp.trN k3' K2 hc)
        have s3 := k3'.tup s1
        walk_at "cg"
        refine r_getLD L3 bz.1 bz.2 fun b hb => ?_
        walk_at "cg"
        refine lcL_i (as := D z.1) (d := PyData.int) hb (imInts _) (fun a => z.2 * a) dz.small (fun j a x2 H2 R R' ha k2 hx2 q1 => ?_) (fun D1 H4 hD1 eD1 k4 => ?_)
        · cases hx2
          have ba := dz.bd a (List.mem_of_getElem? ha)
          have cm : CMul z.2 a := .inr ⟨by omega, by omega⟩
          walk_at "cg"
          exact q1 _ .refl
        walk_at "cg"
        refine r_min eD1 dz ?_
        walk_at "cg"
        refine r_getLD (L3.kp0 k4) bz.1 bz.2 fun b2 hb2 => ?_
        walk_at "cg"
        refine lcL_fi (K := K) hb2 (fun a => decide (z.2 * a + (leastR D ts - leastOf z.2 (D z.1)) ≤ n)) dz.small (fun j a H5 R R' ha k5 q1 q2 => ?_) (fun b5 H5 hb5 eb5 k5 => ?_)
        · have ba := dz.bd a (List.mem_of_getElem? ha)
          have cm : CMul z.2 a := .inr ⟨by omega, by omega⟩
          have s5 := k5.tup (k4.tup s3)
          walk_at "cg"
          refine if_S (fun g => ?_) (fun g => ?_)
          · walk_at "cg"
            exact q1 _ (decide_eq_true g) .refl
          · walk_at "cg"
            exact q2 _ (decide_eq_false g) .refl
        have eb5' : H5 b5 = some (.lst ((cutR D (leastR D ts) n z).map V.int)) := eb5
        have C5 := (C3.kp0 k4).kp0 k5
        have nbc : b5 ≠ c := by
          obtain ⟨f2, e2, _⟩ := (C3.kp0 k4).ex
          exact ne_newR hb5 e2
        walk_at "cg"
        refine r_setLDF C5 bz.1 bz.2 eb5' nbc (al.no ((Kp.trN k3' K2 hc).free0 (k4.free0 hb5))) fun H6 C6 k6 => ?_
        walk_at "cg"
        refine ⟨_, _, _, _, _, _, _, _, _, rfl, ?_, Kp.tr1 k6 (Kp.tr0 k5 (Kp.tr0 k4 k3'))⟩
        rw [map_take_snoc hi, putAll_snoc]
        exact C6
      · rintro σ' H3 k3' ⟨x4, x5, x6, x7, x8, x9, x10, x11, x12, rfl, C3, -⟩
        rw [List.take_length] at C3
        walk_at "cg"
        exact k1 _ c _ ea hc C3 (Kp.trN k3' K2 hc)
    | any ls =>
      obtain ⟨q0, s0, i0⟩ := any_open (k2.im hf)
      obtain ⟨xs2, h1, h2⟩ := i0.open
      have hk : ∀ l ∈ ls, 0 ≤ l.v ∧ l.v < m := fun l hl => Fact.ok_vars okf _ (List.mem_map.mpr ⟨l, hl, rfl⟩)
      have ll := okf.2
      walk_at "cg"
      rename_i lv H4 hlv elv k4
      have bs : Kp [lv] H4 H4 := Kp.base fun b hb => by rw [List.mem_singleton] at hb; rw [hb, elv]; trivial
      have K4 := Kp.tr0 k4 k2
      have flv : H lv = none := k2.free0 hlv
      refine r_forTI [lv] (k4.tup h1) (k4.imAll h2) (fun j σ' H' => ∃ (r2 : List V) (x4 x5 x6 x8 x9 x10 x11 x12 : Option V), σ' = [some (.ref L), some (.ref q), some (.ref c), none, x4, x5, x6, some (.ref lv), x8, x9, x10, x11, x12] ∧ H' lv = some (.lst r2) ∧ ImAll K H' r2 ((liveL D (ls.take j)).map Lit.d) ∧ Kp [lv] H4 H') ⟨[], _, _, _, _, _, _, _, _, rfl, elv, .nil, bs⟩ (fun i σ' H' ⟨_, _, _, _, _, _, _, _, _, _, _, _, h⟩ => h) ?_ ?_
      · rintro j l1 x2 σ' H5 hj hx2 k5 ⟨r2, x4, x5, x6, x8, x9, x10, x11, x12, rfl, elv5, A5, -⟩
        obtain ⟨px, rfl, L1⟩ := lit_at hx2
        have b := hk l1 (List.mem_of_getElem? hj)
        have d1 := ok l1.v (mem_upTo.mpr b)
        have hjl : j < ls.length := (List.getElem?_eq_some_iff.mp hj).1
        have LD5 : LDom H5 L m D := hL1.kp0 (Kp.trN k5 k4 hlv)
        have lr2 : r2.length ≤ 60 := by
          have := mapLenP A5
          have h3 : (liveL D (ls.take j)).length ≤ (ls.take j).length := List.length_filter_le _ _
          rw [List.length_take] at h3
          omega
        have elive : liveL D (ls.take (j + 1)) = liveL D (ls.take j) ++ (if (D l1.v).any (fun a => l1.r.h a l1.a) = true then [l1] else []) := by
          unfold liveL
          rw [List.take_add_one, hj, List.filter_append]
          congr 1
          simp only [Option.toList_some, List.filter_cons, List.filter_nil]
        walk_at "cg"
        refine r_getLD LD5 b.1 b.2 fun q hq => ?_
        walk_at "cg"
        refine lcL_b (as := D l1.v) (d := PyData.int) hq (imInts _) (fun a => l1.r.h a l1.a) d1.small (fun m a x3 H6 R R' ha k6 hx3 q1 => ?_) (fun D6 H6 hD6 eD6 k6 => ?_)
        · cases hx3
          have L6 : LitAt K H6 px l1.v l1.r l1.a := k6.tup L1
          walk_at "cg"
          exact q1 _ .refl
        walk_at "cg"
        refine r_inL (b := (D l1.v).any fun a => l1.r.h a l1.a) eD6 rfl (flat_bls _) ?_ ?_
        · show inV _ _ = _
          rw [inV_true, List.any_map]
          rfl
        walk_at "cg"
        refine if_B (fun g => ?_) (fun g => ?_)
        · walk_at "cg"
          rename_i H7 e7 k7
          refine ⟨_, _, _, _, _, _, _, _, _, rfl, e7, ?_, Kp.tr1 k7 (Kp.tr0 k6 k5)⟩
          rw [elive, if_pos g, List.map_append]
          exact (k7.imAll (k6.imAll A5)).snoc (k7.im (k6.im hx2))
        · walk_at "cg"
          refine ⟨_, _, _, _, _, _, _, _, _, rfl, k6.get0 elv5, ?_, Kp.tr0 k6 k5⟩
          rw [elive, if_neg (by rw [g]; decide), List.append_nil]
          exact k6.imAll A5
      · rintro σ' H5 k5 ⟨r2, x4, x5, x6, x8, x9, x10, x11, x12, rfl, elv5, A5, -⟩
        rw [List.take_length] at A5
        have hl2 := mapLenP A5
        have K5 : Kp [] H H5 := Kp.trN k5 K4 flv
        have LD5 : LDom H5 L m D := hL1.kp0 (Kp.trN k5 k4 hlv)
        have LC5 : LDomF S H5 c m D := LC.kp0 (Kp.trN k5 k4 hlv)
        have lvp : ∀ l ∈ liveL D ls, 0 ≤ l.v ∧ l.v < m := fun l hl => hk l (live_sub hl).1
        generalize hlv1 : liveL D ls = lv1 at *
        match lv1, A5, hl2, hlv1, lvp with
        | [], A5, hl2, hlv1, lvp =>
          simp only [List.length_nil] at hl2
          walk_at "cg"
          exact k0 _ (applyF0 hlv1) K5
        | [l1], A5, hl2, hlv1, lvp =>
          simp only [List.length_cons, List.length_nil] at hl2
          obtain ⟨_, _, rfl, a1', h4⟩ := A5.c
          obtain rfl := h4.n
          obtain ⟨px, rfl, L1⟩ := lit_at a1'
          have b := lvp l1 List.mem_cons_self
          have d1 := ok l1.v (mem_upTo.mpr b)
          walk_at "cg"
          refine r_getLD LD5 b.1 b.2 fun q hq => ?_
          walk_at "cg"
          refine lcL_fi (K := K) hq (fun a => l1.r.h a l1.a) d1.small (fun m a H6 R R' ha k6 q1 q2 => ?_) (fun q2 H6 hq2 eq2 k6 => ?_)
          · walk_at "cg"
            cases eh : l1.r.h a l1.a
            · walk_at "cg"
              exact q2 _ eh .refl
            · walk_at "cg"
              exact q1 _ eh .refl
          have nq2 : q2 ≠ c := by
            obtain ⟨f2, e3, _⟩ := LC5.ex
            exact ne_newR hq2 e3
          walk_at "cg"
          refine r_setLDF (LC5.kp0 k6) b.1 b.2 eq2 nq2 (al.no (K5.free0 hq2)) fun H7 LD7 k7 => ?_
          walk_at "cg"
          exact k1 _ c _ (applyF1 hlv1) hc LD7 (Kp.trN k7 (Kp.tr0 k6 K5) hc)
        | l1 :: l2 :: lr, A5, hl2, hlv1, lvp =>
          simp only [List.length_cons] at hl2
          walk_at "cg"
          exact k1 _ c _ (applyF2 hlv1) hc LC5 K5
theorem ok_law_lost {f : Addr} {fd : FuncData} (F : Fun K "_law_lost" "_law_lost" s_law_lost f fd) (B : Bi K mg C_Model C_Remaining)  : FnOk P w K mg base CX0 1 f fd ["_law_left", "_law_new"] (spLost K) := by
  have nd := sc_law_lost.nd
  refine F.ok sc_law_lost ?len (fun cdv A outer s H vs Q E hr h => ?body)
  case len =>
    rintro vs H Q E ⟨L, L', m, D, D', rfl, _⟩
    rfl
  case body =>
    obtain ⟨L, L', m, D, D', rfl, hL, hL', m60, k⟩ := h
    refine ⟨_, (pss_one (ps_ret (by exact pe_lc (own := [("_law_v", 2)]) (g := (gName 2)) rfl nd (pi_range1 rfl B.n_range (pa_cons (pe_callB (cgLen K) (by rfl) B.n_len PySem.boot_len (pa_cons (pv 0) pa_nil)) pa_nil)) (blkOk_by (N := ["_law_left", "_law_new", "_law_v"]) (sc := defScope s_law_lost) (by decide +kernel)) (fun _ _ _ _ _ => (pg_name (i := 2) nd rfl (Or.inl rfl))) (fun _ _ _ _ _ => pts_one (pt_cmpR op_lt (pe_callB (cgLen K) (by rfl) B.n_len PySem.boot_len (pa_cons (pe_ix (ixL K) (pv 1) (pv 2) (fun _ _ => rfl)) pa_nil)) (pe_callB (cgLen K) (by rfl) B.n_len PySem.boot_len (pa_cons (pe_ix (ixL K) (pv 0) (pv 2) (fun _ _ => rfl)) pa_nil)) (nomark _))) (fun _ _ _ _ _ => (pv 2))))), ?_⟩
    try dsimp only [L2.cxOf, L2.Cx.nox, L2.Cx.wish]
    rw [st_law_lost]
    obtain ⟨xs, eL, nL, aL⟩ := hL.open
    walk_at "cg"
    have zl : (xs.length : Int) = m := by omega
    refine lcR_f (K := K) (fun i => if decide ((D' (i : Int)).length < (D (i : Int)).length) = true then some (.int (i : Int)) else none) (by omega) (fun i H' R R' hi kk q1 q2 => ?_) (fun B H1 acc hB eB hA kk => ?_)
    · have z0 : (0 + (i : Int)) = i := by omega
      rw [z0]
      have hi' : (i : Int) < m := by omega
      walk_at "cg"
      refine r_getLD (hL'.kp0 kk) (by omega) hi' fun b1 h1 => ?_
      walk_at "cg"
      refine r_getLD (hL.kp0 kk) (by omega) hi' fun b2 h2 => ?_
      walk_at "cg"
      refine if_S (fun g => ?_) (fun g => ?_)
      · walk_at "cg"
        exact q1 _ _ _ (by rw [if_pos (decide_eq_true (by simp at g; omega))]) (.int _) .refl
      · walk_at "cg"
        exact q2 _ (by rw [if_neg (by rw [decide_eq_true_eq]; simp at g; omega)]) .refl
    rw [show ((xs.length : Int)).toNat = m by omega] at hA
    have e : (List.range m).filterMap (fun i : Nat => if decide ((D' (i : Int)).length < (D (i : Int)).length) = true then some (PyData.int (i : Int)) else none) = (lostL m D D').map PyData.int := by
      unfold lostL
      rw [← fm_filter]
      unfold upTo
      rw [List.filterMap_map]
      rfl
    rw [e] at hA
    exact k B H1 hB (by rw [eB, hA.ints]) kk
end
section
variable {P : Program} {w : World} {K : PySem.W.Frag} {mg : Str → Option Value} {base : Heap} {C_Model C_Remaining : Addr}
theorem r_reprI {H : Hp} {Q : VK} {a : Addr} {ns : List Int} (h : H a = some (.lst (ns.map V.int))) (l : ns.length ≤ 2001) (b : ∀ x ∈ ns, -1000000 ≤ x ∧ x ≤ 1000000) (q : Q (.str (PyData.list (ns.map PyData.int)).shown) H) : rRepr K [.ref a] H Q :=
  r_repr (intsL_dp h) (shw_list (B := 19) (n := 2001) (fun d hd => by
    obtain ⟨x, hx, rfl⟩ := List.mem_map.mp hd
    have := b x hx
    exact shw_int (by omega)) (by rw [List.length_map]; exact l)) (by decide) (Nat.le_trans (depth_list (n := 1) fun d hd => by
    obtain ⟨x, hx, rfl⟩ := List.mem_map.mp hd
    exact Nat.zero_le _) (by decide : 1 + 1 ≤ 60)) q
theorem ok_law_agrees {f : Addr} {fd : FuncData} (F : Fun K "_law_agrees" "_law_agrees" s_law_agrees f fd) (B : Bi K mg C_Model C_Remaining) (D_law_same : Is P w K mg base CX0 1 "_law_same" ["_law_answer", "_law_due"] spSame) (D_Remaining_left : IsM P w K mg base CX0 1 C_Remaining "left" ["self", "v"] (spLeft K C_Remaining)) (D_Remaining_single : IsM P w K mg base CX0 1 C_Remaining "single" ["self"] (spSingle K C_Remaining)) : FnOkG P w K mg base CX0 2 f fd ["_law_remaining", "_law_left"] (spAgrees K C_Remaining) := by
  have nd := sc_law_agrees.nd
  obtain ⟨f_Remaining_left, fd_Remaining_left, G_Remaining_left, m_Remaining_left, b_Remaining_left⟩ := D_Remaining_left.ex
  obtain ⟨f_Remaining_single, fd_Remaining_single, G_Remaining_single, m_Remaining_single, b_Remaining_single⟩ := D_Remaining_single.ex
  refine okG F sc_law_agrees ?len (fun cdv A outer s H vs Q E gg hr h => ?body)
  case len =>
    rintro vs H Q E ⟨p, d, L, m, D, rfl, _⟩
    rfl
  case body =>
    obtain ⟨p, d, L, m, D, rfl, hR, m60, hD, ok, hL, k⟩ := h
    refine ⟨_, (pss_cons (ps_for PassesOwn.never rfl (pi_range1 rfl B.n_range (pa_cons (pe_callB (cgLen K) (by rfl) B.n_len PySem.boot_len (pa_cons (pv 1) pa_nil)) pa_nil)) (pg_name (i := 2) nd rfl (Or.inl rfl))
      (pss_cons (ps_set (i := 3) nd rfl (Or.inl rfl) (pe_meth (pv 0) D_Remaining_left.cl m_Remaining_left G_Remaining_left (hr.mono (by decide)) b_Remaining_left .nil pass0 (pa_cons (pv 2) pa_nil)))
      (pss_cons (ps_if (PW.pt (pw_or (pt_not (pt_val (pe_callB (cgIsi K) (by rfl) B.n_isinstance (by decide +kernel) (pa_cons (pv 3) (pa_cons (pe_bltn (v := .ty "list") rfl B.n_list (by decide +kernel) rfl) pa_nil))))) (pw_or1 (pt_cmpR op_ne (pe_callB (cg_repr gg hr) (by rfl) B.n_repr (by decide +kernel) (pa_cons (pv 3) pa_nil)) (pe_callB (cg_repr gg hr) (by rfl) B.n_repr (by decide +kernel) (pa_cons (pe_ix (ixL K) (pv 1) (pv 2) (fun _ _ => rfl)) pa_nil)) (nomark _)))))
      (pss_one (ps_ret pe_bl))
      pss_nil)
      (pss_one (ps_expr (pe_bm PySem.F.plainAttrs_list PySem.F.slot_list_append PySem.F.type_list_append mt_append (pv 3) (pa_cons pe_int pa_nil)))))))
      (pss_one (ps_ret (pe_is D_law_same (hr.mono (by decide)) rfl pass0 (pa_cons (pe_meth0 (pv 0) D_Remaining_single.cl m_Remaining_single G_Remaining_single (hr.mono (by decide)) b_Remaining_single .nil pass0) (pa_cons (pe_cmpR (notInS K) pe_bl (by exact pe_lc (own := [("_law_values", 4)]) (g := (gName 4)) (tt := tYes) rfl nd ((piLst K) (pv 1)) (blkOk_by (N := ["_law_remaining", "_law_left", "_law_v", "_law_told", "_law_values"]) (sc := defScope s_law_agrees) (by decide +kernel)) (fun _ _ _ _ _ => (pg_name (i := 4) nd rfl (Or.inl rfl))) (fun _ _ _ _ _ => pts_nil) (fun _ _ _ _ _ => (pe_cmpR op_eq (pe_callB (cgLen K) (by rfl) B.n_len PySem.boot_len (pa_cons (pv 4) pa_nil)) pe_int (nomark _)))) rfl) pa_nil)))))), ?_⟩
    try dsimp only [L2.cxOf, L2.Cx.nox, L2.Cx.wish]
    rw [st_law_agrees]
    obtain ⟨xs, eL, nL, aL⟩ := hL.open
    walk_at "cg"
    refine r_forR (fun i σ' H' => ∃ (x2 x3 x4 : Option V), σ' = [some (.ref p), some (.ref L), x2, x3, x4] ∧ Kp [] H H') ⟨_, _, _, rfl, .refl⟩ ?_ ?_
    · rintro i σ' H1 hi ⟨x2, x3, x4, rfl, k1⟩
      have z0 : (0 + (i : Int)) = i := by omega
      rw [z0]
      have hi' : (i : Int) < m := by omega
      have hm : (i : Int) ∈ upTo m := mem_upTo.mpr ⟨by omega, hi'⟩
      have d1 := ok _ hm
      have hR1 := hR.kp0 k1
      walk_at "cg"
      refine ⟨p, d, m, D, i, rfl, hR1, hD.kp0 k1, hm, fun l H2 hl el k2 => ?_⟩
      have bnd : ∀ x ∈ D (i : Int), -1000000 ≤ x ∧ x ≤ 1000000 := fun x hx => by have := d1.bd x hx; omega
      have dl := d1.len
      have hl2 : ((D (i : Int)).map V.int).length ≤ 2001 := by rw [List.length_map]; exact dl
      walk_at "cg"
      refine r_reprI el dl bnd ?_
      walk_at "cg"
      refine r_getLD (hL.kp0 (Kp.tr0 k2 k1)) (by omega) hi' fun b hb => ?_
      walk_at "cg"
      refine r_reprI hb dl bnd ?_
      walk_at "cg"
      refine r_app el (small1e4 (by omega)) fun H3 e3 k3 => ?_
      exact ⟨_, _, _, rfl, Kp.trN k3 (Kp.tr0 k2 k1) (k1.free0 hl)⟩
    · rintro σ' H1 ⟨x2, x3, x4, rfl, k1⟩
      have hR1 := hR.kp0 k1
      walk_at "cg"
      refine ⟨p, d, m, D, rfl, hR1, m60, hD.kp0 k1, ok, fun H2 k2 => ?_⟩
      have K2 := Kp.tr0 k2 k1
      walk_at "cg"
      refine lcL_x (K2.get0 eL) (fun i => decide ((D (i : Int)).length = 1)) (by omega) (fun i x H' R R' hx kk q1 => ?_) (fun B1 H3 hB eB k3 => ?_)
      · obtain ⟨b, rfl, hb⟩ := aL i x hx
        have hb2 := kk.get0 (K2.get0 hb)
        walk_at "cg"
        have el : (((D (i : Int)).map V.int).length : Int) = (D (i : Int)).length := by simp
        rw [show (decide ((D (i : Int)).length = 1)) = decide ((((D (i : Int)).map V.int).length : Int) = 1) by rw [el]; exact decide_eq_decide.mpr (by omega)] at q1
        exact q1 _ .refl
      walk_at "cg"
      refine r_inL (b := oneB m D) eB rfl (flat_bls _) (by
        rw [if_pos rfl]
        have e : ((List.range xs.length).map fun i : Nat => decide ((D (i : Int)).length = 1)).all id = oneB m D := by
          rw [nL]
          unfold oneB upTo
          rw [List.all_map, List.all_map]
          rfl
        rw [← e]
        exact inV_false _) ?_
      walk_at "cg"
      rw [decide_eq_true rfl]
      exact k _ (Kp.tr0 k3 K2)
end

/-- how the law stands between two deeds -/
structure LI (K : PySem.W.Frag) (C C2 : Addr) (t c : Addr) (b : MA) (p d L : Addr) (m : Nat) (D DL : Dm) (us : List Un) (H : Hp) : Prop where
  T : Tp t c H
  M : MdlAt K C H b ⟨us, [], goal0⟩
  hu : us.length = m
  A : Alc (t :: c :: b.all) H
  R : RemAt K C2 H p d m
  DD : DomF (t :: c :: b.all) H d (upTo m) D
  ok : DomOk (upTo m) D
  LL : LDomF (t :: c :: b.all) H L m DL
  nL : L ∉ t :: c :: b.all
  nb : ∀ x ∈ b.all, x ≠ t ∧ x ≠ c
  np : p ∉ t :: c :: b.all
  nd : d ∉ t :: c :: b.all
  m1 : 1 ≤ m
section
variable {K : PySem.W.Frag} {C C2 t c : Addr} {b : MA} {p d L : Addr} {m : Nat} {D DL D' : Dm} {us us' : List Un} {H H' : Hp}
theorem LI.kp0 (k : Kp [] H H') (h : LI K C C2 t c b p d L m D DL us H) : LI K C C2 t c b p d L m D DL us H' :=
  ⟨h.T.kp0 k, h.M.kp0 k, h.hu, h.A.kp0 k, h.R.kp0 k, h.DD.kp0 k, h.ok, h.LL.kp0 k, h.nL, h.nb, h.np, h.nd, h.m1⟩
theorem LI.kpt (k : Kp [t] H H') (T' : Tp t c H') (h : LI K C C2 t c b p d L m D DL us H) : LI K C C2 t c b p d L m D DL us H' := by
  have s : ∀ x ∈ [t], x ∈ t :: c :: b.all := fun x hx => by rw [List.mem_singleton] at hx; rw [hx]; exact List.mem_cons_self
  exact ⟨T', h.M.kp k fun x hx z => (h.nb x hx).1 (by simpa using z), h.hu, h.A.kp k fun b hb => by
      rw [List.mem_singleton] at hb
      obtain ⟨ns, k, zz, h5, h6, _⟩ := T'.ex
      rw [hb]
      exact ⟨_, h5⟩, h.R.kp k fun z => h.np (s _ z), h.DD.kpS k (fun z => h.nd (s _ z)) s, h.ok, h.LL.kpS k (fun z => h.nL (s _ z)) s, h.nL, h.nb, h.np, h.nd, h.m1⟩
theorem LI.kpd (k : Kp [d] H H') (h : LI K C C2 t c b p d L m D DL us H) (D1 : DomF (t :: c :: b.all) H' d (upTo m) D') (ok : DomOk (upTo m) D') : LI K C C2 t c b p d L m D' DL us H' := by
  obtain ⟨dx, fs, o1, _⟩ := h.R.ob
  obtain ⟨f, e⟩ := h.DD.isD
  obtain ⟨f', e'⟩ := D1.isD
  have n : ∀ x ∈ t :: c :: b.all, x ≠ d := fun x hx z => h.nd (z ▸ hx)
  exact ⟨h.T.kp1 k (n t List.mem_cons_self) (n c (List.mem_cons_of_mem _ List.mem_cons_self)), h.M.kp k fun x hx z => n x (List.mem_cons_of_mem _ (List.mem_cons_of_mem _ hx)) (by simpa using z), h.hu, h.A.kp k fun b hb => by
      rw [List.mem_singleton] at hb
      rw [hb]
      exact ⟨_, e'⟩, h.R.kp k (fun z => by
      rw [List.mem_singleton] at z
      rw [z, e] at o1
      cases o1), D1, ok, h.LL.kpD k e, h.nL, h.nb, h.np, h.nd, h.m1⟩
theorem LI.kpL (k : Kp [L] H H') (h : LI K C C2 t c b p d L m D DL us H) (L1 : LDomF (t :: c :: b.all) H' L m D') : LI K C C2 t c b p d L m D D' us H' := by
  obtain ⟨dx, fs, o1, _⟩ := h.R.ob
  obtain ⟨f, e, a⟩ := h.DD.ex
  obtain ⟨g, eL, _⟩ := h.LL.ex
  obtain ⟨g', eL', _⟩ := L1.ex
  have n : ∀ x ∈ t :: c :: b.all, x ≠ L := fun x hx z => h.nL (z ▸ hx)
  exact ⟨h.T.kp1 k (n t List.mem_cons_self) (n c (List.mem_cons_of_mem _ List.mem_cons_self)), h.M.kp k fun x hx z => n x (List.mem_cons_of_mem _ (List.mem_cons_of_mem _ hx)) (by simpa using z), h.hu, h.A.kp k fun b hb => by
      rw [List.mem_singleton] at hb
      rw [hb]
      exact ⟨_, eL'⟩, h.R.kp k (fun z => by
      rw [List.mem_singleton] at z
      rw [z, eL] at o1
      cases o1), ⟨f, k.get1 (fun z => by rw [z, eL] at e; cases e) e, fun v hv => ⟨k.get1 (fun z => by
        have q := (a v hv).1
        rw [z, eL] at q
        have ne := (h.ok v hv).ne
        have m1 := h.m1
        cases hD : D v with
        | nil => exact ne hD
        | cons y ys =>
          rw [hD] at q
          obtain ⟨m0, rfl⟩ : ∃ m0, m = m0 + 1 := ⟨m - 1, by omega⟩
          have q := congrArg (fun o : Option HO => match o with | some (.lst (x :: _)) => some x | _ => none) q
          simp [upTo, List.range_succ_eq_map] at q) (a v hv).1, (a v hv).2⟩⟩, h.ok, L1, h.nL, h.nb, h.np, h.nd, h.m1⟩
theorem LI.newL {L' : Addr} (h : LI K C C2 t c b p d L m D DL us H) (L1 : LDomF (t :: c :: b.all) H L' m D') (n : L' ∉ t :: c :: b.all) : LI K C C2 t c b p d L' m D D' us H :=
  ⟨h.T, h.M, h.hu, h.A, h.R, h.DD, h.ok, L1, n, h.nb, h.np, h.nd, h.m1⟩
theorem LI.kpm (k : Kp [b.l, b.h] H H') (h : LI K C C2 t c b p d L m D DL us H) (M1 : MdlAt K C H' b ⟨us', [], goal0⟩) (hu : us'.length = us.length) : LI K C C2 t c b p d L m D DL us' H' := by
  have s : ∀ x ∈ [b.l, b.h], x ∈ b.all := fun x hx => by
    simp only [List.mem_cons, List.not_mem_nil, or_false] at hx
    rcases hx with rfl | rfl <;> simp [MA.all]
  have s2 : ∀ x ∈ [b.l, b.h], x ∈ t :: c :: b.all := fun x hx => List.mem_cons_of_mem _ (List.mem_cons_of_mem _ (s x hx))
  exact ⟨h.T.kp k (fun z => (h.nb _ (s _ z)).1 rfl) (fun z => (h.nb _ (s _ z)).2 rfl), M1, by rw [hu, h.hu], h.A.kp k fun x hx => by
      simp only [List.mem_cons, List.not_mem_nil, or_false] at hx
      rcases hx with rfl | rfl
      · exact ⟨_, M1.lo⟩
      · exact ⟨_, M1.hi⟩, h.R.kp k fun z => h.np (s2 _ z), h.DD.kpS k (fun z => h.nd (s2 _ z)) s2, h.ok, h.LL.kpS k (fun z => h.nL (s2 _ z)) s2, h.nL, h.nb, h.np, h.nd, h.m1⟩
end
section
variable {P : Program} {w : World} {K : PySem.W.Frag} {mg : Str → Option Value} {base : Heap} {C_Model C_Remaining : Addr}
theorem ok_law {f : Addr} {fd : FuncData} (F : Fun K "law" "law" s_law f fd) (B : Bi K mg C_Model C_Remaining) (D_law_tape : Is P w K mg base CX0 1 "_law_tape" ["_law_script"] (spTape K)) (D_Model___init__ : IsI P w K mg base CX0 2 C_Model "Model" ["self", "unknowns"] (spInit K C_Model)) (D_Remaining___init__ : IsI P w K mg base CX0 4 C_Remaining "Remaining" ["self", "model"] (spRInit K C_Model C_Remaining)) (D_law_world : Is P w K mg base CX0 4 "_law_world" ["_law_tape_here", "_law_most", "_law_width", "_law_bodies"] (spWorld K)) (D_law_agrees : IsG P w K mg base CX0 2 "_law_agrees" ["_law_remaining", "_law_left"] (spAgrees K C_Remaining)) (D_law_draw : Is P w K mg base CX0 1 "_law_draw" ["_law_tape_here", "_law_many"] spDraw) (D_Remaining_fix : IsM P w K mg base CX0 1 C_Remaining "fix" ["self", "v", "a"] (spFix K C_Remaining)) (D_Model_move : IsM P w K mg base CX0 2 C_Model "move" ["self", "v", "low", "high"] (spMove K C_Model)) (D_law_fact : Is P w K mg base CX0 3 "_law_fact" ["_law_tape_here", "_law_many"] (spLawFact K)) (D_law_apply : Is P w K mg base CX0 2 "_law_apply" ["_law_left", "_law_fact_here"] (spLApply K)) (D_Remaining_apply : IsM P w K mg base CX0 4 C_Remaining "apply" ["self", "fact"] (spRApply K C_Remaining)) (D_law_lost : Is P w K mg base CX0 1 "_law_lost" ["_law_left", "_law_new"] (spLost K)) : FnOkG P w K mg base CX0 6 f fd ["_law_script"] (spLaw K) := by
  have nd := sc_law.nd
  obtain ⟨f_Model___init__, fd_Model___init__, G_Model___init__, m_Model___init__, b_Model___init__, g_Model___init__⟩ := D_Model___init__.ex
  obtain ⟨f_Remaining___init__, fd_Remaining___init__, G_Remaining___init__, m_Remaining___init__, b_Remaining___init__, g_Remaining___init__⟩ := D_Remaining___init__.ex
  obtain ⟨f_Remaining_fix, fd_Remaining_fix, G_Remaining_fix, m_Remaining_fix, b_Remaining_fix⟩ := D_Remaining_fix.ex
  obtain ⟨f_Model_move, fd_Model_move, G_Model_move, m_Model_move, b_Model_move⟩ := D_Model_move.ex
  obtain ⟨f_Remaining_apply, fd_Remaining_apply, G_Remaining_apply, m_Remaining_apply, b_Remaining_apply⟩ := D_Remaining_apply.ex
  refine okG F sc_law ?len (fun cdv A outer s H vs Q E gg hr h => ?body)
  case len =>
    rintro vs H Q E ⟨a, ns, rfl, _⟩
    rfl
  case body =>
    obtain ⟨a, ns, rfl, hS, hl, q⟩ := h
    refine ⟨_, (pss_cons (ps_set (i := 1) nd rfl (Or.inl rfl) (pe_is D_law_tape (hr.mono (by decide)) rfl pass0 (pa_cons (pv 0) pa_nil)))
      (pss_cons (ps_set (i := 2) nd rfl (Or.inl rfl) (pe_ix (ixL K) (pe_is D_law_world (hr.mono (by decide)) rfl pass0 (pa_cons (pv 1) (pa_cons pe_int (pa_cons pe_int (pa_cons pe_int pa_nil))))) pe_int (fun _ _ => rfl)))
      (pss_cons (ps_set (i := 3) nd rfl (Or.inl rfl) (pe_callB (cgLen K) (by rfl) B.n_len PySem.boot_len (pa_cons (pv 2) pa_nil)))
      (pss_cons (ps_set (i := 4) nd rfl (Or.inl rfl) (pe_make m_Model___init__ G_Model___init__ (hr.mono (by decide)) rfl g_Model___init__ b_Model___init__ .nil pass0 (pa_cons (pe_callTy (cgList K) (by rfl) B.n_list (by decide +kernel) (pa_cons (pv 2) pa_nil)) pa_nil)))
      (pss_cons (ps_set (i := 5) nd rfl (Or.inl rfl) (pe_make m_Remaining___init__ G_Remaining___init__ (hr.mono (by decide)) rfl g_Remaining___init__ b_Remaining___init__ .nil pass0 (pa_cons (pv 4) pa_nil)))
      (pss_cons (ps_setLc (i := 6) (own := [("_law_name", 14), ("_law_low", 15), ("_law_high", 16)]) (g := (gTup K 3 (gCons (gName 14) (gCons (gName 15) (gCons (gName 16) gNil))))) (tt := tYes) rfl nd rfl rfl (sw_true rfl rfl rfl (by decide +kernel)) ((piLst K) (pv 2)) (blkOk_by (N := ["_law_script", "_law_tape_here", "_law_unknowns", "_law_many", "_law_model", "_law_remaining", "_law_left", "_law_k", "_law_kind", "_law_v", "_law_a", "_law_fact_here", "_law_new", "_law_told", "_law_name", "_law_low", "_law_high"]) (sc := defScope s_law) (by decide +kernel)) (fun _ _ _ _ _ => (pg_tup (n := 3) rfl (pgs_cons (pg_name (i := 14) nd rfl (Or.inl rfl)) (pgs_cons (pg_name (i := 15) nd rfl (Or.inl rfl)) (pgs_cons (pg_name (i := 16) nd rfl (Or.inl rfl)) pgs_nil))))) (fun _ _ _ _ _ => pts_nil) (fun _ _ _ _ _ => (pe_listRg rfl (by rfl) B.n_list (prg_2 (by rfl) B.n_range (pv 15) (pe_op op_add (pv 16) pe_int)))))
      (pss_cons (ps_if (pt_not (pt_val (pe_isG D_law_agrees gg (hr.mono (by decide)) rfl pass0 (pa_cons (pv 5) (pa_cons (pv 6) pa_nil)))))
      (pss_one (ps_ret pe_bl))
      pss_nil)
      (pss_cons (ps_for PassesOwn.never rfl (pi_range1 rfl B.n_range (pa_cons (pe_is D_law_draw (hr.mono (by decide)) rfl pass0 (pa_cons (pv 1) (pa_cons pe_int pa_nil))) pa_nil)) (pg_name (i := 7) nd rfl (Or.inl rfl))
      (pss_cons (ps_set (i := 8) nd rfl (Or.inl rfl) (pe_is D_law_draw (hr.mono (by decide)) rfl pass0 (pa_cons (pv 1) (pa_cons pe_int pa_nil))))
      (Evl.pss_cut (ps_if (pt_cmpR op_eq (pv 8) pe_int (nomark _))
      (pss_cons (ps_set (i := 9) nd rfl (Or.inl rfl) (pe_is D_law_draw (hr.mono (by decide)) rfl pass0 (pa_cons (pv 1) (pa_cons (pv 3) pa_nil))))
      (pss_cons (ps_set (i := 10) nd rfl (Or.inl rfl) (pe_ix (ixL K) (pe_ix (ixL K) (pv 6) (pv 9) (fun _ _ => rfl)) (pe_is D_law_draw (hr.mono (by decide)) rfl pass0 (pa_cons (pv 1) (pa_cons (pe_callB (cgLen K) (by rfl) B.n_len PySem.boot_len (pa_cons (pe_ix (ixL K) (pv 6) (pv 9) (fun _ _ => rfl)) pa_nil)) pa_nil))) (fun _ _ => rfl)))
      (pss_cons (ps_expr (pe_meth (pv 5) D_Remaining_fix.cl m_Remaining_fix G_Remaining_fix (hr.mono (by decide)) b_Remaining_fix .nil pass0 (pa_cons (pv 9) (pa_cons (pv 10) pa_nil))))
      (pss_one (ps_asg (pe_lst (pa_cons (pv 10) pa_nil)) (pg_sub (pv 6) (pv 9) set_list))))))
      (pss_one (ps_if (pt_cmpR op_eq (pv 8) pe_int (nomark _))
      (pss_one (ps_expr (pe_meth (pv 4) D_Model_move.cl m_Model_move G_Model_move (hr.mono (by decide)) b_Model_move .nil pass0 (pa_cons (pe_is D_law_draw (hr.mono (by decide)) rfl pass0 (pa_cons (pv 1) (pa_cons (pv 3) pa_nil))) (pa_cons (pe_op op_sub pe_int pe_int) (pa_cons (pe_op op_add pe_int (pv 7)) pa_nil))))))
      (pss_cons (ps_set (i := 11) nd rfl (Or.inl rfl) (pe_is D_law_fact (hr.mono (by decide)) rfl pass0 (pa_cons (pv 1) (pa_cons (pv 3) pa_nil))))
      (pss_cons (ps_set (i := 12) nd rfl (Or.inl rfl) (pe_is D_law_apply (hr.mono (by decide)) rfl pass0 (pa_cons (pv 6) (pa_cons (pv 11) pa_nil))))
      (pss_cons (ps_set (i := 13) nd rfl (Or.inl rfl) (pe_meth (pv 5) D_Remaining_apply.cl m_Remaining_apply G_Remaining_apply (hr.mono (by decide)) b_Remaining_apply .nil pass0 (pa_cons (pv 11) pa_nil)))
      (pss_one (ps_if (pt_cmpR cg_isN (pv 12) pe_non (nomark _))
      (pss_one (ps_if (pt_cmpR cg_notN (pv 13) pe_non (nomark _))
      (pss_one (ps_ret pe_bl))
      pss_nil))
      (pss_cons (ps_if (pt_cmpR op_ne (pe_callB (cg_repr gg hr) (by rfl) B.n_repr (by decide +kernel) (pa_cons (pv 13) pa_nil)) (pe_callB (cg_repr gg hr) (by rfl) B.n_repr (by decide +kernel) (pa_cons (pe_is D_law_lost (hr.mono (by decide)) rfl pass0 (pa_cons (pv 6) (pa_cons (pv 12) pa_nil))) pa_nil)) (nomark _))
      (pss_one (ps_ret pe_bl))
      pss_nil)
      (pss_one (ps_set (i := 6) nd rfl (Or.inl rfl) (pv 12))))))))))))
      (pss_one (ps_if (pt_not (pt_val (pe_isG D_law_agrees gg (hr.mono (by decide)) rfl pass0 (pa_cons (pv 5) (pa_cons (pv 6) pa_nil)))))
      (pss_one (ps_ret pe_bl))
      pss_nil)))))
      (pss_one (ps_ret pe_bl)))))))))), ?_⟩
    try dsimp only [L2.cxOf, L2.Cx.nox, L2.Cx.wish]
    rw [st_law]
    have cm := B.cl_Model
    have cr := B.cl_Remaining
    walk_at "cg"
    refine ⟨a, ns, rfl, hS, fun t c H1 ht hc T1 k1 => ?_⟩
    walk_at "cg"
    refine ⟨t, c, 4, 6, 0, rfl, T1, by decide, by decide, by decide, by decide, by decide, by decide, fun wa M H2 W2 ok sm fw T2 k2 => ?_⟩
    obtain ⟨pg, w1, w2⟩ := W2.w
    obtain ⟨r1, w3, w4⟩ := W2.u
    have nut : wa.u ≠ t := Tp.nef (fw wa.u (by simp [WA.all])) T1
    have n1 := ok.n0
    have n4 : M.us.length ≤ 4 := by have := sm.n; omega
    have hrl := mapLenP w4
    have ub : ∀ u ∈ M.us, -2 ≤ u.2.1 ∧ u.2.1 ≤ u.2.2 ∧ u.2.2 ≤ 8 := fun u hu => by
      have s1 := sm.u u hu
      have s2 := (ok.un u hu).2.2
      omega
    clear k1 k2 fw T1
    walk_at "cg"
    refine r_listL (SqL.of w3) fun l H3 hl3 el k3 => ?_
    walk_at "cg"
    refine r_make fun p dx H4 hp ep k4 => ?_
    refine ⟨p, l, dx, r1, M.us, rfl, ep, k4.get0 el, k4.imAll (k3.imAll w4), n1, ok.n1, ok.un, ok.nd, fun b H5 eb MB fr k5 => ⟨rfl, ?_⟩⟩
    subst eb
    have K5 : Kp [] H2 H5 := Kp.trN k5 (Kp.tr0 k4 k3) (k3.free0 hp)
    have frH : ∀ x ∈ b.all, H2 x = none := fun x hx => by
      rcases fr x hx with e | e
      · rw [e]
        exact k3.free0 hp
      · exact k3.free0 (k4.free0 e)
    have T5 := T2.kp0 K5
    have bt : ∀ x ∈ b.all, x ≠ t ∧ x ≠ c := fun x hx => ⟨Tp.nef (frH x hx) T2, Tp.nefc (frH x hx) T2⟩
    have w5 := K5.get0 w3
    have w6 := K5.imAll w4
    have uok : usOk M.us := fun u hu => by have := ub u hu; omega
    clear k3 k4 k5 el ep hl3 hp fr frH K5 T2 w1 w2 w3 w4 W2
    have alc : Alc (t :: c :: b.all) H5 := ⟨fun s hs z => by
      obtain ⟨dx, fs, g, h1, _⟩ := MB.ob
      obtain ⟨kvs, h4, _⟩ := MB.bo
      obtain ⟨ns, k, zz, h5, h6, _⟩ := T5.ex
      simp only [MA.all, List.mem_cons, List.not_mem_nil, or_false] at hs
      rcases hs with rfl | rfl | rfl | rfl | rfl | rfl | rfl
      · rw [h5] at z; cases z
      · rw [h6] at z; cases z
      all_goals first
        | (rw [h1] at z; cases z)
        | (rw [MB.nm] at z; cases z)
        | (rw [MB.lo] at z; cases z)
        | (rw [MB.hi] at z; cases z)
        | (rw [h4] at z; cases z)⟩
    walk_at "cg"
    refine r_make fun p2 dx2 H6 hp2 ep2 k6 => ?_
    refine ⟨p2, dx2, b, ⟨M.us, [], goal0⟩, t :: c :: b.all, rfl, alc.kp0 k6, ep2, MB.kp0 k6, (show M.us.length ≤ 60 by omega), uok, fun d H7 hd R7 D7 k7 => ⟨rfl, ?_⟩⟩
    have K7 : Kp [] H5 H7 := Kp.trN k7 k6 hp2
    have T7 := T5.kp0 K7
    have M7 := MB.kp0 K7
    have A7 := alc.kp0 K7
    have w7 := K7.get0 w5
    have w8 := K7.imAll w6
    have np2 : p2 ∉ t :: c :: b.all := alc.no hp2
    have nd : d ∉ t :: c :: b.all := (alc.kp0 k6).no hd
    have dOk : DomOk (upTo M.us.length) (fullD M.us) := fullD_ok uok fun v hv => mem_upTo.mp hv
    clear k6 k7 K7 T5 MB alc w5 w6 ep2 hp2 hd
    walk_at "cg"
    refine lcL_D w7 A7 (fullD M.us) M.us.length hrl (by omega) (fun i x H' R R' hi hx kk q1 => ?_) (fun L H8 hL L8 k8 => ?_)
    · obtain ⟨z, hz, hzx⟩ := mapGetP (kk.imAll w8) hx
      obtain ⟨pz, rfl, sz⟩ := un_at hzx
      have oz := uok z (List.mem_of_getElem? hz)
      have ef : fullD M.us (i : Int) = rgI z.2.1 (z.2.2 + 1) := by
        unfold fullD
        rw [Int.toNat_natCast, hz]
      rw [ef] at q1
      walk_at "cg"
      refine r_lstRg (by omega) (by omega) fun l2 H2 hl2 el2 k2 => ?_
      exact q1 l2 H2 hl2 el2 k2
    have T8 := T7.kp0 k8
    have M8 := M7.kp0 k8
    have A8 := A7.kp0 k8
    have R8 := R7.kp0 k8
    have D8 := D7.kp0 k8
    have nL : L ∉ t :: c :: b.all := A7.no hL
    rw [hrl]
    have hlen : M.us.length = M.us.length := rfl
    generalize hD0 : fullD M.us = D0 at *
    generalize hm : M.us.length = m at *
    clear k8 T7 M7 A7 R7 D7 w7 w8 hL ub uok hD0
    walk_at "cg"
    refine ⟨p2, d, L, m, D0, rfl, R8, by omega, D8.at, dOk, L8.at, fun H9 k9 => ?_⟩
    have T9 := T8.kp0 k9
    have M9 := M8.kp0 k9
    have A9 := A8.kp0 k9
    have R9 := R8.kp0 k9
    have D9 := D8.kp0 k9
    have L9 := L8.kp0 k9
    clear k9 T8 M8 A8 R8 D8 L8
    have I9 : LI K C_Model C_Remaining t c b p2 d L m D0 D0 M.us H9 := ⟨T9, M9, hm, A9, R9, D9, dOk, L9, nL, bt, np2, nd, n1⟩
    clear T9 M9 A9 R9 D9 dOk L9 nL bt np2 nd hlen hrl
    generalize M.us = us0 at *
    have T9 := I9.T
    walk_at "cg"
    rename_i n0 H10 n00 n01 T10 k10
    have I10 := I9.kpt k10 T10
    clear k10 I9 T9 T10 hm
    refine r_forR (fun i σ' H' => ∃ (L : Addr) (D : Dm) (us : List Un) (x7 x8 x9 x10 x11 x12 x13 x14 x15 x16 : Option V), σ' = [some (.ref a), some (.ref t), some (.ref wa.u), some (.int m), some (.ref b.p), some (.ref p2), some (.ref L), x7, x8, x9, x10, x11, x12, x13, x14, x15, x16] ∧ LI K C_Model C_Remaining t c b p2 d L m D D us H') ⟨_, _, _, _, _, _, _, _, _, _, _, _, _, rfl, I10⟩ ?_ ?_
    · rintro i σ' H1 hi ⟨L, D, us, x7, x8, x9, x10, x11, x12, x13, x14, x15, x16, rfl, I1⟩
      have T1 := I1.T
      walk_at "cg"
      rename_i kd H2 kd0 kd1 T2 k2
      have I2 := I1.kpt k2 T2
      clear I10 I1 T1 T2 k2
      have T2 := I2.T
      refine ⟨fun σ' H' => ∃ (L : Addr) (D : Dm) (us : List Un) (x7 x8 x9 x10 x11 x12 x13 x14 x15 x16 : Option V), σ' = [some (.ref a), some (.ref t), some (.ref wa.u), some (.int m), some (.ref b.p), some (.ref p2), some (.ref L), x7, x8, x9, x10, x11, x12, x13, x14, x15, x16] ∧ LI K C_Model C_Remaining t c b p2 d L m D D us H', ?_, ?_⟩
      · have mb : LtB (m : Int) := .of (by omega)
        walk_at "cg"
        refine if_S (fun g0 => ?_) (fun g0 => ?_)
        · walk_at "cg"
          rename_i v H3 v0 v1 T3 k3
          have I3 := I2.kpt k3 T3
          clear I2 T2 T3 k3
          have T3 := I3.T
          have hv : v ∈ upTo m := mem_upTo.mpr ⟨v0, v1⟩
          have d1 := I3.ok v hv
          have dl := d1.len
          have ne := d1.ne
          have lp : 0 < (D v).length := List.length_pos_iff.mpr ne
          have el : (((D v).map V.int).length : Int) = (D v).length := by simp
          have mb2 : LtB (((D v).map V.int).length : Int) := .of (by omega)
          walk_at "cg"
          refine r_getLD I3.LL.at v0 v1 fun b1 hb1 => ?_
          walk_at "cg"
          refine r_getLD I3.LL.at v0 v1 fun b2 hb2 => ?_
          walk_at "cg"
          rename_i j H4 j0 j1 T4 k4
          have nb1 : b1 ≠ t := by
            obtain ⟨ns', k', z', h5, _⟩ := T3.ex
            refine ne_of hb1 h5 fun e => ?_
            cases hD : D v with
            | nil => exact ne hD
            | cons y ys =>
              rw [hD] at e
              simp at e
          have I4 := I3.kpt k4 T4
          have hb4 := k4.get1 nb1 hb1
          clear I3 T3 T4 k4 hb1 hb2
          refine r_ixL hb4 (atI_ints j0 (by omega)) ?_
          have ha : (D v).getD j.toNat 0 ∈ D v := by
            rw [List.getD_eq_getElem?_getD, List.getElem?_eq_getElem (by omega)]
            exact List.getElem_mem _
          generalize (D v).getD j.toNat 0 = aa at *
          have ba := d1.bd aa ha
          have R4 := I4.R
          walk_at "cg"
          refine ⟨p2, d, m, D, v, aa, _, rfl, I4.A, R4, by omega, I4.DD, hv, fun H5 D5 k5 => ?_⟩
          have I5 := I4.kpd k5 D5 (I4.ok.upd ⟨by simp, by simp, by simp, fun z hz => by simp at hz; omega⟩)
          clear I4 R4 k5 D5 hb4
          walk_at "cg"
          rename_i l6 H6 hl6 el6 k6
          have nl : l6 ≠ L := by
            obtain ⟨g, eL, _⟩ := I5.LL.ex
            exact ne_newR hl6 eL
          have n6 := I5.A.no hl6
          have I6 := I5.kp0 k6
          refine r_setLDF I6.LL v0 v1 (xs := [aa]) el6 nl n6 fun H7 L7 k7 => ?_
          exact ⟨_, _, _, _, _, _, _, _, _, _, _, _, _, rfl, I6.kpL k7 L7⟩
        · walk_at "cg"
          refine if_S (fun g1 => ?_) (fun g1 => ?_)
          · have M2 := I2.M
            walk_at "cg"
            rename_i v H3 v0 v1 T3 k3
            have I3 := I2.kpt k3 T3
            have hu := I3.hu
            refine ⟨b, ⟨us, [], goal0⟩, v, 0 - 5, 5 + (0 + (i : Int)), rfl, I3.M, (show us.length ≤ 60 by omega), v0, (show v < us.length by omega), by omega, by omega, by omega, fun H4 us' hl' M4 k4 => ?_⟩
            exact ⟨_, _, _, _, _, _, _, _, _, _, _, _, _, rfl, I3.kpm k4 M4 hl'⟩
          · walk_at "cg"
            refine ⟨t, c, m, rfl, T2, by omega, by omega, fun qf f H3 hf okf le few T3 k3 => ?_⟩
            have I3 := I2.kpt k3 T3
            clear I2 T2 T3 k3
            walk_at "cg"
            refine ⟨L, qf, m, D, f, _, rfl, I3.A, I3.LL.at, by omega, I3.ok, hf, okf, fun H4 e k4 => ?_, fun D' L' H4 e hL' L4 k4 => ?_⟩
            · have I4 := I3.kp0 k4
              have R4 := I4.R
              have hf4 := k4.im hf
              clear k4 I3 hf
              walk_at "cg"
              refine ⟨p2, d, qf, m, D, f, _, rfl, I4.A, R4, by omega, I4.DD, I4.ok, hf4, okf, fun H5 e5 k5 => ?_, fun D5 l5 H5 e5 _ _ _ _ => by rw [e] at e5; cases e5⟩
              have I5 := I4.kp0 k5
              clear I4 R4 k5
              walk_at "cg"
              exact ⟨_, _, _, _, _, _, _, _, _, _, _, _, _, rfl, I5⟩
            · have I4 := I3.kp0 k4
              have R4 := I4.R
              have hf4 := k4.im hf
              have nL' := I3.A.no hL'
              clear k4 I3 hf
              walk_at "cg"
              refine ⟨p2, d, qf, m, D, f, _, rfl, I4.A, R4, by omega, I4.DD, I4.ok, hf4, okf, fun H5 e5 k5 => (by rw [e] at e5; cases e5), fun D5 l5 H5 e5 DD5 hl5 el5 k5 => ?_⟩
              rw [e] at e5
              cases e5
              have ok5 := applyF_ok I4.ok (fun v hv => mem_upTo.mpr (Fact.ok_vars okf v hv)) e
              obtain ⟨fd, ed⟩ := I4.DD.isD
              have L5 := L4.kpD k5 ed
              have I5 := I4.kpd k5 DD5 ok5
              clear k5 I4 R4 L4 ed
              have bl : ∀ x ∈ lostL m D D', -1000000 ≤ x ∧ x ≤ 1000000 := fun x hx => by have := mem_upTo.mp (List.mem_filter.mp hx).1; omega
              have ll : (lostL m D D').length ≤ 2001 := Nat.le_trans (List.length_filter_le _ _) (by simp [upTo]; omega)
              walk_at "cg"
              refine r_reprI el5 ll bl ?_
              walk_at "cg"
              refine ⟨L, L', m, D, D', rfl, I5.LL.at, L5.at, by omega, fun l6 H6 hl6 el6 k6 => ?_⟩
              have I6 := (I5.newL L5 nL').kp0 k6
              clear I5 L5 k6
              walk_at "cg"
              refine r_reprI el6 ll bl ?_
              walk_at "cg"
              exact ⟨_, _, _, _, _, _, _, _, _, _, _, _, _, rfl, I6⟩
      · clear I2 T2
        rintro σ' H3 ⟨L, D, us, x7, x8, x9, x10, x11, x12, x13, x14, x15, x16, rfl, I3⟩
        walk_at "cg"
        refine ⟨p2, d, L, m, D, rfl, I3.R, by omega, I3.DD.at, I3.ok, I3.LL.at, fun H4 k4 => ?_⟩
        have I4 := I3.kp0 k4
        clear I3 k4
        walk_at "cg"
        exact ⟨_, _, _, _, _, _, _, _, _, _, _, _, _, rfl, I4⟩
    · rintro σ' H1 ⟨L, D, us, x7, x8, x9, x10, x11, x12, x13, x14, x15, x16, rfl, I1⟩
      walk_at "cg"
      exact q _
end

theorem all_mk {l : PySem.W.OpenLaw} {w : World} {K : PySem.W.Frag} {h : Heap} {mg : Str → Option Value} {fa : Addr} (X : K.In h) (G : h.Ns mainGlobals mg) (hfa : mg "law" = some (.ref fa))
    {C_Remaining : Addr} (a_Remaining : PySem.W.nsIn K mainGlobals "Remaining" = some (some (.ref C_Remaining))) (pg_Remaining : PySem.W.plainGet K C_Remaining Str.empty = true) (hd_Remaining : PySem.W.hasDictIn K C_Remaining = true) (po_Remaining : PySem.W.plainOver K C_Remaining = true) (sa_Remaining : PySem.W.findIn K (.ref C_Remaining) "__setattr__" = some (some (.builtin "object.__setattr__"))) (mk_Remaining : PySem.W.makesIn K C_Remaining = true) (kc_Remaining : PySem.W.keepIn K (.ref C_Remaining) = true) (n_Remaining__many : PySem.W.findIn K (.ref C_Remaining) "_many" = some none) (n_Remaining__domains : PySem.W.findIn K (.ref C_Remaining) "_domains" = some none)
    {C_Model : Addr} (a_Model : PySem.W.nsIn K mainGlobals "Model" = some (some (.ref C_Model))) (pg_Model : PySem.W.plainGet K C_Model Str.empty = true) (hd_Model : PySem.W.hasDictIn K C_Model = true) (po_Model : PySem.W.plainOver K C_Model = true) (sa_Model : PySem.W.findIn K (.ref C_Model) "__setattr__" = some (some (.builtin "object.__setattr__"))) (mk_Model : PySem.W.makesIn K C_Model = true) (kc_Model : PySem.W.keepIn K (.ref C_Model) = true) (n_Model__names : PySem.W.findIn K (.ref C_Model) "_names" = some none) (n_Model__lows : PySem.W.findIn K (.ref C_Model) "_lows" = some none) (n_Model__highs : PySem.W.findIn K (.ref C_Model) "_highs" = some none) (n_Model__bodies : PySem.W.findIn K (.ref C_Model) "_bodies" = some none) (n_Model__goal : PySem.W.findIn K (.ref C_Model) "_goal" = some none)
    {od_relation_holds an_relation_holds : Option Addr} {sl_relation_holds : Array (Option Value)} {f_relation_holds : Addr} {oc_relation_holds kV_relation_holds dc_relation_holds pm_relation_holds cd_relation_holds ct_relation_holds : Value}
    {od_literal_holds an_literal_holds : Option Addr} {sl_literal_holds : Array (Option Value)} {f_literal_holds : Addr} {oc_literal_holds kV_literal_holds dc_literal_holds pm_literal_holds cd_literal_holds ct_literal_holds : Value}
    {od_terms_sum an_terms_sum : Option Addr} {sl_terms_sum : Array (Option Value)} {f_terms_sum : Addr} {oc_terms_sum kV_terms_sum dc_terms_sum pm_terms_sum cd_terms_sum ct_terms_sum : Value}
    {od_unknowns_in an_unknowns_in : Option Addr} {sl_unknowns_in : Array (Option Value)} {f_unknowns_in : Addr} {oc_unknowns_in kV_unknowns_in dc_unknowns_in pm_unknowns_in cd_unknowns_in ct_unknowns_in : Value}
    {od_full_domains an_full_domains : Option Addr} {sl_full_domains : Array (Option Value)} {f_full_domains : Addr} {oc_full_domains kV_full_domains dc_full_domains pm_full_domains cd_full_domains ct_full_domains : Value}
    {od_keep_literal an_keep_literal : Option Addr} {sl_keep_literal : Array (Option Value)} {f_keep_literal : Addr} {oc_keep_literal kV_keep_literal dc_keep_literal pm_keep_literal cd_keep_literal ct_keep_literal : Value}
    {od_least_of an_least_of : Option Addr} {sl_least_of : Array (Option Value)} {f_least_of : Addr} {oc_least_of kV_least_of dc_least_of pm_least_of cd_least_of ct_least_of : Value}
    {od_apply_row an_apply_row : Option Addr} {sl_apply_row : Array (Option Value)} {f_apply_row : Addr} {oc_apply_row kV_apply_row dc_apply_row pm_apply_row cd_apply_row ct_apply_row : Value}
    {od_live_literals an_live_literals : Option Addr} {sl_live_literals : Array (Option Value)} {f_live_literals : Addr} {oc_live_literals kV_live_literals dc_live_literals pm_live_literals cd_live_literals ct_live_literals : Value}
    {od_Remaining___init__ an_Remaining___init__ : Option Addr} {sl_Remaining___init__ : Array (Option Value)} {f_Remaining___init__ : Addr} {oc_Remaining___init__ kV_Remaining___init__ dc_Remaining___init__ pm_Remaining___init__ cd_Remaining___init__ ct_Remaining___init__ : Value}
    {od_Remaining_left an_Remaining_left : Option Addr} {sl_Remaining_left : Array (Option Value)} {f_Remaining_left : Addr} {oc_Remaining_left kV_Remaining_left dc_Remaining_left pm_Remaining_left cd_Remaining_left ct_Remaining_left : Value}
    {od_Remaining_fix an_Remaining_fix : Option Addr} {sl_Remaining_fix : Array (Option Value)} {f_Remaining_fix : Addr} {oc_Remaining_fix kV_Remaining_fix dc_Remaining_fix pm_Remaining_fix cd_Remaining_fix ct_Remaining_fix : Value}
    {od_Remaining_single an_Remaining_single : Option Addr} {sl_Remaining_single : Array (Option Value)} {f_Remaining_single : Addr} {oc_Remaining_single kV_Remaining_single dc_Remaining_single pm_Remaining_single cd_Remaining_single ct_Remaining_single : Value}
    {od_Remaining_apply an_Remaining_apply : Option Addr} {sl_Remaining_apply : Array (Option Value)} {f_Remaining_apply : Addr} {oc_Remaining_apply kV_Remaining_apply dc_Remaining_apply pm_Remaining_apply cd_Remaining_apply ct_Remaining_apply : Value}
    {od_is_label an_is_label : Option Addr} {sl_is_label : Array (Option Value)} {f_is_label : Addr} {oc_is_label kV_is_label dc_is_label pm_is_label cd_is_label ct_is_label : Value}
    {od_bounds_fit an_bounds_fit : Option Addr} {sl_bounds_fit : Array (Option Value)} {f_bounds_fit : Addr} {oc_bounds_fit kV_bounds_fit dc_bounds_fit pm_bounds_fit cd_bounds_fit ct_bounds_fit : Value}
    {od_Model___init__ an_Model___init__ : Option Addr} {sl_Model___init__ : Array (Option Value)} {f_Model___init__ : Addr} {oc_Model___init__ kV_Model___init__ dc_Model___init__ pm_Model___init__ cd_Model___init__ ct_Model___init__ : Value}
    {od_Model__need an_Model__need : Option Addr} {sl_Model__need : Array (Option Value)} {f_Model__need : Addr} {oc_Model__need kV_Model__need dc_Model__need pm_Model__need cd_Model__need ct_Model__need : Value}
    {od_Model_many an_Model_many : Option Addr} {sl_Model_many : Array (Option Value)} {f_Model_many : Addr} {oc_Model_many kV_Model_many dc_Model_many pm_Model_many cd_Model_many ct_Model_many : Value}
    {od_Model_low an_Model_low : Option Addr} {sl_Model_low : Array (Option Value)} {f_Model_low : Addr} {oc_Model_low kV_Model_low dc_Model_low pm_Model_low cd_Model_low ct_Model_low : Value}
    {od_Model_high an_Model_high : Option Addr} {sl_Model_high : Array (Option Value)} {f_Model_high : Addr} {oc_Model_high kV_Model_high dc_Model_high pm_Model_high cd_Model_high ct_Model_high : Value}
    {od_Model_has an_Model_has : Option Addr} {sl_Model_has : Array (Option Value)} {f_Model_has : Addr} {oc_Model_has kV_Model_has dc_Model_has pm_Model_has cd_Model_has ct_Model_has : Value}
    {od_Model_move an_Model_move : Option Addr} {sl_Model_move : Array (Option Value)} {f_Model_move : Addr} {oc_Model_move kV_Model_move dc_Model_move pm_Model_move cd_Model_move ct_Model_move : Value}
    {od_law_draw an_law_draw : Option Addr} {sl_law_draw : Array (Option Value)} {f_law_draw : Addr} {oc_law_draw kV_law_draw dc_law_draw pm_law_draw cd_law_draw ct_law_draw : Value}
    {od_law_tape an_law_tape : Option Addr} {sl_law_tape : Array (Option Value)} {f_law_tape : Addr} {oc_law_tape kV_law_tape dc_law_tape pm_law_tape cd_law_tape ct_law_tape : Value}
    {od_law_terms an_law_terms : Option Addr} {sl_law_terms : Array (Option Value)} {f_law_terms : Addr} {oc_law_terms kV_law_terms dc_law_terms pm_law_terms cd_law_terms ct_law_terms : Value}
    {od_law_literal an_law_literal : Option Addr} {sl_law_literal : Array (Option Value)} {f_law_literal : Addr} {oc_law_literal kV_law_literal dc_law_literal pm_law_literal cd_law_literal ct_law_literal : Value}
    {od_law_some an_law_some : Option Addr} {sl_law_some : Array (Option Value)} {f_law_some : Addr} {oc_law_some kV_law_some dc_law_some pm_law_some cd_law_some ct_law_some : Value}
    {od_law_body an_law_body : Option Addr} {sl_law_body : Array (Option Value)} {f_law_body : Addr} {oc_law_body kV_law_body dc_law_body pm_law_body cd_law_body ct_law_body : Value}
    {od_law_world an_law_world : Option Addr} {sl_law_world : Array (Option Value)} {f_law_world : Addr} {oc_law_world kV_law_world dc_law_world pm_law_world cd_law_world ct_law_world : Value}
    {od_law_rel an_law_rel : Option Addr} {sl_law_rel : Array (Option Value)} {f_law_rel : Addr} {oc_law_rel kV_law_rel dc_law_rel pm_law_rel cd_law_rel ct_law_rel : Value}
    {od_law_fact an_law_fact : Option Addr} {sl_law_fact : Array (Option Value)} {f_law_fact : Addr} {oc_law_fact kV_law_fact dc_law_fact pm_law_fact cd_law_fact ct_law_fact : Value}
    {od_law_same an_law_same : Option Addr} {sl_law_same : Array (Option Value)} {f_law_same : Addr} {oc_law_same kV_law_same dc_law_same pm_law_same cd_law_same ct_law_same : Value}
    {od_law_apply an_law_apply : Option Addr} {sl_law_apply : Array (Option Value)} {f_law_apply : Addr} {oc_law_apply kV_law_apply dc_law_apply pm_law_apply cd_law_apply ct_law_apply : Value}
    {od_law_lost an_law_lost : Option Addr} {sl_law_lost : Array (Option Value)} {f_law_lost : Addr} {oc_law_lost kV_law_lost dc_law_lost pm_law_lost cd_law_lost ct_law_lost : Value}
    {od_law_agrees an_law_agrees : Option Addr} {sl_law_agrees : Array (Option Value)} {f_law_agrees : Addr} {oc_law_agrees kV_law_agrees dc_law_agrees pm_law_agrees cd_law_agrees ct_law_agrees : Value}
    {od_law an_law : Option Addr} {sl_law : Array (Option Value)} {f_law : Addr} {oc_law kV_law dc_law pm_law cd_law ct_law : Value}
    (a_relation_holds : PySem.W.nsIn K mainGlobals "relation_holds" = some (some (.ref f_relation_holds))) (l_relation_holds : K.lookup f_relation_holds = some ⟨oc_relation_holds, od_relation_holds, .func (PySem.W.fnOf "relation_holds" "relation_holds" (defArgs s_relation_holds) (defBody s_relation_holds) (defScope s_relation_holds) .none kV_relation_holds dc_relation_holds pm_relation_holds an_relation_holds cd_relation_holds ct_relation_holds), sl_relation_holds⟩) (c_relation_holds : PySem.W.codeIn K cd_relation_holds "relation_holds" = true) (k_relation_holds : PySem.W.keepIn K (.ref f_relation_holds) = true)
    (a_literal_holds : PySem.W.nsIn K mainGlobals "literal_holds" = some (some (.ref f_literal_holds))) (l_literal_holds : K.lookup f_literal_holds = some ⟨oc_literal_holds, od_literal_holds, .func (PySem.W.fnOf "literal_holds" "literal_holds" (defArgs s_literal_holds) (defBody s_literal_holds) (defScope s_literal_holds) .none kV_literal_holds dc_literal_holds pm_literal_holds an_literal_holds cd_literal_holds ct_literal_holds), sl_literal_holds⟩) (c_literal_holds : PySem.W.codeIn K cd_literal_holds "literal_holds" = true) (k_literal_holds : PySem.W.keepIn K (.ref f_literal_holds) = true)
    (a_terms_sum : PySem.W.nsIn K mainGlobals "terms_sum" = some (some (.ref f_terms_sum))) (l_terms_sum : K.lookup f_terms_sum = some ⟨oc_terms_sum, od_terms_sum, .func (PySem.W.fnOf "terms_sum" "terms_sum" (defArgs s_terms_sum) (defBody s_terms_sum) (defScope s_terms_sum) .none kV_terms_sum dc_terms_sum pm_terms_sum an_terms_sum cd_terms_sum ct_terms_sum), sl_terms_sum⟩) (c_terms_sum : PySem.W.codeIn K cd_terms_sum "terms_sum" = true) (k_terms_sum : PySem.W.keepIn K (.ref f_terms_sum) = true)
    (a_unknowns_in : PySem.W.nsIn K mainGlobals "unknowns_in" = some (some (.ref f_unknowns_in))) (l_unknowns_in : K.lookup f_unknowns_in = some ⟨oc_unknowns_in, od_unknowns_in, .func (PySem.W.fnOf "unknowns_in" "unknowns_in" (defArgs s_unknowns_in) (defBody s_unknowns_in) (defScope s_unknowns_in) .none kV_unknowns_in dc_unknowns_in pm_unknowns_in an_unknowns_in cd_unknowns_in ct_unknowns_in), sl_unknowns_in⟩) (c_unknowns_in : PySem.W.codeIn K cd_unknowns_in "unknowns_in" = true) (k_unknowns_in : PySem.W.keepIn K (.ref f_unknowns_in) = true)
    (a_full_domains : PySem.W.nsIn K mainGlobals "full_domains" = some (some (.ref f_full_domains))) (l_full_domains : K.lookup f_full_domains = some ⟨oc_full_domains, od_full_domains, .func (PySem.W.fnOf "full_domains" "full_domains" (defArgs s_full_domains) (defBody s_full_domains) (defScope s_full_domains) .none kV_full_domains dc_full_domains pm_full_domains an_full_domains cd_full_domains ct_full_domains), sl_full_domains⟩) (c_full_domains : PySem.W.codeIn K cd_full_domains "full_domains" = true) (k_full_domains : PySem.W.keepIn K (.ref f_full_domains) = true)
    (a_keep_literal : PySem.W.nsIn K mainGlobals "keep_literal" = some (some (.ref f_keep_literal))) (l_keep_literal : K.lookup f_keep_literal = some ⟨oc_keep_literal, od_keep_literal, .func (PySem.W.fnOf "keep_literal" "keep_literal" (defArgs s_keep_literal) (defBody s_keep_literal) (defScope s_keep_literal) .none kV_keep_literal dc_keep_literal pm_keep_literal an_keep_literal cd_keep_literal ct_keep_literal), sl_keep_literal⟩) (c_keep_literal : PySem.W.codeIn K cd_keep_literal "keep_literal" = true) (k_keep_literal : PySem.W.keepIn K (.ref f_keep_literal) = true)
    (a_least_of : PySem.W.nsIn K mainGlobals "least_of" = some (some (.ref f_least_of))) (l_least_of : K.lookup f_least_of = some ⟨oc_least_of, od_least_of, .func (PySem.W.fnOf "least_of" "least_of" (defArgs s_least_of) (defBody s_least_of) (defScope s_least_of) .none kV_least_of dc_least_of pm_least_of an_least_of cd_least_of ct_least_of), sl_least_of⟩) (c_least_of : PySem.W.codeIn K cd_least_of "least_of" = true) (k_least_of : PySem.W.keepIn K (.ref f_least_of) = true)
    (a_apply_row : PySem.W.nsIn K mainGlobals "apply_row" = some (some (.ref f_apply_row))) (l_apply_row : K.lookup f_apply_row = some ⟨oc_apply_row, od_apply_row, .func (PySem.W.fnOf "apply_row" "apply_row" (defArgs s_apply_row) (defBody s_apply_row) (defScope s_apply_row) .none kV_apply_row dc_apply_row pm_apply_row an_apply_row cd_apply_row ct_apply_row), sl_apply_row⟩) (c_apply_row : PySem.W.codeIn K cd_apply_row "apply_row" = true) (k_apply_row : PySem.W.keepIn K (.ref f_apply_row) = true)
    (a_live_literals : PySem.W.nsIn K mainGlobals "live_literals" = some (some (.ref f_live_literals))) (l_live_literals : K.lookup f_live_literals = some ⟨oc_live_literals, od_live_literals, .func (PySem.W.fnOf "live_literals" "live_literals" (defArgs s_live_literals) (defBody s_live_literals) (defScope s_live_literals) .none kV_live_literals dc_live_literals pm_live_literals an_live_literals cd_live_literals ct_live_literals), sl_live_literals⟩) (c_live_literals : PySem.W.codeIn K cd_live_literals "live_literals" = true) (k_live_literals : PySem.W.keepIn K (.ref f_live_literals) = true)
    (a_Remaining___init__ : PySem.W.findIn K (.ref C_Remaining) "__init__" = some (some (.ref f_Remaining___init__))) (i_Remaining___init__ : PySem.W.isFn K (.ref f_Remaining___init__) = true) (l_Remaining___init__ : K.lookup f_Remaining___init__ = some ⟨oc_Remaining___init__, od_Remaining___init__, .func (PySem.W.fnOf "__init__" "Remaining.__init__" (defArgs s_Remaining___init__) (defBody s_Remaining___init__) (defScope s_Remaining___init__) .none kV_Remaining___init__ dc_Remaining___init__ pm_Remaining___init__ an_Remaining___init__ cd_Remaining___init__ ct_Remaining___init__), sl_Remaining___init__⟩) (c_Remaining___init__ : PySem.W.codeIn K cd_Remaining___init__ "Remaining.__init__" = true) (k_Remaining___init__ : PySem.W.keepIn K (.ref f_Remaining___init__) = true)
    (a_Remaining_left : PySem.W.findIn K (.ref C_Remaining) "left" = some (some (.ref f_Remaining_left))) (i_Remaining_left : PySem.W.isFn K (.ref f_Remaining_left) = true) (l_Remaining_left : K.lookup f_Remaining_left = some ⟨oc_Remaining_left, od_Remaining_left, .func (PySem.W.fnOf "left" "Remaining.left" (defArgs s_Remaining_left) (defBody s_Remaining_left) (defScope s_Remaining_left) .none kV_Remaining_left dc_Remaining_left pm_Remaining_left an_Remaining_left cd_Remaining_left ct_Remaining_left), sl_Remaining_left⟩) (c_Remaining_left : PySem.W.codeIn K cd_Remaining_left "Remaining.left" = true) (k_Remaining_left : PySem.W.keepIn K (.ref f_Remaining_left) = true)
    (a_Remaining_fix : PySem.W.findIn K (.ref C_Remaining) "fix" = some (some (.ref f_Remaining_fix))) (i_Remaining_fix : PySem.W.isFn K (.ref f_Remaining_fix) = true) (l_Remaining_fix : K.lookup f_Remaining_fix = some ⟨oc_Remaining_fix, od_Remaining_fix, .func (PySem.W.fnOf "fix" "Remaining.fix" (defArgs s_Remaining_fix) (defBody s_Remaining_fix) (defScope s_Remaining_fix) .none kV_Remaining_fix dc_Remaining_fix pm_Remaining_fix an_Remaining_fix cd_Remaining_fix ct_Remaining_fix), sl_Remaining_fix⟩) (c_Remaining_fix : PySem.W.codeIn K cd_Remaining_fix "Remaining.fix" = true) (k_Remaining_fix : PySem.W.keepIn K (.ref f_Remaining_fix) = true)
    (a_Remaining_single : PySem.W.findIn K (.ref C_Remaining) "single" = some (some (.ref f_Remaining_single))) (i_Remaining_single : PySem.W.isFn K (.ref f_Remaining_single) = true) (l_Remaining_single : K.lookup f_Remaining_single = some ⟨oc_Remaining_single, od_Remaining_single, .func (PySem.W.fnOf "single" "Remaining.single" (defArgs s_Remaining_single) (defBody s_Remaining_single) (defScope s_Remaining_single) .none kV_Remaining_single dc_Remaining_single pm_Remaining_single an_Remaining_single cd_Remaining_single ct_Remaining_single), sl_Remaining_single⟩) (c_Remaining_single : PySem.W.codeIn K cd_Remaining_single "Remaining.single" = true) (k_Remaining_single : PySem.W.keepIn K (.ref f_Remaining_single) = true)
    (a_Remaining_apply : PySem.W.findIn K (.ref C_Remaining) "apply" = some (some (.ref f_Remaining_apply))) (i_Remaining_apply : PySem.W.isFn K (.ref f_Remaining_apply) = true) (l_Remaining_apply : K.lookup f_Remaining_apply = some ⟨oc_Remaining_apply, od_Remaining_apply, .func (PySem.W.fnOf "apply" "Remaining.apply" (defArgs s_Remaining_apply) (defBody s_Remaining_apply) (defScope s_Remaining_apply) .none kV_Remaining_apply dc_Remaining_apply pm_Remaining_apply an_Remaining_apply cd_Remaining_apply ct_Remaining_apply), sl_Remaining_apply⟩) (c_Remaining_apply : PySem.W.codeIn K cd_Remaining_apply "Remaining.apply" = true) (k_Remaining_apply : PySem.W.keepIn K (.ref f_Remaining_apply) = true)
    (a_is_label : PySem.W.nsIn K mainGlobals "is_label" = some (some (.ref f_is_label))) (l_is_label : K.lookup f_is_label = some ⟨oc_is_label, od_is_label, .func (PySem.W.fnOf "is_label" "is_label" (defArgs s_is_label) (defBody s_is_label) (defScope s_is_label) .none kV_is_label dc_is_label pm_is_label an_is_label cd_is_label ct_is_label), sl_is_label⟩) (c_is_label : PySem.W.codeIn K cd_is_label "is_label" = true) (k_is_label : PySem.W.keepIn K (.ref f_is_label) = true)
    (a_bounds_fit : PySem.W.nsIn K mainGlobals "bounds_fit" = some (some (.ref f_bounds_fit))) (l_bounds_fit : K.lookup f_bounds_fit = some ⟨oc_bounds_fit, od_bounds_fit, .func (PySem.W.fnOf "bounds_fit" "bounds_fit" (defArgs s_bounds_fit) (defBody s_bounds_fit) (defScope s_bounds_fit) .none kV_bounds_fit dc_bounds_fit pm_bounds_fit an_bounds_fit cd_bounds_fit ct_bounds_fit), sl_bounds_fit⟩) (c_bounds_fit : PySem.W.codeIn K cd_bounds_fit "bounds_fit" = true) (k_bounds_fit : PySem.W.keepIn K (.ref f_bounds_fit) = true)
    (a_Model___init__ : PySem.W.findIn K (.ref C_Model) "__init__" = some (some (.ref f_Model___init__))) (i_Model___init__ : PySem.W.isFn K (.ref f_Model___init__) = true) (l_Model___init__ : K.lookup f_Model___init__ = some ⟨oc_Model___init__, od_Model___init__, .func (PySem.W.fnOf "__init__" "Model.__init__" (defArgs s_Model___init__) (defBody s_Model___init__) (defScope s_Model___init__) .none kV_Model___init__ dc_Model___init__ pm_Model___init__ an_Model___init__ cd_Model___init__ ct_Model___init__), sl_Model___init__⟩) (c_Model___init__ : PySem.W.codeIn K cd_Model___init__ "Model.__init__" = true) (k_Model___init__ : PySem.W.keepIn K (.ref f_Model___init__) = true)
    (a_Model__need : PySem.W.findIn K (.ref C_Model) "_need" = some (some (.ref f_Model__need))) (i_Model__need : PySem.W.isFn K (.ref f_Model__need) = true) (l_Model__need : K.lookup f_Model__need = some ⟨oc_Model__need, od_Model__need, .func (PySem.W.fnOf "_need" "Model._need" (defArgs s_Model__need) (defBody s_Model__need) (defScope s_Model__need) .none kV_Model__need dc_Model__need pm_Model__need an_Model__need cd_Model__need ct_Model__need), sl_Model__need⟩) (c_Model__need : PySem.W.codeIn K cd_Model__need "Model._need" = true) (k_Model__need : PySem.W.keepIn K (.ref f_Model__need) = true)
    (a_Model_many : PySem.W.findIn K (.ref C_Model) "many" = some (some (.ref f_Model_many))) (i_Model_many : PySem.W.isFn K (.ref f_Model_many) = true) (l_Model_many : K.lookup f_Model_many = some ⟨oc_Model_many, od_Model_many, .func (PySem.W.fnOf "many" "Model.many" (defArgs s_Model_many) (defBody s_Model_many) (defScope s_Model_many) .none kV_Model_many dc_Model_many pm_Model_many an_Model_many cd_Model_many ct_Model_many), sl_Model_many⟩) (c_Model_many : PySem.W.codeIn K cd_Model_many "Model.many" = true) (k_Model_many : PySem.W.keepIn K (.ref f_Model_many) = true)
    (a_Model_low : PySem.W.findIn K (.ref C_Model) "low" = some (some (.ref f_Model_low))) (i_Model_low : PySem.W.isFn K (.ref f_Model_low) = true) (l_Model_low : K.lookup f_Model_low = some ⟨oc_Model_low, od_Model_low, .func (PySem.W.fnOf "low" "Model.low" (defArgs s_Model_low) (defBody s_Model_low) (defScope s_Model_low) .none kV_Model_low dc_Model_low pm_Model_low an_Model_low cd_Model_low ct_Model_low), sl_Model_low⟩) (c_Model_low : PySem.W.codeIn K cd_Model_low "Model.low" = true) (k_Model_low : PySem.W.keepIn K (.ref f_Model_low) = true)
    (a_Model_high : PySem.W.findIn K (.ref C_Model) "high" = some (some (.ref f_Model_high))) (i_Model_high : PySem.W.isFn K (.ref f_Model_high) = true) (l_Model_high : K.lookup f_Model_high = some ⟨oc_Model_high, od_Model_high, .func (PySem.W.fnOf "high" "Model.high" (defArgs s_Model_high) (defBody s_Model_high) (defScope s_Model_high) .none kV_Model_high dc_Model_high pm_Model_high an_Model_high cd_Model_high ct_Model_high), sl_Model_high⟩) (c_Model_high : PySem.W.codeIn K cd_Model_high "Model.high" = true) (k_Model_high : PySem.W.keepIn K (.ref f_Model_high) = true)
    (a_Model_has : PySem.W.findIn K (.ref C_Model) "has" = some (some (.ref f_Model_has))) (i_Model_has : PySem.W.isFn K (.ref f_Model_has) = true) (l_Model_has : K.lookup f_Model_has = some ⟨oc_Model_has, od_Model_has, .func (PySem.W.fnOf "has" "Model.has" (defArgs s_Model_has) (defBody s_Model_has) (defScope s_Model_has) .none kV_Model_has dc_Model_has pm_Model_has an_Model_has cd_Model_has ct_Model_has), sl_Model_has⟩) (c_Model_has : PySem.W.codeIn K cd_Model_has "Model.has" = true) (k_Model_has : PySem.W.keepIn K (.ref f_Model_has) = true)
    (a_Model_move : PySem.W.findIn K (.ref C_Model) "move" = some (some (.ref f_Model_move))) (i_Model_move : PySem.W.isFn K (.ref f_Model_move) = true) (l_Model_move : K.lookup f_Model_move = some ⟨oc_Model_move, od_Model_move, .func (PySem.W.fnOf "move" "Model.move" (defArgs s_Model_move) (defBody s_Model_move) (defScope s_Model_move) .none kV_Model_move dc_Model_move pm_Model_move an_Model_move cd_Model_move ct_Model_move), sl_Model_move⟩) (c_Model_move : PySem.W.codeIn K cd_Model_move "Model.move" = true) (k_Model_move : PySem.W.keepIn K (.ref f_Model_move) = true)
    (a_law_draw : PySem.W.nsIn K mainGlobals "_law_draw" = some (some (.ref f_law_draw))) (l_law_draw : K.lookup f_law_draw = some ⟨oc_law_draw, od_law_draw, .func (PySem.W.fnOf "_law_draw" "_law_draw" (defArgs s_law_draw) (defBody s_law_draw) (defScope s_law_draw) .none kV_law_draw dc_law_draw pm_law_draw an_law_draw cd_law_draw ct_law_draw), sl_law_draw⟩) (c_law_draw : PySem.W.codeIn K cd_law_draw "_law_draw" = true) (k_law_draw : PySem.W.keepIn K (.ref f_law_draw) = true)
    (a_law_tape : PySem.W.nsIn K mainGlobals "_law_tape" = some (some (.ref f_law_tape))) (l_law_tape : K.lookup f_law_tape = some ⟨oc_law_tape, od_law_tape, .func (PySem.W.fnOf "_law_tape" "_law_tape" (defArgs s_law_tape) (defBody s_law_tape) (defScope s_law_tape) .none kV_law_tape dc_law_tape pm_law_tape an_law_tape cd_law_tape ct_law_tape), sl_law_tape⟩) (c_law_tape : PySem.W.codeIn K cd_law_tape "_law_tape" = true) (k_law_tape : PySem.W.keepIn K (.ref f_law_tape) = true)
    (a_law_terms : PySem.W.nsIn K mainGlobals "_law_terms" = some (some (.ref f_law_terms))) (l_law_terms : K.lookup f_law_terms = some ⟨oc_law_terms, od_law_terms, .func (PySem.W.fnOf "_law_terms" "_law_terms" (defArgs s_law_terms) (defBody s_law_terms) (defScope s_law_terms) .none kV_law_terms dc_law_terms pm_law_terms an_law_terms cd_law_terms ct_law_terms), sl_law_terms⟩) (c_law_terms : PySem.W.codeIn K cd_law_terms "_law_terms" = true) (k_law_terms : PySem.W.keepIn K (.ref f_law_terms) = true)
    (a_law_literal : PySem.W.nsIn K mainGlobals "_law_literal" = some (some (.ref f_law_literal))) (l_law_literal : K.lookup f_law_literal = some ⟨oc_law_literal, od_law_literal, .func (PySem.W.fnOf "_law_literal" "_law_literal" (defArgs s_law_literal) (defBody s_law_literal) (defScope s_law_literal) .none kV_law_literal dc_law_literal pm_law_literal an_law_literal cd_law_literal ct_law_literal), sl_law_literal⟩) (c_law_literal : PySem.W.codeIn K cd_law_literal "_law_literal" = true) (k_law_literal : PySem.W.keepIn K (.ref f_law_literal) = true)
    (a_law_some : PySem.W.nsIn K mainGlobals "_law_some" = some (some (.ref f_law_some))) (l_law_some : K.lookup f_law_some = some ⟨oc_law_some, od_law_some, .func (PySem.W.fnOf "_law_some" "_law_some" (defArgs s_law_some) (defBody s_law_some) (defScope s_law_some) .none kV_law_some dc_law_some pm_law_some an_law_some cd_law_some ct_law_some), sl_law_some⟩) (c_law_some : PySem.W.codeIn K cd_law_some "_law_some" = true) (k_law_some : PySem.W.keepIn K (.ref f_law_some) = true)
    (a_law_body : PySem.W.nsIn K mainGlobals "_law_body" = some (some (.ref f_law_body))) (l_law_body : K.lookup f_law_body = some ⟨oc_law_body, od_law_body, .func (PySem.W.fnOf "_law_body" "_law_body" (defArgs s_law_body) (defBody s_law_body) (defScope s_law_body) .none kV_law_body dc_law_body pm_law_body an_law_body cd_law_body ct_law_body), sl_law_body⟩) (c_law_body : PySem.W.codeIn K cd_law_body "_law_body" = true) (k_law_body : PySem.W.keepIn K (.ref f_law_body) = true)
    (a_law_world : PySem.W.nsIn K mainGlobals "_law_world" = some (some (.ref f_law_world))) (l_law_world : K.lookup f_law_world = some ⟨oc_law_world, od_law_world, .func (PySem.W.fnOf "_law_world" "_law_world" (defArgs s_law_world) (defBody s_law_world) (defScope s_law_world) .none kV_law_world dc_law_world pm_law_world an_law_world cd_law_world ct_law_world), sl_law_world⟩) (c_law_world : PySem.W.codeIn K cd_law_world "_law_world" = true) (k_law_world : PySem.W.keepIn K (.ref f_law_world) = true)
    (a_law_rel : PySem.W.nsIn K mainGlobals "_law_rel" = some (some (.ref f_law_rel))) (l_law_rel : K.lookup f_law_rel = some ⟨oc_law_rel, od_law_rel, .func (PySem.W.fnOf "_law_rel" "_law_rel" (defArgs s_law_rel) (defBody s_law_rel) (defScope s_law_rel) .none kV_law_rel dc_law_rel pm_law_rel an_law_rel cd_law_rel ct_law_rel), sl_law_rel⟩) (c_law_rel : PySem.W.codeIn K cd_law_rel "_law_rel" = true) (k_law_rel : PySem.W.keepIn K (.ref f_law_rel) = true)
    (a_law_fact : PySem.W.nsIn K mainGlobals "_law_fact" = some (some (.ref f_law_fact))) (l_law_fact : K.lookup f_law_fact = some ⟨oc_law_fact, od_law_fact, .func (PySem.W.fnOf "_law_fact" "_law_fact" (defArgs s_law_fact) (defBody s_law_fact) (defScope s_law_fact) .none kV_law_fact dc_law_fact pm_law_fact an_law_fact cd_law_fact ct_law_fact), sl_law_fact⟩) (c_law_fact : PySem.W.codeIn K cd_law_fact "_law_fact" = true) (k_law_fact : PySem.W.keepIn K (.ref f_law_fact) = true)
    (a_law_same : PySem.W.nsIn K mainGlobals "_law_same" = some (some (.ref f_law_same))) (l_law_same : K.lookup f_law_same = some ⟨oc_law_same, od_law_same, .func (PySem.W.fnOf "_law_same" "_law_same" (defArgs s_law_same) (defBody s_law_same) (defScope s_law_same) .none kV_law_same dc_law_same pm_law_same an_law_same cd_law_same ct_law_same), sl_law_same⟩) (c_law_same : PySem.W.codeIn K cd_law_same "_law_same" = true) (k_law_same : PySem.W.keepIn K (.ref f_law_same) = true)
    (a_law_apply : PySem.W.nsIn K mainGlobals "_law_apply" = some (some (.ref f_law_apply))) (l_law_apply : K.lookup f_law_apply = some ⟨oc_law_apply, od_law_apply, .func (PySem.W.fnOf "_law_apply" "_law_apply" (defArgs s_law_apply) (defBody s_law_apply) (defScope s_law_apply) .none kV_law_apply dc_law_apply pm_law_apply an_law_apply cd_law_apply ct_law_apply), sl_law_apply⟩) (c_law_apply : PySem.W.codeIn K cd_law_apply "_law_apply" = true) (k_law_apply : PySem.W.keepIn K (.ref f_law_apply) = true)
    (a_law_lost : PySem.W.nsIn K mainGlobals "_law_lost" = some (some (.ref f_law_lost))) (l_law_lost : K.lookup f_law_lost = some ⟨oc_law_lost, od_law_lost, .func (PySem.W.fnOf "_law_lost" "_law_lost" (defArgs s_law_lost) (defBody s_law_lost) (defScope s_law_lost) .none kV_law_lost dc_law_lost pm_law_lost an_law_lost cd_law_lost ct_law_lost), sl_law_lost⟩) (c_law_lost : PySem.W.codeIn K cd_law_lost "_law_lost" = true) (k_law_lost : PySem.W.keepIn K (.ref f_law_lost) = true)
    (a_law_agrees : PySem.W.nsIn K mainGlobals "_law_agrees" = some (some (.ref f_law_agrees))) (l_law_agrees : K.lookup f_law_agrees = some ⟨oc_law_agrees, od_law_agrees, .func (PySem.W.fnOf "_law_agrees" "_law_agrees" (defArgs s_law_agrees) (defBody s_law_agrees) (defScope s_law_agrees) .none kV_law_agrees dc_law_agrees pm_law_agrees an_law_agrees cd_law_agrees ct_law_agrees), sl_law_agrees⟩) (c_law_agrees : PySem.W.codeIn K cd_law_agrees "_law_agrees" = true) (k_law_agrees : PySem.W.keepIn K (.ref f_law_agrees) = true)
    (a_law : PySem.W.nsIn K mainGlobals "law" = some (some (.ref f_law))) (l_law : K.lookup f_law = some ⟨oc_law, od_law, .func (PySem.W.fnOf "law" "law" (defArgs s_law) (defBody s_law) (defScope s_law) .none kV_law dc_law pm_law an_law cd_law ct_law), sl_law⟩) (c_law : PySem.W.codeIn K cd_law "law" = true) (k_law : PySem.W.keepIn K (.ref f_law) = true)
    (z_len : PySem.W.nsIn K mainGlobals "len" = some none)
    (z_int : PySem.W.nsIn K mainGlobals "int" = some none)
    (z_list : PySem.W.nsIn K mainGlobals "list" = some none)
    (z_tuple : PySem.W.nsIn K mainGlobals "tuple" = some none)
    (z_range : PySem.W.nsIn K mainGlobals "range" = some none)
    (z_all : PySem.W.nsIn K mainGlobals "all" = some none)
    (z_any : PySem.W.nsIn K mainGlobals "any" = some none)
    (z_isinstance : PySem.W.nsIn K mainGlobals "isinstance" = some none)
    (z_bool : PySem.W.nsIn K mainGlobals "bool" = some none)
    (z_set : PySem.W.nsIn K mainGlobals "set" = some none)
    (z_str : PySem.W.nsIn K mainGlobals "str" = some none)
    (z_sorted : PySem.W.nsIn K mainGlobals "sorted" = some none)
    (z_sum : PySem.W.nsIn K mainGlobals "sum" = some none)
    (z_min : PySem.W.nsIn K mainGlobals "min" = some none)
    (z_repr : PySem.W.nsIn K mainGlobals "repr" = some none)
    {v_LETTERS : Value} (g_LETTERS : PySem.W.nsIn K mainGlobals "LETTERS" = some (some v_LETTERS)) (r_LETTERS : RelV (.str (Str.ofString "abcdefghijklmnopqrstuvwxyz")) v_LETTERS)
    {v_DIGITS : Value} (g_DIGITS : PySem.W.nsIn K mainGlobals "DIGITS" = some (some v_DIGITS)) (r_DIGITS : RelV (.str (Str.ofString "0123456789")) v_DIGITS)
    {v_UNKNOWNS_MOST : Value} (g_UNKNOWNS_MOST : PySem.W.nsIn K mainGlobals "UNKNOWNS_MOST" = some (some v_UNKNOWNS_MOST)) (r_UNKNOWNS_MOST : RelV (.int 60) v_UNKNOWNS_MOST)
    {v_BOUND_MOST : Value} (g_BOUND_MOST : PySem.W.nsIn K mainGlobals "BOUND_MOST" = some (some v_BOUND_MOST)) (r_BOUND_MOST : RelV (.int 1000) v_BOUND_MOST)
    : ∃ fd : FuncData, (∀ (s : Shared) (v : Value), BindsTo s fd ⟨[v], []⟩ [("_law_script", v)]) ∧ ∀ base : Heap, K.In base → base.Ns mainGlobals mg → FnOkG l.prog w K mg base CX0 6 fa fd ["_law_script"] ((spLaw K)) := by
  have e := hfa.symm.trans (PySem.W.mg_of X G a_law)
  cases e
  have B : Bi K mg C_Model C_Remaining := { n_len := PySem.W.mg_none_of X G z_len, n_int := PySem.W.mg_none_of X G z_int, n_list := PySem.W.mg_none_of X G z_list, n_tuple := PySem.W.mg_none_of X G z_tuple, n_range := PySem.W.mg_none_of X G z_range, n_all := PySem.W.mg_none_of X G z_all, n_any := PySem.W.mg_none_of X G z_any, n_isinstance := PySem.W.mg_none_of X G z_isinstance, n_bool := PySem.W.mg_none_of X G z_bool, n_set := PySem.W.mg_none_of X G z_set, n_str := PySem.W.mg_none_of X G z_str, n_sorted := PySem.W.mg_none_of X G z_sorted, n_sum := PySem.W.mg_none_of X G z_sum, n_min := PySem.W.mg_none_of X G z_min, n_repr := PySem.W.mg_none_of X G z_repr, c_LETTERS := ⟨_, PySem.W.mg_of X G g_LETTERS, r_LETTERS⟩, c_DIGITS := ⟨_, PySem.W.mg_of X G g_DIGITS, r_DIGITS⟩, c_UNKNOWNS_MOST := ⟨_, PySem.W.mg_of X G g_UNKNOWNS_MOST, r_UNKNOWNS_MOST⟩, c_BOUND_MOST := ⟨_, PySem.W.mg_of X G g_BOUND_MOST, r_BOUND_MOST⟩, cl_Model := ⟨pg_Model, hd_Model, po_Model, sa_Model⟩, at_Model__names := n_Model__names, at_Model__lows := n_Model__lows, at_Model__highs := n_Model__highs, at_Model__bodies := n_Model__bodies, at_Model__goal := n_Model__goal, cl_Remaining := ⟨pg_Remaining, hd_Remaining, po_Remaining, sa_Remaining⟩, at_Remaining__many := n_Remaining__many, at_Remaining__domains := n_Remaining__domains }
  have F_relation_holds := fun_mk (st := s_relation_holds) l_relation_holds c_relation_holds k_relation_holds
  have b_relation_holds := F_relation_holds.binds (ps := ["relation", "left", "right"]) fun _ _ _ _ _ _ us hl => match us, hl with | [_, _, _], _ => rfl
  have F_literal_holds := fun_mk (st := s_literal_holds) l_literal_holds c_literal_holds k_literal_holds
  have b_literal_holds := F_literal_holds.binds (ps := ["literal", "worth"]) fun _ _ _ _ _ _ us hl => match us, hl with | [_, _], _ => rfl
  have F_terms_sum := fun_mk (st := s_terms_sum) l_terms_sum c_terms_sum k_terms_sum
  have b_terms_sum := F_terms_sum.binds (ps := ["terms", "point"]) fun _ _ _ _ _ _ us hl => match us, hl with | [_, _], _ => rfl
  have F_unknowns_in := fun_mk (st := s_unknowns_in) l_unknowns_in c_unknowns_in k_unknowns_in
  have b_unknowns_in := F_unknowns_in.binds (ps := ["fact"]) fun _ _ _ _ _ _ us hl => match us, hl with | [_], _ => rfl
  have F_full_domains := fun_mk (st := s_full_domains) l_full_domains c_full_domains k_full_domains
  have b_full_domains := F_full_domains.binds (ps := ["model", "unknowns"]) fun _ _ _ _ _ _ us hl => match us, hl with | [_, _], _ => rfl
  have F_keep_literal := fun_mk (st := s_keep_literal) l_keep_literal c_keep_literal k_keep_literal
  have b_keep_literal := F_keep_literal.binds (ps := ["domains", "literal"]) fun _ _ _ _ _ _ us hl => match us, hl with | [_, _], _ => rfl
  have F_least_of := fun_mk (st := s_least_of) l_least_of c_least_of k_least_of
  have b_least_of := F_least_of.binds (ps := ["c", "values"]) fun _ _ _ _ _ _ us hl => match us, hl with | [_, _], _ => rfl
  have F_apply_row := fun_mk (st := s_apply_row) l_apply_row c_apply_row k_apply_row
  have b_apply_row := F_apply_row.binds (ps := ["domains", "row"]) fun _ _ _ _ _ _ us hl => match us, hl with | [_, _], _ => rfl
  have F_live_literals := fun_mk (st := s_live_literals) l_live_literals c_live_literals k_live_literals
  have b_live_literals := F_live_literals.binds (ps := ["domains", "literals"]) fun _ _ _ _ _ _ us hl => match us, hl with | [_, _], _ => rfl
  have F_Remaining___init__ := fun_mk (st := s_Remaining___init__) l_Remaining___init__ c_Remaining___init__ k_Remaining___init__
  have b_Remaining___init__ := F_Remaining___init__.binds (ps := ["self", "model"]) fun _ _ _ _ _ _ us hl => match us, hl with | [_, _], _ => rfl
  have F_Remaining_left := fun_mk (st := s_Remaining_left) l_Remaining_left c_Remaining_left k_Remaining_left
  have b_Remaining_left := F_Remaining_left.binds (ps := ["self", "v"]) fun _ _ _ _ _ _ us hl => match us, hl with | [_, _], _ => rfl
  have F_Remaining_fix := fun_mk (st := s_Remaining_fix) l_Remaining_fix c_Remaining_fix k_Remaining_fix
  have b_Remaining_fix := F_Remaining_fix.binds (ps := ["self", "v", "a"]) fun _ _ _ _ _ _ us hl => match us, hl with | [_, _, _], _ => rfl
  have F_Remaining_single := fun_mk (st := s_Remaining_single) l_Remaining_single c_Remaining_single k_Remaining_single
  have b_Remaining_single := F_Remaining_single.binds (ps := ["self"]) fun _ _ _ _ _ _ us hl => match us, hl with | [_], _ => rfl
  have F_Remaining_apply := fun_mk (st := s_Remaining_apply) l_Remaining_apply c_Remaining_apply k_Remaining_apply
  have b_Remaining_apply := F_Remaining_apply.binds (ps := ["self", "fact"]) fun _ _ _ _ _ _ us hl => match us, hl with | [_, _], _ => rfl
  have F_is_label := fun_mk (st := s_is_label) l_is_label c_is_label k_is_label
  have b_is_label := F_is_label.binds (ps := ["text"]) fun _ _ _ _ _ _ us hl => match us, hl with | [_], _ => rfl
  have F_bounds_fit := fun_mk (st := s_bounds_fit) l_bounds_fit c_bounds_fit k_bounds_fit
  have b_bounds_fit := F_bounds_fit.binds (ps := ["low", "high"]) fun _ _ _ _ _ _ us hl => match us, hl with | [_, _], _ => rfl
  have F_Model___init__ := fun_mk (st := s_Model___init__) l_Model___init__ c_Model___init__ k_Model___init__
  have b_Model___init__ := F_Model___init__.binds (ps := ["self", "unknowns"]) fun _ _ _ _ _ _ us hl => match us, hl with | [_, _], _ => rfl
  have F_Model__need := fun_mk (st := s_Model__need) l_Model__need c_Model__need k_Model__need
  have b_Model__need := F_Model__need.binds (ps := ["self", "v"]) fun _ _ _ _ _ _ us hl => match us, hl with | [_, _], _ => rfl
  have F_Model_many := fun_mk (st := s_Model_many) l_Model_many c_Model_many k_Model_many
  have b_Model_many := F_Model_many.binds (ps := ["self"]) fun _ _ _ _ _ _ us hl => match us, hl with | [_], _ => rfl
  have F_Model_low := fun_mk (st := s_Model_low) l_Model_low c_Model_low k_Model_low
  have b_Model_low := F_Model_low.binds (ps := ["self", "v"]) fun _ _ _ _ _ _ us hl => match us, hl with | [_, _], _ => rfl
  have F_Model_high := fun_mk (st := s_Model_high) l_Model_high c_Model_high k_Model_high
  have b_Model_high := F_Model_high.binds (ps := ["self", "v"]) fun _ _ _ _ _ _ us hl => match us, hl with | [_, _], _ => rfl
  have F_Model_has := fun_mk (st := s_Model_has) l_Model_has c_Model_has k_Model_has
  have b_Model_has := F_Model_has.binds (ps := ["self", "label"]) fun _ _ _ _ _ _ us hl => match us, hl with | [_, _], _ => rfl
  have F_Model_move := fun_mk (st := s_Model_move) l_Model_move c_Model_move k_Model_move
  have b_Model_move := F_Model_move.binds (ps := ["self", "v", "low", "high"]) fun _ _ _ _ _ _ us hl => match us, hl with | [_, _, _, _], _ => rfl
  have F_law_draw := fun_mk (st := s_law_draw) l_law_draw c_law_draw k_law_draw
  have b_law_draw := F_law_draw.binds (ps := ["_law_tape_here", "_law_many"]) fun _ _ _ _ _ _ us hl => match us, hl with | [_, _], _ => rfl
  have F_law_tape := fun_mk (st := s_law_tape) l_law_tape c_law_tape k_law_tape
  have b_law_tape := F_law_tape.binds (ps := ["_law_script"]) fun _ _ _ _ _ _ us hl => match us, hl with | [_], _ => rfl
  have F_law_terms := fun_mk (st := s_law_terms) l_law_terms c_law_terms k_law_terms
  have b_law_terms := F_law_terms.binds (ps := ["_law_tape_here", "_law_many"]) fun _ _ _ _ _ _ us hl => match us, hl with | [_, _], _ => rfl
  have F_law_literal := fun_mk (st := s_law_literal) l_law_literal c_law_literal k_law_literal
  have b_law_literal := F_law_literal.binds (ps := ["_law_tape_here", "_law_many"]) fun _ _ _ _ _ _ us hl => match us, hl with | [_, _], _ => rfl
  have F_law_some := fun_mk (st := s_law_some) l_law_some c_law_some k_law_some
  have b_law_some := F_law_some.binds (ps := ["_law_tape_here", "_law_many", "_law_least"]) fun _ _ _ _ _ _ us hl => match us, hl with | [_, _, _], _ => rfl
  have F_law_body := fun_mk (st := s_law_body) l_law_body c_law_body k_law_body
  have b_law_body := F_law_body.binds (ps := ["_law_tape_here", "_law_many"]) fun _ _ _ _ _ _ us hl => match us, hl with | [_, _], _ => rfl
  have F_law_world := fun_mk (st := s_law_world) l_law_world c_law_world k_law_world
  have b_law_world := F_law_world.binds (ps := ["_law_tape_here", "_law_most", "_law_width", "_law_bodies"]) fun _ _ _ _ _ _ us hl => match us, hl with | [_, _, _, _], _ => rfl
  have F_law_rel := fun_mk (st := s_law_rel) l_law_rel c_law_rel k_law_rel
  have b_law_rel := F_law_rel.binds (ps := ["_law_relation", "_law_left", "_law_right"]) fun _ _ _ _ _ _ us hl => match us, hl with | [_, _, _], _ => rfl
  have F_law_fact := fun_mk (st := s_law_fact) l_law_fact c_law_fact k_law_fact
  have b_law_fact := F_law_fact.binds (ps := ["_law_tape_here", "_law_many"]) fun _ _ _ _ _ _ us hl => match us, hl with | [_, _], _ => rfl
  have F_law_same := fun_mk (st := s_law_same) l_law_same c_law_same k_law_same
  have b_law_same := F_law_same.binds (ps := ["_law_answer", "_law_due"]) fun _ _ _ _ _ _ us hl => match us, hl with | [_, _], _ => rfl
  have F_law_apply := fun_mk (st := s_law_apply) l_law_apply c_law_apply k_law_apply
  have b_law_apply := F_law_apply.binds (ps := ["_law_left", "_law_fact_here"]) fun _ _ _ _ _ _ us hl => match us, hl with | [_, _], _ => rfl
  have F_law_lost := fun_mk (st := s_law_lost) l_law_lost c_law_lost k_law_lost
  have b_law_lost := F_law_lost.binds (ps := ["_law_left", "_law_new"]) fun _ _ _ _ _ _ us hl => match us, hl with | [_, _], _ => rfl
  have F_law_agrees := fun_mk (st := s_law_agrees) l_law_agrees c_law_agrees k_law_agrees
  have b_law_agrees := F_law_agrees.binds (ps := ["_law_remaining", "_law_left"]) fun _ _ _ _ _ _ us hl => match us, hl with | [_, _], _ => rfl
  refine ⟨PySem.W.fnOf "law" "law" (defArgs s_law) (defBody s_law) (defScope s_law) .none kV_law dc_law pm_law an_law cd_law ct_law, fun s v => .of_eq rfl, fun base _ _ => ?_⟩
  have D_relation_holds : Is l.prog w K mg base CX0 1 "relation_holds" ["relation", "left", "right"] spRel := ⟨_, _, ok_relation_holds F_relation_holds B , PySem.W.mg_of X G a_relation_holds, k_relation_holds, b_relation_holds⟩
  have D_literal_holds : Is l.prog w K mg base CX0 2 "literal_holds" ["literal", "worth"] (spLit K) := ⟨_, _, ok_literal_holds F_literal_holds B D_relation_holds, PySem.W.mg_of X G a_literal_holds, k_literal_holds, b_literal_holds⟩
  have D_terms_sum : Is l.prog w K mg base CX0 1 "terms_sum" ["terms", "point"] (spSumF K) := ⟨_, _, ok_terms_sum F_terms_sum B , PySem.W.mg_of X G a_terms_sum, k_terms_sum, b_terms_sum⟩
  have D_unknowns_in : Is l.prog w K mg base CX0 1 "unknowns_in" ["fact"] (spUnkIn K) := ⟨_, _, ok_unknowns_in F_unknowns_in B , PySem.W.mg_of X G a_unknowns_in, k_unknowns_in, b_unknowns_in⟩
  have D_Model__need : IsM l.prog w K mg base CX0 1 C_Model "_need" ["self", "v"] (spNeed K C_Model) := ⟨⟨_, _, ok_Model__need F_Model__need B , ⟨a_Model__need, i_Model__need, k_Model__need⟩, b_Model__need⟩, B.cl_Model⟩
  have D_Model_low : IsM l.prog w K mg base CX0 2 C_Model "low" ["self", "v"] (spLow K C_Model) := ⟨⟨_, _, ok_Model_low F_Model_low B D_Model__need, ⟨a_Model_low, i_Model_low, k_Model_low⟩, b_Model_low⟩, B.cl_Model⟩
  have D_Model_high : IsM l.prog w K mg base CX0 2 C_Model "high" ["self", "v"] (spHigh K C_Model) := ⟨⟨_, _, ok_Model_high F_Model_high B D_Model__need, ⟨a_Model_high, i_Model_high, k_Model_high⟩, b_Model_high⟩, B.cl_Model⟩
  have D_full_domains : Is l.prog w K mg base CX0 3 "full_domains" ["model", "unknowns"] (spFullDF K C_Model) := ⟨_, _, ok_full_domains F_full_domains B D_Model_low D_Model_high, PySem.W.mg_of X G a_full_domains, k_full_domains, b_full_domains⟩
  have D_keep_literal : Is l.prog w K mg base CX0 3 "keep_literal" ["domains", "literal"] (spKeepLF K) := ⟨_, _, ok_keep_literal F_keep_literal B D_literal_holds, PySem.W.mg_of X G a_keep_literal, k_keep_literal, b_keep_literal⟩
  have D_least_of : Is l.prog w K mg base CX0 1 "least_of" ["c", "values"] (spLeast K) := ⟨_, _, ok_least_of F_least_of B , PySem.W.mg_of X G a_least_of, k_least_of, b_least_of⟩
  have D_apply_row : Is l.prog w K mg base CX0 2 "apply_row" ["domains", "row"] (spApplyR0 K) := ⟨_, _, ok_apply_row F_apply_row B D_least_of, PySem.W.mg_of X G a_apply_row, k_apply_row, b_apply_row⟩
  have D_live_literals : Is l.prog w K mg base CX0 3 "live_literals" ["domains", "literals"] (spLive K) := ⟨_, _, ok_live_literals F_live_literals B D_literal_holds, PySem.W.mg_of X G a_live_literals, k_live_literals, b_live_literals⟩
  have D_Model_many : IsM l.prog w K mg base CX0 1 C_Model "many" ["self"] (spMany K C_Model) := ⟨⟨_, _, ok_Model_many F_Model_many B , ⟨a_Model_many, i_Model_many, k_Model_many⟩, b_Model_many⟩, B.cl_Model⟩
  have D_Remaining___init__ : IsI l.prog w K mg base CX0 4 C_Remaining "Remaining" ["self", "model"] (spRInit K C_Model C_Remaining) := ⟨_, _, ok_Remaining___init__ F_Remaining___init__ B D_Model_many D_full_domains, ⟨mk_Remaining, a_Remaining___init__, i_Remaining___init__, kc_Remaining⟩, b_Remaining___init__, PySem.W.mg_of X G a_Remaining⟩
  have D_Remaining_left : IsM l.prog w K mg base CX0 1 C_Remaining "left" ["self", "v"] (spLeft K C_Remaining) := ⟨⟨_, _, ok_Remaining_left F_Remaining_left B , ⟨a_Remaining_left, i_Remaining_left, k_Remaining_left⟩, b_Remaining_left⟩, B.cl_Remaining⟩
  have D_Remaining_fix : IsM l.prog w K mg base CX0 1 C_Remaining "fix" ["self", "v", "a"] (spFix K C_Remaining) := ⟨⟨_, _, ok_Remaining_fix F_Remaining_fix B , ⟨a_Remaining_fix, i_Remaining_fix, k_Remaining_fix⟩, b_Remaining_fix⟩, B.cl_Remaining⟩
  have D_Remaining_single : IsM l.prog w K mg base CX0 1 C_Remaining "single" ["self"] (spSingle K C_Remaining) := ⟨⟨_, _, ok_Remaining_single F_Remaining_single B , ⟨a_Remaining_single, i_Remaining_single, k_Remaining_single⟩, b_Remaining_single⟩, B.cl_Remaining⟩
  have D_Remaining_apply : IsM l.prog w K mg base CX0 4 C_Remaining "apply" ["self", "fact"] (spRApply K C_Remaining) := ⟨⟨_, _, ok_Remaining_apply F_Remaining_apply B D_live_literals D_unknowns_in D_apply_row D_keep_literal, ⟨a_Remaining_apply, i_Remaining_apply, k_Remaining_apply⟩, b_Remaining_apply⟩, B.cl_Remaining⟩
  have D_is_label : Is l.prog w K mg base CX0 1 "is_label" ["text"] spLabel := ⟨_, _, ok_is_label F_is_label B , PySem.W.mg_of X G a_is_label, k_is_label, b_is_label⟩
  have D_bounds_fit : Is l.prog w K mg base CX0 1 "bounds_fit" ["low", "high"] spBounds := ⟨_, _, ok_bounds_fit F_bounds_fit B , PySem.W.mg_of X G a_bounds_fit, k_bounds_fit, b_bounds_fit⟩
  have D_Model___init__ : IsI l.prog w K mg base CX0 2 C_Model "Model" ["self", "unknowns"] (spInit K C_Model) := ⟨_, _, ok_Model___init__ F_Model___init__ B D_is_label D_bounds_fit, ⟨mk_Model, a_Model___init__, i_Model___init__, kc_Model⟩, b_Model___init__, PySem.W.mg_of X G a_Model⟩
  have D_Model_has : IsM l.prog w K mg base CX0 1 C_Model "has" ["self", "label"] (spHas K C_Model) := ⟨⟨_, _, ok_Model_has F_Model_has B , ⟨a_Model_has, i_Model_has, k_Model_has⟩, b_Model_has⟩, B.cl_Model⟩
  have D_Model_move : IsM l.prog w K mg base CX0 2 C_Model "move" ["self", "v", "low", "high"] (spMove K C_Model) := ⟨⟨_, _, ok_Model_move F_Model_move B D_Model__need D_bounds_fit, ⟨a_Model_move, i_Model_move, k_Model_move⟩, b_Model_move⟩, B.cl_Model⟩
  have D_law_draw : Is l.prog w K mg base CX0 1 "_law_draw" ["_law_tape_here", "_law_many"] spDraw := ⟨_, _, ok_law_draw F_law_draw B , PySem.W.mg_of X G a_law_draw, k_law_draw, b_law_draw⟩
  have D_law_tape : Is l.prog w K mg base CX0 1 "_law_tape" ["_law_script"] (spTape K) := ⟨_, _, ok_law_tape F_law_tape B , PySem.W.mg_of X G a_law_tape, k_law_tape, b_law_tape⟩
  have D_law_terms : Is l.prog w K mg base CX0 2 "_law_terms" ["_law_tape_here", "_law_many"] (spLawTerms K) := ⟨_, _, ok_law_terms F_law_terms B D_law_draw, PySem.W.mg_of X G a_law_terms, k_law_terms, b_law_terms⟩
  have D_law_literal : Is l.prog w K mg base CX0 2 "_law_literal" ["_law_tape_here", "_law_many"] (spLawLiteral K) := ⟨_, _, ok_law_literal F_law_literal B D_law_draw, PySem.W.mg_of X G a_law_literal, k_law_literal, b_law_literal⟩
  have D_law_some : Is l.prog w K mg base CX0 2 "_law_some" ["_law_tape_here", "_law_many", "_law_least"] (spLawSome K) := ⟨_, _, ok_law_some F_law_some B D_law_draw, PySem.W.mg_of X G a_law_some, k_law_some, b_law_some⟩
  have D_law_body : Is l.prog w K mg base CX0 3 "_law_body" ["_law_tape_here", "_law_many"] (spLawBody K) := ⟨_, _, ok_law_body F_law_body B D_law_draw D_law_literal D_law_terms D_law_some, PySem.W.mg_of X G a_law_body, k_law_body, b_law_body⟩
  have D_law_world : Is l.prog w K mg base CX0 4 "_law_world" ["_law_tape_here", "_law_most", "_law_width", "_law_bodies"] (spWorld K) := ⟨_, _, ok_law_world F_law_world B D_law_terms D_law_draw D_law_body, PySem.W.mg_of X G a_law_world, k_law_world, b_law_world⟩
  have D_law_rel : Is l.prog w K mg base CX0 1 "_law_rel" ["_law_relation", "_law_left", "_law_right"] spRel := ⟨_, _, ok_law_rel F_law_rel B , PySem.W.mg_of X G a_law_rel, k_law_rel, b_law_rel⟩
  have D_law_fact : Is l.prog w K mg base CX0 3 "_law_fact" ["_law_tape_here", "_law_many"] (spLawFact K) := ⟨_, _, ok_law_fact F_law_fact B D_law_draw D_law_terms D_law_literal, PySem.W.mg_of X G a_law_fact, k_law_fact, b_law_fact⟩
  have D_law_same : Is l.prog w K mg base CX0 1 "_law_same" ["_law_answer", "_law_due"] spSame := ⟨_, _, ok_law_same F_law_same B , PySem.W.mg_of X G a_law_same, k_law_same, b_law_same⟩
  have D_law_apply : Is l.prog w K mg base CX0 2 "_law_apply" ["_law_left", "_law_fact_here"] (spLApply K) := ⟨_, _, ok_law_apply F_law_apply B D_law_rel, PySem.W.mg_of X G a_law_apply, k_law_apply, b_law_apply⟩
  have D_law_lost : Is l.prog w K mg base CX0 1 "_law_lost" ["_law_left", "_law_new"] (spLost K) := ⟨_, _, ok_law_lost F_law_lost B , PySem.W.mg_of X G a_law_lost, k_law_lost, b_law_lost⟩
  have D_law_agrees : IsG l.prog w K mg base CX0 2 "_law_agrees" ["_law_remaining", "_law_left"] (spAgrees K C_Remaining) := ⟨_, _, ok_law_agrees F_law_agrees B D_law_same D_Remaining_left D_Remaining_single, PySem.W.mg_of X G a_law_agrees, k_law_agrees, b_law_agrees⟩
  exact ok_law (fun_mk (st := s_law) l_law c_law k_law) B D_law_tape D_Model___init__ D_Remaining___init__ D_law_world D_law_agrees D_law_draw D_Remaining_fix D_Model_move D_law_fact D_law_apply D_Remaining_apply D_law_lost
theorem walk_ofGE {l : PySem.W.OpenLaw} {n k : Nat} {q : Program} {loose : List Str} {XP : (Str → Option Value) → Heap → Prop} {YP : World → Heap → Prop} {d : DefRec} {x : Str}
    (most : l.most = some n) (small : n ≤ sizeLine) (nodf : d.params.defaults = []) (room : Room k callerA)
    (F : ∀ (w : World) (mg : Str → Option Value) (fa : Addr) (h : Heap), YP w h → h.Ns mainGlobals mg → mg d.name = some (.ref fa) →
      ∃ (K : PySem.W.Frag) (fd : FuncData) (sp : Sp), K.In h ∧ (∀ (s : Shared) (u : Value), BindsTo s fd ⟨[u], []⟩ [(x, u)]) ∧
        (∀ (H : Hp) (a : Addr) (ns : List Int), ns.length ≤ n → Only H → SqL K H a (ns.map V.int) → sp [.ref a] H (fun v _ => v = .bl true) fun _ _ _ => False) ∧
        ∀ base : Heap, K.In base → base.Ns mainGlobals mg → FnOkG l.prog w K mg base CX0 k fa fd [x] sp) :
    PySem.W.WalkO q loose XP YP l.row.toRowW d [] (fun f vs => PySem.call f vs) := by
  refine Att.attach_call most nodf fun w s₀ s₁ mg mb fa o pm cd doc a vs ns G Y ho hd hcd hm obj intA len hg => ?_
  obtain ⟨K, fd, sp, inK, bnd, want, FF⟩ := F w mg fa _ Y G.T.g hm
  exact law_callG inK G.T.g G.T.b G.T.builtins G.T.nolimit hg obj intA (Nat.le_trans len small) room FF bnd (fun H only isl => want H a ns len only isl)

theorem facts {l : PySem.W.OpenLaw} {w : World} {K : PySem.W.Frag} {h : Heap} {mg : Str → Option Value} {fa : Addr} (X : K.In h) (G : h.Ns mainGlobals mg) (hfa : mg "law" = some (.ref fa)) (yc : He.SaysE faL fnL K ∧ exL K = true) : ∃ fd : FuncData, (∀ (s : Shared) (v : Value), BindsTo s fd ⟨[v], []⟩ [("_law_script", v)]) ∧ ∀ base : Heap, K.In base → base.Ns mainGlobals mg → FnOkG l.prog w K mg base CX0 6 fa fd ["_law_script"] ((spLaw K)) := by
  have zc_Model := He.cls_ok (yc.1.fact 1 (f := .cls "Model") (by kernel_rfl))
  have zc_Remaining := He.cls_ok (yc.1.fact 8 (f := .cls "Remaining") (by kernel_rfl))
  obtain ⟨_, _, _, _, _, _, _, _, _, l_relation_holds, c_relation_holds⟩ := yc.1.def_ 0 (d := ⟨("relation_holds", none), "relation_holds", "relation_holds", defArgs s_relation_holds, defBody s_relation_holds, defScope s_relation_holds⟩) (by kernel_rfl)
  have a_relation_holds := He.eqO_ok (yc.1.fact 11 (f := .glo "relation_holds") (by kernel_rfl))
  have k_relation_holds := He.keep_ok (yc.1.fact 12 (f := .keep "relation_holds") (by kernel_rfl))
  obtain ⟨_, _, _, _, _, _, _, _, _, l_literal_holds, c_literal_holds⟩ := yc.1.def_ 1 (d := ⟨("literal_holds", none), "literal_holds", "literal_holds", defArgs s_literal_holds, defBody s_literal_holds, defScope s_literal_holds⟩) (by kernel_rfl)
  have a_literal_holds := He.eqO_ok (yc.1.fact 13 (f := .glo "literal_holds") (by kernel_rfl))
  have k_literal_holds := He.keep_ok (yc.1.fact 14 (f := .keep "literal_holds") (by kernel_rfl))
  obtain ⟨_, _, _, _, _, _, _, _, _, l_terms_sum, c_terms_sum⟩ := yc.1.def_ 2 (d := ⟨("terms_sum", none), "terms_sum", "terms_sum", defArgs s_terms_sum, defBody s_terms_sum, defScope s_terms_sum⟩) (by kernel_rfl)
  have a_terms_sum := He.eqO_ok (yc.1.fact 15 (f := .glo "terms_sum") (by kernel_rfl))
  have k_terms_sum := He.keep_ok (yc.1.fact 16 (f := .keep "terms_sum") (by kernel_rfl))
  obtain ⟨_, _, _, _, _, _, _, _, _, l_unknowns_in, c_unknowns_in⟩ := yc.1.def_ 3 (d := ⟨("unknowns_in", none), "unknowns_in", "unknowns_in", defArgs s_unknowns_in, defBody s_unknowns_in, defScope s_unknowns_in⟩) (by kernel_rfl)
  have a_unknowns_in := He.eqO_ok (yc.1.fact 17 (f := .glo "unknowns_in") (by kernel_rfl))
  have k_unknowns_in := He.keep_ok (yc.1.fact 18 (f := .keep "unknowns_in") (by kernel_rfl))
  obtain ⟨_, _, _, _, _, _, _, _, _, l_full_domains, c_full_domains⟩ := yc.1.def_ 4 (d := ⟨("full_domains", none), "full_domains", "full_domains", defArgs s_full_domains, defBody s_full_domains, defScope s_full_domains⟩) (by kernel_rfl)
  have a_full_domains := He.eqO_ok (yc.1.fact 19 (f := .glo "full_domains") (by kernel_rfl))
  have k_full_domains := He.keep_ok (yc.1.fact 20 (f := .keep "full_domains") (by kernel_rfl))
  obtain ⟨_, _, _, _, _, _, _, _, _, l_keep_literal, c_keep_literal⟩ := yc.1.def_ 5 (d := ⟨("keep_literal", none), "keep_literal", "keep_literal", defArgs s_keep_literal, defBody s_keep_literal, defScope s_keep_literal⟩) (by kernel_rfl)
  have a_keep_literal := He.eqO_ok (yc.1.fact 21 (f := .glo "keep_literal") (by kernel_rfl))
  have k_keep_literal := He.keep_ok (yc.1.fact 22 (f := .keep "keep_literal") (by kernel_rfl))
  obtain ⟨_, _, _, _, _, _, _, _, _, l_least_of, c_least_of⟩ := yc.1.def_ 6 (d := ⟨("least_of", none), "least_of", "least_of", defArgs s_least_of, defBody s_least_of, defScope s_least_of⟩) (by kernel_rfl)
  have a_least_of := He.eqO_ok (yc.1.fact 23 (f := .glo "least_of") (by kernel_rfl))
  have k_least_of := He.keep_ok (yc.1.fact 24 (f := .keep "least_of") (by kernel_rfl))
  obtain ⟨_, _, _, _, _, _, _, _, _, l_apply_row, c_apply_row⟩ := yc.1.def_ 7 (d := ⟨("apply_row", none), "apply_row", "apply_row", defArgs s_apply_row, defBody s_apply_row, defScope s_apply_row⟩) (by kernel_rfl)
  have a_apply_row := He.eqO_ok (yc.1.fact 25 (f := .glo "apply_row") (by kernel_rfl))
  have k_apply_row := He.keep_ok (yc.1.fact 26 (f := .keep "apply_row") (by kernel_rfl))
  obtain ⟨_, _, _, _, _, _, _, _, _, l_live_literals, c_live_literals⟩ := yc.1.def_ 8 (d := ⟨("live_literals", none), "live_literals", "live_literals", defArgs s_live_literals, defBody s_live_literals, defScope s_live_literals⟩) (by kernel_rfl)
  have a_live_literals := He.eqO_ok (yc.1.fact 27 (f := .glo "live_literals") (by kernel_rfl))
  have k_live_literals := He.keep_ok (yc.1.fact 28 (f := .keep "live_literals") (by kernel_rfl))
  obtain ⟨_, _, _, _, _, _, _, _, _, l_Remaining___init__, c_Remaining___init__⟩ := yc.1.def_ 9 (d := ⟨("Remaining", some "__init__"), "__init__", "Remaining.__init__", defArgs s_Remaining___init__, defBody s_Remaining___init__, defScope s_Remaining___init__⟩) (by kernel_rfl)
  obtain ⟨a_Remaining___init__, i_Remaining___init__, k_Remaining___init__⟩ := meth3 (yc.1.fact 29 (f := .meth "Remaining" "__init__") (by kernel_rfl))
  obtain ⟨_, _, _, _, _, _, _, _, _, l_Remaining_left, c_Remaining_left⟩ := yc.1.def_ 10 (d := ⟨("Remaining", some "left"), "left", "Remaining.left", defArgs s_Remaining_left, defBody s_Remaining_left, defScope s_Remaining_left⟩) (by kernel_rfl)
  obtain ⟨a_Remaining_left, i_Remaining_left, k_Remaining_left⟩ := meth3 (yc.1.fact 30 (f := .meth "Remaining" "left") (by kernel_rfl))
  obtain ⟨_, _, _, _, _, _, _, _, _, l_Remaining_fix, c_Remaining_fix⟩ := yc.1.def_ 11 (d := ⟨("Remaining", some "fix"), "fix", "Remaining.fix", defArgs s_Remaining_fix, defBody s_Remaining_fix, defScope s_Remaining_fix⟩) (by kernel_rfl)
  obtain ⟨a_Remaining_fix, i_Remaining_fix, k_Remaining_fix⟩ := meth3 (yc.1.fact 31 (f := .meth "Remaining" "fix") (by kernel_rfl))
  obtain ⟨_, _, _, _, _, _, _, _, _, l_Remaining_single, c_Remaining_single⟩ := yc.1.def_ 12 (d := ⟨("Remaining", some "single"), "single", "Remaining.single", defArgs s_Remaining_single, defBody s_Remaining_single, defScope s_Remaining_single⟩) (by kernel_rfl)
  obtain ⟨a_Remaining_single, i_Remaining_single, k_Remaining_single⟩ := meth3 (yc.1.fact 32 (f := .meth "Remaining" "single") (by kernel_rfl))
  obtain ⟨_, _, _, _, _, _, _, _, _, l_Remaining_apply, c_Remaining_apply⟩ := yc.1.def_ 13 (d := ⟨("Remaining", some "apply"), "apply", "Remaining.apply", defArgs s_Remaining_apply, defBody s_Remaining_apply, defScope s_Remaining_apply⟩) (by kernel_rfl)
  obtain ⟨a_Remaining_apply, i_Remaining_apply, k_Remaining_apply⟩ := meth3 (yc.1.fact 33 (f := .meth "Remaining" "apply") (by kernel_rfl))
  obtain ⟨_, _, _, _, _, _, _, _, _, l_is_label, c_is_label⟩ := yc.1.def_ 14 (d := ⟨("is_label", none), "is_label", "is_label", defArgs s_is_label, defBody s_is_label, defScope s_is_label⟩) (by kernel_rfl)
  have a_is_label := He.eqO_ok (yc.1.fact 34 (f := .glo "is_label") (by kernel_rfl))
  have k_is_label := He.keep_ok (yc.1.fact 35 (f := .keep "is_label") (by kernel_rfl))
  obtain ⟨_, _, _, _, _, _, _, _, _, l_bounds_fit, c_bounds_fit⟩ := yc.1.def_ 15 (d := ⟨("bounds_fit", none), "bounds_fit", "bounds_fit", defArgs s_bounds_fit, defBody s_bounds_fit, defScope s_bounds_fit⟩) (by kernel_rfl)
  have a_bounds_fit := He.eqO_ok (yc.1.fact 36 (f := .glo "bounds_fit") (by kernel_rfl))
  have k_bounds_fit := He.keep_ok (yc.1.fact 37 (f := .keep "bounds_fit") (by kernel_rfl))
  obtain ⟨_, _, _, _, _, _, _, _, _, l_Model___init__, c_Model___init__⟩ := yc.1.def_ 16 (d := ⟨("Model", some "__init__"), "__init__", "Model.__init__", defArgs s_Model___init__, defBody s_Model___init__, defScope s_Model___init__⟩) (by kernel_rfl)
  obtain ⟨a_Model___init__, i_Model___init__, k_Model___init__⟩ := meth3 (yc.1.fact 38 (f := .meth "Model" "__init__") (by kernel_rfl))
  obtain ⟨_, _, _, _, _, _, _, _, _, l_Model__need, c_Model__need⟩ := yc.1.def_ 17 (d := ⟨("Model", some "_need"), "_need", "Model._need", defArgs s_Model__need, defBody s_Model__need, defScope s_Model__need⟩) (by kernel_rfl)
  obtain ⟨a_Model__need, i_Model__need, k_Model__need⟩ := meth3 (yc.1.fact 39 (f := .meth "Model" "_need") (by kernel_rfl))
  obtain ⟨_, _, _, _, _, _, _, _, _, l_Model_many, c_Model_many⟩ := yc.1.def_ 18 (d := ⟨("Model", some "many"), "many", "Model.many", defArgs s_Model_many, defBody s_Model_many, defScope s_Model_many⟩) (by kernel_rfl)
  obtain ⟨a_Model_many, i_Model_many, k_Model_many⟩ := meth3 (yc.1.fact 40 (f := .meth "Model" "many") (by kernel_rfl))
  obtain ⟨_, _, _, _, _, _, _, _, _, l_Model_low, c_Model_low⟩ := yc.1.def_ 19 (d := ⟨("Model", some "low"), "low", "Model.low", defArgs s_Model_low, defBody s_Model_low, defScope s_Model_low⟩) (by kernel_rfl)
  obtain ⟨a_Model_low, i_Model_low, k_Model_low⟩ := meth3 (yc.1.fact 41 (f := .meth "Model" "low") (by kernel_rfl))
  obtain ⟨_, _, _, _, _, _, _, _, _, l_Model_high, c_Model_high⟩ := yc.1.def_ 20 (d := ⟨("Model", some "high"), "high", "Model.high", defArgs s_Model_high, defBody s_Model_high, defScope s_Model_high⟩) (by kernel_rfl)
  obtain ⟨a_Model_high, i_Model_high, k_Model_high⟩ := meth3 (yc.1.fact 42 (f := .meth "Model" "high") (by kernel_rfl))
  obtain ⟨_, _, _, _, _, _, _, _, _, l_Model_has, c_Model_has⟩ := yc.1.def_ 21 (d := ⟨("Model", some "has"), "has", "Model.has", defArgs s_Model_has, defBody s_Model_has, defScope s_Model_has⟩) (by kernel_rfl)
  obtain ⟨a_Model_has, i_Model_has, k_Model_has⟩ := meth3 (yc.1.fact 43 (f := .meth "Model" "has") (by kernel_rfl))
  obtain ⟨_, _, _, _, _, _, _, _, _, l_Model_move, c_Model_move⟩ := yc.1.def_ 22 (d := ⟨("Model", some "move"), "move", "Model.move", defArgs s_Model_move, defBody s_Model_move, defScope s_Model_move⟩) (by kernel_rfl)
  obtain ⟨a_Model_move, i_Model_move, k_Model_move⟩ := meth3 (yc.1.fact 44 (f := .meth "Model" "move") (by kernel_rfl))
  obtain ⟨_, _, _, _, _, _, _, _, _, l_law_draw, c_law_draw⟩ := yc.1.def_ 23 (d := ⟨("_law_draw", none), "_law_draw", "_law_draw", defArgs s_law_draw, defBody s_law_draw, defScope s_law_draw⟩) (by kernel_rfl)
  have a_law_draw := He.eqO_ok (yc.1.fact 45 (f := .glo "_law_draw") (by kernel_rfl))
  have k_law_draw := He.keep_ok (yc.1.fact 46 (f := .keep "_law_draw") (by kernel_rfl))
  obtain ⟨_, _, _, _, _, _, _, _, _, l_law_tape, c_law_tape⟩ := yc.1.def_ 24 (d := ⟨("_law_tape", none), "_law_tape", "_law_tape", defArgs s_law_tape, defBody s_law_tape, defScope s_law_tape⟩) (by kernel_rfl)
  have a_law_tape := He.eqO_ok (yc.1.fact 47 (f := .glo "_law_tape") (by kernel_rfl))
  have k_law_tape := He.keep_ok (yc.1.fact 48 (f := .keep "_law_tape") (by kernel_rfl))
  obtain ⟨_, _, _, _, _, _, _, _, _, l_law_terms, c_law_terms⟩ := yc.1.def_ 25 (d := ⟨("_law_terms", none), "_law_terms", "_law_terms", defArgs s_law_terms, defBody s_law_terms, defScope s_law_terms⟩) (by kernel_rfl)
  have a_law_terms := He.eqO_ok (yc.1.fact 49 (f := .glo "_law_terms") (by kernel_rfl))
  have k_law_terms := He.keep_ok (yc.1.fact 50 (f := .keep "_law_terms") (by kernel_rfl))
  obtain ⟨_, _, _, _, _, _, _, _, _, l_law_literal, c_law_literal⟩ := yc.1.def_ 26 (d := ⟨("_law_literal", none), "_law_literal", "_law_literal", defArgs s_law_literal, defBody s_law_literal, defScope s_law_literal⟩) (by kernel_rfl)
  have a_law_literal := He.eqO_ok (yc.1.fact 51 (f := .glo "_law_literal") (by kernel_rfl))
  have k_law_literal := He.keep_ok (yc.1.fact 52 (f := .keep "_law_literal") (by kernel_rfl))
  obtain ⟨_, _, _, _, _, _, _, _, _, l_law_some, c_law_some⟩ := yc.1.def_ 27 (d := ⟨("_law_some", none), "_law_some", "_law_some", defArgs s_law_some, defBody s_law_some, defScope s_law_some⟩) (by kernel_rfl)
  have a_law_some := He.eqO_ok (yc.1.fact 53 (f := .glo "_law_some") (by kernel_rfl))
  have k_law_some := He.keep_ok (yc.1.fact 54 (f := .keep "_law_some") (by kernel_rfl))
  obtain ⟨_, _, _, _, _, _, _, _, _, l_law_body, c_law_body⟩ := yc.1.def_ 28 (d := ⟨("_law_body", none), "_law_body", "_law_body", defArgs s_law_body, defBody s_law_body, defScope s_law_body⟩) (by kernel_rfl)
  have a_law_body := He.eqO_ok (yc.1.fact 55 (f := .glo "_law_body") (by kernel_rfl))
  have k_law_body := He.keep_ok (yc.1.fact 56 (f := .keep "_law_body") (by kernel_rfl))
  obtain ⟨_, _, _, _, _, _, _, _, _, l_law_world, c_law_world⟩ := yc.1.def_ 29 (d := ⟨("_law_world", none), "_law_world", "_law_world", defArgs s_law_world, defBody s_law_world, defScope s_law_world⟩) (by kernel_rfl)
  have a_law_world := He.eqO_ok (yc.1.fact 57 (f := .glo "_law_world") (by kernel_rfl))
  have k_law_world := He.keep_ok (yc.1.fact 58 (f := .keep "_law_world") (by kernel_rfl))
  obtain ⟨_, _, _, _, _, _, _, _, _, l_law_rel, c_law_rel⟩ := yc.1.def_ 30 (d := ⟨("_law_rel", none), "_law_rel", "_law_rel", defArgs s_law_rel, defBody s_law_rel, defScope s_law_rel⟩) (by kernel_rfl)
  have a_law_rel := He.eqO_ok (yc.1.fact 59 (f := .glo "_law_rel") (by kernel_rfl))
  have k_law_rel := He.keep_ok (yc.1.fact 60 (f := .keep "_law_rel") (by kernel_rfl))
  obtain ⟨_, _, _, _, _, _, _, _, _, l_law_fact, c_law_fact⟩ := yc.1.def_ 31 (d := ⟨("_law_fact", none), "_law_fact", "_law_fact", defArgs s_law_fact, defBody s_law_fact, defScope s_law_fact⟩) (by kernel_rfl)
  have a_law_fact := He.eqO_ok (yc.1.fact 61 (f := .glo "_law_fact") (by kernel_rfl))
  have k_law_fact := He.keep_ok (yc.1.fact 62 (f := .keep "_law_fact") (by kernel_rfl))
  obtain ⟨_, _, _, _, _, _, _, _, _, l_law_same, c_law_same⟩ := yc.1.def_ 32 (d := ⟨("_law_same", none), "_law_same", "_law_same", defArgs s_law_same, defBody s_law_same, defScope s_law_same⟩) (by kernel_rfl)
  have a_law_same := He.eqO_ok (yc.1.fact 63 (f := .glo "_law_same") (by kernel_rfl))
  have k_law_same := He.keep_ok (yc.1.fact 64 (f := .keep "_law_same") (by kernel_rfl))
  obtain ⟨_, _, _, _, _, _, _, _, _, l_law_apply, c_law_apply⟩ := yc.1.def_ 33 (d := ⟨("_law_apply", none), "_law_apply", "_law_apply", defArgs s_law_apply, defBody s_law_apply, defScope s_law_apply⟩) (by kernel_rfl)
  have a_law_apply := He.eqO_ok (yc.1.fact 65 (f := .glo "_law_apply") (by kernel_rfl))
  have k_law_apply := He.keep_ok (yc.1.fact 66 (f := .keep "_law_apply") (by kernel_rfl))
  obtain ⟨_, _, _, _, _, _, _, _, _, l_law_lost, c_law_lost⟩ := yc.1.def_ 34 (d := ⟨("_law_lost", none), "_law_lost", "_law_lost", defArgs s_law_lost, defBody s_law_lost, defScope s_law_lost⟩) (by kernel_rfl)
  have a_law_lost := He.eqO_ok (yc.1.fact 67 (f := .glo "_law_lost") (by kernel_rfl))
  have k_law_lost := He.keep_ok (yc.1.fact 68 (f := .keep "_law_lost") (by kernel_rfl))
  obtain ⟨_, _, _, _, _, _, _, _, _, l_law_agrees, c_law_agrees⟩ := yc.1.def_ 35 (d := ⟨("_law_agrees", none), "_law_agrees", "_law_agrees", defArgs s_law_agrees, defBody s_law_agrees, defScope s_law_agrees⟩) (by kernel_rfl)
  have a_law_agrees := He.eqO_ok (yc.1.fact 69 (f := .glo "_law_agrees") (by kernel_rfl))
  have k_law_agrees := He.keep_ok (yc.1.fact 70 (f := .keep "_law_agrees") (by kernel_rfl))
  obtain ⟨_, _, _, _, _, _, _, _, _, l_law, c_law⟩ := yc.1.def_ 36 (d := ⟨("law", none), "law", "law", defArgs s_law, defBody s_law, defScope s_law⟩) (by kernel_rfl)
  have a_law := He.eqO_ok (yc.1.fact 71 (f := .glo "law") (by kernel_rfl))
  have k_law := He.keep_ok (yc.1.fact 72 (f := .keep "law") (by kernel_rfl))
  obtain ⟨g_LETTERS, r_LETTERS⟩ := conX_ok (List.all_eq_true.mp yc.2 _ (List.mem_of_getElem? (i := 4) (by rfl)))
  obtain ⟨g_DIGITS, r_DIGITS⟩ := conX_ok (List.all_eq_true.mp yc.2 _ (List.mem_of_getElem? (i := 5) (by rfl)))
  obtain ⟨g_UNKNOWNS_MOST, r_UNKNOWNS_MOST⟩ := conX_ok (List.all_eq_true.mp yc.2 _ (List.mem_of_getElem? (i := 6) (by rfl)))
  obtain ⟨g_BOUND_MOST, r_BOUND_MOST⟩ := conX_ok (List.all_eq_true.mp yc.2 _ (List.mem_of_getElem? (i := 7) (by rfl)))
  exact all_mk X G hfa (He.eqO_ok (yc.1.fact 7 (f := .glo "Remaining") (by kernel_rfl))) (zc_Remaining.pg) (zc_Remaining.hd) (zc_Remaining.po) (zc_Remaining.sa) (List.all_eq_true.mp yc.2 _ (List.mem_of_getElem? (i := 2) (by rfl))) (List.all_eq_true.mp yc.2 _ (List.mem_of_getElem? (i := 3) (by rfl))) (He.eqO_ok (yc.1.fact 9 (f := .noat "Remaining" "_many") (by kernel_rfl))) (He.eqO_ok (yc.1.fact 10 (f := .noat "Remaining" "_domains") (by kernel_rfl))) (He.eqO_ok (yc.1.fact 0 (f := .glo "Model") (by kernel_rfl))) (zc_Model.pg) (zc_Model.hd) (zc_Model.po) (zc_Model.sa) (List.all_eq_true.mp yc.2 _ (List.mem_of_getElem? (i := 0) (by rfl))) (List.all_eq_true.mp yc.2 _ (List.mem_of_getElem? (i := 1) (by rfl))) (He.eqO_ok (yc.1.fact 2 (f := .noat "Model" "_names") (by kernel_rfl))) (He.eqO_ok (yc.1.fact 3 (f := .noat "Model" "_lows") (by kernel_rfl))) (He.eqO_ok (yc.1.fact 4 (f := .noat "Model" "_highs") (by kernel_rfl))) (He.eqO_ok (yc.1.fact 5 (f := .noat "Model" "_bodies") (by kernel_rfl))) (He.eqO_ok (yc.1.fact 6 (f := .noat "Model" "_goal") (by kernel_rfl))) a_relation_holds l_relation_holds c_relation_holds k_relation_holds a_literal_holds l_literal_holds c_literal_holds k_literal_holds a_terms_sum l_terms_sum c_terms_sum k_terms_sum a_unknowns_in l_unknowns_in c_unknowns_in k_unknowns_in a_full_domains l_full_domains c_full_domains k_full_domains a_keep_literal l_keep_literal c_keep_literal k_keep_literal a_least_of l_least_of c_least_of k_least_of a_apply_row l_apply_row c_apply_row k_apply_row a_live_literals l_live_literals c_live_literals k_live_literals a_Remaining___init__ i_Remaining___init__ l_Remaining___init__ c_Remaining___init__ k_Remaining___init__ a_Remaining_left i_Remaining_left l_Remaining_left c_Remaining_left k_Remaining_left a_Remaining_fix i_Remaining_fix l_Remaining_fix c_Remaining_fix k_Remaining_fix a_Remaining_single i_Remaining_single l_Remaining_single c_Remaining_single k_Remaining_single a_Remaining_apply i_Remaining_apply l_Remaining_apply c_Remaining_apply k_Remaining_apply a_is_label l_is_label c_is_label k_is_label a_bounds_fit l_bounds_fit c_bounds_fit k_bounds_fit a_Model___init__ i_Model___init__ l_Model___init__ c_Model___init__ k_Model___init__ a_Model__need i_Model__need l_Model__need c_Model__need k_Model__need a_Model_many i_Model_many l_Model_many c_Model_many k_Model_many a_Model_low i_Model_low l_Model_low c_Model_low k_Model_low a_Model_high i_Model_high l_Model_high c_Model_high k_Model_high a_Model_has i_Model_has l_Model_has c_Model_has k_Model_has a_Model_move i_Model_move l_Model_move c_Model_move k_Model_move a_law_draw l_law_draw c_law_draw k_law_draw a_law_tape l_law_tape c_law_tape k_law_tape a_law_terms l_law_terms c_law_terms k_law_terms a_law_literal l_law_literal c_law_literal k_law_literal a_law_some l_law_some c_law_some k_law_some a_law_body l_law_body c_law_body k_law_body a_law_world l_law_world c_law_world k_law_world a_law_rel l_law_rel c_law_rel k_law_rel a_law_fact l_law_fact c_law_fact k_law_fact a_law_same l_law_same c_law_same k_law_same a_law_apply l_law_apply c_law_apply k_law_apply a_law_lost l_law_lost c_law_lost k_law_lost a_law_agrees l_law_agrees c_law_agrees k_law_agrees a_law l_law c_law k_law (He.eqO_ok (yc.1.fact 73 (f := .free "len") (by kernel_rfl))) (He.eqO_ok (yc.1.fact 74 (f := .free "int") (by kernel_rfl))) (He.eqO_ok (yc.1.fact 75 (f := .free "list") (by kernel_rfl))) (He.eqO_ok (yc.1.fact 76 (f := .free "tuple") (by kernel_rfl))) (He.eqO_ok (yc.1.fact 77 (f := .free "range") (by kernel_rfl))) (He.eqO_ok (yc.1.fact 78 (f := .free "all") (by kernel_rfl))) (He.eqO_ok (yc.1.fact 79 (f := .free "any") (by kernel_rfl))) (He.eqO_ok (yc.1.fact 80 (f := .free "isinstance") (by kernel_rfl))) (He.eqO_ok (yc.1.fact 81 (f := .free "bool") (by kernel_rfl))) (He.eqO_ok (yc.1.fact 82 (f := .free "set") (by kernel_rfl))) (He.eqO_ok (yc.1.fact 83 (f := .free "str") (by kernel_rfl))) (He.eqO_ok (yc.1.fact 84 (f := .free "sorted") (by kernel_rfl))) (He.eqO_ok (yc.1.fact 85 (f := .free "sum") (by kernel_rfl))) (He.eqO_ok (yc.1.fact 86 (f := .free "min") (by kernel_rfl))) (He.eqO_ok (yc.1.fact 87 (f := .free "repr") (by kernel_rfl))) g_LETTERS r_LETTERS g_DIGITS r_DIGITS g_UNKNOWNS_MOST r_UNKNOWNS_MOST g_BOUND_MOST r_BOUND_MOST
theorem walk {l : PySem.W.OpenLaw} {q : Program} {loose : List Str} {XP : (Str → Option Value) → Heap → Prop} {d : DefRec} (hn : l.most = some 63) (hdf : d.params.defaults = []) (nm : d.name = "law") : PySem.W.WalkO q loose XP hk.says l.row.toRowW d [] (fun f vs => PySem.call f vs) := by
  refine walk_ofGE (n := 63) (k := 6) (x := "_law_script") hn (by decide) hdf ⟨rfl, by decide, by decide⟩ (fun w mg fa h Y G hm => ?_)
  obtain ⟨K, X, c⟩ := Y
  rw [nm] at hm
  obtain ⟨fd, hb, hF⟩ := facts (l := l) (w := w) X G hm c
  exact ⟨K, fd, (spLaw K), X, hb, fun H a ns hl _ hS => ⟨a, ns, rfl, hS, hl, fun _ => rfl⟩, hF⟩
end CG

open PySem PySem.W PySem.Calls PyProof.Rows in
set_option maxRecDepth 100000 in
set_option maxHeartbeats 0 in
theorem PySem.Challenge.cw_commonground_k72_remaining_values_holds : PySem.Challenge.rw_commonground_k72_remaining_values.Holds := by
  exact CG.law_of (CG.walk rfl (by kernel_rfl) (by kernel_rfl))

#print axioms PySem.Challenge.cw_commonground_k72_remaining_values_holds
