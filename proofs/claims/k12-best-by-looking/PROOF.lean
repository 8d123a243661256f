import PyProof.Rows.All
import Wide.All
import OpenK.AllK
import Wide.FinOn
import HandS.ForMost
import HandS.Wide
import HandS.IsInst
import HandS.Evl
import HandS.Walk
import HandS.Conv
import HandS.Deep
import HandS.More
import HandS.SetFor
import HandS.Strs
import HandS.TupSets
import HandS.TupAny
import KE.KDictCopyH
import HandS.DictComp
import HandS.Zip
import HandS.Head2
import HandS.HeadEnd
import HandS.HeadHook2
import HandS.Exc
import HandS.ExcOwn
import HandS.WordsExc
import HandS.TryOnly
import HandS.HeadHook1
import PyProof.ExcBaseAll.ValueError
import HandS.TupLe
import HandS.Dict
import PySem.Challenge.RW_commonground_k12_best_by_looking
set_option Elab.async false
set_option linter.all false
set_option maxRecDepth 100000
set_option maxHeartbeats 4000000

namespace CG
open PySem L2
def top (i : Nat) : Stmt := PySem.Challenge.pw_commonground_k12_best_by_looking.main.body.getD i (.Pass ⟨0, 0, 0, 0⟩)
abbrev s_wall : Stmt := top 0
theorem sc_wall : FnScope ["k"] ["k"] (defScope s_wall) := ⟨rfl, rfl, rfl, by decide +kernel, rfl, by decide +kernel, by decide +kernel⟩
theorem st_wall (v0 : V) : L2.start ["k"] [v0] = [some v0] := rfl
abbrev s_Taken___init__ : Stmt := inClass (top 4) 0
theorem sc_Taken___init__ : FnScope ["self", "what"] ["self", "what"] (defScope s_Taken___init__) := ⟨rfl, rfl, rfl, by decide +kernel, rfl, by decide +kernel, by decide +kernel⟩
theorem st_Taken___init__ (v0 v1 : V) : L2.start ["self", "what"] [v0, v1] = [some v0, some v1] := rfl
abbrev s_NoSuch___init__ : Stmt := inClass (top 5) 0
theorem sc_NoSuch___init__ : FnScope ["self", "what"] ["self", "what"] (defScope s_NoSuch___init__) := ⟨rfl, rfl, rfl, by decide +kernel, rfl, by decide +kernel, by decide +kernel⟩
theorem st_NoSuch___init__ (v0 v1 : V) : L2.start ["self", "what"] [v0, v1] = [some v0, some v1] := rfl
abbrev s_next_point : Stmt := top 9
theorem sc_next_point : FnScope ["model", "point", "values", "v"] ["model", "point"] (defScope s_next_point) := ⟨rfl, rfl, rfl, by decide +kernel, rfl, by decide +kernel, by decide +kernel⟩
theorem st_next_point (v0 v1 : V) : L2.start ["model", "point", "values", "v"] [v0, v1] = [some v0, some v1, none, none] := rfl
abbrev s_solutions : Stmt := top 10
theorem sc_solutions : FnScope ["model", "many", "v", "found", "point"] ["model"] (defScope s_solutions) := ⟨rfl, rfl, rfl, by decide +kernel, rfl, by decide +kernel, by decide +kernel⟩
theorem st_solutions (v0 : V) : L2.start ["model", "many", "v", "found", "point"] [v0] = [some v0, none, none, none, none] := rfl
abbrev s_best_plain : Stmt := top 11
theorem sc_best_plain : FnScope ["model", "best", "point", "worth"] ["model"] (defScope s_best_plain) := ⟨rfl, rfl, rfl, by decide +kernel, rfl, by decide +kernel, by decide +kernel⟩
theorem st_best_plain (v0 : V) : L2.start ["model", "best", "point", "worth"] [v0] = [some v0, none, none, none] := rfl
abbrev s_relation_holds : Stmt := top 13
theorem sc_relation_holds : FnScope ["relation", "left", "right"] ["relation", "left", "right"] (defScope s_relation_holds) := ⟨rfl, rfl, rfl, by decide +kernel, rfl, by decide +kernel, by decide +kernel⟩
theorem st_relation_holds (v0 v1 v2 : V) : L2.start ["relation", "left", "right"] [v0, v1, v2] = [some v0, some v1, some v2] := rfl
abbrev s_literal_holds : Stmt := top 14
theorem sc_literal_holds : FnScope ["literal", "worth"] ["literal", "worth"] (defScope s_literal_holds) := ⟨rfl, rfl, rfl, by decide +kernel, rfl, by decide +kernel, by decide +kernel⟩
theorem st_literal_holds (v0 v1 : V) : L2.start ["literal", "worth"] [v0, v1] = [some v0, some v1] := rfl
abbrev s_terms_sum : Stmt := top 15
theorem sc_terms_sum : FnScope ["terms", "point", "total", "v", "c"] ["terms", "point"] (defScope s_terms_sum) := ⟨rfl, rfl, rfl, by decide +kernel, rfl, by decide +kernel, by decide +kernel⟩
theorem st_terms_sum (v0 v1 : V) : L2.start ["terms", "point", "total", "v", "c"] [v0, v1] = [some v0, some v1, none, none, none] := rfl
abbrev s_is_label : Stmt := top 22
theorem sc_is_label : FnScope ["text", "sign"] ["text"] (defScope s_is_label) := ⟨rfl, rfl, rfl, by decide +kernel, rfl, by decide +kernel, by decide +kernel⟩
theorem st_is_label (v0 : V) : L2.start ["text", "sign"] [v0] = [some v0, none] := rfl
abbrev s_body_holds : Stmt := top 23
theorem sc_body_holds : FnScope ["body", "point", "kind", "literal", "at", "v"] ["body", "point"] (defScope s_body_holds) := ⟨rfl, rfl, rfl, by decide +kernel, rfl, by decide +kernel, by decide +kernel⟩
theorem st_body_holds (v0 v1 : V) : L2.start ["body", "point", "kind", "literal", "at", "v"] [v0, v1] = [some v0, some v1, none, none, none, none] := rfl
abbrev s_terms_fit : Stmt := top 24
theorem sc_terms_fit : FnScope ["terms", "many", "last", "v", "c"] ["terms", "many"] (defScope s_terms_fit) := ⟨rfl, rfl, rfl, by decide +kernel, rfl, by decide +kernel, by decide +kernel⟩
theorem st_terms_fit (v0 v1 : V) : L2.start ["terms", "many", "last", "v", "c"] [v0, v1] = [some v0, some v1, none, none, none] := rfl
abbrev s_literal_fits : Stmt := top 25
theorem sc_literal_fits : FnScope ["literal", "many", "v", "relation", "a"] ["literal", "many"] (defScope s_literal_fits) := ⟨rfl, rfl, rfl, by decide +kernel, rfl, by decide +kernel, by decide +kernel⟩
theorem st_literal_fits (v0 v1 : V) : L2.start ["literal", "many", "v", "relation", "a"] [v0, v1] = [some v0, some v1, none, none, none] := rfl
abbrev s_linear_fits : Stmt := top 26
theorem sc_linear_fits : FnScope ["terms", "relation", "rhs", "many"] ["terms", "relation", "rhs", "many"] (defScope s_linear_fits) := ⟨rfl, rfl, rfl, by decide +kernel, rfl, by decide +kernel, by decide +kernel⟩
theorem st_linear_fits (v0 v1 v2 v3 : V) : L2.start ["terms", "relation", "rhs", "many"] [v0, v1, v2, v3] = [some v0, some v1, some v2, some v3] := rfl
abbrev s_distinct_fit : Stmt := top 27
theorem sc_distinct_fit : FnScope ["numbers", "least", "most", "many", "v"] ["numbers", "least", "most", "many"] (defScope s_distinct_fit) := ⟨rfl, rfl, rfl, by decide +kernel, rfl, by decide +kernel, by decide +kernel⟩
theorem st_distinct_fit (v0 v1 v2 v3 : V) : L2.start ["numbers", "least", "most", "many", "v"] [v0, v1, v2, v3] = [some v0, some v1, some v2, some v3, none] := rfl
abbrev s_entries_fit : Stmt := top 28
theorem sc_entries_fit : FnScope ["entries", "entry"] ["entries"] (defScope s_entries_fit) := ⟨rfl, rfl, rfl, by decide +kernel, rfl, by decide +kernel, by decide +kernel⟩
theorem st_entries_fit (v0 : V) : L2.start ["entries", "entry"] [v0] = [some v0, none] := rfl
abbrev s_any_fits : Stmt := top 29
theorem sc_any_fits : FnScope ["literals", "many", "literal"] ["literals", "many"] (defScope s_any_fits) := ⟨rfl, rfl, rfl, by decide +kernel, rfl, by decide +kernel, by decide +kernel⟩
theorem st_any_fits (v0 v1 : V) : L2.start ["literals", "many", "literal"] [v0, v1] = [some v0, some v1, none] := rfl
abbrev s_table_fits : Stmt := top 30
theorem sc_table_fits : FnScope ["numbers", "rows", "many", "row"] ["numbers", "rows", "many"] (defScope s_table_fits) := ⟨rfl, rfl, rfl, by decide +kernel, rfl, by decide +kernel, by decide +kernel⟩
theorem st_table_fits (v0 v1 v2 : V) : L2.start ["numbers", "rows", "many", "row"] [v0, v1, v2] = [some v0, some v1, some v2, none] := rfl
abbrev s_body_fits : Stmt := top 31
theorem sc_body_fits : FnScope ["body", "many", "kind", "inside", "v"] ["body", "many"] (defScope s_body_fits) := ⟨rfl, rfl, rfl, by decide +kernel, rfl, by decide +kernel, by decide +kernel⟩
theorem st_body_fits (v0 v1 : V) : L2.start ["body", "many", "kind", "inside", "v"] [v0, v1] = [some v0, some v1, none, none, none] := rfl
abbrev s_bounds_fit : Stmt := top 36
theorem sc_bounds_fit : FnScope ["low", "high"] ["low", "high"] (defScope s_bounds_fit) := ⟨rfl, rfl, rfl, by decide +kernel, rfl, by decide +kernel, by decide +kernel⟩
theorem st_bounds_fit (v0 v1 : V) : L2.start ["low", "high"] [v0, v1] = [some v0, some v1] := rfl
abbrev s_Model___init__ : Stmt := inClass (top 37) 0
theorem sc_Model___init__ : FnScope ["self", "unknowns", "name", "low", "high"] ["self", "unknowns"] (defScope s_Model___init__) := ⟨rfl, rfl, rfl, by decide +kernel, rfl, by decide +kernel, by decide +kernel⟩
theorem st_Model___init__ (v0 v1 : V) : L2.start ["self", "unknowns", "name", "low", "high"] [v0, v1] = [some v0, some v1, none, none, none] := rfl
abbrev s_Model__need : Stmt := inClass (top 37) 1
theorem sc_Model__need : FnScope ["self", "v"] ["self", "v"] (defScope s_Model__need) := ⟨rfl, rfl, rfl, by decide +kernel, rfl, by decide +kernel, by decide +kernel⟩
theorem st_Model__need (v0 v1 : V) : L2.start ["self", "v"] [v0, v1] = [some v0, some v1] := rfl
abbrev s_Model_many : Stmt := inClass (top 37) 2
theorem sc_Model_many : FnScope ["self"] ["self"] (defScope s_Model_many) := ⟨rfl, rfl, rfl, by decide +kernel, rfl, by decide +kernel, by decide +kernel⟩
theorem st_Model_many (v0 : V) : L2.start ["self"] [v0] = [some v0] := rfl
abbrev s_Model_name : Stmt := inClass (top 37) 3
theorem sc_Model_name : FnScope ["self", "v"] ["self", "v"] (defScope s_Model_name) := ⟨rfl, rfl, rfl, by decide +kernel, rfl, by decide +kernel, by decide +kernel⟩
theorem st_Model_name (v0 v1 : V) : L2.start ["self", "v"] [v0, v1] = [some v0, some v1] := rfl
abbrev s_Model_low : Stmt := inClass (top 37) 4
theorem sc_Model_low : FnScope ["self", "v"] ["self", "v"] (defScope s_Model_low) := ⟨rfl, rfl, rfl, by decide +kernel, rfl, by decide +kernel, by decide +kernel⟩
theorem st_Model_low (v0 v1 : V) : L2.start ["self", "v"] [v0, v1] = [some v0, some v1] := rfl
abbrev s_Model_high : Stmt := inClass (top 37) 5
theorem sc_Model_high : FnScope ["self", "v"] ["self", "v"] (defScope s_Model_high) := ⟨rfl, rfl, rfl, by decide +kernel, rfl, by decide +kernel, by decide +kernel⟩
theorem st_Model_high (v0 v1 : V) : L2.start ["self", "v"] [v0, v1] = [some v0, some v1] := rfl
abbrev s_Model_number : Stmt := inClass (top 37) 6
theorem sc_Model_number : FnScope ["self", "name"] ["self", "name"] (defScope s_Model_number) := ⟨rfl, rfl, rfl, by decide +kernel, rfl, by decide +kernel, by decide +kernel⟩
theorem st_Model_number (v0 v1 : V) : L2.start ["self", "name"] [v0, v1] = [some v0, some v1] := rfl
abbrev s_Model_labels : Stmt := inClass (top 37) 7
theorem sc_Model_labels : FnScope ["self"] ["self"] (defScope s_Model_labels) := ⟨rfl, rfl, rfl, by decide +kernel, rfl, by decide +kernel, by decide +kernel⟩
theorem st_Model_labels (v0 : V) : L2.start ["self"] [v0] = [some v0] := rfl
abbrev s_Model_has : Stmt := inClass (top 37) 8
theorem sc_Model_has : FnScope ["self", "label"] ["self", "label"] (defScope s_Model_has) := ⟨rfl, rfl, rfl, by decide +kernel, rfl, by decide +kernel, by decide +kernel⟩
theorem st_Model_has (v0 v1 : V) : L2.start ["self", "label"] [v0, v1] = [some v0, some v1] := rfl
abbrev s_Model_body : Stmt := inClass (top 37) 9
theorem sc_Model_body : FnScope ["self", "label"] ["self", "label"] (defScope s_Model_body) := ⟨rfl, rfl, rfl, by decide +kernel, rfl, by decide +kernel, by decide +kernel⟩
theorem st_Model_body (v0 v1 : V) : L2.start ["self", "label"] [v0, v1] = [some v0, some v1] := rfl
abbrev s_Model_goal : Stmt := inClass (top 37) 10
theorem sc_Model_goal : FnScope ["self"] ["self"] (defScope s_Model_goal) := ⟨rfl, rfl, rfl, by decide +kernel, rfl, by decide +kernel, by decide +kernel⟩
theorem st_Model_goal (v0 : V) : L2.start ["self"] [v0] = [some v0] := rfl
abbrev s_Model_put : Stmt := inClass (top 37) 11
theorem sc_Model_put : FnScope ["self", "label", "body"] ["self", "label", "body"] (defScope s_Model_put) := ⟨rfl, rfl, rfl, by decide +kernel, rfl, by decide +kernel, by decide +kernel⟩
theorem st_Model_put (v0 v1 v2 : V) : L2.start ["self", "label", "body"] [v0, v1, v2] = [some v0, some v1, some v2] := rfl
abbrev s_Model_withdraw : Stmt := inClass (top 37) 12
theorem sc_Model_withdraw : FnScope ["self", "label"] ["self", "label"] (defScope s_Model_withdraw) := ⟨rfl, rfl, rfl, by decide +kernel, rfl, by decide +kernel, by decide +kernel⟩
theorem st_Model_withdraw (v0 v1 : V) : L2.start ["self", "label"] [v0, v1] = [some v0, some v1] := rfl
abbrev s_Model_move : Stmt := inClass (top 37) 13
theorem sc_Model_move : FnScope ["self", "v", "low", "high"] ["self", "v", "low", "high"] (defScope s_Model_move) := ⟨rfl, rfl, rfl, by decide +kernel, rfl, by decide +kernel, by decide +kernel⟩
theorem st_Model_move (v0 v1 v2 v3 : V) : L2.start ["self", "v", "low", "high"] [v0, v1, v2, v3] = [some v0, some v1, some v2, some v3] := rfl
abbrev s_Model_aim : Stmt := inClass (top 37) 14
theorem sc_Model_aim : FnScope ["self", "goal", "sense", "terms", "constant"] ["self", "goal"] (defScope s_Model_aim) := ⟨rfl, rfl, rfl, by decide +kernel, rfl, by decide +kernel, by decide +kernel⟩
theorem st_Model_aim (v0 v1 : V) : L2.start ["self", "goal", "sense", "terms", "constant"] [v0, v1] = [some v0, some v1, none, none, none] := rfl
abbrev s_Model_inside : Stmt := inClass (top 37) 15
theorem sc_Model_inside : FnScope ["self", "point", "v"] ["self", "point"] (defScope s_Model_inside) := ⟨rfl, rfl, rfl, by decide +kernel, rfl, by decide +kernel, by decide +kernel⟩
theorem st_Model_inside (v0 v1 : V) : L2.start ["self", "point", "v"] [v0, v1] = [some v0, some v1, none] := rfl
abbrev s_Model_broken : Stmt := inClass (top 37) 16
theorem sc_Model_broken : FnScope ["self", "point", "label", "body"] ["self", "point"] (defScope s_Model_broken) := ⟨rfl, rfl, rfl, by decide +kernel, rfl, by decide +kernel, by decide +kernel⟩
theorem st_Model_broken (v0 v1 : V) : L2.start ["self", "point", "label", "body"] [v0, v1] = [some v0, some v1, none, none] := rfl
abbrev s_Model_is_solution : Stmt := inClass (top 37) 17
theorem sc_Model_is_solution : FnScope ["self", "point"] ["self", "point"] (defScope s_Model_is_solution) := ⟨rfl, rfl, rfl, by decide +kernel, rfl, by decide +kernel, by decide +kernel⟩
theorem st_Model_is_solution (v0 v1 : V) : L2.start ["self", "point"] [v0, v1] = [some v0, some v1] := rfl
abbrev s_Model_worth : Stmt := inClass (top 37) 18
theorem sc_Model_worth : FnScope ["self", "point"] ["self", "point"] (defScope s_Model_worth) := ⟨rfl, rfl, rfl, by decide +kernel, rfl, by decide +kernel, by decide +kernel⟩
theorem st_Model_worth (v0 v1 : V) : L2.start ["self", "point"] [v0, v1] = [some v0, some v1] := rfl
abbrev s_Model_is_better : Stmt := inClass (top 37) 19
theorem sc_Model_is_better : FnScope ["self", "first", "second"] ["self", "first", "second"] (defScope s_Model_is_better) := ⟨rfl, rfl, rfl, by decide +kernel, rfl, by decide +kernel, by decide +kernel⟩
theorem st_Model_is_better (v0 v1 v2 : V) : L2.start ["self", "first", "second"] [v0, v1, v2] = [some v0, some v1, some v2] := rfl
abbrev s_Model_goal_row : Stmt := inClass (top 37) 20
theorem sc_Model_goal_row : FnScope ["self", "worth"] ["self", "worth"] (defScope s_Model_goal_row) := ⟨rfl, rfl, rfl, by decide +kernel, rfl, by decide +kernel, by decide +kernel⟩
theorem st_Model_goal_row (v0 v1 : V) : L2.start ["self", "worth"] [v0, v1] = [some v0, some v1] := rfl
abbrev s_Model_improving_row : Stmt := inClass (top 37) 21
theorem sc_Model_improving_row : FnScope ["self", "worth"] ["self", "worth"] (defScope s_Model_improving_row) := ⟨rfl, rfl, rfl, by decide +kernel, rfl, by decide +kernel, by decide +kernel⟩
theorem st_Model_improving_row (v0 v1 : V) : L2.start ["self", "worth"] [v0, v1] = [some v0, some v1] := rfl
abbrev s_Model_told : Stmt := inClass (top 37) 22
theorem sc_Model_told : FnScope ["self"] ["self"] (defScope s_Model_told) := ⟨rfl, rfl, rfl, by decide +kernel, rfl, by decide +kernel, by decide +kernel⟩
theorem st_Model_told (v0 : V) : L2.start ["self"] [v0] = [some v0] := rfl
abbrev s_Model_copy : Stmt := inClass (top 37) 23
theorem sc_Model_copy : FnScope ["self"] ["self"] (defScope s_Model_copy) := ⟨rfl, rfl, rfl, by decide +kernel, rfl, by decide +kernel, by decide +kernel⟩
theorem st_Model_copy (v0 : V) : L2.start ["self"] [v0] = [some v0] := rfl
abbrev s_law_draw : Stmt := top 39
theorem sc_law_draw : FnScope ["_law_tape_here", "_law_many", "_law_cells", "_law_k", "_law_cell", "_law_digit"] ["_law_tape_here", "_law_many"] (defScope s_law_draw) := ⟨rfl, rfl, rfl, by decide +kernel, rfl, by decide +kernel, by decide +kernel⟩
theorem st_law_draw (v0 v1 : V) : L2.start ["_law_tape_here", "_law_many", "_law_cells", "_law_k", "_law_cell", "_law_digit"] [v0, v1] = [some v0, some v1, none, none, none, none] := rfl
abbrev s_law_tape : Stmt := top 40
theorem sc_law_tape : FnScope ["_law_script"] ["_law_script"] (defScope s_law_tape) := ⟨rfl, rfl, rfl, by decide +kernel, rfl, by decide +kernel, by decide +kernel⟩
theorem st_law_tape (v0 : V) : L2.start ["_law_script"] [v0] = [some v0] := rfl
abbrev s_law_terms : Stmt := top 41
theorem sc_law_terms : FnScope ["_law_tape_here", "_law_many", "_law_terms_here", "_law_v", "_law_c"] ["_law_tape_here", "_law_many"] (defScope s_law_terms) := ⟨rfl, rfl, rfl, by decide +kernel, rfl, by decide +kernel, by decide +kernel⟩
theorem st_law_terms (v0 v1 : V) : L2.start ["_law_tape_here", "_law_many", "_law_terms_here", "_law_v", "_law_c"] [v0, v1] = [some v0, some v1, none, none, none] := rfl
abbrev s_law_literal : Stmt := top 42
theorem sc_law_literal : FnScope ["_law_tape_here", "_law_many", "_law_relation"] ["_law_tape_here", "_law_many"] (defScope s_law_literal) := ⟨rfl, rfl, rfl, by decide +kernel, rfl, by decide +kernel, by decide +kernel⟩
theorem st_law_literal (v0 v1 : V) : L2.start ["_law_tape_here", "_law_many", "_law_relation"] [v0, v1] = [some v0, some v1, none] := rfl
abbrev s_law_some : Stmt := top 43
theorem sc_law_some : FnScope ["_law_tape_here", "_law_many", "_law_least", "_law_rest", "_law_found", "_law_k"] ["_law_tape_here", "_law_many", "_law_least"] (defScope s_law_some) := ⟨rfl, rfl, rfl, by decide +kernel, rfl, by decide +kernel, by decide +kernel⟩
theorem st_law_some (v0 v1 v2 : V) : L2.start ["_law_tape_here", "_law_many", "_law_least", "_law_rest", "_law_found", "_law_k"] [v0, v1, v2] = [some v0, some v1, some v2, none, none, none] := rfl
abbrev s_law_body : Stmt := top 44
theorem sc_law_body : FnScope ["_law_tape_here", "_law_many", "_law_kind", "_law_relation", "_law_literals", "_law_k", "_law_literal_here", "_law_numbers", "_law_rows", "_law_entries", "_law_v"] ["_law_tape_here", "_law_many"] (defScope s_law_body) := ⟨rfl, rfl, rfl, by decide +kernel, rfl, by decide +kernel, by decide +kernel⟩
theorem st_law_body (v0 v1 : V) : L2.start ["_law_tape_here", "_law_many", "_law_kind", "_law_relation", "_law_literals", "_law_k", "_law_literal_here", "_law_numbers", "_law_rows", "_law_entries", "_law_v"] [v0, v1] = [some v0, some v1, none, none, none, none, none, none, none, none, none] := rfl
abbrev s_law_world : Stmt := top 45
theorem sc_law_world : FnScope ["_law_tape_here", "_law_most", "_law_width", "_law_bodies", "_law_unknowns", "_law_v", "_law_low", "_law_many", "_law_found", "_law_goal", "_law_k"] ["_law_tape_here", "_law_most", "_law_width", "_law_bodies"] (defScope s_law_world) := ⟨rfl, rfl, rfl, by decide +kernel, rfl, by decide +kernel, by decide +kernel⟩
theorem st_law_world (v0 v1 v2 v3 : V) : L2.start ["_law_tape_here", "_law_most", "_law_width", "_law_bodies", "_law_unknowns", "_law_v", "_law_low", "_law_many", "_law_found", "_law_goal", "_law_k"] [v0, v1, v2, v3] = [some v0, some v1, some v2, some v3, none, none, none, none, none, none, none] := rfl
abbrev s_law_model : Stmt := top 46
theorem sc_law_model : FnScope ["_law_world_here", "_law_model_here", "_law_label", "_law_body_here"] ["_law_world_here"] (defScope s_law_model) := ⟨rfl, rfl, rfl, by decide +kernel, rfl, by decide +kernel, by decide +kernel⟩
theorem st_law_model (v0 : V) : L2.start ["_law_world_here", "_law_model_here", "_law_label", "_law_body_here"] [v0] = [some v0, none, none, none] := rfl
abbrev s_law_rel : Stmt := top 47
theorem sc_law_rel : FnScope ["_law_relation", "_law_left", "_law_right_here"] ["_law_relation", "_law_left", "_law_right_here"] (defScope s_law_rel) := ⟨rfl, rfl, rfl, by decide +kernel, rfl, by decide +kernel, by decide +kernel⟩
theorem st_law_rel (v0 v1 v2 : V) : L2.start ["_law_relation", "_law_left", "_law_right_here"] [v0, v1, v2] = [some v0, some v1, some v2] := rfl
abbrev s_law_sum : Stmt := top 48
theorem sc_law_sum : FnScope ["_law_terms_here", "_law_point_here", "_law_total", "_law_v", "_law_c"] ["_law_terms_here", "_law_point_here"] (defScope s_law_sum) := ⟨rfl, rfl, rfl, by decide +kernel, rfl, by decide +kernel, by decide +kernel⟩
theorem st_law_sum (v0 v1 : V) : L2.start ["_law_terms_here", "_law_point_here", "_law_total", "_law_v", "_law_c"] [v0, v1] = [some v0, some v1, none, none, none] := rfl
abbrev s_law_lit : Stmt := top 49
theorem sc_law_lit : FnScope ["_law_literal_here", "_law_point_here"] ["_law_literal_here", "_law_point_here"] (defScope s_law_lit) := ⟨rfl, rfl, rfl, by decide +kernel, rfl, by decide +kernel, by decide +kernel⟩
theorem st_law_lit (v0 v1 : V) : L2.start ["_law_literal_here", "_law_point_here"] [v0, v1] = [some v0, some v1] := rfl
abbrev s_law_holds : Stmt := top 50
theorem sc_law_holds : FnScope ["_law_body_here", "_law_point_here", "_law_seen", "_law_v", "_law_at", "_law_literal_here"] ["_law_body_here", "_law_point_here"] (defScope s_law_holds) := ⟨rfl, rfl, rfl, by decide +kernel, rfl, by decide +kernel, by decide +kernel⟩
theorem st_law_holds (v0 v1 : V) : L2.start ["_law_body_here", "_law_point_here", "_law_seen", "_law_v", "_law_at", "_law_literal_here"] [v0, v1] = [some v0, some v1, none, none, none, none] := rfl
abbrev s_law_point : Stmt := top 51
theorem sc_law_point : FnScope ["_law_tape_here", "_law_unknowns", "_law_name", "_law_low", "_law_high"] ["_law_tape_here", "_law_unknowns"] (defScope s_law_point) := ⟨rfl, rfl, rfl, by decide +kernel, rfl, by decide +kernel, by decide +kernel⟩
theorem st_law_point (v0 v1 : V) : L2.start ["_law_tape_here", "_law_unknowns", "_law_name", "_law_low", "_law_high"] [v0, v1] = [some v0, some v1, none, none, none] := rfl
abbrev s_law_solution : Stmt := top 52
theorem sc_law_solution : FnScope ["_law_world_here", "_law_point_here", "_law_k", "_law_label", "_law_body_here"] ["_law_world_here", "_law_point_here"] (defScope s_law_solution) := ⟨rfl, rfl, rfl, by decide +kernel, rfl, by decide +kernel, by decide +kernel⟩
theorem st_law_solution (v0 v1 : V) : L2.start ["_law_world_here", "_law_point_here", "_law_k", "_law_label", "_law_body_here"] [v0, v1] = [some v0, some v1, none, none, none] := rfl
abbrev s_law_refused : Stmt := top 53
theorem sc_law_refused : FnScope ["_law_extra", "_law_model_here", "_law_count"] ["_law_extra"] (defScope s_law_refused) := ⟨rfl, rfl, rfl, by decide +kernel, rfl, by decide +kernel, by decide +kernel⟩
theorem st_law_refused (v0 : V) : L2.start ["_law_extra", "_law_model_here", "_law_count"] [v0] = [some v0, none, none] := rfl
abbrev s_law_right : Stmt := top 54
theorem sc_law_right : FnScope ["_law_tape_here", "_law_model_here", "_law_world_here", "_law_best", "_law_k", "_law_point_here", "_law_worth", "_law_ahead"] ["_law_tape_here", "_law_model_here", "_law_world_here"] (defScope s_law_right) := ⟨rfl, rfl, rfl, by decide +kernel, rfl, by decide +kernel, by decide +kernel⟩
theorem st_law_right (v0 v1 v2 : V) : L2.start ["_law_tape_here", "_law_model_here", "_law_world_here", "_law_best", "_law_k", "_law_point_here", "_law_worth", "_law_ahead"] [v0, v1, v2] = [some v0, some v1, some v2, none, none, none, none, none] := rfl
abbrev s_law : Stmt := top 55
theorem sc_law : FnScope ["_law_script", "_law_tape_here", "_law_world_here", "_law_model_here", "_law_at"] ["_law_script"] (defScope s_law) := ⟨rfl, rfl, rfl, by decide +kernel, rfl, by decide +kernel, by decide +kernel⟩
theorem st_law (v0 : V) : L2.start ["_law_script", "_law_tape_here", "_law_world_here", "_law_model_here", "_law_at"] [v0] = [some v0, none, none, none, none] := rfl
/-! ### the head by one kernel run: the top's facts are looked at, nothing is written out -/
section
variable {K : PySem.W.Frag}
def fOfG (x : String) : List He.Fa := [.glo (Str.ofString x), .keep (Str.ofString x)]
theorem meth3 {x m : Str} (c : (He.Fa.meth x m).ok K = true) : PySem.W.findIn K (.ref (He.ga K x)) m = some (some (.ref (He.ma K (He.ga K x) m))) ∧ PySem.W.isFn K (.ref (He.ma K (He.ga K x) m)) = true ∧ PySem.W.keepIn K (.ref (He.ma K (He.ga K x) m)) = true := by
  obtain ⟨c1, c⟩ := He.ba c
  obtain ⟨c2, c3⟩ := He.ba c
  exact ⟨He.eqO_ok c1, c2, c3⟩
def tupX (K : PySem.W.Frag) (a : Addr) (vs : List V) : Bool := match K.lookup a with
  | some ⟨.type c, _, .seq its _, _⟩ => decide (c = "tuple") && (decide (its.size ≤ sizeLine) && He.relAll vs its.toList)
  | _ => false
theorem tupX_ok {a : Addr} {vs : List V} (h : tupX K a vs = true) : ∃ (o : Obj) (its : Array Value) (n : Nat), K.lookup a = some o ∧ o.cls = .type "tuple" ∧ o.data = .seq its n ∧ its.size ≤ sizeLine ∧ Vals vs its.toList := by
  unfold tupX at h
  cases q : K.lookup a with
  | none => rw [q] at h; cases h
  | some o =>
    obtain ⟨oc, od, dt, osl⟩ := o
    rw [q] at h
    cases oc with
    | type c =>
      cases dt with
      | seq its n =>
        obtain ⟨h1, h2⟩ := He.ba (show (decide (c = "tuple") && (decide (its.size ≤ sizeLine) && He.relAll vs its.toList)) = true from h)
        obtain ⟨h3, h4⟩ := He.ba h2
        exact ⟨_, its, n, rfl, congrArg Value.type (of_decide_eq_true h1), rfl, of_decide_eq_true h3, He.relAll_ok h4⟩
      | _ => cases h
    | _ => cases dt <;> cases h
def conX (K : PySem.W.Frag) (x : Str) (v : V) : Bool := match PySem.W.nsIn K mainGlobals x with
  | some (some u) => He.relB v u
  | _ => false
def conU (K : PySem.W.Frag) (x : Str) : Value := match PySem.W.nsIn K mainGlobals x with
  | some (some u) => u
  | _ => .none
theorem conX_ok {x : Str} {v : V} (h : conX K x v = true) : PySem.W.nsIn K mainGlobals x = some (some (conU K x)) ∧ RelV v (conU K x) := by
  unfold conX at h
  unfold conU
  cases q : PySem.W.nsIn K mainGlobals x with
  | none => rw [q] at h; cases h
  | some o =>
    rw [q] at h
    cases o with
    | none => cases h
    | some u => exact ⟨rfl, He.relB_ok h⟩
end
def obsA (as : List Addr) (fa : List He.Fa) (fn : List He.FnD) (ex : PySem.W.Frag → Bool) (g : Addr → Option Obj) : He.Al × Bool := (He.obsE fa fn (He.frG g as), ex (He.frG g as))
def hookA (as : List Addr) (fa : List He.Fa) (fn : List He.FnD) (ex : PySem.W.Frag → Bool) : PySem.W.Hook where
  α := He.Al × Bool
  obs := fun s => obsA as fa fn ex s.heap.get?
  val := fun _ => (He.valE fn, true)
  says := fun _ h => ∃ K : PySem.W.Frag, K.In h ∧ He.SaysE fa fn K ∧ ex K = true
  of := fun _ _ e => ⟨_, He.frG_in, congrArg (fun z : He.Al × Bool => z.1) e, congrArg (fun z : He.Al × Bool => z.2) e⟩
  keeps := fun _ _ _ ⟨K, hK, c⟩ k => ⟨K, PySem.W.Frag.In.keeps hK k, c⟩
theorem obsA_eq {as : List Addr} {fa : List He.Fa} {fn : List He.FnD} {ex : PySem.W.Frag → Bool} (s : PySem.W.SharedT) : obsA as fa fn ex (HandSHeadRun.getT s) = (hookA as fa fn ex).obs s.abs := by
  have e : HandSHeadRun.getT s = s.abs.heap.get? := funext (HandSHeadRun.getT_eq s)
  rw [e]
  rfl

def asL_0 : List Addr := [3, 2, 30, 43, 62, 81, 93, 374, 31, 44, 63, 82, 94, 375, 20, 21, 32, 59, 60, 78, 79, 102, 103, 107, 108, 114, 115, 121, 122, 128, 129, 135, 136, 142, 143, 147, 148, 154, 155, 161, 162, 168, 169, 173, 174, 178, 179, 183, 184, 188, 189, 193, 194, 200, 201, 214, 215, 221, 222, 228, 229, 235, 236, 242, 243, 249, 250, 256, 257, 263, 264, 270, 271, 277, 278, 284, 285, 291, 292, 298, 299, 305, 306, 312, 313, 317, 318, 322, 323, 329, 330, 336, 337, 343, 344, 350, 351, 357, 358, 364]
def asL_1 : List Addr := [365, 371, 372, 376, 377, 385, 386, 392, 393, 399, 400, 406, 407, 413, 414, 418, 419, 423, 424, 430, 431, 437, 438, 444, 445, 451, 452, 456, 457, 461, 462, 468, 469, 475, 476, 482, 483, 489, 490]
def asL : List Addr := asL_0 ++ (asL_1)
def faL_0 : List He.Fa := [.glo "Model", .cls "Model", .noat "Model" "_names", .noat "Model" "_lows", .noat "Model" "_highs", .noat "Model" "_bodies", .noat "Model" "_goal", .glo "next_point", .keep "next_point", .glo "solutions", .keep "solutions", .glo "best_plain", .keep "best_plain", .glo "relation_holds", .keep "relation_holds", .glo "literal_holds", .keep "literal_holds", .glo "terms_sum", .keep "terms_sum", .glo "is_label", .keep "is_label", .glo "body_holds", .keep "body_holds", .glo "terms_fit", .keep "terms_fit", .glo "literal_fits", .keep "literal_fits", .glo "linear_fits", .keep "linear_fits", .glo "distinct_fit"]
def faL_1 : List He.Fa := [.keep "distinct_fit", .glo "entries_fit", .keep "entries_fit", .glo "any_fits", .keep "any_fits", .glo "table_fits", .keep "table_fits", .glo "body_fits", .keep "body_fits", .glo "bounds_fit", .keep "bounds_fit", .meth "Model" "__init__", .meth "Model" "_need", .meth "Model" "many", .meth "Model" "low", .meth "Model" "high", .meth "Model" "put", .meth "Model" "withdraw", .meth "Model" "aim", .meth "Model" "inside", .meth "Model" "broken", .meth "Model" "is_solution", .meth "Model" "worth", .meth "Model" "is_better", .glo "_law_draw", .keep "_law_draw", .glo "_law_tape", .keep "_law_tape", .glo "_law_terms", .keep "_law_terms"]
def faL_2 : List He.Fa := [.glo "_law_literal", .keep "_law_literal", .glo "_law_some", .keep "_law_some", .glo "_law_body", .keep "_law_body", .glo "_law_world", .keep "_law_world", .glo "_law_model", .keep "_law_model", .glo "_law_rel", .keep "_law_rel", .glo "_law_sum", .keep "_law_sum", .glo "_law_lit", .keep "_law_lit", .glo "_law_holds", .keep "_law_holds", .glo "_law_point", .keep "_law_point", .glo "_law_solution", .keep "_law_solution", .glo "_law_refused", .keep "_law_refused", .glo "_law_right", .keep "_law_right", .glo "law", .keep "law", .exc "TooLarge", .glo "TooLarge"]
def faL_3 : List He.Fa := [.exm "TooLarge" "TooLarge" true, .free "len", .free "int", .free "list", .free "tuple", .free "range", .free "all", .free "any", .free "isinstance", .free "bool", .free "abs", .free "set", .free "str"]
def faL : List He.Fa := faL_0 ++ (faL_1 ++ (faL_2 ++ (faL_3)))
def fnL_0 : List He.FnD := [⟨("next_point", none), "next_point", "next_point", defArgs s_next_point, defBody s_next_point, defScope s_next_point⟩, ⟨("solutions", none), "solutions", "solutions", defArgs s_solutions, defBody s_solutions, defScope s_solutions⟩, ⟨("best_plain", none), "best_plain", "best_plain", defArgs s_best_plain, defBody s_best_plain, defScope s_best_plain⟩, ⟨("relation_holds", none), "relation_holds", "relation_holds", defArgs s_relation_holds, defBody s_relation_holds, defScope s_relation_holds⟩, ⟨("literal_holds", none), "literal_holds", "literal_holds", defArgs s_literal_holds, defBody s_literal_holds, defScope s_literal_holds⟩, ⟨("terms_sum", none), "terms_sum", "terms_sum", defArgs s_terms_sum, defBody s_terms_sum, defScope s_terms_sum⟩, ⟨("is_label", none), "is_label", "is_label", defArgs s_is_label, defBody s_is_label, defScope s_is_label⟩, ⟨("body_holds", none), "body_holds", "body_holds", defArgs s_body_holds, defBody s_body_holds, defScope s_body_holds⟩, ⟨("terms_fit", none), "terms_fit", "terms_fit", defArgs s_terms_fit, defBody s_terms_fit, defScope s_terms_fit⟩, ⟨("literal_fits", none), "literal_fits", "literal_fits", defArgs s_literal_fits, defBody s_literal_fits, defScope s_literal_fits⟩, ⟨("linear_fits", none), "linear_fits", "linear_fits", defArgs s_linear_fits, defBody s_linear_fits, defScope s_linear_fits⟩, ⟨("distinct_fit", none), "distinct_fit", "distinct_fit", defArgs s_distinct_fit, defBody s_distinct_fit, defScope s_distinct_fit⟩, ⟨("entries_fit", none), "entries_fit", "entries_fit", defArgs s_entries_fit, defBody s_entries_fit, defScope s_entries_fit⟩, ⟨("any_fits", none), "any_fits", "any_fits", defArgs s_any_fits, defBody s_any_fits, defScope s_any_fits⟩, ⟨("table_fits", none), "table_fits", "table_fits", defArgs s_table_fits, defBody s_table_fits, defScope s_table_fits⟩, ⟨("body_fits", none), "body_fits", "body_fits", defArgs s_body_fits, defBody s_body_fits, defScope s_body_fits⟩, ⟨("bounds_fit", none), "bounds_fit", "bounds_fit", defArgs s_bounds_fit, defBody s_bounds_fit, defScope s_bounds_fit⟩, ⟨("Model", some "__init__"), "__init__", "Model.__init__", defArgs s_Model___init__, defBody s_Model___init__, defScope s_Model___init__⟩, ⟨("Model", some "_need"), "_need", "Model._need", defArgs s_Model__need, defBody s_Model__need, defScope s_Model__need⟩, ⟨("Model", some "many"), "many", "Model.many", defArgs s_Model_many, defBody s_Model_many, defScope s_Model_many⟩]
def fnL_1 : List He.FnD := [⟨("Model", some "low"), "low", "Model.low", defArgs s_Model_low, defBody s_Model_low, defScope s_Model_low⟩, ⟨("Model", some "high"), "high", "Model.high", defArgs s_Model_high, defBody s_Model_high, defScope s_Model_high⟩, ⟨("Model", some "put"), "put", "Model.put", defArgs s_Model_put, defBody s_Model_put, defScope s_Model_put⟩, ⟨("Model", some "withdraw"), "withdraw", "Model.withdraw", defArgs s_Model_withdraw, defBody s_Model_withdraw, defScope s_Model_withdraw⟩, ⟨("Model", some "aim"), "aim", "Model.aim", defArgs s_Model_aim, defBody s_Model_aim, defScope s_Model_aim⟩, ⟨("Model", some "inside"), "inside", "Model.inside", defArgs s_Model_inside, defBody s_Model_inside, defScope s_Model_inside⟩, ⟨("Model", some "broken"), "broken", "Model.broken", defArgs s_Model_broken, defBody s_Model_broken, defScope s_Model_broken⟩, ⟨("Model", some "is_solution"), "is_solution", "Model.is_solution", defArgs s_Model_is_solution, defBody s_Model_is_solution, defScope s_Model_is_solution⟩, ⟨("Model", some "worth"), "worth", "Model.worth", defArgs s_Model_worth, defBody s_Model_worth, defScope s_Model_worth⟩, ⟨("Model", some "is_better"), "is_better", "Model.is_better", defArgs s_Model_is_better, defBody s_Model_is_better, defScope s_Model_is_better⟩, ⟨("_law_draw", none), "_law_draw", "_law_draw", defArgs s_law_draw, defBody s_law_draw, defScope s_law_draw⟩, ⟨("_law_tape", none), "_law_tape", "_law_tape", defArgs s_law_tape, defBody s_law_tape, defScope s_law_tape⟩, ⟨("_law_terms", none), "_law_terms", "_law_terms", defArgs s_law_terms, defBody s_law_terms, defScope s_law_terms⟩, ⟨("_law_literal", none), "_law_literal", "_law_literal", defArgs s_law_literal, defBody s_law_literal, defScope s_law_literal⟩, ⟨("_law_some", none), "_law_some", "_law_some", defArgs s_law_some, defBody s_law_some, defScope s_law_some⟩, ⟨("_law_body", none), "_law_body", "_law_body", defArgs s_law_body, defBody s_law_body, defScope s_law_body⟩, ⟨("_law_world", none), "_law_world", "_law_world", defArgs s_law_world, defBody s_law_world, defScope s_law_world⟩, ⟨("_law_model", none), "_law_model", "_law_model", defArgs s_law_model, defBody s_law_model, defScope s_law_model⟩, ⟨("_law_rel", none), "_law_rel", "_law_rel", defArgs s_law_rel, defBody s_law_rel, defScope s_law_rel⟩, ⟨("_law_sum", none), "_law_sum", "_law_sum", defArgs s_law_sum, defBody s_law_sum, defScope s_law_sum⟩]
def fnL_2 : List He.FnD := [⟨("_law_lit", none), "_law_lit", "_law_lit", defArgs s_law_lit, defBody s_law_lit, defScope s_law_lit⟩, ⟨("_law_holds", none), "_law_holds", "_law_holds", defArgs s_law_holds, defBody s_law_holds, defScope s_law_holds⟩, ⟨("_law_point", none), "_law_point", "_law_point", defArgs s_law_point, defBody s_law_point, defScope s_law_point⟩, ⟨("_law_solution", none), "_law_solution", "_law_solution", defArgs s_law_solution, defBody s_law_solution, defScope s_law_solution⟩, ⟨("_law_refused", none), "_law_refused", "_law_refused", defArgs s_law_refused, defBody s_law_refused, defScope s_law_refused⟩, ⟨("_law_right", none), "_law_right", "_law_right", defArgs s_law_right, defBody s_law_right, defScope s_law_right⟩, ⟨("law", none), "law", "law", defArgs s_law, defBody s_law, defScope s_law⟩]
def fnL : List He.FnD := fnL_0 ++ (fnL_1 ++ (fnL_2))
def exL (K : PySem.W.Frag) : Bool := ([PySem.W.makesIn K (He.ga K "Model"), PySem.W.keepIn K (.ref (He.ga K "Model")), conX K "COEFFICIENT_MOST" (.int 1000000), conX K "SUM_MOST" (.int 1000000000), conX K "ENTRY_MOST" (.int 1000), conX K "LETTERS" (.str (Str.ofString "abcdefghijklmnopqrstuvwxyz")), conX K "DIGITS" (.str (Str.ofString "0123456789")), conX K "UNKNOWNS_MOST" (.int 60), conX K "CONSTRAINTS_MOST" (.int 200), conX K "BOUND_MOST" (.int 1000), conX K "POINTS_MOST" (.int 20000)] : List Bool).all id
abbrev hk : PySem.W.Hook := hookA asL faL fnL exL
def ob (s : PySem.W.SharedT) : He.Al × Bool := obsA asL faL fnL exL (HandSHeadRun.getT s)
def looseS_0 : List String := ["_wall", "GroundError", "BadModel", "Taken", "NoSuch", "TooLarge", "POINTS_MOST", "next_point", "solutions", "best_plain", "relation_holds", "literal_holds", "terms_sum", "COEFFICIENT_MOST", "SUM_MOST", "ENTRY_MOST", "LETTERS", "DIGITS", "is_label", "body_holds", "terms_fit", "literal_fits", "linear_fits", "distinct_fit", "entries_fit", "any_fits", "table_fits", "body_fits", "UNKNOWNS_MOST", "CONSTRAINTS_MOST", "BOUND_MOST", "bounds_fit", "Model", "_law_draw", "_law_tape", "_law_terms", "_law_literal", "_law_some", "_law_body", "_law_world"]
def looseS_1 : List String := ["_law_model", "_law_rel", "_law_sum", "_law_lit", "_law_holds", "_law_point", "_law_solution", "_law_refused", "_law_right"]
def looseS : List String := looseS_0 ++ (looseS_1)
def looseL : List Str := looseS.map Str.ofString
abbrev rowR : PySem.W.OpenRow := PySem.W.OpenLaw.row PySem.Challenge.rw_commonground_k12_best_by_looking
theorem run (w : World) : HandSHeadRun.RunEq rowR (PySem.W.view rowR.prog [55]) hk ob 3300 looseL w := by
  intro os
  kernel_rfl
end CG

/-! ### ground: calls by a bundle, frames, step rules -/
namespace CG
open PySem L2

structure Is (P : Program) (w : World) (K : PySem.W.Frag) (mg : Str → Option Value) (base : Heap) (CX : CXT) (k : Nat) (x : Str) (ps : List Str) (sp : Sp) : Prop where
  ex : ∃ (f : Addr) (fd : FuncData), FnOk P w K mg base CX k f fd ps sp ∧ mg x = some (.ref f) ∧ PySem.W.keepIn K (.ref f) = true ∧ Binds K fd ps []

def tCl (sp : Sp) (E : XK) (t : TA) : TE := fun σ H Q => t σ H fun vs H1 => sp vs H1 Q E
section
variable {X : Cx} {CX : CXT} {k : Nat} {x : Str} {ps : List Str} {sp : Sp} {E : XK} {t : TA} {p pos : Pos} {e : Expr} {es : List Expr}
theorem pe_is (D : Is X.prog X.w X.K X.mg X.base CX k x ps sp) (hr : Room k X.A) (hg : Gl X x) (hx : Passes CX X E) (ha : PA X (e :: es) t) (hdb : (x == ("__debug__" : Str)) = false := by decide)
    (he : starEach (e :: es) X.env = (false, eval e X.env) :: starEach es X.env := by rfl) (hpl : (backTo pos (starEach es X.env)).any (·.1) = false := by rfl) : PE X (.Call (.Name x p) (e :: es) [] pos) (tCl sp E t) := by
  obtain ⟨f, fd, F, hm, hk, hb⟩ := D.ex
  have q := pe_call (p := p) F hr hg hm hk hb Paired.nil hx ha hdb he hpl
  have e1 : tCall sp [] E t = tCl sp E t := by
    funext σ H Q
    show (t σ H fun vs H1 => sp (vs ++ []) H1 Q E) = (t σ H fun vs H1 => sp vs H1 Q E)
    simp only [List.append_nil]
  rw [← e1]
  exact q
theorem pe_gc {v : V} {j : Pos} (hg : Gl X x) (hm : ∃ u, X.mg x = some u ∧ RelV v u) (hdb : (x == ("__debug__" : Str)) = false := by decide) (hnm : x ≠ "__name__" := by decide) : PE X (.Name x j) (tC v) := by
  obtain ⟨u, h1, h2⟩ := hm
  exact pe_glob hg h1 h2 hdb
end

/-- all that is tracked stands, but at S, where things are written -/
structure Kp (S : List Addr) (H H' : Hp) : Prop where
  k : ∀ b o, ¬ b ∈ S → H b = some o → H' b = some o
  mu : ∀ b, b ∈ S → Mut (H b)
/-- the same from the entry: what is new since is free -/
def Fm (S : List Addr) (H H' : Hp) : Prop := ∀ b o, ¬ b ∈ S → H b = some o → H' b = some o
section
variable {S S' : List Addr} {H H0 H1 H2 : Hp} {a p : Addr} {o o' : HO} {xs : List V} {K : PySem.W.Frag}
theorem Fm.start : Fm S H H := fun _ _ _ h => h
theorem Kp.refl : Kp [] H H := ⟨fun _ _ _ h => h, fun _ h => nomatch h⟩
theorem Kp.new (hp : H p = none) : Kp [] H (upd H p o) := ⟨fun b u _ h => by rw [upd_ne (ne_of_none h hp)]; exact h, fun _ h => nomatch h⟩
theorem Kp.put (hp : H p = some o) (hm : Mut (some o)) : Kp [p] H (upd H p o') := ⟨fun b u hb h => by rw [upd_ne (fun e => hb (by simp [e]))]; exact h, fun b hb => by
  rw [List.mem_singleton] at hb
  subst hb
  rw [hp]
  exact hm⟩
theorem Fm.go (f : Fm S H0 H) (k : Kp S' H H1) (h : ∀ a, a ∈ S' → a ∈ S ∨ H0 a = none) : Fm S H0 H1 := fun b o hb e => by
  refine k.k b o (fun hm => ?_) (f b o hb e)
  rcases h b hm with q | q
  · exact hb q
  · rw [q] at e
    cases e
theorem Fm.go0 (f : Fm S H0 H) (k : Kp [] H H1) : Fm S H0 H1 := f.go k fun _ h => nomatch h
theorem Fm.kp (f : Fm S H0 H) (mu : ∀ b, b ∈ S → Mut (H0 b)) : Kp S H0 H := ⟨f, mu⟩
theorem Fm.free (f : Fm S H0 H) (h : H p = none) (hs : ∀ b, b ∈ S → ∃ o, H b = some o) : H0 p = none := by
  cases q : H0 p with
  | none => rfl
  | some o =>
    by_cases hb : p ∈ S
    · obtain ⟨o, e⟩ := hs p hb
      rw [h] at e
      cases e
    · rw [f p o hb q] at h
      cases h
theorem Kp.free (f : Kp S H0 H) (h : H p = none) (hs : ∀ b, b ∈ S → ∃ o, H b = some o) : H0 p = none := Fm.free (S := S) f.k h hs
theorem Kp.free0 (f : Kp [] H0 H) (h : H p = none) : H0 p = none := f.free h fun _ hm => by cases hm
theorem Kp.get (k : Kp S H H1) (hn : ¬ a ∈ S) (h : H a = some o) : H1 a = some o := k.k _ _ hn h
theorem Kp.get0 (k : Kp [] H H1) (h : H a = some o) : H1 a = some o := k.k _ _ (fun h => nomatch h) h
theorem Kp.get1 (k : Kp [p] H H1) (hn : a ≠ p) (h : H a = some o) : H1 a = some o := k.k _ _ (fun h => hn (by simpa using h)) h
theorem Kp.tup (k : Kp S H H1) (h : SqT K H a xs) : SqT K H1 a xs := by
  rcases h with (h | ⟨u, h⟩) | h
  · exact .inl (.inl (k.k _ _ (fun hm => by have q := k.mu _ hm; rw [h] at q; exact q) h))
  · exact .inl (.inr ⟨u, k.k _ _ (fun hm => by have q := k.mu _ hm; rw [h] at q; exact q) h⟩)
  · exact .inr h
theorem Kp.trans (a : Kp [] H0 H1) (b : Kp [] H1 H2) : Kp [] H0 H2 := ⟨fun c o _ h => b.get0 (a.get0 h), fun _ h => nomatch h⟩
theorem Kp.tr (a : Kp S H0 H1) (b : Kp S' H1 H2) (h : ∀ x, x ∈ S' → x ∈ S ∨ H0 x = none) : Kp S H0 H2 := ⟨fun c o hc e => b.k c o (fun hm => by
  rcases h c hm with q | q
  · exact hc q
  · rw [q] at e
    cases e) (a.k c o hc e), a.mu⟩
theorem Kp.tr0 (b : Kp [] H1 H2) (a : Kp S H0 H1) : Kp S H0 H2 := a.tr b fun _ h => by cases h
theorem Kp.tr1 (b : Kp S H1 H2) (a : Kp S H0 H1) : Kp S H0 H2 := a.tr b fun _ h => .inl h
theorem Kp.trN (b : Kp [p] H1 H2) (a : Kp S H0 H1) (hp : H0 p = none) : Kp S H0 H2 := a.tr b fun x hx => by
  rw [List.mem_singleton] at hx
  subst hx
  exact .inr hp
theorem Kp.base (mu : ∀ b, b ∈ S → Mut (H b)) : Kp S H H := ⟨fun _ _ _ h => h, mu⟩
theorem Kp.fresh (k : Kp S H0 H1) (h : H1 p = none) (hs : ∀ b, b ∈ S → ∃ o, H1 b = some o) : ∀ x, x ∈ [p] → x ∈ S ∨ H0 x = none := fun x hx => by
  rw [List.mem_singleton] at hx
  subst hx
  exact .inr (k.free h hs)
theorem ne_newL (hp : H p = none) (h : H a = some o) : a ≠ p := ne_of_none h hp
theorem ne_newR (hp : H p = none) (h : H a = some o) : p ≠ a := (ne_of_none h hp).symm
theorem SqT.ty (h : SqT K H a xs) : TyX K H (.ref a) (.type "tuple") := by
  rcases h with (h | ⟨u, h⟩) | ⟨o, its, n, h1, h2, _⟩
  · exact .base (.tup h)
  · exact .fTuple h
  · exact .kTuple h1 h2
end

/-! ### step rules: from the head of a reading -/
/-- one step of a reading, many -/
class Stp (g : Prop) (n : outParam Prop) : Prop where
  imp : n → g
class Stps (g : Prop) (n : outParam Prop) : Prop where
  imp : n → g
instance (priority := low) stps_nil {g : Prop} : Stps g g := ⟨id⟩
instance stps_cons {g m n : Prop} [a : Stp g m] [b : Stps m n] : Stps g n := ⟨fun h => a.imp (b.imp h)⟩
/-- one step at least -/
theorem go1 {g m n : Prop} (a : Stp g m) (b : Stps m n) (h : n) : g := a.imp (b.imp h)
class Look (σ : St) (n : Nat) (v : outParam V) : Prop where
  e : σ[n]? = some (some v)
instance look0 {v : V} {σ : St} : Look (some v :: σ) 0 v := ⟨rfl⟩
instance lookS {v : V} {x : Option V} {σ : St} {n : Nat} [a : Look σ n v] : Look (x :: σ) (n + 1) v := ⟨by rw [List.getElem?_cons_succ]; exact a.e⟩
class SetS (σ : St) (n : Nat) (v : V) (σ' : outParam St) : Prop where
  e : σ.set n (some v) = σ'
instance set0 {v : V} {x : Option V} {σ : St} : SetS (x :: σ) 0 v (some v :: σ) := ⟨rfl⟩
instance setS {v : V} {x : Option V} {σ σ' : St} {n : Nat} [a : SetS σ n v σ'] : SetS (x :: σ) (n + 1) v (x :: σ') := ⟨by rw [List.set_cons_succ, a.e]⟩
def mkT (xs : List V) (H : Hp) (Q : VK) : Prop := xs.length ≤ sizeLine ∧ ∀ p, H p = none → Q (.ref p) (upd H p (.tup xs))
def mkL (xs : List V) (H : Hp) (Q : VK) : Prop := xs.length ≤ sizeLine ∧ ∀ p, H p = none → Q (.ref p) (upd H p (.lst xs))
def asB (x : V) (R : Bool → Prop) : Prop := ∃ k, x = .bl k ∧ R k
/-- two ways by a test -/
def iteP (b : Bool) (A B : Prop) : Prop := if b = true then A else B
theorem iteP_of {b : Bool} {A B : Prop} (h : iteP b A B) : if b = true then A else B := h
section
variable {σ σ' : St} {H : Hp} {Q : VK} {ta tb tc te : TE} {v : V} {i j : Int} {n : Nat} {K : PySem.W.Frag} {E : XK} {C : Int → Int → Prop} {gi : Int → Int → V} {nx bk ct : St → Hp → Prop} {rt : VK}
instance s_seq {t u : TS} : Stp (tSeq t u ⟨nx, rt, bk, ct⟩ σ H) (t ⟨u ⟨nx, rt, bk, ct⟩, rt, bk, ct⟩ σ H) := ⟨id⟩
instance s_next : Stp (tNext ⟨nx, rt, bk, ct⟩ σ H) (nx σ H) := ⟨id⟩
instance s_set : Stp (tAsg te (gName n) ⟨nx, rt, bk, ct⟩ σ H) (te σ H fun x H1 => gName n x σ H1 nx) := ⟨id⟩
instance s_asg {g : TG} : Stp (tAsg te g ⟨nx, rt, bk, ct⟩ σ H) (te σ H fun x H1 => g x σ H1 nx) := ⟨id⟩
instance s_gN {R : St → Hp → Prop} [a : SetS σ n v σ'] : Stp (gName n v σ H R) (R σ' H) := ⟨fun h => by show R (σ.set n (some v)) H; rw [a.e]; exact h⟩
instance s_drop : Stp (tDrop te ⟨nx, rt, bk, ct⟩ σ H) (te σ H fun _ H1 => nx σ H1) := ⟨id⟩
instance s_ret : Stp (tRet te ⟨nx, rt, bk, ct⟩ σ H) (te σ H rt) := ⟨id⟩
instance s_retN : Stp (tRetN ⟨nx, rt, bk, ct⟩ σ H) (rt .non H) := ⟨id⟩
instance s_break : Stp (tBreak ⟨nx, rt, bk, ct⟩ σ H) (bk σ H) := ⟨id⟩
instance s_cont : Stp (tCont ⟨nx, rt, bk, ct⟩ σ H) (ct σ H) := ⟨id⟩
instance s_ifS {c : TT} {t u : TS} {D : Ends} : Stp (tIfS c t u D σ H) (c σ H fun b H1 => iteP b (t D σ H1) (u D σ H1)) := ⟨id⟩
instance s_var [a : Look σ n v] : Stp (tVar n σ H Q) (Q v H) := ⟨fun h => ⟨v, a.e, h⟩⟩
instance s_c : Stp (tC v σ H Q) (Q v H) := ⟨id⟩
instance s_op {r : R2} : Stp (tOp r ta tb σ H Q) (ta σ H fun x H1 => tb σ H1 fun y H2 => r x y H2 Q) := ⟨id⟩
instance s_un {r : V → Hp → VK → Prop} : Stp (tUn r ta σ H Q) (ta σ H fun x H1 => r x H1 Q) := ⟨id⟩
instance s_rU {g : Int → V} : Stp (rU g (.int i) H Q) (Q (g i) H) := ⟨fun h => ⟨i, rfl, h⟩⟩
instance s_rI0 : Stp (rI0 gi (.int i) (.int j) H Q) (Q (gi i j) H) := ⟨fun h => ⟨i, j, rfl, rfl, h⟩⟩
theorem r_rI (hc : C i j) (h : Q (gi i j) H) : rI C gi (.int i) (.int j) H Q := ⟨i, j, rfl, rfl, hc, h⟩
instance s_pow6 : Stp (rI CPow (fun i j => V.int (i ^ j.toNat)) (.int 10) (.int 6) H Q) (Q (.int 1000000) H) := ⟨fun h => ⟨10, 6, rfl, rfl, ⟨by decide, by decide, by decide⟩, h⟩⟩
instance s_pow7 : Stp (rI CPow (fun i j => V.int (i ^ j.toNat)) (.int 10) (.int 7) H Q) (Q (.int 10000000) H) := ⟨fun h => ⟨10, 7, rfl, rfl, ⟨by decide, by decide, by decide⟩, h⟩⟩
instance s_pow8 : Stp (rI CPow (fun i j => V.int (i ^ j.toNat)) (.int 10) (.int 8) H Q) (Q (.int 100000000) H) := ⟨fun h => ⟨10, 8, rfl, rfl, ⟨by decide, by decide, by decide⟩, h⟩⟩
instance s_pow9 : Stp (rI CPow (fun i j => V.int (i ^ j.toNat)) (.int 10) (.int 9) H Q) (Q (.int 1000000000) H) := ⟨fun h => ⟨10, 9, rfl, rfl, ⟨by decide, by decide, by decide⟩, h⟩⟩
instance s_pow10 : Stp (rI CPow (fun i j => V.int (i ^ j.toNat)) (.int 10) (.int 10) H Q) (Q (.int 10000000000) H) := ⟨fun h => ⟨10, 10, rfl, rfl, ⟨by decide, by decide, by decide⟩, h⟩⟩
instance s_pow12 : Stp (rI CPow (fun i j => V.int (i ^ j.toNat)) (.int 10) (.int 12) H Q) (Q (.int 1000000000000) H) := ⟨fun h => ⟨10, 12, rfl, rfl, ⟨by decide, by decide, by decide⟩, h⟩⟩
instance s_pow21 : Stp (rI CPow (fun i j => V.int (i ^ j.toNat)) (.int 10) (.int 21) H Q) (Q (.int 1000000000000000000000) H) := ⟨fun h => ⟨10, 21, rfl, rfl, ⟨by decide, by decide, by decide⟩, h⟩⟩
instance s_pow30 : Stp (rI CPow (fun i j => V.int (i ^ j.toNat)) (.int 10) (.int 30) H Q) (Q (.int 1000000000000000000000000000000) H) := ⟨fun h => ⟨10, 30, rfl, rfl, ⟨by decide, by decide, by decide⟩, h⟩⟩
instance s_pow40 : Stp (rI CPow (fun i j => V.int (i ^ j.toNat)) (.int 10) (.int 40) H Q) (Q (.int 10000000000000000000000000000000000000000) H) := ⟨fun h => ⟨10, 40, rfl, rfl, ⟨by decide, by decide, by decide⟩, h⟩⟩
instance s_pow60 : Stp (rI CPow (fun i j => V.int (i ^ j.toNat)) (.int 10) (.int 60) H Q) (Q (.int 1000000000000000000000000000000000000000000000000000000000000) H) := ⟨fun h => ⟨10, 60, rfl, rfl, ⟨by decide, by decide, by decide⟩, h⟩⟩
instance s_eqI : Stp (rEq (.int i) (.int j) H Q) (Q (.bl (decide (i = j))) H) := ⟨fun h => ⟨rfl, by
  have e : decide (V.int i = V.int j) = decide (i = j) := by simp
  rw [e]
  exact h⟩⟩
instance s_neI : Stp (rNe (.int i) (.int j) H Q) (Q (.bl (decide (i ≠ j))) H) := ⟨fun h => ⟨rfl, by
  have e : (!decide (V.int i = V.int j)) = decide (i ≠ j) := by simp
  rw [e]
  exact h⟩⟩
instance s_eqS {a b : Str} : Stp (rEq (.str a) (.str b) H Q) (Q (.bl (decide (a = b))) H) := ⟨fun h => ⟨rfl, by
  have e : decide (V.str a = V.str b) = decide (a = b) := by simp
  rw [e]
  exact h⟩⟩
instance s_neS {a b : Str} : Stp (rNe (.str a) (.str b) H Q) (Q (.bl (decide (a ≠ b))) H) := ⟨fun h => ⟨rfl, by
  have e : (!decide (V.str a = V.str b)) = decide (a ≠ b) := by simp
  rw [e]
  exact h⟩⟩
instance s_eqB {a b : Bool} : Stp (rEq (.bl a) (.bl b) H Q) (Q (.bl (decide (a = b))) H) := ⟨fun h => ⟨rfl, by
  have e : decide (V.bl a = V.bl b) = decide (a = b) := by simp
  rw [e]
  exact h⟩⟩
instance s_neB {a b : Bool} : Stp (rNe (.bl a) (.bl b) H Q) (Q (.bl (decide (a ≠ b))) H) := ⟨fun h => ⟨rfl, by
  have e : (!decide (V.bl a = V.bl b)) = decide (a ≠ b) := by simp
  rw [e]
  exact h⟩⟩
instance s_test {R : Bool → Hp → Prop} : Stp (tTest te σ H R) (te σ H fun x H1 => asB x fun k => R k H1) := ⟨id⟩
instance s_B {R : Bool → Hp → Prop} : Stp (tB te σ H R) (te σ H fun x H1 => asB x fun k => R k H1) := ⟨id⟩
instance s_asB {b : Bool} {R : Bool → Prop} : Stp (asB (.bl b) R) (R b) := ⟨fun h => ⟨b, rfl, h⟩⟩
instance s_and {t u : TT} {R : Bool → Hp → Prop} : Stp (tAnd t u σ H R) (t σ H fun c H1 => iteP c (u σ H1 R) (R false H1)) := ⟨id⟩
instance s_or {t u : TT} {R : Bool → Hp → Prop} : Stp (tOr t u σ H R) (t σ H fun c H1 => iteP c (R true H1) (u σ H1 R)) := ⟨id⟩
instance s_not {t : TT} {R : Bool → Hp → Prop} : Stp (tNot t σ H R) (t σ H fun c H1 => R (!c) H1) := ⟨id⟩
instance s_andV : Stp (tAndV ta tb σ H Q) (ta σ H fun x H1 => asB x fun c => iteP c (tb σ H1 Q) (Q (.bl false) H1)) := ⟨id⟩
instance s_orV : Stp (tOrV ta tb σ H Q) (ta σ H fun x H1 => asB x fun c => iteP c (Q (.bl true) H1) (tb σ H1 Q)) := ⟨id⟩
instance s_notV : Stp (tNotV ta σ H Q) (ta σ H fun x H1 => asB x fun c => Q (.bl (!c)) H1) := ⟨id⟩
instance s_if {t : TT} : Stp (tIf t ta tb σ H Q) (t σ H fun c H1 => iteP c (ta σ H1 Q) (tb σ H1 Q)) := ⟨id⟩
instance s_chain {r r' : R2} : Stp (tChain r r' ta tb tc σ H Q) (ta σ H fun x H1 => tb σ H1 fun y H2 => r x y H2 fun z H3 => asB z fun k => iteP k (tc σ H3 fun w' H4 => r' y w' H4 Q) (Q (.bl false) H3)) := ⟨id⟩
instance s_nil {R : List V → Hp → Prop} : Stp (tNil σ H R) (R [] H) := ⟨id⟩
instance s_cons {tr : TA} {R : List V → Hp → Prop} : Stp (tCons ta tr σ H R) (ta σ H fun x H1 => tr σ H1 fun xs H2 => R (x :: xs) H2) := ⟨id⟩
instance s_tTup {t : TA} : Stp (tTup t σ H Q) (t σ H fun xs H1 => mkT xs H1 Q) := ⟨id⟩
instance s_tLst {t : TA} : Stp (tLst t σ H Q) (t σ H fun xs H1 => mkL xs H1 Q) := ⟨id⟩
instance s_cB {t : TA} {r : List V → Hp → VK → Prop} : Stp (tCB r t σ H Q) (t σ H fun vs H1 => r vs H1 Q) := ⟨id⟩
instance s_cl {sp : Sp} {t : TA} : Stp (tCl sp E t σ H Q) (t σ H fun vs H1 => sp vs H1 Q E) := ⟨id⟩
instance s_aug {ti : TIp} [a : Look σ n v] : Stp (tAug n te ti ⟨nx, rt, bk, ct⟩ σ H) (te σ H fun y H1 => ti v y H1 fun z H2 => gName n z σ H2 nx) := ⟨fun h => ⟨v, a.e, h⟩⟩
instance s_ipI {f : Int → Int → Int} : Stp (ipI f (.int i) (.int j) H Q) (Q (.int (f i j)) H) := ⟨fun h => ⟨i, j, rfl, rfl, h⟩⟩
instance s_iteT {A B : Prop} : Stp (iteP true A B) A := ⟨fun h => iteT h⟩
instance s_iteF {A B : Prop} : Stp (iteP false A B) B := ⟨fun h => iteF h⟩
instance s_iteNT {A B : Prop} : Stp (iteP (!true) A B) B := ⟨fun h => iteF h⟩
instance s_iteNF {A B : Prop} : Stp (iteP (!false) A B) A := ⟨fun h => iteT h⟩
theorem r_mkT {xs : List V} (hl : xs.length ≤ sizeLine) (h : ∀ p H2, H p = none → SqT K H2 p xs → Kp [] H H2 → Q (.ref p) H2) : mkT xs H Q :=
  ⟨hl, fun p hp => h p _ hp (SqT.of upd_same) (Kp.new hp)⟩
theorem r_mkL {xs : List V} (hl : xs.length ≤ sizeLine) (h : ∀ p H2, H p = none → H2 p = some (.lst xs) → Kp [] H H2 → Q (.ref p) H2) : mkL xs H Q :=
  ⟨hl, fun p hp => h p _ hp upd_same (Kp.new hp)⟩
theorem r_ixT {p : Addr} {xs : List V} (h : SqT K H p xs) (e : atI xs i = some v) (q : Q v H) : rIxT K (.ref p) (.int i) H Q := ⟨p, xs, i, v, rfl, rfl, h, e, q⟩
theorem r_ixL {p : Addr} {xs : List V} (h : H p = some (.lst xs)) (e : atI xs i = some v) (q : Q v H) : rIxL K (.ref p) (.int i) H Q := ⟨p, xs, i, v, rfl, rfl, SqL.of h, e, q⟩
theorem r_gTup {t : TGs} {m : Nat} {p : Addr} {xs : List V} {R : St → Hp → Prop} (h : SqT K H p xs) (e : xs.length = m) (q : t xs σ H R) : gTup K m t (.ref p) σ H R := ⟨p, xs, rfl, h, e, q⟩
instance s_gCons {t : TG} {u : TGs} {r : List V} {R : St → Hp → Prop} : Stp (gCons t u (v :: r) σ H R) (t v σ H fun σ' H' => u r σ' H' R) := ⟨fun h => ⟨v, r, rfl, h⟩⟩
instance s_gNil {R : St → Hp → Prop} : Stp (gNil [] σ H R) (R σ H) := ⟨fun h => ⟨rfl, h⟩⟩
instance s_gSub {s : TSet} {R : St → Hp → Prop} : Stp (gSub ta tb s v σ H R) (ta σ H fun o H1 => tb σ H1 fun i H2 => s o i v H2 fun H3 => R σ H3) := ⟨id⟩
theorem r_setL {p : Addr} {xs : List V} {m : Nat} {R : Hp → Prop} (h : H p = some (.lst xs)) (e : ixN xs.length i = some m) (q : ∀ H2, H2 p = some (.lst (xs.set m v)) → Kp [p] H H2 → R H2) : rSetL (.ref p) (.int i) v H R :=
  ⟨p, xs, i, m, rfl, rfl, h, e, q _ upd_same (Kp.put h trivial)⟩
theorem if_T {A B : Prop} {c : Prop} [Decidable c] (hc : c) (h : A) : iteP (decide c) A B := by
  unfold iteP
  rw [if_pos (decide_eq_true hc)]
  exact h
theorem if_F {A B : Prop} {c : Prop} [Decidable c] (hc : ¬ c) (h : B) : iteP (decide c) A B := by
  unfold iteP
  rw [if_neg (by rw [decide_eq_false hc]; decide)]
  exact h
theorem if_S {A B : Prop} {c : Prop} [Decidable c] (h : c → A) (h' : ¬ c → B) : iteP (decide c) A B := by
  by_cases hc : c
  · exact if_T hc (h hc)
  · exact if_F hc (h' hc)
theorem if_NT {A B : Prop} {c : Prop} [Decidable c] (hc : ¬ c) (h : A) : iteP (!decide c) A B := by
  rw [decide_eq_false hc]
  exact iteT h
theorem if_NF {A B : Prop} {c : Prop} [Decidable c] (hc : c) (h : B) : iteP (!decide c) A B := by
  rw [decide_eq_true hc]
  exact iteF h
theorem if_NS {A B : Prop} {c : Prop} [Decidable c] (h : ¬ c → A) (h' : c → B) : iteP (!decide c) A B := by
  by_cases hc : c
  · exact if_NF hc (h' hc)
  · exact if_NT hc (h hc)
theorem if_B {A B : Prop} {b : Bool} (h : b = true → A) (h' : b = false → B) : iteP b A B := by
  cases b
  · exact iteF (h' rfl)
  · exact iteT (h rfl)
end

/-! ### built-in calls by named rules -/
section
variable {X : Cx} {f : Value} {r r' : List V → Hp → VK → Prop}
theorem callR_imp (h : CallR X f r) (i : ∀ xs H Q, r' xs H Q → r xs H Q) : CallR X f r' := fun pins s σ H xs us Q I rx q => h pins s σ H xs us Q I rx (i _ _ _ q)
def rInt : List V → Hp → VK → Prop := fun xs H Q => (∃ i, xs = [.int i] ∧ Q (.int i) H) ∨ ∃ k, xs = [.bl k] ∧ Q (.int (if k then 1 else 0)) H
theorem cg_int : CallR X (.type "int") rInt := call_int1
def rLen (K : PySem.W.Frag) : List V → Hp → VK → Prop := fun xs H Q => ∃ p ys, xs = [.ref p] ∧ (SqL K H p ys ∨ SqT K H p ys) ∧ Q (.int ys.length) H
theorem cg_len : CallR X (.builtin "len") (rLen X.K) := call_len_seq
def rListOf (K : PySem.W.Frag) : List V → Hp → VK → Prop := fun xs H Q => ∃ p ys, xs = [.ref p] ∧ (SqL K H p ys ∨ SqT K H p ys) ∧ ∀ l, H l = none → Q (.ref l) (upd H l (.lst ys))
theorem cg_list : CallR X (.type "list") (rListOf X.K) := call_list_of
def rTupOf (K : PySem.W.Frag) : List V → Hp → VK → Prop := fun xs H Q => ∃ p ys, xs = [.ref p] ∧ ((SqL K H p ys ∧ ∀ l, H l = none → Q (.ref l) (upd H l (.tup ys))) ∨ (SqT K H p ys ∧ Q (.ref p) H))
theorem cg_tuple : CallR X (.type "tuple") (rTupOf X.K) := call_tuple_of
def rAbs : List V → Hp → VK → Prop := fun xs H Q => ∃ i, xs = [.int i] ∧ Q (.int (if i < 0 then -i else i)) H
theorem cg_abs : CallR X (.builtin "abs") rAbs := call_abs
end
section
variable {H : Hp} {Q : VK} {K : PySem.W.Frag} {i : Int} {p : Addr} {xs : List V}
instance s_int : Stp (rInt [.int i] H Q) (Q (.int i) H) := ⟨fun q => .inl ⟨i, rfl, q⟩⟩
instance s_intB {b : Bool} : Stp (rInt [.bl b] H Q) (Q (.int (if b then 1 else 0)) H) := ⟨fun q => .inr ⟨b, rfl, q⟩⟩
theorem r_lenT (h : SqT K H p xs) (q : Q (.int xs.length) H) : rLen K [.ref p] H Q := ⟨p, xs, rfl, .inr h, q⟩
theorem r_lenL (h : H p = some (.lst xs)) (q : Q (.int xs.length) H) : rLen K [.ref p] H Q := ⟨p, xs, rfl, .inl (SqL.of h), q⟩
theorem r_listL (h : SqL K H p xs) (q : ∀ l H2, H l = none → H2 l = some (.lst xs) → Kp [] H H2 → Q (.ref l) H2) : rListOf K [.ref p] H Q := ⟨p, xs, rfl, .inl h, fun l hl => q l _ hl upd_same (Kp.new hl)⟩
theorem r_tupleL (h : H p = some (.lst xs)) (q : ∀ l H2, H l = none → SqT K H2 l xs → Kp [] H H2 → Q (.ref l) H2) : rTupOf K [.ref p] H Q := ⟨p, xs, rfl, .inl ⟨SqL.of h, fun l hl => q l _ hl (SqT.of upd_same) (Kp.new hl)⟩⟩
instance s_abs : Stp (rAbs [.int i] H Q) (Q (.int (if i < 0 then -i else i)) H) := ⟨fun q => ⟨i, rfl, q⟩⟩
theorem r_isi {v c : V} {t u : Value} {b : Bool} (hc : ClsV c u) (ht : TyX K H v t) (hk : PySem.W.kitOne K t u = some b) (q : Q (.bl b) H) : rIsi K [v, c] H Q := ⟨v, c, t, u, b, rfl, hc, ht, hk, q⟩
theorem r_inL {neg : Bool} {x : V} {b : Bool} (h : H p = some (.lst xs)) (fx : flatV x = true) (fs : xs.all flatV = true) (e : (if neg then !inV x xs else inV x xs) = b) (q : Q (.bl b) H) : rIn K neg x (.ref p) H Q := ⟨p, xs, rfl, .inl (SqL.of h), fx, fs, by rw [e]; exact q⟩
theorem r_inT {neg : Bool} {x : V} {b : Bool} (h : SqT K H p xs) (fx : flatV x = true) (fs : xs.all flatV = true) (e : (if neg then !inV x xs else inV x xs) = b) (q : Q (.bl b) H) : rIn K neg x (.ref p) H Q := ⟨p, xs, rfl, .inr h, fx, fs, by rw [e]; exact q⟩
end
/-! ### data that never changes -/
mutual
inductive Im (K : PySem.W.Frag) (H : Hp) : V → PyData → Prop
  | non : Im K H .non .none
  | bl (b : Bool) : Im K H (.bl b) (.bool b)
  | int (i : Int) : Im K H (.int i) (.int i)
  | str (x : Str) : Im K H (.str x) (.str x)
  | tup {a : Addr} {xs : List V} {ds : List PyData} : SqT K H a xs → ImAll K H xs ds → Im K H (.ref a) (.tuple ds)
inductive ImAll (K : PySem.W.Frag) (H : Hp) : List V → List PyData → Prop
  | nil : ImAll K H [] []
  | cons {v : V} {vs : List V} {d : PyData} {ds : List PyData} : Im K H v d → ImAll K H vs ds → ImAll K H (v :: vs) (d :: ds)
end
section
variable {K : PySem.W.Frag} {H H' : Hp} {S : List Addr} {p : Addr} {xs : List V} {ds : List PyData} {x : V} {d : PyData}
mutual
theorem Kp.im (k : Kp S H H') : ∀ {x : V} {d : PyData}, Im K H x d → Im K H' x d
  | _, _, .non => .non
  | _, _, .bl b => .bl b
  | _, _, .int i => .int i
  | _, _, .str z => .str z
  | _, _, .tup h a => .tup (k.tup h) (Kp.imAll k a)
theorem Kp.imAll (k : Kp S H H') : ∀ {xs : List V} {ds : List PyData}, ImAll K H xs ds → ImAll K H' xs ds
  | _, _, .nil => .nil
  | _, _, .cons h a => .cons (Kp.im k h) (Kp.imAll k a)
end
mutual
theorem Im.dp : ∀ {x : V} {d : PyData}, Im K H x d → Dp K H x d
  | _, _, .non => .non
  | _, _, .bl b => .bl b
  | _, _, .int i => .int i
  | _, _, .str z => .str z
  | _, _, .tup h a => .tup h (ImAll.dp a)
theorem ImAll.dp : ∀ {xs : List V} {ds : List PyData}, ImAll K H xs ds → DpAll K H xs ds
  | _, _, .nil => .nil
  | _, _, .cons h a => .cons h.dp (ImAll.dp a)
end
theorem ImAll.length : ∀ {xs : List V} {ds : List PyData}, ImAll K H xs ds → xs.length = ds.length
  | _, _, .nil => rfl
  | _, _, .cons _ a => by rw [List.length_cons, List.length_cons, ImAll.length a]
theorem ImAll.get : ∀ {xs : List V} {ds : List PyData} {i : Nat} {x : V}, ImAll K H xs ds → xs[i]? = some x → ∃ d, ds[i]? = some d ∧ Im K H x d
  | _, _, _, _, .nil, e => by simp at e
  | _, _, 0, _, .cons h _, e => by simp at e; subst e; exact ⟨_, rfl, h⟩
  | _, _, i + 1, _, .cons _ a, e => by
    obtain ⟨d, h1, h2⟩ := ImAll.get (i := i) a (by simpa using e)
    exact ⟨d, by simpa using h1, h2⟩
theorem ImAll.at : ∀ {xs : List V} {ds : List PyData} {i : Nat} {d : PyData}, ImAll K H xs ds → ds[i]? = some d → ∃ x, xs[i]? = some x ∧ Im K H x d
  | _, _, _, _, .nil, e => by simp at e
  | _, _, 0, _, .cons h _, e => by simp at e; subst e; exact ⟨_, rfl, h⟩
  | _, _, i + 1, _, .cons _ a, e => by
    obtain ⟨x, h1, h2⟩ := ImAll.at (i := i) a (by simpa using e)
    exact ⟨x, by simpa using h1, h2⟩
theorem ImAll.snoc : ∀ {xs : List V} {ds : List PyData} {x : V} {d : PyData}, ImAll K H xs ds → Im K H x d → ImAll K H (xs ++ [x]) (ds ++ [d])
  | _, _, _, _, .nil, h => .cons h .nil
  | _, _, _, _, .cons h a, h' => .cons h (ImAll.snoc a h')
/-- the data of a flat value, back -/
def flatD : PyData → Option V
  | .none => some .non
  | .bool b => some (.bl b)
  | .int i => some (.int i)
  | .str x => some (.str x)
  | _ => Option.none
def flatDs : List PyData → Option (List V)
  | [] => some []
  | d :: ds => match flatD d, flatDs ds with
    | some x, some xs => some (x :: xs)
    | _, _ => Option.none
theorem Im.flat (h : Im K H x d) {y : V} (e : flatD d = some y) : x = y := by
  cases h with
  | tup _ _ => cases e
  | _ => exact Option.some.inj e
theorem ImAll.flat : ∀ {xs : List V} {ds : List PyData} {ys : List V}, ImAll K H xs ds → flatDs ds = some ys → xs = ys
  | _, _, _, .nil, e => Option.some.inj e
  | _, d :: ds, ys, .cons (v := v) h a, e => by
    unfold flatDs at e
    split at e
    · rename_i y zs h1 h2
      rw [h.flat h1, ImAll.flat a h2]
      exact Option.some.inj e
    · cases e
theorem Im.open (h : Im K H (.ref p) (.tuple ds)) : ∃ xs, SqT K H p xs ∧ ImAll K H xs ds := by
  cases h with
  | tup h a => exact ⟨_, h, a⟩
theorem Im.sq (h : Im K H (.ref p) (.tuple ds)) {ys : List V} (e : flatDs ds = some ys) : SqT K H p ys := by
  obtain ⟨xs, h1, h2⟩ := h.open
  rw [← h2.flat e]
  exact h1
theorem Im.isRef (h : Im K H x (.tuple ds)) : ∃ p, x = .ref p := by
  cases h with
  | tup h a => exact ⟨_, rfl⟩
theorem flatDs_ints : ∀ ns : List Int, flatDs (ns.map PyData.int) = some (ns.map V.int)
  | [] => rfl
  | n :: ns => by
    show (match flatD (.int n), flatDs (ns.map PyData.int) with | some x, some xs => some (x :: xs) | _, _ => Option.none) = _
    rw [flatDs_ints ns]
    rfl
theorem Im.ints {ns : List Int} (h : SqT K H p (ns.map V.int)) : Im K H (.ref p) (.tuple (ns.map .int)) := by
  refine .tup h ?_
  clear h
  induction ns with
  | nil => exact .nil
  | cons n ns ih => exact .cons (.int n) ih
end
/-! ### loops -/
def forS (J : It) (g : TG) (tb : TS) (D : Ends) (σ : St) (H : Hp) : Prop := ∃ W : Nat → Nat → St → Hp → Prop, (∃ m, W 0 m σ H) ∧ ∀ i m σ H, W i m σ H →
  (J.stop i H ∧ D.nx σ H) ∨ (J.go i H ∧ ∃ N : St → Hp → Prop, (∀ σ' H', N σ' H' → ∃ m', m' < m ∧ W (i + 1) m' σ' H') ∧ ∀ x H', J.yld i H x H' → g x σ H' fun σ2 H2 => tb { D with nx := N, ct := N, bk := D.nx } σ2 H2)
def isL (K : PySem.W.Frag) (x : V) (H : Hp) (R : It → Hp → Prop) : Prop := ∃ a, x = .ref a ∧ (∃ xs, SqL K H a xs) ∧ R (Itl K a) H
def isT (K : PySem.W.Frag) (x : V) (H : Hp) (R : It → Hp → Prop) : Prop := ∃ a, x = .ref a ∧ (∃ xs, SqT K H a xs) ∧ R (Itt K a) H
def isR1 (vs : List V) (H : Hp) (R : It → Hp → Prop) : Prop := ∃ j : Int, vs = [.int j] ∧ -(2 ^ 62) ≤ j ∧ j < 2 ^ 62 ∧ R (Itr 0 j.toNat) H
section
variable {σ : St} {H : Hp} {K : PySem.W.Frag} {p : Addr} {xs : List V} {g : TG} {tb : TS} {nx bk ct : St → Hp → Prop} {rt : VK} {D : Ends} {wi : TI} {tl : TE} {ta : TA} {R : It → Hp → Prop} {lo : Int} {n : Nat}
instance s_for : Stp (tFor wi g tb D σ H) (wi σ H fun J H1 => forS J g tb D σ H1) := ⟨id⟩
instance s_iL : Stp (iList K tl σ H R) (tl σ H fun x H1 => isL K x H1 R) := ⟨id⟩
instance s_iT : Stp (iTup K tl σ H R) (tl σ H fun x H1 => isT K x H1 R) := ⟨id⟩
instance s_iR1 : Stp (iRng1 ta σ H R) (ta σ H fun vs H1 => isR1 vs H1 R) := ⟨id⟩
theorem r_isL (h : H p = some (.lst xs)) (q : R (Itl K p) H) : isL K (.ref p) H R := ⟨p, rfl, ⟨xs, SqL.of h⟩, q⟩
theorem r_isT (h : SqT K H p xs) (q : R (Itt K p) H) : isT K (.ref p) H R := ⟨p, rfl, ⟨xs, h⟩, q⟩
theorem r_isR1 {j : Int} (h : -1000000000 ≤ j ∧ j ≤ 1000000000) (q : R (Itr 0 j.toNat) H) : isR1 [.int j] H R := ⟨j, rfl, by omega, by omega, q⟩
/-- a for over a list that stands at p all along -/
theorem r_forL (xs : List V) (Pv : Nat → St → Hp → Prop) (h0 : Pv 0 σ H) (hG : ∀ i σ' H', Pv i σ' H' → H' p = some (.lst xs))
    (hs : ∀ i x σ' H', xs[i]? = some x → Pv i σ' H' → g x σ' H' fun σ2 H2 => tb ⟨Pv (i + 1), rt, nx, Pv (i + 1)⟩ σ2 H2) (hd : ∀ σ' H', Pv xs.length σ' H' → nx σ' H') : forS (Itl K p) g tb ⟨nx, rt, bk, ct⟩ σ H :=
  for_it (walk_list (K := K) (a := p) (xs := xs)) Pv h0 (fun i σ' H' _ h => SqL.of (hG i σ' H' h)) (fun i x σ' H1 H2 _ h y => by obtain ⟨rfl, y⟩ := y; exact hs i x σ' _ y h) hd
theorem r_forLI (ns : List Int) (Pv : Nat → St → Hp → Prop) (h0 : Pv 0 σ H) (hG : ∀ i σ' H', Pv i σ' H' → H' p = some (.lst (ns.map V.int)))
    (hs : ∀ i (y : Int) σ' H', ns[i]? = some y → Pv i σ' H' → g (.int y) σ' H' fun σ2 H2 => tb ⟨Pv (i + 1), rt, nx, Pv (i + 1)⟩ σ2 H2) (hd : ∀ σ' H', Pv ns.length σ' H' → nx σ' H') : forS (Itl K p) g tb ⟨nx, rt, bk, ct⟩ σ H := by
  refine r_forL (ns.map V.int) Pv h0 hG (fun i x σ' H' e h => ?_) (by rw [List.length_map]; exact hd)
  rw [List.getElem?_map] at e
  cases q : ns[i]? with
  | none =>
    rw [q] at e
    cases e
  | some y =>
    rw [q] at e
    cases e
    exact hs i y σ' H' q h
theorem r_forT (xs : List V) (Pv : Nat → St → Hp → Prop) (h0 : Pv 0 σ H) (hG : ∀ i σ' H', Pv i σ' H' → SqT K H' p xs)
    (hs : ∀ i x σ' H', xs[i]? = some x → Pv i σ' H' → g x σ' H' fun σ2 H2 => tb ⟨Pv (i + 1), rt, nx, Pv (i + 1)⟩ σ2 H2) (hd : ∀ σ' H', Pv xs.length σ' H' → nx σ' H') : forS (Itt K p) g tb ⟨nx, rt, bk, ct⟩ σ H :=
  for_it (walk_tup (K := K) (a := p) (xs := xs)) Pv h0 (fun i σ' H' _ h => hG i σ' H' h) (fun i x σ' H1 H2 _ h y => by obtain ⟨rfl, y⟩ := y; exact hs i x σ' _ y h) hd
theorem r_forR (Pv : Nat → St → Hp → Prop) (h0 : Pv 0 σ H)
    (hs : ∀ i σ' H', i < n → Pv i σ' H' → g (.int (lo + (i : Int))) σ' H' fun σ2 H2 => tb ⟨Pv (i + 1), rt, nx, Pv (i + 1)⟩ σ2 H2) (hd : ∀ σ' H', Pv n σ' H' → nx σ' H') : forS (Itr lo n) g tb ⟨nx, rt, bk, ct⟩ σ H :=
  for_it walk_range Pv h0 (fun _ _ _ _ _ => trivial) (fun i x σ' H1 H2 hi h y => by obtain ⟨rfl, rfl⟩ := y; exact hs i σ' _ hi h) hd
theorem any_take {α : Type} {l : List α} {f : α → Bool} {i : Nat} {x : α} (h : l[i]? = some x) : (l.take (i + 1)).any f = ((l.take i).any f || f x) := by
  rw [List.take_add_one, h, List.any_append]
  simp
end
/-! ### comprehensions -/
def apS (D : Addr) (y : V) (H : Hp) (R : Hp → Prop) : Prop := ∃ acc, H D = some (.lst acc) ∧ acc.length < sizeLine ∧ R (upd H D (.lst (acc ++ [y])))
def wpS (σ2 σ : St) (vs : List Nat) (R : Prop) : Prop := wipe σ2 vs = wipe σ vs ∧ R
def lcS (J : It) (g : TG) (tt : TT) (te : TE) (vs : List Nat) (σ : St) (H1 : Hp) (Q : VK) : Prop := ∀ D, H1 D = none → ∃ W : Nat → Nat → Hp → Prop, (∃ m, W 0 m (upd H1 D (.lst []))) ∧ ∀ i m H, W i m H →
  (J.stop i H ∧ Q (.ref D) H) ∨ (J.go i H ∧ ∃ Nx : Hp → Prop, (∀ H', Nx H' → ∃ m', m' < m ∧ W (i + 1) m' H') ∧ ∀ x H', J.yld i H x H' → g x (wipe σ vs) H' fun σ2 H2 => wipe σ2 vs = wipe σ vs ∧ tt σ2 H2 fun b H3 =>
    if b = true then te σ2 H3 fun y H4 => ∃ acc, H4 D = some (.lst acc) ∧ acc.length < sizeLine ∧ Nx (upd H4 D (.lst (acc ++ [y]))) else Nx H3)
class SetN (σ : St) (n : Nat) (σ' : outParam St) : Prop where
  e : σ.set n none = σ'
instance setn0 {x : Option V} {σ : St} : SetN (x :: σ) 0 (none :: σ) := ⟨rfl⟩
instance setnS {x : Option V} {σ σ' : St} {n : Nat} [a : SetN σ n σ'] : SetN (x :: σ) (n + 1) (x :: σ') := ⟨by rw [List.set_cons_succ, a.e]⟩
class Wip (σ : St) (vs : List Nat) (σ' : outParam St) : Prop where
  e : wipe σ vs = σ'
instance wip0 {σ : St} : Wip σ [] σ := ⟨rfl⟩
instance wipS {σ σ1 σ2 : St} {v : Nat} {vs : List Nat} [a : Wip σ vs σ1] [b : SetN σ1 v σ2] : Wip σ (v :: vs) σ2 := ⟨by unfold wipe; rw [a.e, b.e]⟩
instance wipM0 {σ : St} : Wip σ (List.map (fun x : Str × Nat => x.2) []) σ := ⟨rfl⟩
instance wipMS {σ σ1 σ2 : St} {x : Str} {v : Nat} {own : List (Str × Nat)} [a : Wip σ (List.map (fun x : Str × Nat => x.2) own) σ1] [b : SetN σ1 v σ2] : Wip σ (List.map (fun x : Str × Nat => x.2) ((x, v) :: own)) σ2 := ⟨by rw [List.map_cons]; unfold wipe; rw [a.e, b.e]⟩
section
variable {σ σ0 : St} {H : Hp} {K : PySem.W.Frag} {p : Addr} {xs : List V} {g : TG} {wi : TI} {tt : TT} {te : TE} {vs : List Nat} {Q : VK} {J : It} {n : Nat} {lo : Int}
instance s_lc : Stp (tLc wi g tt te vs σ H Q) (wi σ H fun J H1 => lcS J g tt te vs σ H1 Q) := ⟨id⟩
instance s_yes {R : Bool → Hp → Prop} : Stp (tYes σ H R) (R true H) := ⟨id⟩
instance s_wp {R : Prop} {σ2 : St} [a : Wip σ2 vs σ0] [b : Wip σ vs σ0] : Stp (wpS σ2 σ vs R) R := ⟨fun h => ⟨by rw [a.e, b.e], h⟩⟩
theorem r_ap {D : Addr} {y : V} {R : Hp → Prop} {acc : List V} (h : H D = some (.lst acc)) (hl : acc.length < sizeLine) (q : ∀ H2, H2 D = some (.lst (acc ++ [y])) → Kp [D] H H2 → R H2) : apS D y H R :=
  ⟨acc, h, hl, q _ upd_same (Kp.put h trivial)⟩
theorem lc_by {G : Hp → Prop} {Y : Nat → Hp → V → Hp → Prop} (w : Walk J n G Y) [hw : Wip σ vs σ0] (Pv : Addr → Nat → Hp → Prop) (h0 : ∀ D H2, H D = none → H2 D = some (.lst []) → Kp [] H H2 → Pv D 0 H2) (hG : ∀ D i H', Pv D i H' → G H')
    (hs : ∀ D i x H' H'', i < n → Pv D i H' → Y i H' x H'' → g x σ0 H'' fun σ2 H2 => wpS σ2 σ vs (tt σ2 H2 fun b H3 => iteP b (te σ2 H3 fun y H4 => apS D y H4 (Pv D (i + 1))) (Pv D (i + 1) H3)))
    (hd : ∀ D H', Pv D n H' → Q (.ref D) H') : lcS J g tt te vs σ H Q := by
  intro D hD
  refine lc_it w (Pv D) (h0 D _ hD upd_same (Kp.new hD)) (fun i H' _ h => hG D i H' h) ?_ (hd D)
  intro i x H' H'' hi h y
  rw [hw.e]
  have q := hs D i x H' H'' hi h y
  unfold wpS at q
  rw [hw.e] at q
  exact q
theorem r_lcT (xs : List V) [hw : Wip σ vs σ0] (Pv : Addr → Nat → Hp → Prop) (h0 : ∀ D H2, H D = none → H2 D = some (.lst []) → Kp [] H H2 → Pv D 0 H2) (hG : ∀ D i H', Pv D i H' → SqT K H' p xs)
    (hs : ∀ D i x H', xs[i]? = some x → Pv D i H' → g x σ0 H' fun σ2 H2 => wpS σ2 σ vs (tt σ2 H2 fun b H3 => iteP b (te σ2 H3 fun y H4 => apS D y H4 (Pv D (i + 1))) (Pv D (i + 1) H3)))
    (hd : ∀ D H', Pv D xs.length H' → Q (.ref D) H') : lcS (Itt K p) g tt te vs σ H Q :=
  lc_by (walk_tup (K := K) (a := p) (xs := xs)) Pv h0 hG (fun D i x H1 H2 _ h y => by obtain ⟨rfl, y⟩ := y; exact hs D i x _ y h) hd
theorem r_lcL (xs : List V) [hw : Wip σ vs σ0] (Pv : Addr → Nat → Hp → Prop) (h0 : ∀ D H2, H D = none → H2 D = some (.lst []) → Kp [] H H2 → Pv D 0 H2) (hG : ∀ D i H', Pv D i H' → H' p = some (.lst xs))
    (hs : ∀ D i x H', xs[i]? = some x → Pv D i H' → g x σ0 H' fun σ2 H2 => wpS σ2 σ vs (tt σ2 H2 fun b H3 => iteP b (te σ2 H3 fun y H4 => apS D y H4 (Pv D (i + 1))) (Pv D (i + 1) H3)))
    (hd : ∀ D H', Pv D xs.length H' → Q (.ref D) H') : lcS (Itl K p) g tt te vs σ H Q :=
  lc_by (walk_list (K := K) (a := p) (xs := xs)) Pv h0 (fun D i H' h => SqL.of (hG D i H' h)) (fun D i x H1 H2 _ h y => by obtain ⟨rfl, y⟩ := y; exact hs D i x _ y h) hd
theorem r_lcR [hw : Wip σ vs σ0] (Pv : Addr → Nat → Hp → Prop) (h0 : ∀ D H2, H D = none → H2 D = some (.lst []) → Kp [] H H2 → Pv D 0 H2)
    (hs : ∀ D i H', i < n → Pv D i H' → g (.int (lo + (i : Int))) σ0 H' fun σ2 H2 => wpS σ2 σ vs (tt σ2 H2 fun b H3 => iteP b (te σ2 H3 fun y H4 => apS D y H4 (Pv D (i + 1))) (Pv D (i + 1) H3)))
    (hd : ∀ D H', Pv D n H' → Q (.ref D) H') : lcS (Itr lo n) g tt te vs σ H Q :=
  lc_by walk_range Pv h0 (fun _ _ _ _ => trivial) (fun D i x H1 H2 hi h y => by obtain ⟨rfl, rfl⟩ := y; exact hs D i _ hi h) hd
end
/-! ### rules with the written part by its name (within comprehensions) -/
section
variable {X : Cx} (K : PySem.W.Frag)
theorem ixT (h : X.K = K := by rfl) : IxR X (rIxT K) := h ▸ ix_tup
theorem ixL (h : X.K = K := by rfl) : IxR X (rIxL K) := h ▸ ix_list
theorem inS (h : X.K = K := by rfl) : OpR X (compareOp .In) (rIn K false) := h ▸ op_in_seq
theorem notInS (h : X.K = K := by rfl) : OpR X (compareOp .NotIn) (rIn K true) := h ▸ op_notIn_seq
theorem cgLen (h : X.K = K := by rfl) : CallR X (.builtin "len") (rLen K) := h ▸ cg_len
theorem cgList (h : X.K = K := by rfl) : CallR X (.type "list") (rListOf K) := h ▸ cg_list
theorem cgTuple (h : X.K = K := by rfl) : CallR X (.type "tuple") (rTupOf K) := h ▸ cg_tuple
theorem cgIsi (h : X.K = K := by rfl) : CallR X (.builtin "isinstance") (rIsi K) := h ▸ call_isi
theorem eqD {k : Nat} {A : Around} (r : Room k A) (h : X.K = K := by rfl) (ha : X.A = A := by rfl) : OpR X (compareOp .Eq) (rEqD K) := h ▸ op_eqD (by rw [ha]; exact r.units)
theorem neD {k : Nat} {A : Around} (r : Room k A) (h : X.K = K := by rfl) (ha : X.A = A := by rfl) : OpR X (compareOp .NotEq) (rNeD K) := h ▸ op_neD (by rw [ha]; exact r.units)
theorem slT (h : X.K = K := by rfl) : SlR X (rSlT K) := h ▸ sl_tup
end
/-! ### is None; any, all -/
def rIsNo : R2 := fun x y H Q => y = .non ∧ Q (.bl (decide (x = .non))) H
def rNotNo : R2 := fun x y H Q => y = .non ∧ Q (.bl (!decide (x = .non))) H
theorem cg_isN {X : Cx} : OpR X (compareOp .Is) rIsNo := op_isN
theorem cg_notN {X : Cx} : OpR X (compareOp .IsNot) rNotNo := op_notN
section
variable {H : Hp} {Q : VK} {p : Addr} {K : PySem.W.Frag} {bs : List Bool}
instance s_isN0 : Stp (rIsNo .non .non H Q) (Q (.bl true) H) := ⟨fun h => ⟨rfl, h⟩⟩
instance s_isN1 : Stp (rIsNo (.ref p) .non H Q) (Q (.bl false) H) := ⟨fun h => ⟨rfl, by rw [decide_eq_false (fun e => by cases e)]; exact h⟩⟩
instance s_notN0 : Stp (rNotNo .non .non H Q) (Q (.bl false) H) := ⟨fun h => ⟨rfl, h⟩⟩
instance s_notN1 : Stp (rNotNo (.ref p) .non H Q) (Q (.bl true) H) := ⟨fun h => ⟨rfl, by rw [decide_eq_false (fun e => by cases e)]; exact h⟩⟩
theorem r_any (h : H p = some (.lst (bs.map V.bl))) (q : Q (.bl (bs.any id)) H) : rAny K [.ref p] H Q := ⟨p, bs, rfl, SqL.of h, q⟩
theorem r_all (h : H p = some (.lst (bs.map V.bl))) (q : Q (.bl (bs.all id)) H) : rAll K [.ref p] H Q := ⟨p, bs, rfl, SqL.of h, q⟩
end
/-! ### list methods -/
instance s_bm {K : PySem.W.Frag} {T : String} {r : V → List V → Hp → VK → Prop} {to : TE} {t : TA} {σ : St} {H : Hp} {Q : VK} : Stp (tBM K T r to t σ H Q) (to σ H fun x H1 => tyV K T x H1 ∧ t σ H1 fun xs H2 => r x xs H2 Q) := ⟨id⟩
theorem r_tyL {K : PySem.W.Frag} {H : Hp} {l : Addr} {xs : List V} {R : Prop} (h : H l = some (.lst xs)) (q : R) : tyV K "list" (.ref l) H ∧ R := ⟨.inl ⟨rfl, xs, SqL.of h⟩, q⟩
theorem r_app {H : Hp} {l : Addr} {xs : List V} {y : V} {Q : VK} (h : H l = some (.lst xs)) (hl : xs.length < sizeLine) (q : ∀ H2, H2 l = some (.lst (xs ++ [y])) → Kp [l] H H2 → Q .non H2) : rAppend (.ref l) [y] H Q :=
  ⟨l, xs, y, rfl, rfl, h, hl, q _ upd_same (Kp.put h trivial)⟩
section
variable {H : Hp} {Q : VK} {l p : Addr} {K : PySem.W.Frag} {xs : List V} {y : V} {i : Int}
def rIns : V → List V → Hp → VK → Prop := fun x vs H Q => ∃ (l : Addr) (xs : List V) (i : Int) (y : V), x = .ref l ∧ vs = [.int i, y] ∧ H l = some (.lst xs) ∧ xs.length < sizeLine ∧ 0 ≤ i ∧ i < 2 ^ 63 ∧ Q .non (upd H l (.lst (xs.take i.toNat ++ [y] ++ xs.drop i.toNat)))
theorem cg_insert {X : Cx} : MtR X "list.insert" rIns := mt_insert
theorem r_ins (h : H l = some (.lst xs)) (hl : xs.length < sizeLine) (h0 : 0 ≤ i) (h1 : i ≤ 1000000) (q : ∀ H2, H2 l = some (.lst (xs.take i.toNat ++ [y] ++ xs.drop i.toNat)) → Kp [l] H H2 → Q .non H2) : rIns (.ref l) [.int i, y] H Q :=
  ⟨l, xs, i, y, rfl, rfl, h, hl, h0, by omega, q _ upd_same (Kp.put h trivial)⟩
theorem r_pop (h : H l = some (.lst xs)) (h0 : 0 ≤ i) (h1 : i < xs.length) (h2 : i ≤ 1000000) (q : ∀ y H2, xs[i.toNat]? = some y → H2 l = some (.lst (xs.eraseIdx i.toNat)) → Kp [l] H H2 → Q y H2) : rPopAt (.ref l) [.int i] H Q := by
  have e : i.toNat < xs.length := by omega
  refine ⟨l, xs, i, i.toNat, xs[i.toNat], rfl, rfl, h, by omega, by omega, ?_, List.getElem?_eq_getElem e, q _ _ (List.getElem?_eq_getElem e) upd_same (Kp.put h trivial)⟩
  unfold seqIndex?
  rw [if_neg (by omega : ¬ i < 0)]
  simp
  omega
theorem r_listT (h : SqT K H p xs) (q : ∀ l H2, H l = none → H2 l = some (.lst xs) → Kp [] H H2 → Q (.ref l) H2) : rListOf K [.ref p] H Q := ⟨p, xs, rfl, .inr h, fun l hl => q l _ hl upd_same (Kp.new hl)⟩
instance s_sl {r : V → Option Int → Option Int → Hp → VK → Prop} {te : TE} {tl th : TO} {σ : St} : Stp (tSl r te tl th σ H Q) (te σ H fun x H1 => tl σ H1 fun l H2 => th σ H2 fun u H3 => r x l u H3 Q) := ⟨id⟩
instance s_noPart {σ : St} {R : Option Int → Hp → Prop} : Stp (tNoPart σ H R) (R Option.none H) := ⟨id⟩
def asI (x : V) (R : Int → Prop) : Prop := ∃ i, x = .int i ∧ R i
instance s_asI {R : Int → Prop} : Stp (asI (.int i) R) (R i) := ⟨fun h => ⟨i, rfl, h⟩⟩
instance s_part {te : TE} {σ : St} {R : Option Int → Hp → Prop} : Stp (tPart te σ H R) (te σ H fun x H1 => asI x fun i => R (some i) H1) := ⟨id⟩
theorem r_slL {lo hi : Option Int} (h : H p = some (.lst xs)) (q : ∀ l H2, H l = none → H2 l = some (.lst (cutV xs lo hi)) → Kp [] H H2 → Q (.ref l) H2) : rSlL K (.ref p) lo hi H Q := ⟨p, xs, rfl, SqL.of h, fun l hl => q l _ hl upd_same (Kp.new hl)⟩
theorem slL {X : Cx} (K : PySem.W.Frag) (h : X.K = K := by rfl) : SlR X (rSlL K) := h ▸ sl_list
theorem cut_from {i : Int} (h : 0 ≤ i) : cutV xs (some i) none = xs.drop i.toNat := by
  obtain ⟨k, rfl⟩ : ∃ k : Nat, i = k := ⟨i.toNat, by omega⟩
  unfold cutV
  rw [HT.sIx_nat, HT.sIx_none, Int.toNat_natCast]
  by_cases hk : k ≤ xs.length
  · rw [Nat.min_eq_left hk, List.take_of_length_le (by rw [List.length_drop]; omega)]
  · rw [Nat.min_eq_right (by omega), List.drop_eq_nil_of_le (Nat.le_refl _), List.drop_eq_nil_of_le (by omega), List.take_nil]
/-- a list of bools in which True, False stands -/
theorem flat_bls (bs : List Bool) : (bs.map V.bl).all flatV = true := by
  induction bs with
  | nil => rfl
  | cons b bs ih => simpa [flatV] using ih
theorem inV_true (bs : List Bool) : inV (.bl true) (bs.map V.bl) = bs.any id := by
  unfold inV
  rw [List.any_map]
  congr 1
  funext b
  cases b <;> rfl
theorem inV_false (bs : List Bool) : (!inV (.bl false) (bs.map V.bl)) = bs.all id := by
  unfold inV
  induction bs with
  | nil => rfl
  | cons b bs ih =>
    simp only [List.map_cons, List.any_cons, List.all_cons, Bool.not_or, ih]
    cases b <;> rfl
end
/-! ### the walk's own steps (rows of tactics) -/
local macro_rules | `(tactic| walk_at "cg yes") => `(tactic| (first
  | assumption | decide | omega | (simp; done)
  | fail))
local macro_rules | `(tactic| walk_at "cg ne") => `(tactic| (first
  | assumption | (apply Ne.symm; assumption) | exact ne_newL (by assumption) (by walk_at "cg h") | exact ne_newR (by assumption) (by walk_at "cg h")
  | fail))
/-- what stands at an address, a tuple, from the last heap backwards -/
local macro_rules | `(tactic| walk_at "cg h") => `(tactic| (first
  | assumption
  | ((with_reducible show _ = some _); first
      | exact Kp.get0 (by assumption) (by walk_at "cg h") | exact Kp.get1 (by assumption) (by walk_at "cg ne") (by walk_at "cg h"))
  | ((with_reducible show SqT _ _ _ _); exact Kp.tup (by assumption) (by walk_at "cg h"))
  | ((with_reducible show Im _ _ _ _); exact Kp.im (by assumption) (by walk_at "cg h"))
  | ((with_reducible show ImAll _ _ _ _); exact Kp.imAll (by assumption) (by walk_at "cg h"))
  | fail))
/-- an address that was free -/
local macro_rules | `(tactic| walk_at "cg fr") => `(tactic| (first
  | assumption
  | exact Kp.free0 (by assumption) (by assumption)
  | exact Kp.free0 (by walk_at "cg kp") (by assumption)
  | fail))
/-- the frame from the entry on -/
local macro_rules | `(tactic| walk_at "cg kp") => `(tactic| (first
  | assumption
  | exact Kp.refl
  | exact Kp.tr0 (by assumption) (by walk_at "cg kp")
  | exact Kp.tr1 (by assumption) (by walk_at "cg kp")
  | exact Kp.trN (by assumption) (by walk_at "cg kp") (by walk_at "cg fr")
  | fail))
local macro_rules | `(tactic| walk_at "cg ty") => `(tactic| (first
  | exact .base (.int _) | exact .base (.bl _) | exact .base (.str _) | exact .base .non | exact SqT.ty (by walk_at "cg h") | exact .base (.lst (by walk_at "cg h"))
  | fail))
local macro_rules | `(tactic| walk_at "cg C") => `(tactic| (first
  | assumption | exact (show CMul _ _ from .inl ⟨by omega, by omega⟩) | exact (show CMul _ _ from .inr ⟨by omega, by omega⟩) | omega | decide
  | exact ⟨by decide, by decide, by decide⟩ | exact ⟨by omega, by omega⟩
  | fail))
local macro_rules | `(tactic| walk_at "cg s") => `(tactic| (first
  | (refine go1 inferInstance inferInstance ?_)
  | ((with_reducible refine r_rI ?_ ?_); (focus (walk_at "cg C")))
  | ((with_reducible apply r_ixL); (focus (walk_at "cg h")); exact rfl)
  | ((with_reducible apply r_ixT); (focus (walk_at "cg h")); exact rfl)
  | ((with_reducible apply r_lenL); (focus (walk_at "cg h")))
  | ((with_reducible apply r_lenT); (focus (walk_at "cg h")))
  | ((with_reducible apply r_gTup); (focus (walk_at "cg h")); exact rfl)
  | ((with_reducible refine r_mkT (K := ‹PySem.W.Frag›) ?_ ?_); (focus (exact Nat.le_of_ble_eq_true rfl)); intro _ _ _ _ _)
  | ((with_reducible refine r_mkL ?_ ?_); (focus (exact Nat.le_of_ble_eq_true rfl)); intro _ _ _ _ _)
  | ((with_reducible apply r_tupleL); (focus (walk_at "cg h")); intro _ _ _ _ _)
  | ((with_reducible apply r_listT); (focus (walk_at "cg h")); intro _ _ _ _ _)
  | ((with_reducible apply r_slL); (focus (walk_at "cg h")); intro _ _ _ _ _)
  | ((with_reducible apply r_listL); (focus (walk_at "cg h")); intro _ _ _ _ _)
  | ((with_reducible apply r_setL); (focus (walk_at "cg h")); exact rfl)
  | ((with_reducible apply r_isi); (focus (exact .ty _)); (focus (walk_at "cg ty")); (focus (first | exact kit_ty (r := true) (by decide +kernel) | exact kit_ty (r := false) (by decide +kernel))))
  | ((with_reducible apply r_inL); (focus (walk_at "cg h")); exact rfl; exact rfl; (focus (first | exact (by decide +kernel : _ = true) | exact (by decide +kernel : _ = false))))
  | ((with_reducible apply r_inT); (focus (walk_at "cg h")); exact rfl; exact rfl; (focus (first | exact (by decide +kernel : _ = true) | exact (by decide +kernel : _ = false))))
  | ((with_reducible apply r_tyL); (focus (walk_at "cg h")))
  | ((with_reducible refine r_app (xs := ?xs) ?h ?hl ?_); (case h => walk_at "cg h"); (case hl => first | exact Nat.lt_of_sub_pos (by decide) | (apply small1000; omega) | (apply small1000; simp; done) | (apply small1000; simp; omega)); intro _ _ _)
  | ((with_reducible apply r_isL); (focus (walk_at "cg h")))
  | ((with_reducible apply r_isT); (focus (walk_at "cg h")))
  | ((with_reducible apply r_isR1); (focus (first | omega | (constructor <;> decide))))
  | ((with_reducible refine if_T ?_ ?_); (focus (walk_at "cg yes"))) | ((with_reducible refine if_F ?_ ?_); (focus (walk_at "cg yes")))
  | ((with_reducible refine if_NT ?_ ?_); (focus (walk_at "cg yes"))) | ((with_reducible refine if_NF ?_ ?_); (focus (walk_at "cg yes")))
  | fail))
local macro_rules | `(tactic| walk_at "cg") => `(tactic| repeat (walk_at "cg s"))

/-! ### set(xs) of a list of ints, and sorted of it -/
section
open PySem.Spec PyProof.Rows
variable {P : Program} {w : World} {A : Around} {E : Value → Shared → Prop} {s : Shared}
/-- a new empty set; the iterator of the list at l -/
def oSet (w : World) : Obj := ⟨.type "set", none, .set #[] 0 (.fresh 0 0 (!w.params.followText "set-order")), #[]⟩
def oIt (l : Addr) : Obj := ⟨.type "list_iterator", none, .fields #[.ref l, .int 0 0], #[]⟩
/-- what the making of the set leaves: the set at n, every elder object -/
def SetDone (w : World) (h0 : Heap) (ns : List Int) (h : Heap) : Prop := ∃ c, SetR w h h0.objs.size (fun j => decide (j ∈ ns)) c ∧ c ≤ ns.length ∧ ∀ b o, h0.get? b = some o → h.get? b = some o
set_option maxHeartbeats 8000000 in
theorem set_made {l : Addr} {vs : Array Value} {ns : List Int} {Q : Value → Shared → Prop} (hc : A.handled = none) (hl : s.heap.IsList l vs) (hv : IntsAre vs.toList ns) (few : ns.length ≤ 4000)
    (q : ∀ h tk, SetDone w s.heap ns h → Q (.ref s.heap.objs.size) { s with heap := h, toks := tk }) : wpAny (model P w) A (call (.type "set") [.ref l]) Q E s := by
  have room : ns.length + 1 < scanBound := by unfold scanBound; omega
  have size : vs.size = ns.length := by simpa using IntsAre.length hv
  have atS : (s.heap.push (oSet w)).get? s.heap.objs.size = some (oSet w) := Heap.get?_push_size _ rfl
  have tyS : Shared.TypeIs { s with heap := s.heap.push (oSet w) } (.ref s.heap.objs.size) "set" := ⟨_, atS, rfl⟩
  have e1 := F.called_set.made
  have e2 := F.called_set.sub
  have e3 := F.called_set.notType
  have e4 := F.called_set.canCreate
  have e5 := F.typeCall_set_1 (.ref l)
  have e6 := F.called_set.init.lookup
  have e7 := F.called_set.init.bind (.ref s.heap.objs.size)
  obtain ⟨cc, tl, e0⟩ := F.called_set.mro
  apply wpAny_call
  apply codeAny_of_tree
  show wpAny _ _ (callAny (.type "set") _) _ _ _
  apply wpAny_pure
  refine ⟨Code.quiet_builtin _ (by decide +kernel), ?_⟩
  apply codeAny_builtin F.entry_type_call
  rw [Around.under_plain (weight_type_call_type "set" [.ref l] []) rfl]
  repeat any_goals first | wp_step | assumption
  refine codeAny_mono (code_set_led1 (E := E) (.ref l) (Q₁ := fun v z => v = .ref s.heap.objs.size ∧ z = { s with heap := s.heap.push (oSet w) }) ⟨rfl, rfl⟩) ?_
  rintro (e | f) z hz
  · exact hz
  · cases f
    case ret v =>
      obtain ⟨rfl, rfl⟩ := hz
      repeat any_goals first | wp_step | assumption
      refine codeAny_mono (codeAny_call_builtin F.called_set.init.plain F.entry_set_init (check_set_init_1 tyS ?go)
        (R := wants (fun r z => r = .none ∧ ∃ h tk, z = { s with heap := h, toks := tk } ∧ SetDone w s.heap ns h) E)) ?_
      case go =>
        obtain ⟨⟨c0, d0, t0, s0⟩, at0, cl0, n0, da0⟩ := hl
        dsimp only at cl0 da0
        subst cl0 da0
        have atL : (s.heap.push (oSet w)).get? l = some ⟨.type "list", d0, .seq vs n0, s0⟩ := Heap.get?_push_of_some _ at0
        have isL : (s.heap.push (oSet w)).IsList l vs := ⟨_, atL, rfl, n0, rfl⟩
        have f1 := F.sub_list_set
        have f2 := F.sub_list_frozenset
        have f3 : (Value.type "list" == Value.type "dict") = false := by decide
        unfold Builtin.«set.__init__» noKeywords Builtin.Frozenset.updateFrom
        generalize hw : pyIter = it0
        wp_walk
        subst hw
        apply wpAny_pyIter_list isL
        apply wpAny_bind
        apply wpAny_runValue
        have small : l < s.heap.objs.size := Heap.lt_size at0
        have big : (s.heap.push (oSet w)).objs.size = s.heap.objs.size + 1 := Heap.size_push ..
        have calm : A.in1.in1.in1.handled = none := by simpa using hc
        have n1 : l ≠ (s.heap.push (oSet w)).objs.size := by
          rw [big]
          exact Nat.ne_of_lt (Nat.lt_succ_of_lt small)
        have n2 : s.heap.objs.size ≠ (s.heap.push (oSet w)).objs.size := by
          rw [big]
          exact Nat.ne_of_lt (Nat.lt_succ_self _)
        refine set_update_ints (Walks.list calm _ l n1 vs).toS s.heap.objs.size (fun hm => ?f1) ns size room (fun i v ev => ?f2) (vs.size - 0) 0 _ rfl (Nat.zero_le _)
          ⟨⟨_, Heap.get?_push_size _ rfl, rfl, rfl⟩, isL.push _⟩ ⟨0, Nat.le_refl 0, setR_new_at (Heap.get?_push_of_some _ atS)⟩ ?f3
        case f1 =>
          rcases List.mem_cons.mp hm with e | hm
          · exact n2 e
          · exact Nat.ne_of_gt small (List.mem_singleton.mp hm)
        case f2 =>
          have hi : i < ns.length := size ▸ (Array.getElem?_eq_some_iff.mp ev).1
          obtain ⟨t, e⟩ := IntsAre.int_at hv i v (by simpa using ev)
          exact ⟨ns[i], t, by simp [hi], by simp [e, hi]⟩
        case f3 =>
          rintro ⟨h, g, d, tk, os⟩ c moved hcn hS
          obtain rfl : g = s.gens := moved.gens
          obtain rfl : d = s.drawn := moved.drawn
          obtain rfl : os = s.os := moved.os
          apply wpAny_pure
          show wpAny _ _ (ret Value.none) _ _ _
          apply wpAny_pure
          refine ⟨rfl, h, tk, rfl, c, hS, by omega, fun b o e => ?_⟩
          have lt := Heap.lt_size e
          refine moved.heap b o (fun hm => ?_) (Heap.get?_push_of_some _ (Heap.get?_push_of_some _ e))
          rcases List.mem_cons.mp hm with e | hm
          · exact Nat.ne_of_lt lt e
          · have e : b = (s.heap.push (oSet w)).objs.size := List.mem_singleton.mp hm
            rw [big] at e
            exact Nat.ne_of_lt (Nat.lt_succ_of_lt lt) e
      rintro (e | f) z hz
      · exact hz
      · cases f
        case ret v =>
          obtain ⟨rfl, h, tk, rfl, done⟩ := hz
          repeat any_goals first | wp_step | assumption
          exact q h tk done
        all_goals exact hz.elim
    all_goals exact hz.elim
end
/-- set(xs), xs a list of ints -/
def rSetL (K : PySem.W.Frag) (w : World) : List V → Hp → VK → Prop := fun vs H Q => ∃ (l : Addr) (ns : List Int), vs = [.ref l] ∧ SqL K H l (ns.map V.int) ∧ ns.length ≤ 4000 ∧
  ∀ p c, H p = none → c ≤ ns.length → (∀ us : List Int, (∀ j ∈ ns, j ∈ us) → c ≤ us.length) → Q (.ref p) (upd H p (SetO w p (fun j => decide (j ∈ ns)) c))
theorem nodup_le0 : ∀ {ns us : List Int}, ns.Nodup → (∀ k ∈ ns, k ∈ us) → ns.length ≤ us.length
  | [], _, _, _ => Nat.zero_le _
  | n :: ns, us, h, s => by
    rw [List.nodup_cons] at h
    have m := s n List.mem_cons_self
    have q := nodup_le0 (ns := ns) (us := us.erase n) h.2 fun k hk => (List.mem_erase_of_ne fun e => h.1 (by rw [← e]; exact hk)).mpr (s k (List.mem_cons_of_mem _ hk))
    rw [List.length_erase_of_mem m] at q
    have := List.length_pos_of_mem m
    rw [List.length_cons]
    omega
theorem setR_card {w : World} {h : Heap} {a : Addr} {S : Int → Bool} {c : Nat} (R : SetR w h a S c) {us : List Int} (hs : ∀ k, S k = true → k ∈ us) : c ≤ us.length := by
  obtain ⟨o, es, ep, t, _, _, _, _, nd, iff, _, _, hsz, _⟩ := R
  have q := nodup_le0 nd fun k hk => hs k ((iff k).mpr hk)
  rw [List.length_map] at q
  have : es.toList.length = es.size := by simp
  omega
theorem cg_setL {X : Cx} (hc : X.calm = true) : CallR X (.type "set") (rSetL X.K X.w) := by
  rintro pins s σ H vs us Q I r ⟨l, ns, rfl, hS, hn, q⟩
  obtain ⟨its, rv, pl, hz⟩ := I.list hS
  have e1 := Vals.ref1 r
  subst e1
  have hv : PyProof.Rows.IntsAre its.toArray.toList ns := by simpa using rv.ints
  refine set_made (I.ok.hd hc) pl.isList hv hn ?_
  rintro h tk ⟨c, hR, hcn, keep⟩
  have free : H s.heap.objs.size = none := I.hok.fresh (Nat.le_refl _)
  exact ⟨.ref _, _, I.laid (t' := tk) keep (Nat.le_refl _) (setO_new hR), rfl, q _ c free hcn fun us hu => setR_card hR fun k hk => hu k (of_decide_eq_true hk)⟩

/-! ### sets of tuples of flat things (ints, texts, bools, None) -/
section
open PySem.Spec PyProof.Rows
variable {P : Program} {w : World} {κ : Type} [DecidableEq κ] {kn : KeyKind P w κ} {A : Around} {E : Value → Shared → Prop} {s : Shared}
theorem tv_cls (n : Nat) {v : Value} (h : carriedByValue v = true) : ofAClassStatement n v = pure false := by
  cases v with
  | ref a => simp [carriedByValue] at h
  | _ => cases n <;> rfl
theorem tv_hash (n : Nat) {v : Value} (h : carriedByValue v = true) : ∃ b, hashByValue n v = pure b := by
  cases v with
  | ref a => simp [carriedByValue] at h
  | _ => cases n <;> exact ⟨_, rfl⟩
/-- a tuple of flat things is of no class statement -/
theorem tt_cls {k : List κ} {b : Addr} {Q : Bool → Shared → Prop} (T : IsTupleKey kn s.heap k b) (q : Q false s) : wpAny (model P w) A (ofAClassStatement 8 (.ref b)) Q E s := by
  have ty := T.typeIs
  obtain ⟨o, its, n, at0, _, da, ia⟩ := T
  unfold ofAClassStatement
  refine wpAny_bind (wpAny_typeOf ty ?_)
  dsimp only
  have e0 : (("tuple" : String) == "tuple") = true := by decide
  simp only [e0, if_true, Bool.not_true, Bool.false_eq_true, if_false]
  try refine wpAny_bind (wpAny_pure ?_)
  try simp only [Bool.not_true, Bool.false_eq_true, if_false]
  show wpAny _ _ (seqItems? (.ref b) >>= _) _ _ s
  refine wpAny_bind (wpAny_seqItems at0 da ?_)
  dsimp only
  refine wpAny_bind ?_
  show wpAny _ _ (forIn its _ _) _ _ s
  rw [← Array.forIn_toList]
  refine wpAny_forIn_list _ (fun left st z => st.1 = none ∧ z = s ∧ ∀ v ∈ left, carriedByValue v = true) _ ?_ ?_ _ _ ⟨rfl, rfl, ia.byValue⟩
  · rintro v left st z ⟨e1, rfl, all⟩
    rw [tv_cls _ (all v List.mem_cons_self)]
    refine wpAny_bind (wpAny_pure ?_)
    simp only [Bool.false_eq_true, if_false]
    exact wpAny_pure ⟨rfl, rfl, fun u hu => all u (List.mem_cons_of_mem _ hu)⟩
  · rintro ⟨x, y⟩ z ⟨e1, rfl, _⟩
    simp only at e1
    subst e1
    exact wpAny_pure q
/-- whether its hash is by value: one of both -/
theorem tt_hash {k : List κ} {b : Addr} {Q : Bool → Shared → Prop} (T : IsTupleKey kn s.heap k b) (q : ∀ r, Q r s) : wpAny (model P w) A (hashByValue 8 (.ref b)) Q E s := by
  have ty := T.typeIs
  obtain ⟨o, its, n, at0, _, da, ia⟩ := T
  unfold hashByValue
  refine wpAny_bind (wpAny_specialOf ty F.slot_tuple_hash.lookup ?_)
  show wpAny _ _ (seqItems? (.ref b) >>= _) _ _ s
  refine wpAny_bind (wpAny_seqItems at0 da ?_)
  refine wpAny_bind ?_
  show wpAny _ _ (forIn its _ _) _ _ s
  rw [← Array.forIn_toList]
  refine wpAny_forIn_list _ (fun left st z => st.1 = none ∧ z = s ∧ ∀ v ∈ left, carriedByValue v = true) _ ?_ ?_ _ _ ⟨rfl, rfl, ia.byValue⟩
  · rintro v left st z ⟨e1, rfl, all⟩
    obtain ⟨r, e2⟩ := tv_hash 7 (all v List.mem_cons_self)
    rw [e2]
    refine wpAny_bind (wpAny_pure ?_)
    cases r
    · simp only [Bool.not_false, if_true]
      exact wpAny_pure (wpAny_pure (q false))
    · simp only [Bool.not_true, Bool.false_eq_true, if_false]
      exact wpAny_pure ⟨rfl, rfl, fun u hu => all u (List.mem_cons_of_mem _ hu)⟩
  · rintro ⟨x, y⟩ z ⟨e1, rfl, _⟩
    simp only at e1
    subst e1
    exact wpAny_pure (q true)
/-- a search among such tuples shows nothing -/
theorem tt_seen {k : List κ} {b : Addr} {Q : Bool → Shared → Prop} (T : IsTupleKey kn s.heap k b) {ys : List Value} (hy : ∀ y ∈ ys, ∃ k' c, y = Value.ref c ∧ IsTupleKey kn s.heap k' c) (q : Q false s) :
    wpAny (model P w) A (searchCouldBeSeen (.ref b) ys) Q E s := by
  unfold searchCouldBeSeen
  refine wpAny_bind ?_
  refine wpAny_forIn_list _ (fun left st z => st.1 = none ∧ z = s ∧ ∀ y ∈ left, ∃ k' c, y = Value.ref c ∧ IsTupleKey kn s.heap k' c) _ ?_ ?_ _ _ ⟨rfl, rfl, hy⟩
  · rintro v left st z ⟨e1, rfl, all⟩
    obtain ⟨k', c, rfl, T'⟩ := all v List.mem_cons_self
    have more : ∀ y ∈ left, ∃ k' c, y = Value.ref c ∧ IsTupleKey kn z.heap k' c := fun u hu => all u (List.mem_cons_of_mem _ hu)
    dsimp only
    by_cases hv : (b == c || (carriedByValue (.ref b) && carriedByValue (.ref c))) = true
    · refine wp_if_pos hv ?_
      exact wpAny_pure ⟨rfl, rfl, more⟩
    · refine wp_if_neg hv ?_
      refine wpAny_bind (wpAny_eqIsQuiet_tuple T ?_)
      simp only [Bool.not_true, Bool.false_eq_true, if_false]
      refine wpAny_bind (wpAny_eqIsQuiet_tuple T' ?_)
      simp only [Bool.not_true, Bool.false_eq_true, if_false]
      refine wpAny_bind (tt_cls T ?_)
      simp only [Bool.false_eq_true, if_false]
      refine wpAny_bind (tt_cls T' ?_)
      simp only [Bool.false_eq_true, if_false]
      exact wpAny_pure ⟨rfl, rfl, more⟩
  · rintro ⟨x, y⟩ z ⟨e1, rfl, _⟩
    simp only at e1
    subst e1
    exact wpAny_pure q

variable (kn)
/-- the entries that a list of tuples makes -/
def tEnt (p : Addr × List κ) : Int × Value := (tupleKeyHash kn p.2, .ref p.1)
/-- the set at a holds the tuples of L, in the order of the table -/
structure TSet (h : Heap) (a : Addr) (L : List (Addr × List κ)) (es : Array (Int × Value)) (ep : Nat) (t : SetTable) : Prop where
  ob : ∃ o, h.get? a = some o ∧ o.ExactSet ∧ o.data = .set es ep t
  rows : es.toList = L.map (tEnt kn)
  tab : TabOk t (L.map fun p => tupleKeyHash kn p.2)
  nd : (L.map (·.2)).Nodup
  tup : ∀ p ∈ L, IsTupleKey kn h p.2 p.1
  led : w.params.followText "set-order" = true ∨ t.led = true
  room : L.length * 5 < t.mask * 3
  few : L.length < 64
variable {kn}
variable {a : Addr} {L : List (Addr × List κ)} {es : Array (Int × Value)} {ep : Nat} {t : SetTable}
theorem TSet.size {h : Heap} (R : TSet kn h a L es ep t) : es.size = L.length := by
  have q := congrArg List.length R.rows
  simpa using q
theorem tfits (hp : t.place.size = es.size) (hd : t.dummies = #[]) (hl : es.size ≤ t.mask) : t.fits es.size = true := by
  unfold SetTable.fits SetTable.fill
  rw [hd, Bool.and_eq_true, beq_iff_eq, decide_eq_true_eq]
  show t.place.size = es.size ∧ t.place.size + 0 ≤ t.mask
  omega
theorem TSet.psz {h : Heap} (R : TSet kn h a L es ep t) : t.place.size = es.size := by
  have q := R.tab.sz
  rw [List.length_map] at q
  rw [q, R.size]
theorem TSet.fits {h : Heap} (R : TSet kn h a L es ep t) : t.fits es.size = true := by
  have h2 := R.size
  have h3 := R.room
  exact tfits R.psz R.tab.dm (by omega)
theorem TSet.entry {h : Heap} (R : TSet kn h a L es ep t) {i : Nat} {p : Addr × List κ} (e : L[i]? = some p) : es[i]? = some (tupleKeyHash kn p.2, Value.ref p.1) := by
  rw [← Array.getElem?_toList, R.rows, List.getElem?_map, e]
  rfl
theorem TSet.gw {h : Heap} (R : TSet kn h a L es ep t) : ¬ t.gaveWay = true := by
  unfold SetTable.gaveWay
  rw [mask_odd R.tab.mok]
  decide
theorem TSet.at {h h' : Heap} (R : TSet kn h a L es ep t) (ha : ∀ o, h.get? a = some o → h'.get? a = some o) (ht : ∀ p ∈ L, IsTupleKey kn h' p.2 p.1) : TSet kn h' a L es ep t := by
  obtain ⟨o, ho, r⟩ := R.ob
  exact ⟨⟨o, ha o ho, r⟩, R.rows, R.tab, R.nd, ht, R.led, R.room, R.few⟩
theorem tk_keep {h h' : Heap} {k : List κ} {b : Addr} (T : IsTupleKey kn h k b) (hk : ∀ c o, h.get? c = some o → h'.get? c = some o) : IsTupleKey kn h' k b := by
  obtain ⟨o, its, n, ho, r⟩ := T
  exact ⟨o, its, n, hk b o ho, r⟩
/-- a tuple isn't the set -/
theorem tk_other {h h' : Heap} {k : List κ} {b : Addr} {o : Obj} (T : IsTupleKey kn h k b) (ho : h.get? a = some o) (hd : o.data = .set es ep t) (hs : Heap.SameBut a h h') : IsTupleKey kn h' k b := by
  obtain ⟨o', its, n, ho', hc, hd', hi⟩ := T
  refine ⟨o', its, n, (hs.2 b fun e => ?_).trans ho', hc, hd', hi⟩
  rw [e, ho] at ho'
  rw [← Option.some.inj ho', hd] at hd'
  exact nomatch hd'
theorem nth_dummy (m : Nat) : ∀ (n : Nat) (p : SetTable.Probe), p.dummy = none → (nth m p n).dummy = none
  | 0, _, h => h
  | n + 1, p, h => nth_dummy m n (adv m p) (by unfold adv; split <;> exact h)
/-- the start of a search -/
abbrev ways (m : Nat) (h : Int) : SetTable.Probe := runAt m (SetTable.bits h % (m + 1)) (SetTable.bits h)
set_option maxHeartbeats 8000000 in
/-- the search, from the c-th step of the way on -/
theorem tset_from (R : TSet kn s.heap a L es ep t) {x : Addr} {k : List κ} (hx : IsTupleKey kn s.heap k x) (hu : A.units < cLine) {N : Nat} (N1 : N < 10 * SetTable.turns t.mask)
    (N2 : way t.mask (tupleKeyHash kn k) N ∉ t.place.toList) (N3 : ∀ c, c < N → way t.mask (tupleKeyHash kn k) c ∈ t.place.toList) {Q : SetFound → Shared → Prop}
    (yes : k ∈ L.map (·.2) → Q (.there none) s) (no : k ∉ L.map (·.2) → Q (.free (way t.mask (tupleKeyHash kn k) N) false) s) :
    ∀ (f c : Nat) (stand : Option SetTable.Probe), stand.getD (t.probeStart (tupleKeyHash kn k)) = nth t.mask (ways t.mask (tupleKeyHash kn k)) c → c ≤ N → N - c < f →
      (∀ (i : Nat) p, L[i]? = some p → p.2 = k → ∃ d, c ≤ d ∧ d < N ∧ t.place.toList[i]? = some (way t.mask (tupleKeyHash kn k) d)) →
      wpAny (model P w) A (setSearchFrom a (.ref x) (tupleKeyHash kn k) true f stand) Q E s
  | 0, _, _, _, _, hf, _ => absurd hf (Nat.not_lt_zero _)
  | f + 1, c, stand, hst, hc, hf, hre => by
    obtain ⟨o, ho, _, hd⟩ := R.ob
    generalize hh : tupleKeyHash kn k = hs at *
    rw [setSearchFrom_succ]
    refine wpAny_bind (wpAny_setState_of ho hd R.fits ?_)
    dsimp only
    refine wp_if_neg R.gw ?_
    try refine wpAny_bind (wpAny_pure ?_)
    have e1 : ∀ q, nth t.mask (nth t.mask (ways t.mask hs) c) q = nth t.mask (ways t.mask hs) (c + q) := fun q => (nth_add t.mask c _ q).symm
    have e2 : ∀ q, (nth t.mask (nth t.mask (ways t.mask hs) c) q).j = way t.mask hs (c + q) := fun q => congrArg SetTable.Probe.j (e1 q)
    have e3 : c + (N - c) = N := by omega
    have at_ : ∀ (i : Nat) p, L[i]? = some p → (es[i]?.map (·.1)).getD 0 = tupleKeyHash kn p.2 := fun i p hp => by
      rw [R.entry hp]
      rfl
    rcases go_spec t R.tab.ris R.tab.dm (fun i => (es[i]?.map (·.1)).getD 0) hs (10 * SetTable.turns t.mask) (N - c) _ (nth_dummy t.mask c (ways t.mask hs) rfl) (by omega)
      (fun q hq => by rw [e2]; exact N3 (c + q) (by omega)) (by rw [e2, e3]; exact N2) with ⟨q, i, hq, hi, hhi, none_before, pr⟩ | ⟨none_before, pr⟩
    · have pr2 : t.probe (fun i => (es[i]?.map (·.1)).getD 0) hs (stand.getD (t.probeStart hs)) = some (.candidate (way t.mask hs (c + q)) i (nth t.mask (ways t.mask hs) (c + (q + 1)))) := by
        rw [hst, ← e2, ← e1]
        exact pr
      rw [pr2]
      dsimp only
      rw [e2] at hi
      have lt : i < L.length := by
        have h1 : i < t.place.toList.length := (List.getElem?_eq_some_iff.mp hi).1
        rw [Array.length_toList, R.psz, R.size] at h1
        exact h1
      obtain ⟨p, hp⟩ : ∃ p, L[i]? = some p := ⟨_, List.getElem?_eq_getElem lt⟩
      have hm : p ∈ L := List.mem_of_getElem? hp
      have T := R.tup p hm
      have sl : t.slot (way t.mask hs (c + q)) = .live i := slot_live R.tab.ris hi
      have go : wpAny (model P w) A (searchRest a (.ref x) hs true f es t (way t.mask hs (c + q)) i (nth t.mask (ways t.mask hs) (c + (q + 1)))) Q E s := by
        unfold searchRest
        rw [R.entry hp]
        dsimp only
        refine wpAny_bind (wpAny_holding (wpAny_eqBool_tuple hu T hx ?_))
        refine wpAny_bind (wpAny_setState_of ho hd R.fits ?_)
        dsimp only
        by_cases same : p.2 = k
        · refine wp_if_pos (by simp [same]) ?_
          exact wpAny_pure (yes (List.mem_map.mpr ⟨p, hm, same⟩))
        · refine wp_if_neg (by simp [same]) ?_
          try refine wpAny_bind (wpAny_pure ?_)
          rw [sameMem]
          dsimp only
          simp only [if_true, sl, R.entry hp]
          refine wpAny_bind (wpAny_isSame_ref_self (wpAny_bind (wpAny_pure ?_)))
          simp only [if_true]
          refine wp_if_neg (by simp [same]) ?_
          subst hh
          refine tset_from R hx hu N1 N2 N3 yes no f (c + (q + 1)) _ rfl (by omega) (by omega) fun i0 p0 h0 k0 => ?_
          obtain ⟨d, d1, d2, d3⟩ := hre i0 p0 h0 k0
          refine ⟨d, ?_, d2, d3⟩
          rcases Nat.lt_trichotomy d (c + q) with z | z | z
          · refine absurd ((at_ i0 p0 h0).trans (congrArg (tupleKeyHash kn) k0)) (none_before (d - c) i0 (by omega) ?_)
            rw [e2, show c + (d - c) = d by omega]
            exact d3
          · rw [z] at d3
            have sl2 := slot_live R.tab.ris d3
            rw [sl] at sl2
            injection sl2 with sl2
            rw [← sl2, hp] at h0
            exact absurd ((congrArg Prod.snd (Option.some.inj h0)).trans k0) same
          · omega
      by_cases hl : t.led = true
      · refine wp_if_neg (by simp [hl]) ?_
        try refine wpAny_bind (wpAny_pure ?_)
        exact go
      · refine wp_if_pos (by simp [hl]) ?_
        refine wpAny_bind (tt_seen hx (fun y hy => ?_) ?_)
        · obtain ⟨e, he, ee⟩ := List.mem_map.mp hy
          have he1 : e ∈ es ∧ e.1 = hs := by simpa using he
          have he2 : e ∈ es.toList := by simpa using he1.1
          rw [R.rows] at he2
          obtain ⟨p2, hp2, e5⟩ := List.mem_map.mp he2
          exact ⟨p2.2, p2.1, by rw [← ee, ← e5]; rfl, R.tup p2 hp2⟩
        · refine wp_if_neg (by decide) ?_
          try refine wpAny_bind (wpAny_pure ?_)
          exact go
    · have pr2 : t.probe (fun i => (es[i]?.map (·.1)).getD 0) hs (stand.getD (t.probeStart hs)) = some (.empty (way t.mask hs N) none) := by
        have e4 : way t.mask hs N = (nth t.mask (nth t.mask (ways t.mask hs) c) (N - c)).j := by rw [e2, e3]
        rw [hst, e4]
        exact pr
      rw [pr2]
      dsimp only
      refine wpAny_pure (no fun hm => ?_)
      obtain ⟨p0, h0, k0⟩ := List.mem_map.mp hm
      obtain ⟨i0, hi0, e0⟩ := List.getElem_of_mem h0
      have h00 : L[i0]? = some p0 := by rw [List.getElem?_eq_getElem hi0, e0]
      obtain ⟨d, d1, d2, d3⟩ := hre i0 p0 h00 k0
      refine none_before (d - c) i0 (by omega) ?_ ((at_ i0 p0 h00).trans ((congrArg (tupleKeyHash kn) k0).trans hh))
      rw [e2, show c + (d - c) = d by omega]
      exact d3
/-- the search that adding asks for -/
theorem tset_search (R : TSet kn s.heap a L es ep t) {x : Addr} {k : List κ} (hx : IsTupleKey kn s.heap k x) (hu : A.units < cLine) {Q : SetFound → Shared → Prop} (yes : k ∈ L.map (·.2) → Q (.there none) s)
    (no : ∀ N, k ∉ L.map (·.2) → way t.mask (tupleKeyHash kn k) N ∉ t.place.toList → (∀ c, c < N → way t.mask (tupleKeyHash kn k) c ∈ t.place.toList) → Q (.free (way t.mask (tupleKeyHash kn k) N) false) s) :
    wpAny (model P w) A (setSearch a (.ref x) (tupleKeyHash kn k) true) Q E s := by
  have r := R.room
  obtain ⟨N, N1, N2, N3⟩ := R.tab.first (by rw [List.length_map]; omega) (tupleKeyHash kn k)
  have small : 10 * SetTable.turns t.mask ≤ 1420 := by
    unfold SetTable.turns
    rcases R.tab.mok with e | e | e <;> omega
  unfold setSearch
  refine tset_from R hx hu N1 N2 N3 yes (fun h => no N h N2 N3) 100000 0 none rfl (Nat.zero_le _) (by omega) fun i p hp e => ?_
  have hi : (L.map fun p => tupleKeyHash kn p.2)[i]? = some (tupleKeyHash kn k) := by
    rw [List.getElem?_map, hp, ← e]
    rfl
  have il : i < t.place.toList.length := by
    rw [Array.length_toList, R.psz, R.size]
    exact (List.getElem?_eq_some_iff.mp hp).1
  obtain ⟨d, hd, e2⟩ := R.tab.before N2 hi (List.getElem?_eq_getElem il)
  exact ⟨d, Nat.zero_le _, hd, by rw [List.getElem?_eq_getElem il, e2]⟩
end

/-! ### one more tuple, the table laid anew, the whole of set(tuple of tuples) -/
section
open PySem.Spec PyProof.Rows
variable {P : Program} {w : World} {κ : Type} [DecidableEq κ] {kn : KeyKind P w κ} {A : Around} {E : Value → Shared → Prop} {s : Shared} {a : Addr} {L : List (Addr × List κ)} {es : Array (Int × Value)} {ep : Nat} {t : SetTable}
theorem pick_all {α : Type} (L : List α) : ∀ n, n ≤ L.length → (List.range n).filterMap (fun i => L[i]?) = L.take n
  | 0, _ => rfl
  | n + 1, h => by
    rw [List.range_succ, List.filterMap_append, pick_all L n (Nat.le_of_lt h), List.take_add_one, List.getElem?_eq_getElem h]
    rw [List.filterMap_cons_some (List.getElem?_eq_getElem h)]
    rfl
/-- the entries in another order are those of the tuples in that order -/
theorem tset_order (L : List (Addr × List κ)) (es : Array (Int × Value)) (hr : es.toList = L.map (tEnt kn)) : ∀ l : List Nat, (∀ i ∈ l, i < L.length) →
    l.filterMap (fun i => es[i]?) = (l.filterMap fun i => L[i]?).map (tEnt kn) ∧ ((l.filterMap fun i => L[i]?).map fun p => tupleKeyHash kn p.2) = l.map fun i => (es.map (·.1)).getD i 0
  | [], _ => ⟨rfl, rfl⟩
  | i :: l, hl => by
    have hi := hl i List.mem_cons_self
    obtain ⟨e1, e2⟩ := tset_order L es hr l fun j hj => hl j (List.mem_cons_of_mem _ hj)
    have en : es[i]? = some (tEnt kn L[i]) := by
      rw [← Array.getElem?_toList, hr, List.getElem?_map, List.getElem?_eq_getElem hi]
      rfl
    refine ⟨?_, ?_⟩
    · rw [List.filterMap_cons_some en, List.filterMap_cons_some (List.getElem?_eq_getElem hi), e1]
      rfl
    · rw [List.filterMap_cons_some (List.getElem?_eq_getElem hi), List.map_cons, List.map_cons, e2]
      have e5 : (es.map (·.1))[i]? = some (tupleKeyHash kn (L[i]).2) := by
        rw [Array.getElem?_map, en]
        rfl
      rw [Array.getD_eq_getD_getElem?, e5]
      rfl
theorem put_other (L : List (Addr × List κ)) (p : Nat) (x : Addr × List κ) : (L.take p ++ x :: L.drop p).Perm (x :: L) := by
  have h : (L.take p ++ x :: L.drop p).Perm (x :: (L.take p ++ L.drop p)) := List.perm_middle
  rwa [List.take_append_drop] at h
set_option maxHeartbeats 8000000 in
/-- a larger table -/
theorem tset_relay {o : Obj} (ho : s.heap.get? a = some o) (ex : o.ExactSet) (hd : o.data = .set es ep t) (rows : es.toList = L.map (tEnt kn)) (psz : t.place.size = es.size) (dm : t.dummies = #[]) (fl : es.size ≤ t.mask)
    (nd : (L.map (·.2)).Nodup) (tup : ∀ p ∈ L, IsTupleKey kn s.heap p.2 p.1) (ld : w.params.followText "set-order" = true ∨ t.led = true) (few : L.length < 64) {wanted M : Nat}
    (hw : SetTable.sizeAbove wanted - 1 = M) (hM : MaskOk M) (hw2 : SetTable.sizeAbove wanted ≤ 128) (hn : L.length * 5 < M * 3) {Q : Unit → Shared → Prop}
    (q : ∀ h' L' es' ep' t', Heap.SameBut a s.heap h' → TSet kn h' a L' es' ep' t' → L'.Perm L → Q () { s with heap := h' }) : wpAny (model P w) A (setRelay a wanted) Q E s := by
  have sz : es.size = L.length := by simpa using congrArg List.length rows
  obtain ⟨t', order, e, hp, T, em, el, _, _⟩ := relaid_ok t (hs := es.map (·.1)) (wanted := wanted) hw hM (by rw [Array.size_map, sz]; omega)
  rw [Array.size_map, sz] at hp
  obtain ⟨r1, r3⟩ := tset_order L es rows order.toList fun i hi => List.mem_range.mp (hp.mem_iff.mp hi)
  have r2 : (order.toList.filterMap fun i => L[i]?).Perm L := by
    have h1 := hp.filterMap fun i => L[i]?
    rwa [pick_all L L.length (Nat.le_refl _), List.take_length] at h1
  generalize order.toList.filterMap (fun i => L[i]?) = L2 at r1 r2 r3
  rw [← r3] at T
  have r4 : (order.filterMap (es[·]?)).toList = L2.map (tEnt kn) := by
    first | (rw [Array.toList_filterMap]; exact r1) | simpa using r1
  have s2 : (order.filterMap (es[·]?)).size = es.size := by
    have h := congrArg List.length r4
    rw [Array.length_toList, List.length_map, r2.length_eq] at h
    rw [h, sz]
  rw [setRelay_eq]
  refine wpAny_bind (wpAny_setState_of ho hd (tfits psz dm fl) ?_)
  dsimp only
  refine wp_if_neg (by rw [sizeLine_eq]; omega) ?_
  try refine wpAny_bind (wpAny_pure ?_)
  rw [e]
  dsimp only
  refine wpAny_bind ?_
  refine wp_if_neg (by rw [s2]; simp) ?_
  try refine wpAny_bind (wpAny_pure ?_)
  refine wpAny_pure ?_
  dsimp only
  refine wpAny_storeSet_of ho hd ?_ (by rw [s2, sz, sizeLine_eq]; omega)
  have sb : Heap.SameBut a s.heap (s.heap.update a (Obj.putSet (order.filterMap (es[·]?)) t')) := Heap.SameBut.update ..
  refine q _ L2 (order.filterMap (es[·]?)) (ep + 1) t' sb ⟨⟨_, store_at ho hd, ⟨ex.1, ex.2.1, ex.2.2⟩, rfl⟩, r4, T, (r2.map (·.2)).nodup_iff.mpr nd, fun p hpm => tk_other (tup p (r2.mem_iff.mp hpm)) ho hd sb, by rw [el]; exact ld, ?_, by rw [r2.length_eq]; exact few⟩ r2
  rw [r2.length_eq, em]
  exact hn
/-- what holds behind one more: the old tuples and this one, once -/
def OneMore (L : List (Addr × List κ)) (x : Addr) (k : List κ) (L' : List (Addr × List κ)) : Prop := (k ∈ L.map (·.2) → L' = L) ∧ (k ∉ L.map (·.2) → L'.Perm ((x, k) :: L))
set_option maxHeartbeats 16000000 in
theorem tset_add (R : TSet kn s.heap a L es ep t) {x : Addr} {k : List κ} (hx : IsTupleKey kn s.heap k x) (hu : A.units < cLine) (hfew : L.length + 1 < 64) {Q : Bool → Shared → Prop}
    (q : ∀ b h' L' es' ep' t', Heap.SameBut a s.heap h' → TSet kn h' a L' es' ep' t' → OneMore L x k L' → Q b { s with heap := h' }) :
    wpAny (model P w) A (setAddHashed a (.ref x) (tupleKeyHash kn k)) Q E s := by
  obtain ⟨o, ho, hex, hd⟩ := R.ob
  have sz := R.size
  have room := R.room
  unfold setAddHashed
  refine wpAny_holding ?_
  rw [show (100000 : Nat) = 99999 + 1 from rfl, setAddHashedIn_succ]
  refine wpAny_bind (wpAny_setState_of ho hd R.fits ?_)
  dsimp only
  refine wp_if_neg (by simp [byScan, Value.scannable]) ?_
  try refine wpAny_bind (wpAny_pure ?_)
  refine wpAny_bind (tset_search R hx hu (fun hm => ?_) fun N hm N2 N3 => ?_)
  · dsimp only
    exact wpAny_pure (q false s.heap L es ep t (Heap.SameBut.refl a s.heap) R ⟨fun _ => rfl, fun z => absurd hm z⟩)
  · dsimp only
    refine wpAny_bind (wpAny_setState_of ho hd R.fits ?_)
    dsimp only
    obtain ⟨q1, q2, q3, q4, q5, _, _, _, q9⟩ := R.tab.put N2 N3
    generalize hpt : t.put (way t.mask (tupleKeyHash kn k) N) = pt at q1 q3 q4 q5 q9 ⊢
    obtain ⟨t1, p⟩ := pt
    dsimp only at q1 q3 q4 q5 q9 ⊢
    subst q1
    -- the table, whatever it says of plain
    have fin : ∀ t2 : SetTable, TabOk t2 (List.map (fun p => tupleKeyHash kn p.2) L |>.take (SetTable.below t.place (way t.mask (tupleKeyHash kn k) N)) |>.append (tupleKeyHash kn k :: (L.map fun p => tupleKeyHash kn p.2).drop (SetTable.below t.place (way t.mask (tupleKeyHash kn k) N)))) →
        t2.mask = t.mask → t2.led = t.led → t2.fill = L.length + 1 → wpAny (model P w) A (do
          storeSet a (SetTable.insertAt es (SetTable.below t.place (way t.mask (tupleKeyHash kn k) N)) (tupleKeyHash kn k, Value.ref x)) t2
          if !false && t2.tooFull then setRelay a (SetTable.grown (es.size + 1))
          return true) Q E s := fun t2 T2 m2 l2 f2 => by
      have hin : (SetTable.insertAt es (SetTable.below t.place (way t.mask (tupleKeyHash kn k) N)) (tupleKeyHash kn k, Value.ref x)).toList = (L.take (SetTable.below t.place (way t.mask (tupleKeyHash kn k) N)) ++ (x, k) :: L.drop (SetTable.below t.place (way t.mask (tupleKeyHash kn k) N))).map (tEnt kn) := by
        rw [SetTable.toList_insertAt, R.rows, List.map_append, List.map_cons, List.map_take, List.map_drop]
        rfl
      generalize SetTable.below t.place (way t.mask (tupleKeyHash kn k) N) = p at hin T2 q2 ⊢
      have pm := put_other L p (x, k)
      have hlen : (L.take p ++ (x, k) :: L.drop p).length = L.length + 1 := pm.length_eq
      have T3 : TabOk t2 ((L.take p ++ (x, k) :: L.drop p).map fun p => tupleKeyHash kn p.2) := by
        rw [List.map_append, List.map_cons, List.map_take, List.map_drop]
        exact T2
      have nd1 : ((L.take p ++ (x, k) :: L.drop p).map (·.2)).Nodup := by
        refine (pm.map (·.2)).nodup_iff.mpr ?_
        rw [List.map_cons]
        exact List.nodup_cons.mpr ⟨hm, R.nd⟩
      have es1 : (SetTable.insertAt es p (tupleKeyHash kn k, Value.ref x)).size = L.length + 1 := by
        have h := congrArg List.length hin
        rw [Array.length_toList, List.length_map, hlen] at h
        exact h
      generalize SetTable.insertAt es p (tupleKeyHash kn k, Value.ref x) = E1 at hin es1 ⊢
      generalize L.take p ++ (x, k) :: L.drop p = L1 at pm hlen T3 nd1 hin
      refine wpAny_bind (wpAny_storeSet_of ho hd ?_ (by rw [es1, sizeLine_eq]; omega))
      have sb : Heap.SameBut a s.heap (s.heap.update a (Obj.putSet E1 t2)) := Heap.SameBut.update ..
      have ho1 := store_at (es' := E1) (t' := t2) ho hd
      generalize s.heap.update a (Obj.putSet E1 t2) = h1 at sb ho1 ⊢
      have tup1 : ∀ p ∈ L1, IsTupleKey kn h1 p.2 p.1 := fun p hp => by
        rcases List.mem_cons.mp (pm.mem_iff.mp hp) with e | hp
        · rw [e]
          exact tk_other hx ho hd sb
        · exact tk_other (R.tup p hp) ho hd sb
      have ld1 : w.params.followText "set-order" = true ∨ t2.led = true := by rw [l2]; exact R.led
      have psz : t2.place.size = E1.size := by
        have h := T3.sz
        rw [List.length_map, hlen] at h
        rw [h, es1]
      by_cases hf : t2.tooFull = true
      · first
          | (refine wpAny_bind ?_; refine wp_if_pos (by simp [hf]) ?_)
          | (refine wp_if_pos (by simp [hf]) ?_; refine wpAny_bind ?_)
        have full : (L.length + 1) * 5 ≥ t2.mask * 3 := by
          have h := hf
          unfold SetTable.tooFull at h
          rw [decide_eq_true_eq, f2] at h
          exact h
        rw [sz]
        have two : (t2.mask = 7 ∧ L.length = 4) ∨ (t2.mask = 31 ∧ L.length = 18) := by
          rw [m2] at full ⊢
          rcases R.tab.mok with e | e | e
          · left; rw [e] at full room; exact ⟨e, by omega⟩
          · right; rw [e] at full room; exact ⟨e, by omega⟩
          · exfalso; rw [e] at full; omega
        have go : ∀ M, SetTable.sizeAbove (SetTable.grown (L.length + 1)) - 1 = M → MaskOk M → SetTable.sizeAbove (SetTable.grown (L.length + 1)) ≤ 128 → (L.length + 1) * 5 < M * 3 →
            wpAny (model P w) A (setRelay a (SetTable.grown (L.length + 1))) (fun _ s' => wpAny (model P w) A (pure true) Q E s') E { s with heap := h1 } := fun M c1 c2 c3 c4 => by
          refine tset_relay (s := { s with heap := h1 }) ho1 ⟨hex.1, hex.2.1, hex.2.2⟩ rfl hin psz T3.dm (by rw [es1]; rcases two with ⟨e, e2⟩ | ⟨e, e2⟩ <;> omega) nd1 tup1 ld1 (by rw [hlen]; exact hfew) c1 c2 c3 (by rw [hlen]; exact c4) ?_
          intro h2 L2 es2 ep2 t3 sb2 R2 pm2
          exact wpAny_pure (q true h2 L2 es2 ep2 t3 (sb.trans sb2) R2 ⟨fun z => absurd z hm, fun _ => pm2.trans pm⟩)
        rcases two with ⟨_, e2⟩ | ⟨_, e2⟩
        · exact go 31 (by rw [e2, size_20]) (.inr (.inl rfl)) (by rw [e2, size_20]; decide) (by omega)
        · exact go 127 (by rw [e2, size_76]) (.inr (.inr rfl)) (by rw [e2, size_76]; decide) (by omega)
      · first
          | refine wp_if_neg (by simp [hf]) ?_
          | (refine wpAny_bind ?_; refine wp_if_neg (by simp [hf]) ?_; refine wpAny_pure ?_)
        refine wpAny_pure (q true h1 L1 E1 (ep + 1) t2 sb ⟨⟨_, ho1, ⟨hex.1, hex.2.1, hex.2.2⟩, rfl⟩, hin, T3, nd1, tup1, ld1, ?_, by rw [hlen]; exact hfew⟩ ⟨fun z => absurd z hm, fun _ => pm⟩)
        have h := hf
        unfold SetTable.tooFull at h
        rw [decide_eq_true_eq, f2] at h
        rw [hlen]
        omega
    rw [List.length_map] at q9
    by_cases hp1 : t1.plain = true
    · first
        | (refine wpAny_bind ?_; refine wp_if_pos hp1 ?_; refine tt_hash hx fun r => ?_)
        | refine wp_if_pos hp1 (wpAny_bind (tt_hash hx fun r => ?_))
      cases r
      · simp only [Bool.false_eq_true, if_false]
        exact fin _ ⟨q3.ris, q3.dm, q3.sz, q3.mok, q3.bd, q3.reach⟩ q4 q5 q9
      · simp only [if_true]
        exact fin _ q3 q4 q5 q9
    · first
        | (refine wpAny_bind ?_; refine wp_if_neg hp1 ?_; refine wpAny_pure ?_)
        | refine wp_if_neg hp1 (wpAny_bind (wpAny_pure ?_))
        | refine wp_if_neg hp1 ?_
      simp only [if_true]
      exact fin _ q3 q4 q5 q9
/-- what the set has from the first i tuples -/
structure TGot (ks : List (Addr × List κ)) (i : Nat) (L : List (Addr × List κ)) : Prop where
  sub : ∀ p ∈ L, p ∈ ks.take i
  all : ∀ p ∈ ks.take i, p.2 ∈ L.map (·.2)
  len : L.length ≤ i
theorem TGot.step {ks L L' : List (Addr × List κ)} {i : Nat} {x : Addr × List κ} (g : TGot ks i L) (h : ks[i]? = some x) (m : OneMore L x.1 x.2 L') : TGot ks (i + 1) L' := by
  have e : ks.take (i + 1) = ks.take i ++ [x] := by
    rw [List.take_add_one, h]
    rfl
  by_cases c : x.2 ∈ L.map (·.2)
  · rw [m.1 c]
    refine ⟨fun p hp => ?_, fun p hp => ?_, Nat.le_succ_of_le g.len⟩
    · rw [e]
      exact List.mem_append_left _ (g.sub p hp)
    · rw [e] at hp
      rcases List.mem_append.mp hp with z | z
      · exact g.all p z
      · rw [List.mem_singleton.mp z]
        exact c
  · have pm := m.2 c
    refine ⟨fun p hp => ?_, fun p hp => ?_, ?_⟩
    · rw [e]
      rcases List.mem_cons.mp (pm.mem_iff.mp hp) with z | z
      · rw [z]
        exact List.mem_append_right _ (List.mem_singleton.mpr rfl)
      · exact List.mem_append_left _ (g.sub p z)
    · rw [(pm.map (·.2)).mem_iff, List.map_cons]
      rw [e] at hp
      rcases List.mem_append.mp hp with z | z
      · exact List.mem_cons_of_mem _ (g.all p z)
      · rw [List.mem_singleton.mp z]
        exact List.mem_cons_self
    · rw [pm.length_eq, List.length_cons]
      exact Nat.succ_le_succ g.len
set_option maxHeartbeats 8000000 in
/-- the loop of set.update -/
theorem tset_loop {I : Addr} {fp wr : List Addr} {G : Array GenState → Array GenState → Prop} {n : Nat} {Pv : Nat → Value → Prop} {St : Nat → Shared → Prop} {R : Result → Shared → Prop}
    (W : WalksS P w A.in1 I fp wr G n Pv St) (S : Addr) (hSf : S ∉ fp) (ks : List (Addr × List κ)) (hn : n = ks.length) (few : ks.length < 64) (val : ∀ i v, Pv i v → ∃ p, ks[i]? = some p ∧ v = .ref p.1)
    (h0 : Heap) (tup : ∀ p ∈ ks, IsTupleKey kn h0 p.2 p.1) (hS0 : h0.get? S = none) (hw0 : ∀ b ∈ wr, h0.get? b = none) (hu : A.in1.units < cLine) :
    ∀ (j i : Nat) (s : Shared), n - i = j → i ≤ n → St i s → (∀ b o, h0.get? b = some o → s.heap.get? b = some o) → (∃ L es ep t, TSet kn s.heap S L es ep t ∧ TGot ks i L) →
      (∀ s' L es ep t, Moved (S :: wr) G s s' → TSet kn s'.heap S L es ep t → TGot ks n L → (∀ b o, h0.get? b = some o → s'.heap.get? b = some o) → R (.ok (.ret .none)) s') →
      codeAny (model P w) A (.builtin "set.update.loop" ⟨[.ref S, .ref I], []⟩) R s := by
  have hSw : S ∉ wr := fun h => hSf (W.sub _ h)
  have up : ∀ b ∈ wr, b ∈ S :: wr := fun b hb => List.mem_cons_of_mem _ hb
  have keep : ∀ {s s' : Shared}, Moved wr G s s' → (∀ b o, h0.get? b = some o → s.heap.get? b = some o) → ∀ b o, h0.get? b = some o → s'.heap.get? b = some o := fun hm hk b o e =>
    hm.heap b o (fun hb => by rw [hw0 b hb] at e; cases e) (hk b o e)
  intro j
  induction j with
  | zero =>
    intro i s hj hi hst hk ⟨L, es, ep, t, hS, g⟩ done
    have e : i = n := by omega
    subst e
    refine codeAny_builtin F.entry_set_update_loop ?_
    rw [Around.under_plainId F.plain_set_update_loop _]
    show wpAny _ A.in1 (pyNext (.ref I) >>= _) _ _ s
    refine wpAny_bind (W.done s _ _ hst fun s' hm => ?_)
    show wpAny _ A.in1 (ret Value.none) _ _ s'
    have hk' := keep hm hk
    exact wpAny_pure (done s' L es ep t (hm.mono up) (hS.at (fun o e => hm.heap S o hSw e) fun p hp => tk_keep (tup p (List.mem_of_mem_take (g.sub p hp))) hk') g hk')
  | succ j ih =>
    intro i s hj hi hst hk ⟨L, es, ep, t, hS, g⟩ done
    have lt : i < n := by omega
    refine codeAny_builtin F.entry_set_update_loop ?_
    rw [Around.under_plainId F.plain_set_update_loop _]
    show wpAny _ A.in1 (pyNext (.ref I) >>= _) _ _ s
    refine wpAny_bind (W.item i s _ _ lt hst fun v s' hv hst' hm => ?_)
    obtain ⟨p, hp, rfl⟩ := val i v hv
    have hk' := keep hm hk
    have hS' : TSet kn s'.heap S L es ep t := hS.at (fun o e => hm.heap S o hSw e) fun q hq => tk_keep (tup q (List.mem_of_mem_take (g.sub q hq))) hk'
    have hx : IsTupleKey kn s'.heap p.2 p.1 := tk_keep (tup p (List.mem_of_getElem? hp)) hk'
    show wpAny _ A.in1 (holding [Value.ref p.1] (setAdd S (.ref p.1)) >>= _) _ _ s'
    refine wpAny_bind (wpAny_holding ?_)
    unfold setAdd
    refine wpAny_holding ?_
    refine wpAny_bind (wpAny_pyHash_tuple hu hx ?_)
    refine tset_add (s := { s' with toks := s'.toks + (p.2.length + 1) }) hS' hx hu (by have := g.len; omega) fun b h' L' es' ep' t' sb hS2 m => ?_
    have hk2 : ∀ b o, h0.get? b = some o → h'.get? b = some o := fun b o e => (sb.2 b (fun z => by rw [z, hS0] at e; cases e)).trans (hk' b o e)
    refine wpAny_pure ⟨plainId_quiet F.plain_set_update_loop _, ih (i + 1) _ (by omega) lt (W.frame _ s' _ _ hst' (Nat.le_add_right _ _) fun b hb o e => ?_) hk2 ⟨L', es', ep', t', hS2, g.step hp m⟩ fun s'' L2 es2 ep2 t2 hm2 hS3 g3 hk3 => ?_⟩
    · rw [sb.2 b (fun h : b = S => hSf (by rw [← h]; exact hb))]
      exact e
    · refine done s'' L2 es2 ep2 t2 (Moved.trans W.gtrans ((hm.mono up).then_heap (Nat.le_add_right _ _) fun b o hb e => ?_) hm2) hS3 g3 hk3
      rw [sb.2 b (fun h : b = S => hb (by rw [h]; exact List.mem_cons_self))]
      exact e
end

/-! ### set(xs), a tuple of tuples or of ints, and how many are in it -/
/-- each once -/
def dd {α : Type} [DecidableEq α] : List α → List α
  | [] => []
  | x :: xs => if x ∈ dd xs then dd xs else x :: dd xs
section
variable {α : Type} [DecidableEq α]
theorem dd_mem : ∀ {xs : List α} {x : α}, x ∈ dd xs ↔ x ∈ xs
  | [], x => Iff.rfl
  | y :: ys, x => by
    unfold dd
    by_cases h : y ∈ dd ys
    · rw [if_pos h, List.mem_cons, dd_mem]
      constructor
      · exact .inr
      · rintro (rfl | q)
        · exact dd_mem.mp h
        · exact q
    · rw [if_neg h, List.mem_cons, List.mem_cons, dd_mem]
theorem dd_nodup : ∀ xs : List α, (dd xs).Nodup
  | [] => List.nodup_nil
  | y :: ys => by
    unfold dd
    by_cases h : y ∈ dd ys
    · rw [if_pos h]
      exact dd_nodup ys
    · rw [if_neg h]
      exact List.nodup_cons.mpr ⟨h, dd_nodup ys⟩
theorem dd_le : ∀ xs : List α, (dd xs).length ≤ xs.length
  | [] => Nat.le_refl _
  | y :: ys => by
    unfold dd
    have q := dd_le ys
    by_cases h : y ∈ dd ys
    · rw [if_pos h, List.length_cons]
      omega
    · rw [if_neg h, List.length_cons, List.length_cons]
      omega
theorem dd_len : ∀ {xs : List α}, (dd xs).length = xs.length ↔ xs.Nodup
  | [] => by simp [dd]
  | y :: ys => by
    unfold dd
    have q := dd_le ys
    by_cases h : y ∈ dd ys
    · rw [if_pos h, List.length_cons, List.nodup_cons]
      exact ⟨fun e => by omega, fun e => absurd (dd_mem.mp h) e.1⟩
    · rw [if_neg h, List.length_cons, List.length_cons, List.nodup_cons, ← dd_len (xs := ys)]
      exact ⟨fun e => ⟨fun m => h (dd_mem.mpr m), by omega⟩, fun e => by omega⟩
theorem same_len {xs ys : List α} (h1 : xs.Nodup) (h2 : ys.Nodup) (h : ∀ k, k ∈ xs ↔ k ∈ ys) : xs.length = ys.length :=
  ((List.perm_ext_iff_of_nodup h1 h2).mpr h).length_eq
end
/-- a set of n things stands at a -/
def SetC (a : Addr) (n : Nat) : HO := .ext fun h => ∃ o es ep t, h.get? a = some o ∧ o.ExactSet ∧ o.data = .set es ep t ∧ t.fits es.size = true ∧ es.size = n ∧ n < 100000
theorem setC_new {P : Program} {w : World} {H : Hp} {h : Heap} {a : Addr} {n : Nat} (R : ∃ o es ep t, h.get? a = some o ∧ o.ExactSet ∧ o.data = .set es ep t ∧ t.fits es.size = true ∧ es.size = n ∧ n < 100000) : ObjOk P w H h a (SetC a n) := by
  have ⟨o, _, _, _, ho, _⟩ := R
  refine ⟨R, ⟨o, ho⟩, fun h1 h2 p k => ?_⟩
  obtain ⟨o', es, ep, t, e, r⟩ := p
  exact ⟨o', es, ep, t, k o' e, r⟩
/-- a flat value as a key -/
def lfV : V → Leaf
  | .int i => .num i
  | .bl b => .num (if b = true then 1 else 0)
  | .str x => .text x
  | _ => .none
section
open PySem.Spec PyProof.Rows
variable {P : Program} {w : World} {A : Around} {E : Value → Shared → Prop} {s : Shared}
set_option maxHeartbeats 8000000 in
theorem tset_made {κ : Type} [DecidableEq κ] {kn : KeyKind P w κ} {l : Addr} {vs : Array Value} {ks : List (Addr × List κ)} {Q : Value → Shared → Prop} (hc : A.handled = none) (hu : A.units + 3 < cLine) (hl : s.heap.IsTuple l vs)
    (hv : vs.toList = ks.map fun p => Value.ref p.1) (tup : ∀ p ∈ ks, IsTupleKey kn s.heap p.2 p.1) (few : ks.length < 64)
    (q : ∀ h tk L es ep t, TSet kn h s.heap.objs.size L es ep t → TGot ks ks.length L → (∀ b o, s.heap.get? b = some o → h.get? b = some o) → Q (.ref s.heap.objs.size) { s with heap := h, toks := tk }) : wpAny (model P w) A (call (.type "set") [.ref l]) Q E s := by
  have size : vs.size = ks.length := by simpa using congrArg List.length hv
  have atS : (s.heap.push (oSet w)).get? s.heap.objs.size = some (oSet w) := Heap.get?_push_size _ rfl
  have tyS : Shared.TypeIs { s with heap := s.heap.push (oSet w) } (.ref s.heap.objs.size) "set" := ⟨_, atS, rfl⟩
  have e1 := F.called_set.made
  have e2 := F.called_set.sub
  have e3 := F.called_set.notType
  have e4 := F.called_set.canCreate
  have e5 := F.typeCall_set_1 (.ref l)
  have e6 := F.called_set.init.lookup
  have e7 := F.called_set.init.bind (.ref s.heap.objs.size)
  obtain ⟨cc, tl, e0⟩ := F.called_set.mro
  apply wpAny_call
  apply codeAny_of_tree
  show wpAny _ _ (callAny (.type "set") _) _ _ _
  apply wpAny_pure
  refine ⟨Code.quiet_builtin _ (by decide +kernel), ?_⟩
  apply codeAny_builtin F.entry_type_call
  rw [Around.under_plain (weight_type_call_type "set" [.ref l] []) rfl]
  repeat any_goals first | wp_step | assumption
  refine codeAny_mono (code_set_led1 (E := E) (.ref l) (Q₁ := fun v z => v = .ref s.heap.objs.size ∧ z = { s with heap := s.heap.push (oSet w) }) ⟨rfl, rfl⟩) ?_
  rintro (e | f) z hz
  · exact hz
  · cases f
    case ret v =>
      obtain ⟨rfl, rfl⟩ := hz
      repeat any_goals first | wp_step | assumption
      refine codeAny_mono (codeAny_call_builtin F.called_set.init.plain F.entry_set_init (check_set_init_1 tyS ?go)
        (R := wants (fun r z => r = .none ∧ ∃ h tk L es ep t, z = { s with heap := h, toks := tk } ∧ TSet kn h s.heap.objs.size L es ep t ∧ TGot ks ks.length L ∧ ∀ b o, s.heap.get? b = some o → h.get? b = some o) E)) ?_
      case go =>
        obtain ⟨⟨c0, d0, t0, s0⟩, at0, cl0, n0, da0⟩ := hl
        dsimp only at cl0 da0
        subst cl0 da0
        have atL : (s.heap.push (oSet w)).get? l = some ⟨.type "tuple", d0, .seq vs n0, s0⟩ := Heap.get?_push_of_some _ at0
        have isL : (s.heap.push (oSet w)).IsTuple l vs := ⟨_, atL, rfl, n0, rfl⟩
        have f1 := F.sub_tuple_set
        have f2 := F.sub_tuple_frozenset
        have f3 : (Value.type "tuple" == Value.type "dict") = false := by decide
        unfold Builtin.«set.__init__» noKeywords Builtin.Frozenset.updateFrom
        generalize hw : pyIter = it0
        wp_walk
        subst hw
        apply wpAny_pyIter_tuple isL
        apply wpAny_bind
        apply wpAny_runValue
        have small : l < s.heap.objs.size := Heap.lt_size at0
        have big : (s.heap.push (oSet w)).objs.size = s.heap.objs.size + 1 := Heap.size_push ..
        have calm : A.in1.in1.in1.handled = none := by simpa using hc
        have n1 : l ≠ (s.heap.push (oSet w)).objs.size := by
          rw [big]
          exact Nat.ne_of_lt (Nat.lt_succ_of_lt small)
        have n2 : s.heap.objs.size ≠ (s.heap.push (oSet w)).objs.size := by
          rw [big]
          exact Nat.ne_of_lt (Nat.lt_succ_self _)
        have nothing : ∀ b, s.heap.objs.size ≤ b → s.heap.get? b = none := fun b hb => by
          cases q : s.heap.get? b with
          | none => rfl
          | some o => exact absurd (Nat.lt_of_lt_of_le (Heap.lt_size q) hb) (Nat.lt_irrefl _)
        refine tset_loop (Walks.tuple calm _ l n1 vs).toS s.heap.objs.size (fun hm => ?f1) ks size few (fun i v ev => ?f2) s.heap tup (nothing _ (Nat.le_refl _)) (fun b hb => nothing b ?f4) (by show A.units + 3 < cLine; omega) (vs.size - 0) 0 _ rfl (Nat.zero_le _)
          ⟨⟨_, Heap.get?_push_size _ rfl, rfl, rfl⟩, isL.push _⟩ (fun b o e => Heap.get?_push_of_some _ (Heap.get?_push_of_some _ e)) ?f5 ?f3
        case f1 =>
          rcases List.mem_cons.mp hm with e | hm
          · exact n2 e
          · exact Nat.ne_of_gt small (List.mem_singleton.mp hm)
        case f2 =>
          have q : vs.toList[i]? = some v := by rw [Array.getElem?_toList]; exact ev
          rw [hv, List.getElem?_map] at q
          cases hq : ks[i]? with
          | none =>
            rw [hq] at q
            cases q
          | some p =>
            rw [hq] at q
            exact ⟨p, rfl, (Option.some.inj q).symm⟩
        case f4 =>
          rw [List.mem_singleton.mp hb, big]
          exact Nat.le_succ _
        case f5 =>
          have at1 := Heap.get?_push_of_some (⟨.type "tuple_iterator", none, .fields #[.ref l, .int 0 0], #[]⟩ : Obj) atS
          refine ⟨[], #[], 0, _, ⟨⟨_, at1, ⟨rfl, rfl, rfl⟩, rfl⟩, rfl, ⟨List.Pairwise.nil, rfl, rfl, .inl rfl, fun x hx => (by cases hx), fun i h j hi => (by simp at hi)⟩, List.nodup_nil, fun p hp => (by cases hp), ?_, ?_, ?_⟩, ⟨fun p h => (by cases h), fun p h => (by simp at h), Nat.le_refl _⟩⟩
          · show _ ∨ (!w.params.followText "set-order") = true
            cases w.params.followText "set-order"
            · exact .inr rfl
            · exact .inl rfl
          · show 0 * 5 < 7 * 3
            decide
          · show 0 < 64
            decide
        case f3 =>
          rintro ⟨h, g, d, tk, os⟩ L es ep t moved hS hG hk
          obtain rfl : g = s.gens := moved.gens
          obtain rfl : d = s.drawn := moved.drawn
          obtain rfl : os = s.os := moved.os
          apply wpAny_pure
          show wpAny _ _ (ret Value.none) _ _ _
          apply wpAny_pure
          exact ⟨rfl, h, tk, L, es, ep, t, rfl, hS, by rw [← size]; exact hG, hk⟩
      rintro (e | f) z hz
      · exact hz
      · cases f
        case ret v =>
          obtain ⟨rfl, h, tk, L, es, ep, t, rfl, hS, hG, hk⟩ := hz
          repeat any_goals first | wp_step | assumption
          exact q h tk L es ep t hS hG hk
        all_goals exact hz.elim
    all_goals exact hz.elim
theorem lf_is {x : V} {u : Value} (f : flatV x = true) (r : RelV x u) : Leaf.isOf (lfV x) u = true := by
  cases x with
  | non =>
    obtain rfl : u = Value.none := r
    rfl
  | bl b =>
    obtain rfl : u = Value.bool b := r
    exact decide_eq_true rfl
  | int i =>
    obtain ⟨t, rfl⟩ := r
    exact decide_eq_true rfl
  | str z =>
    obtain ⟨t, rfl⟩ := r
    simp [lfV, Leaf.isOf, Value.isStrOf]
  | _ => cases f
theorem lf_all {P : Program} {w : World} : ∀ {xs : List V} {us : List Value}, xs.all flatV = true → Vals xs us → ItemsAre (leafKind P w) (xs.map lfV) us
  | [], _, _, .nil => .nil
  | x :: xs, _, f, .cons r t => by
    rw [List.all_cons, Bool.and_eq_true] at f
    exact .cons (lf_is f.1 r) (lf_all f.2 t)
theorem ref_vals : ∀ {ks : List (Addr × List V)} {us : List Value}, Vals (ks.map fun p => V.ref p.1) us → us = ks.map fun p => Value.ref p.1
  | [], _, .nil => rfl
  | p :: ks, _, .cons r t => by
    cases r
    rw [ref_vals t]
    rfl
end
section
variable {X : Cx}
/-- set(xs), xs a tuple of tuples of flat things -/
def rSetTT (K : PySem.W.Frag) : List V → Hp → VK → Prop := fun vs H Q => ∃ (l : Addr) (ks : List (Addr × List V)), vs = [.ref l] ∧ SqT K H l (ks.map fun p => V.ref p.1) ∧ (∀ p ∈ ks, SqT K H p.1 p.2 ∧ p.2.all flatV = true) ∧ ks.length < 64 ∧
  ∀ p, H p = none → Q (.ref p) (upd H p (SetC p (dd (ks.map fun p => p.2.map lfV)).length))
theorem cg_setTT {k : Nat} (hr : Room k X.A) (hc : X.calm = true) : CallR X (.type "set") (rSetTT X.K) := by
  rintro pins s σ H vs us Q I r ⟨l, ks, rfl, hS, hk, few, q⟩
  obtain ⟨its, rv, pl, hz⟩ := I.tuple hS
  have e1 := Vals.ref1 r
  subst e1
  have hu := hr.un
  let ks2 : List (Addr × List Leaf) := ks.map fun p => (p.1, p.2.map lfV)
  have hv : its.toArray.toList = ks2.map fun p => Value.ref p.1 := by
    rw [List.map_map]
    show its = _
    rw [ref_vals rv]
    rfl
  refine tset_made (kn := leafKind X.prog X.w) (ks := ks2) (I.ok.hd hc) (by omega) pl hv (fun p hp => ?_) (by rw [List.length_map]; exact few) ?_
  · obtain ⟨z, hz, rfl⟩ := List.mem_map.mp hp
    obtain ⟨its', rv', ⟨o, ho, hc', n, hd⟩, _⟩ := I.tuple (hk z hz).1
    exact ⟨o, its'.toArray, n, ho, hc', hd, by simpa using lf_all (hk z hz).2 rv'⟩
  · intro h tk L es ep t hT hG keep
    have free : H s.heap.objs.size = none := I.hok.fresh (Nat.le_refl _)
    have cnt : es.size = (dd (ks.map fun p => p.2.map lfV)).length := by
      rw [hT.size, ← List.length_map (f := fun p : Addr × List Leaf => p.2)]
      refine same_len hT.nd (dd_nodup _) fun k => ?_
      rw [dd_mem]
      have tk2 : ks2.take ks2.length = ks2 := List.take_length
      constructor
      · intro h
        obtain ⟨p, hp, rfl⟩ := List.mem_map.mp h
        have hp2 := hG.sub p hp
        rw [tk2] at hp2
        obtain ⟨z, hz, rfl⟩ := List.mem_map.mp hp2
        exact List.mem_map.mpr ⟨z, hz, rfl⟩
      · intro h
        obtain ⟨z, hz, rfl⟩ := List.mem_map.mp h
        exact hG.all (z.1, z.2.map lfV) (by rw [tk2]; exact List.mem_map.mpr ⟨z, hz, rfl⟩)
    have few2 : es.size < 100000 := by
      have := hT.few
      have := hT.size
      omega
    obtain ⟨o, ho, hex, hd⟩ := hT.ob
    exact ⟨.ref _, _, I.laid (t' := tk) keep (Nat.le_refl _) (setC_new ⟨o, es, ep, t, ho, hex, hd, hT.fits, cnt, by rw [← cnt]; exact few2⟩), rfl, q _ free⟩
/-- how many a set of ints holds -/
theorem setR_count {w : World} {h : Heap} {a : Addr} {ns : List Int} {c : Nat} (R : SetR w h a (fun j => decide (j ∈ ns)) c) : ∃ o es ep t, h.get? a = some o ∧ o.ExactSet ∧ o.data = .set es ep t ∧ t.fits es.size = true ∧ es.size = (dd ns).length ∧ (dd ns).length < 100000 := by
  obtain ⟨o, es, ep, t, ho, hex, hd, _, nd, mem, lt, hf, hn, _⟩ := R
  have e : es.size = (dd ns).length := by
    have e1 : es.size = (es.toList.map keyOf).length := by simp
    rw [e1]
    refine same_len nd (dd_nodup _) fun k => ?_
    rw [dd_mem, ← mem k, decide_eq_true_eq]
  have lt2 : es.size < 4096 := lt
  exact ⟨o, es, ep, t, ho, hex, hd, hf, e, by omega⟩
/-- set(xs) of a list of ints, counted -/
def rSetLn (K : PySem.W.Frag) : List V → Hp → VK → Prop := fun vs H Q => ∃ (l : Addr) (ns : List Int), vs = [.ref l] ∧ SqL K H l (ns.map V.int) ∧ ns.length ≤ 4000 ∧ ∀ p, H p = none → Q (.ref p) (upd H p (SetC p (dd ns).length))
theorem cg_setLn (hc : X.calm = true) : CallR X (.type "set") (rSetLn X.K) := by
  rintro pins s σ H vs us Q I r ⟨l, ns, rfl, hS, hn, q⟩
  obtain ⟨its, rv, pl, hz⟩ := I.list hS
  have e1 := Vals.ref1 r
  subst e1
  have hv : PyProof.Rows.IntsAre its.toArray.toList ns := by simpa using rv.ints
  refine set_made (I.ok.hd hc) pl.isList hv hn ?_
  rintro h tk ⟨c, hR, hcn, keep⟩
  have free : H s.heap.objs.size = none := I.hok.fresh (Nat.le_refl _)
  exact ⟨.ref _, _, I.laid (t' := tk) keep (Nat.le_refl _) (setC_new (setR_count hR)), rfl, q _ free⟩
/-- set(xs) of a tuple of ints, counted -/
def rSetTn (K : PySem.W.Frag) : List V → Hp → VK → Prop := fun vs H Q => ∃ (l : Addr) (ns : List Int), vs = [.ref l] ∧ SqT K H l (ns.map V.int) ∧ ns.length ≤ 4000 ∧ ∀ p, H p = none → Q (.ref p) (upd H p (SetC p (dd ns).length))
theorem cg_setTn (hc : X.calm = true) : CallR X (.type "set") (rSetTn X.K) := by
  rintro pins s σ H vs us Q I r ⟨l, ns, rfl, hS, hn, q⟩
  obtain ⟨its, rv, pl, hz⟩ := I.tuple hS
  have e1 := Vals.ref1 r
  subst e1
  have hv : PyProof.Rows.IntsAre its.toArray.toList ns := by simpa using rv.ints
  refine call_set_tupI ns (I.ok.hd hc) pl hv (by unfold scanBound; omega) ?_
  intro h tk c hR hcn keep
  have free : H s.heap.objs.size = none := I.hok.fresh (Nat.le_refl _)
  exact ⟨.ref _, _, I.laid (t' := tk) keep (Nat.le_refl _) (setC_new (setR_count hR)), rfl, q _ free⟩
/-- len of such a set -/
def rLenN : List V → Hp → VK → Prop := fun vs H Q => ∃ (p : Addr) (n : Nat), vs = [.ref p] ∧ H p = some (SetC p n) ∧ Q (.int (n : Nat)) H
theorem cg_lenN : CallR X (.builtin "len") rLenN := by
  rintro pins s σ H vs us Q I r ⟨p, n, rfl, hp, q⟩
  have e1 := Vals.ref1 r
  subst e1
  obtain ⟨o, es, ep, t, ho, hex, hd, hf, hn, hl⟩ := (I.hok p _ hp).1
  exact call_len_set ho hex hd hf (by rw [hn]; omega) ⟨.int n, H, I.tok _, ⟨_, by rw [hn]⟩, q⟩
end
section
variable {K : PySem.W.Frag} {H : Hp} {Q : VK} {l p : Addr} {ns : List Int} {n : Nat}
theorem r_setLn (h : H l = some (.lst (ns.map V.int))) (hn : ns.length ≤ 4000) (q : ∀ p H2, H p = none → H2 p = some (SetC p (dd ns).length) → Kp [] H H2 → Q (.ref p) H2) : rSetLn K [.ref l] H Q :=
  ⟨l, ns, rfl, SqL.of h, hn, fun p hp => q p _ hp upd_same (Kp.new hp)⟩
theorem r_setTn (h : SqT K H l (ns.map V.int)) (hn : ns.length ≤ 4000) (q : ∀ p H2, H p = none → H2 p = some (SetC p (dd ns).length) → Kp [] H H2 → Q (.ref p) H2) : rSetTn K [.ref l] H Q :=
  ⟨l, ns, rfl, h, hn, fun p hp => q p _ hp upd_same (Kp.new hp)⟩
theorem r_setTT {ks : List (Addr × List V)} (h : SqT K H l (ks.map fun p => V.ref p.1)) (h2 : ∀ p ∈ ks, SqT K H p.1 p.2 ∧ p.2.all flatV = true) (hn : ks.length < 64)
    (q : ∀ p H2, H p = none → H2 p = some (SetC p (dd (ks.map fun p => p.2.map lfV)).length) → Kp [] H H2 → Q (.ref p) H2) : rSetTT K [.ref l] H Q :=
  ⟨l, ks, rfl, h, h2, hn, fun p hp => q p _ hp upd_same (Kp.new hp)⟩
theorem r_lenN (h : H p = some (SetC p n)) (q : Q (.int (n : Nat)) H) : rLenN [.ref p] H Q := ⟨p, n, rfl, h, q⟩
end

/-! ### the tape and the draw -/
/-- a tape at t over the numbers at c -/
structure Tp (t c : Addr) (H : Hp) : Prop where
  ex : ∃ (ns : List Int) (k z : Int), H t = some (.lst [.ref c, .int k, .int z]) ∧ H c = some (.lst (ns.map V.int)) ∧ 0 ≤ k ∧ 0 ≤ z
theorem Tp.ne {t c : Addr} {H : Hp} (h : Tp t c H) : t ≠ c := by
  obtain ⟨ns, k, z, h1, h2, _⟩ := h.ex
  refine ne_of h1 h2 fun e => ?_
  cases ns with
  | nil => simp at e
  | cons n ns => simp at e
theorem Tp.mut {t c : Addr} {H : Hp} (h : Tp t c H) : Mut (H t) := by
  obtain ⟨ns, k, z, h1, h2, _⟩ := h.ex
  rw [h1]
  trivial
theorem Tp.it {t c : Addr} {H : Hp} (h : Tp t c H) : ∃ o, H t = some o := by
  obtain ⟨ns, k, z, h1, h2, _⟩ := h.ex
  exact ⟨_, h1⟩
theorem Tp.itc {t c : Addr} {H : Hp} (h : Tp t c H) : ∃ o, H c = some o := by
  obtain ⟨ns, k, z, h1, h2, _⟩ := h.ex
  exact ⟨_, h2⟩
theorem Tp.kp {t c : Addr} {S : List Addr} {H H' : Hp} (k : Kp S H H') (h : Tp t c H) (n1 : ¬ t ∈ S) (n2 : ¬ c ∈ S) : Tp t c H' := by
  obtain ⟨ns, j, z, h1, h2, h3⟩ := h.ex
  exact ⟨ns, j, z, k.get n1 h1, k.get n2 h2, h3⟩
theorem Tp.kp0 {t c : Addr} {H H' : Hp} (k : Kp [] H H') (h : Tp t c H) : Tp t c H' := h.kp k (fun z => nomatch z) (fun z => nomatch z)
/-- no draw is asked for more -/
def bigB : Int := 2 ^ 240
theorem bigB_ok {z m : Int} (h1 : 1 ≤ m) (h2 : m < bigB) : CDivW z m := by
  unfold bigB at h2
  exact wide_div (b := 240) (by omega) (by omega) (by decide) (by decide)
def spDraw : Sp := fun vs H Q _ => ∃ (t c : Addr) (m : Int), vs = [.ref t, .int m] ∧ Tp t c H ∧ 1 ≤ m ∧ m < bigB ∧ ∀ (d : Int) (H' : Hp), 0 ≤ d → d < m → Tp t c H' → Kp [t] H H' → Q (.int d) H'
theorem spDraw_i {t c : Addr} {m : Int} {H : Hp} {Q : VK} {E : XK} (h : Tp t c H) (h1 : 1 ≤ m) (h2 : m < bigB) (k : ∀ (d : Int) (H' : Hp), 0 ≤ d → d < m → Tp t c H' → Kp [t] H H' → Q (.int d) H') : spDraw [.ref t, .int m] H Q E :=
  ⟨t, c, m, rfl, h, h1, h2, k⟩
def spTape (K : PySem.W.Frag) : Sp := fun vs H Q _ => ∃ (a : Addr) (ns : List Int), vs = [.ref a] ∧ SqL K H a (ns.map V.int) ∧ ∀ (t c : Addr) (H' : Hp), H t = none → H c = none → Tp t c H' → Kp [] H H' → Q (.ref t) H'
theorem Tp.kp1 {t c p : Addr} {H H' : Hp} (k : Kp [p] H H') (h : Tp t c H) (n1 : t ≠ p) (n2 : c ≠ p) : Tp t c H' := h.kp k (fun z => n1 (by simpa using z)) (fun z => n2 (by simpa using z))
local macro_rules | `(tactic| walk_at "cg h") => `(tactic| (first
  | ((with_reducible show Tp _ _ _); exact Tp.kp0 (by assumption) (by walk_at "cg h"))
  | fail))
local macro_rules | `(tactic| walk_at "cg h") => `(tactic| (first
  | ((with_reducible show Tp _ _ _); exact Tp.kp1 (by assumption) (by walk_at "cg h") (by walk_at "cg ne") (by walk_at "cg ne"))
  | fail))
local macro_rules | `(tactic| walk_at "cg h") => `(tactic| assumption)
theorem Tp.nef {t c p : Addr} {H : Hp} (hp : H p = none) (h : Tp t c H) : p ≠ t := by
  obtain ⟨o, e⟩ := h.it
  exact (ne_of_none e hp).symm
theorem Tp.nefc {t c p : Addr} {H : Hp} (hp : H p = none) (h : Tp t c H) : p ≠ c := by
  obtain ⟨o, e⟩ := h.itc
  exact (ne_of_none e hp).symm
local macro_rules | `(tactic| walk_at "cg ne") => `(tactic| (first
  | exact Tp.nef (by assumption) (by walk_at "cg h") | exact (Tp.nef (by assumption) (by walk_at "cg h")).symm | exact Tp.nefc (by assumption) (by walk_at "cg h") | exact (Tp.nefc (by assumption) (by walk_at "cg h")).symm
  | fail))
theorem Tp.base {t c : Addr} {H : Hp} (T : Tp t c H) : Kp [t] H H := .base fun b hb => by
  rw [List.mem_singleton] at hb
  subst hb
  exact T.mut
local macro_rules | `(tactic| walk_at "cg kp") => `(tactic| (first
  | ((with_reducible show Kp [_] _ _); exact Tp.base (by assumption))
  | fail))
theorem Tp.free {t c p : Addr} {H0 H1 : Hp} (hp : H1 p = none) (k : Kp [t] H0 H1) (T : Tp t c H1) : H0 p = none := k.free hp fun b hb => by
  rw [List.mem_singleton] at hb
  subst hb
  exact T.it
local macro_rules | `(tactic| walk_at "cg fr") => `(tactic| (first
  | assumption
  | exact Tp.free (by assumption) (by walk_at "cg kp") (by walk_at "cg h")
  | fail))
local macro_rules | `(tactic| walk_at "cg dr") => `(tactic| ((with_reducible refine spDraw_i (c := ?c) ?h ?h1 ?h2 ?_); (case h => walk_at "cg h"); (case h1 => first | omega | decide); (case h2 => first | (with_reducible assumption) | decide)))
local macro_rules | `(tactic| walk_at "cg s") => `(tactic| (walk_at "cg dr"; intro _ _ _ _ _ _))

/-! ### relations and literals -/
inductive Rel where
  | le | ge | eq | ne
  deriving DecidableEq
def Rel.s : Rel → Str
  | .le => "<="
  | .ge => ">="
  | .eq => "="
  | .ne => "!="
def Rel.h : Rel → Int → Int → Bool
  | .le, a, b => decide (a ≤ b)
  | .ge, a, b => decide (b ≤ a)
  | .eq, a, b => decide (a = b)
  | .ne, a, b => decide (a ≠ b)
def Rel.neg : Rel → Rel
  | .le => .ge
  | .ge => .le
  | .eq => .ne
  | .ne => .eq
def Rel.nnum : Rel → Int → Int
  | .le, a => a + 1
  | .ge, a => a - 1
  | _, a => a
theorem Rel.neg_neg (r : Rel) : r.neg.neg = r := by cases r <;> rfl
theorem Rel.nnum_nnum (r : Rel) (a : Int) : r.neg.nnum (r.nnum a) = a := by
  cases r <;> simp [Rel.neg, Rel.nnum] <;> omega
theorem Rel.neg_h (r : Rel) (x a : Int) : r.neg.h x (r.nnum a) = !r.h x a := by
  cases r
  · simp only [Rel.neg, Rel.nnum, Rel.h]
    rw [Bool.eq_iff_iff]; simp; omega
  · simp only [Rel.neg, Rel.nnum, Rel.h]
    rw [Bool.eq_iff_iff]; simp; omega
  · simp [Rel.neg, Rel.nnum, Rel.h]
  · simp [Rel.neg, Rel.nnum, Rel.h]
theorem ix_rel3 {K : PySem.W.Frag} {p : Addr} {H : Hp} {Q : VK} {d : Int} (h : H p = some (.lst [.str (Str.ofString "<="), .str (Str.ofString ">="), .str (Str.ofString "=")])) (h0 : 0 ≤ d) (h1 : d < 3) (q : ∀ r : Rel, r ≠ .ne → Q (.str r.s) H) : rIxL K (.ref p) (.int d) H Q := by
  have e : d = 0 ∨ d = 1 ∨ d = 2 := by omega
  rcases e with rfl | rfl | rfl
  · exact r_ixL h rfl (q .le (by decide))
  · exact r_ixL h rfl (q .ge (by decide))
  · exact r_ixL h rfl (q .eq (by decide))
def spRel : Sp := fun vs H Q _ => ∃ (r : Rel) (a b : Int), vs = [.str r.s, .int a, .int b] ∧ Q (.bl (r.h a b)) H
theorem spRel_i (r : Rel) {a b : Int} {H : Hp} {Q : VK} {E : XK} (q : Q (.bl (r.h a b)) H) : spRel [.str r.s, .int a, .int b] H Q E := ⟨r, a, b, rfl, q⟩
/-- a literal stands at p -/
abbrev LitAt (K : PySem.W.Frag) (H : Hp) (p : Addr) (v : Int) (r : Rel) (a : Int) : Prop := SqT K H p [.int v, .str r.s, .int a]
def spLit (K : PySem.W.Frag) : Sp := fun vs H Q _ => ∃ (p : Addr) (v : Int) (r : Rel) (a x : Int), vs = [.ref p, .int x] ∧ LitAt K H p v r a ∧ Q (.bl (r.h x a)) H
def spNeg (K : PySem.W.Frag) : Sp := fun vs H Q _ => ∃ (p : Addr) (v : Int) (r : Rel) (a : Int), vs = [.ref p] ∧ LitAt K H p v r a ∧ ∀ (p' : Addr) (H' : Hp), LitAt K H' p' v r.neg (r.nnum a) → Kp [] H H' → Q (.ref p') H'
def spSame : Sp := fun vs H Q _ => ∃ (a b : Bool), vs = [.bl a, .bl b] ∧ Q (.bl (decide (a = b))) H
theorem ix_rel4 {K : PySem.W.Frag} {p : Addr} {H : Hp} {Q : VK} {d : Int} (h : H p = some (.lst [.str (Str.ofString "<="), .str (Str.ofString ">="), .str (Str.ofString "="), .str (Str.ofString "!=")])) (h0 : 0 ≤ d) (h1 : d < 4) (q : ∀ r : Rel, Q (.str r.s) H) : rIxL K (.ref p) (.int d) H Q := by
  have e : d = 0 ∨ d = 1 ∨ d = 2 ∨ d = 3 := by omega
  rcases e with rfl | rfl | rfl | rfl
  · exact r_ixL h rfl (q .le)
  · exact r_ixL h rfl (q .ge)
  · exact r_ixL h rfl (q .eq)
  · exact r_ixL h rfl (q .ne)
def litD (v : Int) (r : Rel) (a : Int) : PyData := .tuple [.int v, .str r.s, .int a]
theorem Rel.ok (r : Rel) : PyData.strOk r.s = true := by cases r <;> decide +kernel
theorem litD_shaped (v : Int) (r : Rel) (a : Int) : SeqAt.shaped (litD v r a) = true := by
  simp [litD, Rel.ok, SeqAt.shaped, PyData.canLay0, PyData.canLayAll0, PyData.depth, PyData.depthAll]
theorem litD_self (v : Int) (r : Rel) (a : Int) : PyData.eqv (litD v r a) (litD v r a) = true := by
  simp [litD, PyData.eqv, PyData.eqvAll]
theorem LitAt.dp {K : PySem.W.Frag} {H : Hp} {p : Addr} {v : Int} {r : Rel} {a : Int} (h : LitAt K H p v r a) : Dp K H (.ref p) (litD v r a) :=
  .tup h (.cons (.int _) (.cons (.str _) (.cons (.int _) .nil)))
local macro_rules | `(tactic| walk_at "cg s") => `(tactic| (with_reducible refine spRel_i _ ?_))
theorem spSame_i {a b : Bool} {H : Hp} {Q : VK} {E : XK} (q : Q (.bl (decide (a = b))) H) : spSame [.bl a, .bl b] H Q E := ⟨a, b, rfl, q⟩
local macro_rules | `(tactic| walk_at "cg s") => `(tactic| (with_reducible refine spSame_i ?_))
theorem spLit_i {K : PySem.W.Frag} {H : Hp} {Q : VK} {E : XK} {p : Addr} {v : Int} {r : Rel} {a x : Int} (h : LitAt K H p v r a) (q : Q (.bl (r.h x a)) H) : spLit K [.ref p, .int x] H Q E := ⟨p, v, r, a, x, rfl, h, q⟩
local macro_rules | `(tactic| walk_at "cg s") => `(tactic| ((with_reducible show spLit _ _ _ _ _); refine spLit_i (by walk_at "cg h") ?_))

/-! ### comprehensions and loops over data -/
theorem piTup {X : Cx} (K : PySem.W.Frag) {tg l : Expr} {tl : TE} (hl : PE X l tl) (h : X.K = K := by rfl) : PI X tg l (iTup K tl) := h ▸ pi_tup hl
theorem piLst {X : Cx} (K : PySem.W.Frag) {tg l : Expr} {tl : TE} (hl : PE X l tl) (h : X.K = K := by rfl) : PI X tg l (iList K tl) := h ▸ pi_list hl
theorem flat_ints (us : List Int) : (us.map V.int).all flatV = true := by
  rw [List.all_map]
  exact List.all_eq_true.mpr fun x _ => rfl
theorem inV_ints (v : Int) (us : List Int) : inV (.int v) (us.map V.int) = decide (v ∈ us) := by
  unfold inV
  rw [List.any_map]
  induction us with
  | nil => rfl
  | cons u us ih =>
    have e : ((fun y => eqV y (.int v)) ∘ V.int) u = decide (v = u) := by
      show (u == v) = decide (v = u)
      rw [Bool.eq_iff_iff, beq_iff_eq, decide_eq_true_eq]
      exact eq_comm
    rw [List.any_cons, ih, e, Bool.eq_iff_iff]
    simp only [Bool.or_eq_true, decide_eq_true_eq, List.mem_cons]
theorem blkOk_nf {N : List Str} {sc scope : Scope} {own : List (Str × Nat)} (h : blkC N { kind := .function, names := [], isGenerator := false, isCoroutine := false } scope own = true) : BlkOk N sc scope own := by
  have q := blkOk_by h
  exact ⟨q.1, q.2, q.3, fun y hy e => (by rcases q.4 y hy e with k | k <;> exact nomatch k), q.5⟩
theorem small1e4 {n : Nat} (h : n ≤ 10000) : n < sizeLine := by
  rw [sizeLine_eq]
  omega
theorem atI_nat {α : Type} {xs : List α} {i : Int} (h0 : 0 ≤ i) (h1 : i < xs.length) : atI xs i = xs[i.toNat]? := by
  simp [atI, ixN, h0, h1]
theorem atI_ints {ns : List Int} {i : Int} (h0 : 0 ≤ i) (h1 : i < ns.length) : atI (ns.map V.int) i = some (.int (ns.getD i.toNat 0)) := by
  have e : i.toNat < ns.length := by omega
  rw [atI_nat h0 (by rw [List.length_map]; exact h1)]
  simp [e]
theorem mapGetP {K : PySem.W.Frag} {H : Hp} {x : V} {α : Type} {f : α → PyData} {xs : List V} {as : List α} {i : Nat} (h : ImAll K H xs (as.map f)) (e : xs[i]? = some x) : ∃ a, as[i]? = some a ∧ Im K H x (f a) := by
  obtain ⟨d, h1, h2⟩ := h.get e
  rw [List.getElem?_map] at h1
  cases q : as[i]? with
  | none =>
    rw [q] at h1
    cases h1
  | some a =>
    rw [q] at h1
    cases h1
    exact ⟨a, rfl, h2⟩
theorem mapLenP {K : PySem.W.Frag} {H : Hp} {α : Type} {f : α → PyData} {xs : List V} {as : List α} (h : ImAll K H xs (as.map f)) : xs.length = as.length := by
  rw [h.length, List.length_map]
theorem atI_0 {α : Type} {x : α} {xs : List α} : atI (x :: xs) 0 = some x := by
  rw [atI_nat (by decide) (by simp <;> omega)]
  rfl
theorem atI_1 {α : Type} {x y : α} {xs : List α} : atI (x :: y :: xs) 1 = some y := by
  rw [atI_nat (by decide) (by simp <;> omega)]
  rfl
theorem fm_take {α β : Type} {as : List α} {f : α → Option β} {i : Nat} {a : α} (h : as[i]? = some a) : (as.take (i + 1)).filterMap f = (as.take i).filterMap f ++ (f a).toList := by
  rw [List.take_add_one, h, List.filterMap_append]
  congr 1
  all_goals (cases q : f a <;> simp [q])
theorem fm_some {α β : Type} (as : List α) (h : α → β) : as.filterMap (fun a => some (h a)) = as.map h := by
  induction as with
  | nil => rfl
  | cons a as ih =>
    show h a :: as.filterMap (fun a => some (h a)) = _
    rw [ih, List.map_cons]
theorem ImAll.bls {K : PySem.W.Frag} {H : Hp} : ∀ {xs : List V} {bs : List Bool}, ImAll K H xs (bs.map PyData.bool) → xs = bs.map V.bl
  | _, [], .nil => rfl
  | _, b :: bs, .cons h a => by rw [ImAll.bls a, h.flat rfl]; rfl
theorem ImAll.ints {K : PySem.W.Frag} {H : Hp} : ∀ {xs : List V} {bs : List Int}, ImAll K H xs (bs.map PyData.int) → xs = bs.map V.int
  | _, [], .nil => rfl
  | _, b :: bs, .cons h a => by rw [ImAll.ints a, h.flat rfl]; rfl
theorem imInts {K : PySem.W.Frag} {H : Hp} : ∀ (ns : List Int), ImAll K H (ns.map V.int) (ns.map PyData.int)
  | [] => .nil
  | n :: ns => .cons (.int n) (imInts ns)
def intsD (ns : List Int) : PyData := .tuple (ns.map PyData.int)
theorem Im.intsT {K : PySem.W.Frag} {H : Hp} {p : Addr} {ns : List Int} (h : Im K H (.ref p) (intsD ns)) : SqT K H p (ns.map V.int) := h.sq (flatDs_ints ns)
theorem intsT_im {K : PySem.W.Frag} {H : Hp} {p : Addr} {ns : List Int} (h : SqT K H p (ns.map V.int)) : Im K H (.ref p) (intsD ns) := Im.ints h
section
variable {σ σ0 : St} {H : Hp} {K : PySem.W.Frag} {p : Addr} {xs : List V} {g : TG} {tt : TT} {te : TE} {vs : List Nat} {Q : VK} {n : Nat} {lo : Int} {α : Type} {as : List α} {d : α → PyData} {t c : Addr}
/-- a turn of a comprehension, its answer free -/
abbrev lcTurn (g : TG) (tt : TT) (te : TE) (vs : List Nat) (σ σ0 : St) (x : V) (H' : Hp) (R : V → Hp → Prop) (R' : Hp → Prop) : Prop :=
  g x σ0 H' fun σ2 H2 => wpS σ2 σ vs (tt σ2 H2 fun b H3 => iteP b (te σ2 H3 R) (R' H3))
/-- over a tuple of data, with a test -/
theorem lcT_f [hw : Wip σ vs σ0] (s : SqT K H p xs) (ia : ImAll K H xs (as.map d)) (f : α → Option PyData) (small : as.length ≤ 10000)
    (hs : ∀ (i : Nat) (a : α) (x : V) (H' : Hp) (R : V → Hp → Prop) (R' : Hp → Prop), as[i]? = some a → Kp [] H H' → Im K H' x (d a) → (∀ y H4 e, f a = some e → Im K H4 y e → Kp [] H' H4 → R y H4) → (∀ H4, f a = none → Kp [] H' H4 → R' H4) →
      lcTurn g tt te vs σ σ0 x H' R R')
    (hd : ∀ D H' acc, H D = none → H' D = some (.lst acc) → ImAll K H' acc (as.filterMap f) → Kp [] H H' → Q (.ref D) H') : lcS (Itt K p) g tt te vs σ H Q := by
  have hxl := mapLenP ia
  refine r_lcT xs (fun D i H' => Kp [] H H' ∧ H D = none ∧ ∃ acc, H' D = some (.lst acc) ∧ ImAll K H' acc ((as.take i).filterMap f)) (fun D H2 hD e2 k2 => ⟨k2, hD, [], e2, .nil⟩) (fun D i H' h => h.1.tup s) ?_ ?_
  · rintro D i x H' hx ⟨k2, hD, acc, eD, hA⟩
    obtain ⟨a, ha, hxd⟩ := mapGetP (k2.imAll ia) hx
    have hi : i < as.length := (List.getElem?_eq_some_iff.mp ha).1
    have hal : acc.length ≤ i := by
      rw [hA.length]
      refine Nat.le_trans (List.length_filterMap_le _ _) ?_
      rw [List.length_take]
      omega
    refine hs i a x H' _ _ ha k2 hxd (fun y H4 e hf hy k4 => ?_) (fun H4 hf k4 => ?_)
    · refine r_ap (k4.get0 eD) (small1e4 (by omega)) fun H5 e5 k5 => ⟨Kp.trN k5 (Kp.tr0 k4 k2) hD, hD, _, e5, ?_⟩
      rw [fm_take ha, hf]
      exact (k5.imAll (k4.imAll hA)).snoc (k5.im hy)
    · refine ⟨Kp.tr0 k4 k2, hD, acc, k4.get0 eD, ?_⟩
      rw [fm_take ha, hf]
      simpa using k4.imAll hA
  · rintro D H' ⟨k2, hD, acc, eD, hA⟩
    rw [hxl, List.take_length] at hA
    exact hd D H' acc hD eD hA k2
/-- over a list of data, with a test -/
theorem lcL_f [hw : Wip σ vs σ0] (s : H p = some (.lst xs)) (ia : ImAll K H xs (as.map d)) (f : α → Option PyData) (small : as.length ≤ 10000)
    (hs : ∀ (i : Nat) (a : α) (x : V) (H' : Hp) (R : V → Hp → Prop) (R' : Hp → Prop), as[i]? = some a → Kp [] H H' → Im K H' x (d a) → (∀ y H4 e, f a = some e → Im K H4 y e → Kp [] H' H4 → R y H4) → (∀ H4, f a = none → Kp [] H' H4 → R' H4) →
      lcTurn g tt te vs σ σ0 x H' R R')
    (hd : ∀ D H' acc, H D = none → H' D = some (.lst acc) → ImAll K H' acc (as.filterMap f) → Kp [] H H' → Q (.ref D) H') : lcS (Itl K p) g tt te vs σ H Q := by
  have hxl := mapLenP ia
  refine r_lcL xs (fun D i H' => Kp [] H H' ∧ H D = none ∧ ∃ acc, H' D = some (.lst acc) ∧ ImAll K H' acc ((as.take i).filterMap f)) (fun D H2 hD e2 k2 => ⟨k2, hD, [], e2, .nil⟩) (fun D i H' h => h.1.get0 s) ?_ ?_
  · rintro D i x H' hx ⟨k2, hD, acc, eD, hA⟩
    obtain ⟨a, ha, hxd⟩ := mapGetP (k2.imAll ia) hx
    have hi : i < as.length := (List.getElem?_eq_some_iff.mp ha).1
    have hal : acc.length ≤ i := by
      rw [hA.length]
      refine Nat.le_trans (List.length_filterMap_le _ _) ?_
      rw [List.length_take]
      omega
    refine hs i a x H' _ _ ha k2 hxd (fun y H4 e hf hy k4 => ?_) (fun H4 hf k4 => ?_)
    · refine r_ap (k4.get0 eD) (small1e4 (by omega)) fun H5 e5 k5 => ⟨Kp.trN k5 (Kp.tr0 k4 k2) hD, hD, _, e5, ?_⟩
      rw [fm_take ha, hf]
      exact (k5.imAll (k4.imAll hA)).snoc (k5.im hy)
    · refine ⟨Kp.tr0 k4 k2, hD, acc, k4.get0 eD, ?_⟩
      rw [fm_take ha, hf]
      simpa using k4.imAll hA
  · rintro D H' ⟨k2, hD, acc, eD, hA⟩
    rw [hxl, List.take_length] at hA
    exact hd D H' acc hD eD hA k2
/-- over a range, with a test -/
theorem lcR_f [hw : Wip σ vs σ0] (f : Nat → Option PyData) (small : n ≤ 10000)
    (hs : ∀ (i : Nat) (H' : Hp) (R : V → Hp → Prop) (R' : Hp → Prop), i < n → Kp [] H H' → (∀ y H4 e, f i = some e → Im K H4 y e → Kp [] H' H4 → R y H4) → (∀ H4, f i = none → Kp [] H' H4 → R' H4) →
      lcTurn g tt te vs σ σ0 (.int (lo + (i : Int))) H' R R')
    (hd : ∀ D H' acc, H D = none → H' D = some (.lst acc) → ImAll K H' acc ((List.range n).filterMap f) → Kp [] H H' → Q (.ref D) H') : lcS (Itr lo n) g tt te vs σ H Q := by
  refine r_lcR (fun D i H' => Kp [] H H' ∧ H D = none ∧ ∃ acc, H' D = some (.lst acc) ∧ ImAll K H' acc ((List.range i).filterMap f)) (fun D H2 hD e2 k2 => ⟨k2, hD, [], e2, .nil⟩) ?_ ?_
  · rintro D i H' hi ⟨k2, hD, acc, eD, hA⟩
    have hal : acc.length ≤ i := by
      rw [hA.length]
      refine Nat.le_trans (List.length_filterMap_le _ _) ?_
      rw [List.length_range]
      exact Nat.le_refl _
    have e0 : (List.range (i + 1)).filterMap f = (List.range i).filterMap f ++ (f i).toList := by
      rw [List.range_succ, List.filterMap_append]
      congr 1
      all_goals (cases q : f i <;> simp [q])
    refine hs i H' _ _ hi k2 (fun y H4 e hf hy k4 => ?_) (fun H4 hf k4 => ?_)
    · refine r_ap (k4.get0 eD) (small1e4 (by omega)) fun H5 e5 k5 => ⟨Kp.trN k5 (Kp.tr0 k4 k2) hD, hD, _, e5, ?_⟩
      rw [e0, hf]
      exact (k5.imAll (k4.imAll hA)).snoc (k5.im hy)
    · refine ⟨Kp.tr0 k4 k2, hD, acc, k4.get0 eD, ?_⟩
      rw [e0, hf]
      simpa using k4.imAll hA
  · rintro D H' ⟨k2, hD, acc, eD, hA⟩
    exact hd D H' acc hD eD hA k2
/-- over a tuple of data: each item's answer -/
theorem lcT_m [hw : Wip σ vs σ0] (s : SqT K H p xs) (ia : ImAll K H xs (as.map d)) (f : α → PyData) (small : as.length ≤ 10000)
    (hs : ∀ (i : Nat) (a : α) (x : V) (H' : Hp) (R : V → Hp → Prop) (R' : Hp → Prop), as[i]? = some a → Kp [] H H' → Im K H' x (d a) → (∀ y H4, Im K H4 y (f a) → Kp [] H' H4 → R y H4) → lcTurn g tt te vs σ σ0 x H' R R')
    (hd : ∀ D H' acc, H D = none → H' D = some (.lst acc) → ImAll K H' acc (as.map f) → Kp [] H H' → Q (.ref D) H') : lcS (Itt K p) g tt te vs σ H Q :=
  lcT_f s ia (fun a => some (f a)) small (fun i a x H' R R' ha k hx h1 _ => hs i a x H' R R' ha k hx fun y H4 hy k4 => h1 y H4 _ rfl hy k4) fun D H' acc hD eD hA k => hd D H' acc hD eD (by rw [fm_some] at hA; exact hA) k
theorem lcL_m [hw : Wip σ vs σ0] (s : H p = some (.lst xs)) (ia : ImAll K H xs (as.map d)) (f : α → PyData) (small : as.length ≤ 10000)
    (hs : ∀ (i : Nat) (a : α) (x : V) (H' : Hp) (R : V → Hp → Prop) (R' : Hp → Prop), as[i]? = some a → Kp [] H H' → Im K H' x (d a) → (∀ y H4, Im K H4 y (f a) → Kp [] H' H4 → R y H4) → lcTurn g tt te vs σ σ0 x H' R R')
    (hd : ∀ D H' acc, H D = none → H' D = some (.lst acc) → ImAll K H' acc (as.map f) → Kp [] H H' → Q (.ref D) H') : lcS (Itl K p) g tt te vs σ H Q :=
  lcL_f s ia (fun a => some (f a)) small (fun i a x H' R R' ha k hx h1 _ => hs i a x H' R R' ha k hx fun y H4 hy k4 => h1 y H4 _ rfl hy k4) fun D H' acc hD eD hA k => hd D H' acc hD eD (by rw [fm_some] at hA; exact hA) k
theorem lcR_m [hw : Wip σ vs σ0] (f : Nat → PyData) (small : n ≤ 10000)
    (hs : ∀ (i : Nat) (H' : Hp) (R : V → Hp → Prop) (R' : Hp → Prop), i < n → Kp [] H H' → (∀ y H4, Im K H4 y (f i) → Kp [] H' H4 → R y H4) → lcTurn g tt te vs σ σ0 (.int (lo + (i : Int))) H' R R')
    (hd : ∀ D H' acc, H D = none → H' D = some (.lst acc) → ImAll K H' acc ((List.range n).map f) → Kp [] H H' → Q (.ref D) H') : lcS (Itr lo n) g tt te vs σ H Q :=
  lcR_f (fun i => some (f i)) small (fun i H' R R' hi k h1 _ => hs i H' R R' hi k fun y H4 hy k4 => h1 y H4 _ rfl hy k4) fun D H' acc hD eD hA k => hd D H' acc hD eD (by rw [fm_some] at hA; exact hA) k
/-- .. a truth value for each -/
theorem lcT_b [hw : Wip σ vs σ0] (s : SqT K H p xs) (ia : ImAll K H xs (as.map d)) (f : α → Bool) (small : as.length ≤ 10000)
    (hs : ∀ (i : Nat) (a : α) (x : V) (H' : Hp) (R : V → Hp → Prop) (R' : Hp → Prop), as[i]? = some a → Kp [] H H' → Im K H' x (d a) → (∀ H4, Kp [] H' H4 → R (.bl (f a)) H4) → lcTurn g tt te vs σ σ0 x H' R R')
    (hd : ∀ D H', H D = none → H' D = some (.lst ((as.map f).map V.bl)) → Kp [] H H' → Q (.ref D) H') : lcS (Itt K p) g tt te vs σ H Q :=
  lcT_m s ia (fun a => .bool (f a)) small (fun i a x H' R R' ha k hx h1 => hs i a x H' R R' ha k hx fun H4 k4 => h1 _ H4 (.bl _) k4) fun D H' acc hD eD hA k => hd D H' hD (by
    rw [eD]
    have q : as.map (fun a => PyData.bool (f a)) = (as.map f).map PyData.bool := by simp
    rw [q] at hA
    rw [hA.bls]) k
theorem lcL_b [hw : Wip σ vs σ0] (s : H p = some (.lst xs)) (ia : ImAll K H xs (as.map d)) (f : α → Bool) (small : as.length ≤ 10000)
    (hs : ∀ (i : Nat) (a : α) (x : V) (H' : Hp) (R : V → Hp → Prop) (R' : Hp → Prop), as[i]? = some a → Kp [] H H' → Im K H' x (d a) → (∀ H4, Kp [] H' H4 → R (.bl (f a)) H4) → lcTurn g tt te vs σ σ0 x H' R R')
    (hd : ∀ D H', H D = none → H' D = some (.lst ((as.map f).map V.bl)) → Kp [] H H' → Q (.ref D) H') : lcS (Itl K p) g tt te vs σ H Q :=
  lcL_m s ia (fun a => .bool (f a)) small (fun i a x H' R R' ha k hx h1 => hs i a x H' R R' ha k hx fun H4 k4 => h1 _ H4 (.bl _) k4) fun D H' acc hD eD hA k => hd D H' hD (by
    rw [eD]
    have q : as.map (fun a => PyData.bool (f a)) = (as.map f).map PyData.bool := by simp
    rw [q] at hA
    rw [hA.bls]) k
/-- .. an int for each -/
theorem lcT_i [hw : Wip σ vs σ0] (s : SqT K H p xs) (ia : ImAll K H xs (as.map d)) (f : α → Int) (small : as.length ≤ 10000)
    (hs : ∀ (i : Nat) (a : α) (x : V) (H' : Hp) (R : V → Hp → Prop) (R' : Hp → Prop), as[i]? = some a → Kp [] H H' → Im K H' x (d a) → (∀ H4, Kp [] H' H4 → R (.int (f a)) H4) → lcTurn g tt te vs σ σ0 x H' R R')
    (hd : ∀ D H', H D = none → H' D = some (.lst ((as.map f).map V.int)) → Kp [] H H' → Q (.ref D) H') : lcS (Itt K p) g tt te vs σ H Q :=
  lcT_m s ia (fun a => .int (f a)) small (fun i a x H' R R' ha k hx h1 => hs i a x H' R R' ha k hx fun H4 k4 => h1 _ H4 (.int _) k4) fun D H' acc hD eD hA k => hd D H' hD (by
    rw [eD]
    have q : as.map (fun a => PyData.int (f a)) = (as.map f).map PyData.int := by simp
    rw [q] at hA
    rw [hA.ints]) k
theorem lcL_i [hw : Wip σ vs σ0] (s : H p = some (.lst xs)) (ia : ImAll K H xs (as.map d)) (f : α → Int) (small : as.length ≤ 10000)
    (hs : ∀ (i : Nat) (a : α) (x : V) (H' : Hp) (R : V → Hp → Prop) (R' : Hp → Prop), as[i]? = some a → Kp [] H H' → Im K H' x (d a) → (∀ H4, Kp [] H' H4 → R (.int (f a)) H4) → lcTurn g tt te vs σ σ0 x H' R R')
    (hd : ∀ D H', H D = none → H' D = some (.lst ((as.map f).map V.int)) → Kp [] H H' → Q (.ref D) H') : lcS (Itl K p) g tt te vs σ H Q :=
  lcL_m s ia (fun a => .int (f a)) small (fun i a x H' R R' ha k hx h1 => hs i a x H' R R' ha k hx fun H4 k4 => h1 _ H4 (.int _) k4) fun D H' acc hD eD hA k => hd D H' hD (by
    rw [eD]
    have q : as.map (fun a => PyData.int (f a)) = (as.map f).map PyData.int := by simp
    rw [q] at hA
    rw [hA.ints]) k
/-- draws, one for each number of a range: what they have in common -/
theorem lcR_d [hw : Wip σ vs σ0] (d : α → PyData) (Pr : Nat → α → Prop) (T : Tp t c H) (small : n ≤ 10000)
    (hs : ∀ (i : Nat) (H' : Hp) (R : V → Hp → Prop) (R' : Hp → Prop), i < n → Tp t c H' → Kp [t] H H' → (∀ y H4 a, Pr i a → Im K H4 y (d a) → Tp t c H4 → Kp [t] H' H4 → R y H4) → lcTurn g tt te vs σ σ0 (.int (lo + (i : Int))) H' R R')
    (hd : ∀ D H' acc (as : List α), H D = none → H' D = some (.lst acc) → as.length = n → (∀ (i : Nat) a, as[i]? = some a → Pr i a) → ImAll K H' acc (as.map d) → Tp t c H' → Kp [t] H H' → Q (.ref D) H') : lcS (Itr lo n) g tt te vs σ H Q := by
  refine r_lcR (fun D i H' => Kp [t] H H' ∧ H D = none ∧ Tp t c H' ∧ ∃ (acc : List V) (as : List α), H' D = some (.lst acc) ∧ as.length = i ∧ (∀ (i : Nat) a, as[i]? = some a → Pr i a) ∧ ImAll K H' acc (as.map d))
    (fun D H2 hD e2 k2 => ⟨Kp.tr0 k2 (Tp.base T), hD, Tp.kp0 k2 T, [], [], e2, rfl, (fun i a h => by simp at h), .nil⟩) ?_ ?_
  · rintro D i H' hi ⟨k2, hD, T2, acc, as, eD, hl, hP, hA⟩
    have nt : D ≠ t := Tp.nef hD T
    have nc : D ≠ c := Tp.nefc hD T
    have hal : acc.length = i := by rw [hA.length, List.length_map, hl]
    refine hs i H' _ _ hi T2 k2 fun y H4 a ha hy T4 k4 => ?_
    refine r_ap (k4.get1 nt eD) (small1e4 (by omega)) fun H5 e5 k5 => ⟨Kp.trN k5 (Kp.tr1 k4 k2) hD, hD, Tp.kp1 k5 T4 nt.symm nc.symm, _, as ++ [a], e5, by simp [hl], fun j b hb => ?_, ?_⟩
    · rcases Nat.lt_or_ge j as.length with h | h
      · rw [List.getElem?_append_left h] at hb
        exact hP j b hb
      · rw [List.getElem?_append_right h] at hb
        have e0 : j - as.length = 0 := by
          have := (List.getElem?_eq_some_iff.mp hb).1
          simp at this
          omega
        rw [e0] at hb
        simp at hb
        subst hb
        rw [show j = i by omega]
        exact ha
    · rw [List.map_append]
      exact (k5.imAll (k4.imAll hA)).snoc (k5.im hy)
  · rintro D H' ⟨k2, hD, T2, acc, as, eD, hl, hP, hA⟩
    exact hd D H' acc as hD eD hl hP hA T2 k2
/-- .. one for each item of a tuple -/
theorem lcT_d {β : Type} {bs : List β} {e : β → PyData} [hw : Wip σ vs σ0] (s : SqT K H p xs) (ib : ImAll K H xs (bs.map e)) (d : α → PyData) (Pr : β → α → Prop) (T : Tp t c H) (small : bs.length ≤ 10000)
    (hs : ∀ (i : Nat) (b : β) (x : V) (H' : Hp) (R : V → Hp → Prop) (R' : Hp → Prop), bs[i]? = some b → Im K H' x (e b) → Tp t c H' → Kp [t] H H' → (∀ y H4 a, Pr b a → Im K H4 y (d a) → Tp t c H4 → Kp [t] H' H4 → R y H4) → lcTurn g tt te vs σ σ0 x H' R R')
    (hd : ∀ D H' acc (as : List α), H D = none → H' D = some (.lst acc) → as.length = bs.length → (∀ (i : Nat) a, as[i]? = some a → ∃ b, bs[i]? = some b ∧ Pr b a) → ImAll K H' acc (as.map d) → Tp t c H' → Kp [t] H H' → Q (.ref D) H') : lcS (Itt K p) g tt te vs σ H Q := by
  have hxl := mapLenP ib
  refine r_lcT xs (fun D i H' => Kp [t] H H' ∧ H D = none ∧ Tp t c H' ∧ ∃ (acc : List V) (as : List α), H' D = some (.lst acc) ∧ as.length = i ∧ (∀ (i : Nat) a, as[i]? = some a → ∃ b, bs[i]? = some b ∧ Pr b a) ∧ ImAll K H' acc (as.map d))
    (fun D H2 hD e2 k2 => ⟨Kp.tr0 k2 (Tp.base T), hD, Tp.kp0 k2 T, [], [], e2, rfl, (fun i a h => by simp at h), .nil⟩) (fun D i H' h => h.1.tup s) ?_ ?_
  · rintro D i x H' hx ⟨k2, hD, T2, acc, as, eD, hl, hP, hA⟩
    obtain ⟨b, hb, hxd⟩ := mapGetP (k2.imAll ib) hx
    have hi : i < bs.length := (List.getElem?_eq_some_iff.mp hb).1
    have nt : D ≠ t := Tp.nef hD T
    have nc : D ≠ c := Tp.nefc hD T
    have hal : acc.length = i := by rw [hA.length, List.length_map, hl]
    refine hs i b x H' _ _ hb hxd T2 k2 fun y H4 a ha hy T4 k4 => ?_
    refine r_ap (k4.get1 nt eD) (small1e4 (by omega)) fun H5 e5 k5 => ⟨Kp.trN k5 (Kp.tr1 k4 k2) hD, hD, Tp.kp1 k5 T4 nt.symm nc.symm, _, as ++ [a], e5, by simp [hl], fun j b' hb' => ?_, ?_⟩
    · rcases Nat.lt_or_ge j as.length with h | h
      · rw [List.getElem?_append_left h] at hb'
        exact hP j b' hb'
      · rw [List.getElem?_append_right h] at hb'
        have e0 : j - as.length = 0 := by
          have := (List.getElem?_eq_some_iff.mp hb').1
          simp at this
          omega
        rw [e0] at hb'
        simp at hb'
        subst hb'
        rw [show j = i by omega]
        exact ⟨b, hb, ha⟩
    · rw [List.map_append]
      exact (k5.imAll (k4.imAll hA)).snoc (k5.im hy)
  · rintro D H' ⟨k2, hD, T2, acc, as, eD, hl, hP, hA⟩
    exact hd D H' acc as hD eD (by rw [hl, hxl]) hP hA T2 k2
end
section
variable {σ : St} {H : Hp} {K : PySem.W.Frag} {p : Addr} {xs : List V} {g : TG} {tb : TS} {nx bk ct : St → Hp → Prop} {rt : VK} {α : Type} {as : List α} {d : α → PyData}
/-- a for over a tuple of data -/
theorem r_forTI (S : List Addr) (s : SqT K H p xs) (ia : ImAll K H xs (as.map d)) (Pv : Nat → St → Hp → Prop) (h0 : Pv 0 σ H) (hk : ∀ i σ' H', Pv i σ' H' → Kp S H H')
    (hs : ∀ (i : Nat) (a : α) (x : V) σ' H', as[i]? = some a → Im K H' x (d a) → Kp S H H' → Pv i σ' H' → g x σ' H' fun σ2 H2 => tb ⟨Pv (i + 1), rt, nx, Pv (i + 1)⟩ σ2 H2) (hd : ∀ σ' H', Kp S H H' → Pv as.length σ' H' → nx σ' H') : forS (Itt K p) g tb ⟨nx, rt, bk, ct⟩ σ H := by
  refine r_forT xs Pv h0 (fun i σ' H' h => (hk i σ' H' h).tup s) (fun i x σ' H' hx h => ?_) (fun σ' H' h => ?_)
  · obtain ⟨a, ha, hxd⟩ := mapGetP ((hk i σ' H' h).imAll ia) hx
    exact hs i a x σ' H' ha hxd (hk i σ' H' h) h
  · rw [mapLenP ia] at h
    exact hd σ' H' (hk _ σ' H' h) h
/-- a for over a list of data that stands -/
theorem r_forLD (S : List Addr) (s : H p = some (.lst xs)) (np : ¬ p ∈ S) (ia : ImAll K H xs (as.map d)) (Pv : Nat → St → Hp → Prop) (h0 : Pv 0 σ H) (hk : ∀ i σ' H', Pv i σ' H' → Kp S H H')
    (hs : ∀ (i : Nat) (a : α) (x : V) σ' H', as[i]? = some a → Im K H' x (d a) → Kp S H H' → Pv i σ' H' → g x σ' H' fun σ2 H2 => tb ⟨Pv (i + 1), rt, nx, Pv (i + 1)⟩ σ2 H2) (hd : ∀ σ' H', Kp S H H' → Pv as.length σ' H' → nx σ' H') : forS (Itl K p) g tb ⟨nx, rt, bk, ct⟩ σ H := by
  refine r_forL xs Pv h0 (fun i σ' H' h => (hk i σ' H' h).get np s) (fun i x σ' H' hx h => ?_) (fun σ' H' h => ?_)
  · obtain ⟨a, ha, hxd⟩ := mapGetP ((hk i σ' H' h).imAll ia) hx
    exact hs i a x σ' H' ha hxd (hk i σ' H' h) h
  · rw [mapLenP ia] at h
    exact hd σ' H' (hk _ σ' H' h) h
end
/-! ### sets of ints, sorted -/
section
variable {K : PySem.W.Frag} {w : World} {H : Hp} {Q : VK} {l S : Addr} {ns : List Int} {f : Int → Bool} {c : Nat}
theorem r_setS (h : H l = some (.lst (ns.map V.int))) (hn : ns.length ≤ 4000) (q : ∀ S H2 c, H S = none → H2 S = some (SetO w S (fun j => decide (j ∈ ns)) c) → c ≤ ns.length → Kp [] H H2 → Q (.ref S) H2) : rSetL K w [.ref l] H Q :=
  ⟨l, ns, rfl, SqL.of h, hn, fun p c hp hc _ => q p _ c hp upd_same hc (Kp.new hp)⟩
theorem r_setS2 (h : H l = some (.lst (ns.map V.int))) (hn : ns.length ≤ 4000) (q : ∀ S H2 c, H S = none → H2 S = some (SetO w S (fun j => decide (j ∈ ns)) c) → (∀ us : List Int, (∀ j ∈ ns, j ∈ us) → c ≤ us.length) → Kp [] H H2 → Q (.ref S) H2) : rSetL K w [.ref l] H Q :=
  ⟨l, ns, rfl, SqL.of h, hn, fun p c hp _ hc => q p _ c hp upd_same hc (Kp.new hp)⟩
theorem r_sortS (h : H S = some (SetO w S f c)) (hc : c < 64) (q : ∀ l (ns : List Int) H2, H l = none → H2 l = some (.lst (ns.map V.int)) → ns.Pairwise (· < ·) → (∀ j, j ∈ ns ↔ f j = true) → Kp [] H H2 → Q (.ref l) H2) : rSortedSet w [.ref S] H Q :=
  ⟨S, f, c, rfl, h, hc, fun ns l hp hm hn hl => q l ns _ hl upd_same hp (fun j => by rw [hm j]) (Kp.new hl)⟩
end
/-! ### more rows of tactics -/
theorem Kp.free1 {H0 H1 : Hp} {p : Addr} (h : H1 p = none) (f : Kp [] H0 H1) : H0 p = none := f.free0 h
local macro_rules | `(tactic| walk_at "cg fr") => `(tactic| (first
  | assumption
  | exact Kp.free1 (by assumption) (by walk_at "cg kp")
  | fail))
section
variable {K : PySem.W.Frag} {H : Hp} {Q : VK} {p : Addr} {xs : List V} {x : V} {neg : Bool}
theorem r_inTt (h : SqT K H p xs) (fx : flatV x = true) (fs : xs.all flatV = true) (e : (if neg then !inV x xs else inV x xs) = true) (q : Q (.bl true) H) : rIn K neg x (.ref p) H Q := r_inT h fx fs e q
theorem r_inTf (h : SqT K H p xs) (fx : flatV x = true) (fs : xs.all flatV = true) (e : (if neg then !inV x xs else inV x xs) = false) (q : Q (.bl false) H) : rIn K neg x (.ref p) H Q := r_inT h fx fs e q
theorem r_inLt (h : H p = some (.lst xs)) (fx : flatV x = true) (fs : xs.all flatV = true) (e : (if neg then !inV x xs else inV x xs) = true) (q : Q (.bl true) H) : rIn K neg x (.ref p) H Q := r_inL h fx fs e q
theorem r_inLf (h : H p = some (.lst xs)) (fx : flatV x = true) (fs : xs.all flatV = true) (e : (if neg then !inV x xs else inV x xs) = false) (q : Q (.bl false) H) : rIn K neg x (.ref p) H Q := r_inL h fx fs e q
end
local macro_rules | `(tactic| walk_at "cg s") => `(tactic| (first
  | ((with_reducible apply r_inTt); (focus (walk_at "cg h")); exact rfl; exact rfl; (focus (decide +kernel)))
  | ((with_reducible apply r_inTf); (focus (walk_at "cg h")); exact rfl; exact rfl; (focus (decide +kernel)))
  | ((with_reducible apply r_inLt); (focus (walk_at "cg h")); exact rfl; exact rfl; (focus (decide +kernel)))
  | ((with_reducible apply r_inLf); (focus (walk_at "cg h")); exact rfl; exact rfl; (focus (decide +kernel)))
  | fail))

/-! ### terms and rows -/
structure Shp (n : Nat) (d : PyData) : Prop where
  lay : d.canLay0 = true
  dep : d.depth ≤ n
theorem Shp.int {n : Nat} (i : Int) : Shp n (.int i) := ⟨rfl, Nat.zero_le _⟩
theorem Shp.bool {n : Nat} (b : Bool) : Shp n (.bool b) := ⟨rfl, Nat.zero_le _⟩
theorem Shp.none {n : Nat} : Shp n .none := ⟨rfl, Nat.zero_le _⟩
theorem Shp.str {n : Nat} {x : Str} (h : PyData.strOk x = true) : Shp n (.str x) := ⟨by simp only [PyData.canLay0]; exact h, Nat.zero_le _⟩
theorem shpAll {n : Nat} : ∀ {ds : List PyData}, (∀ d ∈ ds, Shp n d) → PyData.canLayAll0 ds = true ∧ PyData.depthAll ds ≤ n
  | [], _ => ⟨rfl, Nat.zero_le _⟩
  | d :: ds, h => by
    have h1 := h d List.mem_cons_self
    have h2 := shpAll (ds := ds) fun e he => h e (List.mem_cons_of_mem _ he)
    refine ⟨?_, ?_⟩
    · simp only [PyData.canLayAll0, h1.lay, h2.1, Bool.and_self]
    · simp only [PyData.depthAll]
      exact Nat.max_le.mpr ⟨h1.dep, h2.2⟩
theorem Shp.tup {n : Nat} {ds : List PyData} (h : ∀ d ∈ ds, Shp n d) : Shp (n + 1) (.tuple ds) := by
  have q := shpAll h
  exact ⟨by simp only [PyData.canLay0]; exact q.1, by simp only [PyData.depth]; omega⟩
theorem Shp.list {n : Nat} {ds : List PyData} (h : ∀ d ∈ ds, Shp n d) : Shp (n + 1) (.list ds) := by
  have q := shpAll h
  exact ⟨by simp only [PyData.canLay0]; exact q.1, by simp only [PyData.depth]; omega⟩
theorem Shp.mono {n m : Nat} {d : PyData} (h : Shp n d) (l : n ≤ m) : Shp m d := ⟨h.lay, Nat.le_trans h.dep l⟩
theorem Shp.ok {n : Nat} {d : PyData} (h : Shp n d) (l : n ≤ 64 := by decide) : SeqAt.shaped d = true := by
  unfold SeqAt.shaped
  rw [h.lay, decide_eq_true (Nat.le_trans h.dep l)]
  rfl
theorem Shp.self {n : Nat} {d : PyData} (h : Shp n d) : PyData.eqv d d = true := PySem.SeqAt.eqv_refl d h.lay
theorem shp_nil {n : Nat} : ∀ d ∈ ([] : List PyData), Shp n d := fun _ h => by cases h
theorem shp_cons {n : Nat} {d : PyData} {ds : List PyData} (h : Shp n d) (h' : ∀ e ∈ ds, Shp n e) : ∀ e ∈ d :: ds, Shp n e := fun e he => by
  rcases List.mem_cons.mp he with rfl | he
  · exact h
  · exact h' e he
abbrev Tms := List (Int × Int)
def tD (z : Int × Int) : PyData := .tuple [.int z.1, .int z.2]
def tmD (ts : Tms) : PyData := .tuple (ts.map tD)
def negT (ts : Tms) : Tms := ts.map fun z => (z.1, -z.2)
/-- a point: what each unknown is worth -/
abbrev Pt := Int → Int
def sumF (ts : Tms) (f : Pt) : Int := (ts.map fun z => z.2 * f z.1).sum
theorem tD_shp (z : Int × Int) : Shp 1 (tD z) := .tup (shp_cons (.int _) (shp_cons (.int _) shp_nil))
theorem tmD_shp (ts : Tms) : Shp 2 (tmD ts) := .tup fun d hd => by
  obtain ⟨z, _, rfl⟩ := List.mem_map.mp hd
  exact tD_shp z
theorem sumF_neg (ts : Tms) (f : Pt) : sumF (negT ts) f = -sumF ts f := by
  induction ts with
  | nil => rfl
  | cons z ts ih =>
    have e1 : sumF (negT (z :: ts)) f = (-z.2) * f z.1 + sumF (negT ts) f := by simp [sumF, negT]
    have e2 : sumF (z :: ts) f = z.2 * f z.1 + sumF ts f := by simp [sumF]
    rw [e1, e2, ih, Int.neg_mul]
    omega
theorem sumF_snoc (ts : Tms) (z : Int × Int) (f : Pt) : sumF (ts ++ [z]) f = sumF ts f + z.2 * f z.1 := by
  simp [sumF]
theorem sumF_take {ts : Tms} {z : Int × Int} {i : Nat} (f : Pt) (h : ts[i]? = some z) : sumF (ts.take (i + 1)) f = sumF (ts.take i) f + z.2 * f z.1 := by
  rw [List.take_add_one, h]
  exact sumF_snoc _ _ _
theorem sumF_congr {ts : Tms} {f g : Pt} (h : ∀ z ∈ ts, f z.1 = g z.1) : sumF ts f = sumF ts g := by
  unfold sumF
  congr 1
  exact List.map_congr_left fun z hz => by rw [h z hz]
theorem map_take_snoc {α β : Type} {l : List α} {f : α → β} {i : Nat} {x : α} (h : l[i]? = some x) : (l.take (i + 1)).map f = (l.take i).map f ++ [f x] := by
  rw [List.take_add_one, h]
  simp
theorem term_at {K : PySem.W.Frag} {H : Hp} {x : V} {z : Int × Int} (h : Im K H x (tD z)) : ∃ q, x = .ref q ∧ SqT K H q [.int z.1, .int z.2] := by
  obtain ⟨q, rfl⟩ := Im.isRef h
  exact ⟨q, rfl, Im.sq h rfl⟩
/-! ### points -/
/-- at q a point is to be read: f v at each v of dom -/
def PtAt (K : PySem.W.Frag) (H : Hp) (q : Addr) (f : Pt) (dom : Int → Prop) : Prop := ∀ v, dom v → (∃ xs, SqT K H q xs ∧ atI xs v = some (.int (f v))) ∨ (∃ xs, H q = some (.lst xs) ∧ atI xs v = some (.int (f v))) ∨ ∃ kvs, H q = some (.dK kvs) ∧ valV kvs (Sum.inl v) = some (.int (f v))
/-- a dict with numbers as keys, read by [..] -/
def rIxDK : R2 := fun x y H Q => ∃ a kvs k v, x = .ref a ∧ y = .int k ∧ H a = some (.dK kvs) ∧ valV kvs (Sum.inl k) = some v ∧ Q v H
open PySem.Spec PyProof.Rows in
theorem ix_dK {X : Cx} : IxR X rIxDK := by
  intro value slice pins s σ H x y v u Q I rx ry h hs
  obtain ⟨a, kvs, k, z, rfl, rfl, hq, he, q⟩ := h
  obtain rfl : v = Value.ref a := rx
  obtain ⟨z1, hd, vs, rel, dd⟩ := dk_of I.hok hq
  obtain ⟨w', hw, rw'⟩ := RelO.some_of (v := z) (o := valueAt vs (Sum.inl k)) (by rw [← he]; exact rel.val _)
  exact tail_any dd.typeIs PySem.F.slot_dict_getitem.lookup (wpAny_getItem_of (kV_is (k := Sum.inl k) ry) dd.mapOf hw ⟨z, H, I.tok _, rw', q⟩) hs
def rPt (K : PySem.W.Frag) : R2 := fun x y H Q => rIxT K x y H Q ∨ (rIxL K x y H Q ∨ rIxDK x y H Q)
theorem ixP {X : Cx} (K : PySem.W.Frag) (h : X.K = K := by rfl) : IxR X (rPt K) := h ▸ ix_tup.or (ix_list.or ix_dK)
def at_ (pt : List Int) : Pt := fun v => pt.getD v.toNat 0
section
variable {K : PySem.W.Frag} {H H' : Hp} {q : Addr} {f : Pt} {dom dom' : Int → Prop} {v : Int} {Q : VK} {pt : List Int} {S : List Addr}
theorem r_pt (h : PtAt K H q f dom) (hv : dom v) (k : Q (.int (f v)) H) : rPt K (.ref q) (.int v) H Q := by
  rcases h v hv with ⟨xs, h1, h2⟩ | ⟨xs, h1, h2⟩ | ⟨kvs, h1, h2⟩
  · exact .inl ⟨q, xs, v, _, rfl, rfl, h1, h2, k⟩
  · exact .inr (.inl ⟨q, xs, v, _, rfl, rfl, SqL.of h1, h2, k⟩)
  · exact .inr (.inr ⟨q, kvs, v, _, rfl, rfl, h1, h2, k⟩)
theorem PtAt.kp (k : Kp S H H') (h : PtAt K H q f dom) (n : ¬ q ∈ S) : PtAt K H' q f dom := fun v hv => by
  rcases h v hv with ⟨xs, h1, h2⟩ | ⟨xs, h1, h2⟩ | ⟨kvs, h1, h2⟩
  · exact .inl ⟨xs, k.tup h1, h2⟩
  · exact .inr (.inl ⟨xs, k.get n h1, h2⟩)
  · exact .inr (.inr ⟨kvs, k.get n h1, h2⟩)
theorem PtAt.kp0 (k : Kp [] H H') (h : PtAt K H q f dom) : PtAt K H' q f dom := h.kp k fun z => nomatch z
theorem PtAt.ofT (h : SqT K H q (pt.map V.int)) : PtAt K H q (at_ pt) fun v => 0 ≤ v ∧ v < pt.length := fun v hv => .inl ⟨_, h, atI_ints hv.1 hv.2⟩
theorem PtAt.ofL (h : H q = some (.lst (pt.map V.int))) : PtAt K H q (at_ pt) fun v => 0 ≤ v ∧ v < pt.length := fun v hv => .inr (.inl ⟨_, h, atI_ints hv.1 hv.2⟩)
theorem PtAt.mono (h : PtAt K H q f dom) (l : ∀ v, dom' v → dom v) : PtAt K H q f dom' := fun v hv => h v (l v hv)
end
def tmBd (ts : Tms) : Prop := ∀ z ∈ ts, -2000000000000000000 < z.2 ∧ z.2 < 2000000000000000000
def spSumF (K : PySem.W.Frag) : Sp := fun vs H Q _ => ∃ (p q : Addr) (ts : Tms) (f : Pt) (dom : Int → Prop), vs = [.ref p, .ref q] ∧ Im K H (.ref p) (tmD ts) ∧ PtAt K H q f dom ∧ (∀ z ∈ ts, dom z.1) ∧ tmBd ts ∧ Q (.int (sumF ts f)) H
theorem spSumF_i {K : PySem.W.Frag} {H : Hp} {Q : VK} {E : XK} {p q : Addr} {ts : Tms} {f : Pt} {dom : Int → Prop} (h1 : Im K H (.ref p) (tmD ts)) (h2 : PtAt K H q f dom) (h3 : ∀ z ∈ ts, dom z.1) (h4 : tmBd ts) (k : Q (.int (sumF ts f)) H) : spSumF K [.ref p, .ref q] H Q E :=
  ⟨p, q, ts, f, dom, rfl, h1, h2, h3, h4, k⟩
def spNegT (K : PySem.W.Frag) : Sp := fun vs H Q _ => ∃ (p : Addr) (ts : Tms), vs = [.ref p] ∧ Im K H (.ref p) (tmD ts) ∧ ts.length ≤ 1000 ∧ ∀ (p' : Addr) (H' : Hp), Im K H' (.ref p') (tmD (negT ts)) → Kp [] H H' → Q (.ref p') H'
local macro_rules | `(tactic| walk_at "cg h") => `(tactic| (first
  | ((with_reducible show PtAt _ _ _ _ _); exact PtAt.kp0 (by assumption) (by walk_at "cg h"))
  | fail))
local macro_rules | `(tactic| walk_at "cg h") => `(tactic| assumption)

/-! ### data: when equal -/
mutual
/-- no bool, no dict, no list within -/
def nb : PyData → Bool
  | .none => true
  | .int _ => true
  | .str _ => true
  | .tuple xs => nbAll xs
  | _ => false
def nbAll : List PyData → Bool
  | [] => true
  | x :: xs => nb x && nbAll xs
end
mutual
theorem eqv_nb : ∀ (d e : PyData), nb d = true → nb e = true → PyData.eqv d e = true → d = e
  | .none, .none, _, _, _ => rfl
  | .int i, .int j, _, _, h => by
    have h' : (i == j) = true := by simpa only [PyData.eqv] using h
    rw [beq_iff_eq.mp h']
  | .str i, .str j, _, _, h => by
    have h' : (i == j) = true := by simpa only [PyData.eqv] using h
    rw [beq_iff_eq.mp h']
  | .tuple xs, .tuple ys, h1, h2, h => by
    rw [eqvAll_nb xs ys (by simpa only [nb] using h1) (by simpa only [nb] using h2) (by simpa only [PyData.eqv] using h)]
  | .none, .int _, _, _, h => by simp [PyData.eqv] at h
  | .none, .str _, _, _, h => by simp [PyData.eqv] at h
  | .none, .tuple _, _, _, h => by simp [PyData.eqv] at h
  | .int _, .none, _, _, h => by simp [PyData.eqv] at h
  | .int _, .str _, _, _, h => by simp [PyData.eqv] at h
  | .int _, .tuple _, _, _, h => by simp [PyData.eqv] at h
  | .str _, .none, _, _, h => by simp [PyData.eqv] at h
  | .str _, .int _, _, _, h => by simp [PyData.eqv] at h
  | .str _, .tuple _, _, _, h => by simp [PyData.eqv] at h
  | .tuple _, .none, _, _, h => by simp [PyData.eqv] at h
  | .tuple _, .int _, _, _, h => by simp [PyData.eqv] at h
  | .tuple _, .str _, _, _, h => by simp [PyData.eqv] at h
  | .bool _, _, h, _, _ => by simp [nb] at h
  | .list _, _, h, _, _ => by simp [nb] at h
  | .dict _, _, h, _, _ => by simp [nb] at h
  | _, .bool _, _, h, _ => by simp [nb] at h
  | _, .list _, _, h, _ => by simp [nb] at h
  | _, .dict _, _, h, _ => by simp [nb] at h
theorem eqvAll_nb : ∀ (ds es : List PyData), nbAll ds = true → nbAll es = true → PyData.eqvAll ds es = true → ds = es
  | [], [], _, _, _ => rfl
  | [], _ :: _, _, _, h => by simp [PyData.eqvAll] at h
  | _ :: _, [], _, _, h => by simp [PyData.eqvAll] at h
  | d :: ds, e :: es, h1, h2, h => by
    simp only [nbAll, Bool.and_eq_true] at h1 h2
    simp only [PyData.eqvAll, Bool.and_eq_true] at h
    rw [eqv_nb d e h1.1 h2.1 h.1, eqvAll_nb ds es h1.2 h2.2 h.2]
end
theorem nbAll_of {ds : List PyData} (h : ∀ d ∈ ds, nb d = true) : nbAll ds = true := by
  induction ds with
  | nil => rfl
  | cons d ds ih => simp only [nbAll, h d List.mem_cons_self, ih fun e he => h e (List.mem_cons_of_mem _ he), Bool.and_self]
/-- an encoding whose values are equal exactly if the data are -/
theorem eqv_dec {α : Type} [DecidableEq α] {f : α → PyData} (hf : ∀ a b, f a = f b → a = b) (hn : ∀ a, nb (f a) = true) (hs : ∀ a, (f a).canLay0 = true) (a b : α) : PyData.eqv (f a) (f b) = decide (a = b) := by
  by_cases h : a = b
  · subst h
    rw [PySem.SeqAt.eqv_refl _ (hs a), decide_eq_true rfl]
  · rw [decide_eq_false h]
    cases q : PyData.eqv (f a) (f b) with
    | false => rfl
    | true => exact absurd (hf a b (eqv_nb _ _ (hn a) (hn b) q)) h
theorem map_inj {α β : Type} {f : α → β} (hf : ∀ a b, f a = f b → a = b) : ∀ {xs ys : List α}, xs.map f = ys.map f → xs = ys
  | [], [], _ => rfl
  | [], _ :: _, h => by simp at h
  | _ :: _, [], h => by simp at h
  | x :: xs, y :: ys, h => by
    simp only [List.map_cons, List.cons.injEq] at h
    rw [hf x y h.1, map_inj hf h.2]
theorem tD_inj (a b : Int × Int) (h : tD a = tD b) : a = b := by
  simp only [tD, PyData.tuple.injEq, List.cons.injEq, PyData.int.injEq, and_true] at h
  exact Prod.ext h.1 h.2
theorem tmD_inj (a b : Tms) (h : tmD a = tmD b) : a = b := by
  simp only [tmD, PyData.tuple.injEq] at h
  exact map_inj tD_inj h
theorem tmD_nb (a : Tms) : nb (tmD a) = true := by
  simp only [tmD, nb]
  exact nbAll_of fun d hd => by
    obtain ⟨z, _, rfl⟩ := List.mem_map.mp hd
    rfl
theorem tmD_eqv (a b : Tms) : PyData.eqv (tmD a) (tmD b) = decide (a = b) := eqv_dec tmD_inj tmD_nb (fun a => (tmD_shp a).lay) a b
/-! ### literals and facts -/
structure Lit where
  v : Int
  r : Rel
  a : Int
  deriving DecidableEq
def Lit.d (l : Lit) : PyData := litD l.v l.r l.a
theorem Rel.s_inj (a b : Rel) (h : a.s = b.s) : a = b := by
  have e : (decide (a = b) || !decide (a.s = b.s)) = true := by
    cases a <;> cases b <;> decide +kernel
  rw [h, decide_eq_true rfl, Bool.not_true, Bool.or_false] at e
  exact of_decide_eq_true e
theorem Lit.d_inj (a b : Lit) (h : a.d = b.d) : a = b := by
  simp only [Lit.d, litD, PyData.tuple.injEq, List.cons.injEq, PyData.int.injEq, PyData.str.injEq, and_true] at h
  obtain ⟨h1, h2, h3⟩ := h
  cases a
  cases b
  simp only at h1 h2 h3
  rw [h1, Rel.s_inj _ _ h2, h3]
theorem Lit.shp (l : Lit) : Shp 1 l.d := .tup (shp_cons (.int _) (shp_cons (.str (Rel.ok _)) (shp_cons (.int _) shp_nil)))
theorem Lit.d_nb (l : Lit) : nb l.d = true := rfl
theorem Lit.eqv (a b : Lit) : PyData.eqv a.d b.d = decide (a = b) := eqv_dec Lit.d_inj Lit.d_nb (fun a => (Lit.shp a).lay) a b
def litsD (ls : List Lit) : PyData := .tuple (ls.map Lit.d)
theorem litsD_shp (ls : List Lit) : Shp 2 (litsD ls) := .tup fun d hd => by
  obtain ⟨z, _, rfl⟩ := List.mem_map.mp hd
  exact Lit.shp z
def Lit.h (l : Lit) (f : Pt) : Bool := l.r.h (f l.v) l.a
theorem lit_mk {K : PySem.W.Frag} {H : Hp} {p : Addr} {v a : Int} {r : Rel} (h : LitAt K H p v r a) : Im K H (.ref p) (Lit.d ⟨v, r, a⟩) := .tup h (.cons (.int _) (.cons (.str _) (.cons (.int _) .nil)))
theorem lit_at {K : PySem.W.Frag} {H : Hp} {x : V} {l : Lit} (h : Im K H x l.d) : ∃ q, x = .ref q ∧ LitAt K H q l.v l.r l.a := by
  obtain ⟨q, rfl⟩ := Im.isRef h
  exact ⟨q, rfl, Im.sq h rfl⟩
theorem room65 {k : Nat} {A : Around} (r : Room k A) : A.units + 65 < cLine := by have := r.un; omega
/-! ### x in a tuple of data -/
section
variable {X : Cx}
def rInDT (K : PySem.W.Frag) : R2 := fun x y H Q => ∃ d ds, Dp K H x d ∧ Dp K H y (.tuple ds) ∧ SeqAt.shaped d = true ∧ SeqAt.shaped (.tuple ds) = true ∧ Q (.bl (ds.any fun z => PyData.eqv z d)) H
theorem cg_inDT (hu : X.A.units + 65 < cLine) : OpR X (compareOp .In) (rInDT X.K) := by
  intro pins s σ H x y v u Q I rx ry h
  obtain ⟨d, ds, hd, he, sd, se, q⟩ := h
  obtain ⟨as, r1⟩ := Dp.reads I d x v hd rx
  obtain ⟨bs, r2⟩ := Dp.reads I (.tuple ds) y u he ry
  exact SeqAt.in_tuple_reads r2 r1 (by have q := SeqAt.canLay_of_shaped se; simpa only [PyData.canLay0] using q) (SeqAt.canLay_of_shaped sd) (PyProof.Rows.room_in_shaped sd hu) ⟨.bl _, H, I, rfl, q⟩
theorem inDT (K : PySem.W.Frag) {k : Nat} {A : Around} (r : Room k A) (h : X.K = K := by rfl) (ha : X.A = A := by rfl) : OpR X (compareOp .In) (rInDT K) := h ▸ cg_inDT (by rw [ha]; exact room65 r)
end
theorem intsD_inj (a b : List Int) (h : intsD a = intsD b) : a = b := by
  simp only [intsD, PyData.tuple.injEq] at h
  exact map_inj (fun x y e => by simpa using e) h
theorem intsD_nb (a : List Int) : nb (intsD a) = true := by
  simp only [intsD, nb]
  exact nbAll_of fun d hd => by
    obtain ⟨z, _, rfl⟩ := List.mem_map.mp hd
    rfl
theorem intsD_shp (a : List Int) : Shp 1 (intsD a) := .tup fun d hd => by
  obtain ⟨z, _, rfl⟩ := List.mem_map.mp hd
  exact .int z
theorem intsD_eqv (a b : List Int) : PyData.eqv (intsD a) (intsD b) = decide (a = b) := eqv_dec intsD_inj intsD_nb (fun a => (intsD_shp a).lay) a b
theorem any_in {α : Type} [DecidableEq α] {d : α → PyData} (hd : ∀ a b, PyData.eqv (d a) (d b) = decide (a = b)) (as : List α) (a : α) : ((as.map d).any fun z => PyData.eqv z (d a)) = decide (a ∈ as) := by
  rw [List.any_map]
  have e : ((fun z => PyData.eqv z (d a)) ∘ d) = fun b => decide (b = a) := by
    funext b
    exact hd b a
  rw [e, Bool.eq_iff_iff]
  simp


/-! ### exceptions of own classes without an __init__ of their own -/
def exC (K : PySem.W.Frag) (x : Str) : Value := .ref (He.ga K x)
structure ExcAt (K : PySem.W.Frag) (mg : Str → Option Value) (x : Str) : Prop where
  m : mg x = some (exC K x)
  ex : PySem.W.excIn K (He.ga K x) He.veBase "ValueError.__new__" = true
  kp : PySem.W.keepIn K (exC K x) = true
  sub : PySem.W.subIn K (exC K x) (.type "BaseException") = some true
  ty : PySem.W.typeIn K (exC K x) = some (.type "type")
section
open PySem.Spec PyProof.Rows
/-- X() -/
theorem pmk_own0 {X : Cx} {x : Str} {p pos : Pos} (D : ExcAt X.K X.mg x) (hg : Gl X x) (hdb : (x == ("__debug__" : Str)) = false := by decide) : PMk X (.Call (.Name x p) [] [] pos) (fun _ H Q => Q (exC X.K x) none H) := by
  intro pins s σ H Q I h
  refine wpAny_Call_Name_kw (ld_glob I hg D.m ?_ hdb)
  refine PySem.W.callWith_K0 (first := []) I.kIn D.kp ?_
  obtain ⟨bm, N, nm, qn, bs, hdct, sn, sub, ab, col, dd, k0, k1, k2, k3, k5, mN, hC, hN, hni, T⟩ := exc_obj I.kIn D.ex
  obtain ⟨hp, g, dr, tk, os⟩ := s
  refine wpAny_call_exc_subT PySem.F.excBase_ValueError T hC hN hni (fun h' e hm => ?_) (Nat.zero_le _)
  exact mk_of I hm (raises_own D.sub D.ty) h (I.hok.gone hm.new)
instance s_callS {sp : Sp} {E : L2.St → XK} {t : TA} {σ : L2.St} {H : Hp} {Q : VK} : Stp (tCallS sp E t σ H Q) (t σ H fun vs H1 => sp vs H1 Q (E σ)) := ⟨id⟩
theorem pe_isS {X : Cx} {CX : CXT} {k : Nat} {x : Str} {ps : List Str} {sp : Sp} {E : L2.St → XK} {t : TA} {p pos : Pos} {e : Expr} {es : List Expr} (D : Is X.prog X.w X.K X.mg X.base CX k x ps sp) (hr : Room k X.A) (hg : Gl X x) (hx : ∀ σ, PassesAt CX X σ (E σ)) (ha : PA X (e :: es) t) (hdb : (x == ("__debug__" : Str)) = false := by decide)
    (he : starEach (e :: es) X.env = (false, eval e X.env) :: starEach es X.env := by rfl) (hpl : (backTo pos (starEach es X.env)).any (·.1) = false := by rfl) : PE X (.Call (.Name x p) (e :: es) [] pos) (tCallS sp E t) := by
  obtain ⟨f, fd, F, hm, hk, hb⟩ := D.ex
  exact pe_callS F hr hg hm hk hb hx ha hdb he hpl
end

/-! ### tuples of ints compared -/
theorem ltT {X : Cx} (K : PySem.W.Frag) {k : Nat} {A : Around} (r : Room k A) (h : X.K = K := by rfl) (ha : X.A = A := by rfl) : OpR X (compareOp .Lt) (rLtT K) := h ▸ op_ltT (by rw [ha]; have := room65 r; omega)
theorem r_ltT {K : PySem.W.Frag} {H : Hp} {Q : VK} {a b : Addr} {ns ms : List Int} (h1 : SqT K H a (ns.map V.int)) (h2 : SqT K H b (ms.map V.int)) (q : Q (.bl (HT.lexLt ns ms)) H) : rLtT K (.ref a) (.ref b) H Q := ⟨a, b, ns, ms, rfl, rfl, h1, h2, q⟩

/-! ### bodies -/
inductive Body where
  | row (ts : Tms) (r : Rel) (n : Int)
  | any (ls : List Lit)
  | when (l : Lit) (ts : Tms) (r : Rel) (n : Int)
  | diff (us : List Int)
  | table (us : List Int) (rows : List (List Int))
  | elem (x : Int) (es : List Int) (y : Int)
  | times (x y z : Int)
  deriving DecidableEq
def rowsD (rows : List (List Int)) : PyData := .tuple (rows.map intsD)
def Body.d : Body → PyData
  | .row ts r n => .tuple [.str (Str.ofString "row"), tmD ts, .str r.s, .int n]
  | .any ls => .tuple [.str (Str.ofString "any"), litsD ls]
  | .when l ts r n => .tuple [.str (Str.ofString "when"), l.d, tmD ts, .str r.s, .int n]
  | .diff us => .tuple [.str (Str.ofString "different"), intsD us]
  | .table us rows => .tuple [.str (Str.ofString "table"), intsD us, rowsD rows]
  | .elem x es y => .tuple [.str (Str.ofString "element"), .int x, intsD es, .int y]
  | .times x y z => .tuple [.str (Str.ofString "times"), .int x, .int y, .int z]
def Body.vars : Body → List Int
  | .row ts _ _ => ts.map (·.1)
  | .any ls => ls.map (·.v)
  | .when l ts _ _ => l.v :: ts.map (·.1)
  | .diff us => us
  | .table us _ => us
  | .elem x _ y => [x, y]
  | .times x y z => [x, y, z]
def Body.h (f : Pt) : Body → Bool
  | .row ts r n => r.h (sumF ts f) n
  | .any ls => ls.any fun l => l.h f
  | .when l ts r n => !l.h f || r.h (sumF ts f) n
  | .diff us => decide (us.map f).Nodup
  | .table us rows => decide (us.map f ∈ rows)
  | .elem x es y => decide (0 ≤ f x) && (decide (f x < es.length) && decide (es.getD (f x).toNat 0 = f y))
  | .times x y z => decide (f x * f y = f z)
/-- sizes for the walk -/
def Body.bd : Body → Prop
  | .row ts _ _ => tmBd ts ∧ ts.length ≤ 62
  | .any ls => ls.length ≤ 62
  | .when _ ts _ _ => tmBd ts ∧ ts.length ≤ 62
  | .diff us => us.length ≤ 62
  | .table us rows => us.length ≤ 62 ∧ rows.length ≤ 1000
  | .elem _ es _ => es.length ≤ 1000
  | .times _ _ _ => True
theorem any_congr' {α : Type} {as : List α} {f g : α → Bool} (h : ∀ a ∈ as, f a = g a) : as.any f = as.any g := by
  induction as with
  | nil => rfl
  | cons a as ih => rw [List.any_cons, List.any_cons, h a List.mem_cons_self, ih fun b hb => h b (List.mem_cons_of_mem _ hb)]
theorem Body.bd_vars {b : Body} (h : b.bd) : b.vars.length ≤ 63 := by
  cases b <;> simp only [Body.bd, Body.vars, List.length_map, List.length_cons, List.length_nil] at h ⊢ <;> omega
theorem Body.h_congr {b : Body} {f g : Pt} (h : ∀ v ∈ b.vars, f v = g v) : b.h f = b.h g := by
  have m : ∀ us : List Int, (∀ v ∈ us, f v = g v) → us.map f = us.map g := fun us h => List.map_congr_left h
  have s : ∀ ts : Tms, (∀ v ∈ ts.map (·.1), f v = g v) → sumF ts f = sumF ts g := fun ts h => sumF_congr fun z hz => h _ (List.mem_map.mpr ⟨z, hz, rfl⟩)
  cases b with
  | row ts r n => simp only [Body.h, s ts h]
  | any ls =>
    simp only [Body.h]
    refine any_congr' fun l hl => ?_
    simp only [Lit.h, h l.v (List.mem_map.mpr ⟨l, hl, rfl⟩)]
  | when l ts r n =>
    simp only [Body.h, Lit.h, h l.v List.mem_cons_self, s ts fun v hv => h v (List.mem_cons_of_mem _ hv)]
  | diff us => simp only [Body.h, m us h]
  | table us rows => simp only [Body.h, m us h]
  | elem x es y => simp only [Body.h, h x (by simp [Body.vars]), h y (by simp [Body.vars])]
  | times x y z => simp only [Body.h, h x (by simp [Body.vars]), h y (by simp [Body.vars]), h z (by simp [Body.vars])]
theorem rowsD_shp (rows : List (List Int)) : Shp 2 (rowsD rows) := .tup fun d hd => by
  obtain ⟨z, _, rfl⟩ := List.mem_map.mp hd
  exact intsD_shp z
theorem Body.shp (b : Body) : Shp 3 b.d := by
  have t1 : ∀ ts, Shp 2 (tmD ts) := tmD_shp
  cases b with
  | row ts r n => exact .tup (shp_cons (.str (by decide +kernel)) (shp_cons (tmD_shp ts) (shp_cons (.str (Rel.ok r)) (shp_cons (.int _) shp_nil))))
  | any ls => exact .tup (shp_cons (.str (by decide +kernel)) (shp_cons (litsD_shp ls) shp_nil))
  | when l ts r n => exact .tup (shp_cons (.str (by decide +kernel)) (shp_cons ((Lit.shp l).mono (by decide)) (shp_cons (tmD_shp ts) (shp_cons (.str (Rel.ok r)) (shp_cons (.int _) shp_nil)))))
  | diff us => exact .tup (shp_cons (.str (by decide +kernel)) (shp_cons ((intsD_shp us).mono (by decide)) shp_nil))
  | table us rows => exact .tup (shp_cons (.str (by decide +kernel)) (shp_cons ((intsD_shp us).mono (by decide)) (shp_cons (rowsD_shp rows) shp_nil)))
  | elem x es y => exact .tup (shp_cons (.str (by decide +kernel)) (shp_cons (.int _) (shp_cons ((intsD_shp es).mono (by decide)) (shp_cons (.int _) shp_nil))))
  | times x y z => exact .tup (shp_cons (.str (by decide +kernel)) (shp_cons (.int _) (shp_cons (.int _) (shp_cons (.int _) shp_nil))))
abbrev BodyAt (K : PySem.W.Frag) (H : Hp) (p : Addr) (b : Body) : Prop := Im K H (.ref p) b.d
theorem ImAll.c {K : PySem.W.Frag} {H : Hp} {xs : List V} {d : PyData} {ds : List PyData} (h : ImAll K H xs (d :: ds)) : ∃ x ys, xs = x :: ys ∧ Im K H x d ∧ ImAll K H ys ds := by
  cases h with
  | cons h a => exact ⟨_, _, rfl, h, a⟩
theorem ImAll.n {K : PySem.W.Frag} {H : Hp} {xs : List V} (h : ImAll K H xs []) : xs = [] := by
  cases h
  rfl
section
variable {K : PySem.W.Frag} {H : Hp} {p : Addr} {ts : Tms} {n x y z : Int} {ls : List Lit} {l : Lit} {r : Rel} {us es : List Int} {rows : List (List Int)}
theorem b_row (h : BodyAt K H p (.row ts r n)) : ∃ q, SqT K H p [.str (Str.ofString "row"), .ref q, .str r.s, .int n] ∧ Im K H (.ref q) (tmD ts) := by
  obtain ⟨_, h1, h2⟩ := Im.open h
  obtain ⟨_, _, rfl, a1, h2⟩ := h2.c
  obtain ⟨_, _, rfl, a2, h2⟩ := h2.c
  obtain ⟨_, _, rfl, a3, h2⟩ := h2.c
  obtain ⟨_, _, rfl, a4, h2⟩ := h2.c
  obtain rfl := h2.n
  obtain ⟨q, rfl⟩ := a2.isRef
  cases a1; cases a3; cases a4
  exact ⟨q, h1, a2⟩
theorem b_any (h : BodyAt K H p (.any ls)) : ∃ q, SqT K H p [.str (Str.ofString "any"), .ref q] ∧ Im K H (.ref q) (litsD ls) := by
  obtain ⟨_, h1, h2⟩ := Im.open h
  obtain ⟨_, _, rfl, a1, h2⟩ := h2.c
  obtain ⟨_, _, rfl, a2, h2⟩ := h2.c
  obtain rfl := h2.n
  obtain ⟨q, rfl⟩ := a2.isRef
  cases a1
  exact ⟨q, h1, a2⟩
theorem b_when (h : BodyAt K H p (.when l ts r n)) : ∃ q1 q, SqT K H p [.str (Str.ofString "when"), .ref q1, .ref q, .str r.s, .int n] ∧ LitAt K H q1 l.v l.r l.a ∧ Im K H (.ref q) (tmD ts) := by
  obtain ⟨_, h1, h2⟩ := Im.open h
  obtain ⟨_, _, rfl, a1, h2⟩ := h2.c
  obtain ⟨_, _, rfl, a0, h2⟩ := h2.c
  obtain ⟨_, _, rfl, a2, h2⟩ := h2.c
  obtain ⟨_, _, rfl, a3, h2⟩ := h2.c
  obtain ⟨_, _, rfl, a4, h2⟩ := h2.c
  obtain rfl := h2.n
  obtain ⟨q, rfl⟩ := a2.isRef
  obtain ⟨q1, rfl, L⟩ := lit_at a0
  cases a1; cases a3; cases a4
  exact ⟨q1, q, h1, L, a2⟩
theorem b_diff (h : BodyAt K H p (.diff us)) : ∃ q, SqT K H p [.str (Str.ofString "different"), .ref q] ∧ SqT K H q (us.map V.int) := by
  obtain ⟨_, h1, h2⟩ := Im.open h
  obtain ⟨_, _, rfl, a1, h2⟩ := h2.c
  obtain ⟨_, _, rfl, a2, h2⟩ := h2.c
  obtain rfl := h2.n
  obtain ⟨q, rfl⟩ := a2.isRef
  cases a1
  exact ⟨q, h1, a2.intsT⟩
theorem b_table (h : BodyAt K H p (.table us rows)) : ∃ q q2, SqT K H p [.str (Str.ofString "table"), .ref q, .ref q2] ∧ SqT K H q (us.map V.int) ∧ Im K H (.ref q2) (rowsD rows) := by
  obtain ⟨_, h1, h2⟩ := Im.open h
  obtain ⟨_, _, rfl, a1, h2⟩ := h2.c
  obtain ⟨_, _, rfl, a2, h2⟩ := h2.c
  obtain ⟨_, _, rfl, a3, h2⟩ := h2.c
  obtain rfl := h2.n
  obtain ⟨q, rfl⟩ := a2.isRef
  obtain ⟨q2, rfl⟩ := a3.isRef
  cases a1
  exact ⟨q, q2, h1, a2.intsT, a3⟩
theorem b_elem (h : BodyAt K H p (.elem x es y)) : ∃ q, SqT K H p [.str (Str.ofString "element"), .int x, .ref q, .int y] ∧ SqT K H q (es.map V.int) := by
  obtain ⟨_, h1, h2⟩ := Im.open h
  obtain ⟨_, _, rfl, a1, h2⟩ := h2.c
  obtain ⟨_, _, rfl, a3, h2⟩ := h2.c
  obtain ⟨_, _, rfl, a2, h2⟩ := h2.c
  obtain ⟨_, _, rfl, a4, h2⟩ := h2.c
  obtain rfl := h2.n
  obtain ⟨q, rfl⟩ := a2.isRef
  cases a1; cases a3; cases a4
  exact ⟨q, h1, a2.intsT⟩
theorem b_times (h : BodyAt K H p (.times x y z)) : SqT K H p [.str (Str.ofString "times"), .int x, .int y, .int z] := Im.sq h rfl
end
/-- a list of ints built by hand at l -/
def spUnkn (K : PySem.W.Frag) : Sp := fun vs H Q _ => ∃ (p : Addr) (b : Body), vs = [.ref p] ∧ BodyAt K H p b ∧ b.bd ∧ ∀ (l : Addr) (ns : List Int) (H' : Hp), H l = none → H' l = some (.lst (ns.map V.int)) → ns.Pairwise (· < ·) → (∀ k, k ∈ ns ↔ k ∈ b.vars) → Kp [] H H' → Q (.ref l) H'
def ptBd (f : Pt) (dom : Int → Prop) : Prop := ∀ v, dom v → -1000000000000 < f v ∧ f v < 1000000000000
def spHolds (K : PySem.W.Frag) : Sp := fun vs H Q _ => ∃ (p q : Addr) (b : Body) (f : Pt) (dom : Int → Prop), vs = [.ref p, .ref q] ∧ BodyAt K H p b ∧ b.bd ∧ PtAt K H q f dom ∧ ptBd f dom ∧ (∀ v ∈ b.vars, dom v) ∧ ∀ H', Kp [] H H' → Q (.bl (b.h f)) H'
def rCatL (K : PySem.W.Frag) : R2 := fun x y H Q => ∃ l b xs zs, x = .ref l ∧ y = .ref b ∧ H l = some (.lst xs) ∧ H b = some (.lst zs) ∧ xs.length + zs.length ≤ 10000 ∧ ∀ p H2, H p = none → H2 p = some (.lst (xs ++ zs)) → Kp [] H H2 → Q (.ref p) H2
theorem op_catL {X : Cx} (K : PySem.W.Frag) : OpR X (binaryOp .Add) (rCatL K) := fun pins s σ H x y v u Q I rx ry ⟨l, b, xs, zs, e1, e2, h1, h2, hz, q⟩ =>
  op_cat pins s σ H x y v u Q I rx ry ⟨l, b, xs, zs, e1, e2, h1, h2, by rw [sizeLine_eq]; omega, fun p hp => q p _ hp upd_same (Kp.new hp)⟩
theorem r_cat {K : PySem.W.Frag} {H : Hp} {Q : VK} {l b : Addr} {xs zs : List V} (h1 : H l = some (.lst xs)) (h2 : H b = some (.lst zs)) (hz : xs.length + zs.length ≤ 10000) (q : ∀ p H2, H p = none → H2 p = some (.lst (xs ++ zs)) → Kp [] H H2 → Q (.ref p) H2) : rCatL K (.ref l) (.ref b) H Q :=
  ⟨l, b, xs, zs, rfl, rfl, h1, h2, hz, q⟩

/-! ### the numbers of a range that are in a list -/
theorem sorted_ext : ∀ {xs ys : List Int}, xs.Pairwise (· < ·) → ys.Pairwise (· < ·) → (∀ k, k ∈ xs ↔ k ∈ ys) → xs = ys
  | [], [], _, _, _ => rfl
  | [], y :: ys, _, _, h => by simpa using (h y).2 List.mem_cons_self
  | x :: xs, [], _, _, h => by simpa using (h x).1 List.mem_cons_self
  | x :: xs, y :: ys, h1, h2, h => by
    rw [List.pairwise_cons] at h1 h2
    have e : x = y := by
      rcases List.mem_cons.mp ((h x).1 List.mem_cons_self) with q | q
      · exact q
      · rcases List.mem_cons.mp ((h y).2 List.mem_cons_self) with q2 | q2
        · exact q2.symm
        · have a := h1.1 _ q2
          have b := h2.1 _ q
          omega
    subst e
    rw [sorted_ext h1.2 h2.2 fun k => ?_]
    constructor
    · intro hk
      rcases List.mem_cons.mp ((h k).1 (List.mem_cons_of_mem _ hk)) with q | q
      · subst q
        exact absurd (h1.1 _ hk) (Int.lt_irrefl _)
      · exact q
    · intro hk
      rcases List.mem_cons.mp ((h k).2 (List.mem_cons_of_mem _ hk)) with q | q
      · subst q
        exact absurd (h2.1 _ hk) (Int.lt_irrefl _)
      · exact q
def numsOf (us : List Int) (i : Nat) : List Int := ((List.range i).map Int.ofNat).filter fun v => decide (v ∈ us)
theorem numsOf_succ (us : List Int) (i : Nat) : numsOf us (i + 1) = numsOf us i ++ (if decide (((i : Nat) : Int) ∈ us) = true then [((i : Nat) : Int)] else []) := by
  unfold numsOf
  rw [List.range_succ, List.map_append, List.filter_append]
  congr 1
  simp only [List.map_cons, List.map_nil, List.filter_cons, List.filter_nil]
  rfl
theorem numsOf_le (us : List Int) (i : Nat) : (numsOf us i).length ≤ i := by
  have q := List.length_filter_le (fun v => decide (v ∈ us)) ((List.range i).map Int.ofNat)
  rw [List.length_map, List.length_range] at q
  exact q
theorem numsOf_mem {us : List Int} {i : Nat} {k : Int} : k ∈ numsOf us i ↔ (0 ≤ k ∧ k < i) ∧ k ∈ us := by
  unfold numsOf
  rw [List.mem_filter, List.mem_map]
  simp only [decide_eq_true_eq, List.mem_range]
  constructor
  · rintro ⟨⟨j, hj, rfl⟩, h⟩
    exact ⟨⟨Int.natCast_nonneg j, by show (j : Int) < i; omega⟩, h⟩
  · rintro ⟨⟨h0, h1⟩, h⟩
    exact ⟨⟨k.toNat, by omega, by show ((k.toNat : Nat) : Int) = k; omega⟩, h⟩
theorem numsOf_asc (us : List Int) (i : Nat) : (numsOf us i).Pairwise (· < ·) := by
  refine List.Pairwise.filter _ ?_
  rw [List.pairwise_map]
  exact List.pairwise_lt_range.imp fun {a b} h => by show (a : Int) < b; omega
theorem intsL_dp {K : PySem.W.Frag} {H : Hp} {l : Addr} {ns : List Int} (h : H l = some (.lst (ns.map V.int))) : Dp K H (.ref l) (.list (ns.map PyData.int)) := .lst (SqL.of h) (imInts ns).dp
theorem intsL_shp (ns : List Int) : Shp 1 (.list (ns.map PyData.int)) := .list fun d hd => by
  obtain ⟨z, _, rfl⟩ := List.mem_map.mp hd
  exact .int z

/-! ### bodies that fit; the law's own -/
def litFit (m : Int) (l : Lit) : Prop := 0 ≤ l.v ∧ l.v < m ∧ -1001 ≤ l.a ∧ l.a ≤ 1001
def tmFit (m : Int) (ts : Tms) : Prop := ts.length ≤ 60 ∧ (ts.map (·.1)).Pairwise (· < ·) ∧ ∀ z ∈ ts, 0 ≤ z.1 ∧ z.1 < m ∧ z.2 ≠ 0 ∧ -1000000 ≤ z.2 ∧ z.2 ≤ 1000000
def numFit (m : Int) (us : List Int) : Prop := us.Nodup ∧ ∀ u ∈ us, 0 ≤ u ∧ u < m
def entFit (es : List Int) : Prop := ∀ e ∈ es, -1000 ≤ e ∧ e ≤ 1000
def linFit (m : Int) (ts : Tms) (r : Rel) (n : Int) : Prop := tmFit m ts ∧ r ≠ .ne ∧ -1000000000 ≤ n ∧ n ≤ 1000000000
def Body.fit (m : Int) : Body → Prop
  | .row ts r n => linFit m ts r n
  | .any ls => (1 ≤ ls.length ∧ ls.length ≤ 40) ∧ ls.Nodup ∧ ∀ l ∈ ls, litFit m l
  | .when l ts r n => litFit m l ∧ linFit m ts r n
  | .diff us => (2 ≤ us.length ∧ us.length ≤ 20) ∧ numFit m us
  | .table us rows => ((1 ≤ us.length ∧ us.length ≤ 6) ∧ numFit m us) ∧ (1 ≤ rows.length ∧ rows.length ≤ 200) ∧ ∀ r ∈ rows, r.length = us.length ∧ entFit r
  | .elem x es y => ((0 ≤ x ∧ x < m) ∧ (0 ≤ y ∧ y < m)) ∧ (1 ≤ es.length ∧ es.length ≤ 60) ∧ entFit es
  | .times x y z => (0 ≤ x ∧ x < m) ∧ (0 ≤ y ∧ y < m) ∧ (0 ≤ z ∧ z < m)
theorem tmFit.bd {m : Int} {ts : Tms} (h : tmFit m ts) : tmBd ts := fun z hz => by
  have q := h.2.2 z hz
  omega
theorem Body.fit_bd {m : Int} {b : Body} (h : b.fit m) : b.bd := by
  cases b with
  | row ts r n => exact ⟨h.1.bd, by have := h.1.1; omega⟩
  | any ls => exact (show ls.length ≤ 62 by have := h.1.2; omega)
  | when l ts r n => exact ⟨h.2.1.bd, by have := h.2.1.1; omega⟩
  | diff us => exact (show us.length ≤ 62 by have := h.1.2; omega)
  | table us rows => exact ⟨by have := h.1.1.2; omega, by have := h.2.1.2; omega⟩
  | elem x es y => exact (show es.length ≤ 1000 by have := h.2.1.2; omega)
  | times x y z => trivial
theorem Body.fit_vars {m : Int} {b : Body} (h : b.fit m) : ∀ v ∈ b.vars, 0 ≤ v ∧ v < m := by
  have t : ∀ ts, tmFit m ts → ∀ v ∈ ts.map (fun z : Int × Int => z.1), 0 ≤ v ∧ v < m := fun ts h v hv => by
    obtain ⟨z, hz, rfl⟩ := List.mem_map.mp hv
    have q := h.2.2 z hz
    exact ⟨q.1, q.2.1⟩
  cases b with
  | row ts r n => exact t ts h.1
  | any ls =>
    intro v hv
    obtain ⟨l, hl, rfl⟩ := List.mem_map.mp hv
    have q := h.2.2 l hl
    exact ⟨q.1, q.2.1⟩
  | when l ts r n =>
    intro v hv
    rcases List.mem_cons.mp hv with rfl | hv
    · exact ⟨h.1.1, h.1.2.1⟩
    · exact t ts h.2.1 v hv
  | diff us => exact h.2.2
  | table us rows => exact h.1.2.2
  | elem x es y =>
    intro v hv
    simp only [Body.vars, List.mem_cons, List.not_mem_nil, or_false] at hv
    rcases hv with rfl | rfl
    · exact h.1.1
    · exact h.1.2
  | times x y z =>
    intro v hv
    simp only [Body.vars, List.mem_cons, List.not_mem_nil, or_false] at hv
    rcases hv with rfl | rfl | rfl
    · exact h.1
    · exact h.2.1
    · exact h.2.2
/-- the law's terms: small -/
def tmLaw (m : Int) (ts : Tms) : Prop := (∀ z ∈ ts, 0 ≤ z.1 ∧ z.1 < m ∧ z.2 ≠ 0 ∧ -3 ≤ z.2 ∧ z.2 ≤ 3) ∧ (ts.map (·.1)).Pairwise (· < ·) ∧ (ts.length : Int) ≤ m
theorem tmLaw.fit {m : Int} {ts : Tms} (h : tmLaw m ts) (hm : m ≤ 60) : tmFit m ts := ⟨by have := h.2.2; omega, h.2.1, fun z hz => by have q := h.1 z hz; omega⟩
def spLawTerms (K : PySem.W.Frag) : Sp := fun vs H Q _ => ∃ (t c : Addr) (m : Int), vs = [.ref t, .int m] ∧ Tp t c H ∧ 0 ≤ m ∧ m ≤ 60 ∧ ∀ (p : Addr) (ts : Tms) (H' : Hp), Im K H' (.ref p) (tmD ts) → tmLaw m ts → Tp t c H' → Kp [t] H H' → Q (.ref p) H'
def spLawLiteral (K : PySem.W.Frag) : Sp := fun vs H Q _ => ∃ (t c : Addr) (m : Int), vs = [.ref t, .int m] ∧ Tp t c H ∧ 1 ≤ m ∧ m ≤ 60 ∧ ∀ (p : Addr) (l : Lit) (H' : Hp), LitAt K H' p l.v l.r l.a → litFit m l → Tp t c H' → Kp [t] H H' → Q (.ref p) H'
def spLawSome (K : PySem.W.Frag) : Sp := fun vs H Q _ => ∃ (t c : Addr) (m k : Int), vs = [.ref t, .int m, .int k] ∧ Tp t c H ∧ 0 ≤ k ∧ k ≤ m ∧ m ≤ 60 ∧ ∀ (p : Addr) (us : List Int) (H' : Hp), SqT K H' p (us.map V.int) → numFit m us → k ≤ us.length → (us.length : Int) ≤ m → Tp t c H' → Kp [t] H H' → Q (.ref p) H'
def spLawBody (K : PySem.W.Frag) : Sp := fun vs H Q _ => ∃ (t c : Addr) (m : Int), vs = [.ref t, .int m] ∧ Tp t c H ∧ 1 ≤ m ∧ m ≤ 20 ∧ ∀ (p : Addr) (b : Body) (H' : Hp), BodyAt K H' p b → b.fit m → Tp t c H' → Kp [t] H H' → Q (.ref p) H'
theorem notInDL {X : Cx} (K : PySem.W.Frag) {k : Nat} {A : Around} (r : Room k A) (h : X.K = K := by rfl) (ha : X.A = A := by rfl) : OpR X (compareOp .NotIn) (rNotInD K) := h ▸ op_notInD (by rw [ha]; exact room65 r)
theorem inDL {X : Cx} (K : PySem.W.Frag) {k : Nat} {A : Around} (r : Room k A) (h : X.K = K := by rfl) (ha : X.A = A := by rfl) : OpR X (compareOp .In) (rInD K) := h ▸ op_inD (by rw [ha]; exact room65 r)
theorem slA {X : Cx} (K : PySem.W.Frag) (h : X.K = K := by rfl) : SlR X (rSlA K) := h ▸ sl_tupA
theorem cut_to {xs : List V} {n : Nat} : cutV xs none (some (n : Int)) = xs.take n := by
  unfold cutV
  rw [HT.sIx_nat, HT.sIx_none, List.drop_zero, Nat.sub_zero]
  by_cases h : n ≤ xs.length
  · rw [Nat.min_eq_left h]
  · rw [Nat.min_eq_right (by omega), List.take_of_length_le (Nat.le_refl _), List.take_of_length_le (by omega)]
/-- t[:n] -/
theorem r_slA {K : PySem.W.Frag} {H : Hp} {Q : VK} {p : Addr} {xs : List V} {n : Nat} (h : SqT K H p xs) (q : ∀ l H2, SqT K H2 l (xs.take n) → Kp [] H H2 → Q (.ref l) H2) : rSlA K (.ref p) none (some (n : Int)) H Q := by
  refine ⟨p, xs, rfl, h, fun e => ?_, fun _ l hl => ?_⟩
  · have e2 := e.2
    rw [HT.sIx_nat] at e2
    refine q p H ?_ .refl
    rw [List.take_of_length_le (by omega)]
    exact h
  · rw [cut_to]
    exact q l _ (SqT.of upd_same) (Kp.new hl)
/-- the ints of a range -/
def rgI (a b : Int) : List Int := (List.range (b - a).toNat).map fun i => a + ((i : Nat) : Int)
theorem rgV_eq (a b : Int) : rgV a b = (rgI a b).map V.int := by
  unfold rgV rgI
  rw [List.map_map]
  rfl
theorem rgI_mem {a b k : Int} : k ∈ rgI a b ↔ a ≤ k ∧ k < b := by
  unfold rgI
  rw [List.mem_map]
  constructor
  · rintro ⟨i, hi, rfl⟩
    rw [List.mem_range] at hi
    omega
  · intro h
    exact ⟨(k - a).toNat, by rw [List.mem_range]; omega, by omega⟩
theorem rgI_asc (a b : Int) : (rgI a b).Pairwise (· < ·) := by
  unfold rgI
  rw [List.pairwise_map]
  exact List.pairwise_lt_range.imp fun {a b} h => by omega
theorem rgI_len (a b : Int) : (rgI a b).length = (b - a).toNat := by
  unfold rgI
  rw [List.length_map, List.length_range]
def lstRg (a b : Int) (H : Hp) (Q : VK) : Prop := RgOk a b ∧ ∀ q, H q = none → Q (.ref q) (upd H q (.lst (rgV a b)))
instance s_lstRg {te : St → Hp → (Int → Int → Hp → Prop) → Prop} {σ : St} {H : Hp} {Q : VK} : Stp (tLstRg te σ H Q) (te σ H fun a b H1 => lstRg a b H1 Q) := ⟨id⟩
instance s_rg1 {ta : TE} {σ : St} {H : Hp} {R : Int → Int → Hp → Prop} : Stp (tRg1 ta σ H R) (ta σ H fun x H1 => asI x fun n => R 0 n H1) := ⟨id⟩
def asI2 (x y : V) (R : Int → Int → Prop) : Prop := ∃ i j, x = .int i ∧ y = .int j ∧ R i j
instance s_asI2 {i j : Int} {R : Int → Int → Prop} : Stp (asI2 (.int i) (.int j) R) (R i j) := ⟨fun h => ⟨i, j, rfl, rfl, h⟩⟩
instance s_rg2 {ta tb : TE} {σ : St} {H : Hp} {R : Int → Int → Hp → Prop} : Stp (tRg2 ta tb σ H R) (ta σ H fun x H1 => tb σ H1 fun y H2 => asI2 x y fun i j => R i j H2) := ⟨id⟩
theorem r_lstRg {a b : Int} {H : Hp} {Q : VK} (h0 : -1000000 ≤ a ∧ a ≤ 1000000) (h1 : -1000000 ≤ b ∧ b ≤ 1000000) (q : ∀ l H2, H l = none → H2 l = some (.lst ((rgI a b).map V.int)) → Kp [] H H2 → Q (.ref l) H2) : lstRg a b H Q :=
  ⟨⟨by omega, by omega, by omega, by omega, by omega⟩, fun l hl => q l _ hl (by rw [← rgV_eq]; exact upd_same) (Kp.new hl)⟩
theorem erase_map {α β : Type} (f : α → β) : ∀ (xs : List α) (k : Nat), (xs.map f).eraseIdx k = (xs.eraseIdx k).map f
  | [], _ => rfl
  | _ :: _, 0 => rfl
  | x :: xs, k + 1 => by
    show f x :: (xs.map f).eraseIdx k = f x :: (xs.eraseIdx k).map f
    rw [erase_map f xs k]
theorem erase_perm {α : Type} : ∀ (xs : List α) (k : Nat) (y : α), xs[k]? = some y → (y :: xs.eraseIdx k).Perm xs
  | [], _, _, h => by simp at h
  | x :: xs, 0, y, h => by
    simp at h
    subst h
    exact .refl _
  | x :: xs, k + 1, y, h => by
    rw [List.getElem?_cons_succ] at h
    exact (List.Perm.swap x y (xs.eraseIdx k)).trans ((erase_perm xs k y h).cons x)
theorem some_step {base fs rs : List Int} {k : Nat} {y : Int} (h : (fs ++ rs).Perm base) (e : rs[k]? = some y) : ((fs ++ [y]) ++ rs.eraseIdx k).Perm base := by
  refine List.Perm.trans ?_ h
  rw [List.append_assoc]
  exact (erase_perm rs k y e).append_left fs

/-! ### whether a body fits -/
instance {m : Int} {l : Lit} : Decidable (litFit m l) := by unfold litFit; infer_instance
instance {es : List Int} : Decidable (entFit es) := by unfold entFit; infer_instance

def fitQ (P : Prop) (H : Hp) (Q : VK) : Prop := ∀ (r : Bool) (H' : Hp), (r = true ↔ P) → Kp [] H H' → Q (.bl r) H'
def spTmFit (K : PySem.W.Frag) : Sp := fun vs H Q _ => ∃ (p : Addr) (m : Int) (ts : Tms), vs = [.ref p, .int m] ∧ Im K H (.ref p) (tmD ts) ∧ fitQ (tmFit m ts) H Q
def spLitFit (K : PySem.W.Frag) : Sp := fun vs H Q _ => ∃ (p : Addr) (m : Int) (l : Lit), vs = [.ref p, .int m] ∧ LitAt K H p l.v l.r l.a ∧ fitQ (litFit m l) H Q
def spLinFit (K : PySem.W.Frag) : Sp := fun vs H Q _ => ∃ (p : Addr) (m n : Int) (ts : Tms) (r : Rel), vs = [.ref p, .str r.s, .int n, .int m] ∧ Im K H (.ref p) (tmD ts) ∧ fitQ (linFit m ts r n) H Q
def spDistinct (K : PySem.W.Frag) : Sp := fun vs H Q _ => ∃ (p : Addr) (m lo hi : Int) (us : List Int), vs = [.ref p, .int lo, .int hi, .int m] ∧ SqT K H p (us.map V.int) ∧ hi ≤ 60 ∧ us.length ≤ 4000 ∧ fitQ ((lo ≤ us.length ∧ us.length ≤ hi) ∧ numFit m us) H Q
def spEntries (K : PySem.W.Frag) : Sp := fun vs H Q _ => ∃ (p : Addr) (es : List Int), vs = [.ref p] ∧ SqT K H p (es.map V.int) ∧ es.length ≤ 4000 ∧ fitQ (entFit es) H Q
def spAnyFits (K : PySem.W.Frag) : Sp := fun vs H Q _ => ∃ (p : Addr) (m : Int) (ls : List Lit), vs = [.ref p, .int m] ∧ Im K H (.ref p) (litsD ls) ∧ fitQ ((Body.any ls).fit m) H Q
def spTableFits (K : PySem.W.Frag) : Sp := fun vs H Q _ => ∃ (p q : Addr) (m : Int) (us : List Int) (rows : List (List Int)), vs = [.ref p, .ref q, .int m] ∧ SqT K H p (us.map V.int) ∧ Im K H (.ref q) (rowsD rows) ∧ us.length ≤ 4000 ∧ (∀ r ∈ rows, r.length ≤ 4000) ∧ fitQ ((Body.table us rows).fit m) H Q
/-- lists short enough to be walked -/
def Body.walk : Body → Prop
  | .diff us => us.length ≤ 4000
  | .table us rows => us.length ≤ 4000 ∧ ∀ r ∈ rows, r.length ≤ 4000
  | .elem _ es _ => es.length ≤ 4000
  | _ => True
def spBodyFits (K : PySem.W.Frag) : Sp := fun vs H Q _ => ∃ (p : Addr) (m : Int) (b : Body), vs = [.ref p, .int m] ∧ BodyAt K H p b ∧ b.walk ∧ fitQ (b.fit m) H Q
theorem Body.fit_walk {m : Int} {b : Body} (h : b.fit m) : b.walk := by
  cases b with
  | diff us => exact (show us.length ≤ 4000 by have := h.1.2; omega)
  | table us rows => exact ⟨by have := h.1.1.2; omega, fun r hr => by have := (h.2.2 r hr).1; have := h.1.1.2; omega⟩
  | elem x es y => exact (show es.length ≤ 4000 by have := h.2.1.2; omega)
  | _ => trivial
theorem fst_before {m : Int} {ts : Tms} {i : Nat} {z : Int × Int} (h : tmFit m ts) (e : ts[i]? = some z) : ∀ a ∈ (ts.take i).map (fun z : Int × Int => z.1), a < z.1 := fun a ha => by
  have e2 : ts = ts.take i ++ z :: ts.drop (i + 1) := by
    obtain ⟨hi, rfl⟩ := List.getElem?_eq_some_iff.mp e
    rw [List.getElem_cons_drop, List.take_append_drop]
  have q := h.2.1
  rw [e2, List.map_append, List.pairwise_append] at q
  exact q.2.2 a ha z.1 (by simp)
/-- the literal as a key -/
def litK (l : Lit) : List Leaf := [.num l.v, .text l.r.s, .num l.a]
theorem litK_inj {a b : Lit} (h : litK a = litK b) : a = b := by
  simp only [litK, List.cons.injEq, Leaf.num.injEq, Leaf.text.injEq, and_true] at h
  obtain ⟨h1, h2, h3⟩ := h
  cases a
  cases b
  simp only at h1 h2 h3
  rw [h1, Rel.s_inj _ _ h2, h3]
theorem nodup_inj {α β : Type} {f : α → β} (hf : ∀ {a b}, f a = f b → a = b) {xs : List α} : (xs.map f).Nodup ↔ xs.Nodup := by
  unfold List.Nodup
  rw [List.pairwise_map]
  exact ⟨fun h => h.imp fun {a b} h e => h (congrArg f e), fun h => h.imp fun {a b} h e => h (hf e)⟩
/-- the places of literals -/
theorem lits_at {K : PySem.W.Frag} {H : Hp} : ∀ {xs : List V} {ls : List Lit}, ImAll K H xs (ls.map Lit.d) → ∃ ks : List (Addr × List V), xs = ks.map (fun p => V.ref p.1) ∧ (∀ p ∈ ks, SqT K H p.1 p.2 ∧ p.2.all flatV = true) ∧ ks.map (fun p => p.2.map lfV) = ls.map litK
  | _, [], .nil => ⟨[], rfl, (fun p hp => by cases hp), rfl⟩
  | _, l :: ls, .cons h a => by
    obtain ⟨ks, rfl, h2, h3⟩ := lits_at a
    obtain ⟨q, rfl, L⟩ := lit_at h
    refine ⟨(q, [.int l.v, .str l.r.s, .int l.a]) :: ks, rfl, fun p hp => ?_, by rw [List.map_cons, h3]; rfl⟩
    rcases List.mem_cons.mp hp with rfl | hp
    · exact ⟨L, rfl⟩
    · exact h2 p hp
theorem r_slT1 {K : PySem.W.Frag} {H : Hp} {Q : VK} {p : Addr} {x : V} {xs : List V} (h : SqT K H p (x :: xs)) (q : ∀ l H2, H l = none → SqT K H2 l xs → Kp [] H H2 → Q (.ref l) H2) : rSlT K (.ref p) (some 1) none H Q := by
  refine ⟨p, _, rfl, h, fun e => ?_, fun l hl => ?_⟩
  · have e1 := e.1
    have e0 : HT.sIx (x :: xs).length 0 (some ((1 : Nat) : Int)) = 0 := e1
    rw [HT.sIx_nat] at e0
    simp at e0
  · have e : cutV (x :: xs) (some 1) none = xs := by rw [cut_from (by decide)]; rfl
    rw [e]
    exact q l _ hl (SqT.of upd_same) (Kp.new hl)
theorem all_iff {α : Type} {as : List α} {f : α → Bool} {P : α → Prop} (h : ∀ a ∈ as, (f a = true ↔ P a)) : (as.map f).all id = true ↔ ∀ a ∈ as, P a := by
  rw [List.all_map, List.all_eq_true]
  exact ⟨fun g a ha => (h a ha).mp (g a ha), fun g a ha => (h a ha).mpr (g a ha)⟩
local macro_rules | `(tactic| walk_at "cg all") => `(tactic| (repeat' (first | walk_at "cg s" | ((with_reducible refine if_S ?_ ?_) <;> intro _) | ((with_reducible refine if_NS ?_ ?_) <;> intro _))))

/-! ### the law's own reading of a body -/
def spLawLit (K : PySem.W.Frag) : Sp := fun vs H Q _ => ∃ (p q : Addr) (l : Lit) (f : Pt) (dom : Int → Prop), vs = [.ref p, .ref q] ∧ LitAt K H p l.v l.r l.a ∧ PtAt K H q f dom ∧ dom l.v ∧ Q (.bl (l.h f)) H
theorem inV_ints_t (v : Int) (us : List Int) : (if false = true then !inV (.int v) (us.map V.int) else inV (.int v) (us.map V.int)) = decide (v ∈ us) := by
  rw [if_neg (by decide), inV_ints]

/-! ### a <= b <= c <= d -/
def tChain3 (r r' r2 : R2) (ta tb tc td : TE) : TE := fun σ H Q => ta σ H fun x H1 => tb σ H1 fun y H2 => r x y H2 fun z H3 => asB z fun k => iteP k (tc σ H3 fun u H4 => r' y u H4 fun z2 H5 => asB z2 fun k2 => iteP k2 (td σ H5 fun v H6 => r2 u v H6 Q) (Q (.bl false) H5)) (Q (.bl false) H3)
open PySem.Spec PyProof.Rows in
theorem pe_chain3 {X : Cx} {a b c d : Expr} {ta tb tc td : TE} {pos : Pos} {op op' op2 : CmpOp} {r r' r2 : R2} (ho : OpR X (compareOp op) r) (ho' : OpR X (compareOp op') r') (ho2 : OpR X (compareOp op2) r2) (ha : PE X a ta) (hb : PE X b tb) (hc : PE X c tc) (hd : PE X d td)
    (hm : lastMarks [op, op', op2] [b, c, d] = false := by with_unfolding_all rfl) : PE X (.Compare a [op, op', op2] [b, c, d] pos) (tChain3 r r' r2 ta tb tc td) := by
  refine ⟨fun pins s σ H Q I h => ?_⟩
  refine Compare_chain (thn (ha.run pins s σ H _ I h) fun v s1 ⟨x, H1, I1, r1, q1⟩ => chain_link (thn (hb.run pins s1 σ H1 _ I1 q1) fun u s2 ⟨y, H2, I2, w2, q2⟩ =>
    thn (ho pins s2 σ H2 x y v u _ I2 r1 w2 q2) fun z0 s3 ⟨z, H3, I3, r3, k, e, q3⟩ => ?_)) hm
  subst e
  cases r3
  refine wpAny_truthy_bool ?_
  cases k with
  | false => exact ite_ff ⟨.bl false, H3, I3, rfl, q3⟩
  | true =>
    refine ite_tt (chain_link (thn (hc.run pins s3 σ H3 _ I3 q3) fun v4 s4 ⟨y4, H4, I4, r4, q4⟩ => thn (ho' pins s4 σ H4 y y4 u v4 _ I4 w2 r4 q4) fun z5 s5 ⟨z6, H5, I5, r5, k2, e2, q5⟩ => ?_))
    subst e2
    cases r5
    refine wpAny_truthy_bool ?_
    cases k2 with
    | false => exact ite_ff ⟨.bl false, H5, I5, rfl, q5⟩
    | true => exact ite_tt (chain_last (thn (hd.run pins s5 σ H5 _ I5 q5) fun v7 s7 ⟨y7, H7, I7, r7, q7⟩ => ho2 pins s7 σ H7 y4 y7 v4 v7 Q I7 r4 r7 q7))
instance s_chain3 {r r' r2 : R2} {ta tb tc td : TE} {σ : St} {H : Hp} {Q : VK} : Stp (tChain3 r r' r2 ta tb tc td σ H Q) (ta σ H fun x H1 => tb σ H1 fun y H2 => r x y H2 fun z H3 => asB z fun k => iteP k (tc σ H3 fun u H4 => r' y u H4 fun z2 H5 => asB z2 fun k2 => iteP k2 (td σ H5 fun v H6 => r2 u v H6 Q) (Q (.bl false) H5)) (Q (.bl false) H3)) := ⟨id⟩
/-! ### own classes -/
structure IsM (P : Program) (w : World) (K : PySem.W.Frag) (mg : Str → Option Value) (base : Heap) (CX : CXT) (k : Nat) (C : Addr) (m : Str) (ps : List Str) (sp : Sp) : Prop where
  ex : ∃ (f : Addr) (fd : FuncData), FnOk P w K mg base CX k f fd ps sp ∧ Meth K C m f ∧ Binds K fd ps []
  cl : Cls K C
structure IsI (P : Program) (w : World) (K : PySem.W.Frag) (mg : Str → Option Value) (base : Heap) (CX : CXT) (k : Nat) (C : Addr) (x : Str) (ps : List Str) (sp : Sp) : Prop where
  ex : ∃ (f : Addr) (fd : FuncData), FnOk P w K mg base CX k f fd ps sp ∧ Mk K C f ∧ Binds K fd ps [] ∧ mg x = some (.ref C)
def mtS (C : Addr) (m : Str) (x : V) (H : Hp) (R : Prop) : Prop := ∃ a dx fs, x = .ref a ∧ H a = some (.ins C dx fs) ∧ fs.lookup m = none ∧ R
def mkS (C : Addr) (sp : Sp) (E : XK) (vs : List V) (H1 : Hp) (Q : VK) : Prop := ∀ x dx, H1 x = none → H1 dx = none → dx ≠ x → sp (.ref x :: (vs ++ [])) (upd (upd H1 dx (.own x)) x (.ins C dx [])) (fun v H2 => v = .non ∧ Q (.ref x) H2) E
def fldS (K : PySem.W.Frag) (f : Str) (x : V) (H : Hp) (Q : VK) : Prop := ∃ a C dx fs v, x = .ref a ∧ H a = some (.ins C dx fs) ∧ Cls K C ∧ NoAttr K C f ∧ fs.lookup f = some v ∧ Q v H
def setF (K : PySem.W.Frag) (f : Str) (x y : V) (H2 : Hp) (R : Hp → Prop) : Prop := ∃ a C dx fs, x = .ref a ∧ H2 a = some (.ins C dx fs) ∧ Cls K C ∧ NoAttr K C f ∧ fs.length < 1000 ∧ R (upd H2 a (.ins C dx (putF f y fs)))
def newD (H : Hp) (Q : VK) : Prop := ∀ p, H p = none → Q (.ref p) (upd H p (.dK []))
def inDk (x y : V) (H : Hp) (Q : VK) : Prop := ∃ a o, x = .ref a ∧ DGet H a y o ∧ Q (.bl o.isSome) H
def putD (x y v : V) (H3 : Hp) (R : Hp → Prop) : Prop := ∃ a H4, x = .ref a ∧ DPut H3 a y v H4 ∧ R H4
section
variable {K : PySem.W.Frag} {C : Addr} {m f : Str} {sp : Sp} {E : XK} {ta tv td ty : TE} {t : TA} {σ : St} {H : Hp} {Q : VK} {a dx : Addr} {fs : List (Str × V)} {v x y : V} {nx bk ct : St → Hp → Prop} {rt : VK} {R : Hp → Prop}
instance s_meth : Stp (tMeth C m sp [] E ta t σ H Q) (ta σ H fun x H1 => mtS C m x H1 (t σ H1 fun vs H2 => sp (x :: vs) H2 Q E)) := ⟨fun h => by
  unfold tMeth
  simp only [List.append_nil]
  exact h⟩
theorem r_mt {R : Prop} (h : H a = some (.ins C dx fs)) (l : fs.lookup m = none) (q : R) : mtS C m (.ref a) H R := ⟨a, dx, fs, rfl, h, l, q⟩
instance s_make : Stp (tMake C sp [] E t σ H Q) (t σ H fun vs H1 => mkS C sp E vs H1 Q) := ⟨id⟩
theorem r_make {vs : List V} (q : ∀ x dx H2, H x = none → H2 x = some (.ins C dx []) → Kp [] H H2 → sp (.ref x :: vs) H2 (fun v H3 => v = .non ∧ Q (.ref x) H3) E) : mkS C sp E vs H Q := fun x dx nx ndx ne => by
  rw [List.append_nil]
  exact q x dx _ nx upd_same ⟨fun b o _ h => by rw [upd_ne (ne_of_none h nx), upd_ne (ne_of_none h ndx)]; exact h, fun _ h => nomatch h⟩
instance s_fld : Stp (tFld K ta f σ H Q) (ta σ H fun x H1 => fldS K f x H1 Q) := ⟨id⟩
theorem r_fld (h : H a = some (.ins C dx fs)) (c : Cls K C) (n : NoAttr K C f) (l : fs.lookup f = some v) (q : Q v H) : fldS K f (.ref a) H Q := ⟨a, C, dx, fs, v, rfl, h, c, n, l, q⟩
instance s_sfld : Stp (sFld K ta tv f ⟨nx, rt, bk, ct⟩ σ H) (tv σ H fun y H1 => ta σ H1 fun x H2 => setF K f x y H2 fun H3 => nx σ H3) := ⟨id⟩
theorem r_setF (h : H a = some (.ins C dx fs)) (c : Cls K C) (n : NoAttr K C f) (few : fs.length < 1000) (q : ∀ H2, H2 a = some (.ins C dx (putF f y fs)) → Kp [a] H H2 → R H2) : setF K f (.ref a) y H R :=
  ⟨a, C, dx, fs, rfl, h, c, n, few, q _ upd_same (Kp.put h trivial)⟩
instance s_dnew : Stp (tDNewK σ H Q) (newD H Q) := ⟨id⟩
theorem r_newD (q : ∀ p H2, H p = none → H2 p = some (.dK []) → Kp [] H H2 → Q (.ref p) H2) : newD H Q := fun p hp => q p _ hp upd_same (Kp.new hp)
instance s_dIn : Stp (tDIn ty td σ H Q) (ty σ H fun y H1 => td σ H1 fun x H2 => inDk x y H2 Q) := ⟨id⟩
theorem r_inDk {kvs : List (Key × V)} {k : Key} {o : Option V} (h : H a = some (.dK kvs)) (e : valV kvs k = o) (q : Q (.bl o.isSome) H) : inDk (.ref a) (kV k) H Q := ⟨a, o, rfl, e ▸ DGet.k h, q⟩
theorem r_inDk0 {kvs : List (Key × V)} {k : Key} (h : H a = some (.dK kvs)) (e : valV kvs k = none) (q : Q (.bl false) H) : inDk (.ref a) (kV k) H Q := r_inDk h e q
theorem r_inDk1 {kvs : List (Key × V)} {k : Key} {w : V} (h : H a = some (.dK kvs)) (e : valV kvs k = some w) (q : Q (.bl true) H) : inDk (.ref a) (kV k) H Q := r_inDk h e q
instance s_dPut : Stp (sDPut td ty tv ⟨nx, rt, bk, ct⟩ σ H) (tv σ H fun v H1 => td σ H1 fun x H2 => ty σ H2 fun y H3 => putD x y v H3 fun H4 => nx σ H4) := ⟨id⟩
theorem r_putD {kvs : List (Key × V)} {k : Key} (h : H a = some (.dK kvs)) (few : kvs.length ≤ 10000) (q : ∀ H2, H2 a = some (.dK (putK kvs k v)) → Kp [a] H H2 → R H2) : putD (.ref a) (kV k) v H R :=
  ⟨a, _, rfl, DPut.k h (small1e4 few), q _ upd_same (Kp.put h trivial)⟩
theorem not_valV {κ : Type} [DecidableEq κ] {kvs : List (κ × V)} {k : κ} (h : ¬ k ∈ kvs.map (·.1)) : valV kvs k = none := by
  cases e : valV kvs k with
  | none => rfl
  | some v => exact absurd (valV_in e) h
end
/-! ### texts -/
section
variable {s : Str} {σ : St} {H : Hp} {g : TG} {tb : TS} {nx bk ct : St → Hp → Prop} {rt : VK} {te : TE} {R : It → Hp → Prop} {Q : VK}
def isS (x : V) (H : Hp) (R : It → Hp → Prop) : Prop := ∃ z, x = .str z ∧ R (Its z) H
instance s_iStr : Stp (iStr te σ H R) (te σ H fun x H1 => isS x H1 R) := ⟨id⟩
instance s_isS : Stp (isS (.str s) H R) (R (Its s) H) := ⟨fun h => ⟨s, rfl, h⟩⟩
theorem r_forS (Pv : Nat → St → Hp → Prop) (h0 : Pv 0 σ H) (hs : ∀ (i c : Nat) σ' H', s.cps[i]? = some c → Pv i σ' H' → g (.str ⟨#[c]⟩) σ' H' fun σ2 H2 => tb ⟨Pv (i + 1), rt, nx, Pv (i + 1)⟩ σ2 H2)
    (hd : ∀ σ' H', Pv s.cps.size σ' H' → nx σ' H') : forS (Its s) g tb ⟨nx, rt, bk, ct⟩ σ H :=
  for_it walk_str Pv h0 (fun _ _ _ _ _ => trivial) (fun i x σ' H1 H2 hi h y => by obtain ⟨rfl, c, hc, rfl⟩ := y; exact hs i c σ' _ hc h) hd
def rLenS : List V → Hp → VK → Prop := fun xs H Q => ∃ z, xs = [.str z] ∧ z.length ≤ sizeLine ∧ Q (.int z.length) H
theorem cg_lenS {X : Cx} : CallR X (.builtin "len") rLenS := call_len_str
theorem r_lenS (h : s.length ≤ 10000) (q : Q (.int s.length) H) : rLenS [.str s] H Q := ⟨s, rfl, by rw [sizeLine_eq]; omega, q⟩
def rSgnNot : R2 := fun x y H Q => ∃ (c : Nat) (z : Str), x = .str ⟨#[c]⟩ ∧ y = .str z ∧ Q (.bl (!decide (c ∈ z.cps.toList))) H
theorem op_sgnNot {X : Cx} : OpR X (compareOp .NotIn) rSgnNot := op_notIn_sign
instance s_sgnNot {c : Nat} {z : Str} : Stp (rSgnNot (.str ⟨#[c]⟩) (.str z) H Q) (Q (.bl (!decide (c ∈ z.cps.toList))) H) := ⟨fun h => ⟨c, z, rfl, rfl, h⟩⟩
theorem r_ixS {i : Int} {c : Nat} (h : s.length ≤ 10000) (e : atI s.cps.toList i = some c) (q : Q (.str ⟨#[c]⟩) H) : rIxS (.str s) (.int i) H Q := ⟨s, i, c, rfl, rfl, by rw [sizeLine_eq]; omega, e, q⟩
end
/-! ### labels -/
def lettersS : Str := Str.ofString "abcdefghijklmnopqrstuvwxyz"
def digitsS : Str := Str.ofString "0123456789"
def sgnOk (c : Nat) : Bool := decide (c ∈ lettersS.cps.toList) || decide (c ∈ digitsS.cps.toList)
def labelB (s : Str) : Bool := decide (1 ≤ s.length) && decide (s.length ≤ 20) && (match s.cps.toList with | [] => false | c :: _ => decide (c ∈ lettersS.cps.toList)) && s.cps.toList.all sgnOk
def spLabel : Sp := fun vs H Q _ => ∃ s : Str, vs = [.str s] ∧ s.length ≤ 10000 ∧ Q (.bl (labelB s)) H

/-! ### models -/
structure Goal where
  mx : Bool
  ts : Tms
  c : Int
def senseS (b : Bool) : Str := if b then Str.ofString "max" else Str.ofString "min"
def Goal.d (g : Goal) : PyData := .tuple [.str (senseS g.mx), tmD g.ts, .int g.c]
structure Mdl where
  us : List (Str × Int × Int)
  bs : List (Str × Body)
  g : Goal
def unD (u : Str × Int × Int) : PyData := .tuple [.str u.1, .int u.2.1, .int u.2.2]
structure MA where
  p : Addr
  n : Addr
  l : Addr
  h : Addr
  b : Addr
def MA.all (a : MA) : List Addr := [a.p, a.n, a.l, a.h, a.b]
structure MFs (fs : List (Str × V)) (a : MA) (g : V) : Prop where
  nm : fs.lookup (Str.ofString "_names") = some (.ref a.n)
  lo : fs.lookup (Str.ofString "_lows") = some (.ref a.l)
  hi : fs.lookup (Str.ofString "_highs") = some (.ref a.h)
  bo : fs.lookup (Str.ofString "_bodies") = some (.ref a.b)
  go : fs.lookup (Str.ofString "_goal") = some g
  le : fs.length ≤ 10
  no : ∀ m : Str, ¬ m = "_names" → ¬ m = "_lows" → ¬ m = "_highs" → ¬ m = "_bodies" → ¬ m = "_goal" → fs.lookup m = none
theorem putF_len (f : Str) (v w : V) : ∀ fs : List (Str × V), fs.lookup f = some w → (putF f v fs).length = fs.length
  | [], h => by simp at h
  | (x, y) :: fs, h => by
    show (if x = f then (x, v) :: fs else (x, y) :: putF f v fs).length = _
    by_cases e : x = f
    · rw [if_pos e]
      rfl
    · rw [if_neg e, List.length_cons, List.length_cons, putF_len f v w fs (by
        rw [List.lookup_cons] at h
        have : (f == x) = false := beq_false_of_ne (fun z => e z.symm)
        rw [this] at h
        exact h)]
theorem putF_le (f : Str) (v : V) : ∀ fs : List (Str × V), (putF f v fs).length ≤ fs.length + 1
  | [] => Nat.le_refl _
  | (x, y) :: fs => by
    show (if x = f then (x, v) :: fs else (x, y) :: putF f v fs).length ≤ _
    by_cases e : x = f
    · rw [if_pos e]
      simp
    · rw [if_neg e, List.length_cons, List.length_cons]
      have := putF_le f v fs
      omega
theorem MFs.goal {fs : List (Str × V)} {a : MA} {g g' : V} (h : MFs fs a g) : MFs (putF (Str.ofString "_goal") g' fs) a g' := by
  have l : ∀ m : Str, ¬ m = Str.ofString "_goal" → (putF (Str.ofString "_goal") g' fs).lookup m = fs.lookup m := fun m hm => by rw [lookup_putF, if_neg hm]
  exact ⟨(l _ (by decide +kernel)).trans h.nm, (l _ (by decide +kernel)).trans h.lo, (l _ (by decide +kernel)).trans h.hi, (l _ (by decide +kernel)).trans h.bo, by rw [lookup_putF, if_pos rfl], by rw [putF_len _ _ _ _ h.go]; exact h.le,
    fun m h1 h2 h3 h4 h5 => (l m h5).trans (h.no m h1 h2 h3 h4 h5)⟩
def fs3 (n l h : Addr) : List (Str × V) := putF (Str.ofString "_highs") (.ref h) (putF (Str.ofString "_lows") (.ref l) (putF (Str.ofString "_names") (.ref n) []))
theorem fs3_nm (n l h : Addr) : (fs3 n l h).lookup (Str.ofString "_names") = some (.ref n) := by
  unfold fs3
  rw [lookup_putF, if_neg (by decide +kernel), lookup_putF, if_neg (by decide +kernel), lookup_putF, if_pos rfl]
theorem fs3_lo (n l h : Addr) : (fs3 n l h).lookup (Str.ofString "_lows") = some (.ref l) := by
  unfold fs3
  rw [lookup_putF, if_neg (by decide +kernel), lookup_putF, if_pos rfl]
theorem fs3_hi (n l h : Addr) : (fs3 n l h).lookup (Str.ofString "_highs") = some (.ref h) := by
  unfold fs3
  rw [lookup_putF, if_pos rfl]
theorem fs3_len (n l h : Addr) : (fs3 n l h).length ≤ 3 := by
  unfold fs3
  refine Nat.le_trans (putF_le _ _ _) (Nat.succ_le_succ (Nat.le_trans (putF_le _ _ _) (Nat.succ_le_succ (putF_le _ _ _))))
theorem MFs.new {p n l h b : Addr} {g : V} : MFs (putF (Str.ofString "_goal") g (putF (Str.ofString "_bodies") (.ref b) (fs3 n l h))) ⟨p, n, l, h, b⟩ g := by
  have k : ∀ m : Str, ¬ m = Str.ofString "_goal" → ¬ m = Str.ofString "_bodies" → (putF (Str.ofString "_goal") g (putF (Str.ofString "_bodies") (.ref b) (fs3 n l h))).lookup m = (fs3 n l h).lookup m := fun m h1 h2 => by rw [lookup_putF, if_neg h1, lookup_putF, if_neg h2]
  refine ⟨(k _ (by decide +kernel) (by decide +kernel)).trans (fs3_nm n l h), (k _ (by decide +kernel) (by decide +kernel)).trans (fs3_lo n l h), (k _ (by decide +kernel) (by decide +kernel)).trans (fs3_hi n l h), by rw [lookup_putF, if_neg (by decide +kernel), lookup_putF, if_pos rfl], by rw [lookup_putF, if_pos rfl], ?_, fun m h1 h2 h3 h4 h5 => ?_⟩
  · have a1 := putF_le (Str.ofString "_goal") g (putF (Str.ofString "_bodies") (.ref b) (fs3 n l h))
    have a2 := putF_le (Str.ofString "_bodies") (.ref b) (fs3 n l h)
    have a3 := fs3_len n l h
    omega
  · rw [k m h5 h4]
    unfold fs3
    rw [lookup_putF, if_neg h3, lookup_putF, if_neg h2, lookup_putF, if_neg h1]
    rfl
/-- a model stands at a -/
structure MdlAt (K : PySem.W.Frag) (C : Addr) (H : Hp) (a : MA) (M : Mdl) : Prop where
  ob : ∃ dx fs g, H a.p = some (.ins C dx fs) ∧ MFs fs a g ∧ Im K H g M.g.d
  nm : H a.n = some (.lst (M.us.map fun u => V.str u.1))
  lo : H a.l = some (.lst (M.us.map fun u => V.int u.2.1))
  hi : H a.h = some (.lst (M.us.map fun u => V.int u.2.2))
  bo : ∃ kvs : List (Key × V), H a.b = some (.dK kvs) ∧ kvs.map (fun z => z.1) = M.bs.map (fun b => Sum.inr b.1) ∧ ImAll K H (kvs.map (fun z => z.2)) (M.bs.map fun b => b.2.d)
  ne : a.n ≠ a.l ∧ a.n ≠ a.h ∧ a.l ≠ a.h
section
variable {K : PySem.W.Frag} {C : Addr} {H H' : Hp} {a : MA} {M : Mdl} {S : List Addr}
theorem MdlAt.kp (k : Kp S H H') (h : MdlAt K C H a M) (d : ∀ x ∈ a.all, ¬ x ∈ S) : MdlAt K C H' a M := by
  obtain ⟨dx, fs, g, h1, h2, h3⟩ := h.ob
  obtain ⟨kvs, h4, h5, h6⟩ := h.bo
  exact ⟨⟨dx, fs, g, k.get (d _ (by simp [MA.all])) h1, h2, k.im h3⟩, k.get (d _ (by simp [MA.all])) h.nm, k.get (d _ (by simp [MA.all])) h.lo, k.get (d _ (by simp [MA.all])) h.hi, ⟨kvs, k.get (d _ (by simp [MA.all])) h4, h5, k.imAll h6⟩, h.ne⟩
theorem MdlAt.kp0 (k : Kp [] H H') (h : MdlAt K C H a M) : MdlAt K C H' a M := h.kp k fun _ _ z => nomatch z
/-- none of its places is one of these -/
def offA (a : MA) (t : Addr) : Prop := ∀ x ∈ a.all, x ≠ t
theorem MdlAt.kp1 {t : Addr} (k : Kp [t] H H') (h : MdlAt K C H a M) (n : offA a t) : MdlAt K C H' a M := h.kp k fun x hx z => n x hx (by simpa using z)
end
/-- what a model takes -/
def unOk (u : Str × Int × Int) : Prop := labelB u.1 = true ∧ u.1.length ≤ 10000 ∧ -1000 ≤ u.2.1 ∧ u.2.1 ≤ u.2.2 ∧ u.2.2 ≤ 1000
def Goal.fit (m : Int) (g : Goal) : Prop := tmFit m g.ts ∧ -1000000000 ≤ g.c ∧ g.c ≤ 1000000000
def goal0 : Goal := ⟨true, [], 0⟩
def spBounds : Sp := fun vs H Q _ => ∃ lo hi : Int, vs = [.int lo, .int hi] ∧ Q (.bl (decide (-1000 ≤ lo) && (decide (lo ≤ hi) && decide (hi ≤ 1000)))) H
def spInit (K : PySem.W.Frag) (C : Addr) : Sp := fun vs H Q _ => ∃ (p l dx : Addr) (refs : List V) (us : List (Str × Int × Int)), vs = [.ref p, .ref l] ∧ H p = some (.ins C dx []) ∧ H l = some (.lst refs) ∧ ImAll K H refs (us.map unD) ∧ 1 ≤ us.length ∧ us.length ≤ 60 ∧
  (∀ u ∈ us, unOk u) ∧ (us.map (·.1)).Nodup ∧ ∀ (a : MA) (H' : Hp), a.p = p → MdlAt K C H' a ⟨us, [], goal0⟩ → (∀ x ∈ a.all, x = p ∨ H x = none) → Kp [p] H H' → Q .non H'
def spPut (K : PySem.W.Frag) (C : Addr) : Sp := fun vs H Q _ => ∃ (a : MA) (s : Str) (pb : Addr) (b : Body) (M : Mdl), vs = [.ref a.p, .str s, .ref pb] ∧ MdlAt K C H a M ∧ labelB s = true ∧ s.length ≤ 10000 ∧ ¬ s ∈ M.bs.map (·.1) ∧ BodyAt K H pb b ∧ b.fit M.us.length ∧ M.bs.length < 200 ∧
  ∀ H', MdlAt K C H' a ⟨M.us, M.bs ++ [(s, b)], M.g⟩ → Kp [a.b] H H' → Q .non H'
def spAim (K : PySem.W.Frag) (C : Addr) : Sp := fun vs H Q _ => ∃ (a : MA) (pg : Addr) (g : Goal) (M : Mdl), vs = [.ref a.p, .ref pg] ∧ MdlAt K C H a M ∧ Im K H (.ref pg) g.d ∧ g.fit M.us.length ∧ ∀ H', MdlAt K C H' a ⟨M.us, M.bs, g⟩ → Kp [a.p] H H' → Q .non H'
theorem goal_at {K : PySem.W.Frag} {H : Hp} {x : V} {g : Goal} (h : Im K H x g.d) : ∃ p q, x = .ref p ∧ SqT K H p [.str (senseS g.mx), .ref q, .int g.c] ∧ Im K H (.ref q) (tmD g.ts) := by
  obtain ⟨p, rfl⟩ := Im.isRef h
  obtain ⟨_, h1, h2⟩ := Im.open h
  obtain ⟨_, _, rfl, a1, h2⟩ := h2.c
  obtain ⟨_, _, rfl, a2, h2⟩ := h2.c
  obtain ⟨_, _, rfl, a3, h2⟩ := h2.c
  obtain rfl := h2.n
  obtain ⟨q, rfl⟩ := a2.isRef
  cases a1; cases a3
  exact ⟨p, q, rfl, h1, a2⟩
theorem un_at {K : PySem.W.Frag} {H : Hp} {x : V} {u : Str × Int × Int} (h : Im K H x (unD u)) : ∃ p, x = .ref p ∧ SqT K H p [.str u.1, .int u.2.1, .int u.2.2] := by
  obtain ⟨p, rfl⟩ := Im.isRef h
  exact ⟨p, rfl, Im.sq h rfl⟩
theorem flat_strs (us : List Str) : (us.map V.str).all flatV = true := by
  rw [List.all_map]
  exact List.all_eq_true.mpr fun x _ => rfl
theorem inV_strs (v : Str) (us : List Str) : inV (.str v) (us.map V.str) = decide (v ∈ us) := by
  unfold inV
  rw [List.any_map]
  induction us with
  | nil => rfl
  | cons u us ih =>
    have e : ((fun y => eqV y (.str v)) ∘ V.str) u = decide (v = u) := by
      show (u == v) = decide (v = u)
      rw [Bool.eq_iff_iff, beq_iff_eq, decide_eq_true_eq]
      exact eq_comm
    rw [List.any_cons, ih, e, Bool.eq_iff_iff]
    simp only [Bool.or_eq_true, decide_eq_true_eq, List.mem_cons]
def mOk (m : Str) : Bool := decide (¬ m = Str.ofString "_names") && decide (¬ m = Str.ofString "_lows") && decide (¬ m = Str.ofString "_highs") && decide (¬ m = Str.ofString "_bodies") && decide (¬ m = Str.ofString "_goal")
/-- a method of a model is called -/
theorem r_mtM {K : PySem.W.Frag} {C : Addr} {H : Hp} {a : MA} {M : Mdl} {m : Str} {R : Prop} (h : MdlAt K C H a M) (n : mOk m = true) (q : R) : mtS C m (.ref a.p) H R := by
  obtain ⟨dx, fs, g, h1, h2, _⟩ := h.ob
  unfold mOk at n
  simp only [Bool.and_eq_true, decide_eq_true_eq] at n
  exact r_mt h1 (h2.no m n.1.1.1.1 n.1.1.1.2 n.1.1.2 n.1.2 n.2) q
local macro_rules | `(tactic| walk_at "cg h") => `(tactic| (first
  | ((with_reducible show MdlAt _ _ _ _ _); exact MdlAt.kp0 (by assumption) (by walk_at "cg h"))
  | ((with_reducible show MdlAt _ _ _ _ _); exact MdlAt.kp1 (by assumption) (by walk_at "cg h") (by assumption))
  | fail))
local macro_rules | `(tactic| walk_at "cg h") => `(tactic| assumption)
local macro_rules | `(tactic| walk_at "cg s") => `(tactic| (first
  | ((with_reducible apply r_fld); (focus (walk_at "cg h")); (focus assumption); (focus assumption); (focus assumption))
  | ((with_reducible apply r_mt); (focus (walk_at "cg h")); (focus assumption))
  | ((with_reducible apply r_newD); intro _ _ _ _ _)
  | ((with_reducible apply r_setF); (focus (walk_at "cg h")); (focus assumption); (focus assumption); (focus (first | assumption | exact Nat.lt_of_sub_pos (by decide) | omega)); intro _ _ _)
  | fail))
local macro_rules | `(tactic| walk_at "cg s") => `(tactic| ((with_reducible apply r_mtM); (focus (walk_at "cg h")); (focus (decide +kernel))))

/-! ### the law's own world -/
section
variable {σ σ0 : St} {H : Hp} {K : PySem.W.Frag} {p : Addr} {xs : List V} {g : TG} {tt : TT} {te : TE} {vs : List Nat} {Q : VK} {n : Nat} {lo : Int} {α : Type} {as : List α} {d : α → PyData} {t c : Addr}
/-- .. one for each item of a list -/
theorem lcL_d {β : Type} {bs : List β} {e : β → PyData} [hw : Wip σ vs σ0] (s : H p = some (.lst xs)) (np : p ≠ t) (ib : ImAll K H xs (bs.map e)) (d : α → PyData) (Pr : β → α → Prop) (T : Tp t c H) (small : bs.length ≤ 10000)
    (hs : ∀ (i : Nat) (b : β) (x : V) (H' : Hp) (R : V → Hp → Prop) (R' : Hp → Prop), bs[i]? = some b → Im K H' x (e b) → Tp t c H' → Kp [t] H H' → (∀ y H4 a, Pr b a → Im K H4 y (d a) → Tp t c H4 → Kp [t] H' H4 → R y H4) → lcTurn g tt te vs σ σ0 x H' R R')
    (hd : ∀ D H' acc (as : List α), H D = none → H' D = some (.lst acc) → as.length = bs.length → (∀ (i : Nat) a, as[i]? = some a → ∃ b, bs[i]? = some b ∧ Pr b a) → ImAll K H' acc (as.map d) → Tp t c H' → Kp [t] H H' → Q (.ref D) H') : lcS (Itl K p) g tt te vs σ H Q := by
  have hxl := mapLenP ib
  refine r_lcL xs (fun D i H' => Kp [t] H H' ∧ H D = none ∧ Tp t c H' ∧ ∃ (acc : List V) (as : List α), H' D = some (.lst acc) ∧ as.length = i ∧ (∀ (i : Nat) a, as[i]? = some a → ∃ b, bs[i]? = some b ∧ Pr b a) ∧ ImAll K H' acc (as.map d))
    (fun D H2 hD e2 k2 => ⟨Kp.tr0 k2 (Tp.base T), hD, Tp.kp0 k2 T, [], [], e2, rfl, (fun i a h => by simp at h), .nil⟩) (fun D i H' h => h.1.get1 np s) ?_ ?_
  · rintro D i x H' hx ⟨k2, hD, T2, acc, as, eD, hl, hP, hA⟩
    obtain ⟨b, hb, hxd⟩ := mapGetP (k2.imAll ib) hx
    have hi : i < bs.length := (List.getElem?_eq_some_iff.mp hb).1
    have nt : D ≠ t := Tp.nef hD T
    have nc : D ≠ c := Tp.nefc hD T
    have hal : acc.length = i := by rw [hA.length, List.length_map, hl]
    refine hs i b x H' _ _ hb hxd T2 k2 fun y H4 a ha hy T4 k4 => ?_
    refine r_ap (k4.get1 nt eD) (small1e4 (by omega)) fun H5 e5 k5 => ⟨Kp.trN k5 (Kp.tr1 k4 k2) hD, hD, Tp.kp1 k5 T4 nt.symm nc.symm, _, as ++ [a], e5, by simp [hl], fun j b' hb' => ?_, ?_⟩
    · rcases Nat.lt_or_ge j as.length with h | h
      · rw [List.getElem?_append_left h] at hb'
        exact hP j b' hb'
      · rw [List.getElem?_append_right h] at hb'
        have e0 : j - as.length = 0 := by
          have := (List.getElem?_eq_some_iff.mp hb').1
          simp at this
          omega
        rw [e0] at hb'
        simp at hb'
        subst hb'
        rw [show j = i by omega]
        exact ⟨b, hb, ha⟩
    · rw [List.map_append]
      exact (k5.imAll (k4.imAll hA)).snoc (k5.im hy)
  · rintro D H' ⟨k2, hD, T2, acc, as, eD, hl, hP, hA⟩
    exact hd D H' acc as hD eD (by rw [hl, hxl]) hP hA T2 k2
end
def labD (b : Str × Body) : PyData := .tuple [.str b.1, b.2.d]
structure Mdl.ok (M : Mdl) : Prop where
  n0 : 1 ≤ M.us.length
  n1 : M.us.length ≤ 60
  un : ∀ u ∈ M.us, unOk u
  nd : (M.us.map (·.1)).Nodup
  lb : ∀ b ∈ M.bs, labelB b.1 = true ∧ b.1.length ≤ 10000
  ln : (M.bs.map (·.1)).Nodup
  bf : ∀ b ∈ M.bs, b.2.fit M.us.length
  nb : M.bs.length ≤ 200
  gf : M.g.fit M.us.length
def nmS : Nat → Str
  | 0 => Str.ofString "x"
  | 1 => Str.ofString "y"
  | 2 => Str.ofString "z"
  | 3 => Str.ofString "u"
  | _ => Str.ofString "w"
def labC (k : Int) : Str := Str.ofString "c" ++ ((toString k : String) : Str)
/-- the drawn ones are small -/
structure Mdl.sm (M : Mdl) (most width bodies : Int) : Prop where
  n : (M.us.length : Int) ≤ most
  u : ∀ u ∈ M.us, -2 ≤ u.2.1 ∧ u.2.1 ≤ 2 ∧ u.2.2 < u.2.1 + width
  b : (M.bs.length : Int) ≤ bodies
  g : tmLaw M.us.length M.g.ts ∧ -2 ≤ M.g.c ∧ M.g.c ≤ 2
  l : ∀ b ∈ M.bs, ∃ k : Int, 0 ≤ k ∧ k < 10 ∧ b.1 = labC k
  nm : ∀ u ∈ M.us, ∃ i : Nat, i < 5 ∧ u.1 = nmS i
structure WA where
  w : Addr
  u : Addr
  f : Addr
def WA.all (a : WA) : List Addr := [a.w, a.u, a.f]
structure WorldAt (K : PySem.W.Frag) (H : Hp) (a : WA) (M : Mdl) : Prop where
  w : ∃ pg, H a.w = some (.lst [.ref a.u, .ref a.f, .ref pg]) ∧ Im K H (.ref pg) M.g.d
  u : ∃ refs, H a.u = some (.lst refs) ∧ ImAll K H refs (M.us.map unD)
  f : ∃ refs, H a.f = some (.lst refs) ∧ ImAll K H refs (M.bs.map labD)
  d : a.w ≠ a.u ∧ a.w ≠ a.f
section
variable {K : PySem.W.Frag} {C : Addr} {H H' : Hp} {a : WA} {M : Mdl} {S : List Addr}
theorem WorldAt.kp (k : Kp S H H') (h : WorldAt K H a M) (d : ∀ x ∈ a.all, ¬ x ∈ S) : WorldAt K H' a M := by
  obtain ⟨pg, h1, h2⟩ := h.w
  obtain ⟨r1, h3, h4⟩ := h.u
  obtain ⟨r2, h5, h6⟩ := h.f
  exact ⟨⟨pg, k.get (d _ (by simp [WA.all])) h1, k.im h2⟩, ⟨r1, k.get (d _ (by simp [WA.all])) h3, k.imAll h4⟩, ⟨r2, k.get (d _ (by simp [WA.all])) h5, k.imAll h6⟩, h.d⟩
theorem WorldAt.kp0 (k : Kp [] H H') (h : WorldAt K H a M) : WorldAt K H' a M := h.kp k fun _ _ z => nomatch z
def offW (a : WA) (t : Addr) : Prop := ∀ x ∈ a.all, x ≠ t
theorem WorldAt.kp1 {t : Addr} (k : Kp [t] H H') (h : WorldAt K H a M) (n : offW a t) : WorldAt K H' a M := h.kp k fun x hx z => n x hx (by simpa using z)
end
def spWorld (K : PySem.W.Frag) : Sp := fun vs H Q _ => ∃ (t c : Addr) (most width bodies : Int), vs = [.ref t, .int most, .int width, .int bodies] ∧ Tp t c H ∧ 1 ≤ most ∧ most ≤ 5 ∧ 1 ≤ width ∧ width ≤ 900 ∧ 0 ≤ bodies ∧ bodies ≤ 9 ∧
  ∀ (a : WA) (M : Mdl) (H' : Hp), WorldAt K H' a M → M.ok → M.sm most width bodies → (∀ x ∈ a.all, H x = none) → Tp t c H' → Kp [t] H H' → Q (.ref a.w) H'
def spLawModel (K : PySem.W.Frag) (C : Addr) : Sp := fun vs H Q _ => ∃ (a : WA) (M : Mdl), vs = [.ref a.w] ∧ WorldAt K H a M ∧ M.ok ∧ ∀ (m : MA) (H' : Hp), MdlAt K C H' m M → (∀ x ∈ m.all, H x = none) → Kp [] H H' → Q (.ref m.p) H'
def ptIn (us : List (Str × Int × Int)) (pt : List Int) : Prop := pt.length = us.length ∧ ∀ (i : Nat) z, pt[i]? = some z → ∃ u, us[i]? = some u ∧ u.2.1 ≤ z ∧ z ≤ u.2.2
def spLawPoint (K : PySem.W.Frag) : Sp := fun vs H Q _ => ∃ (t c l : Addr) (refs : List V) (us : List (Str × Int × Int)), vs = [.ref t, .ref l] ∧ Tp t c H ∧ H l = some (.lst refs) ∧ l ≠ t ∧ ImAll K H refs (us.map unD) ∧ us.length ≤ 60 ∧ (∀ u ∈ us, -1000 ≤ u.2.1 ∧ u.2.1 ≤ u.2.2 ∧ u.2.2 ≤ 1000) ∧
  ∀ (p : Addr) (pt : List Int) (H' : Hp), SqT K H' p (pt.map V.int) → ptIn us pt → Tp t c H' → Kp [t] H H' → Q (.ref p) H'
def rStrI : List V → Hp → VK → Prop := fun xs H Q => ∃ i, xs = [.int i] ∧ i.natAbs.log2 < 1920 ∧ Q (.str (toString i)) H
theorem cg_strI {X : Cx} : CallR X (.type "str") rStrI := call_str_int
theorem r_strI {i : Int} {H : Hp} {Q : VK} (h0 : 0 ≤ i) (h1 : i ≤ 1000) (q : Q (.str (toString i)) H) : rStrI [.int i] H Q := ⟨i, rfl, Nat.lt_of_le_of_lt (Nat.log2_le_self _) (by omega), q⟩
def rAddS : R2 := fun x y H Q => ∃ i j, x = .str i ∧ y = .str j ∧ i.length + j.length ≤ sizeLine ∧ Q (.str (i ++ j)) H
theorem cg_addS {X : Cx} : OpR X (binaryOp .Add) rAddS := op_add_str
theorem r_addS {i j : Str} {H : Hp} {Q : VK} (h : i.length + j.length ≤ 10000) (q : Q (.str (i ++ j)) H) : rAddS (.str i) (.str j) H Q := ⟨i, j, rfl, rfl, by rw [sizeLine_eq]; omega, q⟩
theorem ten (P : Int → Prop) (h : P 0 ∧ P 1 ∧ P 2 ∧ P 3 ∧ P 4 ∧ P 5 ∧ P 6 ∧ P 7 ∧ P 8 ∧ P 9) {k : Int} (h0 : 0 ≤ k) (h1 : k < 10) : P k := by
  have e : k = 0 ∨ k = 1 ∨ k = 2 ∨ k = 3 ∨ k = 4 ∨ k = 5 ∨ k = 6 ∨ k = 7 ∨ k = 8 ∨ k = 9 := by omega
  obtain ⟨p0, p1, p2, p3, p4, p5, p6, p7, p8, p9⟩ := h
  rcases e with rfl | rfl | rfl | rfl | rfl | rfl | rfl | rfl | rfl | rfl <;> assumption
theorem labC_ok {k : Int} (h0 : 0 ≤ k) (h1 : k < 10) : labelB (labC k) = true ∧ (Str.ofString "c").length + (((toString k : String) : Str)).length ≤ 10 ∧ (labC k).length ≤ 10 :=
  ten (fun k => labelB (labC k) = true ∧ (Str.ofString "c").length + (((toString k : String) : Str)).length ≤ 10 ∧ (labC k).length ≤ 10) (by decide +kernel) h0 h1
theorem labC_inj {j k : Int} (h0 : 0 ≤ j) (h1 : j < 10) (h2 : 0 ≤ k) (h3 : k < 10) (e : labC j = labC k) : j = k := by
  have q : ((List.range 10).all fun a => (List.range 10).all fun b => decide (labC (a : Nat) = labC (b : Nat) → a = b)) = true := by decide +kernel
  have q1 := List.all_eq_true.mp q j.toNat (List.mem_range.mpr (by omega))
  have q2 := List.all_eq_true.mp q1 k.toNat (List.mem_range.mpr (by omega))
  have q3 := of_decide_eq_true q2
  rw [Int.toNat_of_nonneg h0, Int.toNat_of_nonneg h2] at q3
  have := q3 e
  omega
theorem nmS_ok : ∀ i < 5, labelB (nmS i) = true ∧ (nmS i).length ≤ 10 := by decide +kernel
theorem nmS_inj : ∀ i < 5, ∀ j < 5, nmS i = nmS j → i = j := by decide +kernel
theorem ix_nm {K : PySem.W.Frag} {p : Addr} {H : Hp} {Q : VK} {i : Nat} (h : H p = some (.lst [.str (Str.ofString "x"), .str (Str.ofString "y"), .str (Str.ofString "z"), .str (Str.ofString "u"), .str (Str.ofString "w")])) (h1 : i < 5) (q : Q (.str (nmS i)) H) : rIxL K (.ref p) (.int (0 + (i : Int))) H Q := by
  have e : i = 0 ∨ i = 1 ∨ i = 2 ∨ i = 3 ∨ i = 4 := by omega
  rcases e with rfl | rfl | rfl | rfl | rfl <;> exact r_ixL h rfl q
theorem ix_mm {K : PySem.W.Frag} {p : Addr} {H : Hp} {Q : VK} {d : Int} (h : H p = some (.lst [.str (Str.ofString "max"), .str (Str.ofString "min")])) (h0 : 0 ≤ d) (h1 : d < 2) (q : ∀ b, Q (.str (senseS b)) H) : rIxL K (.ref p) (.int d) H Q := by
  have e : d = 0 ∨ d = 1 := by omega
  rcases e with rfl | rfl
  · exact r_ixL h rfl (q true)
  · exact r_ixL h rfl (q false)
theorem nodup_map_range {α : Type} {f : Nat → α} {n : Nat} (h : ∀ i < n, ∀ j < n, f i = f j → i = j) : ((List.range n).map f).Nodup := by
  unfold List.Nodup
  rw [List.pairwise_map]
  refine List.Pairwise.imp_of_mem (fun {a b} ha hb hab e => ?_) (List.nodup_range (n := n))
  exact hab (h a (List.mem_range.mp ha) b (List.mem_range.mp hb) e)

/-! ### a model read -/
def itemsS (x : V) (H1 : Hp) (R : It → Hp → Prop) : Prop := ∃ d o kvs, x = .ref d ∧ H1 d = some (.frz o (.dK kvs)) ∧ R (Iti d o kvs) H1
section
variable {σ σ0 : St} {H HL : Hp} {K : PySem.W.Frag} {d : Addr} {g : TG} {tt : TT} {te td : TE} {vs : List Nat} {Q : VK} {R : It → Hp → Prop} {kvs : List (Key × V)} {o : Obj}
instance s_iItems : Stp (iItems td σ H R) (td σ H fun x H1 => itemsS x H1 R) := ⟨id⟩
theorem r_items (h : H d = some (.frz o (.dK kvs))) (q : R (Iti d o kvs) H) : itemsS (.ref d) H R := ⟨d, o, kvs, rfl, h, q⟩
theorem r_lockE {t : TE} {u : HO} (h : H d = some u) (mu : Mut (some u)) (q : ∀ od HL, HL d = some (.frz od u) → Kp [d] H HL → (∀ x, HL x = none → H x = none) → t σ HL fun v H' => H' d = some (.frz od u) ∧ Q v (upd H' d u)) : tLockE t σ H Q :=
  ⟨d, u, h, mu, fun od => q od _ upd_same (Kp.put h mu) fun x hx => by
    by_cases e : x = d
    · rw [e, upd_same] at hx
      cases hx
    · rwa [upd_ne e] at hx⟩
theorem unlock {u : HO} {od : Obj} {H' : Hp} (h : H d = some u) (kl : Kp [d] H HL) (hl : HL d = some (.frz od u)) (k : Kp [] HL H') : Kp [] H (upd H' d u) := ⟨fun b o' _ e => by
  by_cases eb : b = d
  · rw [eb, upd_same]
    rw [eb, h] at e
    exact e
  · rw [upd_ne eb]
    exact k.get0 (kl.get1 eb e), fun _ z => nomatch z⟩
/-- over the items of a locked dict -/
theorem lcI_f {β : Type} {bs : List β} {lab : β → Str} {e : β → PyData} [hw : Wip σ vs σ0] (hf : HL d = some (.frz o (.dK kvs))) (hk : kvs.map (fun z => z.1) = bs.map fun b => (Sum.inr (lab b) : Key)) (hv : ImAll K HL (kvs.map (fun z => z.2)) (bs.map e)) (f : β → Option PyData) (small : bs.length ≤ 10000)
    (hs : ∀ (i : Nat) (b : β) (T : Addr) (y : V) (H' : Hp) (R : V → Hp → Prop) (R' : Hp → Prop), bs[i]? = some b → Kp [] HL H' → SqT K H' T [.str (lab b), y] → Im K H' y (e b) → (∀ z H4 w', f b = some w' → Im K H4 z w' → Kp [] H' H4 → R z H4) → (∀ H4, f b = none → Kp [] H' H4 → R' H4) → lcTurn g tt te vs σ σ0 (.ref T) H' R R')
    (hd : ∀ D H' acc, HL D = none → H' D = some (.lst acc) → ImAll K H' acc (bs.filterMap f) → Kp [] HL H' → Q (.ref D) H') : lcS (Iti d o kvs) g tt te vs σ HL Q := by
  have hl : kvs.length = bs.length := by
    have q := congrArg List.length hk
    rwa [List.length_map, List.length_map] at q
  refine lc_by (walk_items (kvs := kvs) (d := d) (o := o)) (fun D i H' => Kp [] HL H' ∧ HL D = none ∧ ∃ acc, H' D = some (.lst acc) ∧ ImAll K H' acc ((bs.take i).filterMap f)) (fun D H2 hD e2 k2 => ⟨k2, hD, [], e2, .nil⟩) (fun D i H' h => h.1.get0 hf) ?_ ?_
  · rintro D i x H' H'' hi ⟨k2, hD, acc, eD, hA⟩ ⟨T, x1, y1, rfl, hT, rfl, hx, hy⟩
    obtain ⟨b, hb⟩ : ∃ b, bs[i]? = some b := ⟨_, List.getElem?_eq_getElem (by omega)⟩
    obtain ⟨kv, hkv⟩ : ∃ kv, kvs[i]? = some kv := ⟨_, List.getElem?_eq_getElem hi⟩
    replace hx : Option.map (fun kv : Key × V => kV kv.1) kvs[i]? = some x1 := hx
    replace hy : Option.map (fun kv : Key × V => kv.2) kvs[i]? = some y1 := hy
    rw [hkv] at hx hy
    cases hx
    cases hy
    have ek : kv.1 = (Sum.inr (lab b) : Key) := by
      have q := congrArg (fun l => l[i]?) hk
      simp only [List.getElem?_map, hkv, hb, Option.map_some, Option.some.injEq] at q
      exact q
    have kT : Kp [] H' (upd H' T (.tup [kV kv.1, kv.2])) := Kp.new hT
    have st : SqT K (upd H' T (.tup [kV kv.1, kv.2])) T [.str (lab b), kv.2] := by
      rw [ek]
      exact SqT.of upd_same
    have iv : Im K (upd H' T (.tup [kV kv.1, kv.2])) kv.2 (e b) := by
      have hx2 : (kvs.map (fun z => z.2))[i]? = some kv.2 := by rw [List.getElem?_map, hkv]; rfl
      obtain ⟨b2, hb2, im⟩ := mapGetP hv hx2
      rw [hb] at hb2
      cases hb2
      exact kT.im (k2.im im)
    have hib : i < bs.length := by omega
    have hal : acc.length ≤ i := by
      rw [hA.length]
      refine Nat.le_trans (List.length_filterMap_le _ _) ?_
      rw [List.length_take]
      omega
    generalize upd H' T (.tup [kV kv.1, kv.2]) = H2 at kT st iv
    have k3 : Kp [] HL H2 := Kp.tr0 kT k2
    refine hs i b T kv.2 H2 _ _ hb k3 st iv (fun z H4 w' hf' hy k4 => ?_) (fun H4 hf' k4 => ?_)
    · refine r_ap (k4.get0 (kT.get0 eD)) (small1e4 (by omega)) fun H5 e5 k5 => ⟨Kp.trN k5 (Kp.tr0 k4 k3) hD, hD, _, e5, ?_⟩
      rw [fm_take hb, hf']
      exact (k5.imAll (k4.imAll (kT.imAll hA))).snoc (k5.im hy)
    · refine ⟨Kp.tr0 k4 k3, hD, acc, k4.get0 (kT.get0 eD), ?_⟩
      rw [fm_take hb, hf']
      simpa using k4.imAll (kT.imAll hA)
  · rintro D H' ⟨k2, hD, acc, eD, hA⟩
    rw [hl, List.take_length] at hA
    exact hd D H' acc hD eD hA k2
end
theorem ImAll.strs {K : PySem.W.Frag} {H : Hp} : ∀ {xs : List V} {bs : List Str}, ImAll K H xs (bs.map PyData.str) → xs = bs.map V.str
  | _, [], .nil => rfl
  | _, b :: bs, .cons h a => by rw [ImAll.strs a, h.flat rfl]; rfl
theorem inr_valV {β : Type} {bs : List β} {lab : β → Str} {v : Int} {u : V} : ∀ {kvs : List (Key × V)}, kvs.map (fun z => z.1) = bs.map (fun b => (Sum.inr (lab b) : Key)) → valV kvs (Sum.inl v) = some u → False
  | [], _, h => by cases h
  | kv :: kvs, e, h => by
    have m : kv.1 ∈ bs.map (fun b => (Sum.inr (lab b) : Key)) := by rw [← e]; exact List.mem_cons_self
    obtain ⟨b, _, hb⟩ := List.mem_map.mp m
    have ne : ¬ kv.1 = Sum.inl v := fun z => by rw [z] at hb; cases hb
    rw [valV_neg ne] at h
    cases bs with
    | nil => cases e
    | cons b' bs' => exact inr_valV (bs := bs') (lab := lab) (List.cons.inj e).2 h
def inB (us : List (Str × Int × Int)) (f : Pt) : Bool := (List.range us.length).all fun i => decide ((us.map (·.2.1)).getD i 0 ≤ f i) && decide (f i ≤ (us.map (·.2.2)).getD i 0)
def Mdl.brk (M : Mdl) (f : Pt) : List Str := (M.bs.filter fun b => !b.2.h f).map (·.1)
def Mdl.sol (M : Mdl) (f : Pt) : Bool := inB M.us f && decide (M.brk f = [])
def Goal.val (g : Goal) (f : Pt) : Int := sumF g.ts f + g.c
def Goal.btr (g : Goal) (x y : Int) : Bool := if g.mx then decide (y < x) else decide (x < y)
/-- a point of the model's length -/
structure PtM (K : PySem.W.Frag) (H : Hp) (q : Addr) (f : Pt) (n : Nat) : Prop where
  at_ : PtAt K H q f fun v => 0 ≤ v ∧ v < n
  bd : ∀ v, -1000000 < f v ∧ f v < 1000000
theorem PtM.kp0 {K : PySem.W.Frag} {H H' : Hp} {q : Addr} {f : Pt} {n : Nat} (k : Kp [] H H') (h : PtM K H q f n) : PtM K H' q f n := ⟨h.at_.kp0 k, h.bd⟩
def spInside (K : PySem.W.Frag) (C : Addr) : Sp := fun vs H Q _ => ∃ (a : MA) (q : Addr) (M : Mdl) (f : Pt), vs = [.ref a.p, .ref q] ∧ MdlAt K C H a M ∧ M.us.length ≤ 60 ∧ PtM K H q f M.us.length ∧ ∀ H', Kp [] H H' → Q (.bl (inB M.us f)) H'
def spBroken (K : PySem.W.Frag) (C : Addr) : Sp := fun vs H Q _ => ∃ (a : MA) (q : Addr) (M : Mdl) (f : Pt), vs = [.ref a.p, .ref q] ∧ MdlAt K C H a M ∧ M.ok ∧ PtM K H q f M.us.length ∧ ∀ D H', H D = none → H' D = some (.lst ((M.brk f).map V.str)) → Kp [] H H' → Q (.ref D) H'
def spIsSol (K : PySem.W.Frag) (C : Addr) : Sp := fun vs H Q _ => ∃ (a : MA) (q : Addr) (M : Mdl) (f : Pt), vs = [.ref a.p, .ref q] ∧ MdlAt K C H a M ∧ M.ok ∧ PtM K H q f M.us.length ∧ ∀ H', Kp [] H H' → Q (.bl (M.sol f)) H'
def spWorth (K : PySem.W.Frag) (C : Addr) : Sp := fun vs H Q _ => ∃ (a : MA) (q : Addr) (M : Mdl) (f : Pt), vs = [.ref a.p, .ref q] ∧ MdlAt K C H a M ∧ M.ok ∧ PtM K H q f M.us.length ∧ ∀ H', Kp [] H H' → Q (.int (M.g.val f)) H'
def spBetter (K : PySem.W.Frag) (C : Addr) : Sp := fun vs H Q _ => ∃ (a : MA) (x y : Int) (M : Mdl), vs = [.ref a.p, .int x, .int y] ∧ MdlAt K C H a M ∧ Q (.bl (M.g.btr x y)) H
local macro_rules | `(tactic| walk_at "cg h") => `(tactic| (first
  | ((with_reducible show PtM _ _ _ _ _); exact PtM.kp0 (by assumption) (by walk_at "cg h"))
  | fail))
local macro_rules | `(tactic| walk_at "cg h") => `(tactic| assumption)

/-! ### the next point -/
def rGetL : V → V → Hp → VK → Prop := fun x y H Q => ∃ p xs i v, x = .ref p ∧ y = .int i ∧ H p = some (.lst xs) ∧ 0 ≤ i ∧ atI xs i = some v ∧ Q v H
theorem get_list {X : Cx} : PGet X rGetL := by
  intro pins s σ H o i ov iv Q I ro ri h
  obtain ⟨p, xs, k, z, rfl, rfl, hp, h0, he, q⟩ := h
  cases ro
  obtain ⟨t, rfl⟩ := ri
  obtain ⟨its, r, pl, hz⟩ := I.list (SqL.of hp)
  obtain ⟨j, h1, h2, h3, h4, h5⟩ := atI_get he
  obtain ⟨w, ew, rw'⟩ := r.get h2
  have hj : k.toNat = j := by
    rw [seqIndex_of h0 h5] at h1
    exact Option.some.inj h1
  have hn := line63
  have hl := r.length
  exact wpAny_getItem_list pl.isList h0 (by omega) (by rw [hj]; simpa using ew) ⟨z, H, I, rw', q⟩
theorem r_getL {H : Hp} {Q : VK} {p : Addr} {xs : List V} {i : Int} {v : V} (h : H p = some (.lst xs)) (h0 : 0 ≤ i) (e : atI xs i = some v) (q : Q v H) : rGetL (.ref p) (.int i) H Q := ⟨p, xs, i, v, rfl, rfl, h, h0, e, q⟩
instance s_augS {to ti te : TE} {tget : V → V → Hp → VK → Prop} {tip : TIp} {tset : V → V → V → Hp → (Hp → Prop) → Prop} {D : Ends} {σ : St} {H : Hp} : Stp (tAugS to ti te tget tip tset D σ H) (to σ H fun o H1 => ti σ H1 fun i H2 => tget o i H2 fun x H3 => te σ H3 fun y H4 => tip x y H4 fun z H5 => tset o i z H5 fun H6 => D.nx σ H6) := ⟨id⟩
abbrev Un := Str × Int × Int
def nxP : List Un → List Int → Option (List Int)
  | u :: us, x :: xs => match nxP us xs with
    | some ys => some (x :: ys)
    | none => if x < u.2.2 then some ((x + 1) :: us.map (·.2.1)) else none
  | _, _ => none
theorem nxP_step {us : List Un} {pt : List Int} {k : Nat} {u : Un} {x : Int} (h1 : us[k]? = some u) (h2 : pt[k]? = some x) (h3 : nxP (us.drop (k + 1)) (pt.drop (k + 1)) = none) : nxP (us.drop k) (pt.drop k) = if x < u.2.2 then some ((x + 1) :: (us.drop (k + 1)).map (·.2.1)) else none := by
  obtain ⟨i1, e1⟩ := List.getElem?_eq_some_iff.mp h1
  obtain ⟨i2, e2⟩ := List.getElem?_eq_some_iff.mp h2
  rw [List.drop_eq_getElem_cons i1, List.drop_eq_getElem_cons i2, e1, e2]
  simp only [nxP, h3]
theorem nxP_pre : ∀ {us : List Un} {pt ys : List Int} (k : Nat), us.length = pt.length → k ≤ pt.length → nxP (us.drop k) (pt.drop k) = some ys → nxP us pt = some (pt.take k ++ ys)
  | _, _, _, 0, _, _, h => h
  | [], [], _, k + 1, _, h, _ => by simp at h
  | u :: us, x :: xs, ys, k + 1, hl, hk, h => by
    have q := nxP_pre (us := us) (pt := xs) k (by simpa using hl) (by simpa using hk) h
    simp only [nxP, q]
    rfl
def spMany (K : PySem.W.Frag) (C : Addr) : Sp := fun vs H Q _ => ∃ (a : MA) (M : Mdl), vs = [.ref a.p] ∧ MdlAt K C H a M ∧ M.us.length ≤ 60 ∧ Q (.int M.us.length) H
def spNeed (K : PySem.W.Frag) (C : Addr) : Sp := fun vs H Q _ => ∃ (a : MA) (M : Mdl) (v : Int), vs = [.ref a.p, .int v] ∧ MdlAt K C H a M ∧ M.us.length ≤ 60 ∧ 0 ≤ v ∧ v < M.us.length ∧ Q .non H
def spLow (K : PySem.W.Frag) (C : Addr) : Sp := fun vs H Q _ => ∃ (a : MA) (M : Mdl) (v : Int) (u : Un), vs = [.ref a.p, .int v] ∧ MdlAt K C H a M ∧ M.us.length ≤ 60 ∧ 0 ≤ v ∧ M.us[v.toNat]? = some u ∧ Q (.int u.2.1) H
def spHigh (K : PySem.W.Frag) (C : Addr) : Sp := fun vs H Q _ => ∃ (a : MA) (M : Mdl) (v : Int) (u : Un), vs = [.ref a.p, .int v] ∧ MdlAt K C H a M ∧ M.us.length ≤ 60 ∧ 0 ≤ v ∧ M.us[v.toNat]? = some u ∧ Q (.int u.2.2) H
def spNext (K : PySem.W.Frag) (C : Addr) : Sp := fun vs H Q _ => ∃ (a : MA) (M : Mdl) (q : Addr) (pt : List Int), vs = [.ref a.p, .ref q] ∧ MdlAt K C H a M ∧ M.us.length ≤ 60 ∧ pt.length = M.us.length ∧ SqT K H q (pt.map V.int) ∧
  (nxP M.us pt = none → ∀ H', Kp [] H H' → Q .non H') ∧ ∀ pt' p H', nxP M.us pt = some pt' → SqT K H' p (pt'.map V.int) → Kp [] H H' → Q (.ref p) H'
theorem at_lo {us : List Un} {v : Int} {u : Un} (h0 : 0 ≤ v) (h : us[v.toNat]? = some u) : atI (us.map fun u => V.int u.2.1) v = some (.int u.2.1) := by
  have hi := (List.getElem?_eq_some_iff.mp h).1
  rw [atI_nat h0 (by rw [List.length_map]; omega), List.getElem?_map, h]
  rfl
theorem at_hi {us : List Un} {v : Int} {u : Un} (h0 : 0 ≤ v) (h : us[v.toNat]? = some u) : atI (us.map fun u => V.int u.2.2) v = some (.int u.2.2) := by
  have hi := (List.getElem?_eq_some_iff.mp h).1
  rw [atI_nat h0 (by rw [List.length_map]; omega), List.getElem?_map, h]
  rfl

/-! ### the points of a box in order -/
def inBx : List Un → List Int → Prop
  | [], [] => True
  | u :: us, x :: xs => (u.2.1 ≤ x ∧ x ≤ u.2.2) ∧ inBx us xs
  | _, _ => False
theorem inBx.len : ∀ {us : List Un} {pt : List Int}, inBx us pt → pt.length = us.length
  | [], [], _ => rfl
  | _ :: _, _ :: _, h => by rw [List.length_cons, List.length_cons, inBx.len h.2]
abbrev lx := HT.lexLt
theorem lx_cons (x y : Int) (xs ys : List Int) : lx (x :: xs) (y :: ys) = if x = y then lx xs ys else decide (x < y) := rfl
theorem lx_irr : ∀ a : List Int, lx a a = false
  | [] => rfl
  | x :: xs => by rw [lx_cons, if_pos rfl, lx_irr xs]
theorem lx_tr : ∀ {a b c : List Int}, lx a b = true → lx b c = true → lx a c = true
  | [], [], _, h, _ => by cases h
  | [], _ :: _, [], _, h => by cases h
  | [], _ :: _, _ :: _, _, _ => rfl
  | _ :: _, [], _, h, _ => by cases h
  | _ :: _, _ :: _, [], _, h => by cases h
  | x :: xs, y :: ys, z :: zs, h, g => by
    rw [lx_cons] at h g ⊢
    by_cases e1 : x = y
    · subst e1
      rw [if_pos rfl] at h
      by_cases e2 : x = z
      · rw [if_pos e2] at g ⊢
        exact lx_tr h g
      · rw [if_neg e2] at g ⊢
        exact g
    · rw [if_neg e1] at h
      have h' := of_decide_eq_true h
      by_cases e2 : y = z
      · subst e2
        rw [if_neg e1]
        exact h
      · rw [if_neg e2] at g
        have g' := of_decide_eq_true g
        rw [if_neg (by omega)]
        exact decide_eq_true (by omega)
theorem lx_tri : ∀ {a b : List Int}, a.length = b.length → lx a b = true ∨ a = b ∨ lx b a = true
  | [], [], _ => .inr (.inl rfl)
  | x :: xs, y :: ys, h => by
    rw [lx_cons, lx_cons]
    by_cases e : x = y
    · subst e
      rw [if_pos rfl, if_pos rfl]
      rcases lx_tri (a := xs) (b := ys) (by simpa using h) with q | q | q
      · exact .inl q
      · exact .inr (.inl (by rw [q]))
      · exact .inr (.inr q)
    · rw [if_neg e, if_neg (fun q => e q.symm)]
      rcases Int.lt_or_lt_of_ne e with q | q
      · exact .inl (decide_eq_true q)
      · exact .inr (.inr (decide_eq_true q))
def lowP (us : List Un) : List Int := us.map (·.2.1)
theorem low_in : ∀ {us : List Un}, (∀ u ∈ us, u.2.1 ≤ u.2.2) → inBx us (lowP us)
  | [], _ => trivial
  | u :: us, h => ⟨⟨Int.le_refl _, h u (by simp)⟩, low_in fun v hv => h v (by simp [hv])⟩
theorem low_least : ∀ {us : List Un} {z : List Int}, inBx us z → z = lowP us ∨ lx (lowP us) z = true
  | [], [], _ => .inl rfl
  | u :: us, y :: ys, h => by
    show y :: ys = u.2.1 :: lowP us ∨ lx (u.2.1 :: lowP us) (y :: ys) = true
    rw [lx_cons]
    by_cases e : u.2.1 = y
    · rw [if_pos e]
      rcases low_least h.2 with q | q
      · exact .inl (by rw [q, e])
      · exact .inr q
    · rw [if_neg e]
      exact .inr (decide_eq_true (by have := h.1.1; omega))
theorem nx_none : ∀ {us : List Un} {pt : List Int}, nxP us pt = none → inBx us pt → ∀ z, inBx us z → lx pt z = false
  | [], [], _, _, [], _ => rfl
  | u :: us, x :: xs, h, p, y :: ys, hz => by
    cases e : nxP us xs with
    | some w => simp [nxP, e] at h
    | none =>
      simp only [nxP, e] at h
      have hx : ¬ x < u.2.2 := fun q => by rw [if_pos q] at h; cases h
      rw [lx_cons]
      by_cases e1 : x = y
      · rw [if_pos e1]
        exact nx_none e p.2 ys hz.2
      · rw [if_neg e1]
        exact decide_eq_false (by have := hz.1.2; omega)
theorem nx_some : ∀ {us : List Un} {pt pt' : List Int}, (∀ u ∈ us, u.2.1 ≤ u.2.2) → nxP us pt = some pt' → inBx us pt → inBx us pt' ∧ lx pt pt' = true ∧ ∀ z, inBx us z → lx pt z = true → z = pt' ∨ lx pt' z = true
  | [], _, _, _, h, _ => by simp [nxP] at h
  | u :: us, [], _, _, h, _ => by simp [nxP] at h
  | u :: us, x :: xs, pt', ok, h, p => by
    have ok' : ∀ v ∈ us, v.2.1 ≤ v.2.2 := fun v hv => ok v (by simp [hv])
    cases e : nxP us xs with
    | some ys =>
      simp only [nxP, e, Option.some.injEq] at h
      subst h
      obtain ⟨q1, q2, q3⟩ := nx_some ok' e p.2
      refine ⟨⟨p.1, q1⟩, by rw [lx_cons, if_pos rfl]; exact q2, fun z hz hl => ?_⟩
      cases z with
      | nil => exact hz.elim
      | cons y zs =>
        rw [lx_cons] at hl ⊢
        by_cases e1 : x = y
        · rw [if_pos e1] at hl ⊢
          rcases q3 zs hz.2 hl with r | r
          · exact .inl (by rw [r, e1])
          · exact .inr r
        · rw [if_neg e1] at hl ⊢
          exact .inr hl
    | none =>
      simp only [nxP, e] at h
      by_cases hx : x < u.2.2
      · rw [if_pos hx] at h
        cases h
        refine ⟨⟨⟨by have := p.1.1; omega, by omega⟩, low_in ok'⟩, by rw [lx_cons, if_neg (by omega)]; exact decide_eq_true (by omega), fun z hz hl => ?_⟩
        cases z with
        | nil => exact hz.elim
        | cons y zs =>
          rw [lx_cons] at hl ⊢
          by_cases e1 : x = y
          · rw [if_pos e1, nx_none e p.2 zs hz.2] at hl
            cases hl
          · rw [if_neg e1] at hl
            have h1 := of_decide_eq_true hl
            by_cases e2 : x + 1 = y
            · rw [if_pos e2]
              rcases low_least hz.2 with r | r
              · exact .inl (by rw [r, e2]; rfl)
              · exact .inr r
            · rw [if_neg e2]
              exact .inr (decide_eq_true (by omega))
      · rw [if_neg hx] at h
        cases h
/-- how many points there are, and how many come after one -/
def szB : List Un → Nat
  | [] => 1
  | u :: us => (u.2.2 - u.2.1 + 1).toNat * szB us
def rmB : List Un → List Int → Nat
  | u :: us, x :: xs => (u.2.2 - x).toNat * szB us + rmB us xs
  | _, _ => 0
theorem rm_low : ∀ {us : List Un}, (∀ u ∈ us, u.2.1 ≤ u.2.2) → rmB us (lowP us) + 1 = szB us
  | [], _ => rfl
  | u :: us, h => by
    have q := rm_low (us := us) fun v hv => h v (by simp [hv])
    have h0 := h u (by simp)
    show (u.2.2 - u.2.1).toNat * szB us + rmB us (lowP us) + 1 = (u.2.2 - u.2.1 + 1).toNat * szB us
    rw [Nat.add_assoc, q, show (u.2.2 - u.2.1 + 1).toNat = (u.2.2 - u.2.1).toNat + 1 by omega, Nat.add_mul, Nat.one_mul]
theorem rm_lt : ∀ {us : List Un} {pt pt' : List Int}, (∀ u ∈ us, u.2.1 ≤ u.2.2) → nxP us pt = some pt' → rmB us pt' < rmB us pt
  | [], _, _, _, h => by simp [nxP] at h
  | u :: us, [], _, _, h => by simp [nxP] at h
  | u :: us, x :: xs, pt', ok, h => by
    have ok' : ∀ v ∈ us, v.2.1 ≤ v.2.2 := fun v hv => ok v (by simp [hv])
    cases e : nxP us xs with
    | some ys =>
      simp only [nxP, e, Option.some.injEq] at h
      subst h
      exact Nat.add_lt_add_left (rm_lt ok' e) _
    | none =>
      simp only [nxP, e] at h
      by_cases hx : x < u.2.2
      · rw [if_pos hx] at h
        cases h
        have q := rm_low ok'
        show (u.2.2 - (x + 1)).toNat * szB us + rmB us (lowP us) < (u.2.2 - x).toNat * szB us + rmB us xs
        rw [show (u.2.2 - x).toNat = (u.2.2 - (x + 1)).toNat + 1 by omega, Nat.add_mul, Nat.one_mul]
        omega
      · rw [if_neg hx] at h
        cases h
structure Enm (us : List Un) (f : List Int → Bool) (L : List (List Int)) (pt : List Int) : Prop where
  m : ∀ z, inBx us z → (z ∈ L ↔ f z = true ∧ ¬ (z = pt ∨ lx pt z = true))
  b : ∀ z ∈ L, inBx us z
  s : L.Pairwise fun a b => lx a b = true
  p : inBx us pt
  c : L.length + rmB us pt < szB us
structure AllP (us : List Un) (f : List Int → Bool) (L : List (List Int)) : Prop where
  m : ∀ z, inBx us z → (z ∈ L ↔ f z = true)
  b : ∀ z ∈ L, inBx us z
  s : L.Pairwise fun a b => lx a b = true
  c : L.length ≤ szB us
theorem Enm.begin {us : List Un} {f : List Int → Bool} (ok : ∀ u ∈ us, u.2.1 ≤ u.2.2) : Enm us f [] (lowP us) :=
  ⟨fun z hz => ⟨nofun, fun h => (h.2 (low_least hz)).elim⟩, nofun, .nil, low_in ok, by have := rm_low ok; simp; omega⟩
/-- what is found, the point itself looked at -/
def addP (f : List Int → Bool) (L : List (List Int)) (pt : List Int) : List (List Int) := if f pt then L ++ [pt] else L
theorem addP_mem {f : List Int → Bool} {L : List (List Int)} {pt z : List Int} : z ∈ addP f L pt ↔ z ∈ L ∨ (f pt = true ∧ z = pt) := by
  unfold addP
  split
  · rename_i h
    simp [h]
  · rename_i h
    simp [h]
theorem Enm.sorted {us : List Un} {f : List Int → Bool} {L : List (List Int)} {pt : List Int} (h : Enm us f L pt) : (addP f L pt).Pairwise fun a b => lx a b = true := by
  unfold addP
  split
  · rw [List.pairwise_append]
    refine ⟨h.s, List.pairwise_singleton .., fun a ha b hb => ?_⟩
    rw [List.mem_singleton] at hb
    subst hb
    have ba := h.b a ha
    have q := ((h.m a ba).mp ha).2
    rcases lx_tri (a := a) (b := b) (by rw [ba.len, h.p.len]) with r | r | r
    · exact r
    · exact (q (.inl r)).elim
    · exact (q (.inr r)).elim
  · exact h.s
theorem addP_len (f : List Int → Bool) (L : List (List Int)) (pt : List Int) : (addP f L pt).length ≤ L.length + 1 := by
  unfold addP
  split
  · simp
  · omega
theorem Enm.next {us : List Un} {f : List Int → Bool} {L : List (List Int)} {pt pt' : List Int} (ok : ∀ u ∈ us, u.2.1 ≤ u.2.2) (h : Enm us f L pt) (e : nxP us pt = some pt') : Enm us f (addP f L pt) pt' := by
  obtain ⟨q1, q2, q3⟩ := nx_some ok e h.p
  refine ⟨fun z hz => ?_, fun z hz => ?_, h.sorted, q1, by have := addP_len f L pt; have := rm_lt ok e; have := h.c; omega⟩
  · rw [addP_mem, h.m z hz]
    constructor
    · rintro (⟨h1, h2⟩ | ⟨h1, rfl⟩)
      · refine ⟨h1, fun g => h2 (.inr ?_)⟩
        rcases g with rfl | g
        · exact q2
        · exact lx_tr q2 g
      · refine ⟨h1, fun g => ?_⟩
        have i := lx_irr z
        rcases g with g | g
        · rw [← g] at q2
          rw [i] at q2
          cases q2
        · rw [lx_tr q2 g] at i
          cases i
    · rintro ⟨h1, h2⟩
      by_cases g : z = pt
      · exact .inr ⟨g ▸ h1, g⟩
      · exact .inl ⟨h1, fun r => r.elim g fun r => h2 (q3 z hz r)⟩
  · rcases addP_mem.mp hz with g | ⟨_, rfl⟩
    · exact h.b z g
    · exact h.p
theorem Enm.fin {us : List Un} {f : List Int → Bool} {L : List (List Int)} {pt : List Int} (h : Enm us f L pt) (e : nxP us pt = none) : AllP us f (addP f L pt) := by
  refine ⟨fun z hz => ?_, fun z hz => ?_, h.sorted, by have := addP_len f L pt; have := h.c; omega⟩
  · rw [addP_mem, h.m z hz, nx_none e h.p z hz]
    constructor
    · rintro (⟨h1, _⟩ | ⟨h1, rfl⟩)
      · exact h1
      · exact h1
    · intro h1
      by_cases g : z = pt
      · exact .inr ⟨g ▸ h1, g⟩
      · exact .inl ⟨h1, fun r => r.elim g nofun⟩
  · rcases addP_mem.mp hz with g | ⟨_, rfl⟩
    · exact h.b z g
    · exact h.p

structure Bi (K : PySem.W.Frag) (mg : Str → Option Value) (C_Model : Addr) : Prop where
  n_len : mg "len" = none
  n_int : mg "int" = none
  n_list : mg "list" = none
  n_tuple : mg "tuple" = none
  n_range : mg "range" = none
  n_all : mg "all" = none
  n_any : mg "any" = none
  n_isinstance : mg "isinstance" = none
  n_bool : mg "bool" = none
  n_abs : mg "abs" = none
  n_set : mg "set" = none
  n_str : mg "str" = none
  c_COEFFICIENT_MOST : ∃ u, mg "COEFFICIENT_MOST" = some u ∧ RelV (.int 1000000) u
  c_SUM_MOST : ∃ u, mg "SUM_MOST" = some u ∧ RelV (.int 1000000000) u
  c_ENTRY_MOST : ∃ u, mg "ENTRY_MOST" = some u ∧ RelV (.int 1000) u
  c_LETTERS : ∃ u, mg "LETTERS" = some u ∧ RelV (.str (Str.ofString "abcdefghijklmnopqrstuvwxyz")) u
  c_DIGITS : ∃ u, mg "DIGITS" = some u ∧ RelV (.str (Str.ofString "0123456789")) u
  c_UNKNOWNS_MOST : ∃ u, mg "UNKNOWNS_MOST" = some u ∧ RelV (.int 60) u
  c_CONSTRAINTS_MOST : ∃ u, mg "CONSTRAINTS_MOST" = some u ∧ RelV (.int 200) u
  c_BOUND_MOST : ∃ u, mg "BOUND_MOST" = some u ∧ RelV (.int 1000) u
  cl_Model : Cls K C_Model
  at_Model__names : NoAttr K C_Model "_names"
  at_Model__lows : NoAttr K C_Model "_lows"
  at_Model__highs : NoAttr K C_Model "_highs"
  at_Model__bodies : NoAttr K C_Model "_bodies"
  at_Model__goal : NoAttr K C_Model "_goal"
  c_POINTS_MOST : ∃ u, mg "POINTS_MOST" = some u ∧ RelV (.int 20000) u
  e_TooLarge : ExcAt K mg "TooLarge"
  x_TooLarge_TooLarge : PySem.W.exmOne K (exC K "TooLarge") (exC K "TooLarge") = some true
section
variable {P : Program} {w : World} {K : PySem.W.Frag} {mg : Str → Option Value} {base : Heap} {C_Model : Addr}
theorem ok_relation_holds {f : Addr} {fd : FuncData} (F : Fun K "relation_holds" "relation_holds" s_relation_holds f fd) (B : Bi K mg C_Model)  : FnOk P w K mg base CX0 1 f fd ["relation", "left", "right"] spRel := by
  have nd := sc_relation_holds.nd
  refine F.ok sc_relation_holds ?len (fun cdv A outer s H vs Q E hr h => ?body)
  case len =>
    rintro vs H Q E ⟨r, a, b, rfl, _⟩
    rfl
  case body =>
    obtain ⟨r, a, b, rfl, q⟩ := h
    refine ⟨_, (pss_cons (ps_if (pt_cmpR op_eq (pv 0) pe_str (nomark _))
      (pss_one (ps_ret (pe_cmpR op_le (pv 1) (pv 2) (nomark _))))
      pss_nil)
      (pss_cons (ps_if (pt_cmpR op_eq (pv 0) pe_str (nomark _))
      (pss_one (ps_ret (pe_cmpR op_ge (pv 1) (pv 2) (nomark _))))
      pss_nil)
      (pss_cons (ps_if (pt_cmpR op_eq (pv 0) pe_str (nomark _))
      (pss_one (ps_ret (pe_cmpR op_eq (pv 1) (pv 2) (nomark _))))
      pss_nil)
      (pss_one (ps_ret (pe_cmpR op_ne (pv 1) (pv 2) (nomark _))))))), ?_⟩
    try dsimp only [L2.cxOf, L2.Cx.nox, L2.Cx.wish]
    rw [st_relation_holds]
    cases r
    all_goals
      walk_at "cg"
      exact q

theorem ok_literal_holds {f : Addr} {fd : FuncData} (F : Fun K "literal_holds" "literal_holds" s_literal_holds f fd) (B : Bi K mg C_Model) (D_relation_holds : Is P w K mg base CX0 1 "relation_holds" ["relation", "left", "right"] spRel) : FnOk P w K mg base CX0 2 f fd ["literal", "worth"] (spLit K) := by
  have nd := sc_literal_holds.nd
  refine F.ok sc_literal_holds ?len (fun cdv A outer s H vs Q E hr h => ?body)
  case len =>
    rintro vs H Q E ⟨p, v, r, a, x, rfl, _⟩
    rfl
  case body =>
    obtain ⟨p, v, r, a, x, rfl, hL, q⟩ := h
    refine ⟨_, (pss_one (ps_ret (pe_is D_relation_holds (hr.mono (by decide)) rfl pass0 (pa_cons (pe_ix (ixT K) (pv 0) pe_int (fun _ _ => rfl)) (pa_cons (pv 1) (pa_cons (pe_ix (ixT K) (pv 0) pe_int (fun _ _ => rfl)) pa_nil)))))), ?_⟩
    try dsimp only [L2.cxOf, L2.Cx.nox, L2.Cx.wish]
    rw [st_literal_holds]
    walk_at "cg"
    exact q

theorem ok_terms_sum {f : Addr} {fd : FuncData} (F : Fun K "terms_sum" "terms_sum" s_terms_sum f fd) (B : Bi K mg C_Model)  : FnOk P w K mg base CX0 1 f fd ["terms", "point"] (spSumF K) := by
  have nd := sc_terms_sum.nd
  refine F.ok sc_terms_sum ?len (fun cdv A outer s H vs Q E hr h => ?body)
  case len =>
    rintro vs H Q E ⟨p, q, ts, f, dom, rfl, _⟩
    rfl
  case body =>
    obtain ⟨p, q, ts, f, dom, rfl, hI, hP, hD, hT, k⟩ := h
    refine ⟨_, (pss_cons (ps_set (i := 2) nd rfl (Or.inl rfl) pe_int)
      (pss_cons (ps_for PassesOwn.never rfl (pi_tup (pv 0)) (pg_tup (n := 2) rfl (pgs_cons (pg_name (i := 3) nd rfl (Or.inl rfl)) (pgs_cons (pg_name (i := 4) nd rfl (Or.inl rfl)) pgs_nil)))
      (pss_one (ps_aug (i := 2) nd rfl (Or.inl rfl) (pe_op op_mul (pv 4) (pe_ix (ixP K) (pv 1) (pv 3) (fun _ _ => rfl))) ip_add)))
      (pss_one (ps_ret (pv 2))))), ?_⟩
    try dsimp only [L2.cxOf, L2.Cx.nox, L2.Cx.wish]
    rw [st_terms_sum]
    obtain ⟨xs, h1, h2⟩ := hI.open
    walk_at "cg"
    refine r_forTI [] h1 h2 (fun i σ' H' => ∃ x3 x4 : Option V, σ' = [some (.ref p), some (.ref q), some (.int (sumF (ts.take i) f)), x3, x4] ∧ H = H') ⟨_, _, rfl, rfl⟩ (fun i σ' H' ⟨_, _, _, e⟩ => e ▸ .refl) ?_ ?_
    · rintro i z x σ' H' hz hxd _ ⟨x3, x4, rfl, rfl⟩
      obtain ⟨px, rfl, hs⟩ := term_at hxd
      have hzt := hT z (List.mem_of_getElem? hz)
      walk_at "cg"
      refine r_pt hP (hD z (List.mem_of_getElem? hz)) ?_
      walk_at "cg"
      exact ⟨_, _, by rw [sumF_take f hz], rfl⟩
    · rintro σ' H' _ ⟨x3, x4, rfl, rfl⟩
      walk_at "cg"
      rw [List.take_length]
      exact k

theorem ok_body_holds {f : Addr} {fd : FuncData} (F : Fun K "body_holds" "body_holds" s_body_holds f fd) (B : Bi K mg C_Model) (D_relation_holds : Is P w K mg base CX0 1 "relation_holds" ["relation", "left", "right"] spRel) (D_terms_sum : Is P w K mg base CX0 1 "terms_sum" ["terms", "point"] (spSumF K)) (D_literal_holds : Is P w K mg base CX0 2 "literal_holds" ["literal", "worth"] (spLit K)) : FnOk P w K mg base CX0 3 f fd ["body", "point"] (spHolds K) := by
  have nd := sc_body_holds.nd
  refine F.ok sc_body_holds ?len (fun cdv A outer s H vs Q E hr h => ?body)
  case len =>
    rintro vs H Q E ⟨p, q, b, f, dom, rfl, _⟩
    rfl
  case body =>
    obtain ⟨p, q, b, f, dom, rfl, hb, bd, hP, hF, hD, k⟩ := h
    refine ⟨_, (pss_cons (ps_set (i := 2) nd rfl (Or.inl rfl) (pe_ix (ixT K) (pv 0) pe_int (fun _ _ => rfl)))
      (pss_cons (ps_if (pt_cmpR op_eq (pv 2) pe_str (nomark _))
      (pss_one (ps_ret (pe_is D_relation_holds (hr.mono (by decide)) rfl pass0 (pa_cons (pe_ix (ixT K) (pv 0) pe_int (fun _ _ => rfl)) (pa_cons (pe_is D_terms_sum (hr.mono (by decide)) rfl pass0 (pa_cons (pe_ix (ixT K) (pv 0) pe_int (fun _ _ => rfl)) (pa_cons (pv 1) pa_nil))) (pa_cons (pe_ix (ixT K) (pv 0) pe_int (fun _ _ => rfl)) pa_nil))))))
      pss_nil)
      (pss_cons (ps_if (pt_cmpR op_eq (pv 2) pe_str (nomark _))
      (pss_one (ps_ret (pe_callB (cr_any rfl) (by rfl) B.n_any (by decide +kernel) (pa_cons (by exact pe_lc (own := [("literal", 3)]) (g := (gName 3)) (tt := tYes) rfl nd (pi_tup (pe_ix (ixT K) (pv 0) pe_int (fun _ _ => rfl))) (blkOk_by (N := ["body", "point", "kind", "literal", "at", "v"]) (sc := defScope s_body_holds) (by decide +kernel)) (fun _ _ _ _ _ => (pg_name (i := 3) nd rfl (Or.inl rfl))) (fun _ _ _ _ _ => pts_nil) (fun _ _ _ _ _ => (pe_is D_literal_holds (hr.mono (by decide)) rfl pass0 (pa_cons (pv 3) (pa_cons (pe_ix (ixP K) (pv 1) (pe_ix (ixT K) (pv 3) pe_int (fun _ _ => rfl)) (fun _ _ => rfl)) pa_nil))))) pa_nil))))
      pss_nil)
      (pss_cons (ps_if (pt_cmpR op_eq (pv 2) pe_str (nomark _))
      (pss_cons (ps_set (i := 3) nd rfl (Or.inl rfl) (pe_ix (ixT K) (pv 0) pe_int (fun _ _ => rfl)))
      (pss_cons (ps_if (pt_not (pt_val (pe_is D_literal_holds (hr.mono (by decide)) rfl pass0 (pa_cons (pv 3) (pa_cons (pe_ix (ixP K) (pv 1) (pe_ix (ixT K) (pv 3) pe_int (fun _ _ => rfl)) (fun _ _ => rfl)) pa_nil)))))
      (pss_one (ps_ret pe_bl))
      pss_nil)
      (pss_one (ps_ret (pe_is D_relation_holds (hr.mono (by decide)) rfl pass0 (pa_cons (pe_ix (ixT K) (pv 0) pe_int (fun _ _ => rfl)) (pa_cons (pe_is D_terms_sum (hr.mono (by decide)) rfl pass0 (pa_cons (pe_ix (ixT K) (pv 0) pe_int (fun _ _ => rfl)) (pa_cons (pv 1) pa_nil))) (pa_cons (pe_ix (ixT K) (pv 0) pe_int (fun _ _ => rfl)) pa_nil))))))))
      pss_nil)
      (pss_cons (ps_if (pt_cmpR op_eq (pv 2) pe_str (nomark _))
      (pss_one (ps_ret (pe_cmpR op_eq (pe_callB cg_lenN (by rfl) B.n_len PySem.boot_len (pa_cons (pe_callTy (cg_setLn rfl) (by rfl) B.n_set PyProof.Rows.boot_set (pa_cons (by exact pe_lc (own := [("v", 5)]) (g := (gName 5)) (tt := tYes) rfl nd (pi_tup (pe_ix (ixT K) (pv 0) pe_int (fun _ _ => rfl))) (blkOk_by (N := ["body", "point", "kind", "literal", "at", "v"]) (sc := defScope s_body_holds) (by decide +kernel)) (fun _ _ _ _ _ => (pg_name (i := 5) nd rfl (Or.inl rfl))) (fun _ _ _ _ _ => pts_nil) (fun _ _ _ _ _ => (pe_ix (ixP K) (pv 1) (pv 5) (fun _ _ => rfl)))) pa_nil)) pa_nil)) (pe_callB (cgLen K) (by rfl) B.n_len PySem.boot_len (pa_cons (pe_ix (ixT K) (pv 0) pe_int (fun _ _ => rfl)) pa_nil)) (nomark _))))
      pss_nil)
      (pss_cons (ps_if (pt_cmpR op_eq (pv 2) pe_str (nomark _))
      (pss_one (ps_ret (pe_cmpR (inDT K hr) (pe_callTy (cgTuple K) (by rfl) B.n_tuple (by decide +kernel) (pa_cons (by exact pe_lc (own := [("v", 5)]) (g := (gName 5)) (tt := tYes) rfl nd (pi_tup (pe_ix (ixT K) (pv 0) pe_int (fun _ _ => rfl))) (blkOk_by (N := ["body", "point", "kind", "literal", "at", "v"]) (sc := defScope s_body_holds) (by decide +kernel)) (fun _ _ _ _ _ => (pg_name (i := 5) nd rfl (Or.inl rfl))) (fun _ _ _ _ _ => pts_nil) (fun _ _ _ _ _ => (pe_ix (ixP K) (pv 1) (pv 5) (fun _ _ => rfl)))) pa_nil)) (pe_ix (ixT K) (pv 0) pe_int (fun _ _ => rfl)) rfl)))
      pss_nil)
      (pss_cons (ps_if (pt_cmpR op_eq (pv 2) pe_str (nomark _))
      (pss_cons (ps_set (i := 4) nd rfl (Or.inl rfl) (pe_ix (ixP K) (pv 1) (pe_ix (ixT K) (pv 0) pe_int (fun _ _ => rfl)) (fun _ _ => rfl)))
      (pss_one (ps_ret (pe_and (pe_chain op_le op_lt pe_int (pv 4) (pe_callB (cgLen K) (by rfl) B.n_len PySem.boot_len (pa_cons (pe_ix (ixT K) (pv 0) pe_int (fun _ _ => rfl)) pa_nil))) (pe_one (pe_cmpR op_eq (pe_ix (ixT K) (pe_ix (ixT K) (pv 0) pe_int (fun _ _ => rfl)) (pv 4) (fun _ _ => rfl)) (pe_ix (ixP K) (pv 1) (pe_ix (ixT K) (pv 0) pe_int (fun _ _ => rfl)) (fun _ _ => rfl)) (nomark _)))))))
      pss_nil)
      (pss_one (ps_ret (pe_cmpR op_eq (pe_op op_mul (pe_ix (ixP K) (pv 1) (pe_ix (ixT K) (pv 0) pe_int (fun _ _ => rfl)) (fun _ _ => rfl)) (pe_ix (ixP K) (pv 1) (pe_ix (ixT K) (pv 0) pe_int (fun _ _ => rfl)) (fun _ _ => rfl))) (pe_ix (ixP K) (pv 1) (pe_ix (ixT K) (pv 0) pe_int (fun _ _ => rfl)) (fun _ _ => rfl)) (nomark _))))))))))), ?_⟩
    try dsimp only [L2.cxOf, L2.Cx.nox, L2.Cx.wish]
    rw [st_body_holds]
    cases b with
    | row ts r n =>
      obtain ⟨q1, s1, i1⟩ := b_row hb
      walk_at "cg"
      refine spSumF_i i1 hP (fun z hz => hD _ (List.mem_map.mpr ⟨z, hz, rfl⟩)) bd.1 ?_
      walk_at "cg"
      exact k _ .refl
    | any ls =>
      obtain ⟨q1, s1, i1⟩ := b_any hb
      obtain ⟨xs, s2, i2⟩ := Im.open i1
      walk_at "cg"
      refine lcT_b s2 i2 (fun l => l.h f) (by have : ls.length ≤ 62 := bd; omega) (fun i l x H' R R' hl k2 hx q2 => ?_) (fun D H' hD eD k2 => ?_)
      · obtain ⟨px, rfl, hs⟩ := lit_at hx
        walk_at "cg"
        refine r_pt (hP.kp0 k2) (hD _ (List.mem_map.mpr ⟨l, List.mem_of_getElem? hl, rfl⟩)) ?_
        walk_at "cg"
        exact q2 _ .refl
      · walk_at "cg"
        refine r_any eD ?_
        have e : (ls.map fun l => l.h f).any id = Body.h f (.any ls) := by
          rw [List.any_map]
          rfl
        rw [e]
        exact k _ (by walk_at "cg kp")
    | when l ts r n =>
      obtain ⟨q1, q2, s1, L, i1⟩ := b_when hb
      walk_at "cg"
      refine r_pt hP (hD _ List.mem_cons_self) ?_
      walk_at "cg"
      have e : l.h f = l.r.h (f l.v) l.a := rfl
      cases e2 : l.r.h (f l.v) l.a
      · walk_at "cg"
        have q := k H .refl
        simp only [Body.h, e, e2, Bool.not_false, Bool.true_or] at q
        exact q
      · walk_at "cg"
        refine spSumF_i i1 hP (fun z hz => hD _ (List.mem_cons_of_mem _ (List.mem_map.mpr ⟨z, hz, rfl⟩))) bd.1 ?_
        walk_at "cg"
        have q := k H .refl
        simp only [Body.h, e, e2, Bool.not_true, Bool.false_or] at q
        exact q
    | diff us =>
      obtain ⟨q1, s1, s2⟩ := b_diff hb
      have few : us.length ≤ 62 := bd
      walk_at "cg"
      refine lcT_i s2 (imInts us) f (by omega) (fun i v x H' R R' hv k2 hx q2 => ?_) (fun D H' hD eD k2 => ?_)
      · obtain rfl := hx.flat (y := .int v) rfl
        walk_at "cg"
        refine r_pt (hP.kp0 k2) (hD _ (List.mem_of_getElem? hv)) ?_
        walk_at "cg"
        exact q2 _ .refl
      · walk_at "cg"
        refine r_setLn eD (by rw [List.length_map]; omega) fun S H3 hS eS k3 => ?_
        walk_at "cg"
        refine r_lenN eS ?_
        walk_at "cg"
        have e : decide (((dd (us.map f)).length : Int) = ((us.map V.int).length : Int)) = Body.h f (.diff us) := by
          simp only [Body.h]
          rw [Bool.eq_iff_iff, decide_eq_true_eq, decide_eq_true_eq, ← dd_len, List.length_map, List.length_map]
          omega
        rw [e]
        exact k _ (by walk_at "cg kp")
    | table us rows =>
      obtain ⟨q1, q2, s1, s2, i2⟩ := b_table hb
      have few : us.length ≤ 62 := bd.1
      walk_at "cg"
      refine lcT_i s2 (imInts us) f (by omega) (fun i v x H' R R' hv k2 hx q2 => ?_) (fun D H' hD eD k2 => ?_)
      · obtain rfl := hx.flat (y := .int v) rfl
        walk_at "cg"
        refine r_pt (hP.kp0 k2) (hD _ (List.mem_of_getElem? hv)) ?_
        walk_at "cg"
        exact q2 _ .refl
      · walk_at "cg"
        refine ⟨intsD (us.map f), rows.map intsD, Im.dp (intsT_im (by assumption)), Im.dp (by walk_at "cg h"), (intsD_shp _).ok, (rowsD_shp _).ok, ?_⟩
        have e : ((rows.map intsD).any fun z => PyData.eqv z (intsD (us.map f))) = Body.h f (.table us rows) := by
          rw [any_in intsD_eqv, Bool.eq_iff_iff]
          simp [Body.h]
        rw [e]
        exact k _ (by walk_at "cg kp")
    | elem x es y =>
      obtain ⟨q1, s1, s2⟩ := b_elem hb
      have few : es.length ≤ 1000 := bd
      walk_at "cg"
      refine r_pt hP (hD x (by simp [Body.vars])) ?_
      walk_at "cg"
      refine if_S (fun h0 => ?_) (fun h0 => ?_)
      · walk_at "cg"
        refine if_S (fun h1 => ?_) (fun h1 => ?_)
        · rw [List.length_map] at h1
          walk_at "cg"
          refine r_ixT s2 (atI_ints h0 h1) ?_
          walk_at "cg"
          refine r_pt hP (hD y (by simp [Body.vars])) ?_
          walk_at "cg"
          have q := k H .refl
          simp only [Body.h, decide_eq_true h0, decide_eq_true h1, Bool.true_and] at q
          exact q
        · rw [List.length_map] at h1
          walk_at "cg"
          have q := k H .refl
          simp only [Body.h, decide_eq_true h0, decide_eq_false h1, Bool.true_and, Bool.false_and] at q
          exact q
      · walk_at "cg"
        have q := k H .refl
        simp only [Body.h, decide_eq_false h0, Bool.false_and] at q
        exact q
    | times x y z =>
      have s1 := b_times hb
      have b1 := hF x (hD x (by simp [Body.vars]))
      walk_at "cg"
      refine r_pt hP (hD x (by simp [Body.vars])) ?_
      walk_at "cg"
      refine r_pt hP (hD y (by simp [Body.vars])) ?_
      walk_at "cg"
      refine r_pt hP (hD z (by simp [Body.vars])) ?_
      walk_at "cg"
      exact k _ .refl

theorem ok_is_label {f : Addr} {fd : FuncData} (F : Fun K "is_label" "is_label" s_is_label f fd) (B : Bi K mg C_Model)  : FnOk P w K mg base CX0 1 f fd ["text"] spLabel := by
  have nd := sc_is_label.nd
  refine F.ok sc_is_label ?len (fun cdv A outer s H vs Q E hr h => ?body)
  case len =>
    rintro vs H Q E ⟨s, rfl, _⟩
    rfl
  case body =>
    obtain ⟨s, rfl, hl, k⟩ := h
    refine ⟨_, (pss_cons (ps_if (PW.pt (pw_or (pt_not (pt_chain op_le op_le pe_int (pe_callB cg_lenS (by rfl) B.n_len PySem.boot_len (pa_cons (pv 0) pa_nil)) pe_int)) (pw_or1 (pt_cmpR op_sgnNot (pe_ix ix_str (pv 0) pe_int (fun _ _ => rfl)) (pe_gc rfl B.c_LETTERS) rfl))))
      (pss_one (ps_ret pe_bl))
      pss_nil)
      (pss_cons (ps_for PassesOwn.never rfl (pi_str (pv 0)) (pg_name (i := 1) nd rfl (Or.inl rfl))
      (pss_one (ps_if (PW.pt (pw_and (pt_cmpR op_sgnNot (pv 1) (pe_gc rfl B.c_LETTERS) rfl) (pw_and1 (pt_cmpR op_sgnNot (pv 1) (pe_gc rfl B.c_DIGITS) rfl))))
      (pss_one (ps_ret pe_bl))
      pss_nil)))
      (pss_one (ps_ret pe_bl)))), ?_⟩
    try dsimp only [L2.cxOf, L2.Cx.nox, L2.Cx.wish]
    rw [st_is_label]
    have hsz : s.length = s.cps.toList.length := by first | rfl | simp [Str.length]
    walk_at "cg"
    refine r_lenS hl ?_
    walk_at "cg"
    refine if_S (fun h1 => ?_) (fun h1 => ?_)
    · walk_at "cg"
      refine if_NS (fun h2 => ?_) (fun h2 => ?_)
      · walk_at "cg"
        have e : labelB s = false := by
          unfold labelB
          rw [decide_eq_false (show ¬ s.length ≤ 20 by omega)]
          simp
        rw [e] at k
        exact k
      · obtain ⟨c, cs, ec⟩ : ∃ c cs, s.cps.toList = c :: cs := by
          cases e : s.cps.toList with
          | nil =>
            rw [e] at hsz
            simp at hsz
            omega
          | cons c cs => exact ⟨c, cs, rfl⟩
        walk_at "cg"
        refine r_ixS (c := c) hl (by rw [ec]; exact atI_0) ?_
        walk_at "cg"
        refine if_NS (fun h3 => ?_) (fun h3 => ?_)
        · walk_at "cg"
          have e : labelB s = false := by
            unfold labelB
            rw [ec]
            simp only
            rw [decide_eq_false (show ¬ c ∈ lettersS.cps.toList from h3)]
            simp
          rw [e] at k
          exact k
        · walk_at "cg"
          have top3 : labelB s = s.cps.toList.all sgnOk := by
            unfold labelB
            rw [decide_eq_true (show 1 ≤ s.length by omega), decide_eq_true (show s.length ≤ 20 by omega)]
            rw [ec]
            simp only
            rw [decide_eq_true (show c ∈ lettersS.cps.toList from h3)]
            simp
          rw [top3] at k
          refine r_forS (fun i σ' H' => ∃ x : Option V, σ' = [some (.str s), x] ∧ H = H' ∧ (s.cps.toList.take i).all sgnOk = true) ⟨none, rfl, rfl, rfl⟩ ?_ ?_
          · rintro i c' σ' H' hc ⟨x, rfl, rfl, ok⟩
            have hc' : s.cps.toList[i]? = some c' := by rw [Array.getElem?_toList]; exact hc
            have bad : sgnOk c' = false → s.cps.toList.all sgnOk = false := fun h => by
              rw [Bool.eq_false_iff]
              intro a
              have := List.all_eq_true.mp a c' (List.mem_of_getElem? hc')
              rw [h] at this
              cases this
            have good : sgnOk c' = true → (s.cps.toList.take (i + 1)).all sgnOk = true := fun h => by
              rw [List.take_add_one, hc', List.all_append, ok]
              simp [h]
            walk_at "cg"
            refine if_NS (fun h4 => ?_) (fun h4 => ?_)
            · walk_at "cg"
              refine if_NS (fun h5 => ?_) (fun h5 => ?_)
              · walk_at "cg"
                have e := bad (by unfold sgnOk; rw [decide_eq_false (show ¬ c' ∈ lettersS.cps.toList from h4), decide_eq_false (show ¬ c' ∈ digitsS.cps.toList from h5)]; rfl)
                rw [e] at k
                exact k
              · walk_at "cg"
                exact ⟨_, rfl, rfl, good (by unfold sgnOk; rw [decide_eq_true (show c' ∈ digitsS.cps.toList from h5), Bool.or_true])⟩
            · walk_at "cg"
              exact ⟨_, rfl, rfl, good (by unfold sgnOk; rw [decide_eq_true (show c' ∈ lettersS.cps.toList from h4), Bool.true_or])⟩
          · rintro σ' H' ⟨x, rfl, rfl, ok⟩
            walk_at "cg"
            have e : s.cps.toList.all sgnOk = true := by
              have e1 : s.cps.toList.take s.cps.size = s.cps.toList := by rw [← Array.length_toList, List.take_length]
              rw [e1] at ok
              exact ok
            rw [e] at k
            exact k
    · walk_at "cg"
      have e : labelB s = false := by
        unfold labelB
        rw [decide_eq_false (show ¬ 1 ≤ s.length by omega)]
        simp
      rw [e] at k
      exact k

end
section
variable {P : Program} {w : World} {K : PySem.W.Frag} {mg : Str → Option Value} {base : Heap} {C_Model : Addr}
theorem ok_terms_fit {f : Addr} {fd : FuncData} (F : Fun K "terms_fit" "terms_fit" s_terms_fit f fd) (B : Bi K mg C_Model)  : FnOk P w K mg base CX0 1 f fd ["terms", "many"] (spTmFit K) := by
  have nd := sc_terms_fit.nd
  refine F.ok sc_terms_fit ?len (fun cdv A outer s H vs Q E hr h => ?body)
  case len =>
    rintro vs H Q E ⟨p, m, ts, rfl, _⟩
    rfl
  case body =>
    obtain ⟨p, m, ts, rfl, hI, k⟩ := h
    refine ⟨_, (pss_cons (ps_if (pt_cmpR op_gt (pe_callB (cgLen K) (by rfl) B.n_len PySem.boot_len (pa_cons (pv 0) pa_nil)) pe_int (nomark _))
      (pss_one (ps_ret pe_bl))
      pss_nil)
      (pss_cons (ps_set (i := 2) nd rfl (Or.inl rfl) (pe_un un_neg pe_int))
      (pss_cons (ps_for PassesOwn.never rfl (pi_tup (pv 0)) (pg_tup (n := 2) rfl (pgs_cons (pg_name (i := 3) nd rfl (Or.inl rfl)) (pgs_cons (pg_name (i := 4) nd rfl (Or.inl rfl)) pgs_nil)))
      (pss_cons (ps_if (PW.pt (pw_or (pt_not (pt_chain op_lt op_lt (pv 2) (pv 3) (pv 1))) (pw_or (pt_cmpR op_eq (pv 4) pe_int (nomark _)) (pw_or1 (pt_cmpR op_gt (pe_callB cg_abs (by rfl) B.n_abs (by decide +kernel) (pa_cons (pv 4) pa_nil)) (pe_gc rfl B.c_COEFFICIENT_MOST) (nomark _))))))
      (pss_one (ps_ret pe_bl))
      pss_nil)
      (pss_one (ps_set (i := 2) nd rfl (Or.inl rfl) (pv 3)))))
      (pss_one (ps_ret pe_bl))))), ?_⟩
    try dsimp only [L2.cxOf, L2.Cx.nox, L2.Cx.wish]
    rw [st_terms_fit]
    obtain ⟨xs, s1, i1⟩ := Im.open hI
    have hln := mapLenP i1
    walk_at "cg"
    refine if_S (fun h60 => ?_) (fun h60 => ?_)
    · walk_at "cg"
      exact k false _ ⟨nofun, fun h => by have := h.1; omega⟩ .refl
    · walk_at "cg"
      refine r_forTI [] s1 i1 (fun i σ' H' => ∃ (last : Int) (x4 x5 : Option V), σ' = [some (.ref p), some (.int m), some (.int last), x4, x5] ∧ H = H' ∧ ((ts.take i).map (·.1)).Pairwise (· < ·) ∧
        (∀ z ∈ ts.take i, (0 ≤ z.1 ∧ z.1 < m ∧ z.2 ≠ 0 ∧ -1000000 ≤ z.2 ∧ z.2 ≤ 1000000) ∧ z.1 ≤ last) ∧ -1 ≤ last ∧ (last = -1 ∨ last ∈ (ts.take i).map (·.1)))
        ⟨-1, none, none, rfl, rfl, List.Pairwise.nil, (fun z hz => by cases hz), by decide, .inl rfl⟩ (fun i σ' H' ⟨_, _, _, _, e, _⟩ => e ▸ .refl) ?_ ?_
      · rintro i z x σ' H' hz hx _ ⟨last, x4, x5, rfl, rfl, asc, ok, l0, l1⟩
        obtain ⟨px, rfl, hs⟩ := term_at hx
        have hm := List.mem_of_getElem? hz
        have bad : ∀ (P : Prop), (tmFit m ts → False) → (false = true ↔ tmFit m ts) := fun _ h => ⟨nofun, fun g => (h g).elim⟩
        have ge : tmFit m ts → last < z.1 := fun g => by
          rcases l1 with rfl | l1
          · have := (g.2.2 z hm).1
            omega
          · exact fst_before g hz last l1
        walk_at "cg"
        refine if_S (fun h1 => ?_) (fun h1 => ?_)
        · walk_at "cg"
          refine if_NS (fun h2 => ?_) (fun h2 => ?_)
          · walk_at "cg"
            exact k false _ (bad True fun g => h2 (g.2.2 z hm).2.1) .refl
          · walk_at "cg"
            refine if_S (fun h3 => ?_) (fun h3 => ?_)
            · walk_at "cg"
              exact k false _ (bad True fun g => (g.2.2 z hm).2.2.1 h3) .refl
            · walk_at "cg"
              refine if_S (fun h4 => ?_) (fun h4 => ?_)
              · walk_at "cg"
                exact k false _ (bad True fun g => by have q := (g.2.2 z hm).2.2.2; split at h4 <;> omega) .refl
              · walk_at "cg"
                refine ⟨z.1, _, _, rfl, rfl, ?_, fun y hy => ?_, by omega, .inr ?_⟩
                · rw [map_take_snoc hz, List.pairwise_append]
                  refine ⟨asc, List.pairwise_singleton .., fun a ha b hb => ?_⟩
                  obtain ⟨y, hy, rfl⟩ := List.mem_map.mp ha
                  have q := (ok y hy).2
                  rw [List.mem_singleton] at hb
                  subst hb
                  omega
                · rw [List.take_add_one, hz] at hy
                  rcases List.mem_append.mp hy with hy | hy
                  · have q := ok y hy
                    exact ⟨q.1, by omega⟩
                  · have e : y = z := by simpa using hy
                    subst e
                    refine ⟨⟨by omega, h2, h3, ?_⟩, Int.le_refl _⟩
                    split at h4 <;> omega
                · rw [map_take_snoc hz]
                  simp
        · walk_at "cg"
          exact k false _ (bad True fun g => h1 (ge g)) .refl
      · rintro σ' H' _ ⟨last, x4, x5, rfl, rfl, asc, ok, l0, l1⟩
        rw [List.take_length] at asc ok
        walk_at "cg"
        exact k true _ ⟨fun _ => ⟨by omega, asc, fun z hz => (ok z hz).1⟩, fun _ => rfl⟩ .refl
theorem ok_literal_fits {f : Addr} {fd : FuncData} (F : Fun K "literal_fits" "literal_fits" s_literal_fits f fd) (B : Bi K mg C_Model)  : FnOk P w K mg base CX0 1 f fd ["literal", "many"] (spLitFit K) := by
  have nd := sc_literal_fits.nd
  refine F.ok sc_literal_fits ?len (fun cdv A outer s H vs Q E hr h => ?body)
  case len =>
    rintro vs H Q E ⟨p, m, l, rfl, _⟩
    rfl
  case body =>
    obtain ⟨p, m, l, rfl, hL, k⟩ := h
    refine ⟨_, (pss_cons (ps_asg (pv 0) (pg_tup (n := 3) rfl (pgs_cons (pg_name (i := 2) nd rfl (Or.inl rfl)) (pgs_cons (pg_name (i := 3) nd rfl (Or.inl rfl)) (pgs_cons (pg_name (i := 4) nd rfl (Or.inl rfl)) pgs_nil)))))
      (pss_one (ps_ret (pe_and (pe_chain op_le op_lt pe_int (pv 2) (pv 1)) (pe_and (pe_cmpR (inS K) (pv 3) (pe_tup (pa_cons pe_str (pa_cons pe_str (pa_cons pe_str (pa_cons pe_str pa_nil))))) rfl) (pe_one (pe_chain op_le op_le (pe_un un_neg pe_int) (pv 4) pe_int))))))), ?_⟩
    try dsimp only [L2.cxOf, L2.Cx.nox, L2.Cx.wish]
    rw [st_literal_fits]
    obtain ⟨v, r, a⟩ := l
    dsimp only at hL
    cases r
    all_goals
      walk_at "cg all"
      all_goals exact k _ _ (by simp only [litFit, decide_eq_true_eq, Bool.false_eq_true, false_iff]; omega) (by walk_at "cg kp")
theorem ok_linear_fits {f : Addr} {fd : FuncData} (F : Fun K "linear_fits" "linear_fits" s_linear_fits f fd) (B : Bi K mg C_Model) (D_terms_fit : Is P w K mg base CX0 1 "terms_fit" ["terms", "many"] (spTmFit K)) : FnOk P w K mg base CX0 2 f fd ["terms", "relation", "rhs", "many"] (spLinFit K) := by
  have nd := sc_linear_fits.nd
  refine F.ok sc_linear_fits ?len (fun cdv A outer s H vs Q E hr h => ?body)
  case len =>
    rintro vs H Q E ⟨p, m, n, ts, r, rfl, _⟩
    rfl
  case body =>
    obtain ⟨p, m, n, ts, r, rfl, hI, k⟩ := h
    refine ⟨_, (pss_one (ps_ret (pe_and (pe_is D_terms_fit (hr.mono (by decide)) rfl pass0 (pa_cons (pv 0) (pa_cons (pv 3) pa_nil))) (pe_and (pe_cmpR (inS K) (pv 1) (pe_tup (pa_cons pe_str (pa_cons pe_str (pa_cons pe_str pa_nil)))) rfl) (pe_one (pe_cmpR op_le (pe_callB cg_abs (by rfl) B.n_abs (by decide +kernel) (pa_cons (pv 2) pa_nil)) (pe_gc rfl B.c_SUM_MOST) (nomark _))))))), ?_⟩
    try dsimp only [L2.cxOf, L2.Cx.nox, L2.Cx.wish]
    rw [st_linear_fits]
    walk_at "cg"
    refine ⟨p, m, ts, rfl, hI, fun b H1 hb k1 => ?_⟩
    cases b
    · walk_at "cg"
      exact k false _ ⟨nofun, fun h => hb.mpr h.1⟩ k1
    · have h1 := hb.mp rfl
      cases r
      all_goals
        walk_at "cg all"
        all_goals exact k _ _ (by simp only [linFit, h1, true_and, decide_eq_true_eq, Bool.false_eq_true, false_iff, ne_eq, reduceCtorEq, not_false_eq_true, not_true_eq_false, false_and]; try (split <;> omega)) (by walk_at "cg kp")
theorem ok_distinct_fit {f : Addr} {fd : FuncData} (F : Fun K "distinct_fit" "distinct_fit" s_distinct_fit f fd) (B : Bi K mg C_Model)  : FnOk P w K mg base CX0 1 f fd ["numbers", "least", "most", "many"] (spDistinct K) := by
  have nd := sc_distinct_fit.nd
  refine F.ok sc_distinct_fit ?len (fun cdv A outer s H vs Q E hr h => ?body)
  case len =>
    rintro vs H Q E ⟨p, m, lo, hi, us, rfl, _⟩
    rfl
  case body =>
    obtain ⟨p, m, lo, hi, us, rfl, hS, hh, few, k⟩ := h
    refine ⟨_, (pss_cons (ps_if (PW.pt (pw_or (pt_not (pt_chain op_le op_le (pv 1) (pe_callB (cgLen K) (by rfl) B.n_len PySem.boot_len (pa_cons (pv 0) pa_nil)) (pv 2))) (pw_or1 (pt_cmpR op_ne (pe_callB cg_lenN (by rfl) B.n_len PySem.boot_len (pa_cons (pe_callTy (cg_setTn rfl) (by rfl) B.n_set PyProof.Rows.boot_set (pa_cons (pv 0) pa_nil)) pa_nil)) (pe_callB (cgLen K) (by rfl) B.n_len PySem.boot_len (pa_cons (pv 0) pa_nil)) (nomark _)))))
      (pss_one (ps_ret pe_bl))
      pss_nil)
      (pss_one (ps_ret (pe_callB (cr_all rfl) (by rfl) B.n_all (by decide +kernel) (pa_cons (by exact pe_lc (own := [("v", 4)]) (g := (gName 4)) (tt := tYes) rfl nd (pi_tup (pv 0)) (blkOk_by (N := ["numbers", "least", "most", "many", "v"]) (sc := defScope s_distinct_fit) (by decide +kernel)) (fun _ _ _ _ _ => (pg_name (i := 4) nd rfl (Or.inl rfl))) (fun _ _ _ _ _ => pts_nil) (fun _ _ _ _ _ => (pe_chain op_le op_lt pe_int (pv 4) (pv 3)))) pa_nil))))), ?_⟩
    try dsimp only [L2.cxOf, L2.Cx.nox, L2.Cx.wish]
    rw [st_distinct_fit]
    have hln : ((us.map V.int).length : Int) = us.length := by rw [List.length_map]
    walk_at "cg"
    rw [hln]
    refine if_S (fun h1 => ?_) (fun h1 => ?_)
    · walk_at "cg"
      refine if_NS (fun h2 => ?_) (fun h2 => ?_)
      · walk_at "cg"
        exact k false _ ⟨nofun, fun h => absurd h.1.2 h2⟩ .refl
      · walk_at "cg"
        refine r_setTn hS few fun S H2 hS2 eS k2 => ?_
        walk_at "cg"
        refine r_lenN eS ?_
        walk_at "cg"
        rw [hln]
        refine if_S (fun h3 => ?_) (fun h3 => ?_)
        · walk_at "cg"
          exact k false _ ⟨nofun, fun h => absurd (by rw [dd_len.mpr h.2.1]) h3⟩ (by walk_at "cg kp")
        · have h3' := Classical.not_not.mp h3
          have nd : us.Nodup := dd_len.mp (by omega)
          walk_at "cg"
          refine lcT_b (xs := us.map V.int) (as := us) (d := PyData.int) (by walk_at "cg h") (imInts us) (fun v => decide (0 ≤ v) && decide (v < m)) (by omega) (fun i v x H' R R' hv k2 hx q => ?_) (fun D H' hD eD k2 => ?_)
          · obtain rfl := hx.flat (y := .int v) rfl
            walk_at "cg"
            refine if_S (fun h4 => ?_) (fun h4 => ?_)
            · walk_at "cg"
              have q2 := q _ .refl
              rw [decide_eq_true h4, Bool.true_and] at q2
              exact q2
            · walk_at "cg"
              have q2 := q _ .refl
              rw [decide_eq_false h4, Bool.false_and] at q2
              exact q2
          · walk_at "cg"
            refine r_all eD ?_
            refine k _ _ ?_ (by walk_at "cg kp")
            rw [all_iff (P := fun v => 0 ≤ v ∧ v < m) fun a _ => by simp]
            exact ⟨fun h => ⟨⟨h1, h2⟩, nd, h⟩, fun h => h.2.2⟩
    · walk_at "cg"
      exact k false _ ⟨nofun, fun h => absurd h.1.1 h1⟩ .refl
theorem ok_entries_fit {f : Addr} {fd : FuncData} (F : Fun K "entries_fit" "entries_fit" s_entries_fit f fd) (B : Bi K mg C_Model)  : FnOk P w K mg base CX0 1 f fd ["entries"] (spEntries K) := by
  have nd := sc_entries_fit.nd
  refine F.ok sc_entries_fit ?len (fun cdv A outer s H vs Q E hr h => ?body)
  case len =>
    rintro vs H Q E ⟨p, es, rfl, _⟩
    rfl
  case body =>
    obtain ⟨p, es, rfl, hS, few, k⟩ := h
    refine ⟨_, (pss_one (ps_ret (pe_callB (cr_all rfl) (by rfl) B.n_all (by decide +kernel) (pa_cons (by exact pe_lc (own := [("entry", 1)]) (g := (gName 1)) (tt := tYes) rfl nd (pi_tup (pv 0)) (blkOk_by (N := ["entries", "entry"]) (sc := defScope s_entries_fit) (by decide +kernel)) (fun _ _ _ _ _ => (pg_name (i := 1) nd rfl (Or.inl rfl))) (fun _ _ _ _ _ => pts_nil) (fun _ _ _ _ _ => (pe_chain op_le op_le (pe_un un_neg (pe_gc rfl B.c_ENTRY_MOST)) (pv 1) (pe_gc rfl B.c_ENTRY_MOST)))) pa_nil)))), ?_⟩
    try dsimp only [L2.cxOf, L2.Cx.nox, L2.Cx.wish]
    rw [st_entries_fit]
    walk_at "cg"
    refine lcT_b (xs := es.map V.int) (as := es) (d := PyData.int) (by walk_at "cg h") (imInts es) (fun v => decide (-1000 ≤ v) && decide (v ≤ 1000)) (by omega) (fun i v x H' R R' hv k2 hx q => ?_) (fun D H' hD eD k2 => ?_)
    · obtain rfl := hx.flat (y := .int v) rfl
      walk_at "cg"
      refine if_S (fun h4 => ?_) (fun h4 => ?_)
      · walk_at "cg"
        have q2 := q _ .refl
        rw [decide_eq_true h4, Bool.true_and] at q2
        exact q2
      · walk_at "cg"
        have q2 := q _ .refl
        rw [decide_eq_false h4, Bool.false_and] at q2
        exact q2
    · walk_at "cg"
      refine r_all eD ?_
      refine k _ _ ?_ (by walk_at "cg kp")
      rw [all_iff (P := fun v => -1000 ≤ v ∧ v ≤ 1000) fun a _ => by simp]
      exact Iff.rfl
theorem ok_any_fits {f : Addr} {fd : FuncData} (F : Fun K "any_fits" "any_fits" s_any_fits f fd) (B : Bi K mg C_Model) (D_literal_fits : Is P w K mg base CX0 1 "literal_fits" ["literal", "many"] (spLitFit K)) : FnOk P w K mg base CX0 2 f fd ["literals", "many"] (spAnyFits K) := by
  have nd := sc_any_fits.nd
  refine F.ok sc_any_fits ?len (fun cdv A outer s H vs Q E hr h => ?body)
  case len =>
    rintro vs H Q E ⟨p, m, ls, rfl, _⟩
    rfl
  case body =>
    obtain ⟨p, m, ls, rfl, hI, k⟩ := h
    refine ⟨_, (pss_cons (ps_if (PW.pt (pw_or (pt_not (pt_chain op_le op_le pe_int (pe_callB (cgLen K) (by rfl) B.n_len PySem.boot_len (pa_cons (pv 0) pa_nil)) pe_int)) (pw_or1 (pt_cmpR op_ne (pe_callB cg_lenN (by rfl) B.n_len PySem.boot_len (pa_cons (pe_callTy (cg_setTT hr rfl) (by rfl) B.n_set PyProof.Rows.boot_set (pa_cons (pv 0) pa_nil)) pa_nil)) (pe_callB (cgLen K) (by rfl) B.n_len PySem.boot_len (pa_cons (pv 0) pa_nil)) (nomark _)))))
      (pss_one (ps_ret pe_bl))
      pss_nil)
      (pss_one (ps_ret (pe_callB (cr_all rfl) (by rfl) B.n_all (by decide +kernel) (pa_cons (by exact pe_lc (own := [("literal", 2)]) (g := (gName 2)) (tt := tYes) rfl nd (pi_tup (pv 0)) (blkOk_by (N := ["literals", "many", "literal"]) (sc := defScope s_any_fits) (by decide +kernel)) (fun _ _ _ _ _ => (pg_name (i := 2) nd rfl (Or.inl rfl))) (fun _ _ _ _ _ => pts_nil) (fun _ _ _ _ _ => (pe_is D_literal_fits (hr.mono (by decide)) rfl pass0 (pa_cons (pv 2) (pa_cons (pv 1) pa_nil))))) pa_nil))))), ?_⟩
    try dsimp only [L2.cxOf, L2.Cx.nox, L2.Cx.wish]
    rw [st_any_fits]
    obtain ⟨xs, s1, i1⟩ := Im.open hI
    have hln := mapLenP i1
    walk_at "cg"
    rw [hln]
    refine if_S (fun h1 => ?_) (fun h1 => ?_)
    · walk_at "cg"
      refine if_NS (fun h2 => ?_) (fun h2 => ?_)
      · walk_at "cg"
        exact k false _ ⟨nofun, fun h => absurd h.1.2 (by omega)⟩ .refl
      · obtain ⟨ks, rfl, hk, ek⟩ := lits_at i1
        rw [List.length_map] at hln
        walk_at "cg"
        refine r_setTT s1 hk (by omega) fun S H2 hS2 eS k2 => ?_
        rw [ek] at eS
        walk_at "cg"
        refine r_lenN eS ?_
        walk_at "cg"
        rw [List.length_map, hln]
        refine if_S (fun h3 => ?_) (fun h3 => ?_)
        · walk_at "cg"
          exact k false _ ⟨nofun, fun h => absurd (by rw [dd_len.mpr ((nodup_inj litK_inj).mpr h.2.1), List.length_map]) h3⟩ (by walk_at "cg kp")
        · have h3' := Classical.not_not.mp h3
          have e9 : (ls.map litK).length = ls.length := List.length_map ..
          have nd : ls.Nodup := (nodup_inj (f := litK) litK_inj).mp (dd_len.mp (by omega))
          walk_at "cg"
          refine lcT_b (as := ls) (d := Lit.d) (by walk_at "cg h") (by walk_at "cg h") (fun l => decide (litFit m l)) (by omega) (fun i l x H' R R' hv k2 hx q => ?_) (fun D H' hD eD k2 => ?_)
          · obtain ⟨px, rfl, L⟩ := lit_at hx
            walk_at "cg"
            refine ⟨px, m, l, rfl, L, fun b H3 hb k3 => ?_⟩
            walk_at "cg"
            have e : decide (litFit m l) = b := by
              rw [Bool.eq_iff_iff, decide_eq_true_eq]
              exact hb.symm
            rw [← e]
            exact q _ k3
          · walk_at "cg"
            refine r_all eD ?_
            refine k _ _ ?_ (by walk_at "cg kp")
            rw [all_iff (P := litFit m) fun a _ => by simp]
            exact ⟨fun h => ⟨⟨by omega, by omega⟩, nd, h⟩, fun h => h.2.2⟩
    · walk_at "cg"
      exact k false _ ⟨nofun, fun h => absurd h.1.1 (by omega)⟩ .refl
theorem ok_table_fits {f : Addr} {fd : FuncData} (F : Fun K "table_fits" "table_fits" s_table_fits f fd) (B : Bi K mg C_Model) (D_distinct_fit : Is P w K mg base CX0 1 "distinct_fit" ["numbers", "least", "most", "many"] (spDistinct K)) (D_entries_fit : Is P w K mg base CX0 1 "entries_fit" ["entries"] (spEntries K)) : FnOk P w K mg base CX0 2 f fd ["numbers", "rows", "many"] (spTableFits K) := by
  have nd := sc_table_fits.nd
  refine F.ok sc_table_fits ?len (fun cdv A outer s H vs Q E hr h => ?body)
  case len =>
    rintro vs H Q E ⟨p, q, m, us, rows, rfl, _⟩
    rfl
  case body =>
    obtain ⟨p, q, m, us, rows, rfl, hS, hI, few, few2, k⟩ := h
    refine ⟨_, (pss_cons (ps_if (PW.pt (pw_or (pt_not (pt_val (pe_is D_distinct_fit (hr.mono (by decide)) rfl pass0 (pa_cons (pv 0) (pa_cons pe_int (pa_cons pe_int (pa_cons (pv 2) pa_nil))))))) (pw_or1 (pt_not (pt_chain op_le op_le pe_int (pe_callB (cgLen K) (by rfl) B.n_len PySem.boot_len (pa_cons (pv 1) pa_nil)) pe_int)))))
      (pss_one (ps_ret pe_bl))
      pss_nil)
      (pss_one (ps_ret (pe_callB (cr_all rfl) (by rfl) B.n_all (by decide +kernel) (pa_cons (by exact pe_lc (own := [("row", 3)]) (g := (gName 3)) (tt := tYes) rfl nd (pi_tup (pv 1)) (blkOk_by (N := ["numbers", "rows", "many", "row"]) (sc := defScope s_table_fits) (by decide +kernel)) (fun _ _ _ _ _ => (pg_name (i := 3) nd rfl (Or.inl rfl))) (fun _ _ _ _ _ => pts_nil) (fun _ _ _ _ _ => (pe_and (pe_cmpR op_eq (pe_callB (cgLen K) (by rfl) B.n_len PySem.boot_len (pa_cons (pv 3) pa_nil)) (pe_callB (cgLen K) (by rfl) B.n_len PySem.boot_len (pa_cons (pv 0) pa_nil)) (nomark _)) (pe_one (pe_is D_entries_fit (hr.mono (by decide)) rfl pass0 (pa_cons (pv 3) pa_nil)))))) pa_nil))))), ?_⟩
    try dsimp only [L2.cxOf, L2.Cx.nox, L2.Cx.wish]
    rw [st_table_fits]
    obtain ⟨xs, s1, i1⟩ := Im.open hI
    have hln := mapLenP i1
    walk_at "cg"
    refine ⟨p, m, 1, 6, us, rfl, hS, by decide, few, fun b H1 hb k1 => ?_⟩
    cases b
    · walk_at "cg"
      exact k false _ ⟨nofun, fun h => hb.mpr ⟨⟨by have := h.1.1.1; omega, by have := h.1.1.2; omega⟩, h.1.2⟩⟩ k1
    · have h0 := hb.mp rfl
      walk_at "cg"
      rw [hln]
      refine if_S (fun h1 => ?_) (fun h1 => ?_)
      · walk_at "cg"
        refine if_NS (fun h2 => ?_) (fun h2 => ?_)
        · walk_at "cg"
          exact k false _ ⟨nofun, fun h => absurd h.2.1.2 (by omega)⟩ k1
        · walk_at "cg"
          refine lcT_b (xs := xs) (as := rows) (d := intsD) (by walk_at "cg h") (by walk_at "cg h") (fun r => decide (r.length = us.length ∧ entFit r)) (by omega) (fun i r x H' R R' hv k2 hx q2 => ?_) (fun D H' hD eD k2 => ?_)
          · obtain ⟨px, rfl⟩ := hx.isRef
            have sr := hx.intsT
            have kk : Kp [] H H' := Kp.tr0 k2 k1
            have hln2 : ((r.map V.int).length : Int) = r.length := by rw [List.length_map]
            have hln3 : ((us.map V.int).length : Int) = us.length := by rw [List.length_map]
            walk_at "cg"
            rw [hln2, hln3]
            refine if_S (fun h4 => ?_) (fun h4 => ?_)
            · walk_at "cg"
              refine ⟨px, r, rfl, sr, few2 r (List.mem_of_getElem? hv), fun b H3 hb2 k3 => ?_⟩
              have e : decide (r.length = us.length ∧ entFit r) = b := by
                rw [Bool.eq_iff_iff, decide_eq_true_eq, hb2]
                exact ⟨fun h => h.2, fun h => ⟨by omega, h⟩⟩
              have q3 := q2 _ k3
              rw [e] at q3
              exact q3
            · walk_at "cg"
              have q3 := q2 _ .refl
              rw [decide_eq_false (fun h => h4 (by omega))] at q3
              exact q3
          · walk_at "cg"
            refine r_all eD ?_
            refine k _ _ ?_ (by walk_at "cg kp")
            rw [all_iff (P := fun r => r.length = us.length ∧ entFit r) fun a _ => by simp]
            exact ⟨fun h => ⟨⟨⟨by omega, by omega⟩, h0.2⟩, ⟨by omega, by omega⟩, h⟩, fun h => h.2.2⟩
      · walk_at "cg"
        exact k false _ ⟨nofun, fun h => absurd h.2.1.1 (by omega)⟩ k1
theorem ok_body_fits {f : Addr} {fd : FuncData} (F : Fun K "body_fits" "body_fits" s_body_fits f fd) (B : Bi K mg C_Model) (D_linear_fits : Is P w K mg base CX0 2 "linear_fits" ["terms", "relation", "rhs", "many"] (spLinFit K)) (D_any_fits : Is P w K mg base CX0 2 "any_fits" ["literals", "many"] (spAnyFits K)) (D_distinct_fit : Is P w K mg base CX0 1 "distinct_fit" ["numbers", "least", "most", "many"] (spDistinct K)) (D_table_fits : Is P w K mg base CX0 2 "table_fits" ["numbers", "rows", "many"] (spTableFits K)) (D_literal_fits : Is P w K mg base CX0 1 "literal_fits" ["literal", "many"] (spLitFit K)) (D_entries_fit : Is P w K mg base CX0 1 "entries_fit" ["entries"] (spEntries K)) : FnOk P w K mg base CX0 3 f fd ["body", "many"] (spBodyFits K) := by
  have nd := sc_body_fits.nd
  refine F.ok sc_body_fits ?len (fun cdv A outer s H vs Q E hr h => ?body)
  case len =>
    rintro vs H Q E ⟨p, m, b, rfl, _⟩
    rfl
  case body =>
    obtain ⟨p, m, b, rfl, hb, hw, k⟩ := h
    refine ⟨_, (pss_cons (ps_set (i := 2) nd rfl (Or.inl rfl) (pe_ix (ixT K) (pv 0) pe_int (fun _ _ => rfl)))
      (pss_cons (ps_if (pt_cmpR op_eq (pv 2) pe_str (nomark _))
      (pss_one (ps_ret (pe_is D_linear_fits (hr.mono (by decide)) rfl pass0 (pa_cons (pe_ix (ixT K) (pv 0) pe_int (fun _ _ => rfl)) (pa_cons (pe_ix (ixT K) (pv 0) pe_int (fun _ _ => rfl)) (pa_cons (pe_ix (ixT K) (pv 0) pe_int (fun _ _ => rfl)) (pa_cons (pv 1) pa_nil)))))))
      pss_nil)
      (pss_cons (ps_if (pt_cmpR op_eq (pv 2) pe_str (nomark _))
      (pss_one (ps_ret (pe_is D_any_fits (hr.mono (by decide)) rfl pass0 (pa_cons (pe_ix (ixT K) (pv 0) pe_int (fun _ _ => rfl)) (pa_cons (pv 1) pa_nil)))))
      pss_nil)
      (pss_cons (ps_if (pt_cmpR op_eq (pv 2) pe_str (nomark _))
      (pss_one (ps_ret (pe_and (pe_is D_literal_fits (hr.mono (by decide)) rfl pass0 (pa_cons (pe_ix (ixT K) (pv 0) pe_int (fun _ _ => rfl)) (pa_cons (pv 1) pa_nil))) (pe_one (pe_is D_linear_fits (hr.mono (by decide)) rfl pass0 (pa_cons (pe_ix (ixT K) (pv 0) pe_int (fun _ _ => rfl)) (pa_cons (pe_ix (ixT K) (pv 0) pe_int (fun _ _ => rfl)) (pa_cons (pe_ix (ixT K) (pv 0) pe_int (fun _ _ => rfl)) (pa_cons (pv 1) pa_nil)))))))))
      pss_nil)
      (pss_cons (ps_if (pt_cmpR op_eq (pv 2) pe_str (nomark _))
      (pss_one (ps_ret (pe_is D_distinct_fit (hr.mono (by decide)) rfl pass0 (pa_cons (pe_ix (ixT K) (pv 0) pe_int (fun _ _ => rfl)) (pa_cons pe_int (pa_cons pe_int (pa_cons (pv 1) pa_nil)))))))
      pss_nil)
      (pss_cons (ps_if (pt_cmpR op_eq (pv 2) pe_str (nomark _))
      (pss_one (ps_ret (pe_is D_table_fits (hr.mono (by decide)) rfl pass0 (pa_cons (pe_ix (ixT K) (pv 0) pe_int (fun _ _ => rfl)) (pa_cons (pe_ix (ixT K) (pv 0) pe_int (fun _ _ => rfl)) (pa_cons (pv 1) pa_nil))))))
      pss_nil)
      (pss_cons (ps_if (pt_cmpR op_eq (pv 2) pe_str (nomark _))
      (pss_cons (ps_set (i := 3) nd rfl (Or.inl rfl) (pe_and (pe_chain op_le op_lt pe_int (pe_ix (ixT K) (pv 0) pe_int (fun _ _ => rfl)) (pv 1)) (pe_one (pe_chain op_le op_lt pe_int (pe_ix (ixT K) (pv 0) pe_int (fun _ _ => rfl)) (pv 1)))))
      (pss_one (ps_ret (pe_and (pv 3) (pe_and (pe_chain op_le op_le pe_int (pe_callB (cgLen K) (by rfl) B.n_len PySem.boot_len (pa_cons (pe_ix (ixT K) (pv 0) pe_int (fun _ _ => rfl)) pa_nil)) pe_int) (pe_one (pe_is D_entries_fit (hr.mono (by decide)) rfl pass0 (pa_cons (pe_ix (ixT K) (pv 0) pe_int (fun _ _ => rfl)) pa_nil))))))))
      pss_nil)
      (pss_one (ps_ret (pe_callB (cr_all rfl) (by rfl) B.n_all (by decide +kernel) (pa_cons (by exact pe_lc (own := [("v", 4)]) (g := (gName 4)) (tt := tYes) rfl nd (pi_tup (pe_slice (slT K) (pv 0) (po_some pe_int) po_none)) (blkOk_by (N := ["body", "many", "kind", "inside", "v"]) (sc := defScope s_body_fits) (by decide +kernel)) (fun _ _ _ _ _ => (pg_name (i := 4) nd rfl (Or.inl rfl))) (fun _ _ _ _ _ => pts_nil) (fun _ _ _ _ _ => (pe_chain op_le op_lt pe_int (pv 4) (pv 1)))) pa_nil))))))))))), ?_⟩
    try dsimp only [L2.cxOf, L2.Cx.nox, L2.Cx.wish]
    rw [st_body_fits]
    cases b with
    | row ts r n =>
      obtain ⟨q1, s1, i1⟩ := b_row hb
      walk_at "cg"
      exact ⟨q1, m, n, ts, r, rfl, i1, k⟩
    | any ls =>
      obtain ⟨q1, s1, i1⟩ := b_any hb
      walk_at "cg"
      exact ⟨q1, m, ls, rfl, i1, k⟩
    | when l ts r n =>
      obtain ⟨q1, q2, s1, L, i1⟩ := b_when hb
      walk_at "cg"
      refine ⟨q1, m, l, rfl, L, fun b H1 hb k1 => ?_⟩
      cases b
      · walk_at "cg"
        exact k false _ ⟨nofun, fun h => hb.mpr h.1⟩ k1
      · walk_at "cg"
        refine ⟨q2, m, n, ts, r, rfl, k1.im i1, fun b H2 hb2 k2 => ?_⟩
        exact k b _ ⟨fun h => ⟨hb.mp rfl, hb2.mp h⟩, fun h => hb2.mpr h.2⟩ (by walk_at "cg kp")
    | diff us =>
      obtain ⟨q1, s1, s2⟩ := b_diff hb
      walk_at "cg"
      refine ⟨q1, m, 2, 20, us, rfl, s2, by decide, hw, fun b H1 hb k1 => ?_⟩
      exact k b _ ⟨fun h => ⟨⟨by have := (hb.mp h).1.1; omega, by have := (hb.mp h).1.2; omega⟩, (hb.mp h).2⟩, fun h => hb.mpr ⟨⟨by have := h.1.1; omega, by have := h.1.2; omega⟩, h.2⟩⟩ k1
    | table us rows =>
      obtain ⟨q1, q2, s1, s2, i2⟩ := b_table hb
      walk_at "cg"
      exact ⟨q1, q2, m, us, rows, rfl, s2, i2, hw.1, hw.2, k⟩
    | elem x es y =>
      obtain ⟨q1, s1, s2⟩ := b_elem hb
      have hln : ((es.map V.int).length : Int) = es.length := by rw [List.length_map]
      have bad : (¬ (0 ≤ x ∧ x < m) ∨ ¬ (0 ≤ y ∧ y < m) ∨ ¬ (1 ≤ es.length ∧ es.length ≤ 60)) → (false = true ↔ (Body.elem x es y).fit m) := fun h => ⟨nofun, fun g => by
        rcases h with h | h | h
        · exact absurd g.1.1 h
        · exact absurd g.1.2 h
        · exact absurd g.2.1 h⟩
      have go : ∀ (H1 : Hp), Kp [] H H1 → 0 ≤ x → x < m → 0 ≤ y → y < m → 1 ≤ es.length → es.length ≤ 60 → spEntries K [.ref q1] H1 Q E0 := fun H1 k1 a1 a2 a3 a4 a5 a6 =>
        ⟨q1, es, rfl, k1.tup s2, hw, fun b H2 hb k2 => k b _ (by rw [hb]; exact ⟨fun h => ⟨⟨⟨a1, a2⟩, a3, a4⟩, ⟨a5, a6⟩, h⟩, fun h => h.2.2⟩) (Kp.tr0 k2 k1)⟩
      walk_at "cg"
      by_cases h1 : 0 ≤ x ∧ x < m
      · by_cases h2 : 0 ≤ y ∧ y < m
        · obtain ⟨h1, h1'⟩ := h1
          obtain ⟨h2, h2'⟩ := h2
          walk_at "cg"
          by_cases h3 : 1 ≤ es.length ∧ es.length ≤ 60
          · obtain ⟨h3, h3'⟩ := h3
            have h3a : (1 : Int) ≤ (es.map V.int).length := by omega
            have h3b : ((es.map V.int).length : Int) ≤ 60 := by omega
            walk_at "cg"
            exact go _ .refl h1 h1' h2 h2' h3 h3'
          · walk_at "cg all"
            all_goals first | (exfalso; omega) | exact k false _ (bad (.inr (.inr h3))) .refl
        · obtain ⟨h1, h1'⟩ := h1
          walk_at "cg all"
          all_goals first | (exfalso; omega) | exact k false _ (bad (.inr (.inl h2))) .refl
      · walk_at "cg all"
        all_goals first | (exfalso; omega) | exact k false _ (bad (.inl h1)) .refl
    | times x y z =>
      have s1 := b_times hb
      walk_at "cg"
      refine r_slT1 s1 fun l H2 hl s2 k2 => ?_
      walk_at "cg"
      refine lcT_b (xs := [x, y, z].map V.int) (as := [x, y, z]) (d := PyData.int) (by walk_at "cg h") (imInts _) (fun v => decide (0 ≤ v) && decide (v < m)) (by simp) (fun i v x' H' R R' hv k2 hx q => ?_) (fun D H' hD eD k2 => ?_)
      · obtain rfl := hx.flat (y := .int v) rfl
        walk_at "cg"
        refine if_S (fun h4 => ?_) (fun h4 => ?_)
        · walk_at "cg"
          have q2 := q _ .refl
          rw [decide_eq_true h4, Bool.true_and] at q2
          exact q2
        · walk_at "cg"
          have q2 := q _ .refl
          rw [decide_eq_false h4, Bool.false_and] at q2
          exact q2
      · walk_at "cg"
        refine r_all eD ?_
        refine k _ _ ?_ (by walk_at "cg kp")
        rw [all_iff (P := fun v => 0 ≤ v ∧ v < m) fun a _ => by simp]
        simp [Body.fit]

end
section
variable {P : Program} {w : World} {K : PySem.W.Frag} {mg : Str → Option Value} {base : Heap} {C_Model : Addr}
theorem ok_bounds_fit {f : Addr} {fd : FuncData} (F : Fun K "bounds_fit" "bounds_fit" s_bounds_fit f fd) (B : Bi K mg C_Model)  : FnOk P w K mg base CX0 1 f fd ["low", "high"] spBounds := by
  have nd := sc_bounds_fit.nd
  refine F.ok sc_bounds_fit ?len (fun cdv A outer s H vs Q E hr h => ?body)
  case len =>
    rintro vs H Q E ⟨lo, hi, rfl, _⟩
    rfl
  case body =>
    obtain ⟨lo, hi, rfl, k⟩ := h
    refine ⟨_, (pss_one (ps_ret (pe_chain3 op_le op_le op_le (pe_un un_neg (pe_gc rfl B.c_BOUND_MOST)) (pv 0) (pv 1) (pe_gc rfl B.c_BOUND_MOST)))), ?_⟩
    try dsimp only [L2.cxOf, L2.Cx.nox, L2.Cx.wish]
    rw [st_bounds_fit]
    walk_at "cg"
    refine if_S (fun h1 => ?_) (fun h1 => ?_)
    · rw [decide_eq_true h1, Bool.true_and] at k
      walk_at "cg"
      refine if_S (fun h2 => ?_) (fun h2 => ?_)
      · rw [decide_eq_true h2, Bool.true_and] at k
        walk_at "cg"
        exact k
      · rw [decide_eq_false h2, Bool.false_and] at k
        walk_at "cg"
        exact k
    · rw [decide_eq_false h1, Bool.false_and] at k
      walk_at "cg"
      exact k
theorem ok_Model___init__ {f : Addr} {fd : FuncData} (F : Fun K "__init__" "Model.__init__" s_Model___init__ f fd) (B : Bi K mg C_Model) (D_is_label : Is P w K mg base CX0 1 "is_label" ["text"] spLabel) (D_bounds_fit : Is P w K mg base CX0 1 "bounds_fit" ["low", "high"] spBounds) : FnOk P w K mg base CX0 2 f fd ["self", "unknowns"] (spInit K C_Model) := by
  have nd := sc_Model___init__.nd
  refine F.ok sc_Model___init__ ?len (fun cdv A outer s H vs Q E hr h => ?body)
  case len =>
    rintro vs H Q E ⟨p, l, dx, refs, us, rfl, _⟩
    rfl
  case body =>
    obtain ⟨p, l, dx, refs, us, rfl, hp, hl, hI, n0, n1, ok, hnd, k⟩ := h
    refine ⟨_, (pss_cons (ps_if (pt_not (pt_chain op_le op_le pe_int (pe_callB (cgLen K) (by rfl) B.n_len PySem.boot_len (pa_cons (pv 1) pa_nil)) (pe_gc rfl B.c_UNKNOWNS_MOST)))
      (pss_one ps_never)
      pss_nil)
      (pss_cons (ps_fld (pv 0) (pe_lst pa_nil) rfl)
      (pss_cons (ps_fld (pv 0) (pe_lst pa_nil) rfl)
      (pss_cons (ps_fld (pv 0) (pe_lst pa_nil) rfl)
      (pss_cons (ps_for PassesOwn.never rfl ((piLst K) (pv 1)) (pg_tup (n := 3) rfl (pgs_cons (pg_name (i := 2) nd rfl (Or.inl rfl)) (pgs_cons (pg_name (i := 3) nd rfl (Or.inl rfl)) (pgs_cons (pg_name (i := 4) nd rfl (Or.inl rfl)) pgs_nil))))
      (pss_cons (ps_if (PW.pt (pw_or (pt_not (pt_val (pe_is D_is_label (hr.mono (by decide)) rfl pass0 (pa_cons (pv 2) pa_nil)))) (pw_or1 (pt_not (pt_val (pe_is D_bounds_fit (hr.mono (by decide)) rfl pass0 (pa_cons (pv 3) (pa_cons (pv 4) pa_nil))))))))
      (pss_one ps_never)
      pss_nil)
      (pss_cons (ps_if (pt_cmpR (inS K) (pv 2) (pe_fld (pv 0) rfl) rfl)
      (pss_one ps_never)
      pss_nil)
      (pss_cons (ps_expr (pe_bm PySem.F.plainAttrs_list PySem.F.slot_list_append PySem.F.type_list_append mt_append (pe_fld (pv 0) rfl) (pa_cons (pv 2) pa_nil)))
      (pss_cons (ps_expr (pe_bm PySem.F.plainAttrs_list PySem.F.slot_list_append PySem.F.type_list_append mt_append (pe_fld (pv 0) rfl) (pa_cons (pv 3) pa_nil)))
      (pss_one (ps_expr (pe_bm PySem.F.plainAttrs_list PySem.F.slot_list_append PySem.F.type_list_append mt_append (pe_fld (pv 0) rfl) (pa_cons (pv 4) pa_nil)))))))))
      (pss_cons (ps_fld (pv 0) pe_dnewK rfl)
      (pss_one (ps_fld (pv 0) (pe_tup (pa_cons pe_str (pa_cons (pe_tup pa_nil) (pa_cons pe_int pa_nil)))) rfl)))))))), ?_⟩
    try dsimp only [L2.cxOf, L2.Cx.nox, L2.Cx.wish]
    rw [st_Model___init__]
    have c := B.cl_Model
    have a1 := B.at_Model__names
    have a2 := B.at_Model__lows
    have a3 := B.at_Model__highs
    have a4 := B.at_Model__bodies
    have a5 := B.at_Model__goal
    have hrl := mapLenP hI
    have npl : p ≠ l := ne_of hp hl (fun e => by cases e)
    walk_at "cg"
    rename_i n H1 hn en kn H2 p2 k2 lo H3 hlo elo k3
    refine r_setF (by walk_at "cg h") c a2 (Nat.lt_of_le_of_lt (putF_le _ _ _) (by decide)) fun H4 p4 k4 => ?_
    walk_at "cg"
    rename_i hi H5 hhi ehi k5
    refine r_setF (by walk_at "cg h") c a3 (Nat.lt_of_le_of_lt (Nat.le_trans (putF_le _ _ _) (Nat.succ_le_succ (putF_le _ _ _))) (by decide)) fun H6 p6 k6 => ?_
    have fn : H n = none := hn
    have npn : n ≠ p := ne_newR hn hp
    have flo : H lo = none := by
      cases q : H lo with
      | none => rfl
      | some o =>
        have e1 : lo ≠ p := fun e => by rw [e, p2] at hlo; cases hlo
        rw [Kp.get1 k2 e1 (kn.get0 q)] at hlo
        cases hlo
    have nplo : lo ≠ p := ne_newR hlo p2
    have fhi : H hi = none := by
      cases q : H hi with
      | none => rfl
      | some o =>
        have e1 : hi ≠ p := fun e => by rw [e, p4] at hhi; cases hhi
        rw [Kp.get1 k4 e1 (k3.get0 (Kp.get1 k2 e1 (kn.get0 q)))] at hhi
        cases hhi
    have nphi : hi ≠ p := ne_newR hhi p4
    have en2 : H2 n = some (.lst []) := Kp.get1 k2 npn en
    have nlon : lo ≠ n := ne_newR hlo en2
    have en4 : H4 n = some (.lst []) := Kp.get1 k4 npn (k3.get0 en2)
    have nhin : hi ≠ n := ne_newR hhi en4
    have elo4 : H4 lo = some (.lst []) := Kp.get1 k4 nplo elo
    have nhil : hi ≠ lo := ne_newR hhi elo4
    have e6n : H6 n = some (.lst []) := Kp.get1 k6 npn (k5.get0 en4)
    have e6l : H6 lo = some (.lst []) := Kp.get1 k6 nplo (k5.get0 elo4)
    have e6h : H6 hi = some (.lst []) := Kp.get1 k6 nphi ehi
    have K6 : Kp [p] H H6 := Kp.tr1 k6 (Kp.tr0 k5 (Kp.tr1 k4 (Kp.tr0 k3 (Kp.tr1 k2 (Kp.tr0 kn (.base fun b hb => by rw [List.mem_singleton] at hb; subst hb; rw [hp]; trivial))))))
    have p6' : H6 p = some (.ins C_Model dx (fs3 n lo hi)) := p6
    clear k2 k3 k4 k5 k6 kn p2 p4 p6 en en2 en4 elo elo4 ehi hlo hhi hn
    have f1 := fs3_nm n lo hi
    have f2 := fs3_lo n lo hi
    have f3 := fs3_hi n lo hi
    have f4 := fs3_len n lo hi
    generalize hfs : fs3 n lo hi = fs at p6' f1 f2 f3 f4
    walk_at "cg"
    refine r_forL refs (fun i σ' H' => ∃ x2 x3 x4 : Option V, σ' = [some (.ref p), some (.ref l), x2, x3, x4] ∧ Kp [p] H H' ∧ H' p = some (.ins C_Model dx fs) ∧ H' n = some (.lst (((us.take i).map (·.1)).map V.str)) ∧
      H' lo = some (.lst (((us.take i).map (·.2.1)).map V.int)) ∧ H' hi = some (.lst (((us.take i).map (·.2.2)).map V.int))) ⟨none, none, none, rfl, K6, p6', e6n, e6l, e6h⟩ (fun i σ' H' ⟨_, _, _, _, kk, _⟩ => kk.get1 npl.symm hl) ?_ ?_
    · clear K6 p6' e6n e6l e6h
      rintro i x σ' H' hx ⟨x2, x3, x4, rfl, kk, e1, e2, e3, e4⟩
      obtain ⟨u, hu, hux⟩ := mapGetP (kk.imAll hI) hx
      obtain ⟨q, rfl, sq⟩ := un_at hux
      have hum := List.mem_of_getElem? hu
      have hi60 : i < us.length := (List.getElem?_eq_some_iff.mp hu).1
      have ou := ok u hum
      have z1 : (((us.take i).map (·.1)).map V.str).length ≤ 60 := by simp; omega
      have z2 : (((us.take i).map (·.2.1)).map V.int).length ≤ 60 := by simp; omega
      have z3 : (((us.take i).map (·.2.2)).map V.int).length ≤ 60 := by simp; omega
      have nin : decide (u.1 ∈ (us.take i).map (·.1)) = false := by
        refine decide_eq_false fun hm => ?_
        have e9 : us = us.take i ++ u :: us.drop (i + 1) := by
          obtain ⟨hi, rfl⟩ := List.getElem?_eq_some_iff.mp hu
          rw [List.getElem_cons_drop, List.take_append_drop]
        rw [e9, List.map_append, List.nodup_append] at hnd
        exact hnd.2.2 u.1 hm u.1 (by simp) rfl
      walk_at "cg"
      refine ⟨u.1, rfl, ou.2.1, ?_⟩
      rw [ou.1]
      walk_at "cg"
      refine ⟨_, _, rfl, ?_⟩
      rw [decide_eq_true ou.2.2.1, decide_eq_true ou.2.2.2.1, decide_eq_true ou.2.2.2.2, show (true && (true && true)) = true from rfl]
      walk_at "cg"
      refine r_inL e2 rfl (flat_strs _) (b := false) (by rw [if_neg Bool.false_ne_true, inV_strs]; exact nin) ?_
      walk_at "cg"
      rename_i H7 e7 k7 H8 e8 k8 H9 e9 k9
      have e7p := Kp.get1 k7 npn.symm e1
      have e7l := Kp.get1 k7 nlon e3
      have e7h := Kp.get1 k7 nhin e4
      have e8p := Kp.get1 k8 nplo.symm e7p
      have e8n := Kp.get1 k8 nlon.symm e7
      have e8h := Kp.get1 k8 nhil e7h
      refine ⟨_, _, _, rfl, Kp.trN k9 (Kp.trN k8 (Kp.trN k7 kk fn) flo) fhi, Kp.get1 k9 nphi.symm e8p, ?_, ?_, ?_⟩
      · rw [Kp.get1 k9 nhin.symm e8n, map_take_snoc hu, List.map_append]
        rfl
      · rw [Kp.get1 k9 nhil.symm e8, map_take_snoc hu, List.map_append]
        rfl
      · rw [e9, map_take_snoc hu, List.map_append]
        rfl
    · clear K6 p6' e6n e6l e6h
      rintro σ' H' ⟨x2, x3, x4, rfl, kk, e1, e2, e3, e4⟩
      rw [hrl, List.take_length, List.map_map] at e2 e3 e4
      have few4 : fs.length < 1000 := by omega
      walk_at "cg"
      rename_i bd H7 hbd ebd k7 H8 e8 k8 pe H9 hpe se k9 pg H10 hpg sg k10
      refine r_setF (by walk_at "cg h") c a5 (by have := putF_le (Str.ofString "_bodies") (.ref bd) fs; omega) fun H11 e11 k11 => ?_
      have npbd : bd ≠ p := ne_newR hbd e1
      have nnbd : bd ≠ n := ne_newR hbd e2
      have fbd : H bd = none := by
        refine kk.free hbd fun b hb => ?_
        rw [List.mem_singleton] at hb
        subst hb
        exact ⟨_, e1⟩
      have up : ∀ {x o}, x ≠ p → H' x = some o → H11 x = some o := fun {x o} hx e => Kp.get1 k11 hx (k10.get0 (k9.get0 (Kp.get1 k8 hx (k7.get0 e))))
      have ebd11 : H11 bd = some (.dK []) := Kp.get1 k11 npbd (k10.get0 (k9.get0 (Kp.get1 k8 npbd ebd)))
      subst hfs
      refine k ⟨p, n, lo, hi, bd⟩ H11 rfl ⟨⟨dx, _, _, e11, MFs.new, k11.im (.tup sg (.cons (.str _) (.cons (.tup (k10.tup se) .nil) (.cons (.int _) .nil))))⟩, up npn e2, up nplo e3, up nphi e4, ⟨[], ebd11, rfl, .nil⟩, ⟨nlon.symm, nhin.symm, nhil.symm⟩⟩ (fun x hx => ?_) (Kp.tr1 k11 (Kp.tr0 k10 (Kp.tr0 k9 (Kp.tr1 k8 (Kp.tr0 k7 kk)))))
      simp only [MA.all, List.mem_cons, List.not_mem_nil, or_false] at hx
      rcases hx with rfl | rfl | rfl | rfl | rfl
      · exact .inl rfl
      · exact .inr fn
      · exact .inr flo
      · exact .inr fhi
      · exact .inr fbd
theorem ok_Model_put {f : Addr} {fd : FuncData} (F : Fun K "put" "Model.put" s_Model_put f fd) (B : Bi K mg C_Model) (D_is_label : Is P w K mg base CX0 1 "is_label" ["text"] spLabel) (D_body_fits : Is P w K mg base CX0 3 "body_fits" ["body", "many"] (spBodyFits K)) : FnOk P w K mg base CX0 4 f fd ["self", "label", "body"] (spPut K C_Model) := by
  have nd := sc_Model_put.nd
  refine F.ok sc_Model_put ?len (fun cdv A outer s H vs Q E hr h => ?body)
  case len =>
    rintro vs H Q E ⟨a, s, pb, b, M, rfl, _⟩
    rfl
  case body =>
    obtain ⟨a, s, pb, b, M, rfl, hM, hL, hsl, hn, hb, fb, few, k⟩ := h
    refine ⟨_, (pss_cons (ps_if (pt_not (pt_val (pe_is D_is_label (hr.mono (by decide)) rfl pass0 (pa_cons (pv 1) pa_nil))))
      (pss_one ps_never)
      pss_nil)
      (pss_cons (ps_if (pt_cmp (pc_din (hu_of hr) (pv 1) (pe_fld (pv 0) rfl)))
      (pss_one ps_never)
      pss_nil)
      (pss_cons (ps_if (pt_not (pt_val (pe_is D_body_fits (hr.mono (by decide)) rfl pass0 (pa_cons (pv 2) (pa_cons (pe_callB (cgLen K) (by rfl) B.n_len PySem.boot_len (pa_cons (pe_fld (pv 0) rfl) pa_nil)) pa_nil)))))
      (pss_one ps_never)
      pss_nil)
      (pss_cons (ps_if (pt_cmpR op_ge (pe_callB call_lenD (by rfl) B.n_len PySem.boot_len (pa_cons (pe_fld (pv 0) rfl) pa_nil)) (pe_gc rfl B.c_CONSTRAINTS_MOST) (nomark _))
      (pss_one ps_never)
      pss_nil)
      (pss_one (ps_dput (hu_of hr) (pe_fld (pv 0) rfl) (pv 1) (pv 2) rfl)))))), ?_⟩
    try dsimp only [L2.cxOf, L2.Cx.nox, L2.Cx.wish]
    rw [st_Model_put]
    have c := B.cl_Model
    have a1 := B.at_Model__names
    have a4 := B.at_Model__bodies
    obtain ⟨dx, fs, g, h1, h2, h3⟩ := hM.ob
    obtain ⟨kvs, h4, h5, h6⟩ := hM.bo
    have l1 := h2.nm
    have l4 := h2.bo
    have hkn : kvs.length = M.bs.length := by
      have q := congrArg List.length h5
      rw [List.length_map, List.length_map] at q
      exact q
    have nk : ¬ (Sum.inr s : Key) ∈ kvs.map (·.1) := fun hm => by
      have hm2 : (Sum.inr s : Key) ∈ M.bs.map (fun b => (Sum.inr b.1 : Key)) := h5 ▸ hm
      obtain ⟨z, hz, e⟩ := List.mem_map.mp hm2
      cases e
      exact hn (List.mem_map.mpr ⟨z, hz, rfl⟩)
    have nv : valV kvs (Sum.inr s : Key) = none := not_valV nk
    have hln : ((M.us.map fun u => V.str u.1).length : Int) = M.us.length := by rw [List.length_map]
    have hnm := hM.nm
    have npb : a.p ≠ a.b := ne_of h1 h4 (fun e => by cases e)
    walk_at "cg"
    refine ⟨s, rfl, hsl, ?_⟩
    rw [hL]
    walk_at "cg"
    refine r_inDk0 (k := Sum.inr s) h4 nv ?_
    walk_at "cg"
    refine ⟨pb, _, b, rfl, hb, b.fit_walk fb, fun r H' hr k' => ?_⟩
    have er : r = true := hr.mpr (by rw [hln]; exact fb)
    subst er
    walk_at "cg"
    refine ⟨a.b, kvs, rfl, k'.get0 h4, ?_⟩
    walk_at "cg"
    refine r_putD (k := Sum.inr s) (k'.get0 h4) (by omega) fun H2 e2 k2 => ?_
    rw [putK_new _ nv] at e2
    have kk : Kp [a.b] H H2 := ⟨fun b' o hb' e => k2.k b' o hb' (k'.get0 e), fun b' hb' => by
      rw [List.mem_singleton] at hb'
      subst hb'
      rw [h4]
      trivial⟩
    have nn : ∀ {x o}, H x = some o → (∀ q, o ≠ .dK q) → x ≠ a.b := fun {x o} e ho z => by
      rw [z, h4] at e
      exact ho _ (Option.some.inj e).symm
    refine k H2 ⟨⟨dx, fs, g, kk.get1 (nn h1 (fun q e => by cases e)) h1, h2, kk.im h3⟩, kk.get1 (nn hM.nm (fun q e => by cases e)) hM.nm, kk.get1 (nn hM.lo (fun q e => by cases e)) hM.lo, kk.get1 (nn hM.hi (fun q e => by cases e)) hM.hi, ⟨_, e2, ?_, ?_⟩, hM.ne⟩ kk
    · rw [List.map_append, List.map_append, h5]
      rfl
    · rw [List.map_append, List.map_append]
      exact (kk.imAll h6).snoc (kk.im hb)
theorem ok_Model_aim {f : Addr} {fd : FuncData} (F : Fun K "aim" "Model.aim" s_Model_aim f fd) (B : Bi K mg C_Model) (D_terms_fit : Is P w K mg base CX0 1 "terms_fit" ["terms", "many"] (spTmFit K)) : FnOk P w K mg base CX0 2 f fd ["self", "goal"] (spAim K C_Model) := by
  have nd := sc_Model_aim.nd
  refine F.ok sc_Model_aim ?len (fun cdv A outer s H vs Q E hr h => ?body)
  case len =>
    rintro vs H Q E ⟨a, pg, g, M, rfl, _⟩
    rfl
  case body =>
    obtain ⟨a, pg, g, M, rfl, hM, hg, fg, k⟩ := h
    refine ⟨_, (pss_cons (ps_asg (pv 1) (pg_tup (n := 3) rfl (pgs_cons (pg_name (i := 2) nd rfl (Or.inl rfl)) (pgs_cons (pg_name (i := 3) nd rfl (Or.inl rfl)) (pgs_cons (pg_name (i := 4) nd rfl (Or.inl rfl)) pgs_nil)))))
      (pss_cons (ps_if (PW.pt (pw_or (pt_cmpR (notInS K) (pv 2) (pe_tup (pa_cons pe_str (pa_cons pe_str pa_nil))) rfl) (pw_or (pt_not (pt_val (pe_is D_terms_fit (hr.mono (by decide)) rfl pass0 (pa_cons (pv 3) (pa_cons (pe_callB (cgLen K) (by rfl) B.n_len PySem.boot_len (pa_cons (pe_fld (pv 0) rfl) pa_nil)) pa_nil))))) (pw_or1 (pt_cmpR op_gt (pe_callB cg_abs (by rfl) B.n_abs (by decide +kernel) (pa_cons (pv 4) pa_nil)) (pe_gc rfl B.c_SUM_MOST) (nomark _))))))
      (pss_one ps_never)
      pss_nil)
      (pss_one (ps_fld (pv 0) (pv 1) rfl)))), ?_⟩
    try dsimp only [L2.cxOf, L2.Cx.nox, L2.Cx.wish]
    rw [st_Model_aim]
    have c := B.cl_Model
    have a1 := B.at_Model__names
    have a5 := B.at_Model__goal
    obtain ⟨dx, fs, g', h1, h2, h3⟩ := hM.ob
    obtain ⟨_, q1, e, s1, i1⟩ := goal_at hg
    cases e
    have l1 := h2.nm
    have few := h2.le
    have few2 : fs.length < 1000 := by omega
    have hln : ((M.us.map fun u => V.str u.1).length : Int) = M.us.length := by rw [List.length_map]
    have hnm := hM.nm
    have hin : ∀ b : Bool, (if true = true then !inV (.str (senseS b)) [.str (Str.ofString "max"), .str (Str.ofString "min")] else inV (.str (senseS b)) [.str (Str.ofString "max"), .str (Str.ofString "min")]) = false := fun b => by cases b <;> decide +kernel
    walk_at "cg"
    refine r_inT (by assumption) rfl rfl (hin g.mx) ?_
    walk_at "cg"
    refine ⟨q1, _, g.ts, rfl, by walk_at "cg h", fun r H' hr k' => ?_⟩
    have er : r = true := hr.mpr (by rw [hln]; exact fg.1)
    subst er
    have fc := fg.2
    walk_at "cg"
    rename_i H2 e2 k2
    have kk : Kp [a.p] H H2 := ⟨fun b' o hb' e => k2.k b' o hb' (Kp.get0 k' (Kp.get0 (by assumption) e)), fun b' hb' => by
      rw [List.mem_singleton] at hb'
      subst hb'
      rw [h1]
      trivial⟩
    have nn : ∀ {x o}, H x = some o → (∀ C dx q, o ≠ .ins C dx q) → x ≠ a.p := fun {x o} e ho z => by
      rw [z, h1] at e
      exact ho _ _ _ (Option.some.inj e).symm
    obtain ⟨kvs, h4, h5, h6⟩ := hM.bo
    refine k H2 ⟨⟨dx, _, _, e2, h2.goal, kk.im hg⟩, kk.get1 (nn hM.nm (fun _ _ q e => by cases e)) hM.nm, kk.get1 (nn hM.lo (fun _ _ q e => by cases e)) hM.lo, kk.get1 (nn hM.hi (fun _ _ q e => by cases e)) hM.hi, ⟨kvs, kk.get1 (nn h4 (fun _ _ q e => by cases e)) h4, h5, kk.imAll h6⟩, hM.ne⟩ kk

end
section
variable {P : Program} {w : World} {K : PySem.W.Frag} {mg : Str → Option Value} {base : Heap} {C_Model : Addr}
theorem ok_law_draw {f : Addr} {fd : FuncData} (F : Fun K "_law_draw" "_law_draw" s_law_draw f fd) (B : Bi K mg C_Model)  : FnOk P w K mg base CX0 1 f fd ["_law_tape_here", "_law_many"] spDraw := by
  have nd := sc_law_draw.nd
  refine F.ok sc_law_draw ?len (fun cdv A outer s H vs Q E hr h => ?body)
  case len =>
    rintro vs H Q E ⟨t, c, m, rfl, _⟩
    rfl
  case body =>
    obtain ⟨t, c, m, rfl, T, hm1, hm2, q⟩ := h
    refine ⟨_, (Evl.pss_cut (ps_if (pt_cmpR op_lt (pe_ix (ixL K) (pv 0) pe_int (fun _ _ => rfl)) (pv 1) (nomark _))
      (pss_cons (ps_set (i := 2) nd rfl (Or.inl rfl) (pe_ix (ixL K) (pv 0) pe_int (fun _ _ => rfl)))
      (pss_cons (ps_set (i := 3) nd rfl (Or.inl rfl) (pe_ix (ixL K) (pv 0) pe_int (fun _ _ => rfl)))
      (pss_cons (ps_set (i := 4) nd rfl (Or.inl rfl) pe_int)
      (Evl.pss_cut (ps_if (pt_cmpR op_lt (pv 3) (pe_callB (cgLen K) (by rfl) B.n_len PySem.boot_len (pa_cons (pv 2) pa_nil)) (nomark _))
      (pss_one (ps_set (i := 4) nd rfl (Or.inl rfl) (pe_ix (ixL K) (pv 2) (pv 3) (fun _ _ => rfl))))
      pss_nil)
      (Evl.pss_cut (ps_if (pt_cmpR op_lt (pv 4) pe_int (nomark _))
      (pss_one (ps_set (i := 4) nd rfl (Or.inl rfl) (pe_op op_sub (pe_op op_mul (pe_un un_neg pe_int) (pv 4)) pe_int)))
      pss_nil)
      (Evl.pss_cut (ps_if (pt_cmpR op_lt (pv 4) (pe_op op_pow pe_int pe_int) (nomark _))
      (pss_cons (ps_set (i := 4) nd rfl (Or.inl rfl) (pe_op op_mod (pe_callTy cg_int (by rfl) B.n_int PyProof.Rows.boot_int (pa_cons (pe_op op_add (pe_op op_add (pe_op op_mul (pv 4) pe_int) (pe_op op_mul (pv 3) pe_int)) pe_int) pa_nil)) pe_int))
      (pss_one (ps_set (i := 4) nd rfl (Or.inl rfl) (pe_op op_mod (pe_callTy cg_int (by rfl) B.n_int PyProof.Rows.boot_int (pa_cons (pe_op op_add (pe_op op_add (pe_op op_mul (pv 4) pe_int) (pe_op op_mul (pv 3) pe_int)) pe_int) pa_nil)) pe_int))))
      pss_nil)
      (pss_cons (ps_asg (pe_op op_add (pv 3) pe_int) (pg_sub (pv 0) pe_int set_list))
      (pss_one (ps_asg (pv 4) (pg_sub (pv 0) pe_int set_list))))))))))
      pss_nil)
      (pss_cons (ps_set (i := 5) nd rfl (Or.inl rfl) (pe_op op_mod (pe_callTy cg_int (by rfl) B.n_int PyProof.Rows.boot_int (pa_cons (pe_ix (ixL K) (pv 0) pe_int (fun _ _ => rfl)) pa_nil)) (pv 1)))
      (pss_cons (ps_asg (pe_op op_fdivW (pe_ix (ixL K) (pv 0) pe_int (fun _ _ => rfl)) (pv 1)) (pg_sub (pv 0) pe_int set_list))
      (pss_one (ps_ret (pv 5)))))), ?_⟩
    try dsimp only [L2.cxOf, L2.Cx.nox, L2.Cx.wish]
    rw [st_law_draw]
    obtain ⟨ns, k, z, h1, h2, hk, hz⟩ := id T.ex
    have net := T.ne
    show Evl.tCut _ _ _ _ _
    refine ⟨fun σ' H1 => ∃ (k z : Int) (x1 x2 x3 x4 : Option V), σ' = [some (V.ref t), some (.int m), x1, x2, x3, x4] ∧ H1 t = some (.lst [.ref c, .int k, .int z]) ∧ H1 c = some (.lst (ns.map V.int)) ∧ 0 ≤ k ∧ 0 ≤ z ∧ (H1 = H ∨ Kp [t] H H1), ?_, ?_⟩
    · walk_at "cg"
      refine if_S (fun hc => ?_) (fun hc => ?_)
      · walk_at "cg"
        refine ⟨fun σ' H1 => ∃ z' : Int, σ' = [some (V.ref t), some (.int m), some (V.ref c), some (.int k), some (.int z'), none] ∧ H = H1, ?_, ?_⟩
        · walk_at "cg"
          refine if_S (fun hk1 => ?_) (fun hk1 => ?_)
          · walk_at "cg"
            rw [List.length_map] at hk1
            refine r_ixL h2 (v := .int (ns.getD k.toNat 0)) ?_ ?_
            · have e : k.toNat < ns.length := by omega
              simp [atI, ixN, hk, hk1, e]
            · walk_at "cg"
              exact ⟨_, rfl, rfl⟩
          · walk_at "cg"
            exact ⟨_, rfl, rfl⟩
        · rintro σ' H1 ⟨z1, rfl, rfl⟩
          refine ⟨fun σ' H2 => ∃ z' : Int, 0 ≤ z' ∧ σ' = [some (V.ref t), some (.int m), some (V.ref c), some (.int k), some (.int z'), none] ∧ H = H2, ?_, ?_⟩
          · walk_at "cg"
            refine if_S (fun hk1 => ?_) (fun hk1 => ?_)
            · walk_at "cg"
              exact ⟨_, by omega, rfl, rfl⟩
            · walk_at "cg"
              exact ⟨_, by omega, rfl, rfl⟩
          · rintro σ' H2 ⟨z2, hz2, rfl, rfl⟩
            refine ⟨fun σ' H2 => ∃ z' : Int, 0 ≤ z' ∧ σ' = [some (V.ref t), some (.int m), some (V.ref c), some (.int k), some (.int z'), none] ∧ H = H2, ?_, ?_⟩
            · walk_at "cg"
              refine if_S (fun hk1 => ?_) (fun hk1 => ?_)
              · walk_at "cg"
                exact ⟨_, by omega, rfl, rfl⟩
              · walk_at "cg"
                exact ⟨_, hz2, rfl, rfl⟩
            · rintro σ' H2 ⟨z3, hz3, rfl, rfl⟩
              walk_at "cg"
              intro H2 e1 k1
              walk_at "cg"
              intro H3 e2 k2
              walk_at "cg"
              exact ⟨k + 1, z3, _, _, _, _, rfl, e2, k2.get1 net.symm (k1.get1 net.symm h2), by omega, hz3, .inr ⟨fun b o hb e => k2.k b o hb (k1.k b o hb e), k1.mu⟩⟩
      · walk_at "cg"
        exact ⟨k, z, _, _, _, _, rfl, h1, h2, hk, hz, .inl rfl⟩
    · rintro σ' H1 ⟨k, z, x1, x2, x3, x4, rfl, g1, g2, gk, gz, hk⟩
      walk_at "cg"
      refine r_rI (bigB_ok hm1 hm2) ?_
      walk_at "cg"
      intro H2 e1 k1
      walk_at "cg"
      refine q _ _ (Int.emod_nonneg _ (by omega)) (Int.emod_lt_of_pos _ (by omega)) ⟨ns, k, _, e1, k1.get1 net.symm g2, gk, Int.ediv_nonneg gz (by omega)⟩ ?_
      rcases hk with rfl | hk
      · exact k1
      · exact ⟨fun b o hb e => k1.k b o hb (hk.k b o hb e), hk.mu⟩

theorem ok_law_tape {f : Addr} {fd : FuncData} (F : Fun K "_law_tape" "_law_tape" s_law_tape f fd) (B : Bi K mg C_Model)  : FnOk P w K mg base CX0 1 f fd ["_law_script"] (spTape K) := by
  have nd := sc_law_tape.nd
  refine F.ok sc_law_tape ?len (fun cdv A outer s H vs Q E hr h => ?body)
  case len =>
    rintro vs H Q E ⟨a, ns, rfl, _⟩
    rfl
  case body =>
    obtain ⟨a, ns, rfl, hS, q⟩ := h
    refine ⟨_, (pss_one (ps_ret (pe_lst (pa_cons (pe_callTy (cgList K) (by rfl) B.n_list (by decide +kernel) (pa_cons (pv 0) pa_nil)) (pa_cons pe_int (pa_cons pe_int pa_nil)))))), ?_⟩
    try dsimp only [L2.cxOf, L2.Cx.nox, L2.Cx.wish]
    rw [st_law_tape]
    walk_at "cg"
    rename_i c H1 hc h1 k1 t H2 ht h2 k2
    exact q _ _ _ (Kp.free0 (by assumption) ht) hc ⟨ns, 0, 0, h2, k2.get0 h1, by decide, by decide⟩ (by walk_at "cg kp")

theorem ok_law_terms {f : Addr} {fd : FuncData} (F : Fun K "_law_terms" "_law_terms" s_law_terms f fd) (B : Bi K mg C_Model) (D_law_draw : Is P w K mg base CX0 1 "_law_draw" ["_law_tape_here", "_law_many"] spDraw) : FnOk P w K mg base CX0 2 f fd ["_law_tape_here", "_law_many"] (spLawTerms K) := by
  have nd := sc_law_terms.nd
  refine F.ok sc_law_terms ?len (fun cdv A outer s H vs Q E hr h => ?body)
  case len =>
    rintro vs H Q E ⟨t, c, m, rfl, _⟩
    rfl
  case body =>
    obtain ⟨t, c, m, rfl, T, m0, m1, q⟩ := h
    refine ⟨_, (pss_cons (ps_set (i := 2) nd rfl (Or.inl rfl) (pe_lst pa_nil))
      (pss_cons (ps_for PassesOwn.never rfl (pi_range1 rfl B.n_range (pa_cons (pv 1) pa_nil)) (pg_name (i := 3) nd rfl (Or.inl rfl))
      (pss_cons (ps_set (i := 4) nd rfl (Or.inl rfl) (pe_op op_sub (pe_is D_law_draw (hr.mono (by decide)) rfl pass0 (pa_cons (pv 0) (pa_cons pe_int pa_nil))) pe_int))
      (pss_one (ps_if (pt_cmpR op_ne (pv 4) pe_int (nomark _))
      (pss_one (ps_expr (pe_bm PySem.F.plainAttrs_list PySem.F.slot_list_append PySem.F.type_list_append mt_append (pv 2) (pa_cons (pe_tup (pa_cons (pv 3) (pa_cons (pv 4) pa_nil))) pa_nil))))
      pss_nil))))
      (pss_one (ps_ret (pe_callTy (cgTuple K) (by rfl) B.n_tuple (by decide +kernel) (pa_cons (pv 2) pa_nil)))))), ?_⟩
    try dsimp only [L2.cxOf, L2.Cx.nox, L2.Cx.wish]
    rw [st_law_terms]
    walk_at "cg"
    rename_i l H1 hl el kl
    have nlt : l ≠ t := by walk_at "cg ne"
    have nlc : l ≠ c := by walk_at "cg ne"
    have T1 : Tp t c H1 := by walk_at "cg h"
    refine r_forR (fun i σ' H' => ∃ (ts : Tms) (refs : List V) (x3 x4 : Option V), σ' = [some (.ref t), some (.int m), some (.ref l), x3, x4] ∧ Tp t c H' ∧ Kp [t] H H' ∧ H' l = some (.lst refs) ∧ ImAll K H' refs (ts.map tD) ∧
      (∀ z ∈ ts, 0 ≤ z.1 ∧ z.1 < i ∧ z.2 ≠ 0 ∧ -3 ≤ z.2 ∧ z.2 ≤ 3) ∧ (ts.map (·.1)).Pairwise (· < ·) ∧ ts.length ≤ i) ⟨[], [], none, none, rfl, T1, by walk_at "cg kp", el, .nil, (fun z hz => by cases hz), List.Pairwise.nil, Nat.le_refl _⟩ ?_ ?_
    · rintro i σ' H2 hi ⟨ts, refs, x3, x4, rfl, T2, k2, e2, A2, ok, asc, hn⟩
      have hrl := mapLenP A2
      clear T1 el kl T
      walk_at "cg"
      refine if_S (fun h0 => ?_) (fun h0 => ?_)
      · walk_at "cg"
        rename_i d H3 d0 d6 T3 k3 pn H4 hpn sn k4 H5 e5 k5
        refine ⟨ts ++ [((i : Int), d - 3)], refs ++ [.ref pn], some (.int (0 + (i : Int))), some (.int (d - 3)), rfl, by walk_at "cg h", by walk_at "cg kp", e5, ?_, fun z hz => ?_, ?_, by simp; omega⟩
        · rw [List.map_append]
          refine (k5.imAll (k4.imAll (k3.imAll A2))).snoc (.tup (k5.tup sn) ?_)
          rw [show (0 + (i : Int)) = (i : Int) by omega]
          exact .cons (.int _) (.cons (.int _) .nil)
        · rcases List.mem_append.mp hz with h | h
          · have q := ok z h
            omega
          · rw [List.mem_singleton] at h
            subst h
            simp only
            omega
        · rw [List.map_append, List.pairwise_append]
          refine ⟨asc, List.pairwise_singleton .., fun a ha b hb => ?_⟩
          obtain ⟨z, hz, rfl⟩ := List.mem_map.mp ha
          have q := ok z hz
          simp only [List.map_cons, List.map_nil, List.mem_singleton] at hb
          subst hb
          exact q.2.1
      · walk_at "cg"
        rename_i d H3 d0 d6 T3 k3
        exact ⟨ts, refs, some (.int (0 + (i : Int))), some (.int (d - 3)), rfl, by walk_at "cg h", by walk_at "cg kp", by walk_at "cg h", by walk_at "cg h", (fun z hz => by have q := ok z hz; omega), asc, by omega⟩
    · rintro σ' H2 ⟨ts, refs, x3, x4, rfl, T2, k2, e2, A2, ok, asc, hn⟩
      clear T1 el kl T
      walk_at "cg"
      exact q _ _ _ (.tup (by assumption) (by walk_at "cg h")) ⟨(fun z hz => by have q := ok z hz; omega), asc, by omega⟩ (by walk_at "cg h") (by walk_at "cg kp")
theorem ok_law_literal {f : Addr} {fd : FuncData} (F : Fun K "_law_literal" "_law_literal" s_law_literal f fd) (B : Bi K mg C_Model) (D_law_draw : Is P w K mg base CX0 1 "_law_draw" ["_law_tape_here", "_law_many"] spDraw) : FnOk P w K mg base CX0 2 f fd ["_law_tape_here", "_law_many"] (spLawLiteral K) := by
  have nd := sc_law_literal.nd
  refine F.ok sc_law_literal ?len (fun cdv A outer s H vs Q E hr h => ?body)
  case len =>
    rintro vs H Q E ⟨t, c, m, rfl, _⟩
    rfl
  case body =>
    obtain ⟨t, c, m, rfl, T, m0, m1, q⟩ := h
    refine ⟨_, (pss_cons (ps_set (i := 2) nd rfl (Or.inl rfl) (pe_ix (ixL K) (pe_lst (pa_cons pe_str (pa_cons pe_str (pa_cons pe_str (pa_cons pe_str pa_nil))))) (pe_is D_law_draw (hr.mono (by decide)) rfl pass0 (pa_cons (pv 0) (pa_cons pe_int pa_nil))) (fun _ _ => rfl)))
      (pss_one (ps_ret (pe_tup (pa_cons (pe_is D_law_draw (hr.mono (by decide)) rfl pass0 (pa_cons (pv 0) (pa_cons (pv 1) pa_nil))) (pa_cons (pv 2) (pa_cons (pe_op op_sub (pe_is D_law_draw (hr.mono (by decide)) rfl pass0 (pa_cons (pv 0) (pa_cons pe_int pa_nil))) pe_int) pa_nil))))))), ?_⟩
    try dsimp only [L2.cxOf, L2.Cx.nox, L2.Cx.wish]
    rw [st_law_literal]
    have mb : m < bigB := by
      have e : (60 : Int) < bigB := by decide
      omega
    walk_at "cg"
    refine ix_rel4 (by walk_at "cg h") (by assumption) (by assumption) fun r => ?_
    walk_at "cg"
    rename_i d1 _ _ _ _ _ d2 _ _ _ _ _ p1 H5 _ _ _
    exact q p1 ⟨d1, r, d2 - 3⟩ _ (by assumption) ⟨by assumption, by assumption, by simp only; omega, by simp only; omega⟩ (by walk_at "cg h") (by walk_at "cg kp")
theorem ok_law_some {f : Addr} {fd : FuncData} (F : Fun K "_law_some" "_law_some" s_law_some f fd) (B : Bi K mg C_Model) (D_law_draw : Is P w K mg base CX0 1 "_law_draw" ["_law_tape_here", "_law_many"] spDraw) : FnOk P w K mg base CX0 2 f fd ["_law_tape_here", "_law_many", "_law_least"] (spLawSome K) := by
  have nd := sc_law_some.nd
  refine F.ok sc_law_some ?len (fun cdv A outer s H vs Q E hr h => ?body)
  case len =>
    rintro vs H Q E ⟨t, c, m, k, rfl, _⟩
    rfl
  case body =>
    obtain ⟨t, c, m, k, rfl, T, k0, k1, m1, q⟩ := h
    refine ⟨_, (pss_cons (ps_set (i := 3) nd rfl (Or.inl rfl) (pe_listRg rfl (by rfl) B.n_list (prg_1 (by rfl) B.n_range (pv 1))))
      (pss_cons (ps_set (i := 4) nd rfl (Or.inl rfl) (pe_lst pa_nil))
      (pss_cons (ps_for PassesOwn.never rfl (pi_range1 rfl B.n_range (pa_cons (pe_op op_add (pv 2) (pe_is D_law_draw (hr.mono (by decide)) rfl pass0 (pa_cons (pv 0) (pa_cons (pe_op op_add (pe_op op_sub (pv 1) (pv 2)) pe_int) pa_nil)))) pa_nil)) (pg_name (i := 5) nd rfl (Or.inl rfl))
      (pss_one (ps_expr (pe_bm PySem.F.plainAttrs_list PySem.F.slot_list_append PySem.F.type_list_append mt_append (pv 4) (pa_cons (pe_bm PySem.F.plainAttrs_list PySem.F.slot_list_pop PySem.F.type_list_pop mt_popAt (pv 3) (pa_cons (pe_is D_law_draw (hr.mono (by decide)) rfl pass0 (pa_cons (pv 0) (pa_cons (pe_callB (cgLen K) (by rfl) B.n_len PySem.boot_len (pa_cons (pv 3) pa_nil)) pa_nil))) pa_nil)) pa_nil)))))
      (pss_one (ps_ret (pe_callTy (cgTuple K) (by rfl) B.n_tuple (by decide +kernel) (pa_cons (pv 4) pa_nil))))))), ?_⟩
    try dsimp only [L2.cxOf, L2.Cx.nox, L2.Cx.wish]
    rw [st_law_some]
    have mb : m - k + 1 < bigB := by
      have e : (62 : Int) < bigB := by decide
      omega
    walk_at "cg"
    refine r_lstRg (by omega) (by omega) fun l1 H1 hl1 el1 kl1 => ?_
    walk_at "cg"
    rename_i l2 H2 hl2 el2 kl2 d H3 d0 d1 T3 kd
    have n1t : l1 ≠ t := by walk_at "cg ne"
    have n1c : l1 ≠ c := by walk_at "cg ne"
    have n2t : l2 ≠ t := by walk_at "cg ne"
    have n2c : l2 ≠ c := by walk_at "cg ne"
    have n12 : l1 ≠ l2 := ne_newL hl2 el1
    have K3 : Kp [t] H H3 := by walk_at "cg kp"
    have E1 : H3 l1 = some (.lst ((rgI 0 m).map V.int)) := Kp.get1 kd n1t (kl2.get0 el1)
    have E2 : H3 l2 = some (.lst []) := Kp.get1 kd n2t el2
    have f1 : H l1 = none := hl1
    have f2 : H l2 = none := by walk_at "cg fr"
    clear T kl1 kl2 el1 el2 kd hl2
    refine r_forR (fun i σ' H' => ∃ (rs fs : List Int) (x5 : Option V), σ' = [some (.ref t), some (.int m), some (.int k), some (.ref l1), some (.ref l2), x5] ∧ Tp t c H' ∧ Kp [t] H H' ∧ H' l1 = some (.lst (rs.map V.int)) ∧ H' l2 = some (.lst (fs.map V.int)) ∧
      (fs ++ rs).Perm (rgI 0 m) ∧ fs.length = i) ⟨rgI 0 m, [], _, rfl, T3, K3, E1, E2, by rw [List.nil_append], rfl⟩ ?_ ?_
    · clear T3 K3 E1 E2
      rintro i σ' H4 hi ⟨rs, fs, x5, rfl, T4, k4, e1, e2, pm, hn⟩
      have tot := pm.length_eq
      rw [List.length_append, rgI_len] at tot
      have hrl : (rs.map V.int).length = rs.length := List.length_map ..
      have hr1 : 1 ≤ (((rs.map V.int).length : Nat) : Int) := by omega
      have hrb : (((rs.map V.int).length : Nat) : Int) < bigB := by
        have e : (62 : Int) < bigB := by decide
        omega
      have hfl : (fs.map V.int).length = fs.length := List.length_map ..
      walk_at "cg"
      rename_i d' H5 d0' d1' T5 k5
      refine r_pop (by walk_at "cg h") d0' (by omega) (by omega) fun y H6 ey e6 k6 => ?_
      rw [List.getElem?_map] at ey
      cases hy : rs[d'.toNat]? with
      | none =>
        rw [hy] at ey
        cases ey
      | some y' =>
        rw [hy] at ey
        cases ey
        have E6 : H6 l2 = some (.lst (fs.map V.int)) := Kp.get1 k6 n12.symm (by walk_at "cg h")
        walk_at "cg"
        rename_i H7 e7 k7
        refine ⟨rs.eraseIdx d'.toNat, fs ++ [y'], _, rfl, by walk_at "cg h", by walk_at "cg kp", ?_, by rw [e7, List.map_append]; rfl, some_step pm hy, by simp [hn]⟩
        rw [← erase_map]
        exact Kp.get1 k7 n12 e6
    · clear T3 K3 E1 E2
      rintro σ' H4 ⟨rs, fs, x5, rfl, T4, k4, e1, e2, pm, hn⟩
      walk_at "cg"
      have tot := pm.length_eq
      rw [List.length_append, rgI_len] at tot
      have nd : (fs ++ rs).Nodup := pm.nodup_iff.mpr ((rgI_asc 0 m).imp fun {a b} h => by omega)
      refine q _ fs _ (by assumption) ⟨(List.nodup_append.mp nd).1, fun u hu => ?_⟩ (by omega) (by omega) (by walk_at "cg h") (by walk_at "cg kp")
      have hm := pm.mem_iff.mp (List.mem_append_left rs hu)
      rw [rgI_mem] at hm
      omega

theorem ok_law_body {f : Addr} {fd : FuncData} (F : Fun K "_law_body" "_law_body" s_law_body f fd) (B : Bi K mg C_Model) (D_law_draw : Is P w K mg base CX0 1 "_law_draw" ["_law_tape_here", "_law_many"] spDraw) (D_law_literal : Is P w K mg base CX0 2 "_law_literal" ["_law_tape_here", "_law_many"] (spLawLiteral K)) (D_law_terms : Is P w K mg base CX0 2 "_law_terms" ["_law_tape_here", "_law_many"] (spLawTerms K)) (D_law_some : Is P w K mg base CX0 2 "_law_some" ["_law_tape_here", "_law_many", "_law_least"] (spLawSome K)) : FnOk P w K mg base CX0 3 f fd ["_law_tape_here", "_law_many"] (spLawBody K) := by
  have nd := sc_law_body.nd
  refine F.ok sc_law_body ?len (fun cdv A outer s H vs Q E hr h => ?body)
  case len =>
    rintro vs H Q E ⟨t, c, m, rfl, _⟩
    rfl
  case body =>
    obtain ⟨t, c, m, rfl, T, m0, m1, q⟩ := h
    refine ⟨_, (pss_cons (ps_set (i := 2) nd rfl (Or.inl rfl) (pe_is D_law_draw (hr.mono (by decide)) rfl pass0 (pa_cons (pv 0) (pa_cons pe_int pa_nil))))
      (pss_cons (ps_set (i := 3) nd rfl (Or.inl rfl) (pe_ix (ixL K) (pe_lst (pa_cons pe_str (pa_cons pe_str (pa_cons pe_str pa_nil)))) (pe_is D_law_draw (hr.mono (by decide)) rfl pass0 (pa_cons (pv 0) (pa_cons pe_int pa_nil))) (fun _ _ => rfl)))
      (pss_cons (ps_if (pt_cmpR op_eq (pv 2) pe_int (nomark _))
      (pss_cons (ps_set (i := 4) nd rfl (Or.inl rfl) (pe_lst pa_nil))
      (pss_cons (ps_for PassesOwn.never rfl (pi_range1 rfl B.n_range (pa_cons (pe_op op_add pe_int (pe_is D_law_draw (hr.mono (by decide)) rfl pass0 (pa_cons (pv 0) (pa_cons pe_int pa_nil)))) pa_nil)) (pg_name (i := 5) nd rfl (Or.inl rfl))
      (pss_cons (ps_set (i := 6) nd rfl (Or.inl rfl) (pe_is D_law_literal (hr.mono (by decide)) rfl pass0 (pa_cons (pv 0) (pa_cons (pv 1) pa_nil))))
      (pss_one (ps_if (pt_cmpR (notInDL K hr) (pv 6) (pv 4) rfl)
      (pss_one (ps_expr (pe_bm PySem.F.plainAttrs_list PySem.F.slot_list_append PySem.F.type_list_append mt_append (pv 4) (pa_cons (pv 6) pa_nil))))
      pss_nil))))
      (pss_one (ps_ret (pe_tup (pa_cons pe_str (pa_cons (pe_callTy (cgTuple K) (by rfl) B.n_tuple (by decide +kernel) (pa_cons (pv 4) pa_nil)) pa_nil)))))))
      pss_nil)
      (pss_cons (ps_if (pt_cmpR op_eq (pv 2) pe_int (nomark _))
      (pss_cons (ps_set (i := 6) nd rfl (Or.inl rfl) (pe_is D_law_literal (hr.mono (by decide)) rfl pass0 (pa_cons (pv 0) (pa_cons (pv 1) pa_nil))))
      (pss_one (ps_ret (pe_tup (pa_cons pe_str (pa_cons (pv 6) (pa_cons (pe_is D_law_terms (hr.mono (by decide)) rfl pass0 (pa_cons (pv 0) (pa_cons (pv 1) pa_nil))) (pa_cons (pv 3) (pa_cons (pe_op op_sub (pe_is D_law_draw (hr.mono (by decide)) rfl pass0 (pa_cons (pv 0) (pa_cons pe_int pa_nil))) pe_int) pa_nil)))))))))
      pss_nil)
      (pss_cons (ps_if (PW.pt (pw_and (pt_cmpR op_eq (pv 2) pe_int (nomark _)) (pw_and1 (pt_cmpR op_gt (pv 1) pe_int (nomark _)))))
      (pss_one (ps_ret (pe_tup (pa_cons pe_str (pa_cons (pe_is D_law_some (hr.mono (by decide)) rfl pass0 (pa_cons (pv 0) (pa_cons (pv 1) (pa_cons pe_int pa_nil)))) pa_nil)))))
      pss_nil)
      (pss_cons (ps_if (pt_cmpR op_eq (pv 2) pe_int (nomark _))
      (pss_cons (ps_set (i := 7) nd rfl (Or.inl rfl) (pe_slice (slA K) (pe_is D_law_some (hr.mono (by decide)) rfl pass0 (pa_cons (pv 0) (pa_cons (pv 1) (pa_cons pe_int pa_nil)))) po_none (po_some pe_int)))
      (pss_cons (ps_set (i := 8) nd rfl (Or.inl rfl) (pe_lst pa_nil))
      (pss_cons (ps_for PassesOwn.never rfl (pi_range1 rfl B.n_range (pa_cons (pe_op op_add pe_int (pe_is D_law_draw (hr.mono (by decide)) rfl pass0 (pa_cons (pv 0) (pa_cons pe_int pa_nil)))) pa_nil)) (pg_name (i := 5) nd rfl (Or.inl rfl))
      (pss_one (ps_expr (pe_bm PySem.F.plainAttrs_list PySem.F.slot_list_append PySem.F.type_list_append mt_append (pv 8) (pa_cons (pe_callTy (cgTuple K) (by rfl) B.n_tuple (by decide +kernel) (pa_cons (by exact pe_lc (own := [("_law_v", 10)]) (g := (gName 10)) (tt := tYes) rfl nd (pi_tup (pv 7)) (blkOk_by (N := ["_law_tape_here", "_law_many", "_law_kind", "_law_relation", "_law_literals", "_law_k", "_law_literal_here", "_law_numbers", "_law_rows", "_law_entries", "_law_v"]) (sc := defScope s_law_body) (by decide +kernel)) (fun _ _ _ _ _ => (pg_name (i := 10) nd rfl (Or.inl rfl))) (fun _ _ _ _ _ => pts_nil) (fun _ _ _ _ _ => (pe_op op_sub (pe_is D_law_draw (hr.mono (by decide)) rfl pass0 (pa_cons (pv 0) (pa_cons pe_int pa_nil))) pe_int))) pa_nil)) pa_nil)))))
      (pss_one (ps_ret (pe_tup (pa_cons pe_str (pa_cons (pv 7) (pa_cons (pe_callTy (cgTuple K) (by rfl) B.n_tuple (by decide +kernel) (pa_cons (pv 8) pa_nil)) pa_nil)))))))))
      pss_nil)
      (pss_cons (ps_if (pt_cmpR op_eq (pv 2) pe_int (nomark _))
      (pss_cons (ps_setLc (i := 9) (own := [("_law_k", 5)]) (g := (gName 5)) (tt := tYes) rfl nd rfl rfl (sw_true rfl rfl rfl (by decide +kernel)) (pi_range1 rfl B.n_range (pa_cons (pe_op op_add pe_int (pe_is D_law_draw (hr.mono (by decide)) rfl pass0 (pa_cons (pv 0) (pa_cons pe_int pa_nil)))) pa_nil)) (blkOk_by (N := ["_law_tape_here", "_law_many", "_law_kind", "_law_relation", "_law_literals", "_law_k", "_law_literal_here", "_law_numbers", "_law_rows", "_law_entries", "_law_v"]) (sc := defScope s_law_body) (by decide +kernel)) (fun _ _ _ _ _ => (pg_name (i := 5) nd rfl (Or.inl rfl))) (fun _ _ _ _ _ => pts_nil) (fun _ _ _ _ _ => (pe_op op_sub (pe_is D_law_draw (hr.mono (by decide)) rfl pass0 (pa_cons (pv 0) (pa_cons pe_int pa_nil))) pe_int)))
      (pss_one (ps_ret (pe_tup (pa_cons pe_str (pa_cons (pe_is D_law_draw (hr.mono (by decide)) rfl pass0 (pa_cons (pv 0) (pa_cons (pv 1) pa_nil))) (pa_cons (pe_callTy (cgTuple K) (by rfl) B.n_tuple (by decide +kernel) (pa_cons (pv 9) pa_nil)) (pa_cons (pe_is D_law_draw (hr.mono (by decide)) rfl pass0 (pa_cons (pv 0) (pa_cons (pv 1) pa_nil))) pa_nil))))))))
      pss_nil)
      (pss_cons (ps_if (pt_cmpR op_eq (pv 2) pe_int (nomark _))
      (pss_one (ps_ret (pe_tup (pa_cons pe_str (pa_cons (pe_is D_law_draw (hr.mono (by decide)) rfl pass0 (pa_cons (pv 0) (pa_cons (pv 1) pa_nil))) (pa_cons (pe_is D_law_draw (hr.mono (by decide)) rfl pass0 (pa_cons (pv 0) (pa_cons (pv 1) pa_nil))) (pa_cons (pe_is D_law_draw (hr.mono (by decide)) rfl pass0 (pa_cons (pv 0) (pa_cons (pv 1) pa_nil))) pa_nil)))))))
      pss_nil)
      (pss_one (ps_ret (pe_tup (pa_cons pe_str (pa_cons (pe_is D_law_terms (hr.mono (by decide)) rfl pass0 (pa_cons (pv 0) (pa_cons (pv 1) pa_nil))) (pa_cons (pv 3) (pa_cons (pe_op op_sub (pe_is D_law_draw (hr.mono (by decide)) rfl pass0 (pa_cons (pv 0) (pa_cons pe_int pa_nil))) pe_int) pa_nil))))))))))))))), ?_⟩
    try dsimp only [L2.cxOf, L2.Cx.nox, L2.Cx.wish]
    rw [st_law_body]
    have mb : m < bigB := by
      have e : (60 : Int) < bigB := by decide
      omega
    walk_at "cg"
    rename_i dk Hk dk0 dk1 Tk kk pl H1 hpl epl kl dr H2 dr0 dr1 T2 k2
    refine ix_rel3 (by walk_at "cg h") dr0 dr1 fun r hr3 => ?_
    have K2 : Kp [t] H H2 := Kp.tr1 k2 (Kp.tr0 kl kk)
    clear kk epl kl k2 Tk T
    walk_at "cg"
    refine if_S (fun c2 => ?_) (fun c2 => ?_)
    · -- any
      walk_at "cg"
      rename_i l H3 hl el kl d H4 d0 d1 T4 kd
      have nlt : l ≠ t := by walk_at "cg ne"
      have nlc : l ≠ c := by walk_at "cg ne"
      have fl : H l = none := by
        refine K2.free hl fun b hb => ?_
        rw [List.mem_singleton] at hb
        subst hb
        exact T2.it
      have K4 : Kp [t] H H4 := Kp.tr1 kd (Kp.tr0 kl K2)
      have E4 : H4 l = some (.lst []) := Kp.get1 kd nlt el
      clear K2 T2 kl el kd
      refine r_forR (fun i σ' H' => ∃ (ls : List Lit) (refs : List V) (x5 x6 : Option V), σ' = [some (.ref t), some (.int m), some (.int dk), some (.str r.s), some (.ref l), x5, x6, none, none, none, none] ∧ Tp t c H' ∧ Kp [t] H H' ∧ H' l = some (.lst refs) ∧ ImAll K H' refs (ls.map Lit.d) ∧
        ls.Nodup ∧ (∀ x ∈ ls, litFit m x) ∧ ls.length ≤ i ∧ (0 < i → 0 < ls.length)) ⟨[], [], none, none, rfl, T4, K4, E4, .nil, List.nodup_nil, (fun z hz => by cases hz), Nat.le_refl _, fun h => absurd h (by decide)⟩ ?_ ?_
      · clear T4 K4 E4
        rintro i σ' H5 hi ⟨ls, refs, x5, x6, rfl, T5, k5, e5, A5, nd, ok, hn, h1⟩
        have hrl := mapLenP A5
        walk_at "cg"
        refine ⟨t, c, m, rfl, T5, by omega, by omega, fun p x H6 L6 f6 T6 k6 => ?_⟩
        have e6 := Kp.get1 k6 nlt e5
        have A6 := k6.imAll A5
        walk_at "cg"
        refine ⟨x.d, ls.map Lit.d, Im.dp (lit_mk L6), .lst (SqL.of e6) A6.dp, (Lit.shp x).ok, (Shp.list (n := 1) fun d hd => ?_).ok, ?_⟩
        · obtain ⟨z, _, rfl⟩ := List.mem_map.mp hd
          exact Lit.shp z
        rw [any_in Lit.eqv]
        walk_at "cg"
        refine if_NS (fun hm => ?_) (fun hm => ?_)
        · walk_at "cg"
          rename_i H7 e7 k7
          refine ⟨ls ++ [x], refs ++ [.ref p], _, _, rfl, by walk_at "cg h", by walk_at "cg kp", e7, ?_, ?_, fun z hz => ?_, by simp; omega, fun _ => by simp⟩
          · rw [List.map_append]
            exact (k7.imAll A6).snoc (k7.im (lit_mk L6))
          · rw [List.nodup_append]
            exact ⟨nd, by simp, fun a ha b hb => by rw [List.mem_singleton] at hb; subst hb; exact fun e => hm (e ▸ ha)⟩
          · rcases List.mem_append.mp hz with h | h
            · exact ok z h
            · rw [List.mem_singleton] at h
              subst h
              exact f6
        · walk_at "cg"
          exact ⟨ls, refs, _, _, rfl, by walk_at "cg h", by walk_at "cg kp", e6, A6, nd, ok, by omega, fun _ => List.length_pos_of_mem hm⟩
      · clear T4 K4 E4
        rintro σ' H5 ⟨ls, refs, x5, x6, rfl, T5, k5, e5, A5, nd, ok, hn, h1⟩
        have h1' := h1 (by omega)
        walk_at "cg"
        exact q _ (.any ls) _ (.tup (by assumption) (.cons (.str _) (.cons (.tup (by walk_at "cg h") (by walk_at "cg h")) .nil))) ⟨⟨h1', by omega⟩, nd, ok⟩ (by walk_at "cg h") (by walk_at "cg kp")
    · walk_at "cg"
      refine if_S (fun c3 => ?_) (fun c3 => ?_)
      · -- when
        walk_at "cg"
        refine ⟨t, c, m, rfl, by walk_at "cg h", by omega, by omega, fun p x H6 L6 f6 T6 k6 => ?_⟩
        walk_at "cg"
        refine ⟨t, c, m, rfl, by walk_at "cg h", by omega, by omega, fun p2 ts H7 I7 f7 T7 k7 => ?_⟩
        walk_at "cg"
        exact q _ (.when x ts r _) _ (.tup (by assumption) (.cons (.str _) (.cons (lit_mk (by walk_at "cg h")) (.cons (by walk_at "cg h") (.cons (.str _) (.cons (.int _) .nil)))))) ⟨f6, f7.fit (by omega), hr3, by omega, by omega⟩ (by walk_at "cg h") (by walk_at "cg kp")
      · walk_at "cg"
        refine if_S (fun c4 => ?_) (fun c4 => ?_)
        · walk_at "cg"
          refine if_S (fun c5 => ?_) (fun c5 => ?_)
          · walk_at "cg"
            refine ⟨t, c, m, 2, rfl, by walk_at "cg h", by omega, by omega, by omega, fun p us H6 S6 f6 u0 u1 T6 k6 => ?_⟩
            walk_at "cg"
            exact q _ (.diff us) _ (.tup (by assumption) (.cons (.str _) (.cons (intsT_im (by walk_at "cg h")) .nil))) ⟨⟨by omega, by omega⟩, f6⟩ (by walk_at "cg h") (by walk_at "cg kp")
          · -- row, one unknown
            walk_at "cg"
            refine ⟨t, c, m, rfl, by walk_at "cg h", by omega, by omega, fun p2 ts H7 I7 f7 T7 k7 => ?_⟩
            walk_at "cg"
            exact q _ (.row ts r _) _ (.tup (by assumption) (.cons (.str _) (.cons (by walk_at "cg h") (.cons (.str _) (.cons (.int _) .nil))))) ⟨f7.fit (by omega), hr3, by omega, by omega⟩ (by walk_at "cg h") (by walk_at "cg kp")
        · walk_at "cg"
          refine if_S (fun c5 => ?_) (fun c5 => ?_)
          · -- table
            walk_at "cg"
            refine ⟨t, c, m, 1, rfl, by walk_at "cg h", by omega, by omega, by omega, fun p us H6 S6 f6 u0 u1 T6 k6 => ?_⟩
            walk_at "cg"
            refine r_slA (n := 3) S6 fun p3 H7 S7 k7 => ?_
            have S7' : SqT K H7 p3 ((us.take 3).map V.int) := by rw [List.map_take]; exact S7
            have f7 : numFit m (us.take 3) := ⟨f6.1.sublist (List.take_sublist ..), fun u hu => f6.2 u (List.mem_of_mem_take hu)⟩
            have l7 : 1 ≤ (us.take 3).length ∧ (us.take 3).length ≤ 3 := by rw [List.length_take]; omega
            generalize us.take 3 = ws at S7' f7 l7
            have T7 : Tp t c H7 := T6.kp0 k7
            have K7 : Kp [t] H H7 := Kp.tr0 k7 (Kp.tr1 k6 K2)
            clear S7 k7 S6 k6 T6 K2 T2
            walk_at "cg"
            rename_i l H3 hl el kl d H4 d0 d1 T4 kd
            have nlt : l ≠ t := by walk_at "cg ne"
            have nlc : l ≠ c := by walk_at "cg ne"
            have fl : H l = none := by
              refine K7.free hl fun b hb => ?_
              rw [List.mem_singleton] at hb
              subst hb
              exact T7.it
            have K4 : Kp [t] H H4 := Kp.tr1 kd (Kp.tr0 kl K7)
            have E4 : H4 l = some (.lst []) := Kp.get1 kd nlt el
            have S4 : SqT K H4 p3 (ws.map V.int) := kd.tup (kl.tup S7')
            clear K7 T7 kl el kd S7'
            refine r_forR (fun i σ' H' => ∃ (rows : List (List Int)) (refs : List V) (x5 x6 x9 x10 x11 : Option V), σ' = [some (.ref t), some (.int m), some (.int dk), some (.str r.s), x5, x6, x9, some (.ref p3), some (.ref l), x10, x11] ∧ Tp t c H' ∧ Kp [t] H H' ∧ SqT K H' p3 (ws.map V.int) ∧ H' l = some (.lst refs) ∧ ImAll K H' refs (rows.map intsD) ∧
              (∀ x ∈ rows, x.length = ws.length ∧ entFit x) ∧ rows.length = i) ⟨[], [], _, _, _, _, _, rfl, T4, K4, S4, E4, .nil, (fun z hz => by cases hz), rfl⟩ ?_ ?_
            · clear T4 K4 E4 S4
              rintro i σ' H5 hi ⟨rows, refs, x5, x6, x9, x10, x11, rfl, T5, k5, S5, e5, A5, ok, hn⟩
              have hrl := mapLenP A5
              walk_at "cg"
              refine lcT_d S5 (imInts ws) PyData.int (fun _ z => -1000 ≤ z ∧ z ≤ 1000) T5 (by omega) (fun j b x H' R R' hb hx T' k' q' => ?_) (fun D H6 acc as hD eD hl2 hP hA T6 k6 => ?_)
              · walk_at "cg"
                exact q' _ _ _ (by omega) (.int _) (by walk_at "cg h") (by walk_at "cg kp")
              · have e6 := Kp.get1 k6 nlt e5
                have A6 := k6.imAll A5
                rw [hA.ints] at eD
                walk_at "cg"
                rename_i p9 H9 hp9 s9 k9 H10 e10 k10
                refine ⟨rows ++ [as], refs ++ [.ref p9], _, _, _, _, _, rfl, by walk_at "cg h", by walk_at "cg kp", by walk_at "cg h", e10, ?_, fun z hz => ?_, by simp [hn]⟩
                · rw [List.map_append]
                  exact (k10.imAll (k9.imAll A6)).snoc (k10.im (intsT_im s9))
                · rcases List.mem_append.mp hz with h | h
                  · exact ok z h
                  · rw [List.mem_singleton] at h
                    subst h
                    refine ⟨hl2, fun e he => ?_⟩
                    obtain ⟨j, hj⟩ := List.getElem?_of_mem he
                    obtain ⟨_, _, g⟩ := hP j e hj
                    exact g
            · clear T4 K4 E4 S4
              rintro σ' H5 ⟨rows, refs, x5, x6, x9, x10, x11, rfl, T5, k5, S5, e5, A5, ok, hn⟩
              walk_at "cg"
              exact q _ (.table ws rows) _ (.tup (by assumption) (.cons (.str _) (.cons (intsT_im (by walk_at "cg h")) (.cons (.tup (by walk_at "cg h") (by walk_at "cg h")) .nil)))) ⟨⟨⟨l7.1, by omega⟩, f7⟩, ⟨by omega, by omega⟩, ok⟩ (by walk_at "cg h") (by walk_at "cg kp")
          · walk_at "cg"
            refine if_S (fun c6 => ?_) (fun c6 => ?_)
            · -- element
              walk_at "cg"
              rename_i d H4 d0 d1 T4 kd
              refine lcR_d (K := K) PyData.int (fun _ z => -1000 ≤ z ∧ z ≤ 1000) T4 (by omega) (fun j H' R R' hj T' k' q' => ?_) (fun D H6 acc as hD eD hl2 hP hA T6 k6 => ?_)
              · walk_at "cg"
                exact q' _ _ _ (by omega) (.int _) (by walk_at "cg h") (by walk_at "cg kp")
              · rw [hA.ints] at eD
                walk_at "cg"
                refine q _ (.elem _ as _) _ (.tup (by assumption) (.cons (.str _) (.cons (.int _) (.cons (intsT_im (by walk_at "cg h")) (.cons (.int _) .nil))))) ⟨⟨⟨by assumption, by assumption⟩, by assumption, by assumption⟩, ⟨by omega, by omega⟩, fun e he => ?_⟩ (by walk_at "cg h") (by walk_at "cg kp")
                obtain ⟨j, hj⟩ := List.getElem?_of_mem he
                exact hP j e hj
            · walk_at "cg"
              refine if_S (fun c7 => ?_) (fun c7 => ?_)
              · -- times
                walk_at "cg"
                exact q _ (.times _ _ _) _ (.tup (by assumption) (.cons (.str _) (.cons (.int _) (.cons (.int _) (.cons (.int _) .nil))))) ⟨⟨by assumption, by assumption⟩, ⟨by assumption, by assumption⟩, by assumption, by assumption⟩ (by walk_at "cg h") (by walk_at "cg kp")
              · -- row
                walk_at "cg"
                refine ⟨t, c, m, rfl, by walk_at "cg h", by omega, by omega, fun p2 ts H7 I7 f7 T7 k7 => ?_⟩
                walk_at "cg"
                exact q _ (.row ts r _) _ (.tup (by assumption) (.cons (.str _) (.cons (by walk_at "cg h") (.cons (.str _) (.cons (.int _) .nil))))) ⟨f7.fit (by omega), hr3, by omega, by omega⟩ (by walk_at "cg h") (by walk_at "cg kp")

end
section
variable {P : Program} {w : World} {K : PySem.W.Frag} {mg : Str → Option Value} {base : Heap} {C_Model : Addr}
theorem ok_law_rel {f : Addr} {fd : FuncData} (F : Fun K "_law_rel" "_law_rel" s_law_rel f fd) (B : Bi K mg C_Model)  : FnOk P w K mg base CX0 1 f fd ["_law_relation", "_law_left", "_law_right_here"] spRel := by
  have nd := sc_law_rel.nd
  refine F.ok sc_law_rel ?len (fun cdv A outer s H vs Q E hr h => ?body)
  case len =>
    rintro vs H Q E ⟨r, a, b, rfl, _⟩
    rfl
  case body =>
    obtain ⟨r, a, b, rfl, q⟩ := h
    refine ⟨_, (pss_cons (ps_if (pt_cmpR op_eq (pv 0) pe_str (nomark _))
      (pss_one (ps_ret (pe_cmpR op_le (pv 1) (pv 2) (nomark _))))
      pss_nil)
      (pss_cons (ps_if (pt_cmpR op_eq (pv 0) pe_str (nomark _))
      (pss_one (ps_ret (pe_cmpR op_ge (pv 1) (pv 2) (nomark _))))
      pss_nil)
      (pss_one (ps_ret (pe_cmpR op_eq (pe_cmpR op_eq (pv 1) (pv 2) (nomark _)) (pe_cmpR op_eq (pv 0) pe_str (nomark _)) (nomark _)))))), ?_⟩
    try dsimp only [L2.cxOf, L2.Cx.nox, L2.Cx.wish]
    rw [st_law_rel]
    have e : Rel.h r a b = (match r with | .le => decide (a ≤ b) | .ge => decide (b ≤ a) | .eq => decide (decide (a = b) = true) | .ne => decide (decide (a = b) = false)) := by
      cases r <;> simp only [Rel.h] <;> rw [Bool.eq_iff_iff] <;> simp
    rw [e] at q
    cases r
    all_goals
      walk_at "cg"
      exact q
theorem ok_law_sum {f : Addr} {fd : FuncData} (F : Fun K "_law_sum" "_law_sum" s_law_sum f fd) (B : Bi K mg C_Model)  : FnOk P w K mg base CX0 1 f fd ["_law_terms_here", "_law_point_here"] (spSumF K) := by
  have nd := sc_law_sum.nd
  refine F.ok sc_law_sum ?len (fun cdv A outer s H vs Q E hr h => ?body)
  case len =>
    rintro vs H Q E ⟨p, q, ts, f, dom, rfl, _⟩
    rfl
  case body =>
    obtain ⟨p, q, ts, f, dom, rfl, hI, hP, hD, hT, k⟩ := h
    refine ⟨_, (pss_cons (ps_set (i := 2) nd rfl (Or.inl rfl) pe_int)
      (pss_cons (ps_for PassesOwn.never rfl (pi_tup (pv 0)) (pg_tup (n := 2) rfl (pgs_cons (pg_name (i := 3) nd rfl (Or.inl rfl)) (pgs_cons (pg_name (i := 4) nd rfl (Or.inl rfl)) pgs_nil)))
      (pss_one (ps_set (i := 2) nd rfl (Or.inl rfl) (pe_op op_add (pv 2) (pe_op op_mul (pv 4) (pe_ix (ixP K) (pv 1) (pv 3) (fun _ _ => rfl)))))))
      (pss_one (ps_ret (pv 2))))), ?_⟩
    try dsimp only [L2.cxOf, L2.Cx.nox, L2.Cx.wish]
    rw [st_law_sum]
    obtain ⟨xs, h1, h2⟩ := hI.open
    walk_at "cg"
    refine r_forTI [] h1 h2 (fun i σ' H' => ∃ x3 x4 : Option V, σ' = [some (.ref p), some (.ref q), some (.int (sumF (ts.take i) f)), x3, x4] ∧ H = H') ⟨_, _, rfl, rfl⟩ (fun i σ' H' ⟨_, _, _, e⟩ => e ▸ .refl) ?_ ?_
    · rintro i z x σ' H' hz hxd _ ⟨x3, x4, rfl, rfl⟩
      obtain ⟨px, rfl, hs⟩ := term_at hxd
      have hzt := hT z (List.mem_of_getElem? hz)
      walk_at "cg"
      refine r_pt hP (hD z (List.mem_of_getElem? hz)) ?_
      walk_at "cg"
      exact ⟨_, _, by rw [sumF_take f hz], rfl⟩
    · rintro σ' H' _ ⟨x3, x4, rfl, rfl⟩
      walk_at "cg"
      rw [List.take_length]
      exact k
theorem ok_law_lit {f : Addr} {fd : FuncData} (F : Fun K "_law_lit" "_law_lit" s_law_lit f fd) (B : Bi K mg C_Model) (D_law_rel : Is P w K mg base CX0 1 "_law_rel" ["_law_relation", "_law_left", "_law_right_here"] spRel) : FnOk P w K mg base CX0 2 f fd ["_law_literal_here", "_law_point_here"] (spLawLit K) := by
  have nd := sc_law_lit.nd
  refine F.ok sc_law_lit ?len (fun cdv A outer s H vs Q E hr h => ?body)
  case len =>
    rintro vs H Q E ⟨p, q, l, f, dom, rfl, _⟩
    rfl
  case body =>
    obtain ⟨p, q, l, f, dom, rfl, hL, hP, hD, k⟩ := h
    refine ⟨_, (pss_one (ps_ret (pe_is D_law_rel (hr.mono (by decide)) rfl pass0 (pa_cons (pe_ix (ixT K) (pv 0) pe_int (fun _ _ => rfl)) (pa_cons (pe_ix (ixP K) (pv 1) (pe_ix (ixT K) (pv 0) pe_int (fun _ _ => rfl)) (fun _ _ => rfl)) (pa_cons (pe_ix (ixT K) (pv 0) pe_int (fun _ _ => rfl)) pa_nil)))))), ?_⟩
    try dsimp only [L2.cxOf, L2.Cx.nox, L2.Cx.wish]
    rw [st_law_lit]
    walk_at "cg"
    refine r_pt hP hD ?_
    walk_at "cg"
    exact k
theorem ok_law_holds {f : Addr} {fd : FuncData} (F : Fun K "_law_holds" "_law_holds" s_law_holds f fd) (B : Bi K mg C_Model) (D_law_rel : Is P w K mg base CX0 1 "_law_rel" ["_law_relation", "_law_left", "_law_right_here"] spRel) (D_law_sum : Is P w K mg base CX0 1 "_law_sum" ["_law_terms_here", "_law_point_here"] (spSumF K)) (D_law_lit : Is P w K mg base CX0 2 "_law_lit" ["_law_literal_here", "_law_point_here"] (spLawLit K)) : FnOk P w K mg base CX0 3 f fd ["_law_body_here", "_law_point_here"] (spHolds K) := by
  have nd := sc_law_holds.nd
  refine F.ok sc_law_holds ?len (fun cdv A outer s H vs Q E hr h => ?body)
  case len =>
    rintro vs H Q E ⟨p, q, b, f, dom, rfl, _⟩
    rfl
  case body =>
    obtain ⟨p, q, b, f, dom, rfl, hb, bd, hP, hF, hD, k⟩ := h
    refine ⟨_, (pss_cons (ps_if (pt_cmpR op_eq (pe_ix (ixT K) (pv 0) pe_int (fun _ _ => rfl)) pe_str (nomark _))
      (pss_one (ps_ret (pe_is D_law_rel (hr.mono (by decide)) rfl pass0 (pa_cons (pe_ix (ixT K) (pv 0) pe_int (fun _ _ => rfl)) (pa_cons (pe_is D_law_sum (hr.mono (by decide)) rfl pass0 (pa_cons (pe_ix (ixT K) (pv 0) pe_int (fun _ _ => rfl)) (pa_cons (pv 1) pa_nil))) (pa_cons (pe_ix (ixT K) (pv 0) pe_int (fun _ _ => rfl)) pa_nil))))))
      pss_nil)
      (pss_cons (ps_if (pt_cmpR op_eq (pe_ix (ixT K) (pv 0) pe_int (fun _ _ => rfl)) pe_str (nomark _))
      (pss_one (ps_ret (pe_cmpR (inS K) pe_bl (by exact pe_lc (own := [("_law_literal_here", 5)]) (g := (gName 5)) (tt := tYes) rfl nd (pi_tup (pe_ix (ixT K) (pv 0) pe_int (fun _ _ => rfl))) (blkOk_by (N := ["_law_body_here", "_law_point_here", "_law_seen", "_law_v", "_law_at", "_law_literal_here"]) (sc := defScope s_law_holds) (by decide +kernel)) (fun _ _ _ _ _ => (pg_name (i := 5) nd rfl (Or.inl rfl))) (fun _ _ _ _ _ => pts_nil) (fun _ _ _ _ _ => (pe_is D_law_lit (hr.mono (by decide)) rfl pass0 (pa_cons (pv 5) (pa_cons (pv 1) pa_nil))))) rfl)))
      pss_nil)
      (pss_cons (ps_if (pt_cmpR op_eq (pe_ix (ixT K) (pv 0) pe_int (fun _ _ => rfl)) pe_str (nomark _))
      (pss_one (ps_ret (pe_or (pe_not (pe_is D_law_lit (hr.mono (by decide)) rfl pass0 (pa_cons (pe_ix (ixT K) (pv 0) pe_int (fun _ _ => rfl)) (pa_cons (pv 1) pa_nil)))) (pe_one (pe_is D_law_rel (hr.mono (by decide)) rfl pass0 (pa_cons (pe_ix (ixT K) (pv 0) pe_int (fun _ _ => rfl)) (pa_cons (pe_is D_law_sum (hr.mono (by decide)) rfl pass0 (pa_cons (pe_ix (ixT K) (pv 0) pe_int (fun _ _ => rfl)) (pa_cons (pv 1) pa_nil))) (pa_cons (pe_ix (ixT K) (pv 0) pe_int (fun _ _ => rfl)) pa_nil))))))))
      pss_nil)
      (pss_cons (ps_if (pt_cmpR op_eq (pe_ix (ixT K) (pv 0) pe_int (fun _ _ => rfl)) pe_str (nomark _))
      (pss_cons (ps_set (i := 2) nd rfl (Or.inl rfl) (pe_lst pa_nil))
      (pss_cons (ps_for PassesOwn.never rfl (pi_tup (pe_ix (ixT K) (pv 0) pe_int (fun _ _ => rfl))) (pg_name (i := 3) nd rfl (Or.inl rfl))
      (pss_cons (ps_if (pt_cmpR (inS K) (pe_ix (ixP K) (pv 1) (pv 3) (fun _ _ => rfl)) (pv 2) rfl)
      (pss_one (ps_ret pe_bl))
      pss_nil)
      (pss_one (ps_expr (pe_bm PySem.F.plainAttrs_list PySem.F.slot_list_append PySem.F.type_list_append mt_append (pv 2) (pa_cons (pe_ix (ixP K) (pv 1) (pv 3) (fun _ _ => rfl)) pa_nil))))))
      (pss_one (ps_ret pe_bl))))
      pss_nil)
      (pss_cons (ps_if (pt_cmpR op_eq (pe_ix (ixT K) (pv 0) pe_int (fun _ _ => rfl)) pe_str (nomark _))
      (pss_one (ps_ret (pe_cmpR (inDT K hr) (pe_callTy (cgTuple K) (by rfl) B.n_tuple (by decide +kernel) (pa_cons (by exact pe_lc (own := [("_law_v", 3)]) (g := (gName 3)) (tt := tYes) rfl nd (pi_tup (pe_ix (ixT K) (pv 0) pe_int (fun _ _ => rfl))) (blkOk_by (N := ["_law_body_here", "_law_point_here", "_law_seen", "_law_v", "_law_at", "_law_literal_here"]) (sc := defScope s_law_holds) (by decide +kernel)) (fun _ _ _ _ _ => (pg_name (i := 3) nd rfl (Or.inl rfl))) (fun _ _ _ _ _ => pts_nil) (fun _ _ _ _ _ => (pe_ix (ixP K) (pv 1) (pv 3) (fun _ _ => rfl)))) pa_nil)) (pe_ix (ixT K) (pv 0) pe_int (fun _ _ => rfl)) rfl)))
      pss_nil)
      (pss_cons (ps_if (pt_cmpR op_eq (pe_ix (ixT K) (pv 0) pe_int (fun _ _ => rfl)) pe_str (nomark _))
      (pss_cons (ps_set (i := 4) nd rfl (Or.inl rfl) (pe_ix (ixP K) (pv 1) (pe_ix (ixT K) (pv 0) pe_int (fun _ _ => rfl)) (fun _ _ => rfl)))
      (pss_one (ps_ret (pe_and (pe_cmpR op_ge (pv 4) pe_int (nomark _)) (pe_and (pe_cmpR op_lt (pv 4) (pe_callB (cgLen K) (by rfl) B.n_len PySem.boot_len (pa_cons (pe_ix (ixT K) (pv 0) pe_int (fun _ _ => rfl)) pa_nil)) (nomark _)) (pe_one (pe_cmpR op_eq (pe_ix (ixT K) (pe_ix (ixT K) (pv 0) pe_int (fun _ _ => rfl)) (pv 4) (fun _ _ => rfl)) (pe_ix (ixP K) (pv 1) (pe_ix (ixT K) (pv 0) pe_int (fun _ _ => rfl)) (fun _ _ => rfl)) (nomark _))))))))
      pss_nil)
      (pss_one (ps_ret (pe_cmpR op_eq (pe_op op_mul (pe_ix (ixP K) (pv 1) (pe_ix (ixT K) (pv 0) pe_int (fun _ _ => rfl)) (fun _ _ => rfl)) (pe_ix (ixP K) (pv 1) (pe_ix (ixT K) (pv 0) pe_int (fun _ _ => rfl)) (fun _ _ => rfl))) (pe_ix (ixP K) (pv 1) (pe_ix (ixT K) (pv 0) pe_int (fun _ _ => rfl)) (fun _ _ => rfl)) (nomark _)))))))))), ?_⟩
    try dsimp only [L2.cxOf, L2.Cx.nox, L2.Cx.wish]
    rw [st_law_holds]
    cases b with
    | row ts r n =>
      obtain ⟨q1, s1, i1⟩ := b_row hb
      walk_at "cg"
      refine spSumF_i i1 hP (fun z hz => hD _ (List.mem_map.mpr ⟨z, hz, rfl⟩)) bd.1 ?_
      walk_at "cg"
      exact k _ .refl
    | any ls =>
      obtain ⟨q1, s1, i1⟩ := b_any hb
      obtain ⟨xs, s2, i2⟩ := Im.open i1
      walk_at "cg"
      refine lcT_b (xs := xs) (as := ls) (d := Lit.d) (by walk_at "cg h") (by walk_at "cg h") (fun l => l.h f) (by have : ls.length ≤ 62 := bd; omega) (fun i l x H' R R' hl k2 hx q2 => ?_) (fun D H' hD' eD k2 => ?_)
      · obtain ⟨px, rfl, hs⟩ := lit_at hx
        walk_at "cg"
        refine ⟨px, q, l, f, dom, rfl, hs, hP.kp0 k2, hD _ (List.mem_map.mpr ⟨l, List.mem_of_getElem? hl, rfl⟩), ?_⟩
        walk_at "cg"
        exact q2 _ .refl
      · refine r_inL (b := ls.any fun l => l.h f) eD rfl (flat_bls _) ?_ ?_
        · show inV _ _ = _
          rw [inV_true, List.any_map]
          rfl
        · exact k _ (by walk_at "cg kp")
    | when l ts r n =>
      obtain ⟨q1, q2, s1, L, i1⟩ := b_when hb
      walk_at "cg"
      refine ⟨q1, q, l, f, dom, rfl, L, hP, hD _ List.mem_cons_self, ?_⟩
      walk_at "cg"
      cases e2 : l.h f
      · walk_at "cg"
        have q := k H .refl
        simp only [Body.h, e2, Bool.not_false, Bool.true_or] at q
        exact q
      · walk_at "cg"
        refine spSumF_i i1 hP (fun z hz => hD _ (List.mem_cons_of_mem _ (List.mem_map.mpr ⟨z, hz, rfl⟩))) bd.1 ?_
        walk_at "cg"
        have q := k H .refl
        simp only [Body.h, e2, Bool.not_true, Bool.false_or] at q
        exact q
    | diff us =>
      obtain ⟨q1, s1, s2⟩ := b_diff hb
      have few : us.length ≤ 62 := bd
      walk_at "cg"
      rename_i l H1 hl el kl
      refine r_forT (us.map V.int) (fun i σ' H' => ∃ x4 : Option V, σ' = [some (.ref p), some (.ref q), some (.ref l), x4, none, none] ∧ Kp [] H H' ∧ H' l = some (.lst (((us.take i).map f).map V.int)) ∧ ((us.take i).map f).Nodup)
        ⟨none, rfl, kl, el, List.nodup_nil⟩ (fun i σ' H' ⟨_, _, k2, _⟩ => k2.tup s2) ?_ ?_
      · rintro i x σ' H' hx ⟨x4, rfl, k2, e2, nd⟩
        rw [List.getElem?_map] at hx
        cases hv : us[i]? with
        | none =>
          rw [hv] at hx
          cases hx
        | some v =>
          rw [hv] at hx
          cases hx
          have hi : i < us.length := (List.getElem?_eq_some_iff.mp hv).1
          have hp := hP.kp0 k2
          have hd := hD v (List.mem_of_getElem? hv)
          have hll : (((us.take i).map f).map V.int).length ≤ 62 := by simp; omega
          walk_at "cg"
          refine r_pt hp hd ?_
          walk_at "cg"
          refine r_inL e2 rfl (flat_ints _) (inV_ints_t _ _) ?_
          walk_at "cg"
          refine if_S (fun hm => ?_) (fun hm => ?_)
          · walk_at "cg"
            have q := k _ k2
            have e : Body.h f (.diff us) = false := by
              simp only [Body.h]
              refine decide_eq_false fun h => ?_
              have e2 : us = us.take i ++ v :: us.drop (i + 1) := by
                obtain ⟨hi, rfl⟩ := List.getElem?_eq_some_iff.mp hv
                rw [List.getElem_cons_drop, List.take_append_drop]
              rw [e2, List.map_append, List.nodup_append] at h
              exact h.2.2 (f v) hm (f v) (by simp) rfl
            rw [e] at q
            exact q
          · walk_at "cg"
            refine r_pt hp hd ?_
            walk_at "cg"
            rename_i H5 e5 k5
            refine ⟨_, rfl, Kp.trN k5 k2 hl, ?_, ?_⟩
            · rw [e5, map_take_snoc hv, List.map_append]
              rfl
            · rw [map_take_snoc hv, List.nodup_append]
              exact ⟨nd, by simp, fun a ha b hb => by rw [List.mem_singleton] at hb; subst hb; exact fun e => hm (e ▸ ha)⟩
      · rintro σ' H' ⟨x4, rfl, k2, e2, nd⟩
        rw [List.length_map, List.take_length] at nd
        walk_at "cg"
        have q := k _ k2
        have e : Body.h f (.diff us) = true := by
          simp only [Body.h]
          exact decide_eq_true nd
        rw [e] at q
        exact q
    | table us rows =>
      obtain ⟨q1, q2, s1, s2, i2⟩ := b_table hb
      have few : us.length ≤ 62 := bd.1
      walk_at "cg"
      refine lcT_i (xs := us.map V.int) (as := us) (d := PyData.int) (by walk_at "cg h") (imInts us) f (by omega) (fun i v x H' R R' hv k2 hx q2 => ?_) (fun D H' hD' eD k2 => ?_)
      · obtain rfl := hx.flat (y := .int v) rfl
        walk_at "cg"
        refine r_pt (hP.kp0 k2) (hD _ (List.mem_of_getElem? hv)) ?_
        walk_at "cg"
        exact q2 _ .refl
      · walk_at "cg"
        refine ⟨intsD (us.map f), rows.map intsD, Im.dp (intsT_im (by assumption)), Im.dp (by walk_at "cg h"), (intsD_shp _).ok, (rowsD_shp _).ok, ?_⟩
        have e : ((rows.map intsD).any fun z => PyData.eqv z (intsD (us.map f))) = Body.h f (.table us rows) := by
          rw [any_in intsD_eqv, Bool.eq_iff_iff]
          simp [Body.h]
        rw [e]
        exact k _ (by walk_at "cg kp")
    | elem x es y =>
      obtain ⟨q1, s1, s2⟩ := b_elem hb
      have few : es.length ≤ 1000 := bd
      walk_at "cg"
      refine r_pt hP (hD x (by simp [Body.vars])) ?_
      walk_at "cg"
      refine if_S (fun h0 => ?_) (fun h0 => ?_)
      · walk_at "cg"
        refine if_S (fun h1 => ?_) (fun h1 => ?_)
        · rw [List.length_map] at h1
          walk_at "cg"
          refine r_ixT s2 (atI_ints h0 h1) ?_
          walk_at "cg"
          refine r_pt hP (hD y (by simp [Body.vars])) ?_
          walk_at "cg"
          have q := k H .refl
          simp only [Body.h, decide_eq_true (show 0 ≤ f x from h0), decide_eq_true h1, Bool.true_and] at q
          exact q
        · rw [List.length_map] at h1
          walk_at "cg"
          have q := k H .refl
          simp only [Body.h, decide_eq_true (show 0 ≤ f x from h0), decide_eq_false h1, Bool.true_and, Bool.false_and] at q
          exact q
      · walk_at "cg"
        have q := k H .refl
        simp only [Body.h, decide_eq_false (show ¬ 0 ≤ f x from h0), Bool.false_and] at q
        exact q
    | times x y z =>
      have s1 := b_times hb
      have b1 := hF x (hD x (by simp [Body.vars]))
      walk_at "cg"
      refine r_pt hP (hD x (by simp [Body.vars])) ?_
      walk_at "cg"
      refine r_pt hP (hD y (by simp [Body.vars])) ?_
      walk_at "cg"
      refine r_pt hP (hD z (by simp [Body.vars])) ?_
      walk_at "cg"
      exact k _ .refl

theorem ok_law_world {f : Addr} {fd : FuncData} (F : Fun K "_law_world" "_law_world" s_law_world f fd) (B : Bi K mg C_Model) (D_law_terms : Is P w K mg base CX0 2 "_law_terms" ["_law_tape_here", "_law_many"] (spLawTerms K)) (D_law_draw : Is P w K mg base CX0 1 "_law_draw" ["_law_tape_here", "_law_many"] spDraw) (D_law_body : Is P w K mg base CX0 3 "_law_body" ["_law_tape_here", "_law_many"] (spLawBody K)) : FnOk P w K mg base CX0 4 f fd ["_law_tape_here", "_law_most", "_law_width", "_law_bodies"] (spWorld K) := by
  have nd := sc_law_world.nd
  refine F.ok sc_law_world ?len (fun cdv A outer s H vs Q E hr h => ?body)
  case len =>
    rintro vs H Q E ⟨t, c, most, width, bodies, rfl, _⟩
    rfl
  case body =>
    obtain ⟨t, c, most, width, bodies, rfl, T, m0, m1, w0, w1, b0, b1, q⟩ := h
    refine ⟨_, (pss_cons (ps_set (i := 4) nd rfl (Or.inl rfl) (pe_lst pa_nil))
      (pss_cons (ps_for PassesOwn.never rfl (pi_range1 rfl B.n_range (pa_cons (pe_op op_add pe_int (pe_is D_law_draw (hr.mono (by decide)) rfl pass0 (pa_cons (pv 0) (pa_cons (pv 1) pa_nil)))) pa_nil)) (pg_name (i := 5) nd rfl (Or.inl rfl))
      (pss_cons (ps_set (i := 6) nd rfl (Or.inl rfl) (pe_op op_sub (pe_is D_law_draw (hr.mono (by decide)) rfl pass0 (pa_cons (pv 0) (pa_cons pe_int pa_nil))) pe_int))
      (pss_one (ps_expr (pe_bm PySem.F.plainAttrs_list PySem.F.slot_list_append PySem.F.type_list_append mt_append (pv 4) (pa_cons (pe_tup (pa_cons (pe_ix (ixL K) (pe_lst (pa_cons pe_str (pa_cons pe_str (pa_cons pe_str (pa_cons pe_str (pa_cons pe_str pa_nil)))))) (pv 5) (fun _ _ => rfl)) (pa_cons (pv 6) (pa_cons (pe_op op_add (pv 6) (pe_is D_law_draw (hr.mono (by decide)) rfl pass0 (pa_cons (pv 0) (pa_cons (pv 2) pa_nil)))) pa_nil)))) pa_nil))))))
      (pss_cons (ps_set (i := 7) nd rfl (Or.inr rfl) (pe_callB (cgLen K) (by rfl) B.n_len PySem.boot_len (pa_cons (pv 4) pa_nil)))
      (pss_cons (ps_setLc (i := 8) (own := [("_law_k", 10)]) (g := (gName 10)) (tt := tYes) rfl nd rfl rfl (sw_true rfl rfl rfl (by decide +kernel)) (pi_range1 rfl B.n_range (pa_cons (pe_is D_law_draw (hr.mono (by decide)) rfl pass0 (pa_cons (pv 0) (pa_cons (pe_op op_add (pv 3) pe_int) pa_nil))) pa_nil)) (blkOk_by (N := ["_law_tape_here", "_law_most", "_law_width", "_law_bodies", "_law_unknowns", "_law_v", "_law_low", "_law_many", "_law_found", "_law_goal", "_law_k"]) (sc := defScope s_law_world) (by decide +kernel)) (fun _ _ _ _ _ => (pg_name (i := 10) nd rfl (Or.inl rfl))) (fun _ _ _ _ _ => pts_nil) (fun _ _ _ _ _ => (pe_tup (pa_cons (pe_op cg_addS pe_str (pe_callTy cg_strI (by rfl) B.n_str (by decide +kernel) (pa_cons (pv 10) pa_nil))) (pa_cons (pe_is D_law_body (hr.mono (by decide)) rfl pass0 (pa_cons (pv 0) (pa_cons (pv 7) pa_nil))) pa_nil)))))
      (pss_cons (ps_set (i := 9) nd rfl (Or.inl rfl) (pe_tup (pa_cons (pe_ix (ixL K) (pe_lst (pa_cons pe_str (pa_cons pe_str pa_nil))) (pe_is D_law_draw (hr.mono (by decide)) rfl pass0 (pa_cons (pv 0) (pa_cons pe_int pa_nil))) (fun _ _ => rfl)) (pa_cons (pe_is D_law_terms (hr.mono (by decide)) rfl pass0 (pa_cons (pv 0) (pa_cons (pv 7) pa_nil))) (pa_cons (pe_op op_sub (pe_is D_law_draw (hr.mono (by decide)) rfl pass0 (pa_cons (pv 0) (pa_cons pe_int pa_nil))) pe_int) pa_nil)))))
      (pss_cons (ps_if (pt_cmpR op_eq (pe_is D_law_draw (hr.mono (by decide)) rfl pass0 (pa_cons (pv 0) (pa_cons pe_int pa_nil))) pe_int (nomark _))
      (pss_one (ps_set (i := 9) nd rfl (Or.inl rfl) (pe_tup (pa_cons pe_str (pa_cons (pe_tup pa_nil) (pa_cons pe_int pa_nil))))))
      pss_nil)
      (pss_one (ps_ret (pe_lst (pa_cons (pv 4) (pa_cons (pv 8) (pa_cons (pv 9) pa_nil)))))))))))), ?_⟩
    try dsimp only [L2.cxOf, L2.Cx.nox, L2.Cx.wish]
    rw [st_law_world]
    have bm : most < bigB := by
      have e : (1000 : Int) < bigB := by decide
      omega
    have bw : width < bigB := by
      have e : (1000 : Int) < bigB := by decide
      omega
    have bb : bodies + 1 < bigB := by
      have e : (1000 : Int) < bigB := by decide
      omega
    walk_at "cg"
    rename_i l H1 hl el kl d H2 d0 d1 T2 k2
    have nlt : l ≠ t := by walk_at "cg ne"
    have nlc : l ≠ c := by walk_at "cg ne"
    have e2 := Kp.get1 k2 nlt el
    have K2 : Kp [t] H H2 := by walk_at "cg kp"
    clear kl k2 el T
    refine r_forR (fun i σ' H' => ∃ (us : List (Str × Int × Int)) (refs : List V) (x5 x6 x7 x8 x9 x10 : Option V), σ' = [some (.ref t), some (.int most), some (.int width), some (.int bodies), some (.ref l), x5, x6, none, none, none, none] ∧ Tp t c H' ∧ Kp [t] H H' ∧ H' l = some (.lst refs) ∧ ImAll K H' refs (us.map unD) ∧
      us.length = i ∧ us.map (·.1) = (List.range i).map nmS ∧ ∀ u ∈ us, -2 ≤ u.2.1 ∧ u.2.1 ≤ 2 ∧ u.2.1 ≤ u.2.2 ∧ u.2.2 < u.2.1 + width) ⟨[], [], none, none, none, none, none, none, rfl, T2, K2, e2, .nil, rfl, rfl, fun u h => by cases h⟩ ?_ ?_
    · clear T2 K2 e2
      rintro i σ' H3 hi ⟨us, refs, x5, x6, x7, x8, x9, x10, rfl, T3, k3, e3, A3, hn, nm, ok⟩
      have hrl := mapLenP A3
      walk_at "cg"
      rename_i dl Hl dl0 dl1 Tl kl2 pl Hp hpl epl kpl
      refine ix_nm (i := i) (by walk_at "cg h") (by omega) ?_
      walk_at "cg"
      rename_i dw Hw dw0 dw1 Tw kw pt Ht hpt spt kpt Hf ef kf
      refine ⟨us ++ [(nmS i, dl - 2, dl - 2 + dw)], _, _, _, none, none, none, none, rfl, by walk_at "cg h", by walk_at "cg kp", by assumption, ?_, by simp [hn], ?_, fun u hu => ?_⟩
      · rw [List.map_append]
        exact ImAll.snoc (by walk_at "cg h") (.tup (by walk_at "cg h") (.cons (.str _) (.cons (.int _) (.cons (.int _) .nil))))
      · rw [List.map_append, nm, List.range_succ, List.map_append]
        rfl
      · rcases List.mem_append.mp hu with h | h
        · exact ok u h
        · rw [List.mem_singleton] at h
          subst h
          simp only
          omega
    · clear T2 K2 e2
      rintro σ' H3 ⟨us, refs, x5, x6, x7, x8, x9, x10, rfl, T3, k3, e3, A3, hn, nm, ok⟩
      have hrl := mapLenP A3
      have hl5 : 1 ≤ us.length ∧ (us.length : Int) ≤ most := by omega
      walk_at "cg"
      rename_i dn H4 dn0 dn1 T4 k4
      refine lcR_d (K := K) labD (fun i (a : Str × Body) => a.1 = labC (i : Int) ∧ a.2.fit us.length) T4 (by omega) (fun j H' R R' hj T' k' q' => ?_) (fun D H5 acc fs hD eD hfl hP hA T5 k5 => ?_)
      · have hj10 : (0 : Int) ≤ 0 + (j : Int) ∧ (0 : Int) + (j : Int) < 10 := by omega
        have lo := labC_ok hj10.1 hj10.2
        walk_at "cg"
        refine r_strI hj10.1 (by omega) ?_
        walk_at "cg"
        refine r_addS (by omega) ?_
        walk_at "cg"
        refine ⟨t, c, _, rfl, T', by omega, by omega, fun pb b H6 I6 fb T6 k6 => ?_⟩
        walk_at "cg"
        refine q' _ _ (labC (j : Int), b) ⟨rfl, by rw [← hrl]; exact fb⟩ ?_ (by walk_at "cg h") (by walk_at "cg kp")
        refine .tup (ds := [.str (labC (j : Int)), b.d]) (xs := [.str (labC (0 + (j : Int))), .ref pb]) (by assumption) ?_
        rw [Int.zero_add]
        exact .cons (.str _) (.cons (by walk_at "cg h") .nil)
      · have nDt : D ≠ t := by walk_at "cg ne"
        have nDc : D ≠ c := by walk_at "cg ne"
        have e5 := Kp.get1 k5 nlt (Kp.get1 k4 nlt e3)
        have A5 := k5.imAll (k4.imAll A3)
        have K5 : Kp [t] H H5 := Kp.tr1 k5 (Kp.tr1 k4 k3)
        have fl : H l = none := by assumption
        have fD : H D = none := (Kp.tr1 k4 k3).free hD fun b hb => by
          rw [List.mem_singleton] at hb
          subst hb
          exact T4.it
        clear k3 k4 k5 T3 T4 e3 A3
        have fin : ∀ (w pg : Addr) (g : Goal) (H9 : Hp), H w = none → w ≠ l ∧ w ≠ D → H9 w = some (.lst [.ref l, .ref D, .ref pg]) → Im K H9 (.ref pg) g.d → tmLaw us.length g.ts → -2 ≤ g.c → g.c ≤ 2 → Kp [t] H5 H9 → Tp t c H9 → Q (.ref w) H9 := fun w pg g H9 fw dw ew ig g1 g2 g3 k9 T9 => by
          refine q ⟨w, l, D⟩ ⟨us, fs, g⟩ H9 ⟨⟨pg, ew, ig⟩, ⟨_, Kp.get1 k9 nlt e5, k9.imAll A5⟩, ⟨_, Kp.get1 k9 nDt eD, k9.imAll hA⟩, dw⟩ ⟨hl5.1, by show us.length ≤ 60; omega, fun u hu => ?_, ?_, fun b hb => ?_, ?_, fun b hb => ?_, by show fs.length ≤ 200; omega, ⟨g1.fit (by omega), by show -1000000000 ≤ g.c; omega, by show g.c ≤ 1000000000; omega⟩⟩ ⟨hl5.2, fun u hu => ?_, by show (fs.length : Int) ≤ bodies; omega, ⟨g1, g2, g3⟩, fun b hb => ?_, fun u hu => ?_⟩ (fun x hx => ?_) T9 (Kp.tr1 k9 K5)
          · have o := ok u hu
            have hm : u.1 ∈ (List.range us.length).map nmS := by
              rw [hn, ← nm]
              exact List.mem_map.mpr ⟨u, hu, rfl⟩
            obtain ⟨i, hi, e⟩ := List.mem_map.mp hm
            rw [List.mem_range] at hi
            have n := nmS_ok i (by omega)
            rw [e] at n
            exact ⟨n.1, by omega, by omega, by omega, by omega⟩
          · show (us.map (·.1)).Nodup
            rw [nm, ← hn]
            exact nodup_map_range fun i hi j hj => nmS_inj i (by omega) j (by omega)
          · have hb : b ∈ fs := hb
            obtain ⟨j, hj⟩ := List.getElem?_of_mem hb
            have hjl := (List.getElem?_eq_some_iff.mp hj).1
            obtain ⟨e, _⟩ := hP j b hj
            have lo := labC_ok (k := (j : Int)) (by omega) (by omega)
            rw [e]
            exact ⟨lo.1, by omega⟩
          · show (fs.map (·.1)).Nodup
            refine List.pairwise_iff_getElem.mpr fun i j hi hj hij e => ?_
            rw [List.length_map] at hi hj
            rw [List.getElem_map, List.getElem_map] at e
            have a := (hP i _ (List.getElem?_eq_getElem hi)).1
            have b := (hP j _ (List.getElem?_eq_getElem hj)).1
            rw [a, b] at e
            have := labC_inj (by omega) (by omega) (by omega) (by omega) e
            omega
          · have hb : b ∈ fs := hb
            obtain ⟨j, hj⟩ := List.getElem?_of_mem hb
            exact (hP j b hj).2
          · have o := ok u hu
            exact ⟨o.1, o.2.1, o.2.2.2⟩
          · have hb : b ∈ fs := hb
            obtain ⟨j, hj⟩ := List.getElem?_of_mem hb
            have hjl := (List.getElem?_eq_some_iff.mp hj).1
            exact ⟨j, by omega, by omega, (hP j b hj).1⟩
          · have hm : u.1 ∈ (List.range us.length).map nmS := by
              rw [hn, ← nm]
              exact List.mem_map.mpr ⟨u, hu, rfl⟩
            obtain ⟨i, hi, e⟩ := List.mem_map.mp hm
            rw [List.mem_range] at hi
            exact ⟨i, by omega, e.symm⟩
          · simp only [WA.all, List.mem_cons, List.not_mem_nil, or_false] at hx
            rcases hx with rfl | rfl | rfl
            · exact fw
            · exact fl
            · exact fD
        walk_at "cg"
        refine ix_mm (by walk_at "cg h") (by assumption) (by assumption) fun mx => ?_
        walk_at "cg"
        refine ⟨t, c, _, rfl, by walk_at "cg h", by omega, by omega, fun pt ts H7 I7 f7 T7 k7 => ?_⟩
        rw [hrl] at f7
        walk_at "cg"
        rename_i d8 H8 d80 d81 T8 k8 pg H9 hpg sg k9 d10 H10 d100 d101 T10 k10
        refine if_S (fun c0 => ?_) (fun c0 => ?_)
        · walk_at "cg"
          rename_i w H13 hw ew k13
          exact fin w _ goal0 H13 (by walk_at "cg fr") ⟨by walk_at "cg ne", by walk_at "cg ne"⟩ ew (.tup (by walk_at "cg h") (.cons (.str _) (.cons (.tup (by walk_at "cg h") .nil) (.cons (.int _) .nil)))) ⟨(fun z hz => by cases hz), List.Pairwise.nil, by show ((0 : Nat) : Int) ≤ _; omega⟩ (by decide) (by decide) (by walk_at "cg kp") (by walk_at "cg h")
        · walk_at "cg"
          rename_i w H13 hw ew k13
          exact fin w _ ⟨mx, ts, d8 - 2⟩ H13 (by walk_at "cg fr") ⟨by walk_at "cg ne", by walk_at "cg ne"⟩ ew (.tup (by walk_at "cg h") (.cons (.str _) (.cons (by walk_at "cg h") (.cons (.int _) .nil)))) f7 (by show -2 ≤ d8 - 2; omega) (by show d8 - 2 ≤ 2; omega) (by walk_at "cg kp") (by walk_at "cg h")
theorem ok_law_model {f : Addr} {fd : FuncData} (F : Fun K "_law_model" "_law_model" s_law_model f fd) (B : Bi K mg C_Model) (D_Model___init__ : IsI P w K mg base CX0 2 C_Model "Model" ["self", "unknowns"] (spInit K C_Model)) (D_Model_aim : IsM P w K mg base CX0 2 C_Model "aim" ["self", "goal"] (spAim K C_Model)) (D_Model_put : IsM P w K mg base CX0 4 C_Model "put" ["self", "label", "body"] (spPut K C_Model)) : FnOk P w K mg base CX0 5 f fd ["_law_world_here"] (spLawModel K C_Model) := by
  have nd := sc_law_model.nd
  obtain ⟨f_Model___init__, fd_Model___init__, G_Model___init__, m_Model___init__, b_Model___init__, g_Model___init__⟩ := D_Model___init__.ex
  obtain ⟨f_Model_aim, fd_Model_aim, G_Model_aim, m_Model_aim, b_Model_aim⟩ := D_Model_aim.ex
  obtain ⟨f_Model_put, fd_Model_put, G_Model_put, m_Model_put, b_Model_put⟩ := D_Model_put.ex
  refine F.ok sc_law_model ?len (fun cdv A outer s H vs Q E hr h => ?body)
  case len =>
    rintro vs H Q E ⟨a, M, rfl, _⟩
    rfl
  case body =>
    obtain ⟨a, M, rfl, hW, ok, k⟩ := h
    refine ⟨_, (pss_cons (ps_set (i := 1) nd rfl (Or.inl rfl) (pe_make m_Model___init__ G_Model___init__ (hr.mono (by decide)) rfl g_Model___init__ b_Model___init__ .nil pass0 (pa_cons (pe_callTy (cgList K) (by rfl) B.n_list (by decide +kernel) (pa_cons (pe_ix (ixL K) (pv 0) pe_int (fun _ _ => rfl)) pa_nil)) pa_nil)))
      (pss_cons (ps_for PassesOwn.never rfl ((piLst K) (pe_ix (ixL K) (pv 0) pe_int (fun _ _ => rfl))) (pg_tup (n := 2) rfl (pgs_cons (pg_name (i := 2) nd rfl (Or.inl rfl)) (pgs_cons (pg_name (i := 3) nd rfl (Or.inl rfl)) pgs_nil)))
      (pss_one (ps_expr (pe_meth (pv 1) D_Model_put.cl m_Model_put G_Model_put (hr.mono (by decide)) b_Model_put .nil pass0 (pa_cons (pv 2) (pa_cons (pv 3) pa_nil))))))
      (pss_cons (ps_expr (pe_meth (pv 1) D_Model_aim.cl m_Model_aim G_Model_aim (hr.mono (by decide)) b_Model_aim .nil pass0 (pa_cons (pe_ix (ixL K) (pv 0) pe_int (fun _ _ => rfl)) pa_nil)))
      (pss_one (ps_ret (pv 1)))))), ?_⟩
    try dsimp only [L2.cxOf, L2.Cx.nox, L2.Cx.wish]
    rw [st_law_model]
    obtain ⟨pg, w1, w2⟩ := hW.w
    obtain ⟨r1, w3, w4⟩ := hW.u
    obtain ⟨r2, w5, w6⟩ := hW.f
    walk_at "cg"
    refine r_listL (SqL.of w3) fun l H1 hl el k1 => ?_
    walk_at "cg"
    refine r_make fun p dx H2 hp ep k2 => ?_
    refine ⟨p, l, dx, r1, M.us, rfl, ep, k2.get0 el, k2.imAll (k1.imAll w4), ok.n0, ok.n1, ok.un, ok.nd, fun b H3 eb MB fr k3 => ⟨rfl, ?_⟩⟩
    subst eb
    have K3 : Kp [] H H3 := Kp.trN k3 (Kp.tr0 k2 k1) (k1.free0 hp)
    have frH : ∀ x ∈ b.all, H x = none := fun x hx => by
      rcases fr x hx with e | e
      · rw [e]
        exact k1.free0 hp
      · exact k1.free0 (k2.free0 e)
    have fb : H b.b = none := frH _ (by simp [MA.all])
    have fp : H b.p = none := frH _ (by simp [MA.all])
    clear k1 k2 k3 el ep hl hp fr
    walk_at "cg"
    have hrl := mapLenP w6
    refine r_forL r2 (fun i σ' H' => ∃ x2 x3 : Option V, σ' = [some (.ref a.w), some (.ref b.p), x2, x3] ∧ Kp [] H H' ∧ MdlAt K C_Model H' b ⟨M.us, M.bs.take i, goal0⟩) ⟨none, none, rfl, K3, MB⟩ (fun i σ' H' ⟨_, _, _, kk, _⟩ => kk.get0 w5) ?_ ?_
    · clear K3 MB
      rintro i x σ' H' hx ⟨x2, x3, rfl, kk, MB⟩
      obtain ⟨z, hz, hzx⟩ := mapGetP (kk.imAll w6) hx
      obtain ⟨q, rfl⟩ := Im.isRef hzx
      obtain ⟨_, h1, h2⟩ := Im.open hzx
      obtain ⟨_, _, rfl, a1, h2⟩ := h2.c
      obtain ⟨_, _, rfl, a2, h2⟩ := h2.c
      obtain rfl := h2.n
      have hd2 : ∃ ds, z.2.d = .tuple ds := by cases z.2 <;> exact ⟨_, rfl⟩
      obtain ⟨ds, hds⟩ := hd2
      have a2' := a2
      rw [hds] at a2'
      obtain ⟨pb, rfl⟩ := a2'.isRef
      cases a1
      have hm := List.mem_of_getElem? hz
      have hi : i < M.bs.length := (List.getElem?_eq_some_iff.mp hz).1
      have lb := ok.lb z hm
      walk_at "cg"
      refine ⟨b, z.1, pb, z.2, _, rfl, MB, lb.1, lb.2, fun hin => ?_, a2, ok.bf z hm, by show (M.bs.take i).length < 200; rw [List.length_take]; have := ok.nb; omega, fun H5 M5 k5 => ?_⟩
      · have e9 : M.bs = M.bs.take i ++ z :: M.bs.drop (i + 1) := by
          obtain ⟨hi, rfl⟩ := List.getElem?_eq_some_iff.mp hz
          rw [List.getElem_cons_drop, List.take_append_drop]
        have ln := ok.ln
        rw [e9, List.map_append, List.nodup_append] at ln
        exact ln.2.2 z.1 hin z.1 (by simp) rfl
      · walk_at "cg"
        refine ⟨_, _, rfl, Kp.trN k5 kk fb, ?_⟩
        have e : M.bs.take (i + 1) = M.bs.take i ++ [(z.1, z.2)] := by rw [List.take_add_one, hz]; rfl
        rw [e]
        exact M5
    · clear K3 MB
      rintro σ' H' ⟨x2, x3, rfl, kk, MB⟩
      rw [hrl, List.take_length] at MB
      walk_at "cg"
      refine ⟨b, pg, M.g, _, rfl, MB, kk.im w2, ok.gf, fun H5 M5 k5 => ?_⟩
      walk_at "cg"
      exact k b H5 M5 frH (Kp.trN k5 kk fp)
theorem ok_law_point {f : Addr} {fd : FuncData} (F : Fun K "_law_point" "_law_point" s_law_point f fd) (B : Bi K mg C_Model) (D_law_draw : Is P w K mg base CX0 1 "_law_draw" ["_law_tape_here", "_law_many"] spDraw) : FnOk P w K mg base CX0 2 f fd ["_law_tape_here", "_law_unknowns"] (spLawPoint K) := by
  have nd := sc_law_point.nd
  refine F.ok sc_law_point ?len (fun cdv A outer s H vs Q E hr h => ?body)
  case len =>
    rintro vs H Q E ⟨t, c, l, refs, us, rfl, _⟩
    rfl
  case body =>
    obtain ⟨t, c, l, refs, us, rfl, T, el, nlt, A, h60, ok, q⟩ := h
    refine ⟨_, (pss_one (ps_ret (pe_callTy (cgTuple K) (by rfl) B.n_tuple (by decide +kernel) (pa_cons (by exact pe_lc (own := [("_law_name", 2), ("_law_low", 3), ("_law_high", 4)]) (g := (gTup K 3 (gCons (gName 2) (gCons (gName 3) (gCons (gName 4) gNil))))) (tt := tYes) rfl nd ((piLst K) (pv 1)) (blkOk_by (N := ["_law_tape_here", "_law_unknowns", "_law_name", "_law_low", "_law_high"]) (sc := defScope s_law_point) (by decide +kernel)) (fun _ _ _ _ _ => (pg_tup (n := 3) rfl (pgs_cons (pg_name (i := 2) nd rfl (Or.inl rfl)) (pgs_cons (pg_name (i := 3) nd rfl (Or.inl rfl)) (pgs_cons (pg_name (i := 4) nd rfl (Or.inl rfl)) pgs_nil))))) (fun _ _ _ _ _ => pts_nil) (fun _ _ _ _ _ => (pe_op op_add (pv 3) (pe_is D_law_draw (hr.mono (by decide)) rfl pass0 (pa_cons (pv 0) (pa_cons (pe_op op_add (pe_op op_sub (pv 4) (pv 3)) pe_int) pa_nil)))))) pa_nil)))), ?_⟩
    try dsimp only [L2.cxOf, L2.Cx.nox, L2.Cx.wish]
    rw [st_law_point]
    walk_at "cg"
    refine lcL_d (K := K) el nlt A PyData.int (fun (b : Str × Int × Int) z => b.2.1 ≤ z ∧ z ≤ b.2.2) T (by omega) (fun j b x H' R R' hb hx T' k' q' => ?_) (fun D H5 acc pt hD eD hpl hP hA T5 k5 => ?_)
    · obtain ⟨px, rfl, hs⟩ := un_at hx
      have o := ok b (List.mem_of_getElem? hb)
      have bb : b.2.2 - b.2.1 + 1 < bigB := by
        have e : (3000 : Int) < bigB := by decide
        omega
      walk_at "cg"
      exact q' _ _ _ (by omega) (.int _) (by walk_at "cg h") (by walk_at "cg kp")
    · rw [hA.ints] at eD
      walk_at "cg"
      exact q _ pt _ (by assumption) ⟨hpl, hP⟩ (by walk_at "cg h") (by walk_at "cg kp")

end
section
variable {P : Program} {w : World} {K : PySem.W.Frag} {mg : Str → Option Value} {base : Heap} {C_Model : Addr}
theorem pe_fldK {X : Cx} {e : Expr} {f : Str} {pos : Pos} {ta : TE} (K : PySem.W.Frag) (he : PE X e ta) (hb : attributeBase e f X.env (eval e X.env) = eval e X.env) (h : X.K = K := by rfl) : PE X (.Attribute e f pos) (tFld K ta f) := h ▸ pe_fld he hb
theorem ok_Model_inside {f : Addr} {fd : FuncData} (F : Fun K "inside" "Model.inside" s_Model_inside f fd) (B : Bi K mg C_Model)  : FnOk P w K mg base CX0 1 f fd ["self", "point"] (spInside K C_Model) := by
  have nd := sc_Model_inside.nd
  refine F.ok sc_Model_inside ?len (fun cdv A outer s H vs Q E hr h => ?body)
  case len =>
    rintro vs H Q E ⟨a, q, M, f, rfl, _⟩
    rfl
  case body =>
    obtain ⟨a, q, M, f, rfl, hM, h60, hP, k⟩ := h
    refine ⟨_, (pss_one (ps_ret (pe_callB (cr_all rfl) (by rfl) B.n_all (by decide +kernel) (pa_cons (by exact pe_lc (own := [("v", 2)]) (g := (gName 2)) (tt := tYes) rfl nd (pi_range1 rfl B.n_range (pa_cons (pe_callB (cgLen K) (by rfl) B.n_len PySem.boot_len (pa_cons (pe_fld (pv 0) rfl) pa_nil)) pa_nil)) (blkOk_by (N := ["self", "point", "v"]) (sc := defScope s_Model_inside) (by decide +kernel)) (fun _ _ _ _ _ => (pg_name (i := 2) nd rfl (Or.inl rfl))) (fun _ _ _ _ _ => pts_nil) (fun _ _ _ _ _ => (pe_chain op_le op_le (pe_ix (ixL K) (pe_fldK K (pv 0) rfl) (pv 2) (fun _ _ => rfl)) (pe_ix (ixP K) (pv 1) (pv 2) (fun _ _ => rfl)) (pe_ix (ixL K) (pe_fldK K (pv 0) rfl) (pv 2) (fun _ _ => rfl))))) pa_nil)))), ?_⟩
    try dsimp only [L2.cxOf, L2.Cx.nox, L2.Cx.wish]
    rw [st_Model_inside]
    have c := B.cl_Model
    have a1 := B.at_Model__names
    have a2 := B.at_Model__lows
    have a3 := B.at_Model__highs
    obtain ⟨dx, fs, g, h1, h2, h3⟩ := hM.ob
    have l1 := h2.nm
    have l2 := h2.lo
    have l3 := h2.hi
    have e1 := hM.nm
    have e2 := hM.lo
    have e3 := hM.hi
    have hln : ((M.us.map fun u => V.str u.1).length : Int) = M.us.length := by rw [List.length_map]
    walk_at "cg"
    refine lcR_m (K := K) (fun i => .bool (decide ((M.us.map (·.2.1)).getD i 0 ≤ f i) && decide (f i ≤ (M.us.map (·.2.2)).getD i 0))) (by omega) (fun i H' R R' hi k' q' => ?_) (fun D H4 acc hD eD hA k4 => ?_)
    · have hi' : i < M.us.length := by omega
      have z0 : (0 + (i : Int)) = (i : Int) := by omega
      have x2 : atI (M.us.map fun u => V.int u.2.1) (0 + (i : Int)) = some (.int ((M.us.map (·.2.1)).getD i 0)) := by
        have := atI_ints (ns := M.us.map (·.2.1)) (i := (i : Int)) (by omega) (by rw [List.length_map]; omega)
        rw [List.map_map, Int.toNat_natCast] at this
        rw [z0]
        exact this
      have x3 : atI (M.us.map fun u => V.int u.2.2) (0 + (i : Int)) = some (.int ((M.us.map (·.2.2)).getD i 0)) := by
        have := atI_ints (ns := M.us.map (·.2.2)) (i := (i : Int)) (by omega) (by rw [List.length_map]; omega)
        rw [List.map_map, Int.toNat_natCast] at this
        rw [z0]
        exact this
      walk_at "cg"
      refine r_ixL (by walk_at "cg h") x2 ?_
      walk_at "cg"
      refine r_pt (hP.kp0 k').at_ ⟨by omega, by omega⟩ ?_
      rw [z0]
      walk_at "cg"
      refine if_S (fun g1 => ?_) (fun g1 => ?_)
      · walk_at "cg"
        refine r_ixL (by walk_at "cg h") (z0 ▸ x3) ?_
        walk_at "cg"
        have q2 := q' (.bl _) H' (.bl _) .refl
        rw [decide_eq_true g1, Bool.true_and] at q2
        exact q2
      · walk_at "cg"
        have q2 := q' (.bl _) H' (.bl _) .refl
        rw [decide_eq_false g1, Bool.false_and] at q2
        exact q2
    · have eb : (List.range (((M.us.map fun u => V.str u.1).length : Int)).toNat).map (fun i : Nat => PyData.bool (decide ((M.us.map (·.2.1)).getD i 0 ≤ f i) && decide (f i ≤ (M.us.map (·.2.2)).getD i 0))) = ((List.range M.us.length).map fun i : Nat => decide ((M.us.map (·.2.1)).getD i 0 ≤ f i) && decide (f i ≤ (M.us.map (·.2.2)).getD i 0)).map PyData.bool := by
        rw [hln, Int.toNat_natCast, List.map_map]
        rfl
      have hA2 := eb ▸ hA
      rw [ImAll.bls hA2] at eD
      walk_at "cg"
      refine r_all eD ?_
      have e9 : (((List.range M.us.length).map fun i : Nat => decide ((M.us.map (·.2.1)).getD i 0 ≤ f i) && decide (f i ≤ (M.us.map (·.2.2)).getD i 0)).all id) = inB M.us f := by
        rw [List.all_map]
        rfl
      rw [e9]
      exact k _ (by walk_at "cg kp")
theorem ok_Model_broken {f : Addr} {fd : FuncData} (F : Fun K "broken" "Model.broken" s_Model_broken f fd) (B : Bi K mg C_Model) (D_body_holds : Is P w K mg base CX0 3 "body_holds" ["body", "point"] (spHolds K)) : FnOk P w K mg base CX0 4 f fd ["self", "point"] (spBroken K C_Model) := by
  have nd := sc_Model_broken.nd
  refine F.ok sc_Model_broken ?len (fun cdv A outer s H vs Q E hr h => ?body)
  case len =>
    rintro vs H Q E ⟨a, q, M, f, rfl, _⟩
    rfl
  case body =>
    obtain ⟨a, q, M, f, rfl, hM, ok, hP, k⟩ := h
    refine ⟨_, (pss_one (ps_ret (pe_lock (by exact pe_lc (own := [("label", 2), ("body", 3)]) (g := (gTup K 2 (gCons (gName 2) (gCons (gName 3) gNil)))) rfl nd (pi_items (pe_fld (pv 0) rfl)) (blkOk_by (N := ["self", "point", "label", "body"]) (sc := defScope s_Model_broken) (by decide +kernel)) (fun _ _ _ _ _ => (pg_tup (n := 2) rfl (pgs_cons (pg_name (i := 2) nd rfl (Or.inl rfl)) (pgs_cons (pg_name (i := 3) nd rfl (Or.inl rfl)) pgs_nil)))) (fun _ _ _ _ _ => pts_one (pt_not (pt_val (pe_is D_body_holds (hr.mono (by decide)) rfl pass0 (pa_cons (pv 3) (pa_cons (pv 1) pa_nil)))))) (fun _ _ _ _ _ => (pv 2)))))), ?_⟩
    try dsimp only [L2.cxOf, L2.Cx.nox, L2.Cx.wish]
    rw [st_Model_broken]
    have c := B.cl_Model
    have a4 := B.at_Model__bodies
    obtain ⟨dx, fs, g, h1, h2, h3⟩ := hM.ob
    obtain ⟨kvs, h4, h5, h6⟩ := hM.bo
    have l4 := h2.bo
    have npb : a.p ≠ a.b := ne_of h1 h4 (fun e => by cases e)
    walk_at "cg"
    refine r_lockE h4 trivial fun od HL hL kL nL => ?_
    have p1 := kL.get1 npb h1
    have h6L := kL.imAll h6
    have hPL : PtAt K HL q f fun v => 0 ≤ v ∧ v < M.us.length := fun v hv => by
      rcases hP.at_ v hv with ⟨xs, g1, g2⟩ | ⟨xs, g1, g2⟩ | ⟨kvs2, g1, g2⟩
      · exact .inl ⟨xs, kL.tup g1, g2⟩
      · exact .inr (.inl ⟨xs, kL.get1 (ne_of g1 h4 (fun e => by cases e)) g1, g2⟩)
      · refine .inr (.inr ⟨kvs2, kL.get1 (fun e => ?_) g1, g2⟩)
        rw [e, h4] at g1
        cases g1
        exact inr_valV (v := v) h5 g2
    walk_at "cg"
    refine r_items hL ?_
    refine lcI_f (bs := M.bs) (lab := fun b => b.1) (e := fun b => b.2.d) hL h5 h6L (fun b => if b.2.h f then none else some (.str b.1)) (by have := ok.nb; omega) (fun i b T y H' R R' hb k' sT iy qs qn => ?_) (fun D H' acc hD eD hA k' => ?_)
    · have hm := List.mem_of_getElem? hb
      have fb := ok.bf b hm
      obtain ⟨ds, hds⟩ : ∃ ds, b.2.d = .tuple ds := by cases b.2 <;> exact ⟨_, rfl⟩
      have iy' := iy
      rw [hds] at iy'
      obtain ⟨pb, rfl⟩ := iy'.isRef
      walk_at "cg"
      refine ⟨pb, q, b.2, f, _, rfl, iy, b.2.fit_bd fb, hPL.kp0 k', fun v _ => by have := hP.bd v; omega, b.2.fit_vars fb, fun H5 k5 => ?_⟩
      cases e : b.2.h f
      · walk_at "cg"
        exact qs _ _ _ (by rw [e]; rfl) (.str _) k5
      · walk_at "cg"
        exact qn _ (by rw [e]; rfl) k5
    · have eb : M.bs.filterMap (fun b => if b.2.h f then none else some (PyData.str b.1)) = (M.brk f).map PyData.str := by
        unfold Mdl.brk
        induction M.bs with
        | nil => rfl
        | cons b bs ih =>
          cases e : b.2.h f
          · rw [List.filterMap_cons_some (b := PyData.str b.1) (by rw [e]; rfl), List.filter_cons_of_pos (by rw [e]; rfl), ih]
            rfl
          · rw [List.filterMap_cons_none (by rw [e]; rfl), List.filter_cons_of_neg (by rw [e]; decide), ih]
      rw [eb] at hA
      rw [hA.strs] at eD
      have ndD : D ≠ a.b := fun e => by rw [e, hL] at hD; cases hD
      refine ⟨k'.get0 hL, k D _ (nL D hD) (by rw [upd_ne ndD]; exact eD) (unlock h4 kL hL k')⟩
theorem ok_Model_is_solution {f : Addr} {fd : FuncData} (F : Fun K "is_solution" "Model.is_solution" s_Model_is_solution f fd) (B : Bi K mg C_Model) (D_Model_inside : IsM P w K mg base CX0 1 C_Model "inside" ["self", "point"] (spInside K C_Model)) (D_Model_broken : IsM P w K mg base CX0 4 C_Model "broken" ["self", "point"] (spBroken K C_Model)) : FnOk P w K mg base CX0 5 f fd ["self", "point"] (spIsSol K C_Model) := by
  have nd := sc_Model_is_solution.nd
  obtain ⟨f_Model_inside, fd_Model_inside, G_Model_inside, m_Model_inside, b_Model_inside⟩ := D_Model_inside.ex
  obtain ⟨f_Model_broken, fd_Model_broken, G_Model_broken, m_Model_broken, b_Model_broken⟩ := D_Model_broken.ex
  refine F.ok sc_Model_is_solution ?len (fun cdv A outer s H vs Q E hr h => ?body)
  case len =>
    rintro vs H Q E ⟨a, q, M, f, rfl, _⟩
    rfl
  case body =>
    obtain ⟨a, q, M, f, rfl, hM, ok, hP, k⟩ := h
    refine ⟨_, (pss_one (ps_ret (pe_and (pe_meth (pv 0) D_Model_inside.cl m_Model_inside G_Model_inside (hr.mono (by decide)) b_Model_inside .nil pass0 (pa_cons (pv 1) pa_nil)) (pe_one (pe_cmpR op_eq (pe_callB (cgLen K) (by rfl) B.n_len PySem.boot_len (pa_cons (pe_meth (pv 0) D_Model_broken.cl m_Model_broken G_Model_broken (hr.mono (by decide)) b_Model_broken .nil pass0 (pa_cons (pv 1) pa_nil)) pa_nil)) pe_int (nomark _)))))), ?_⟩
    try dsimp only [L2.cxOf, L2.Cx.nox, L2.Cx.wish]
    rw [st_Model_is_solution]
    walk_at "cg"
    refine ⟨a, q, M, f, rfl, hM, ok.n1, hP, fun H1 k1 => ?_⟩
    cases e : inB M.us f
    · walk_at "cg"
      have q2 := k H1 k1
      unfold Mdl.sol at q2
      rw [e, Bool.false_and] at q2
      exact q2
    · walk_at "cg"
      refine ⟨a, q, M, f, rfl, hM.kp0 k1, ok, hP.kp0 k1, fun D H2 hD eD k2 => ?_⟩
      walk_at "cg"
      have q2 := k H2 (Kp.tr0 k2 k1)
      unfold Mdl.sol at q2
      rw [e, Bool.true_and] at q2
      have e9 : decide ((((M.brk f).map V.str).length : Int) = 0) = decide (M.brk f = []) := by
        rw [List.length_map]
        cases M.brk f <;> simp <;> omega
      rw [e9]
      exact q2

end
section
variable {P : Program} {w : World} {K : PySem.W.Frag} {mg : Str → Option Value} {base : Heap} {C_Model : Addr}
theorem MdlAt.off {K : PySem.W.Frag} {C : Addr} {H : Hp} {a : MA} {M : Mdl} {l : Addr} (h : MdlAt K C H a M) (f : H l = none) : offA a l := fun x hx e => by
  subst e
  obtain ⟨dx, fs, g, h1, _⟩ := h.ob
  obtain ⟨kvs, h4, _⟩ := h.bo
  have h5 := h.nm
  have h6 := h.lo
  have h7 := h.hi
  simp only [MA.all, List.mem_cons, List.not_mem_nil, or_false] at hx
  rcases hx with rfl | rfl | rfl | rfl | rfl
  · rw [f] at h1
    cases h1
  · rw [f] at h5
    cases h5
  · rw [f] at h6
    cases h6
  · rw [f] at h7
    cases h7
  · rw [f] at h4
    cases h4
theorem set_at {pt B : List Int} {k : Nat} {x y : Int} (h : pt[k]? = some x) : (pt.take (k + 1) ++ B).set k y = pt.take k ++ y :: B := by
  have hk := (List.getElem?_eq_some_iff.mp h).1
  have e : pt.take (k + 1) = pt.take k ++ [x] := by
    rw [List.take_add_one, h]
    rfl
  have l : (pt.take k).length = k := by
    rw [List.length_take]
    omega
  rw [e, List.append_assoc, List.set_append_right _ _ (by omega), l, Nat.sub_self]
  rfl
theorem get_at {pt B : List Int} {k : Nat} {x : Int} (h : pt[k]? = some x) : atI ((pt.take (k + 1) ++ B).map V.int) (k : Int) = some (.int x) := by
  have hk := (List.getElem?_eq_some_iff.mp h).1
  have e : pt.take (k + 1) = pt.take k ++ [x] := by
    rw [List.take_add_one, h]
    rfl
  have l : (pt.take k).length = k := by
    rw [List.length_take]
    omega
  have e2 : (pt.take (k + 1) ++ B)[k]? = some x := by
    rw [e, List.append_assoc, List.getElem?_append_right (by omega), l, Nat.sub_self]
    rfl
  rw [atI_nat (by omega) (by rw [List.length_map, List.length_append, List.length_take]; omega), Int.toNat_natCast, List.getElem?_map, e2]
  rfl
theorem ok_Model_many {f : Addr} {fd : FuncData} (F : Fun K "many" "Model.many" s_Model_many f fd) (B : Bi K mg C_Model)  : FnOk P w K mg base CX0 1 f fd ["self"] (spMany K C_Model) := by
  have nd := sc_Model_many.nd
  refine F.ok sc_Model_many ?len (fun cdv A outer s H vs Q E hr h => ?body)
  case len =>
    rintro vs H Q E ⟨a, M, rfl, _⟩
    rfl
  case body =>
    obtain ⟨a, M, rfl, hM, h60, k⟩ := h
    refine ⟨_, (pss_one (ps_ret (pe_callB (cgLen K) (by rfl) B.n_len PySem.boot_len (pa_cons (pe_fld (pv 0) rfl) pa_nil)))), ?_⟩
    try dsimp only [L2.cxOf, L2.Cx.nox, L2.Cx.wish]
    rw [st_Model_many]
    have c := B.cl_Model
    have a1 := B.at_Model__names
    obtain ⟨dx, fs, g, h1, h2, h3⟩ := hM.ob
    have l1 := h2.nm
    have e1 := hM.nm
    have hln : ((M.us.map fun u => V.str u.1).length : Int) = M.us.length := by rw [List.length_map]
    walk_at "cg"
    rw [hln]
    exact k
theorem ok_Model__need {f : Addr} {fd : FuncData} (F : Fun K "_need" "Model._need" s_Model__need f fd) (B : Bi K mg C_Model)  : FnOk P w K mg base CX0 1 f fd ["self", "v"] (spNeed K C_Model) := by
  have nd := sc_Model__need.nd
  refine F.ok sc_Model__need ?len (fun cdv A outer s H vs Q E hr h => ?body)
  case len =>
    rintro vs H Q E ⟨a, M, v, rfl, _⟩
    rfl
  case body =>
    obtain ⟨a, M, v, rfl, hM, h60, v0, v1, k⟩ := h
    refine ⟨_, (pss_one (ps_if (pt_not (pt_chain op_le op_lt pe_int (pv 1) (pe_callB (cgLen K) (by rfl) B.n_len PySem.boot_len (pa_cons (pe_fld (pv 0) rfl) pa_nil))))
      (pss_one ps_never)
      pss_nil)), ?_⟩
    try dsimp only [L2.cxOf, L2.Cx.nox, L2.Cx.wish]
    rw [st_Model__need]
    have c := B.cl_Model
    have a1 := B.at_Model__names
    obtain ⟨dx, fs, g, h1, h2, h3⟩ := hM.ob
    have l1 := h2.nm
    have e1 := hM.nm
    have hln : ((M.us.map fun u => V.str u.1).length : Int) = M.us.length := by rw [List.length_map]
    walk_at "cg"
    exact k
theorem ok_Model_low {f : Addr} {fd : FuncData} (F : Fun K "low" "Model.low" s_Model_low f fd) (B : Bi K mg C_Model) (D_Model__need : IsM P w K mg base CX0 1 C_Model "_need" ["self", "v"] (spNeed K C_Model)) : FnOk P w K mg base CX0 2 f fd ["self", "v"] (spLow K C_Model) := by
  have nd := sc_Model_low.nd
  obtain ⟨f_Model__need, fd_Model__need, G_Model__need, m_Model__need, b_Model__need⟩ := D_Model__need.ex
  refine F.ok sc_Model_low ?len (fun cdv A outer s H vs Q E hr h => ?body)
  case len =>
    rintro vs H Q E ⟨a, M, v, u, rfl, _⟩
    rfl
  case body =>
    obtain ⟨a, M, v, u, rfl, hM, h60, v0, hu, k⟩ := h
    refine ⟨_, (pss_cons (ps_expr (pe_meth (pv 0) D_Model__need.cl m_Model__need G_Model__need (hr.mono (by decide)) b_Model__need .nil pass0 (pa_cons (pv 1) pa_nil)))
      (pss_one (ps_ret (pe_ix (ixL K) (pe_fld (pv 0) rfl) (pv 1) (fun _ _ => rfl))))), ?_⟩
    try dsimp only [L2.cxOf, L2.Cx.nox, L2.Cx.wish]
    rw [st_Model_low]
    have c := B.cl_Model
    have a1 := B.at_Model__lows
    obtain ⟨dx, fs, g, h1, h2, h3⟩ := hM.ob
    have l1 := h2.lo
    have e1 := hM.lo
    have hi := (List.getElem?_eq_some_iff.mp hu).1
    walk_at "cg"
    refine ⟨a, M, v, rfl, hM, h60, v0, by omega, ?_⟩
    walk_at "cg"
    refine r_ixL e1 (at_lo v0 hu) ?_
    walk_at "cg"
    exact k
theorem ok_Model_high {f : Addr} {fd : FuncData} (F : Fun K "high" "Model.high" s_Model_high f fd) (B : Bi K mg C_Model) (D_Model__need : IsM P w K mg base CX0 1 C_Model "_need" ["self", "v"] (spNeed K C_Model)) : FnOk P w K mg base CX0 2 f fd ["self", "v"] (spHigh K C_Model) := by
  have nd := sc_Model_high.nd
  obtain ⟨f_Model__need, fd_Model__need, G_Model__need, m_Model__need, b_Model__need⟩ := D_Model__need.ex
  refine F.ok sc_Model_high ?len (fun cdv A outer s H vs Q E hr h => ?body)
  case len =>
    rintro vs H Q E ⟨a, M, v, u, rfl, _⟩
    rfl
  case body =>
    obtain ⟨a, M, v, u, rfl, hM, h60, v0, hu, k⟩ := h
    refine ⟨_, (pss_cons (ps_expr (pe_meth (pv 0) D_Model__need.cl m_Model__need G_Model__need (hr.mono (by decide)) b_Model__need .nil pass0 (pa_cons (pv 1) pa_nil)))
      (pss_one (ps_ret (pe_ix (ixL K) (pe_fld (pv 0) rfl) (pv 1) (fun _ _ => rfl))))), ?_⟩
    try dsimp only [L2.cxOf, L2.Cx.nox, L2.Cx.wish]
    rw [st_Model_high]
    have c := B.cl_Model
    have a1 := B.at_Model__highs
    obtain ⟨dx, fs, g, h1, h2, h3⟩ := hM.ob
    have l1 := h2.hi
    have e1 := hM.hi
    have hi := (List.getElem?_eq_some_iff.mp hu).1
    walk_at "cg"
    refine ⟨a, M, v, rfl, hM, h60, v0, by omega, ?_⟩
    walk_at "cg"
    refine r_ixL e1 (at_hi v0 hu) ?_
    walk_at "cg"
    exact k
theorem ok_next_point {f : Addr} {fd : FuncData} (F : Fun K "next_point" "next_point" s_next_point f fd) (B : Bi K mg C_Model) (D_Model_low : IsM P w K mg base CX0 2 C_Model "low" ["self", "v"] (spLow K C_Model)) (D_Model_high : IsM P w K mg base CX0 2 C_Model "high" ["self", "v"] (spHigh K C_Model)) : FnOk P w K mg base CX0 3 f fd ["model", "point"] (spNext K C_Model) := by
  have nd := sc_next_point.nd
  obtain ⟨f_Model_low, fd_Model_low, G_Model_low, m_Model_low, b_Model_low⟩ := D_Model_low.ex
  obtain ⟨f_Model_high, fd_Model_high, G_Model_high, m_Model_high, b_Model_high⟩ := D_Model_high.ex
  refine F.ok sc_next_point ?len (fun cdv A outer s H vs Q E hr h => ?body)
  case len =>
    rintro vs H Q E ⟨a, M, q, pt, rfl, _⟩
    rfl
  case body =>
    obtain ⟨a, M, q, pt, rfl, hM, h60, hl, hS, k0, k1⟩ := h
    refine ⟨_, (pss_cons (ps_set (i := 2) nd rfl (Or.inl rfl) (pe_callTy (cgList K) (by rfl) B.n_list (by decide +kernel) (pa_cons (pv 1) pa_nil)))
      (pss_cons (ps_set (i := 3) nd rfl (Or.inl rfl) (pe_op op_sub (pe_callB (cgLen K) (by rfl) B.n_len PySem.boot_len (pa_cons (pv 2) pa_nil)) pe_int))
      (pss_cons (ps_while PassesOwn.never (pt_cmpR op_ge (pv 3) pe_int (nomark _))
      (pss_cons (ps_if (pt_cmpR op_lt (pe_ix (ixL K) (pv 2) (pv 3) (fun _ _ => rfl)) (pe_meth (pv 0) D_Model_high.cl m_Model_high G_Model_high (hr.mono (by decide)) b_Model_high .nil pass0 (pa_cons (pv 3) pa_nil)) (nomark _))
      (pss_cons (ps_augS (pv 2) (pv 3) get_list pe_int ip_add set_list)
      (pss_one (ps_ret (pe_callTy (cgTuple K) (by rfl) B.n_tuple (by decide +kernel) (pa_cons (pv 2) pa_nil)))))
      pss_nil)
      (pss_cons (ps_asg (pe_meth (pv 0) D_Model_low.cl m_Model_low G_Model_low (hr.mono (by decide)) b_Model_low .nil pass0 (pa_cons (pv 3) pa_nil)) (pg_sub (pv 2) (pv 3) set_list))
      (pss_one (ps_aug (i := 3) nd rfl (Or.inl rfl) pe_int ip_sub)))))
      (pss_one (ps_ret pe_non))))), ?_⟩
    try dsimp only [L2.cxOf, L2.Cx.nox, L2.Cx.wish]
    rw [st_next_point]
    have hpl : ((pt.map V.int).length : Int) = pt.length := by rw [List.length_map]
    have hl60 : pt.length ≤ 60 := by omega
    walk_at "cg"
    rename_i l H1 hl1 el kl
    have f1 : H l = none := hl1
    refine ⟨fun n σ' H' => n ≤ pt.length ∧ σ' = [some (.ref a.p), some (.ref q), some (.ref l), some (.int ((n : Int) - 1))] ∧ Kp [] H H' ∧ MdlAt K C_Model H' a M ∧ H' l = some (.lst ((pt.take n ++ (M.us.drop n).map (·.2.1)).map V.int)) ∧ nxP (M.us.drop n) (pt.drop n) = none, ⟨pt.length, Nat.le_refl _, ?_, kl, hM.kp0 kl, ?_, ?_⟩, ?_⟩
    · rw [hpl]
    · rw [List.take_of_length_le (Nat.le_refl _), List.drop_of_length_le (by omega), List.map_nil, List.append_nil]
      exact el
    · rw [List.drop_of_length_le (by omega)]
      rfl
    · clear kl el
      rintro n σ' H2 ⟨hn, rfl, k2, M2, e2, hx⟩
      cases n with
      | zero =>
        rw [show (((0 : Nat) : Int) - 1) = -1 by rfl]
        walk_at "cg"
        rw [if_neg (by decide)]
        walk_at "cg"
        exact k0 hx _ k2
      | succ k =>
        rw [show (((k + 1 : Nat) : Int) - 1) = (k : Int) by omega]
        obtain ⟨x, hx1⟩ : ∃ x, pt[k]? = some x := ⟨_, List.getElem?_eq_getElem (by omega)⟩
        obtain ⟨u, hu⟩ : ∃ u, M.us[k]? = some u := ⟨_, List.getElem?_eq_getElem (by omega)⟩
        have st := nxP_step hu hx1 hx
        have pr := fun ys => nxP_pre (us := M.us) (pt := pt) (ys := ys) k hl.symm (by omega)
        have dr : (M.us.drop k).map (·.2.1) = u.2.1 :: (M.us.drop (k + 1)).map (·.2.1) := by
          obtain ⟨hi, e⟩ := List.getElem?_eq_some_iff.mp hu
          rw [List.drop_eq_getElem_cons hi, e]
          rfl
        generalize (M.us.drop (k + 1)).map (·.2.1) = B at e2 st dr
        have hA : ((pt.take (k + 1) ++ B).map V.int).length = k + 1 + B.length := by
          rw [List.length_map, List.length_append, List.length_take]
          omega
        have ix : ixN ((pt.take (k + 1) ++ B).map V.int).length (k : Int) = some k := by
          rw [hA]
          simp [ixN]
          omega
        have hu' : M.us[((k : Int)).toNat]? = some u := by rw [Int.toNat_natCast]; exact hu
        walk_at "cg"
        rw [if_pos (decide_eq_true (by omega))]
        refine ⟨_, fun σ' H' h => h, ?_⟩
        walk_at "cg"
        refine r_ixL e2 (get_at hx1) ?_
        walk_at "cg"
        refine ⟨a, M, _, u, rfl, M2, h60, by omega, hu', ?_⟩
        walk_at "cg"
        refine if_S (fun g1 => ?_) (fun g1 => ?_)
        · rw [if_pos g1] at st
          walk_at "cg"
          refine r_getL e2 (by omega) (get_at hx1) ?_
          walk_at "cg"
          refine r_setL e2 ix fun H3 e3 k3 => ?_
          rw [← List.map_set, set_at hx1] at e3
          walk_at "cg"
          refine k1 _ _ _ (pr _ st) (by assumption) (by walk_at "cg kp")
        · rw [if_neg g1] at st
          walk_at "cg"
          refine ⟨a, M, _, u, rfl, M2, h60, by omega, hu', ?_⟩
          walk_at "cg"
          refine r_setL e2 ix fun H3 e3 k3 => ?_
          rw [← List.map_set, set_at hx1] at e3
          walk_at "cg"
          refine ⟨k, by omega, by omega, rfl, Kp.trN k3 k2 f1, ?_, ?_, st⟩
          · exact M2.kp1 k3 (hM.off f1)
          · rw [dr]
            exact e3

end
structure PtL (K : PySem.W.Frag) (H : Hp) (q : Addr) (pt : List Int) (M : Mdl) : Prop where
  s : SqT K H q (pt.map V.int)
  n : pt.length = M.us.length
  b : ∀ v, -1000 ≤ at_ pt v ∧ at_ pt v ≤ 1000
theorem PtL.kp0 {K : PySem.W.Frag} {H H' : Hp} {q : Addr} {pt : List Int} {M : Mdl} (k : Kp [] H H') (h : PtL K H q pt M) : PtL K H' q pt M := ⟨k.tup h.s, h.n, h.b⟩
theorem PtL.kp1 {K : PySem.W.Frag} {H H' : Hp} {t q : Addr} {pt : List Int} {M : Mdl} (k : Kp [t] H H') (h : PtL K H q pt M) : PtL K H' q pt M := ⟨k.tup h.s, h.n, h.b⟩
theorem PtL.m {K : PySem.W.Frag} {H : Hp} {q : Addr} {pt : List Int} {M : Mdl} (h : PtL K H q pt M) : PtM K H q (at_ pt) M.us.length :=
  ⟨(PtAt.ofT h.s).mono fun v hv => ⟨hv.1, by rw [h.n]; exact hv.2⟩, fun v => by have := h.b v; omega⟩
theorem bd_of {pt : List Int} (h : ∀ (i : Nat) z, pt[i]? = some z → -1000 ≤ z ∧ z ≤ 1000) (v : Int) : -1000 ≤ at_ pt v ∧ at_ pt v ≤ 1000 := by
  unfold at_
  rw [List.getD_eq_getElem?_getD]
  cases e : pt[v.toNat]? with
  | none => exact ⟨by decide, by decide⟩
  | some z => exact h _ z e
local macro_rules | `(tactic| walk_at "cg h") => `(tactic| (first
  | ((with_reducible show PtL _ _ _ _ _); exact PtL.kp0 (by assumption) (by walk_at "cg h"))
  | fail))
local macro_rules | `(tactic| walk_at "cg h") => `(tactic| assumption)
def inN (us : List (Str × Int × Int)) (f : Pt) (n : Nat) : Bool := (List.range n).all fun i => decide ((us.map (·.2.1)).getD i 0 ≤ f i) && decide (f i ≤ (us.map (·.2.2)).getD i 0)
theorem inN_all (us : List (Str × Int × Int)) (f : Pt) : inB us f = inN us f us.length := rfl
theorem inN_succ {us : List (Str × Int × Int)} {f : Pt} {i : Nat} {u : Str × Int × Int} (h : us[i]? = some u) : inN us f (i + 1) = (inN us f i && (decide (u.2.1 ≤ f i) && decide (f i ≤ u.2.2))) := by
  unfold inN
  rw [List.range_succ, List.all_append, List.all_cons, List.all_nil, Bool.and_true, List.getD_eq_getElem?_getD, List.getD_eq_getElem?_getD, List.getElem?_map, List.getElem?_map, h]
  rfl
theorem inB_no {us : List (Str × Int × Int)} {f : Pt} {i : Nat} {u : Str × Int × Int} (h : us[i]? = some u) (n : ¬ (u.2.1 ≤ f i ∧ f i ≤ u.2.2)) : inB us f = false := by
  have hi : i < us.length := (List.getElem?_eq_some_iff.mp h).1
  unfold inB
  rw [← Bool.not_eq_true, List.all_eq_true]
  intro q
  have q1 := q i (List.mem_range.mpr hi)
  rw [List.getD_eq_getElem?_getD, List.getD_eq_getElem?_getD, List.getElem?_map, List.getElem?_map, h] at q1
  simp at q1
  exact n q1
theorem mapGetI {K : PySem.W.Frag} {H : Hp} {α : Type} {f : α → PyData} {xs : List V} {as : List α} {i : Nat} {a : α} (h : ImAll K H xs (as.map f)) (e : as[i]? = some a) : ∃ x, atI xs (0 + (i : Int)) = some x ∧ Im K H x (f a) := by
  have hl := mapLenP h
  have hi := (List.getElem?_eq_some_iff.mp e).1
  obtain ⟨x, hx⟩ : ∃ x, xs[i]? = some x := ⟨_, List.getElem?_eq_getElem (by omega)⟩
  obtain ⟨b, hb, hI⟩ := mapGetP h hx
  rw [e] at hb
  cases hb
  refine ⟨x, ?_, hI⟩
  rw [Int.zero_add, atI_nat (by omega) (by omega), Int.toNat_natCast, hx]
theorem strsL_dp {K : PySem.W.Frag} {H : Hp} {l : Addr} {ns : List Str} (h : H l = some (.lst (ns.map V.str))) : Dp K H (.ref l) (.list (ns.map PyData.str)) := by
  refine .lst (SqL.of h) (ImAll.dp ?_)
  clear h
  induction ns with
  | nil => exact .nil
  | cons n ns ih => exact .cons (.str n) ih
theorem sgn_lay (c : Nat) (h : sgnOk c = true) : c < 0x110000 := by
  have q1 : (lettersS.cps.toList.all fun c => decide (c < 0x110000)) = true := by decide +kernel
  have q2 : (digitsS.cps.toList.all fun c => decide (c < 0x110000)) = true := by decide +kernel
  unfold sgnOk at h
  rw [Bool.or_eq_true, decide_eq_true_eq, decide_eq_true_eq] at h
  rcases h with h | h
  · exact of_decide_eq_true (List.all_eq_true.mp q1 c h)
  · exact of_decide_eq_true (List.all_eq_true.mp q2 c h)
theorem label_lay {s : Str} (h : labelB s = true) : PyData.strOk s = true := by
  unfold labelB at h
  rw [Bool.and_eq_true] at h
  have h2 := h.2
  unfold PyData.strOk
  rw [← Array.all_toList, List.all_eq_true]
  exact fun c hc => decide_eq_true (sgn_lay c (List.all_eq_true.mp h2 c hc))
theorem brk_shp {M : Mdl} (ok : M.ok) (f : Pt) : Shp 1 (.list ((M.brk f).map PyData.str)) := .list fun d hd => by
  obtain ⟨s, hs, rfl⟩ := List.mem_map.mp hd
  obtain ⟨b, hb, rfl⟩ := List.mem_map.mp hs
  exact .str (label_lay (ok.lb b ((List.mem_filter.mp hb).1)).1)
theorem lab_at {K : PySem.W.Frag} {H : Hp} {x : V} {b : Str × Body} (h : Im K H x (labD b)) : ∃ p q, x = .ref p ∧ SqT K H p [.str b.1, .ref q] ∧ BodyAt K H q b.2 := by
  obtain ⟨p, rfl⟩ := Im.isRef h
  obtain ⟨_, h1, h2⟩ := Im.open h
  obtain ⟨_, _, rfl, a1, h2⟩ := h2.c
  obtain ⟨_, _, rfl, a2, h2⟩ := h2.c
  obtain rfl := h2.n
  obtain ⟨ds, hds⟩ : ∃ ds, b.2.d = .tuple ds := by cases b.2 <;> exact ⟨_, rfl⟩
  have a3 := a2
  rw [hds] at a3
  obtain ⟨q, rfl⟩ := a3.isRef
  cases a1
  exact ⟨p, q, rfl, h1, a2⟩
theorem brk_fm (bs : List (Str × Body)) (f : Pt) : bs.filterMap (fun b => if b.2.h f then none else some (PyData.str b.1)) = ((bs.filter fun b => !b.2.h f).map (·.1)).map PyData.str := by
  induction bs with
  | nil => rfl
  | cons b bs ih =>
    cases e : b.2.h f
    · rw [List.filterMap_cons_some (b := PyData.str b.1) (by rw [e]; rfl), List.filter_cons_of_pos (by rw [e]; rfl), ih]
      rfl
    · rw [List.filterMap_cons_none (by rw [e]; rfl), List.filter_cons_of_neg (by rw [e]; decide), ih]
theorem brk_no {M : Mdl} {f : Pt} {i : Nat} {b : Str × Body} (h : M.bs[i]? = some b) (n : b.2.h f = false) : M.sol f = false := by
  have e : ¬ M.brk f = [] := fun e => by
    have m : b.1 ∈ M.brk f := List.mem_map.mpr ⟨b, List.mem_filter.mpr ⟨List.mem_of_getElem? h, by rw [n]; rfl⟩, rfl⟩
    rw [e] at m
    cases m
  unfold Mdl.sol
  rw [decide_eq_false e, Bool.and_false]
theorem brk_all {M : Mdl} {f : Pt} (h : ∀ (i : Nat) b, i < M.bs.length → M.bs[i]? = some b → b.2.h f = true) : M.brk f = [] := by
  unfold Mdl.brk
  rw [List.map_eq_nil_iff, List.filter_eq_nil_iff]
  intro b hb
  obtain ⟨i, hi⟩ := List.getElem?_of_mem hb
  rw [h i b (List.getElem?_eq_some_iff.mp hi).1 hi]
  decide
def spLawSol (K : PySem.W.Frag) : Sp := fun vs H Q _ => ∃ (wa : WA) (q : Addr) (M : Mdl) (pt : List Int), vs = [.ref wa.w, .ref q] ∧ WorldAt K H wa M ∧ M.ok ∧ PtL K H q pt M ∧ ∀ H', Kp [] H H' → Q (.bl (M.sol (at_ pt))) H'

section
variable {P : Program} {w : World} {K : PySem.W.Frag} {mg : Str → Option Value} {base : Heap} {C_Model : Addr}
theorem inBx_get : ∀ {us : List Un} {pt : List Int}, inBx us pt → ∀ (i : Nat) z, pt[i]? = some z → ∃ u, us[i]? = some u ∧ u.2.1 ≤ z ∧ z ≤ u.2.2
  | [], [], _, _, _, h => by simp at h
  | u :: us, x :: xs, h, 0, z, e => by
    simp at e
    subst e
    exact ⟨u, rfl, h.1⟩
  | u :: us, x :: xs, h, i + 1, z, e => by
    simp at e
    obtain ⟨v, hv, hz⟩ := inBx_get h.2 i z e
    exact ⟨v, by simpa using hv, hz⟩
theorem PtL.of {K : PySem.W.Frag} {H : Hp} {q : Addr} {pt : List Int} {M : Mdl} (ok : M.ok) (h : SqT K H q (pt.map V.int)) (i : inBx M.us pt) : PtL K H q pt M := ⟨h, i.len, bd_of fun j z hz => by
  obtain ⟨u, hu, h1, h2⟩ := inBx_get i j z hz
  have := (ok.un u (List.mem_of_getElem? hu)).2.2
  omega⟩
theorem szB_app : ∀ (a b : List Un), szB (a ++ b) = szB a * szB b
  | [], b => by simp [szB]
  | u :: a, b => by
    show (u.2.2 - u.2.1 + 1).toNat * szB (a ++ b) = (u.2.2 - u.2.1 + 1).toNat * szB a * szB b
    rw [szB_app a b, Nat.mul_assoc]
theorem szB_take {us : List Un} {i : Nat} {u : Un} (h : us[i]? = some u) (l : u.2.1 ≤ u.2.2) : ((szB (us.take (i + 1)) : Nat) : Int) = (szB (us.take i) : Int) * (u.2.2 - u.2.1 + 1) := by
  have e : us.take (i + 1) = us.take i ++ [u] := by
    rw [List.take_add_one, h]
    rfl
  rw [e, szB_app]
  show ((szB (us.take i) * ((u.2.2 - u.2.1 + 1).toNat * 1) : Nat) : Int) = _
  rw [Nat.mul_one, Int.natCast_mul, Int.toNat_of_nonneg (by omega)]
theorem range_at (l : List Int) : (List.range l.length).map (fun i : Nat => at_ l (i : Int)) = l := by
  refine List.ext_getElem (by simp) fun i h1 h2 => ?_
  rw [List.getElem_map, List.getElem_range]
  unfold at_
  rw [Int.toNat_natCast, List.getD_eq_getElem?_getD, List.getElem?_eq_getElem h2]
  rfl
def spSolsX (K : PySem.W.Frag) (C : Addr) : Sp := fun vs H Q E => ∃ (a : MA) (M : Mdl), vs = [.ref a.p] ∧ MdlAt K C H a M ∧ M.ok ∧ (szB M.us ≤ 20000 → ∀ (D : Addr) (L : List (List Int)) (refs : List V) (H' : Hp), H D = none → H' D = some (.lst refs) → ImAll K H' refs (L.map intsD) → AllP M.us (fun z => M.sol (at_ z)) L → Kp [] H H' → Q (.ref D) H') ∧ (20000 < szB M.us → ∀ H', Kp [] H H' → E (exC K "TooLarge") none H')
theorem ok_solutions {f : Addr} {fd : FuncData} (F : Fun K "solutions" "solutions" s_solutions f fd) (B : Bi K mg C_Model) (D_Model_many : IsM P w K mg base CX0 1 C_Model "many" ["self"] (spMany K C_Model)) (D_Model_is_solution : IsM P w K mg base CX0 5 C_Model "is_solution" ["self", "point"] (spIsSol K C_Model)) (D_next_point : Is P w K mg base CX0 3 "next_point" ["model", "point"] (spNext K C_Model)) (D_Model_low : IsM P w K mg base CX0 2 C_Model "low" ["self", "v"] (spLow K C_Model)) (D_Model_high : IsM P w K mg base CX0 2 C_Model "high" ["self", "v"] (spHigh K C_Model)) : FnOk P w K mg base (L2.CX P w) 6 f fd ["model"] (spSolsX K C_Model) := by
  have nd := sc_solutions.nd
  obtain ⟨f_Model_many, fd_Model_many, G_Model_many, m_Model_many, b_Model_many⟩ := D_Model_many.ex
  obtain ⟨f_Model_is_solution, fd_Model_is_solution, G_Model_is_solution, m_Model_is_solution, b_Model_is_solution⟩ := D_Model_is_solution.ex
  obtain ⟨f_Model_low, fd_Model_low, G_Model_low, m_Model_low, b_Model_low⟩ := D_Model_low.ex
  obtain ⟨f_Model_high, fd_Model_high, G_Model_high, m_Model_high, b_Model_high⟩ := D_Model_high.ex
  refine F.okX sc_solutions ?len (fun cdv A outer s H vs Q E hr h => ?body)
  case len =>
    rintro vs H Q E ⟨a, M, rfl, _⟩
    rfl
  case body =>
    obtain ⟨a, M, rfl, hM, ok, k0, kE⟩ := h
    refine ⟨_, (pss_cons (ps_set (i := 1) nd rfl (Or.inl rfl) pe_int)
      (pss_cons (ps_for (passes_of rfl) rfl (pi_range1 rfl B.n_range (pa_cons (pe_meth0 (pv 0) D_Model_many.cl m_Model_many G_Model_many (hr.mono (by decide)) b_Model_many .nil pass0) pa_nil)) (pg_name (i := 2) nd rfl (Or.inl rfl))
      (pss_one (ps_aug (i := 1) nd rfl (Or.inl rfl) (pe_op op_add (pe_op op_sub (pe_meth (pv 0) D_Model_high.cl m_Model_high G_Model_high (hr.mono (by decide)) b_Model_high .nil pass0 (pa_cons (pv 2) pa_nil)) (pe_meth (pv 0) D_Model_low.cl m_Model_low G_Model_low (hr.mono (by decide)) b_Model_low .nil pass0 (pa_cons (pv 2) pa_nil))) pe_int) iop_mul)))
      (pss_cons (ps_if (pt_cmpR op_gt (pv 1) (pe_gc rfl B.c_POINTS_MOST) (nomark _))
      (pss_one (ps_raise rfl (takes_of rfl rfl rfl rfl) (pmk_own0 B.e_TooLarge rfl)))
      pss_nil)
      (pss_cons (ps_set (i := 3) nd rfl (Or.inl rfl) (pe_lst pa_nil))
      (pss_cons (ps_set (i := 4) nd rfl (Or.inl rfl) (pe_callTy (cgTuple K) (by rfl) B.n_tuple (by decide +kernel) (pa_cons (by exact pe_lc (own := [("v", 2)]) (g := (gName 2)) (tt := tYes) rfl nd (pi_range1 rfl B.n_range (pa_cons (pe_meth0 (pv 0) D_Model_many.cl m_Model_many G_Model_many (hr.mono (by decide)) b_Model_many .nil pass0) pa_nil)) (blkOk_by (N := ["model", "many", "v", "found", "point"]) (sc := defScope s_solutions) (by decide +kernel)) (fun _ _ _ _ _ => (pg_name (i := 2) nd rfl (Or.inl rfl))) (fun _ _ _ _ _ => pts_nil) (fun _ _ _ _ _ => (pe_meth (pv 0) D_Model_low.cl m_Model_low G_Model_low (hr.mono (by decide)) b_Model_low .nil pass0 (pa_cons (pv 2) pa_nil)))) pa_nil)))
      (pss_cons (ps_while (passes_of rfl) (pt_cmpR cg_notN (pv 4) pe_non (nomark _))
      (Evl.pss_cut (ps_if (pt_val (pe_meth (pv 0) D_Model_is_solution.cl m_Model_is_solution G_Model_is_solution (hr.mono (by decide)) b_Model_is_solution .nil pass0 (pa_cons (pv 4) pa_nil)))
      (pss_one (ps_expr (pe_bm PySem.F.plainAttrs_list PySem.F.slot_list_append PySem.F.type_list_append mt_append (pv 3) (pa_cons (pv 4) pa_nil))))
      pss_nil)
      (pss_one (ps_set (i := 4) nd rfl (Or.inl rfl) (pe_is D_next_point (hr.mono (by decide)) rfl pass0 (pa_cons (pv 0) (pa_cons (pv 4) pa_nil)))))))
      (pss_one (ps_ret (pv 3))))))))), ?_⟩
    try dsimp only [L2.cxOf, L2.Cx.nox, L2.Cx.wish]
    rw [st_solutions]
    have okl : ∀ u ∈ M.us, u.2.1 ≤ u.2.2 := fun u hu => (ok.un u hu).2.2.2.1
    have h60 := ok.n1
    walk_at "cg"
    refine ⟨a, M, rfl, hM, ok.n1, ?_⟩
    walk_at "cg"
    refine r_forR (fun i σ' H' => ∃ x2 : Option V, σ' = [some (.ref a.p), some (.int (szB (M.us.take i) : Nat)), x2, none, none] ∧ H' = H) ⟨none, rfl, rfl⟩ ?_ ?_
    · rintro i σ' H' hi ⟨x2, rfl, rfl⟩
      obtain ⟨u, hu⟩ : ∃ u, M.us[i]? = some u := ⟨_, List.getElem?_eq_getElem (by omega)⟩
      have hu' : M.us[(0 + (i : Int)).toNat]? = some u := by rw [Int.zero_add, Int.toNat_natCast]; exact hu
      have un := ok.un u (List.mem_of_getElem? hu)
      walk_at "cg"
      refine ⟨a, M, _, u, rfl, hM, ok.n1, by omega, hu', ?_⟩
      walk_at "cg"
      refine ⟨a, M, _, u, rfl, hM, ok.n1, by omega, hu', ?_⟩
      have cm : L2.CMul ((szB (M.us.take i) : Nat) : Int) (u.2.2 - u.2.1 + 1) := .inr (by have := un.2.2; constructor <;> omega)
      walk_at "cg"
      exact ⟨_, by rw [szB_take hu un.2.2.2.1], rfl⟩
    · rintro σ' H' ⟨x2, rfl, rfl⟩
      have e9 : ∀ n : Nat, n = M.us.length → M.us.take n = M.us := fun n h => List.take_of_length_le (by omega)
      rw [e9 _ (by omega)]
      walk_at "cg"
      refine if_S (fun g => ?_) (fun g => ?_)
      · walk_at "cg"
        exact kE (by omega) _ .refl
      have hz : szB M.us ≤ 20000 := by omega
      have k := k0 hz
      clear k0 kE g
      walk_at "cg"
      rename_i lf H1 hlf elf klf
      refine ⟨a, M, rfl, hM.kp0 klf, ok.n1, ?_⟩
      walk_at "cg"
      refine lcR_m (K := K) (fun i => PyData.int (at_ (lowP M.us) (i : Int))) (by omega) (fun i H' R R' hi k' q' => ?_) (fun D H2 acc hD eD hA k2 => ?_)
      · obtain ⟨u, hu⟩ : ∃ u, M.us[i]? = some u := ⟨_, List.getElem?_eq_getElem (by omega)⟩
        have hu' : M.us[(0 + (i : Int)).toNat]? = some u := by rw [Int.zero_add, Int.toNat_natCast]; exact hu
        have ev : at_ (lowP M.us) (i : Int) = u.2.1 := by
          unfold at_ lowP
          rw [Int.toNat_natCast, List.getD_eq_getElem?_getD, List.getElem?_map, hu]
          rfl
        walk_at "cg"
        refine ⟨a, M, _, u, rfl, (hM.kp0 klf).kp0 k', ok.n1, by omega, hu', ?_⟩
        walk_at "cg"
        rw [ev] at q'
        exact q' _ _ (.int _) .refl
      · have eA : ∀ n : Nat, n = M.us.length → (List.range n).map (fun i : Nat => PyData.int (at_ (lowP M.us) (i : Int))) = (lowP M.us).map PyData.int := fun n h => by
          have hll : (lowP M.us).length = M.us.length := List.length_map ..
          have := congrArg (fun l => l.map PyData.int) (range_at (lowP M.us))
          rw [hll, ← h, List.map_map] at this
          exact this
        rw [eA _ (by omega)] at hA
        rw [hA.ints] at eD
        walk_at "cg"
        rename_i q0 H3 hq0 sq0 k3
        have K3 : Kp [] H' H3 := Kp.tr0 k3 (Kp.tr0 k2 klf)
        have M3 := hM.kp0 K3
        have e3 := k3.get0 (k2.get0 elf)
        clear hA eD k2 k3 klf elf hq0
        refine ⟨fun n σ' H4 => (∃ (pt : List Int) (L : List (List Int)) (refs : List V) (q : Addr) (x2 : Option V), n = rmB M.us pt + 1 ∧ σ' = [some (.ref a.p), some (.int (szB M.us : Nat)), x2, some (.ref lf), some (.ref q)] ∧ Kp [] H' H4 ∧ MdlAt K C_Model H4 a M ∧ SqT K H4 q (pt.map V.int) ∧ H4 lf = some (.lst refs) ∧ ImAll K H4 refs (L.map intsD) ∧ Enm M.us (fun z => M.sol (at_ z)) L pt) ∨
          (∃ (L : List (List Int)) (refs : List V) (x2 : Option V), n = 0 ∧ σ' = [some (.ref a.p), some (.int (szB M.us : Nat)), x2, some (.ref lf), some .non] ∧ Kp [] H' H4 ∧ H4 lf = some (.lst refs) ∧ ImAll K H4 refs (L.map intsD) ∧ AllP M.us (fun z => M.sol (at_ z)) L), ⟨_, .inl ⟨lowP M.us, [], [], q0, _, rfl, rfl, K3, M3, sq0, e3, .nil, Enm.begin okl⟩⟩, ?_⟩
        clear K3 M3 sq0 e3
        rintro n σ' H4 (⟨pt, L, refs, q, x2, rfl, rfl, K4, M4, s4, e4, A4, en⟩ | ⟨L, refs, x2, rfl, rfl, K4, e4, A4, al⟩)
        · have hc := en.c
          have hrl := mapLenP A4
          walk_at "cg"
          rw [if_pos rfl]
          refine ⟨_, fun σ' H' h => h, ?_⟩
          refine ⟨fun σ' H5 => ∃ refs' : List V, σ' = [some (.ref a.p), some (.int (szB M.us : Nat)), x2, some (.ref lf), some (.ref q)] ∧ Kp [] H' H5 ∧ MdlAt K C_Model H5 a M ∧ SqT K H5 q (pt.map V.int) ∧ H5 lf = some (.lst refs') ∧ ImAll K H5 refs' ((addP (fun z => M.sol (at_ z)) L pt).map intsD), ?_, ?_⟩
          · walk_at "cg"
            refine ⟨a, q, M, at_ pt, rfl, M4, ok, (PtL.of ok s4 en.p).m, fun H5 k5 => ?_⟩
            have M5 := M4.kp0 k5
            have s5 := k5.tup s4
            have e5 := k5.get0 e4
            have A5 := k5.imAll A4
            have K5 := Kp.tr0 k5 K4
            clear k5 M4 s4 e4 A4 K4
            cases e : M.sol (at_ pt)
            · walk_at "cg"
              refine ⟨refs, rfl, K5, M5, s5, e5, ?_⟩
              show ImAll K H5 refs ((if M.sol (at_ pt) = true then L ++ [pt] else L).map intsD)
              rw [if_neg (by rw [e]; decide)]
              exact A5
            · walk_at "cg"
              refine r_app e5 (by rw [sizeLine_eq]; omega) fun H6 e6 k6 => ?_
              refine ⟨_, rfl, Kp.trN k6 K5 hlf, M5.kp1 k6 (hM.off hlf), k6.tup s5, e6, ?_⟩
              show ImAll K H6 _ ((if M.sol (at_ pt) = true then L ++ [pt] else L).map intsD)
              rw [if_pos e, List.map_append]
              exact (k6.imAll A5).snoc (k6.im (intsT_im s5))
          · rintro σ' H5 ⟨refs', rfl, K5, M5, s5, e5, A5⟩
            walk_at "cg"
            refine ⟨a, M, q, pt, rfl, M5, ok.n1, en.p.len, s5, fun e H6 k6 => ?_, fun pt' p H6 e s6 k6 => ?_⟩
            · walk_at "cg"
              exact ⟨0, by omega, .inr ⟨_, refs', _, rfl, rfl, Kp.tr0 k6 K5, k6.get0 e5, k6.imAll A5, en.fin e⟩⟩
            · walk_at "cg"
              exact ⟨rmB M.us pt' + 1, by have := rm_lt okl e; omega, .inl ⟨pt', _, refs', p, _, rfl, rfl, Kp.tr0 k6 K5, M5.kp0 k6, s6, k6.get0 e5, k6.imAll A5, en.next okl e⟩⟩
        · walk_at "cg"
          rw [if_neg (by decide)]
          walk_at "cg"
          exact k lf L refs H4 hlf e4 A4 al K4

theorem ok_Model_worth {f : Addr} {fd : FuncData} (F : Fun K "worth" "Model.worth" s_Model_worth f fd) (B : Bi K mg C_Model) (D_terms_sum : Is P w K mg base CX0 1 "terms_sum" ["terms", "point"] (spSumF K)) : FnOk P w K mg base CX0 2 f fd ["self", "point"] (spWorth K C_Model) := by
  have nd := sc_Model_worth.nd
  refine F.ok sc_Model_worth ?len (fun cdv A outer s H vs Q E hr h => ?body)
  case len =>
    rintro vs H Q E ⟨a, q, M, f, rfl, _⟩
    rfl
  case body =>
    obtain ⟨a, q, M, f, rfl, hM, ok, hP, k⟩ := h
    refine ⟨_, (pss_one (ps_ret (pe_op op_add (pe_is D_terms_sum (hr.mono (by decide)) rfl pass0 (pa_cons (pe_ix (ixT K) (pe_fld (pv 0) rfl) pe_int (fun _ _ => rfl)) (pa_cons (pv 1) pa_nil))) (pe_ix (ixT K) (pe_fld (pv 0) rfl) pe_int (fun _ _ => rfl))))), ?_⟩
    try dsimp only [L2.cxOf, L2.Cx.nox, L2.Cx.wish]
    rw [st_Model_worth]
    have c := B.cl_Model
    have a5 := B.at_Model__goal
    obtain ⟨dx, fs, g, h1, h2, h3⟩ := hM.ob
    have l5 := h2.go
    obtain ⟨pg, qg, rfl, s1, i1⟩ := goal_at h3
    have tf := ok.gf.1
    walk_at "cg"
    refine spSumF_i i1 hP.at_ (fun z hz => by have := tf.2.2 z hz; omega) tf.bd ?_
    walk_at "cg"
    exact k _ .refl
theorem ok_Model_is_better {f : Addr} {fd : FuncData} (F : Fun K "is_better" "Model.is_better" s_Model_is_better f fd) (B : Bi K mg C_Model)  : FnOk P w K mg base CX0 1 f fd ["self", "first", "second"] (spBetter K C_Model) := by
  have nd := sc_Model_is_better.nd
  refine F.ok sc_Model_is_better ?len (fun cdv A outer s H vs Q E hr h => ?body)
  case len =>
    rintro vs H Q E ⟨a, x, y, M, rfl, _⟩
    rfl
  case body =>
    obtain ⟨a, x, y, M, rfl, hM, k⟩ := h
    refine ⟨_, (pss_cons (ps_if (pt_cmpR op_eq (pe_ix (ixT K) (pe_fld (pv 0) rfl) pe_int (fun _ _ => rfl)) pe_str (nomark _))
      (pss_one (ps_ret (pe_cmpR op_gt (pv 1) (pv 2) (nomark _))))
      pss_nil)
      (pss_one (ps_ret (pe_cmpR op_lt (pv 1) (pv 2) (nomark _))))), ?_⟩
    try dsimp only [L2.cxOf, L2.Cx.nox, L2.Cx.wish]
    rw [st_Model_is_better]
    have c := B.cl_Model
    have a5 := B.at_Model__goal
    obtain ⟨dx, fs, g, h1, h2, h3⟩ := hM.ob
    have l5 := h2.go
    obtain ⟨pg, qg, rfl, s1, i1⟩ := goal_at h3
    cases e : M.g.mx
    · rw [e] at s1
      simp only [Goal.btr, e, Bool.false_eq_true, if_false] at k
      walk_at "cg"
      exact k
    · rw [e] at s1
      simp only [Goal.btr, e, if_true] at k
      walk_at "cg"
      exact k

end
/-! ### d[k] -/
def dgetS (x y : V) (H : Hp) (Q : VK) : Prop := ∃ a v, x = .ref a ∧ DGet H a y (some v) ∧ Q v H
instance s_dGet {td ty : TE} {σ : St} {H : Hp} {Q : VK} : Stp (tDGet td ty σ H Q) (td σ H fun x H1 => ty σ H1 fun y H2 => dgetS x y H2 Q) := ⟨id⟩
theorem r_getD {H : Hp} {Q : VK} {a : Addr} {kvs : List (Key × V)} {k : Key} {v : V} (h : H a = some (.dK kvs)) (e : valV kvs k = some v) (q : Q v H) : dgetS (.ref a) (kV k) H Q := ⟨a, v, rfl, e ▸ DGet.k h, q⟩
theorem valV_at {κ : Type} [DecidableEq κ] : ∀ {kvs : List (κ × V)} {i : Nat} {k : κ} {v : V}, (kvs.map (·.1)).Nodup → kvs[i]? = some (k, v) → valV kvs k = some v
  | [], _, _, _, _, h => by simp at h
  | p :: r, 0, k, v, _, h => by
    simp at h
    subst h
    exact valV_pos rfl
  | p :: r, i + 1, k, v, nd, h => by
    rw [List.map_cons, List.nodup_cons] at nd
    have h : r[i]? = some (k, v) := by simpa using h
    rw [valV_neg fun e => nd.1 (List.mem_map.mpr ⟨_, List.mem_of_getElem? h, e.symm⟩)]
    exact valV_at nd.2 h
def notInDk (x y : V) (H : Hp) (Q : VK) : Prop := ∃ a o, x = .ref a ∧ DGet H a y o ∧ Q (.bl (!o.isSome)) H
instance s_dNotIn {td ty : TE} {σ : St} {H : Hp} {Q : VK} : Stp (tDNotIn ty td σ H Q) (ty σ H fun y H1 => td σ H1 fun x H2 => notInDk x y H2 Q) := ⟨id⟩
theorem r_notInDk1 {H : Hp} {Q : VK} {a : Addr} {kvs : List (Key × V)} {k : Key} {v : V} (h : H a = some (.dK kvs)) (e : valV kvs k = some v) (q : Q (.bl false) H) : notInDk (.ref a) (kV k) H Q := ⟨a, some v, rfl, e ▸ DGet.k h, q⟩
theorem r_notInDk0 {H : Hp} {Q : VK} {a : Addr} {kvs : List (Key × V)} {k : Key} (h : H a = some (.dK kvs)) (e : valV kvs k = none) (q : Q (.bl true) H) : notInDk (.ref a) (kV k) H Q := ⟨a, none, rfl, e ▸ DGet.k h, q⟩

/-! ### points in the bounds -/
theorem inBx_of : ∀ {us : List Un} {pt : List Int}, ptIn us pt → inBx us pt
  | [], [], _ => trivial
  | [], _ :: _, h => by have := h.1; simp at this
  | _ :: _, [], h => by have := h.1; simp at this
  | u :: us, x :: xs, h => by
    refine ⟨?_, inBx_of ⟨by have := h.1; simpa using this, fun i z e => ?_⟩⟩
    · obtain ⟨v, hv, h1, h2⟩ := h.2 0 x rfl
      simp at hv
      subst hv
      exact ⟨h1, h2⟩
    · obtain ⟨v, hv, hz⟩ := h.2 (i + 1) z (by simpa using e)
      exact ⟨v, by simpa using hv, hz⟩
theorem szB_le : ∀ {us : List Un}, (∀ u ∈ us, u.2.2 < u.2.1 + 4) → szB us ≤ 4 ^ us.length
  | [], _ => Nat.le_refl _
  | u :: us, h => by
    have q := szB_le (us := us) fun v hv => h v (by simp [hv])
    have h0 := h u (by simp)
    show (u.2.2 - u.2.1 + 1).toNat * szB us ≤ 4 ^ (us.length + 1)
    rw [Nat.pow_succ, Nat.mul_comm (4 ^ us.length) 4]
    exact Nat.mul_le_mul (by omega) q

/-! ### the best of the points in order -/
structure BestOf (g : Goal) (L : List (List Int)) (b : Option (List Int)) : Prop where
  n : b = none → L = []
  s : ∀ p, b = some p → p ∈ L ∧ ∀ q ∈ L, g.btr (g.val (at_ q)) (g.val (at_ p)) = false ∧ (g.val (at_ q) = g.val (at_ p) → q = p ∨ lx p q = true)
theorem btr_irr (g : Goal) (x : Int) : g.btr x x = false := by
  unfold Goal.btr
  split <;> exact decide_eq_false (by omega)
theorem BestOf.nil (g : Goal) : BestOf g [] none := ⟨fun _ => rfl, nofun⟩
theorem BestOf.first {g : Goal} {L : List (List Int)} {q : List Int} (h : BestOf g L none) : BestOf g (L ++ [q]) (some q) := by
  rw [h.n rfl]
  refine ⟨nofun, fun p e => ?_⟩
  cases e
  refine ⟨by simp, fun r hr => ?_⟩
  simp at hr
  subst hr
  exact ⟨btr_irr g _, fun _ => .inl rfl⟩
theorem BestOf.take {g : Goal} {L : List (List Int)} {p q : List Int} (h : BestOf g L (some p)) (hb : g.btr (g.val (at_ q)) (g.val (at_ p)) = true) : BestOf g (L ++ [q]) (some q) := by
  refine ⟨nofun, fun p' e => ?_⟩
  cases e
  refine ⟨by simp, fun r hr => ?_⟩
  rcases List.mem_append.mp hr with hr | hr
  · have hp := ((h.s p rfl).2 r hr).1
    unfold Goal.btr at *
    cases e : g.mx
    · rw [e] at hb hp
      simp at hb hp
      refine ⟨by simp; omega, fun e2 => by omega⟩
    · rw [e] at hb hp
      simp at hb hp
      refine ⟨by simp; omega, fun e2 => by omega⟩
  · simp at hr
    subst hr
    exact ⟨btr_irr g _, fun _ => .inl rfl⟩
theorem BestOf.keep {g : Goal} {L : List (List Int)} {p q : List Int} (h : BestOf g L (some p)) (hb : g.btr (g.val (at_ q)) (g.val (at_ p)) = false) (hs : ∀ r ∈ L, lx r q = true) : BestOf g (L ++ [q]) (some p) := by
  refine ⟨nofun, fun p' e => ?_⟩
  cases e
  obtain ⟨h1, h2⟩ := h.s p rfl
  refine ⟨List.mem_append_left _ h1, fun r hr => ?_⟩
  rcases List.mem_append.mp hr with hr | hr
  · exact h2 r hr
  · simp at hr
    subst hr
    exact ⟨hb, fun _ => .inr (hs p h1)⟩
/-- what the law asks of the best -/
theorem BestOf.law {us : List Un} {f : List Int → Bool} {g : Goal} {L : List (List Int)} {p z : List Int} (al : AllP us f L) (h : BestOf g L (some p)) (hz : inBx us z) (fz : f z = true) : g.btr (g.val (at_ z)) (g.val (at_ p)) = false ∧ (g.val (at_ z) = g.val (at_ p) → lx z p = false) := by
  obtain ⟨h1, h2⟩ := h.s p rfl
  obtain ⟨h3, h4⟩ := h2 z ((al.m z hz).mpr fz)
  refine ⟨h3, fun e => ?_⟩
  rcases h4 e with rfl | h5
  · exact lx_irr z
  · cases e6 : lx z p with
    | false => rfl
    | true =>
      have := lx_tr h5 e6
      rw [lx_irr] at this
      cases this

/-! ### k12: the best point -/
def popS (ty : TE) (σ : L2.St) (x : V) (H : Hp) (Q : VK) : Prop := ∃ a, x = .ref a ∧ IsD H a ∧ ty σ H fun y H2 => ∃ kvs k v, H2 a = some (.dK kvs) ∧ y = kV k ∧ valV kvs k = some v ∧ Q v (upd H2 a (.dK (dropK kvs k)))
instance s_dPop1 {td ty : TE} {σ : L2.St} {H : Hp} {Q : VK} : Stp (tDPop1 td ty σ H Q) (td σ H fun x H1 => popS ty σ x H1 Q) := ⟨id⟩
theorem drop_par {K : PySem.W.Frag} {H : Hp} {s : Str} : ∀ {kvs : List (Key × V)} {bs : List (Str × Body)}, kvs.map (fun z => z.1) = bs.map (fun b => (Sum.inr b.1 : Key)) → ImAll K H (kvs.map (fun z => z.2)) (bs.map fun b => b.2.d) →
    (dropK kvs (Sum.inr s)).map (fun z => z.1) = (bs.filter fun b => decide (b.1 ≠ s)).map (fun b => (Sum.inr b.1 : Key)) ∧ ImAll K H ((dropK kvs (Sum.inr s)).map (fun z => z.2)) ((bs.filter fun b => decide (b.1 ≠ s)).map fun b => b.2.d)
  | [], [], _, _ => ⟨rfl, .nil⟩
  | [], _ :: _, e, _ => by cases e
  | _ :: _, [], e, _ => by cases e
  | kv :: kvs, b :: bs, e, .cons h a => by
    obtain ⟨e1, e2⟩ := List.cons.inj e
    have e1 : kv.1 = (Sum.inr b.1 : Key) := e1
    obtain ⟨q1, q2⟩ := drop_par (s := s) e2 a
    by_cases g : b.1 = s
    · have z1 : dropK (kv :: kvs) (Sum.inr s) = dropK kvs (Sum.inr s) := List.filter_cons_of_neg (by rw [e1, g]; simp)
      rw [z1, List.filter_cons_of_neg (by simp [g])]
      exact ⟨q1, q2⟩
    · have z1 : dropK (kv :: kvs) (Sum.inr s) = kv :: dropK kvs (Sum.inr s) := List.filter_cons_of_pos (by rw [e1]; simp [g])
      rw [z1, List.filter_cons_of_pos (by simp [g])]
      exact ⟨by rw [List.map_cons, List.map_cons, q1, e1], .cons h q2⟩
def BestAt (K : PySem.W.Frag) (H : Hp) (g : Goal) (v : V) : Option (List Int) → Prop
  | none => v = .non
  | some p => ∃ r q, v = .ref r ∧ SqT K H r [.int (g.val (at_ p)), .ref q] ∧ SqT K H q (p.map V.int)
theorem BestAt.kp {K : PySem.W.Frag} {H H' : Hp} {S : List Addr} {g : Goal} {v : V} {b : Option (List Int)} (k : Kp S H H') (h : BestAt K H g v b) : BestAt K H' g v b := by
  cases b with
  | none => exact h
  | some p =>
    obtain ⟨r, q, e, h1, h2⟩ := h
    exact ⟨r, q, e, k.tup h1, k.tup h2⟩
def spBestX (K : PySem.W.Frag) (C : Addr) : Sp := fun vs H Q E => ∃ (a : MA) (M : Mdl), vs = [.ref a.p] ∧ MdlAt K C H a M ∧ M.ok ∧ (szB M.us ≤ 20000 → ∀ (v : V) (L : List (List Int)) (b : Option (List Int)) (H' : Hp), AllP M.us (fun z => M.sol (at_ z)) L → BestOf M.g L b → BestAt K H' M.g v b → Kp [] H H' → Q v H') ∧ (20000 < szB M.us → ∀ H', Kp [] H H' → E (exC K "TooLarge") none H')
def spRefused (K : PySem.W.Frag) : Sp := fun vs H Q _ => ∃ e : Int, vs = [.int e] ∧ (e = 0 ∨ e = 1) ∧ ∀ H', Kp [] H H' → Q (.int (if e = 1 then 2 else 0)) H'
def spRight (K : PySem.W.Frag) (C : Addr) : Sp := fun vs H Q _ => ∃ (t c : Addr) (wa : WA) (a : MA) (M : Mdl), vs = [.ref t, .ref a.p, .ref wa.w] ∧ Tp t c H ∧ WorldAt K H wa M ∧ MdlAt K C H a M ∧ M.ok ∧ offW wa t ∧ offA a t ∧ szB M.us ≤ 20000 ∧ ∀ H', Tp t c H' → Kp [t] H H' → Q (.bl true) H'
def spWithdraw (K : PySem.W.Frag) (C : Addr) : Sp := fun vs H Q _ => ∃ (a : MA) (s : Str) (M : Mdl), vs = [.ref a.p, .str s] ∧ MdlAt K C H a M ∧ (M.bs.map (·.1)).Nodup ∧ s ∈ M.bs.map (·.1) ∧ ∀ H', MdlAt K C H' a ⟨M.us, M.bs.filter fun b => decide (b.1 ≠ s), M.g⟩ → Kp [a.b] H H' → Q .non H'
def spLaw (K : PySem.W.Frag) : Sp := fun vs H Q _ => ∃ (a : Addr) (ns : List Int), vs = [.ref a] ∧ SqL K H a (ns.map V.int) ∧ ns.length ≤ 63 ∧ ∀ H', Q (.bl true) H'

section
variable {P : Program} {w : World} {K : PySem.W.Frag} {mg : Str → Option Value} {base : Heap} {C_Model : Addr}
theorem ok_best_plain {f : Addr} {fd : FuncData} (F : Fun K "best_plain" "best_plain" s_best_plain f fd) (B : Bi K mg C_Model) (D_solutions : Is P w K mg base (L2.CX P w) 6 "solutions" ["model"] (spSolsX K C_Model)) (D_Model_worth : IsM P w K mg base CX0 2 C_Model "worth" ["self", "point"] (spWorth K C_Model)) (D_Model_is_better : IsM P w K mg base CX0 1 C_Model "is_better" ["self", "first", "second"] (spBetter K C_Model)) : FnOk P w K mg base (L2.CX P w) 7 f fd ["model"] (spBestX K C_Model) := by
  have nd := sc_best_plain.nd
  obtain ⟨f_Model_worth, fd_Model_worth, G_Model_worth, m_Model_worth, b_Model_worth⟩ := D_Model_worth.ex
  obtain ⟨f_Model_is_better, fd_Model_is_better, G_Model_is_better, m_Model_is_better, b_Model_is_better⟩ := D_Model_is_better.ex
  refine F.okX sc_best_plain ?len (fun cdv A outer s H vs Q E hr h => ?body)
  case len =>
    rintro vs H Q E ⟨a, M, rfl, _⟩
    rfl
  case body =>
    obtain ⟨a, M, rfl, hM, ok, k0, kE⟩ := h
    refine ⟨_, (pss_cons (ps_set (i := 1) nd rfl (Or.inl rfl) pe_non)
      (pss_cons (ps_for (passes_of rfl) rfl ((piLst K) (pe_is D_solutions (hr.mono (by decide)) rfl (passes_call (takes_of rfl rfl rfl rfl) (fun _ _ _ _ h => h)) (pa_cons (pv 0) pa_nil))) (pg_name (i := 2) nd rfl (Or.inl rfl))
      (pss_cons (ps_set (i := 3) nd rfl (Or.inl rfl) (pe_meth (pv 0) D_Model_worth.cl m_Model_worth G_Model_worth (hr.mono (by decide)) b_Model_worth .nil pass0 (pa_cons (pv 2) pa_nil)))
      (pss_one (ps_if (PW.pt (pw_or (pt_cmpR cg_isN (pv 1) pe_non (nomark _)) (pw_or1 (pt_val (pe_meth (pv 0) D_Model_is_better.cl m_Model_is_better G_Model_is_better (hr.mono (by decide)) b_Model_is_better .nil pass0 (pa_cons (pv 3) (pa_cons (pe_ix (ixT K) (pv 1) pe_int (fun _ _ => rfl)) pa_nil)))))))
      (pss_one (ps_set (i := 1) nd rfl (Or.inl rfl) (pe_tup (pa_cons (pv 3) (pa_cons (pv 2) pa_nil)))))
      pss_nil))))
      (pss_one (ps_ret (pv 1))))), ?_⟩
    try dsimp only [L2.cxOf, L2.Cx.nox, L2.Cx.wish]
    rw [st_best_plain]
    walk_at "cg"
    refine ⟨a, M, rfl, hM, ok, fun hz D L refs H1 hD eD hA al k1 => ?_, fun hz H1 k1 => kE hz H1 k1⟩
    have k := k0 hz
    clear k0 kE
    have M1 := hM.kp0 k1
    walk_at "cg"
    refine r_forLD [] eD (fun z => nomatch z) hA (fun i σ' H' => ∃ (v : V) (b : Option (List Int)) (x2 x3 : Option V), σ' = [some (.ref a.p), some (v), x2, x3] ∧ BestOf M.g (L.take i) b ∧ BestAt K H' M.g v b ∧ Kp [] H1 H') ⟨_, none, _, _, rfl, .nil _, rfl, .refl⟩ (fun i σ' H' ⟨_, _, _, _, _, _, _, kk⟩ => kk) ?_ ?_
    · rintro i z x σ' H2 hz' hx _ ⟨v, b, x2, x3, rfl, hb, hv, k2⟩
      obtain ⟨px, rfl⟩ := Im.isRef (show Im K H2 x (.tuple _) from hx)
      have sx := hx.intsT
      have zL := List.mem_of_getElem? hz'
      have bz := al.b z zL
      have M2 := M1.kp0 k2
      have et : L.take (i + 1) = L.take i ++ [z] := by rw [List.take_add_one, hz']; rfl
      have lz : ∀ r ∈ L.take i, lx r z = true := fun r hr => by
        obtain ⟨j, hj⟩ := List.getElem?_of_mem hr
        have hji : j < i := by
          have := (List.getElem?_eq_some_iff.mp hj).1
          rw [List.length_take] at this
          omega
        rw [List.getElem?_take_of_lt hji] at hj
        obtain ⟨h1, rfl⟩ := List.getElem?_eq_some_iff.mp hj
        obtain ⟨h2, rfl⟩ := List.getElem?_eq_some_iff.mp hz'
        exact List.pairwise_iff_getElem.mp al.s j i h1 h2 hji
      walk_at "cg"
      refine ⟨a, px, M, at_ z, rfl, M2, ok, (PtL.of ok sx bz).m, fun H3 k3 => ?_⟩
      have K3 := Kp.tr0 k3 k2
      have M3 := M2.kp0 k3
      have v3 := hv.kp k3
      have s3 := k3.tup sx
      clear k2 M2 hv sx hx k3
      cases b with
      | none =>
        obtain rfl : v = .non := v3
        walk_at "cg"
        rename_i p4 H4 hp4 s4 k4
        exact ⟨_, some z, _, _, rfl, by rw [et]; exact hb.first, ⟨p4, px, rfl, s4, k4.tup s3⟩, Kp.tr0 k4 K3⟩
      | some p =>
        obtain ⟨r, q, rfl, r1, r2⟩ := v3
        walk_at "cg"
        refine ⟨a, _, _, M, rfl, M3, ?_⟩
        cases e : M.g.btr (M.g.val (at_ z)) (M.g.val (at_ p)) with
        | true =>
          walk_at "cg"
          rename_i p4 H4 hp4 s4 k4
          exact ⟨_, some z, _, _, rfl, by rw [et]; exact hb.take e, ⟨p4, px, rfl, s4, k4.tup s3⟩, Kp.tr0 k4 K3⟩
        | false =>
          walk_at "cg"
          exact ⟨_, some p, _, _, rfl, by rw [et]; exact hb.keep e lz, ⟨r, q, rfl, r1, r2⟩, K3⟩
    · rintro σ' H2 _ ⟨v, b, x2, x3, rfl, hb, hv, k2⟩
      rw [List.take_length] at hb
      walk_at "cg"
      exact k v L b H2 al hb hv (Kp.tr0 k2 k1)
theorem ok_Model_withdraw {f : Addr} {fd : FuncData} (F : Fun K "withdraw" "Model.withdraw" s_Model_withdraw f fd) (B : Bi K mg C_Model)  : FnOk P w K mg base CX0 1 f fd ["self", "label"] (spWithdraw K C_Model) := by
  have nd := sc_Model_withdraw.nd
  refine F.ok sc_Model_withdraw ?len (fun cdv A outer s H vs Q E hr h => ?body)
  case len =>
    rintro vs H Q E ⟨a, s, M, rfl, _⟩
    rfl
  case body =>
    obtain ⟨a, s, M, rfl, hM, nd, hs, k⟩ := h
    refine ⟨_, (pss_cons (ps_if (pt_cmp (pc_dnotin (hu_of hr) (pv 1) (pe_fld (pv 0) rfl)))
      (pss_one ps_never)
      pss_nil)
      (pss_one (ps_expr (pe_dpop1 (pe_fld (pv 0) rfl) (pv 1) ⟨rfl, rfl, rfl, rfl⟩)))), ?_⟩
    try dsimp only [L2.cxOf, L2.Cx.nox, L2.Cx.wish]
    rw [st_Model_withdraw]
    have c := B.cl_Model
    have a4 := B.at_Model__bodies
    obtain ⟨dx, fs, g, h1, h2, h3⟩ := hM.ob
    obtain ⟨kvs, h4, h5, h6⟩ := hM.bo
    have l4 := h2.bo
    obtain ⟨b, hb, rfl⟩ := List.mem_map.mp hs
    obtain ⟨i, hi⟩ := List.getElem?_of_mem hb
    have hkl : kvs.length = M.bs.length := by
      have := congrArg List.length h5
      simpa using this
    have hil := (List.getElem?_eq_some_iff.mp hi).1
    obtain ⟨kv, hkv⟩ : ∃ kv, kvs[i]? = some kv := ⟨_, List.getElem?_eq_getElem (by omega)⟩
    have e1 : kv.1 = Sum.inr b.1 := by
      have := congrArg (fun l => l[i]?) h5
      simp only [List.getElem?_map, hkv, hi, Option.map_some] at this
      exact Option.some.inj this
    have hv : valV kvs (Sum.inr b.1) = some kv.2 := valV_at (i := i) (by
      rw [show kvs.map (·.1) = kvs.map (fun z => z.1) from rfl, h5, show M.bs.map (fun b => (Sum.inr b.1 : Key)) = (M.bs.map (·.1)).map Sum.inr by rw [List.map_map]; rfl]
      exact List.Pairwise.map _ (fun a b h e => h (Sum.inr.inj e)) nd) (by rw [hkv, ← e1])
    obtain ⟨d1, d2⟩ := drop_par (s := b.1) h5 h6
    walk_at "cg"
    refine r_notInDk1 (k := Sum.inr b.1) h4 hv ?_
    walk_at "cg"
    refine ⟨a.b, rfl, .inl ⟨_, .inl h4⟩, ?_⟩
    walk_at "cg"
    refine ⟨kvs, Sum.inr b.1, kv.2, h4, rfl, hv, ?_⟩
    have kp : Kp [a.b] H (upd H a.b (.dK (dropK kvs (Sum.inr b.1)))) := Kp.put h4 trivial
    have e4 : (upd H a.b (.dK (dropK kvs (Sum.inr b.1)))) a.b = some (.dK (dropK kvs (Sum.inr b.1))) := upd_same
    walk_at "cg"
    refine k _ ⟨⟨dx, fs, g, kp.get1 (ne_of h1 h4 (fun e => by cases e)) h1, h2, kp.im h3⟩, kp.get1 (ne_of hM.nm h4 (fun e => by cases e)) hM.nm, kp.get1 (ne_of hM.lo h4 (fun e => by cases e)) hM.lo, kp.get1 (ne_of hM.hi h4 (fun e => by cases e)) hM.hi, ⟨_, e4, d1, kp.imAll d2⟩, hM.ne⟩ kp

end
def MR (e : Int) : Mdl := ⟨[(Str.ofString "x", 0, 99), (Str.ofString "y", 0, 199 + e)], [(Str.ofString "c", .row [(0, 1)] .le (-1))], goal0⟩
theorem MR_ok {e : Int} (h : e = 0 ∨ e = 1) : (MR e).ok := by
  rcases h with rfl | rfl
  all_goals
    refine ⟨by decide, by decide, fun u hu => ?_, by decide +kernel, fun b hb => ?_, by decide +kernel, fun b hb => ?_, by decide, ?_⟩
    · simp only [MR, List.mem_cons, List.not_mem_nil, or_false] at hu
      rcases hu with rfl | rfl <;> exact ⟨by decide +kernel, by decide +kernel, by decide, by decide, by decide⟩
    · simp only [MR, List.mem_cons, List.not_mem_nil, or_false] at hb
      subst hb
      exact ⟨by decide +kernel, by decide +kernel⟩
    · simp only [MR, List.mem_cons, List.not_mem_nil, or_false] at hb
      subst hb
      refine ⟨⟨by decide, by simp, fun z hz => ?_⟩, by decide, by decide, by decide⟩
      rw [List.mem_singleton] at hz
      subst hz
      exact ⟨by decide, by decide, by decide, by decide, by decide⟩
    · exact ⟨⟨by decide, by decide, fun z hz => by cases hz⟩, by decide, by decide⟩
theorem MR_no {e : Int} {f : Pt} (h : (MR e).sol f = true) : False := by
  unfold Mdl.sol at h
  rw [Bool.and_eq_true, decide_eq_true_eq] at h
  have h0 := List.all_eq_true.mp (show ((List.range 2).all fun i => decide (((MR e).us.map (·.2.1)).getD i 0 ≤ f i) && decide (f i ≤ ((MR e).us.map (·.2.2)).getD i 0)) = true from h.1) 0 (by decide)
  rw [Bool.and_eq_true, decide_eq_true_eq] at h0
  have h1 : (0 : Int) ≤ f 0 := h0.1
  cases hb : decide (sumF [(0, 1)] f ≤ -1) with
  | true =>
    rw [decide_eq_true_eq] at hb
    simp [sumF] at hb
    omega
  | false =>
    have m : Str.ofString "c" ∈ (MR e).brk f := List.mem_map.mpr ⟨(Str.ofString "c", .row [(0, 1)] .le (-1)), List.mem_filter.mpr ⟨List.mem_cons_self, by
      show (!(Body.row [(0, 1)] .le (-1)).h f) = true
      rw [show (Body.row [(0, 1)] .le (-1)).h f = decide (sumF [(0, 1)] f ≤ -1) from rfl, hb]
      rfl⟩, rfl⟩
    rw [h.2] at m
    cases m
section
variable {P : Program} {w : World} {K : PySem.W.Frag} {mg : Str → Option Value} {base : Heap} {C_Model : Addr}
theorem ok_law_refused {f : Addr} {fd : FuncData} (F : Fun K "_law_refused" "_law_refused" s_law_refused f fd) (B : Bi K mg C_Model) (D_Model___init__ : IsI P w K mg base CX0 2 C_Model "Model" ["self", "unknowns"] (spInit K C_Model)) (D_Model_put : IsM P w K mg base CX0 4 C_Model "put" ["self", "label", "body"] (spPut K C_Model)) (D_best_plain : Is P w K mg base (L2.CX P w) 7 "best_plain" ["model"] (spBestX K C_Model)) (D_solutions : Is P w K mg base (L2.CX P w) 6 "solutions" ["model"] (spSolsX K C_Model)) : FnOk P w K mg base CX0 8 f fd ["_law_extra"] (spRefused K) := by
  have nd := sc_law_refused.nd
  obtain ⟨f_Model___init__, fd_Model___init__, G_Model___init__, m_Model___init__, b_Model___init__, g_Model___init__⟩ := D_Model___init__.ex
  obtain ⟨f_Model_put, fd_Model_put, G_Model_put, m_Model_put, b_Model_put⟩ := D_Model_put.ex
  refine F.ok sc_law_refused ?len (fun cdv A outer s H vs Q E hr h => ?body)
  case len =>
    rintro vs H Q E ⟨e, rfl, _⟩
    rfl
  case body =>
    obtain ⟨e, rfl, he, k⟩ := h
    refine ⟨_, (pss_cons (ps_set (i := 1) nd rfl (Or.inl rfl) (pe_make m_Model___init__ G_Model___init__ (hr.mono (by decide)) rfl g_Model___init__ b_Model___init__ .nil pass0 (pa_cons (pe_lst (pa_cons (pe_tup (pa_cons pe_str (pa_cons pe_int (pa_cons pe_int pa_nil)))) (pa_cons (pe_tup (pa_cons pe_str (pa_cons pe_int (pa_cons (pe_op op_add pe_int (pv 0)) pa_nil)))) pa_nil))) pa_nil)))
      (pss_cons (ps_expr (pe_meth (pv 1) D_Model_put.cl m_Model_put G_Model_put (hr.mono (by decide)) b_Model_put .nil pass0 (pa_cons pe_str (pa_cons (pe_tup (pa_cons pe_str (pa_cons (pe_tup (pa_cons (pe_tup (pa_cons pe_int (pa_cons pe_int pa_nil))) pa_nil)) (pa_cons pe_str (pa_cons (pe_op op_sub pe_int pe_int) pa_nil))))) pa_nil))))
      (pss_cons (ps_set (i := 2) nd rfl (Or.inl rfl) pe_int)
      (pss_cons (ps_try_only rfl rfl ⟨rfl, by decide, .inl B.e_TooLarge.m⟩ takes0
      (fun W pn xe tk po => (pss_one (ps_if (pt_cmpR cg_notN (pe_isS D_best_plain (hr.mono (by decide)) rfl (fun σ => passAt tk σ) (pa_cons (pv 1) pa_nil)) pe_non (nomark _))
      (pss_one (ps_ret (pe_op op_sub pe_int pe_int)))
      pss_nil)))
      (fun a oe cls d pn _ _ => (pss_one (ps_set (i := 2) nd rfl (Or.inl rfl) (pe_op op_add (pv 2) pe_int)))))
      (pss_cons (ps_if (pt_cmpR op_eq (pv 0) pe_int (nomark _))
      (pss_one (ps_try_only rfl rfl ⟨rfl, by decide, .inl B.e_TooLarge.m⟩ takes0
      (fun W pn xe tk po => (pss_one (ps_expr (pe_isS D_solutions (hr.mono (by decide)) rfl (fun σ => passAt tk σ) (pa_cons (pv 1) pa_nil)))))
      (fun a oe cls d pn _ _ => (pss_one (ps_set (i := 2) nd rfl (Or.inl rfl) (pe_op op_add (pv 2) pe_int))))))
      pss_nil)
      (pss_one (ps_ret (pv 2)))))))), ?_⟩
    try dsimp only [L2.cxOf, L2.Cx.nox, L2.Cx.wish]
    rw [st_law_refused]
    have ok := MR_ok he
    walk_at "cg"
    rename_i px H1 hpx sx k1 py H2 hpy sy k2 l H3 hl el k3
    refine r_make fun p dx H4 hp ep k4 => ?_
    have K3 := Kp.tr0 k3 (Kp.tr0 k2 k1)
    refine ⟨p, l, dx, _, (MR e).us, rfl, ep, k4.get0 el, .cons ((Kp.tr0 k4 (Kp.tr0 k3 k2)).im (.tup sx (.cons (.str _) (.cons (.int _) (.cons (.int _) .nil))))) (.cons ((Kp.tr0 k4 k3).im (.tup sy (.cons (.str _) (.cons (.int _) (.cons (.int _) .nil))))) .nil), ok.n0, ok.n1, ok.un, ok.nd, fun a H5 ea M5 fr k5 => ⟨rfl, ?_⟩⟩
    subst ea
    have hp0 : H a.p = none := K3.free0 hp
    have frH : ∀ x ∈ a.all, H x = none := fun x hx => by
      rcases fr x hx with z | z
      · rw [z]
        exact hp0
      · exact K3.free0 (k4.free0 z)
    have K5 : Kp [] H H5 := Kp.trN k5 (Kp.tr0 k4 K3) hp0
    clear k1 k2 k3 k4 k5 K3 el ep sx sy fr hp
    walk_at "cg"
    rename_i p6 H6 hp6 s6 k6 p7 H7 hp7 s7 k7 p8 H8 hp8 s8 k8
    have K8 := Kp.tr0 k8 (Kp.tr0 k7 (Kp.tr0 k6 K5))
    refine ⟨a, Str.ofString "c", p8, .row [(0, 1)] .le (-1), _, rfl, ((M5.kp0 k6).kp0 k7).kp0 k8, by decide +kernel, by decide +kernel, by simp, .tup s8 (.cons (.str _) (.cons (k8.im (.tup s7 (.cons (k7.im (.tup s6 (.cons (.int _) (.cons (.int _) .nil)))) .nil))) (.cons (.str _) (.cons (.int _) .nil)))), ok.bf _ List.mem_cons_self, by simp, fun H9 M9 k9 => ?_⟩
    have K9 : Kp [] H H9 := Kp.trN k9 K8 (frH _ (by simp [MA.all]))
    have M9 : MdlAt K C_Model H9 a (MR e) := M9
    clear M5 K5 K8 k6 k7 k8 k9 s6 s7 s8
    walk_at "cg"
    rcases he with rfl | rfl
    · refine ⟨a, MR 0, rfl, M9, ok, fun _ v L b H10 al hb hv k10 => ?_, fun h => absurd h (by decide)⟩
      have eL : L = [] := List.eq_nil_iff_forall_not_mem.mpr fun z hz => MR_no ((al.m z (al.b z hz)).mp hz)
      subst eL
      rw [if_neg (by decide)] at k
      cases b with
      | some p => exact absurd (hb.s p rfl).1 (by simp)
      | none =>
        obtain rfl : v = .non := hv
        walk_at "cg"
        exact k H10 (Kp.tr0 k10 K9)
    · rw [if_pos rfl] at k
      refine ⟨a, MR 1, rfl, M9, ok, fun h => absurd h (by decide), fun _ H10 k10 => ⟨true, B.x_TooLarge_TooLarge, fun _ a9 ha9 => ?_, fun h => by cases h⟩⟩
      walk_at "cg"
      refine ⟨a, MR 1, rfl, M9.kp0 k10, ok, fun h => absurd h (by decide), fun _ H11 k11 => ⟨true, B.x_TooLarge_TooLarge, fun _ a10 ha10 => ?_, fun h => by cases h⟩⟩
      walk_at "cg"
      exact k H11 (Kp.tr0 k11 (Kp.tr0 k10 K9))
end

section
variable {P : Program} {w : World} {K : PySem.W.Frag} {mg : Str → Option Value} {base : Heap} {C_Model : Addr}
theorem ok_law_solution {f : Addr} {fd : FuncData} (F : Fun K "_law_solution" "_law_solution" s_law_solution f fd) (B : Bi K mg C_Model) (D_law_holds : Is P w K mg base CX0 3 "_law_holds" ["_law_body_here", "_law_point_here"] (spHolds K)) : FnOk P w K mg base CX0 4 f fd ["_law_world_here", "_law_point_here"] (spLawSol K) := by
  have nd := sc_law_solution.nd
  refine F.ok sc_law_solution ?len (fun cdv A outer s H vs Q E hr h => ?body)
  case len =>
    rintro vs H Q E ⟨wa, q, M, pt, rfl, _⟩
    rfl
  case body =>
    obtain ⟨wa, q, M, pt, rfl, W, ok, hP, k⟩ := h
    refine ⟨_, (pss_cons (ps_for PassesOwn.never rfl (pi_range1 rfl B.n_range (pa_cons (pe_callB (cgLen K) (by rfl) B.n_len PySem.boot_len (pa_cons (pv 1) pa_nil)) pa_nil)) (pg_name (i := 2) nd rfl (Or.inl rfl))
      (pss_one (ps_if (PW.pt (pw_or (pt_cmpR op_lt (pe_ix (ixT K) (pv 1) (pv 2) (fun _ _ => rfl)) (pe_ix (ixT K) (pe_ix (ixL K) (pe_ix (ixL K) (pv 0) pe_int (fun _ _ => rfl)) (pv 2) (fun _ _ => rfl)) pe_int (fun _ _ => rfl)) (nomark _)) (pw_or1 (pt_cmpR op_gt (pe_ix (ixT K) (pv 1) (pv 2) (fun _ _ => rfl)) (pe_ix (ixT K) (pe_ix (ixL K) (pe_ix (ixL K) (pv 0) pe_int (fun _ _ => rfl)) (pv 2) (fun _ _ => rfl)) pe_int (fun _ _ => rfl)) (nomark _)))))
      (pss_one (ps_ret pe_bl))
      pss_nil)))
      (pss_cons (ps_for PassesOwn.never rfl ((piLst K) (pe_ix (ixL K) (pv 0) pe_int (fun _ _ => rfl))) (pg_tup (n := 2) rfl (pgs_cons (pg_name (i := 3) nd rfl (Or.inl rfl)) (pgs_cons (pg_name (i := 4) nd rfl (Or.inl rfl)) pgs_nil)))
      (pss_one (ps_if (pt_not (pt_val (pe_is D_law_holds (hr.mono (by decide)) rfl pass0 (pa_cons (pv 4) (pa_cons (pv 1) pa_nil)))))
      (pss_one (ps_ret pe_bl))
      pss_nil)))
      (pss_one (ps_ret pe_bl)))), ?_⟩
    try dsimp only [L2.cxOf, L2.Cx.nox, L2.Cx.wish]
    rw [st_law_solution]
    obtain ⟨pg, w1, w2⟩ := W.w
    obtain ⟨r1, w3, w4⟩ := W.u
    obtain ⟨r2, w5, w6⟩ := W.f
    have sP := hP.s
    have nP := hP.n
    have hln : ((pt.map V.int).length : Int) = pt.length := by rw [List.length_map]
    have hn60 : pt.length ≤ 60 := by have := ok.n1; omega
    walk_at "cg"
    have no : ∀ {i : Nat} {u : Str × Int × Int}, M.us[i]? = some u → ¬ (u.2.1 ≤ at_ pt (i : Int) ∧ at_ pt (i : Int) ≤ u.2.2) → Q (.bl false) H := fun {i u} hu h => by
      have q2 := k H .refl
      unfold Mdl.sol at q2
      rw [inB_no hu h, Bool.false_and] at q2
      exact q2
    refine r_forR (fun i σ' H' => ∃ x2 : Option V, σ' = [some (.ref wa.w), some (.ref q), x2, none, none] ∧ H' = H ∧ inN M.us (at_ pt) i = true) ⟨none, rfl, rfl, rfl⟩ ?_ ?_
    · rintro i σ' H' hi ⟨x2, rfl, rfl, hb⟩
      have hi2 : i < pt.length := by omega
      have hi3 : i < M.us.length := by omega
      obtain ⟨u, hu⟩ : ∃ u, M.us[i]? = some u := ⟨_, List.getElem?_eq_getElem hi3⟩
      obtain ⟨x, ex, hux⟩ := mapGetI w4 hu
      obtain ⟨px, rfl, sx⟩ := un_at hux
      have ep : atI (pt.map V.int) (0 + (i : Int)) = some (.int (at_ pt (i : Int))) := by
        rw [Int.zero_add]
        exact atI_ints (by omega) (by omega)
      have su := inN_succ (f := at_ pt) hu
      have no' := no hu
      generalize at_ pt (i : Int) = y at *
      walk_at "cg"
      refine r_ixT sP ep ?_
      walk_at "cg"
      refine r_ixL w3 ex ?_
      walk_at "cg"
      refine if_S (fun g1 => ?_) (fun g1 => ?_)
      · walk_at "cg"
        exact no' (by omega)
      · walk_at "cg"
        refine r_ixT sP ep ?_
        walk_at "cg"
        refine r_ixL w3 ex ?_
        walk_at "cg"
        refine if_S (fun g2 => ?_) (fun g2 => ?_)
        · walk_at "cg"
          exact no' (by omega)
        · walk_at "cg"
          refine ⟨_, rfl, rfl, ?_⟩
          rw [su, hb, Bool.true_and, decide_eq_true (by omega), decide_eq_true (by omega)]
          rfl
    · rintro σ' H' ⟨x2, rfl, rfl, hb⟩
      have hin : inB M.us (at_ pt) = true := by
        rw [inN_all, ← nP, ← hb]
        congr 1
        omega
      walk_at "cg"
      refine r_forLD [] w5 (fun z => nomatch z) w6 (fun i σ' H3 => ∃ x2 x3 x4 : Option V, σ' = [some (.ref wa.w), some (.ref q), x2, x3, x4] ∧ Kp [] H' H3 ∧ ∀ (j : Nat) b, j < i → M.bs[j]? = some b → b.2.h (at_ pt) = true) ⟨_, _, _, rfl, .refl, fun j b h => by omega⟩ (fun i σ' H3 ⟨_, _, _, _, k3, _⟩ => k3) ?_ ?_
      · rintro i b x σ' H3 hbi hx k3 ⟨x2, x3, x4, rfl, _, hall⟩
        obtain ⟨pb, qb, rfl, sb, Ib⟩ := lab_at hx
        have fb := ok.bf b (List.mem_of_getElem? hbi)
        walk_at "cg"
        refine ⟨qb, q, b.2, at_ pt, _, rfl, Ib, b.2.fit_bd fb, (hP.kp0 k3).m.at_, fun v _ => by have := hP.b v; omega, b.2.fit_vars fb, fun H4 k4 => ?_⟩
        cases e : b.2.h (at_ pt)
        · walk_at "cg"
          have q2 := k H4 (Kp.tr0 k4 k3)
          rw [brk_no hbi e] at q2
          exact q2
        · walk_at "cg"
          refine ⟨_, _, _, rfl, Kp.tr0 k4 k3, fun j b' hj hb' => ?_⟩
          rcases Nat.lt_or_ge j i with h | h
          · exact hall j b' h hb'
          · have : j = i := by omega
            subst this
            rw [hbi] at hb'
            cases hb'
            exact e
      · rintro σ' H3 k3 ⟨x2, x3, x4, rfl, _, hall⟩
        walk_at "cg"
        have q2 := k H3 k3
        unfold Mdl.sol at q2
        rw [hin, brk_all hall, decide_eq_true rfl, Bool.true_and] at q2
        exact q2

theorem ok_law_right {f : Addr} {fd : FuncData} (F : Fun K "_law_right" "_law_right" s_law_right f fd) (B : Bi K mg C_Model) (D_best_plain : Is P w K mg base (L2.CX P w) 7 "best_plain" ["model"] (spBestX K C_Model)) (D_law_point : Is P w K mg base CX0 2 "_law_point" ["_law_tape_here", "_law_unknowns"] (spLawPoint K)) (D_law_solution : Is P w K mg base CX0 4 "_law_solution" ["_law_world_here", "_law_point_here"] (spLawSol K)) (D_law_sum : Is P w K mg base CX0 1 "_law_sum" ["_law_terms_here", "_law_point_here"] (spSumF K)) : FnOk P w K mg base CX0 8 f fd ["_law_tape_here", "_law_model_here", "_law_world_here"] (spRight K C_Model) := by
  have nd := sc_law_right.nd
  refine F.ok sc_law_right ?len (fun cdv A outer s H vs Q E hr h => ?body)
  case len =>
    rintro vs H Q E ⟨t, c, wa, a, M, rfl, _⟩
    rfl
  case body =>
    obtain ⟨t, c, wa, a, M, rfl, T, W, hM, ok, nw, om, hz, k⟩ := h
    refine ⟨_, (pss_cons (ps_set (i := 3) nd rfl (Or.inl rfl) (pe_is D_best_plain (hr.mono (by decide)) rfl passL (pa_cons (pv 1) pa_nil)))
      (Evl.pss_cut (ps_if (pt_cmpR cg_notN (pv 3) pe_non (nomark _))
      (pss_cons (ps_if (PW.pt (pw_or (pt_not (pt_val (pe_callB (cgIsi K) (by rfl) B.n_isinstance (by decide +kernel) (pa_cons (pv 3) (pa_cons (pe_bltn (v := .ty "tuple") rfl B.n_tuple (by decide +kernel) rfl) pa_nil))))) (pw_or (pt_cmpR op_ne (pe_callB (cgLen K) (by rfl) B.n_len PySem.boot_len (pa_cons (pv 3) pa_nil)) pe_int (nomark _)) (pw_or1 (pt_not (pt_val (pe_is D_law_solution (hr.mono (by decide)) rfl pass0 (pa_cons (pv 2) (pa_cons (pe_ix (ixT K) (pv 3) pe_int (fun _ _ => rfl)) pa_nil)))))))))
      (pss_one (ps_ret pe_bl))
      pss_nil)
      (pss_one (ps_if (pt_cmpR op_ne (pe_ix (ixT K) (pv 3) pe_int (fun _ _ => rfl)) (pe_op op_add (pe_is D_law_sum (hr.mono (by decide)) rfl pass0 (pa_cons (pe_ix (ixT K) (pe_ix (ixL K) (pv 2) pe_int (fun _ _ => rfl)) pe_int (fun _ _ => rfl)) (pa_cons (pe_ix (ixT K) (pv 3) pe_int (fun _ _ => rfl)) pa_nil))) (pe_ix (ixT K) (pe_ix (ixL K) (pv 2) pe_int (fun _ _ => rfl)) pe_int (fun _ _ => rfl))) (nomark _))
      (pss_one (ps_ret pe_bl))
      pss_nil)))
      pss_nil)
      (pss_cons (ps_for PassesOwn.never rfl (pi_range1 rfl B.n_range (pa_cons pe_int pa_nil)) (pg_name (i := 4) nd rfl (Or.inl rfl))
      (pss_cons (ps_set (i := 5) nd rfl (Or.inl rfl) (pe_is D_law_point (hr.mono (by decide)) rfl pass0 (pa_cons (pv 0) (pa_cons (pe_ix (ixL K) (pv 2) pe_int (fun _ _ => rfl)) pa_nil))))
      (pss_one (ps_if (pt_val (pe_is D_law_solution (hr.mono (by decide)) rfl pass0 (pa_cons (pv 2) (pa_cons (pv 5) pa_nil))))
      (pss_cons (ps_if (pt_cmpR cg_isN (pv 3) pe_non (nomark _))
      (pss_one (ps_ret pe_bl))
      pss_nil)
      (pss_cons (ps_set (i := 6) nd rfl (Or.inl rfl) (pe_op op_add (pe_is D_law_sum (hr.mono (by decide)) rfl pass0 (pa_cons (pe_ix (ixT K) (pe_ix (ixL K) (pv 2) pe_int (fun _ _ => rfl)) pe_int (fun _ _ => rfl)) (pa_cons (pv 5) pa_nil))) (pe_ix (ixT K) (pe_ix (ixL K) (pv 2) pe_int (fun _ _ => rfl)) pe_int (fun _ _ => rfl))))
      (pss_cons (ps_set (i := 7) nd rfl (Or.inl rfl) (pe_cmpR op_gt (pv 6) (pe_ix (ixT K) (pv 3) pe_int (fun _ _ => rfl)) (nomark _)))
      (Evl.pss_cut (ps_if (pt_cmpR op_eq (pe_ix (ixT K) (pe_ix (ixL K) (pv 2) pe_int (fun _ _ => rfl)) pe_int (fun _ _ => rfl)) pe_str (nomark _))
      (pss_one (ps_set (i := 7) nd rfl (Or.inl rfl) (pe_cmpR op_lt (pv 6) (pe_ix (ixT K) (pv 3) pe_int (fun _ _ => rfl)) (nomark _))))
      pss_nil)
      (pss_one (ps_if (PW.pt (pw_or (pt_val (pv 7)) (pw_or1 (PW.pt (pw_and (pt_cmpR op_eq (pv 6) (pe_ix (ixT K) (pv 3) pe_int (fun _ _ => rfl)) (nomark _)) (pw_and1 (pt_cmpR (ltT K hr) (pv 5) (pe_ix (ixT K) (pv 3) pe_int (fun _ _ => rfl)) (nomark _))))))))
      (pss_one (ps_ret pe_bl))
      pss_nil))))))
      pss_nil))))
      (pss_one (ps_ret pe_bl))))), ?_⟩
    try dsimp only [L2.cxOf, L2.Cx.nox, L2.Cx.wish]
    rw [st_law_right]
    have uok : ∀ u ∈ M.us, -1000 ≤ u.2.1 ∧ u.2.1 ≤ u.2.2 ∧ u.2.2 ≤ 1000 := fun u hu => (ok.un u hu).2.2
    have tf := ok.gf.1
    walk_at "cg"
    refine ⟨a, M, rfl, hM, ok, fun _ v L b H1 al hb hv k1 => ?_, fun h => absurd h (by omega)⟩
    have T1 := T.kp0 k1
    have W1 := W.kp0 k1
    have KK := Kp.tr0 k1 (Tp.base T)
    clear k1 T W hM
    walk_at "cg"
    refine ⟨fun σ' H' => σ' = [some (.ref t), some (.ref a.p), some (.ref wa.w), some (v), none, none, none, none] ∧ Kp [] H1 H', ?_, ?_⟩
    · cases b with
      | none =>
        obtain rfl : v = .non := hv
        walk_at "cg"
        exact ⟨rfl, .refl⟩
      | some p =>
        obtain ⟨r, q, rfl, r1, r2⟩ := hv
        have pL := (hb.s p rfl).1
        have bp := al.b p pL
        have sp : M.sol (at_ p) = true := (al.m p bp).mp pL
        obtain ⟨pg, w1, w2⟩ := W1.w
        obtain ⟨_, qg, e, s1, i1⟩ := goal_at w2
        cases e
        have P1 := PtL.of ok r2 bp
        walk_at "cg"
        refine ⟨wa, q, M, p, rfl, W1, ok, P1, fun H2 k2 => ?_⟩
        rw [sp]
        have s12 := k2.tup s1
        have i12 := k2.im i1
        have P2 := P1.kp0 k2
        walk_at "cg"
        refine spSumF_i i12 P2.m.at_ (fun z hz => ⟨(tf.2.2 z hz).1, (tf.2.2 z hz).2.1⟩) tf.bd ?_
        unfold Goal.val at *
        walk_at "cg"
        exact ⟨rfl, k2⟩
    rintro σ' H2 ⟨rfl, k2⟩
    have T2 := T1.kp0 k2
    have W2 := W1.kp0 k2
    have v2 := hv.kp k2
    have KK := Kp.tr0 k2 KK
    clear T1 W1 k2 hv
    walk_at "cg"
    refine r_forR (fun i σ' H' => ∃ x5 x6 x7 x8 : Option V, σ' = [some (.ref t), some (.ref a.p), some (.ref wa.w), some (v), x5, x6, x7, x8] ∧ Tp t c H' ∧ WorldAt K H' wa M ∧ BestAt K H' M.g v b ∧ Kp [t] H H') ⟨_, _, _, _, rfl, T2, W2, v2, KK⟩ ?_ ?_
    · clear T2 W2 v2 KK
      rintro i σ' H3 hi ⟨x5, x6, x7, x8, rfl, T3, W3, v3, KK⟩
      obtain ⟨ru, w3, w4⟩ := W3.u
      obtain ⟨pg, w1, _⟩ := W3.w
      walk_at "cg"
      refine ⟨t, c, wa.u, ru, M.us, rfl, T3, w3, nw _ (by simp [WA.all]), w4, ok.n1, uok, fun pp pt H4 S4 hin T4 k4 => ?_⟩
      have W4 := W3.kp1 k4 nw
      have v4 := v3.kp k4
      have KK := Kp.tr1 k4 KK
      have ib := inBx_of hin
      have P4 := PtL.of ok S4 ib
      clear w1 w3 w4 W3 v3 T3 k4
      walk_at "cg"
      refine ⟨wa, pp, M, pt, rfl, W4, ok, P4, fun H5 k5 => ?_⟩
      have T5 := T4.kp0 k5
      have W5 := W4.kp0 k5
      have v5 := v4.kp k5
      have P5 := P4.kp0 k5
      have KK := Kp.tr0 k5 KK
      clear T4 W4 v4 P4 S4 k5
      cases es : M.sol (at_ pt) with
      | false =>
        walk_at "cg"
        exact ⟨_, _, _, _, rfl, T5, W5, v5, KK⟩
      | true =>
        cases b with
        | none =>
          have := (al.m pt ib).mpr es
          rw [hb.n rfl] at this
          cases this
        | some p =>
          obtain ⟨n1, n2⟩ := BestOf.law al hb ib es
          have v6 := v5
          obtain ⟨r, q, rfl, r1, r2⟩ := v5
          obtain ⟨pg, w1, w2⟩ := W5.w
          obtain ⟨_, qg, e, s1, i1⟩ := goal_at w2
          cases e
          walk_at "cg"
          refine spSumF_i i1 P5.m.at_ (fun z hz => ⟨(tf.2.2 z hz).1, (tf.2.2 z hz).2.1⟩) tf.bd ?_
          rw [show M.g.val (at_ p) = sumF M.g.ts (at_ p) + M.g.c from rfl] at r1 n1 n2
          rw [show M.g.val (at_ pt) = sumF M.g.ts (at_ pt) + M.g.c from rfl] at n1 n2
          walk_at "cg"
          refine ⟨fun σ' H' => σ' = [some (.ref t), some (.ref a.p), some (.ref wa.w), some (.ref r), some (.int (0 + (i : Int))), some (.ref pp), some (.int (sumF M.g.ts (at_ pt) + M.g.c)), some (.bl false)] ∧ H5 = H', ?_, ?_⟩
          · unfold Goal.btr at n1
            cases em : M.g.mx with
            | true =>
              rw [em] at s1 n1
              rw [if_pos rfl] at n1
              rw [n1]
              walk_at "cg"
              exact ⟨rfl, rfl⟩
            | false =>
              rw [em] at s1 n1
              rw [if_neg (by decide)] at n1
              walk_at "cg"
              rw [n1]
              exact ⟨rfl, rfl⟩
          · rintro σ' H' ⟨rfl, rfl⟩
            walk_at "cg"
            refine if_S (fun g => ?_) (fun g => ?_)
            · walk_at "cg"
              refine r_ltT P5.s r2 ?_
              rw [show HT.lexLt pt p = false from n2 g]
              walk_at "cg"
              exact ⟨_, _, _, _, rfl, T5, W5, v6, KK⟩
            · walk_at "cg"
              exact ⟨_, _, _, _, rfl, T5, W5, v6, KK⟩
    · rintro σ' H3 ⟨x5, x6, x7, x8, rfl, T3, W3, v3, KK⟩
      walk_at "cg"
      exact k H3 T3 KK
end

structure LtB (m : Int) : Prop where
  h : m < bigB
theorem LtB.of {m : Int} (h : m ≤ 1000000) : LtB m := ⟨by
  have e : (1000000 : Int) < bigB := by decide
  exact Int.lt_of_le_of_lt h e⟩
local macro_rules | `(tactic| walk_at "cg dr") => `(tactic| ((with_reducible refine spDraw_i (c := ?c) ?h ?h1 ?h2 ?_); (case h => walk_at "cg h"); (case h1 => first | omega | decide); (case h2 => first | (exact LtB.h (by with_reducible assumption)) | (with_reducible assumption) | decide)))

theorem er_filter {bs : List (Str × Body)} {i : Nat} {b : Str × Body} (h : bs[i]? = some b) (nd : (bs.map (·.1)).Nodup) : (bs.filter fun z => decide (z.1 ≠ b.1)) = bs.take i ++ bs.drop (i + 1) := by
  have e : bs = bs.take i ++ b :: bs.drop (i + 1) := by
    obtain ⟨hi, rfl⟩ := List.getElem?_eq_some_iff.mp h
    rw [List.getElem_cons_drop, List.take_append_drop]
  clear h
  have nd2 : ((bs.take i ++ b :: bs.drop (i + 1)).map (·.1)).Nodup := by rw [← e]; exact nd
  rw [List.map_append, List.map_cons, List.nodup_append, List.nodup_cons] at nd2
  have f1 : ∀ z ∈ bs.take i, decide (z.1 ≠ b.1) = true := fun z hz => decide_eq_true (nd2.2.2 z.1 (List.mem_map.mpr ⟨z, hz, rfl⟩) _ (List.mem_cons_self))
  have f2 : ∀ z ∈ bs.drop (i + 1), decide (z.1 ≠ b.1) = true := fun z hz => decide_eq_true fun q => nd2.2.1.1 (List.mem_map.mpr ⟨z, hz, q⟩)
  have q : (bs.filter fun z => decide (z.1 ≠ b.1)) = (bs.take i ++ b :: bs.drop (i + 1)).filter fun z => decide (z.1 ≠ b.1) := by rw [← e]
  rw [q, List.filter_append, List.filter_cons_of_neg (by simp), List.filter_eq_self.mpr f1, List.filter_eq_self.mpr f2]
theorem imA_tk {K : PySem.W.Frag} {H : Hp} : ∀ {xs : List V} {ds : List PyData} (n : Nat), ImAll K H xs ds → ImAll K H (xs.take n) (ds.take n)
  | _, _, 0, _ => .nil
  | _, _, _ + 1, .nil => .nil
  | _, _, n + 1, .cons h a => .cons h (imA_tk n a)
theorem imA_dr {K : PySem.W.Frag} {H : Hp} : ∀ {xs : List V} {ds : List PyData} (n : Nat), ImAll K H xs ds → ImAll K H (xs.drop n) (ds.drop n)
  | _, _, 0, a => a
  | _, _, _ + 1, .nil => .nil
  | _, _, n + 1, .cons _ a => imA_dr n a
theorem imA_ap {K : PySem.W.Frag} {H : Hp} : ∀ {xs ys : List V} {ds es : List PyData}, ImAll K H xs ds → ImAll K H ys es → ImAll K H (xs ++ ys) (ds ++ es)
  | _, _, _, _, .nil, b => b
  | _, _, _, _, .cons h a, b => .cons h (imA_ap a b)
theorem Mdl.ok_sub {M : Mdl} {bs : List (Str × Body)} (ok : M.ok) (h : bs.Sublist M.bs) : Mdl.ok ⟨M.us, bs, M.g⟩ := ⟨ok.n0, ok.n1, ok.un, ok.nd, fun b hb => ok.lb b (h.subset hb), ok.ln.sublist (h.map _), fun b hb => ok.bf b (h.subset hb), Nat.le_trans h.length_le ok.nb, ok.gf⟩
section
variable {P : Program} {w : World} {K : PySem.W.Frag} {mg : Str → Option Value} {base : Heap} {C_Model : Addr}
theorem ok_law {f : Addr} {fd : FuncData} (F : Fun K "law" "law" s_law f fd) (B : Bi K mg C_Model) (D_law_tape : Is P w K mg base CX0 1 "_law_tape" ["_law_script"] (spTape K)) (D_law_world : Is P w K mg base CX0 4 "_law_world" ["_law_tape_here", "_law_most", "_law_width", "_law_bodies"] (spWorld K)) (D_law_model : Is P w K mg base CX0 5 "_law_model" ["_law_world_here"] (spLawModel K C_Model)) (D_Model_aim : IsM P w K mg base CX0 2 C_Model "aim" ["self", "goal"] (spAim K C_Model)) (D_law_right : Is P w K mg base CX0 8 "_law_right" ["_law_tape_here", "_law_model_here", "_law_world_here"] (spRight K C_Model)) (D_law_draw : Is P w K mg base CX0 1 "_law_draw" ["_law_tape_here", "_law_many"] spDraw) (D_law_terms : Is P w K mg base CX0 2 "_law_terms" ["_law_tape_here", "_law_many"] (spLawTerms K)) (D_Model_withdraw : IsM P w K mg base CX0 1 C_Model "withdraw" ["self", "label"] (spWithdraw K C_Model)) (D_law_refused : Is P w K mg base CX0 8 "_law_refused" ["_law_extra"] (spRefused K)) : FnOk P w K mg base CX0 9 f fd ["_law_script"] (spLaw K) := by
  have nd := sc_law.nd
  obtain ⟨f_Model_aim, fd_Model_aim, G_Model_aim, m_Model_aim, b_Model_aim⟩ := D_Model_aim.ex
  obtain ⟨f_Model_withdraw, fd_Model_withdraw, G_Model_withdraw, m_Model_withdraw, b_Model_withdraw⟩ := D_Model_withdraw.ex
  refine F.ok sc_law ?len (fun cdv A outer s H vs Q E hr h => ?body)
  case len =>
    rintro vs H Q E ⟨a, ns, rfl, _⟩
    rfl
  case body =>
    obtain ⟨a, ns, rfl, hS, hl, q⟩ := h
    refine ⟨_, (pss_cons (ps_set (i := 1) nd rfl (Or.inl rfl) (pe_is D_law_tape (hr.mono (by decide)) rfl pass0 (pa_cons (pv 0) pa_nil)))
      (pss_cons (ps_set (i := 2) nd rfl (Or.inl rfl) (pe_is D_law_world (hr.mono (by decide)) rfl pass0 (pa_cons (pv 1) (pa_cons pe_int (pa_cons pe_int (pa_cons pe_int pa_nil))))))
      (pss_cons (ps_if (pt_cmpR op_eq (pe_is D_law_draw (hr.mono (by decide)) rfl pass0 (pa_cons (pv 1) (pa_cons pe_int pa_nil))) pe_int (nomark _))
      (pss_one (ps_ret (pe_cmpR op_eq (pe_is D_law_refused (hr.mono (by decide)) rfl pass0 (pa_cons pe_int pa_nil)) pe_int (nomark _))))
      pss_nil)
      (pss_cons (ps_if (pt_cmpR op_eq (pe_is D_law_draw (hr.mono (by decide)) rfl pass0 (pa_cons (pv 1) (pa_cons pe_int pa_nil))) pe_int (nomark _))
      (pss_one (ps_ret (pe_cmpR op_eq (pe_is D_law_refused (hr.mono (by decide)) rfl pass0 (pa_cons pe_int pa_nil)) pe_int (nomark _))))
      pss_nil)
      (pss_cons (ps_set (i := 3) nd rfl (Or.inl rfl) (pe_is D_law_model (hr.mono (by decide)) rfl pass0 (pa_cons (pv 2) pa_nil)))
      (pss_cons (ps_if (pt_not (pt_val (pe_is D_law_right (hr.mono (by decide)) rfl pass0 (pa_cons (pv 1) (pa_cons (pv 3) (pa_cons (pv 2) pa_nil))))))
      (pss_one (ps_ret pe_bl))
      pss_nil)
      (pss_cons (ps_asg (pe_tup (pa_cons (pe_ix (ixL K) (pe_lst (pa_cons pe_str (pa_cons pe_str pa_nil))) (pe_is D_law_draw (hr.mono (by decide)) rfl pass0 (pa_cons (pv 1) (pa_cons pe_int pa_nil))) (fun _ _ => rfl)) (pa_cons (pe_is D_law_terms (hr.mono (by decide)) rfl pass0 (pa_cons (pv 1) (pa_cons (pe_callB (cgLen K) (by rfl) B.n_len PySem.boot_len (pa_cons (pe_ix (ixL K) (pv 2) pe_int (fun _ _ => rfl)) pa_nil)) pa_nil))) (pa_cons (pe_op op_sub (pe_is D_law_draw (hr.mono (by decide)) rfl pass0 (pa_cons (pv 1) (pa_cons pe_int pa_nil))) pe_int) pa_nil)))) (pg_sub (pv 2) pe_int set_list))
      (pss_cons (ps_expr (pe_meth (pv 3) D_Model_aim.cl m_Model_aim G_Model_aim (hr.mono (by decide)) b_Model_aim .nil pass0 (pa_cons (pe_ix (ixL K) (pv 2) pe_int (fun _ _ => rfl)) pa_nil)))
      (pss_cons (ps_if (pt_not (pt_val (pe_is D_law_right (hr.mono (by decide)) rfl pass0 (pa_cons (pv 1) (pa_cons (pv 3) (pa_cons (pv 2) pa_nil))))))
      (pss_one (ps_ret pe_bl))
      pss_nil)
      (Evl.pss_cut (ps_if (pt_cmpR op_gt (pe_callB (cgLen K) (by rfl) B.n_len PySem.boot_len (pa_cons (pe_ix (ixL K) (pv 2) pe_int (fun _ _ => rfl)) pa_nil)) pe_int (nomark _))
      (pss_cons (ps_set (i := 4) nd rfl (Or.inl rfl) (pe_is D_law_draw (hr.mono (by decide)) rfl pass0 (pa_cons (pv 1) (pa_cons (pe_callB (cgLen K) (by rfl) B.n_len PySem.boot_len (pa_cons (pe_ix (ixL K) (pv 2) pe_int (fun _ _ => rfl)) pa_nil)) pa_nil))))
      (pss_cons (ps_expr (pe_meth (pv 3) D_Model_withdraw.cl m_Model_withdraw G_Model_withdraw (hr.mono (by decide)) b_Model_withdraw .nil pass0 (pa_cons (pe_ix (ixT K) (pe_ix (ixL K) (pe_ix (ixL K) (pv 2) pe_int (fun _ _ => rfl)) (pv 4) (fun _ _ => rfl)) pe_int (fun _ _ => rfl)) pa_nil)))
      (pss_one (ps_asg (pe_op (op_catL K) (pe_slice (slL K) (pe_ix (ixL K) (pv 2) pe_int (fun _ _ => rfl)) po_none (po_some (pv 4))) (pe_slice (slL K) (pe_ix (ixL K) (pv 2) pe_int (fun _ _ => rfl)) (po_some (pe_op op_add (pv 4) pe_int)) po_none)) (pg_sub (pv 2) pe_int set_list)))))
      pss_nil)
      (pss_one (ps_ret (pe_is D_law_right (hr.mono (by decide)) rfl pass0 (pa_cons (pv 1) (pa_cons (pv 3) (pa_cons (pv 2) pa_nil)))))))))))))))), ?_⟩
    try dsimp only [L2.cxOf, L2.Cx.nox, L2.Cx.wish]
    rw [st_law]
    walk_at "cg"
    refine ⟨a, ns, rfl, hS, fun t c H1 ht hc T1 k1 => ?_⟩
    walk_at "cg"
    refine ⟨t, c, 4, 4, 4, rfl, T1, by decide, by decide, by decide, by decide, by decide, by decide, fun wa M H2 W2 ok sm fw T2 k2 => ?_⟩
    have nw : offW wa t := fun x hx => Tp.nef (fw x hx) T1
    have nwc : wa.w ≠ c := Tp.nefc (fw _ (by simp [WA.all])) T1
    clear k1 k2 fw T1
    have hsz : szB M.us ≤ 20000 := by
      have h1 := szB_le (us := M.us) fun u hu => (sm.u u hu).2.2
      have h2 : (4 : Nat) ^ M.us.length ≤ 4 ^ 4 := Nat.pow_le_pow_right (by decide) (by have := sm.n; omega)
      have h3 : (4 : Nat) ^ 4 = 256 := by decide
      omega
    have n4 : M.us.length ≤ 4 := by have := sm.n; omega
    have b4 : M.bs.length ≤ 4 := by have := sm.b; omega
    have n0 := ok.n0
    clear sm
    walk_at "cg"
    rename_i d3 H3 d30 d31 T3 k3
    have W3 := W2.kp1 k3 nw
    clear k3 T2 W2
    refine if_S (fun g => ?_) (fun g => ?_)
    · walk_at "cg"
      refine ⟨1, rfl, .inr rfl, fun H4 k4 => ?_⟩
      rw [if_pos rfl]
      walk_at "cg"
      exact q _
    walk_at "cg"
    rename_i d4 H4 d40 d41 T4 k4
    have W4 := W3.kp1 k4 nw
    clear k4 T3 W3
    refine if_S (fun g => ?_) (fun g => ?_)
    · walk_at "cg"
      refine ⟨0, rfl, .inl rfl, fun H5 k5 => ?_⟩
      rw [if_neg (by decide)]
      walk_at "cg"
      exact q _
    walk_at "cg"
    refine ⟨wa, M, rfl, W4, ok, fun ma H5 M5 fm k5 => ?_⟩
    have om : offA ma t := fun x hx => Tp.nef (fm x hx) T4
    have omc : ∀ x ∈ ma.all, x ≠ c := fun x hx => Tp.nefc (fm x hx) T4
    have ow : ∀ x ∈ ma.all, ∀ y ∈ wa.all, y ≠ x := fun x hx y hy => by
      obtain ⟨pg, v1, _⟩ := W4.w
      obtain ⟨ru, v3, _⟩ := W4.u
      obtain ⟨rf, v5, _⟩ := W4.f
      simp only [WA.all, List.mem_cons, List.not_mem_nil, or_false] at hy
      rcases hy with rfl | rfl | rfl
      · exact ne_newL (fm x hx) v1
      · exact ne_newL (fm x hx) v3
      · exact ne_newL (fm x hx) v5
    have T5 := T4.kp0 k5
    have W5 := W4.kp0 k5
    clear k5 T4 W4 fm
    walk_at "cg"
    refine ⟨t, c, wa, ma, M, rfl, T5, W5, M5, ok, nw, om, hsz, fun H6 T6 k6 => ?_⟩
    have W6 := W5.kp1 k6 nw
    have M6 := M5.kp1 k6 om
    clear k6 T5 W5 M5
    obtain ⟨pg, w1, w2⟩ := W6.w
    obtain ⟨ru, w3, w4⟩ := W6.u
    have hul := mapLenP w4
    have mb : LtB (ru.length : Int) := .of (by omega)
    walk_at "cg"
    rename_i p7 H7 hp7 e7 k7 d8 H8 d80 d81 T8 k8
    have W8 := (W6.kp0 k7).kp1 k8 nw
    have M8 := (M6.kp0 k7).kp1 k8 om
    have e8 := k8.get1 (Tp.nef hp7 T6) e7
    clear k7 k8 w1 w2 w3 w4 W6 M6 T6 e7
    refine ix_mm e8 d80 d81 fun mx => ?_
    obtain ⟨pg, w1, w2⟩ := W8.w
    obtain ⟨ru, w3, w4⟩ := W8.u
    have hul := mapLenP w4
    walk_at "cg"
    refine ⟨t, c, _, rfl, T8, by omega, by omega, fun pt ts H9 I9 f9 T9 k9 => ?_⟩
    rw [show (ru.length : Int) = M.us.length by omega] at f9
    have W9 := W8.kp1 k9 nw
    have M9 := M8.kp1 k9 om
    clear k9 w1 w2 w3 w4 W8 M8 T8 e8 hul mb pg ru
    obtain ⟨pg, w1, w2⟩ := W9.w
    have nww : wa.w ≠ t := nw _ (by simp [WA.all])
    walk_at "cg"
    rename_i d10 H10 d100 d101 T10 k10 pg2 H11 hpg s11 k11
    intro H12 e12x k12
    have e12 : H12 wa.w = some (.lst [.ref wa.u, .ref wa.f, .ref pg2]) := e12x
    clear e12x
    have W10 := (W9.kp1 k10 nw).kp0 k11
    have M10 := (M9.kp1 k10 om).kp0 k11
    have I12 : Im K H12 (.ref pg2) (Goal.d ⟨mx, ts, d10 - 4⟩) := k12.im (.tup s11 (.cons (.str _) (.cons (k11.im (k10.im I9)) (.cons (.int _) .nil))))
    obtain ⟨ru, v3, v4⟩ := W10.u
    obtain ⟨rf, v5, v6⟩ := W10.f
    have W12 : WorldAt K H12 wa ⟨M.us, M.bs, ⟨mx, ts, d10 - 4⟩⟩ := ⟨⟨pg2, e12, I12⟩, ⟨ru, k12.get1 W10.d.1.symm v3, k12.imAll v4⟩, ⟨rf, k12.get1 W10.d.2.symm v5, k12.imAll v6⟩, W10.d⟩
    have M12 : MdlAt K C_Model H12 ma M := M10.kp1 k12 fun x hx => (ow x hx _ (by simp [WA.all])).symm
    have T12 : Tp t c H12 := (T10.kp0 k11).kp1 k12 nww.symm nwc.symm
    have g12 : Goal.fit M.us.length ⟨mx, ts, d10 - 4⟩ := ⟨f9.fit (by omega), by show -1000000000 ≤ d10 - 4; omega, by show d10 - 4 ≤ 1000000000; omega⟩
    have ok12 : Mdl.ok ⟨M.us, M.bs, ⟨mx, ts, d10 - 4⟩⟩ := ⟨ok.n0, ok.n1, ok.un, ok.nd, ok.lb, ok.ln, ok.bf, ok.nb, g12⟩
    clear k10 k11 k12 W9 M9 T9 T10 W10 M10 s11 v3 v4 v5 v6 w1 w2 I9 hpg pg ru rf
    walk_at "cg"
    refine ⟨ma, pg2, ⟨mx, ts, d10 - 4⟩, M, rfl, M12, I12, g12, fun H13 M13 k13 => ?_⟩
    have W13 := W12.kp1 k13 (fun x hx => ow ma.p (by simp [MA.all]) x hx)
    have T13 := T12.kp1 k13 (om _ (by simp [MA.all])).symm (omc _ (by simp [MA.all])).symm
    clear k13 M12 W12 T12 I12 e12 ok g12
    obtain ⟨M1, eM⟩ : ∃ M1 : Mdl, M1 = ⟨M.us, M.bs, ⟨mx, ts, d10 - 4⟩⟩ := ⟨_, rfl⟩
    rw [← eM] at ok12 M13 W13
    have hsz1 : szB M1.us ≤ 20000 := by rw [eM]; exact hsz
    have b41 : M1.bs.length ≤ 4 := by rw [eM]; exact b4
    clear eM hsz b4 n4 n0 f9 hul M
    walk_at "cg"
    refine ⟨t, c, wa, ma, M1, rfl, T13, W13, M13, ok12, nw, om, hsz1, fun H14 T14 k14 => ?_⟩
    have W14 := W13.kp1 k14 nw
    have M14 := M13.kp1 k14 om
    clear k14 T13 W13 M13
    walk_at "cg"
    refine ⟨fun σ' H' => ∃ (wb : WA) (M2 : Mdl) (x4 : Option V), σ' = [some (.ref a), some (.ref t), some (.ref wb.w), some (.ref ma.p), x4] ∧ WorldAt K H' wb M2 ∧ MdlAt K C_Model H' ma M2 ∧ M2.ok ∧ offW wb t ∧ szB M2.us ≤ 20000 ∧ Tp t c H', ?_, ?_⟩
    · obtain ⟨pg, w1, w2⟩ := W14.w
      obtain ⟨ru, w3, w4⟩ := W14.u
      obtain ⟨rf, w5, w6⟩ := W14.f
      have hfl := mapLenP w6
      have nwu : wa.u ≠ t := nw _ (by simp [WA.all])
      have nwf : wa.f ≠ t := nw _ (by simp [WA.all])
      walk_at "cg"
      refine if_S (fun g => ?_) (fun g => ?_)
      · have mb : LtB (rf.length : Int) := .of (by omega)
        walk_at "cg"
        rename_i d15 H15 d150 d151 T15 k15
        obtain ⟨b, hb⟩ : ∃ b, M1.bs[d15.toNat]? = some b := ⟨_, List.getElem?_eq_getElem (by omega)⟩
        obtain ⟨x, ex, hx⟩ := mapGetI (k15.imAll w6) hb
        rw [Int.zero_add, Int.toNat_of_nonneg d150] at ex
        obtain ⟨pl, ql, rfl, sl, Il⟩ := lab_at hx
        have w55 := k15.get1 nwf w5
        have w15 := k15.get1 nww w1
        have M15 := M14.kp1 k15 om
        walk_at "cg"
        refine r_ixL w55 ex ?_
        walk_at "cg"
        refine ⟨ma, b.1, M1, rfl, M15, ok12.ln, List.mem_map.mpr ⟨b, List.mem_of_getElem? hb, rfl⟩, fun H16 M16 k16 => ?_⟩
        have ob : ∀ x ∈ wa.all, x ≠ ma.b := fun x hx => ow ma.b (by simp [MA.all]) x hx
        have W16 := (W14.kp1 k15 nw).kp1 k16 ob
        have T16 := T15.kp1 k16 (om _ (by simp [MA.all])).symm (omc _ (by simp [MA.all])).symm
        clear k15 k16 T15 M15 M14 W14 T14 w1 w2 w3 w4 w5 w6 w55 w15 hx sl Il hfl
        obtain ⟨pg, w1, w2⟩ := W16.w
        obtain ⟨ru, w3, w4⟩ := W16.u
        obtain ⟨rf2, w5, w6⟩ := W16.f
        have hfl2 := mapLenP w6
        walk_at "cg"
        rename_i l1 H17 hl1 e1 k17 l2 H18 hl2 e2 k18
        rw [show d15 = ((d15.toNat : Nat) : Int) by omega, cut_to] at e1
        rw [cut_from (by omega), show (d15 + 1).toNat = d15.toNat + 1 by omega] at e2
        refine r_cat (k18.get0 e1) e2 (by simp; omega) fun f H19 hf e3 k19 => ?_
        have K19 := Kp.tr0 k19 (Kp.tr0 k18 k17)
        walk_at "cg"
        intro H20 e4x k20
        have e4 : H20 wa.w = some (.lst [.ref wa.u, .ref f, .ref pg]) := e4x
        clear e4x
        have fr0 : ∀ y o, H16 y = some o → y ≠ f := fun y o hy z => by
          have := (Kp.tr0 k18 k17).get0 hy
          rw [z, hf] at this
          cases this
        have nfw : f ≠ wa.w := (fr0 _ _ w1).symm
        have eb : (M1.bs.filter fun z => decide (z.1 ≠ b.1)) = M1.bs.take d15.toNat ++ M1.bs.drop (d15.toNat + 1) := er_filter hb ok12.ln
        have W20 : WorldAt K H20 ⟨wa.w, wa.u, f⟩ ⟨M1.us, M1.bs.filter fun z => decide (z.1 ≠ b.1), M1.g⟩ := by
          refine ⟨⟨pg, e4, k20.im (K19.im w2)⟩, ⟨ru, k20.get1 W16.d.1.symm (K19.get0 w3), k20.imAll (K19.imAll w4)⟩, ⟨_, k20.get1 nfw e3, ?_⟩, ⟨W16.d.1, nfw.symm⟩⟩
          rw [eb, List.map_append, List.map_take, List.map_drop]
          exact k20.imAll (K19.imAll (imA_ap (imA_tk _ w6) (imA_dr _ w6)))
        have M20 := (M16.kp0 K19).kp1 k20 fun x hx => (ow x hx _ (by simp [WA.all])).symm
        have T20 : Tp t c H20 := (T16.kp0 K19).kp1 k20 nww.symm nwc.symm
        have nft : f ≠ t := Tp.nef hf ((T16.kp0 k17).kp0 k18)
        exact ⟨⟨wa.w, wa.u, f⟩, _, _, rfl, W20, M20, Mdl.ok_sub ok12 List.filter_sublist, fun x hx => by
          simp only [WA.all, List.mem_cons, List.not_mem_nil, or_false] at hx
          rcases hx with rfl | rfl | rfl
          · exact nww
          · exact nwu
          · exact nft, hsz1, T20⟩
      · walk_at "cg"
        exact ⟨wa, M1, _, rfl, W14, M14, ok12, nw, hsz1, T14⟩
    · clear W14 M14 T14 ok12 hsz1 b41 nw M1 ow
      rintro σ' H15 ⟨wb, M2, x4, rfl, W15, M15, ok15, nw15, hsz, T15⟩
      walk_at "cg"
      refine ⟨t, c, wb, ma, M2, rfl, T15, W15, M15, ok15, nw15, om, hsz, fun H16 T16 k16 => ?_⟩
      walk_at "cg"
      exact q _
end

theorem all_mk {l : PySem.W.OpenLaw} {w : World} {K : PySem.W.Frag} {h : Heap} {mg : Str → Option Value} {fa : Addr} (X : K.In h) (G : h.Ns mainGlobals mg) (hfa : mg "law" = some (.ref fa))
    {C_Model : Addr} (a_Model : PySem.W.nsIn K mainGlobals "Model" = some (some (.ref C_Model))) (pg_Model : PySem.W.plainGet K C_Model Str.empty = true) (hd_Model : PySem.W.hasDictIn K C_Model = true) (po_Model : PySem.W.plainOver K C_Model = true) (sa_Model : PySem.W.findIn K (.ref C_Model) "__setattr__" = some (some (.builtin "object.__setattr__"))) (mk_Model : PySem.W.makesIn K C_Model = true) (kc_Model : PySem.W.keepIn K (.ref C_Model) = true) (n_Model__names : PySem.W.findIn K (.ref C_Model) "_names" = some none) (n_Model__lows : PySem.W.findIn K (.ref C_Model) "_lows" = some none) (n_Model__highs : PySem.W.findIn K (.ref C_Model) "_highs" = some none) (n_Model__bodies : PySem.W.findIn K (.ref C_Model) "_bodies" = some none) (n_Model__goal : PySem.W.findIn K (.ref C_Model) "_goal" = some none)
    {od_next_point an_next_point : Option Addr} {sl_next_point : Array (Option Value)} {f_next_point : Addr} {oc_next_point kV_next_point dc_next_point pm_next_point cd_next_point ct_next_point : Value}
    {od_solutions an_solutions : Option Addr} {sl_solutions : Array (Option Value)} {f_solutions : Addr} {oc_solutions kV_solutions dc_solutions pm_solutions cd_solutions ct_solutions : Value}
    {od_best_plain an_best_plain : Option Addr} {sl_best_plain : Array (Option Value)} {f_best_plain : Addr} {oc_best_plain kV_best_plain dc_best_plain pm_best_plain cd_best_plain ct_best_plain : Value}
    {od_relation_holds an_relation_holds : Option Addr} {sl_relation_holds : Array (Option Value)} {f_relation_holds : Addr} {oc_relation_holds kV_relation_holds dc_relation_holds pm_relation_holds cd_relation_holds ct_relation_holds : Value}
    {od_literal_holds an_literal_holds : Option Addr} {sl_literal_holds : Array (Option Value)} {f_literal_holds : Addr} {oc_literal_holds kV_literal_holds dc_literal_holds pm_literal_holds cd_literal_holds ct_literal_holds : Value}
    {od_terms_sum an_terms_sum : Option Addr} {sl_terms_sum : Array (Option Value)} {f_terms_sum : Addr} {oc_terms_sum kV_terms_sum dc_terms_sum pm_terms_sum cd_terms_sum ct_terms_sum : Value}
    {od_is_label an_is_label : Option Addr} {sl_is_label : Array (Option Value)} {f_is_label : Addr} {oc_is_label kV_is_label dc_is_label pm_is_label cd_is_label ct_is_label : Value}
    {od_body_holds an_body_holds : Option Addr} {sl_body_holds : Array (Option Value)} {f_body_holds : Addr} {oc_body_holds kV_body_holds dc_body_holds pm_body_holds cd_body_holds ct_body_holds : Value}
    {od_terms_fit an_terms_fit : Option Addr} {sl_terms_fit : Array (Option Value)} {f_terms_fit : Addr} {oc_terms_fit kV_terms_fit dc_terms_fit pm_terms_fit cd_terms_fit ct_terms_fit : Value}
    {od_literal_fits an_literal_fits : Option Addr} {sl_literal_fits : Array (Option Value)} {f_literal_fits : Addr} {oc_literal_fits kV_literal_fits dc_literal_fits pm_literal_fits cd_literal_fits ct_literal_fits : Value}
    {od_linear_fits an_linear_fits : Option Addr} {sl_linear_fits : Array (Option Value)} {f_linear_fits : Addr} {oc_linear_fits kV_linear_fits dc_linear_fits pm_linear_fits cd_linear_fits ct_linear_fits : Value}
    {od_distinct_fit an_distinct_fit : Option Addr} {sl_distinct_fit : Array (Option Value)} {f_distinct_fit : Addr} {oc_distinct_fit kV_distinct_fit dc_distinct_fit pm_distinct_fit cd_distinct_fit ct_distinct_fit : Value}
    {od_entries_fit an_entries_fit : Option Addr} {sl_entries_fit : Array (Option Value)} {f_entries_fit : Addr} {oc_entries_fit kV_entries_fit dc_entries_fit pm_entries_fit cd_entries_fit ct_entries_fit : Value}
    {od_any_fits an_any_fits : Option Addr} {sl_any_fits : Array (Option Value)} {f_any_fits : Addr} {oc_any_fits kV_any_fits dc_any_fits pm_any_fits cd_any_fits ct_any_fits : Value}
    {od_table_fits an_table_fits : Option Addr} {sl_table_fits : Array (Option Value)} {f_table_fits : Addr} {oc_table_fits kV_table_fits dc_table_fits pm_table_fits cd_table_fits ct_table_fits : Value}
    {od_body_fits an_body_fits : Option Addr} {sl_body_fits : Array (Option Value)} {f_body_fits : Addr} {oc_body_fits kV_body_fits dc_body_fits pm_body_fits cd_body_fits ct_body_fits : Value}
    {od_bounds_fit an_bounds_fit : Option Addr} {sl_bounds_fit : Array (Option Value)} {f_bounds_fit : Addr} {oc_bounds_fit kV_bounds_fit dc_bounds_fit pm_bounds_fit cd_bounds_fit ct_bounds_fit : Value}
    {od_Model___init__ an_Model___init__ : Option Addr} {sl_Model___init__ : Array (Option Value)} {f_Model___init__ : Addr} {oc_Model___init__ kV_Model___init__ dc_Model___init__ pm_Model___init__ cd_Model___init__ ct_Model___init__ : Value}
    {od_Model__need an_Model__need : Option Addr} {sl_Model__need : Array (Option Value)} {f_Model__need : Addr} {oc_Model__need kV_Model__need dc_Model__need pm_Model__need cd_Model__need ct_Model__need : Value}
    {od_Model_many an_Model_many : Option Addr} {sl_Model_many : Array (Option Value)} {f_Model_many : Addr} {oc_Model_many kV_Model_many dc_Model_many pm_Model_many cd_Model_many ct_Model_many : Value}
    {od_Model_low an_Model_low : Option Addr} {sl_Model_low : Array (Option Value)} {f_Model_low : Addr} {oc_Model_low kV_Model_low dc_Model_low pm_Model_low cd_Model_low ct_Model_low : Value}
    {od_Model_high an_Model_high : Option Addr} {sl_Model_high : Array (Option Value)} {f_Model_high : Addr} {oc_Model_high kV_Model_high dc_Model_high pm_Model_high cd_Model_high ct_Model_high : Value}
    {od_Model_put an_Model_put : Option Addr} {sl_Model_put : Array (Option Value)} {f_Model_put : Addr} {oc_Model_put kV_Model_put dc_Model_put pm_Model_put cd_Model_put ct_Model_put : Value}
    {od_Model_withdraw an_Model_withdraw : Option Addr} {sl_Model_withdraw : Array (Option Value)} {f_Model_withdraw : Addr} {oc_Model_withdraw kV_Model_withdraw dc_Model_withdraw pm_Model_withdraw cd_Model_withdraw ct_Model_withdraw : Value}
    {od_Model_aim an_Model_aim : Option Addr} {sl_Model_aim : Array (Option Value)} {f_Model_aim : Addr} {oc_Model_aim kV_Model_aim dc_Model_aim pm_Model_aim cd_Model_aim ct_Model_aim : Value}
    {od_Model_inside an_Model_inside : Option Addr} {sl_Model_inside : Array (Option Value)} {f_Model_inside : Addr} {oc_Model_inside kV_Model_inside dc_Model_inside pm_Model_inside cd_Model_inside ct_Model_inside : Value}
    {od_Model_broken an_Model_broken : Option Addr} {sl_Model_broken : Array (Option Value)} {f_Model_broken : Addr} {oc_Model_broken kV_Model_broken dc_Model_broken pm_Model_broken cd_Model_broken ct_Model_broken : Value}
    {od_Model_is_solution an_Model_is_solution : Option Addr} {sl_Model_is_solution : Array (Option Value)} {f_Model_is_solution : Addr} {oc_Model_is_solution kV_Model_is_solution dc_Model_is_solution pm_Model_is_solution cd_Model_is_solution ct_Model_is_solution : Value}
    {od_Model_worth an_Model_worth : Option Addr} {sl_Model_worth : Array (Option Value)} {f_Model_worth : Addr} {oc_Model_worth kV_Model_worth dc_Model_worth pm_Model_worth cd_Model_worth ct_Model_worth : Value}
    {od_Model_is_better an_Model_is_better : Option Addr} {sl_Model_is_better : Array (Option Value)} {f_Model_is_better : Addr} {oc_Model_is_better kV_Model_is_better dc_Model_is_better pm_Model_is_better cd_Model_is_better ct_Model_is_better : Value}
    {od_law_draw an_law_draw : Option Addr} {sl_law_draw : Array (Option Value)} {f_law_draw : Addr} {oc_law_draw kV_law_draw dc_law_draw pm_law_draw cd_law_draw ct_law_draw : Value}
    {od_law_tape an_law_tape : Option Addr} {sl_law_tape : Array (Option Value)} {f_law_tape : Addr} {oc_law_tape kV_law_tape dc_law_tape pm_law_tape cd_law_tape ct_law_tape : Value}
    {od_law_terms an_law_terms : Option Addr} {sl_law_terms : Array (Option Value)} {f_law_terms : Addr} {oc_law_terms kV_law_terms dc_law_terms pm_law_terms cd_law_terms ct_law_terms : Value}
    {od_law_literal an_law_literal : Option Addr} {sl_law_literal : Array (Option Value)} {f_law_literal : Addr} {oc_law_literal kV_law_literal dc_law_literal pm_law_literal cd_law_literal ct_law_literal : Value}
    {od_law_some an_law_some : Option Addr} {sl_law_some : Array (Option Value)} {f_law_some : Addr} {oc_law_some kV_law_some dc_law_some pm_law_some cd_law_some ct_law_some : Value}
    {od_law_body an_law_body : Option Addr} {sl_law_body : Array (Option Value)} {f_law_body : Addr} {oc_law_body kV_law_body dc_law_body pm_law_body cd_law_body ct_law_body : Value}
    {od_law_world an_law_world : Option Addr} {sl_law_world : Array (Option Value)} {f_law_world : Addr} {oc_law_world kV_law_world dc_law_world pm_law_world cd_law_world ct_law_world : Value}
    {od_law_model an_law_model : Option Addr} {sl_law_model : Array (Option Value)} {f_law_model : Addr} {oc_law_model kV_law_model dc_law_model pm_law_model cd_law_model ct_law_model : Value}
    {od_law_rel an_law_rel : Option Addr} {sl_law_rel : Array (Option Value)} {f_law_rel : Addr} {oc_law_rel kV_law_rel dc_law_rel pm_law_rel cd_law_rel ct_law_rel : Value}
    {od_law_sum an_law_sum : Option Addr} {sl_law_sum : Array (Option Value)} {f_law_sum : Addr} {oc_law_sum kV_law_sum dc_law_sum pm_law_sum cd_law_sum ct_law_sum : Value}
    {od_law_lit an_law_lit : Option Addr} {sl_law_lit : Array (Option Value)} {f_law_lit : Addr} {oc_law_lit kV_law_lit dc_law_lit pm_law_lit cd_law_lit ct_law_lit : Value}
    {od_law_holds an_law_holds : Option Addr} {sl_law_holds : Array (Option Value)} {f_law_holds : Addr} {oc_law_holds kV_law_holds dc_law_holds pm_law_holds cd_law_holds ct_law_holds : Value}
    {od_law_point an_law_point : Option Addr} {sl_law_point : Array (Option Value)} {f_law_point : Addr} {oc_law_point kV_law_point dc_law_point pm_law_point cd_law_point ct_law_point : Value}
    {od_law_solution an_law_solution : Option Addr} {sl_law_solution : Array (Option Value)} {f_law_solution : Addr} {oc_law_solution kV_law_solution dc_law_solution pm_law_solution cd_law_solution ct_law_solution : Value}
    {od_law_refused an_law_refused : Option Addr} {sl_law_refused : Array (Option Value)} {f_law_refused : Addr} {oc_law_refused kV_law_refused dc_law_refused pm_law_refused cd_law_refused ct_law_refused : Value}
    {od_law_right an_law_right : Option Addr} {sl_law_right : Array (Option Value)} {f_law_right : Addr} {oc_law_right kV_law_right dc_law_right pm_law_right cd_law_right ct_law_right : Value}
    {od_law an_law : Option Addr} {sl_law : Array (Option Value)} {f_law : Addr} {oc_law kV_law dc_law pm_law cd_law ct_law : Value}
    (a_next_point : PySem.W.nsIn K mainGlobals "next_point" = some (some (.ref f_next_point))) (l_next_point : K.lookup f_next_point = some ⟨oc_next_point, od_next_point, .func (PySem.W.fnOf "next_point" "next_point" (defArgs s_next_point) (defBody s_next_point) (defScope s_next_point) .none kV_next_point dc_next_point pm_next_point an_next_point cd_next_point ct_next_point), sl_next_point⟩) (c_next_point : PySem.W.codeIn K cd_next_point "next_point" = true) (k_next_point : PySem.W.keepIn K (.ref f_next_point) = true)
    (a_solutions : PySem.W.nsIn K mainGlobals "solutions" = some (some (.ref f_solutions))) (l_solutions : K.lookup f_solutions = some ⟨oc_solutions, od_solutions, .func (PySem.W.fnOf "solutions" "solutions" (defArgs s_solutions) (defBody s_solutions) (defScope s_solutions) .none kV_solutions dc_solutions pm_solutions an_solutions cd_solutions ct_solutions), sl_solutions⟩) (c_solutions : PySem.W.codeIn K cd_solutions "solutions" = true) (k_solutions : PySem.W.keepIn K (.ref f_solutions) = true)
    (a_best_plain : PySem.W.nsIn K mainGlobals "best_plain" = some (some (.ref f_best_plain))) (l_best_plain : K.lookup f_best_plain = some ⟨oc_best_plain, od_best_plain, .func (PySem.W.fnOf "best_plain" "best_plain" (defArgs s_best_plain) (defBody s_best_plain) (defScope s_best_plain) .none kV_best_plain dc_best_plain pm_best_plain an_best_plain cd_best_plain ct_best_plain), sl_best_plain⟩) (c_best_plain : PySem.W.codeIn K cd_best_plain "best_plain" = true) (k_best_plain : PySem.W.keepIn K (.ref f_best_plain) = true)
    (a_relation_holds : PySem.W.nsIn K mainGlobals "relation_holds" = some (some (.ref f_relation_holds))) (l_relation_holds : K.lookup f_relation_holds = some ⟨oc_relation_holds, od_relation_holds, .func (PySem.W.fnOf "relation_holds" "relation_holds" (defArgs s_relation_holds) (defBody s_relation_holds) (defScope s_relation_holds) .none kV_relation_holds dc_relation_holds pm_relation_holds an_relation_holds cd_relation_holds ct_relation_holds), sl_relation_holds⟩) (c_relation_holds : PySem.W.codeIn K cd_relation_holds "relation_holds" = true) (k_relation_holds : PySem.W.keepIn K (.ref f_relation_holds) = true)
    (a_literal_holds : PySem.W.nsIn K mainGlobals "literal_holds" = some (some (.ref f_literal_holds))) (l_literal_holds : K.lookup f_literal_holds = some ⟨oc_literal_holds, od_literal_holds, .func (PySem.W.fnOf "literal_holds" "literal_holds" (defArgs s_literal_holds) (defBody s_literal_holds) (defScope s_literal_holds) .none kV_literal_holds dc_literal_holds pm_literal_holds an_literal_holds cd_literal_holds ct_literal_holds), sl_literal_holds⟩) (c_literal_holds : PySem.W.codeIn K cd_literal_holds "literal_holds" = true) (k_literal_holds : PySem.W.keepIn K (.ref f_literal_holds) = true)
    (a_terms_sum : PySem.W.nsIn K mainGlobals "terms_sum" = some (some (.ref f_terms_sum))) (l_terms_sum : K.lookup f_terms_sum = some ⟨oc_terms_sum, od_terms_sum, .func (PySem.W.fnOf "terms_sum" "terms_sum" (defArgs s_terms_sum) (defBody s_terms_sum) (defScope s_terms_sum) .none kV_terms_sum dc_terms_sum pm_terms_sum an_terms_sum cd_terms_sum ct_terms_sum), sl_terms_sum⟩) (c_terms_sum : PySem.W.codeIn K cd_terms_sum "terms_sum" = true) (k_terms_sum : PySem.W.keepIn K (.ref f_terms_sum) = true)
    (a_is_label : PySem.W.nsIn K mainGlobals "is_label" = some (some (.ref f_is_label))) (l_is_label : K.lookup f_is_label = some ⟨oc_is_label, od_is_label, .func (PySem.W.fnOf "is_label" "is_label" (defArgs s_is_label) (defBody s_is_label) (defScope s_is_label) .none kV_is_label dc_is_label pm_is_label an_is_label cd_is_label ct_is_label), sl_is_label⟩) (c_is_label : PySem.W.codeIn K cd_is_label "is_label" = true) (k_is_label : PySem.W.keepIn K (.ref f_is_label) = true)
    (a_body_holds : PySem.W.nsIn K mainGlobals "body_holds" = some (some (.ref f_body_holds))) (l_body_holds : K.lookup f_body_holds = some ⟨oc_body_holds, od_body_holds, .func (PySem.W.fnOf "body_holds" "body_holds" (defArgs s_body_holds) (defBody s_body_holds) (defScope s_body_holds) .none kV_body_holds dc_body_holds pm_body_holds an_body_holds cd_body_holds ct_body_holds), sl_body_holds⟩) (c_body_holds : PySem.W.codeIn K cd_body_holds "body_holds" = true) (k_body_holds : PySem.W.keepIn K (.ref f_body_holds) = true)
    (a_terms_fit : PySem.W.nsIn K mainGlobals "terms_fit" = some (some (.ref f_terms_fit))) (l_terms_fit : K.lookup f_terms_fit = some ⟨oc_terms_fit, od_terms_fit, .func (PySem.W.fnOf "terms_fit" "terms_fit" (defArgs s_terms_fit) (defBody s_terms_fit) (defScope s_terms_fit) .none kV_terms_fit dc_terms_fit pm_terms_fit an_terms_fit cd_terms_fit ct_terms_fit), sl_terms_fit⟩) (c_terms_fit : PySem.W.codeIn K cd_terms_fit "terms_fit" = true) (k_terms_fit : PySem.W.keepIn K (.ref f_terms_fit) = true)
    (a_literal_fits : PySem.W.nsIn K mainGlobals "literal_fits" = some (some (.ref f_literal_fits))) (l_literal_fits : K.lookup f_literal_fits = some ⟨oc_literal_fits, od_literal_fits, .func (PySem.W.fnOf "literal_fits" "literal_fits" (defArgs s_literal_fits) (defBody s_literal_fits) (defScope s_literal_fits) .none kV_literal_fits dc_literal_fits pm_literal_fits an_literal_fits cd_literal_fits ct_literal_fits), sl_literal_fits⟩) (c_literal_fits : PySem.W.codeIn K cd_literal_fits "literal_fits" = true) (k_literal_fits : PySem.W.keepIn K (.ref f_literal_fits) = true)
    (a_linear_fits : PySem.W.nsIn K mainGlobals "linear_fits" = some (some (.ref f_linear_fits))) (l_linear_fits : K.lookup f_linear_fits = some ⟨oc_linear_fits, od_linear_fits, .func (PySem.W.fnOf "linear_fits" "linear_fits" (defArgs s_linear_fits) (defBody s_linear_fits) (defScope s_linear_fits) .none kV_linear_fits dc_linear_fits pm_linear_fits an_linear_fits cd_linear_fits ct_linear_fits), sl_linear_fits⟩) (c_linear_fits : PySem.W.codeIn K cd_linear_fits "linear_fits" = true) (k_linear_fits : PySem.W.keepIn K (.ref f_linear_fits) = true)
    (a_distinct_fit : PySem.W.nsIn K mainGlobals "distinct_fit" = some (some (.ref f_distinct_fit))) (l_distinct_fit : K.lookup f_distinct_fit = some ⟨oc_distinct_fit, od_distinct_fit, .func (PySem.W.fnOf "distinct_fit" "distinct_fit" (defArgs s_distinct_fit) (defBody s_distinct_fit) (defScope s_distinct_fit) .none kV_distinct_fit dc_distinct_fit pm_distinct_fit an_distinct_fit cd_distinct_fit ct_distinct_fit), sl_distinct_fit⟩) (c_distinct_fit : PySem.W.codeIn K cd_distinct_fit "distinct_fit" = true) (k_distinct_fit : PySem.W.keepIn K (.ref f_distinct_fit) = true)
    (a_entries_fit : PySem.W.nsIn K mainGlobals "entries_fit" = some (some (.ref f_entries_fit))) (l_entries_fit : K.lookup f_entries_fit = some ⟨oc_entries_fit, od_entries_fit, .func (PySem.W.fnOf "entries_fit" "entries_fit" (defArgs s_entries_fit) (defBody s_entries_fit) (defScope s_entries_fit) .none kV_entries_fit dc_entries_fit pm_entries_fit an_entries_fit cd_entries_fit ct_entries_fit), sl_entries_fit⟩) (c_entries_fit : PySem.W.codeIn K cd_entries_fit "entries_fit" = true) (k_entries_fit : PySem.W.keepIn K (.ref f_entries_fit) = true)
    (a_any_fits : PySem.W.nsIn K mainGlobals "any_fits" = some (some (.ref f_any_fits))) (l_any_fits : K.lookup f_any_fits = some ⟨oc_any_fits, od_any_fits, .func (PySem.W.fnOf "any_fits" "any_fits" (defArgs s_any_fits) (defBody s_any_fits) (defScope s_any_fits) .none kV_any_fits dc_any_fits pm_any_fits an_any_fits cd_any_fits ct_any_fits), sl_any_fits⟩) (c_any_fits : PySem.W.codeIn K cd_any_fits "any_fits" = true) (k_any_fits : PySem.W.keepIn K (.ref f_any_fits) = true)
    (a_table_fits : PySem.W.nsIn K mainGlobals "table_fits" = some (some (.ref f_table_fits))) (l_table_fits : K.lookup f_table_fits = some ⟨oc_table_fits, od_table_fits, .func (PySem.W.fnOf "table_fits" "table_fits" (defArgs s_table_fits) (defBody s_table_fits) (defScope s_table_fits) .none kV_table_fits dc_table_fits pm_table_fits an_table_fits cd_table_fits ct_table_fits), sl_table_fits⟩) (c_table_fits : PySem.W.codeIn K cd_table_fits "table_fits" = true) (k_table_fits : PySem.W.keepIn K (.ref f_table_fits) = true)
    (a_body_fits : PySem.W.nsIn K mainGlobals "body_fits" = some (some (.ref f_body_fits))) (l_body_fits : K.lookup f_body_fits = some ⟨oc_body_fits, od_body_fits, .func (PySem.W.fnOf "body_fits" "body_fits" (defArgs s_body_fits) (defBody s_body_fits) (defScope s_body_fits) .none kV_body_fits dc_body_fits pm_body_fits an_body_fits cd_body_fits ct_body_fits), sl_body_fits⟩) (c_body_fits : PySem.W.codeIn K cd_body_fits "body_fits" = true) (k_body_fits : PySem.W.keepIn K (.ref f_body_fits) = true)
    (a_bounds_fit : PySem.W.nsIn K mainGlobals "bounds_fit" = some (some (.ref f_bounds_fit))) (l_bounds_fit : K.lookup f_bounds_fit = some ⟨oc_bounds_fit, od_bounds_fit, .func (PySem.W.fnOf "bounds_fit" "bounds_fit" (defArgs s_bounds_fit) (defBody s_bounds_fit) (defScope s_bounds_fit) .none kV_bounds_fit dc_bounds_fit pm_bounds_fit an_bounds_fit cd_bounds_fit ct_bounds_fit), sl_bounds_fit⟩) (c_bounds_fit : PySem.W.codeIn K cd_bounds_fit "bounds_fit" = true) (k_bounds_fit : PySem.W.keepIn K (.ref f_bounds_fit) = true)
    (a_Model___init__ : PySem.W.findIn K (.ref C_Model) "__init__" = some (some (.ref f_Model___init__))) (i_Model___init__ : PySem.W.isFn K (.ref f_Model___init__) = true) (l_Model___init__ : K.lookup f_Model___init__ = some ⟨oc_Model___init__, od_Model___init__, .func (PySem.W.fnOf "__init__" "Model.__init__" (defArgs s_Model___init__) (defBody s_Model___init__) (defScope s_Model___init__) .none kV_Model___init__ dc_Model___init__ pm_Model___init__ an_Model___init__ cd_Model___init__ ct_Model___init__), sl_Model___init__⟩) (c_Model___init__ : PySem.W.codeIn K cd_Model___init__ "Model.__init__" = true) (k_Model___init__ : PySem.W.keepIn K (.ref f_Model___init__) = true)
    (a_Model__need : PySem.W.findIn K (.ref C_Model) "_need" = some (some (.ref f_Model__need))) (i_Model__need : PySem.W.isFn K (.ref f_Model__need) = true) (l_Model__need : K.lookup f_Model__need = some ⟨oc_Model__need, od_Model__need, .func (PySem.W.fnOf "_need" "Model._need" (defArgs s_Model__need) (defBody s_Model__need) (defScope s_Model__need) .none kV_Model__need dc_Model__need pm_Model__need an_Model__need cd_Model__need ct_Model__need), sl_Model__need⟩) (c_Model__need : PySem.W.codeIn K cd_Model__need "Model._need" = true) (k_Model__need : PySem.W.keepIn K (.ref f_Model__need) = true)
    (a_Model_many : PySem.W.findIn K (.ref C_Model) "many" = some (some (.ref f_Model_many))) (i_Model_many : PySem.W.isFn K (.ref f_Model_many) = true) (l_Model_many : K.lookup f_Model_many = some ⟨oc_Model_many, od_Model_many, .func (PySem.W.fnOf "many" "Model.many" (defArgs s_Model_many) (defBody s_Model_many) (defScope s_Model_many) .none kV_Model_many dc_Model_many pm_Model_many an_Model_many cd_Model_many ct_Model_many), sl_Model_many⟩) (c_Model_many : PySem.W.codeIn K cd_Model_many "Model.many" = true) (k_Model_many : PySem.W.keepIn K (.ref f_Model_many) = true)
    (a_Model_low : PySem.W.findIn K (.ref C_Model) "low" = some (some (.ref f_Model_low))) (i_Model_low : PySem.W.isFn K (.ref f_Model_low) = true) (l_Model_low : K.lookup f_Model_low = some ⟨oc_Model_low, od_Model_low, .func (PySem.W.fnOf "low" "Model.low" (defArgs s_Model_low) (defBody s_Model_low) (defScope s_Model_low) .none kV_Model_low dc_Model_low pm_Model_low an_Model_low cd_Model_low ct_Model_low), sl_Model_low⟩) (c_Model_low : PySem.W.codeIn K cd_Model_low "Model.low" = true) (k_Model_low : PySem.W.keepIn K (.ref f_Model_low) = true)
    (a_Model_high : PySem.W.findIn K (.ref C_Model) "high" = some (some (.ref f_Model_high))) (i_Model_high : PySem.W.isFn K (.ref f_Model_high) = true) (l_Model_high : K.lookup f_Model_high = some ⟨oc_Model_high, od_Model_high, .func (PySem.W.fnOf "high" "Model.high" (defArgs s_Model_high) (defBody s_Model_high) (defScope s_Model_high) .none kV_Model_high dc_Model_high pm_Model_high an_Model_high cd_Model_high ct_Model_high), sl_Model_high⟩) (c_Model_high : PySem.W.codeIn K cd_Model_high "Model.high" = true) (k_Model_high : PySem.W.keepIn K (.ref f_Model_high) = true)
    (a_Model_put : PySem.W.findIn K (.ref C_Model) "put" = some (some (.ref f_Model_put))) (i_Model_put : PySem.W.isFn K (.ref f_Model_put) = true) (l_Model_put : K.lookup f_Model_put = some ⟨oc_Model_put, od_Model_put, .func (PySem.W.fnOf "put" "Model.put" (defArgs s_Model_put) (defBody s_Model_put) (defScope s_Model_put) .none kV_Model_put dc_Model_put pm_Model_put an_Model_put cd_Model_put ct_Model_put), sl_Model_put⟩) (c_Model_put : PySem.W.codeIn K cd_Model_put "Model.put" = true) (k_Model_put : PySem.W.keepIn K (.ref f_Model_put) = true)
    (a_Model_withdraw : PySem.W.findIn K (.ref C_Model) "withdraw" = some (some (.ref f_Model_withdraw))) (i_Model_withdraw : PySem.W.isFn K (.ref f_Model_withdraw) = true) (l_Model_withdraw : K.lookup f_Model_withdraw = some ⟨oc_Model_withdraw, od_Model_withdraw, .func (PySem.W.fnOf "withdraw" "Model.withdraw" (defArgs s_Model_withdraw) (defBody s_Model_withdraw) (defScope s_Model_withdraw) .none kV_Model_withdraw dc_Model_withdraw pm_Model_withdraw an_Model_withdraw cd_Model_withdraw ct_Model_withdraw), sl_Model_withdraw⟩) (c_Model_withdraw : PySem.W.codeIn K cd_Model_withdraw "Model.withdraw" = true) (k_Model_withdraw : PySem.W.keepIn K (.ref f_Model_withdraw) = true)
    (a_Model_aim : PySem.W.findIn K (.ref C_Model) "aim" = some (some (.ref f_Model_aim))) (i_Model_aim : PySem.W.isFn K (.ref f_Model_aim) = true) (l_Model_aim : K.lookup f_Model_aim = some ⟨oc_Model_aim, od_Model_aim, .func (PySem.W.fnOf "aim" "Model.aim" (defArgs s_Model_aim) (defBody s_Model_aim) (defScope s_Model_aim) .none kV_Model_aim dc_Model_aim pm_Model_aim an_Model_aim cd_Model_aim ct_Model_aim), sl_Model_aim⟩) (c_Model_aim : PySem.W.codeIn K cd_Model_aim "Model.aim" = true) (k_Model_aim : PySem.W.keepIn K (.ref f_Model_aim) = true)
    (a_Model_inside : PySem.W.findIn K (.ref C_Model) "inside" = some (some (.ref f_Model_inside))) (i_Model_inside : PySem.W.isFn K (.ref f_Model_inside) = true) (l_Model_inside : K.lookup f_Model_inside = some ⟨oc_Model_inside, od_Model_inside, .func (PySem.W.fnOf "inside" "Model.inside" (defArgs s_Model_inside) (defBody s_Model_inside) (defScope s_Model_inside) .none kV_Model_inside dc_Model_inside pm_Model_inside an_Model_inside cd_Model_inside ct_Model_inside), sl_Model_inside⟩) (c_Model_inside : PySem.W.codeIn K cd_Model_inside "Model.inside" = true) (k_Model_inside : PySem.W.keepIn K (.ref f_Model_inside) = true)
    (a_Model_broken : PySem.W.findIn K (.ref C_Model) "broken" = some (some (.ref f_Model_broken))) (i_Model_broken : PySem.W.isFn K (.ref f_Model_broken) = true) (l_Model_broken : K.lookup f_Model_broken = some ⟨oc_Model_broken, od_Model_broken, .func (PySem.W.fnOf "broken" "Model.broken" (defArgs s_Model_broken) (defBody s_Model_broken) (defScope s_Model_broken) .none kV_Model_broken dc_Model_broken pm_Model_broken an_Model_broken cd_Model_broken ct_Model_broken), sl_Model_broken⟩) (c_Model_broken : PySem.W.codeIn K cd_Model_broken "Model.broken" = true) (k_Model_broken : PySem.W.keepIn K (.ref f_Model_broken) = true)
    (a_Model_is_solution : PySem.W.findIn K (.ref C_Model) "is_solution" = some (some (.ref f_Model_is_solution))) (i_Model_is_solution : PySem.W.isFn K (.ref f_Model_is_solution) = true) (l_Model_is_solution : K.lookup f_Model_is_solution = some ⟨oc_Model_is_solution, od_Model_is_solution, .func (PySem.W.fnOf "is_solution" "Model.is_solution" (defArgs s_Model_is_solution) (defBody s_Model_is_solution) (defScope s_Model_is_solution) .none kV_Model_is_solution dc_Model_is_solution pm_Model_is_solution an_Model_is_solution cd_Model_is_solution ct_Model_is_solution), sl_Model_is_solution⟩) (c_Model_is_solution : PySem.W.codeIn K cd_Model_is_solution "Model.is_solution" = true) (k_Model_is_solution : PySem.W.keepIn K (.ref f_Model_is_solution) = true)
    (a_Model_worth : PySem.W.findIn K (.ref C_Model) "worth" = some (some (.ref f_Model_worth))) (i_Model_worth : PySem.W.isFn K (.ref f_Model_worth) = true) (l_Model_worth : K.lookup f_Model_worth = some ⟨oc_Model_worth, od_Model_worth, .func (PySem.W.fnOf "worth" "Model.worth" (defArgs s_Model_worth) (defBody s_Model_worth) (defScope s_Model_worth) .none kV_Model_worth dc_Model_worth pm_Model_worth an_Model_worth cd_Model_worth ct_Model_worth), sl_Model_worth⟩) (c_Model_worth : PySem.W.codeIn K cd_Model_worth "Model.worth" = true) (k_Model_worth : PySem.W.keepIn K (.ref f_Model_worth) = true)
    (a_Model_is_better : PySem.W.findIn K (.ref C_Model) "is_better" = some (some (.ref f_Model_is_better))) (i_Model_is_better : PySem.W.isFn K (.ref f_Model_is_better) = true) (l_Model_is_better : K.lookup f_Model_is_better = some ⟨oc_Model_is_better, od_Model_is_better, .func (PySem.W.fnOf "is_better" "Model.is_better" (defArgs s_Model_is_better) (defBody s_Model_is_better) (defScope s_Model_is_better) .none kV_Model_is_better dc_Model_is_better pm_Model_is_better an_Model_is_better cd_Model_is_better ct_Model_is_better), sl_Model_is_better⟩) (c_Model_is_better : PySem.W.codeIn K cd_Model_is_better "Model.is_better" = true) (k_Model_is_better : PySem.W.keepIn K (.ref f_Model_is_better) = true)
    (a_law_draw : PySem.W.nsIn K mainGlobals "_law_draw" = some (some (.ref f_law_draw))) (l_law_draw : K.lookup f_law_draw = some ⟨oc_law_draw, od_law_draw, .func (PySem.W.fnOf "_law_draw" "_law_draw" (defArgs s_law_draw) (defBody s_law_draw) (defScope s_law_draw) .none kV_law_draw dc_law_draw pm_law_draw an_law_draw cd_law_draw ct_law_draw), sl_law_draw⟩) (c_law_draw : PySem.W.codeIn K cd_law_draw "_law_draw" = true) (k_law_draw : PySem.W.keepIn K (.ref f_law_draw) = true)
    (a_law_tape : PySem.W.nsIn K mainGlobals "_law_tape" = some (some (.ref f_law_tape))) (l_law_tape : K.lookup f_law_tape = some ⟨oc_law_tape, od_law_tape, .func (PySem.W.fnOf "_law_tape" "_law_tape" (defArgs s_law_tape) (defBody s_law_tape) (defScope s_law_tape) .none kV_law_tape dc_law_tape pm_law_tape an_law_tape cd_law_tape ct_law_tape), sl_law_tape⟩) (c_law_tape : PySem.W.codeIn K cd_law_tape "_law_tape" = true) (k_law_tape : PySem.W.keepIn K (.ref f_law_tape) = true)
    (a_law_terms : PySem.W.nsIn K mainGlobals "_law_terms" = some (some (.ref f_law_terms))) (l_law_terms : K.lookup f_law_terms = some ⟨oc_law_terms, od_law_terms, .func (PySem.W.fnOf "_law_terms" "_law_terms" (defArgs s_law_terms) (defBody s_law_terms) (defScope s_law_terms) .none kV_law_terms dc_law_terms pm_law_terms an_law_terms cd_law_terms ct_law_terms), sl_law_terms⟩) (c_law_terms : PySem.W.codeIn K cd_law_terms "_law_terms" = true) (k_law_terms : PySem.W.keepIn K (.ref f_law_terms) = true)
    (a_law_literal : PySem.W.nsIn K mainGlobals "_law_literal" = some (some (.ref f_law_literal))) (l_law_literal : K.lookup f_law_literal = some ⟨oc_law_literal, od_law_literal, .func (PySem.W.fnOf "_law_literal" "_law_literal" (defArgs s_law_literal) (defBody s_law_literal) (defScope s_law_literal) .none kV_law_literal dc_law_literal pm_law_literal an_law_literal cd_law_literal ct_law_literal), sl_law_literal⟩) (c_law_literal : PySem.W.codeIn K cd_law_literal "_law_literal" = true) (k_law_literal : PySem.W.keepIn K (.ref f_law_literal) = true)
    (a_law_some : PySem.W.nsIn K mainGlobals "_law_some" = some (some (.ref f_law_some))) (l_law_some : K.lookup f_law_some = some ⟨oc_law_some, od_law_some, .func (PySem.W.fnOf "_law_some" "_law_some" (defArgs s_law_some) (defBody s_law_some) (defScope s_law_some) .none kV_law_some dc_law_some pm_law_some an_law_some cd_law_some ct_law_some), sl_law_some⟩) (c_law_some : PySem.W.codeIn K cd_law_some "_law_some" = true) (k_law_some : PySem.W.keepIn K (.ref f_law_some) = true)
    (a_law_body : PySem.W.nsIn K mainGlobals "_law_body" = some (some (.ref f_law_body))) (l_law_body : K.lookup f_law_body = some ⟨oc_law_body, od_law_body, .func (PySem.W.fnOf "_law_body" "_law_body" (defArgs s_law_body) (defBody s_law_body) (defScope s_law_body) .none kV_law_body dc_law_body pm_law_body an_law_body cd_law_body ct_law_body), sl_law_body⟩) (c_law_body : PySem.W.codeIn K cd_law_body "_law_body" = true) (k_law_body : PySem.W.keepIn K (.ref f_law_body) = true)
    (a_law_world : PySem.W.nsIn K mainGlobals "_law_world" = some (some (.ref f_law_world))) (l_law_world : K.lookup f_law_world = some ⟨oc_law_world, od_law_world, .func (PySem.W.fnOf "_law_world" "_law_world" (defArgs s_law_world) (defBody s_law_world) (defScope s_law_world) .none kV_law_world dc_law_world pm_law_world an_law_world cd_law_world ct_law_world), sl_law_world⟩) (c_law_world : PySem.W.codeIn K cd_law_world "_law_world" = true) (k_law_world : PySem.W.keepIn K (.ref f_law_world) = true)
    (a_law_model : PySem.W.nsIn K mainGlobals "_law_model" = some (some (.ref f_law_model))) (l_law_model : K.lookup f_law_model = some ⟨oc_law_model, od_law_model, .func (PySem.W.fnOf "_law_model" "_law_model" (defArgs s_law_model) (defBody s_law_model) (defScope s_law_model) .none kV_law_model dc_law_model pm_law_model an_law_model cd_law_model ct_law_model), sl_law_model⟩) (c_law_model : PySem.W.codeIn K cd_law_model "_law_model" = true) (k_law_model : PySem.W.keepIn K (.ref f_law_model) = true)
    (a_law_rel : PySem.W.nsIn K mainGlobals "_law_rel" = some (some (.ref f_law_rel))) (l_law_rel : K.lookup f_law_rel = some ⟨oc_law_rel, od_law_rel, .func (PySem.W.fnOf "_law_rel" "_law_rel" (defArgs s_law_rel) (defBody s_law_rel) (defScope s_law_rel) .none kV_law_rel dc_law_rel pm_law_rel an_law_rel cd_law_rel ct_law_rel), sl_law_rel⟩) (c_law_rel : PySem.W.codeIn K cd_law_rel "_law_rel" = true) (k_law_rel : PySem.W.keepIn K (.ref f_law_rel) = true)
    (a_law_sum : PySem.W.nsIn K mainGlobals "_law_sum" = some (some (.ref f_law_sum))) (l_law_sum : K.lookup f_law_sum = some ⟨oc_law_sum, od_law_sum, .func (PySem.W.fnOf "_law_sum" "_law_sum" (defArgs s_law_sum) (defBody s_law_sum) (defScope s_law_sum) .none kV_law_sum dc_law_sum pm_law_sum an_law_sum cd_law_sum ct_law_sum), sl_law_sum⟩) (c_law_sum : PySem.W.codeIn K cd_law_sum "_law_sum" = true) (k_law_sum : PySem.W.keepIn K (.ref f_law_sum) = true)
    (a_law_lit : PySem.W.nsIn K mainGlobals "_law_lit" = some (some (.ref f_law_lit))) (l_law_lit : K.lookup f_law_lit = some ⟨oc_law_lit, od_law_lit, .func (PySem.W.fnOf "_law_lit" "_law_lit" (defArgs s_law_lit) (defBody s_law_lit) (defScope s_law_lit) .none kV_law_lit dc_law_lit pm_law_lit an_law_lit cd_law_lit ct_law_lit), sl_law_lit⟩) (c_law_lit : PySem.W.codeIn K cd_law_lit "_law_lit" = true) (k_law_lit : PySem.W.keepIn K (.ref f_law_lit) = true)
    (a_law_holds : PySem.W.nsIn K mainGlobals "_law_holds" = some (some (.ref f_law_holds))) (l_law_holds : K.lookup f_law_holds = some ⟨oc_law_holds, od_law_holds, .func (PySem.W.fnOf "_law_holds" "_law_holds" (defArgs s_law_holds) (defBody s_law_holds) (defScope s_law_holds) .none kV_law_holds dc_law_holds pm_law_holds an_law_holds cd_law_holds ct_law_holds), sl_law_holds⟩) (c_law_holds : PySem.W.codeIn K cd_law_holds "_law_holds" = true) (k_law_holds : PySem.W.keepIn K (.ref f_law_holds) = true)
    (a_law_point : PySem.W.nsIn K mainGlobals "_law_point" = some (some (.ref f_law_point))) (l_law_point : K.lookup f_law_point = some ⟨oc_law_point, od_law_point, .func (PySem.W.fnOf "_law_point" "_law_point" (defArgs s_law_point) (defBody s_law_point) (defScope s_law_point) .none kV_law_point dc_law_point pm_law_point an_law_point cd_law_point ct_law_point), sl_law_point⟩) (c_law_point : PySem.W.codeIn K cd_law_point "_law_point" = true) (k_law_point : PySem.W.keepIn K (.ref f_law_point) = true)
    (a_law_solution : PySem.W.nsIn K mainGlobals "_law_solution" = some (some (.ref f_law_solution))) (l_law_solution : K.lookup f_law_solution = some ⟨oc_law_solution, od_law_solution, .func (PySem.W.fnOf "_law_solution" "_law_solution" (defArgs s_law_solution) (defBody s_law_solution) (defScope s_law_solution) .none kV_law_solution dc_law_solution pm_law_solution an_law_solution cd_law_solution ct_law_solution), sl_law_solution⟩) (c_law_solution : PySem.W.codeIn K cd_law_solution "_law_solution" = true) (k_law_solution : PySem.W.keepIn K (.ref f_law_solution) = true)
    (a_law_refused : PySem.W.nsIn K mainGlobals "_law_refused" = some (some (.ref f_law_refused))) (l_law_refused : K.lookup f_law_refused = some ⟨oc_law_refused, od_law_refused, .func (PySem.W.fnOf "_law_refused" "_law_refused" (defArgs s_law_refused) (defBody s_law_refused) (defScope s_law_refused) .none kV_law_refused dc_law_refused pm_law_refused an_law_refused cd_law_refused ct_law_refused), sl_law_refused⟩) (c_law_refused : PySem.W.codeIn K cd_law_refused "_law_refused" = true) (k_law_refused : PySem.W.keepIn K (.ref f_law_refused) = true)
    (a_law_right : PySem.W.nsIn K mainGlobals "_law_right" = some (some (.ref f_law_right))) (l_law_right : K.lookup f_law_right = some ⟨oc_law_right, od_law_right, .func (PySem.W.fnOf "_law_right" "_law_right" (defArgs s_law_right) (defBody s_law_right) (defScope s_law_right) .none kV_law_right dc_law_right pm_law_right an_law_right cd_law_right ct_law_right), sl_law_right⟩) (c_law_right : PySem.W.codeIn K cd_law_right "_law_right" = true) (k_law_right : PySem.W.keepIn K (.ref f_law_right) = true)
    (a_law : PySem.W.nsIn K mainGlobals "law" = some (some (.ref f_law))) (l_law : K.lookup f_law = some ⟨oc_law, od_law, .func (PySem.W.fnOf "law" "law" (defArgs s_law) (defBody s_law) (defScope s_law) .none kV_law dc_law pm_law an_law cd_law ct_law), sl_law⟩) (c_law : PySem.W.codeIn K cd_law "law" = true) (k_law : PySem.W.keepIn K (.ref f_law) = true)
    (z_len : PySem.W.nsIn K mainGlobals "len" = some none)
    (z_int : PySem.W.nsIn K mainGlobals "int" = some none)
    (z_list : PySem.W.nsIn K mainGlobals "list" = some none)
    (z_tuple : PySem.W.nsIn K mainGlobals "tuple" = some none)
    (z_range : PySem.W.nsIn K mainGlobals "range" = some none)
    (z_all : PySem.W.nsIn K mainGlobals "all" = some none)
    (z_any : PySem.W.nsIn K mainGlobals "any" = some none)
    (z_isinstance : PySem.W.nsIn K mainGlobals "isinstance" = some none)
    (z_bool : PySem.W.nsIn K mainGlobals "bool" = some none)
    (z_abs : PySem.W.nsIn K mainGlobals "abs" = some none)
    (z_set : PySem.W.nsIn K mainGlobals "set" = some none)
    (z_str : PySem.W.nsIn K mainGlobals "str" = some none)
    {v_COEFFICIENT_MOST : Value} (g_COEFFICIENT_MOST : PySem.W.nsIn K mainGlobals "COEFFICIENT_MOST" = some (some v_COEFFICIENT_MOST)) (r_COEFFICIENT_MOST : RelV (.int 1000000) v_COEFFICIENT_MOST)
    {v_SUM_MOST : Value} (g_SUM_MOST : PySem.W.nsIn K mainGlobals "SUM_MOST" = some (some v_SUM_MOST)) (r_SUM_MOST : RelV (.int 1000000000) v_SUM_MOST)
    {v_ENTRY_MOST : Value} (g_ENTRY_MOST : PySem.W.nsIn K mainGlobals "ENTRY_MOST" = some (some v_ENTRY_MOST)) (r_ENTRY_MOST : RelV (.int 1000) v_ENTRY_MOST)
    {v_LETTERS : Value} (g_LETTERS : PySem.W.nsIn K mainGlobals "LETTERS" = some (some v_LETTERS)) (r_LETTERS : RelV (.str (Str.ofString "abcdefghijklmnopqrstuvwxyz")) v_LETTERS)
    {v_DIGITS : Value} (g_DIGITS : PySem.W.nsIn K mainGlobals "DIGITS" = some (some v_DIGITS)) (r_DIGITS : RelV (.str (Str.ofString "0123456789")) v_DIGITS)
    {v_UNKNOWNS_MOST : Value} (g_UNKNOWNS_MOST : PySem.W.nsIn K mainGlobals "UNKNOWNS_MOST" = some (some v_UNKNOWNS_MOST)) (r_UNKNOWNS_MOST : RelV (.int 60) v_UNKNOWNS_MOST)
    {v_CONSTRAINTS_MOST : Value} (g_CONSTRAINTS_MOST : PySem.W.nsIn K mainGlobals "CONSTRAINTS_MOST" = some (some v_CONSTRAINTS_MOST)) (r_CONSTRAINTS_MOST : RelV (.int 200) v_CONSTRAINTS_MOST)
    {v_BOUND_MOST : Value} (g_BOUND_MOST : PySem.W.nsIn K mainGlobals "BOUND_MOST" = some (some v_BOUND_MOST)) (r_BOUND_MOST : RelV (.int 1000) v_BOUND_MOST)
    {v_POINTS_MOST : Value} (g_POINTS_MOST : PySem.W.nsIn K mainGlobals "POINTS_MOST" = some (some v_POINTS_MOST)) (r_POINTS_MOST : RelV (.int 20000) v_POINTS_MOST)
    (e_TooLarge : ExcAt K mg "TooLarge")
    (x_TooLarge_TooLarge : PySem.W.exmOne K (exC K "TooLarge") (exC K "TooLarge") = some true)
    : ∃ fd : FuncData, (∀ (s : Shared) (v : Value), BindsTo s fd ⟨[v], []⟩ [("_law_script", v)]) ∧ ∀ base : Heap, K.In base → base.Ns mainGlobals mg → FnOk l.prog w K mg base CX0 9 fa fd ["_law_script"] ((spLaw K)) := by
  have e := hfa.symm.trans (PySem.W.mg_of X G a_law)
  cases e
  have B : Bi K mg C_Model := { n_len := PySem.W.mg_none_of X G z_len, n_int := PySem.W.mg_none_of X G z_int, n_list := PySem.W.mg_none_of X G z_list, n_tuple := PySem.W.mg_none_of X G z_tuple, n_range := PySem.W.mg_none_of X G z_range, n_all := PySem.W.mg_none_of X G z_all, n_any := PySem.W.mg_none_of X G z_any, n_isinstance := PySem.W.mg_none_of X G z_isinstance, n_bool := PySem.W.mg_none_of X G z_bool, n_abs := PySem.W.mg_none_of X G z_abs, n_set := PySem.W.mg_none_of X G z_set, n_str := PySem.W.mg_none_of X G z_str, c_COEFFICIENT_MOST := ⟨_, PySem.W.mg_of X G g_COEFFICIENT_MOST, r_COEFFICIENT_MOST⟩, c_SUM_MOST := ⟨_, PySem.W.mg_of X G g_SUM_MOST, r_SUM_MOST⟩, c_ENTRY_MOST := ⟨_, PySem.W.mg_of X G g_ENTRY_MOST, r_ENTRY_MOST⟩, c_LETTERS := ⟨_, PySem.W.mg_of X G g_LETTERS, r_LETTERS⟩, c_DIGITS := ⟨_, PySem.W.mg_of X G g_DIGITS, r_DIGITS⟩, c_UNKNOWNS_MOST := ⟨_, PySem.W.mg_of X G g_UNKNOWNS_MOST, r_UNKNOWNS_MOST⟩, c_CONSTRAINTS_MOST := ⟨_, PySem.W.mg_of X G g_CONSTRAINTS_MOST, r_CONSTRAINTS_MOST⟩, c_BOUND_MOST := ⟨_, PySem.W.mg_of X G g_BOUND_MOST, r_BOUND_MOST⟩, c_POINTS_MOST := ⟨_, PySem.W.mg_of X G g_POINTS_MOST, r_POINTS_MOST⟩, e_TooLarge := e_TooLarge, x_TooLarge_TooLarge := x_TooLarge_TooLarge, cl_Model := ⟨pg_Model, hd_Model, po_Model, sa_Model⟩, at_Model__names := n_Model__names, at_Model__lows := n_Model__lows, at_Model__highs := n_Model__highs, at_Model__bodies := n_Model__bodies, at_Model__goal := n_Model__goal }
  have F_next_point := fun_mk (st := s_next_point) l_next_point c_next_point k_next_point
  have b_next_point := F_next_point.binds (ps := ["model", "point"]) fun _ _ _ _ _ _ us hl => match us, hl with | [_, _], _ => rfl
  have F_solutions := fun_mk (st := s_solutions) l_solutions c_solutions k_solutions
  have b_solutions := F_solutions.binds (ps := ["model"]) fun _ _ _ _ _ _ us hl => match us, hl with | [_], _ => rfl
  have F_best_plain := fun_mk (st := s_best_plain) l_best_plain c_best_plain k_best_plain
  have b_best_plain := F_best_plain.binds (ps := ["model"]) fun _ _ _ _ _ _ us hl => match us, hl with | [_], _ => rfl
  have F_relation_holds := fun_mk (st := s_relation_holds) l_relation_holds c_relation_holds k_relation_holds
  have b_relation_holds := F_relation_holds.binds (ps := ["relation", "left", "right"]) fun _ _ _ _ _ _ us hl => match us, hl with | [_, _, _], _ => rfl
  have F_literal_holds := fun_mk (st := s_literal_holds) l_literal_holds c_literal_holds k_literal_holds
  have b_literal_holds := F_literal_holds.binds (ps := ["literal", "worth"]) fun _ _ _ _ _ _ us hl => match us, hl with | [_, _], _ => rfl
  have F_terms_sum := fun_mk (st := s_terms_sum) l_terms_sum c_terms_sum k_terms_sum
  have b_terms_sum := F_terms_sum.binds (ps := ["terms", "point"]) fun _ _ _ _ _ _ us hl => match us, hl with | [_, _], _ => rfl
  have F_is_label := fun_mk (st := s_is_label) l_is_label c_is_label k_is_label
  have b_is_label := F_is_label.binds (ps := ["text"]) fun _ _ _ _ _ _ us hl => match us, hl with | [_], _ => rfl
  have F_body_holds := fun_mk (st := s_body_holds) l_body_holds c_body_holds k_body_holds
  have b_body_holds := F_body_holds.binds (ps := ["body", "point"]) fun _ _ _ _ _ _ us hl => match us, hl with | [_, _], _ => rfl
  have F_terms_fit := fun_mk (st := s_terms_fit) l_terms_fit c_terms_fit k_terms_fit
  have b_terms_fit := F_terms_fit.binds (ps := ["terms", "many"]) fun _ _ _ _ _ _ us hl => match us, hl with | [_, _], _ => rfl
  have F_literal_fits := fun_mk (st := s_literal_fits) l_literal_fits c_literal_fits k_literal_fits
  have b_literal_fits := F_literal_fits.binds (ps := ["literal", "many"]) fun _ _ _ _ _ _ us hl => match us, hl with | [_, _], _ => rfl
  have F_linear_fits := fun_mk (st := s_linear_fits) l_linear_fits c_linear_fits k_linear_fits
  have b_linear_fits := F_linear_fits.binds (ps := ["terms", "relation", "rhs", "many"]) fun _ _ _ _ _ _ us hl => match us, hl with | [_, _, _, _], _ => rfl
  have F_distinct_fit := fun_mk (st := s_distinct_fit) l_distinct_fit c_distinct_fit k_distinct_fit
  have b_distinct_fit := F_distinct_fit.binds (ps := ["numbers", "least", "most", "many"]) fun _ _ _ _ _ _ us hl => match us, hl with | [_, _, _, _], _ => rfl
  have F_entries_fit := fun_mk (st := s_entries_fit) l_entries_fit c_entries_fit k_entries_fit
  have b_entries_fit := F_entries_fit.binds (ps := ["entries"]) fun _ _ _ _ _ _ us hl => match us, hl with | [_], _ => rfl
  have F_any_fits := fun_mk (st := s_any_fits) l_any_fits c_any_fits k_any_fits
  have b_any_fits := F_any_fits.binds (ps := ["literals", "many"]) fun _ _ _ _ _ _ us hl => match us, hl with | [_, _], _ => rfl
  have F_table_fits := fun_mk (st := s_table_fits) l_table_fits c_table_fits k_table_fits
  have b_table_fits := F_table_fits.binds (ps := ["numbers", "rows", "many"]) fun _ _ _ _ _ _ us hl => match us, hl with | [_, _, _], _ => rfl
  have F_body_fits := fun_mk (st := s_body_fits) l_body_fits c_body_fits k_body_fits
  have b_body_fits := F_body_fits.binds (ps := ["body", "many"]) fun _ _ _ _ _ _ us hl => match us, hl with | [_, _], _ => rfl
  have F_bounds_fit := fun_mk (st := s_bounds_fit) l_bounds_fit c_bounds_fit k_bounds_fit
  have b_bounds_fit := F_bounds_fit.binds (ps := ["low", "high"]) fun _ _ _ _ _ _ us hl => match us, hl with | [_, _], _ => rfl
  have F_Model___init__ := fun_mk (st := s_Model___init__) l_Model___init__ c_Model___init__ k_Model___init__
  have b_Model___init__ := F_Model___init__.binds (ps := ["self", "unknowns"]) fun _ _ _ _ _ _ us hl => match us, hl with | [_, _], _ => rfl
  have F_Model__need := fun_mk (st := s_Model__need) l_Model__need c_Model__need k_Model__need
  have b_Model__need := F_Model__need.binds (ps := ["self", "v"]) fun _ _ _ _ _ _ us hl => match us, hl with | [_, _], _ => rfl
  have F_Model_many := fun_mk (st := s_Model_many) l_Model_many c_Model_many k_Model_many
  have b_Model_many := F_Model_many.binds (ps := ["self"]) fun _ _ _ _ _ _ us hl => match us, hl with | [_], _ => rfl
  have F_Model_low := fun_mk (st := s_Model_low) l_Model_low c_Model_low k_Model_low
  have b_Model_low := F_Model_low.binds (ps := ["self", "v"]) fun _ _ _ _ _ _ us hl => match us, hl with | [_, _], _ => rfl
  have F_Model_high := fun_mk (st := s_Model_high) l_Model_high c_Model_high k_Model_high
  have b_Model_high := F_Model_high.binds (ps := ["self", "v"]) fun _ _ _ _ _ _ us hl => match us, hl with | [_, _], _ => rfl
  have F_Model_put := fun_mk (st := s_Model_put) l_Model_put c_Model_put k_Model_put
  have b_Model_put := F_Model_put.binds (ps := ["self", "label", "body"]) fun _ _ _ _ _ _ us hl => match us, hl with | [_, _, _], _ => rfl
  have F_Model_withdraw := fun_mk (st := s_Model_withdraw) l_Model_withdraw c_Model_withdraw k_Model_withdraw
  have b_Model_withdraw := F_Model_withdraw.binds (ps := ["self", "label"]) fun _ _ _ _ _ _ us hl => match us, hl with | [_, _], _ => rfl
  have F_Model_aim := fun_mk (st := s_Model_aim) l_Model_aim c_Model_aim k_Model_aim
  have b_Model_aim := F_Model_aim.binds (ps := ["self", "goal"]) fun _ _ _ _ _ _ us hl => match us, hl with | [_, _], _ => rfl
  have F_Model_inside := fun_mk (st := s_Model_inside) l_Model_inside c_Model_inside k_Model_inside
  have b_Model_inside := F_Model_inside.binds (ps := ["self", "point"]) fun _ _ _ _ _ _ us hl => match us, hl with | [_, _], _ => rfl
  have F_Model_broken := fun_mk (st := s_Model_broken) l_Model_broken c_Model_broken k_Model_broken
  have b_Model_broken := F_Model_broken.binds (ps := ["self", "point"]) fun _ _ _ _ _ _ us hl => match us, hl with | [_, _], _ => rfl
  have F_Model_is_solution := fun_mk (st := s_Model_is_solution) l_Model_is_solution c_Model_is_solution k_Model_is_solution
  have b_Model_is_solution := F_Model_is_solution.binds (ps := ["self", "point"]) fun _ _ _ _ _ _ us hl => match us, hl with | [_, _], _ => rfl
  have F_Model_worth := fun_mk (st := s_Model_worth) l_Model_worth c_Model_worth k_Model_worth
  have b_Model_worth := F_Model_worth.binds (ps := ["self", "point"]) fun _ _ _ _ _ _ us hl => match us, hl with | [_, _], _ => rfl
  have F_Model_is_better := fun_mk (st := s_Model_is_better) l_Model_is_better c_Model_is_better k_Model_is_better
  have b_Model_is_better := F_Model_is_better.binds (ps := ["self", "first", "second"]) fun _ _ _ _ _ _ us hl => match us, hl with | [_, _, _], _ => rfl
  have F_law_draw := fun_mk (st := s_law_draw) l_law_draw c_law_draw k_law_draw
  have b_law_draw := F_law_draw.binds (ps := ["_law_tape_here", "_law_many"]) fun _ _ _ _ _ _ us hl => match us, hl with | [_, _], _ => rfl
  have F_law_tape := fun_mk (st := s_law_tape) l_law_tape c_law_tape k_law_tape
  have b_law_tape := F_law_tape.binds (ps := ["_law_script"]) fun _ _ _ _ _ _ us hl => match us, hl with | [_], _ => rfl
  have F_law_terms := fun_mk (st := s_law_terms) l_law_terms c_law_terms k_law_terms
  have b_law_terms := F_law_terms.binds (ps := ["_law_tape_here", "_law_many"]) fun _ _ _ _ _ _ us hl => match us, hl with | [_, _], _ => rfl
  have F_law_literal := fun_mk (st := s_law_literal) l_law_literal c_law_literal k_law_literal
  have b_law_literal := F_law_literal.binds (ps := ["_law_tape_here", "_law_many"]) fun _ _ _ _ _ _ us hl => match us, hl with | [_, _], _ => rfl
  have F_law_some := fun_mk (st := s_law_some) l_law_some c_law_some k_law_some
  have b_law_some := F_law_some.binds (ps := ["_law_tape_here", "_law_many", "_law_least"]) fun _ _ _ _ _ _ us hl => match us, hl with | [_, _, _], _ => rfl
  have F_law_body := fun_mk (st := s_law_body) l_law_body c_law_body k_law_body
  have b_law_body := F_law_body.binds (ps := ["_law_tape_here", "_law_many"]) fun _ _ _ _ _ _ us hl => match us, hl with | [_, _], _ => rfl
  have F_law_world := fun_mk (st := s_law_world) l_law_world c_law_world k_law_world
  have b_law_world := F_law_world.binds (ps := ["_law_tape_here", "_law_most", "_law_width", "_law_bodies"]) fun _ _ _ _ _ _ us hl => match us, hl with | [_, _, _, _], _ => rfl
  have F_law_model := fun_mk (st := s_law_model) l_law_model c_law_model k_law_model
  have b_law_model := F_law_model.binds (ps := ["_law_world_here"]) fun _ _ _ _ _ _ us hl => match us, hl with | [_], _ => rfl
  have F_law_rel := fun_mk (st := s_law_rel) l_law_rel c_law_rel k_law_rel
  have b_law_rel := F_law_rel.binds (ps := ["_law_relation", "_law_left", "_law_right_here"]) fun _ _ _ _ _ _ us hl => match us, hl with | [_, _, _], _ => rfl
  have F_law_sum := fun_mk (st := s_law_sum) l_law_sum c_law_sum k_law_sum
  have b_law_sum := F_law_sum.binds (ps := ["_law_terms_here", "_law_point_here"]) fun _ _ _ _ _ _ us hl => match us, hl with | [_, _], _ => rfl
  have F_law_lit := fun_mk (st := s_law_lit) l_law_lit c_law_lit k_law_lit
  have b_law_lit := F_law_lit.binds (ps := ["_law_literal_here", "_law_point_here"]) fun _ _ _ _ _ _ us hl => match us, hl with | [_, _], _ => rfl
  have F_law_holds := fun_mk (st := s_law_holds) l_law_holds c_law_holds k_law_holds
  have b_law_holds := F_law_holds.binds (ps := ["_law_body_here", "_law_point_here"]) fun _ _ _ _ _ _ us hl => match us, hl with | [_, _], _ => rfl
  have F_law_point := fun_mk (st := s_law_point) l_law_point c_law_point k_law_point
  have b_law_point := F_law_point.binds (ps := ["_law_tape_here", "_law_unknowns"]) fun _ _ _ _ _ _ us hl => match us, hl with | [_, _], _ => rfl
  have F_law_solution := fun_mk (st := s_law_solution) l_law_solution c_law_solution k_law_solution
  have b_law_solution := F_law_solution.binds (ps := ["_law_world_here", "_law_point_here"]) fun _ _ _ _ _ _ us hl => match us, hl with | [_, _], _ => rfl
  have F_law_refused := fun_mk (st := s_law_refused) l_law_refused c_law_refused k_law_refused
  have b_law_refused := F_law_refused.binds (ps := ["_law_extra"]) fun _ _ _ _ _ _ us hl => match us, hl with | [_], _ => rfl
  have F_law_right := fun_mk (st := s_law_right) l_law_right c_law_right k_law_right
  have b_law_right := F_law_right.binds (ps := ["_law_tape_here", "_law_model_here", "_law_world_here"]) fun _ _ _ _ _ _ us hl => match us, hl with | [_, _, _], _ => rfl
  refine ⟨PySem.W.fnOf "law" "law" (defArgs s_law) (defBody s_law) (defScope s_law) .none kV_law dc_law pm_law an_law cd_law ct_law, fun s v => .of_eq rfl, fun base _ _ => ?_⟩
  have D_Model__need : IsM l.prog w K mg base CX0 1 C_Model "_need" ["self", "v"] (spNeed K C_Model) := ⟨⟨_, _, ok_Model__need F_Model__need B , ⟨a_Model__need, i_Model__need, k_Model__need⟩, b_Model__need⟩, B.cl_Model⟩
  have D_Model_low : IsM l.prog w K mg base CX0 2 C_Model "low" ["self", "v"] (spLow K C_Model) := ⟨⟨_, _, ok_Model_low F_Model_low B D_Model__need, ⟨a_Model_low, i_Model_low, k_Model_low⟩, b_Model_low⟩, B.cl_Model⟩
  have D_Model_high : IsM l.prog w K mg base CX0 2 C_Model "high" ["self", "v"] (spHigh K C_Model) := ⟨⟨_, _, ok_Model_high F_Model_high B D_Model__need, ⟨a_Model_high, i_Model_high, k_Model_high⟩, b_Model_high⟩, B.cl_Model⟩
  have D_next_point : Is l.prog w K mg base CX0 3 "next_point" ["model", "point"] (spNext K C_Model) := ⟨_, _, ok_next_point F_next_point B D_Model_low D_Model_high, PySem.W.mg_of X G a_next_point, k_next_point, b_next_point⟩
  have D_Model_many : IsM l.prog w K mg base CX0 1 C_Model "many" ["self"] (spMany K C_Model) := ⟨⟨_, _, ok_Model_many F_Model_many B , ⟨a_Model_many, i_Model_many, k_Model_many⟩, b_Model_many⟩, B.cl_Model⟩
  have D_Model_inside : IsM l.prog w K mg base CX0 1 C_Model "inside" ["self", "point"] (spInside K C_Model) := ⟨⟨_, _, ok_Model_inside F_Model_inside B , ⟨a_Model_inside, i_Model_inside, k_Model_inside⟩, b_Model_inside⟩, B.cl_Model⟩
  have D_relation_holds : Is l.prog w K mg base CX0 1 "relation_holds" ["relation", "left", "right"] spRel := ⟨_, _, ok_relation_holds F_relation_holds B , PySem.W.mg_of X G a_relation_holds, k_relation_holds, b_relation_holds⟩
  have D_terms_sum : Is l.prog w K mg base CX0 1 "terms_sum" ["terms", "point"] (spSumF K) := ⟨_, _, ok_terms_sum F_terms_sum B , PySem.W.mg_of X G a_terms_sum, k_terms_sum, b_terms_sum⟩
  have D_literal_holds : Is l.prog w K mg base CX0 2 "literal_holds" ["literal", "worth"] (spLit K) := ⟨_, _, ok_literal_holds F_literal_holds B D_relation_holds, PySem.W.mg_of X G a_literal_holds, k_literal_holds, b_literal_holds⟩
  have D_body_holds : Is l.prog w K mg base CX0 3 "body_holds" ["body", "point"] (spHolds K) := ⟨_, _, ok_body_holds F_body_holds B D_relation_holds D_terms_sum D_literal_holds, PySem.W.mg_of X G a_body_holds, k_body_holds, b_body_holds⟩
  have D_Model_broken : IsM l.prog w K mg base CX0 4 C_Model "broken" ["self", "point"] (spBroken K C_Model) := ⟨⟨_, _, ok_Model_broken F_Model_broken B D_body_holds, ⟨a_Model_broken, i_Model_broken, k_Model_broken⟩, b_Model_broken⟩, B.cl_Model⟩
  have D_Model_is_solution : IsM l.prog w K mg base CX0 5 C_Model "is_solution" ["self", "point"] (spIsSol K C_Model) := ⟨⟨_, _, ok_Model_is_solution F_Model_is_solution B D_Model_inside D_Model_broken, ⟨a_Model_is_solution, i_Model_is_solution, k_Model_is_solution⟩, b_Model_is_solution⟩, B.cl_Model⟩
  have D_solutions : Is l.prog w K mg base (L2.CX l.prog w) 6 "solutions" ["model"] (spSolsX K C_Model) := ⟨_, _, ok_solutions F_solutions B D_Model_many D_Model_is_solution D_next_point D_Model_low D_Model_high, PySem.W.mg_of X G a_solutions, k_solutions, b_solutions⟩
  have D_Model_worth : IsM l.prog w K mg base CX0 2 C_Model "worth" ["self", "point"] (spWorth K C_Model) := ⟨⟨_, _, ok_Model_worth F_Model_worth B D_terms_sum, ⟨a_Model_worth, i_Model_worth, k_Model_worth⟩, b_Model_worth⟩, B.cl_Model⟩
  have D_Model_is_better : IsM l.prog w K mg base CX0 1 C_Model "is_better" ["self", "first", "second"] (spBetter K C_Model) := ⟨⟨_, _, ok_Model_is_better F_Model_is_better B , ⟨a_Model_is_better, i_Model_is_better, k_Model_is_better⟩, b_Model_is_better⟩, B.cl_Model⟩
  have D_best_plain : Is l.prog w K mg base (L2.CX l.prog w) 7 "best_plain" ["model"] (spBestX K C_Model) := ⟨_, _, ok_best_plain F_best_plain B D_solutions D_Model_worth D_Model_is_better, PySem.W.mg_of X G a_best_plain, k_best_plain, b_best_plain⟩
  have D_is_label : Is l.prog w K mg base CX0 1 "is_label" ["text"] spLabel := ⟨_, _, ok_is_label F_is_label B , PySem.W.mg_of X G a_is_label, k_is_label, b_is_label⟩
  have D_terms_fit : Is l.prog w K mg base CX0 1 "terms_fit" ["terms", "many"] (spTmFit K) := ⟨_, _, ok_terms_fit F_terms_fit B , PySem.W.mg_of X G a_terms_fit, k_terms_fit, b_terms_fit⟩
  have D_literal_fits : Is l.prog w K mg base CX0 1 "literal_fits" ["literal", "many"] (spLitFit K) := ⟨_, _, ok_literal_fits F_literal_fits B , PySem.W.mg_of X G a_literal_fits, k_literal_fits, b_literal_fits⟩
  have D_linear_fits : Is l.prog w K mg base CX0 2 "linear_fits" ["terms", "relation", "rhs", "many"] (spLinFit K) := ⟨_, _, ok_linear_fits F_linear_fits B D_terms_fit, PySem.W.mg_of X G a_linear_fits, k_linear_fits, b_linear_fits⟩
  have D_distinct_fit : Is l.prog w K mg base CX0 1 "distinct_fit" ["numbers", "least", "most", "many"] (spDistinct K) := ⟨_, _, ok_distinct_fit F_distinct_fit B , PySem.W.mg_of X G a_distinct_fit, k_distinct_fit, b_distinct_fit⟩
  have D_entries_fit : Is l.prog w K mg base CX0 1 "entries_fit" ["entries"] (spEntries K) := ⟨_, _, ok_entries_fit F_entries_fit B , PySem.W.mg_of X G a_entries_fit, k_entries_fit, b_entries_fit⟩
  have D_any_fits : Is l.prog w K mg base CX0 2 "any_fits" ["literals", "many"] (spAnyFits K) := ⟨_, _, ok_any_fits F_any_fits B D_literal_fits, PySem.W.mg_of X G a_any_fits, k_any_fits, b_any_fits⟩
  have D_table_fits : Is l.prog w K mg base CX0 2 "table_fits" ["numbers", "rows", "many"] (spTableFits K) := ⟨_, _, ok_table_fits F_table_fits B D_distinct_fit D_entries_fit, PySem.W.mg_of X G a_table_fits, k_table_fits, b_table_fits⟩
  have D_body_fits : Is l.prog w K mg base CX0 3 "body_fits" ["body", "many"] (spBodyFits K) := ⟨_, _, ok_body_fits F_body_fits B D_linear_fits D_any_fits D_distinct_fit D_table_fits D_literal_fits D_entries_fit, PySem.W.mg_of X G a_body_fits, k_body_fits, b_body_fits⟩
  have D_bounds_fit : Is l.prog w K mg base CX0 1 "bounds_fit" ["low", "high"] spBounds := ⟨_, _, ok_bounds_fit F_bounds_fit B , PySem.W.mg_of X G a_bounds_fit, k_bounds_fit, b_bounds_fit⟩
  have D_Model___init__ : IsI l.prog w K mg base CX0 2 C_Model "Model" ["self", "unknowns"] (spInit K C_Model) := ⟨_, _, ok_Model___init__ F_Model___init__ B D_is_label D_bounds_fit, ⟨mk_Model, a_Model___init__, i_Model___init__, kc_Model⟩, b_Model___init__, PySem.W.mg_of X G a_Model⟩
  have D_Model_put : IsM l.prog w K mg base CX0 4 C_Model "put" ["self", "label", "body"] (spPut K C_Model) := ⟨⟨_, _, ok_Model_put F_Model_put B D_is_label D_body_fits, ⟨a_Model_put, i_Model_put, k_Model_put⟩, b_Model_put⟩, B.cl_Model⟩
  have D_Model_withdraw : IsM l.prog w K mg base CX0 1 C_Model "withdraw" ["self", "label"] (spWithdraw K C_Model) := ⟨⟨_, _, ok_Model_withdraw F_Model_withdraw B , ⟨a_Model_withdraw, i_Model_withdraw, k_Model_withdraw⟩, b_Model_withdraw⟩, B.cl_Model⟩
  have D_Model_aim : IsM l.prog w K mg base CX0 2 C_Model "aim" ["self", "goal"] (spAim K C_Model) := ⟨⟨_, _, ok_Model_aim F_Model_aim B D_terms_fit, ⟨a_Model_aim, i_Model_aim, k_Model_aim⟩, b_Model_aim⟩, B.cl_Model⟩
  have D_law_draw : Is l.prog w K mg base CX0 1 "_law_draw" ["_law_tape_here", "_law_many"] spDraw := ⟨_, _, ok_law_draw F_law_draw B , PySem.W.mg_of X G a_law_draw, k_law_draw, b_law_draw⟩
  have D_law_tape : Is l.prog w K mg base CX0 1 "_law_tape" ["_law_script"] (spTape K) := ⟨_, _, ok_law_tape F_law_tape B , PySem.W.mg_of X G a_law_tape, k_law_tape, b_law_tape⟩
  have D_law_terms : Is l.prog w K mg base CX0 2 "_law_terms" ["_law_tape_here", "_law_many"] (spLawTerms K) := ⟨_, _, ok_law_terms F_law_terms B D_law_draw, PySem.W.mg_of X G a_law_terms, k_law_terms, b_law_terms⟩
  have D_law_literal : Is l.prog w K mg base CX0 2 "_law_literal" ["_law_tape_here", "_law_many"] (spLawLiteral K) := ⟨_, _, ok_law_literal F_law_literal B D_law_draw, PySem.W.mg_of X G a_law_literal, k_law_literal, b_law_literal⟩
  have D_law_some : Is l.prog w K mg base CX0 2 "_law_some" ["_law_tape_here", "_law_many", "_law_least"] (spLawSome K) := ⟨_, _, ok_law_some F_law_some B D_law_draw, PySem.W.mg_of X G a_law_some, k_law_some, b_law_some⟩
  have D_law_body : Is l.prog w K mg base CX0 3 "_law_body" ["_law_tape_here", "_law_many"] (spLawBody K) := ⟨_, _, ok_law_body F_law_body B D_law_draw D_law_literal D_law_terms D_law_some, PySem.W.mg_of X G a_law_body, k_law_body, b_law_body⟩
  have D_law_world : Is l.prog w K mg base CX0 4 "_law_world" ["_law_tape_here", "_law_most", "_law_width", "_law_bodies"] (spWorld K) := ⟨_, _, ok_law_world F_law_world B D_law_terms D_law_draw D_law_body, PySem.W.mg_of X G a_law_world, k_law_world, b_law_world⟩
  have D_law_model : Is l.prog w K mg base CX0 5 "_law_model" ["_law_world_here"] (spLawModel K C_Model) := ⟨_, _, ok_law_model F_law_model B D_Model___init__ D_Model_aim D_Model_put, PySem.W.mg_of X G a_law_model, k_law_model, b_law_model⟩
  have D_law_rel : Is l.prog w K mg base CX0 1 "_law_rel" ["_law_relation", "_law_left", "_law_right_here"] spRel := ⟨_, _, ok_law_rel F_law_rel B , PySem.W.mg_of X G a_law_rel, k_law_rel, b_law_rel⟩
  have D_law_sum : Is l.prog w K mg base CX0 1 "_law_sum" ["_law_terms_here", "_law_point_here"] (spSumF K) := ⟨_, _, ok_law_sum F_law_sum B , PySem.W.mg_of X G a_law_sum, k_law_sum, b_law_sum⟩
  have D_law_lit : Is l.prog w K mg base CX0 2 "_law_lit" ["_law_literal_here", "_law_point_here"] (spLawLit K) := ⟨_, _, ok_law_lit F_law_lit B D_law_rel, PySem.W.mg_of X G a_law_lit, k_law_lit, b_law_lit⟩
  have D_law_holds : Is l.prog w K mg base CX0 3 "_law_holds" ["_law_body_here", "_law_point_here"] (spHolds K) := ⟨_, _, ok_law_holds F_law_holds B D_law_rel D_law_sum D_law_lit, PySem.W.mg_of X G a_law_holds, k_law_holds, b_law_holds⟩
  have D_law_point : Is l.prog w K mg base CX0 2 "_law_point" ["_law_tape_here", "_law_unknowns"] (spLawPoint K) := ⟨_, _, ok_law_point F_law_point B D_law_draw, PySem.W.mg_of X G a_law_point, k_law_point, b_law_point⟩
  have D_law_solution : Is l.prog w K mg base CX0 4 "_law_solution" ["_law_world_here", "_law_point_here"] (spLawSol K) := ⟨_, _, ok_law_solution F_law_solution B D_law_holds, PySem.W.mg_of X G a_law_solution, k_law_solution, b_law_solution⟩
  have D_law_refused : Is l.prog w K mg base CX0 8 "_law_refused" ["_law_extra"] (spRefused K) := ⟨_, _, ok_law_refused F_law_refused B D_Model___init__ D_Model_put D_best_plain D_solutions, PySem.W.mg_of X G a_law_refused, k_law_refused, b_law_refused⟩
  have D_law_right : Is l.prog w K mg base CX0 8 "_law_right" ["_law_tape_here", "_law_model_here", "_law_world_here"] (spRight K C_Model) := ⟨_, _, ok_law_right F_law_right B D_best_plain D_law_point D_law_solution D_law_sum, PySem.W.mg_of X G a_law_right, k_law_right, b_law_right⟩
  exact ok_law (fun_mk (st := s_law) l_law c_law k_law) B D_law_tape D_law_world D_law_model D_Model_aim D_law_right D_law_draw D_law_terms D_Model_withdraw D_law_refused
theorem facts {l : PySem.W.OpenLaw} {w : World} {K : PySem.W.Frag} {h : Heap} {mg : Str → Option Value} {fa : Addr} (X : K.In h) (G : h.Ns mainGlobals mg) (hfa : mg "law" = some (.ref fa)) (yc : He.SaysE faL fnL K ∧ exL K = true) : ∃ fd : FuncData, (∀ (s : Shared) (v : Value), BindsTo s fd ⟨[v], []⟩ [("_law_script", v)]) ∧ ∀ base : Heap, K.In base → base.Ns mainGlobals mg → FnOk l.prog w K mg base CX0 9 fa fd ["_law_script"] ((spLaw K)) := by
  have zc_Model := He.cls_ok (yc.1.fact 1 (f := .cls "Model") (by kernel_rfl))
  obtain ⟨_, _, _, _, _, _, _, _, _, l_next_point, c_next_point⟩ := yc.1.def_ 0 (d := ⟨("next_point", none), "next_point", "next_point", defArgs s_next_point, defBody s_next_point, defScope s_next_point⟩) (by kernel_rfl)
  have a_next_point := He.eqO_ok (yc.1.fact 7 (f := .glo "next_point") (by kernel_rfl))
  have k_next_point := He.keep_ok (yc.1.fact 8 (f := .keep "next_point") (by kernel_rfl))
  obtain ⟨_, _, _, _, _, _, _, _, _, l_solutions, c_solutions⟩ := yc.1.def_ 1 (d := ⟨("solutions", none), "solutions", "solutions", defArgs s_solutions, defBody s_solutions, defScope s_solutions⟩) (by kernel_rfl)
  have a_solutions := He.eqO_ok (yc.1.fact 9 (f := .glo "solutions") (by kernel_rfl))
  have k_solutions := He.keep_ok (yc.1.fact 10 (f := .keep "solutions") (by kernel_rfl))
  obtain ⟨_, _, _, _, _, _, _, _, _, l_best_plain, c_best_plain⟩ := yc.1.def_ 2 (d := ⟨("best_plain", none), "best_plain", "best_plain", defArgs s_best_plain, defBody s_best_plain, defScope s_best_plain⟩) (by kernel_rfl)
  have a_best_plain := He.eqO_ok (yc.1.fact 11 (f := .glo "best_plain") (by kernel_rfl))
  have k_best_plain := He.keep_ok (yc.1.fact 12 (f := .keep "best_plain") (by kernel_rfl))
  obtain ⟨_, _, _, _, _, _, _, _, _, l_relation_holds, c_relation_holds⟩ := yc.1.def_ 3 (d := ⟨("relation_holds", none), "relation_holds", "relation_holds", defArgs s_relation_holds, defBody s_relation_holds, defScope s_relation_holds⟩) (by kernel_rfl)
  have a_relation_holds := He.eqO_ok (yc.1.fact 13 (f := .glo "relation_holds") (by kernel_rfl))
  have k_relation_holds := He.keep_ok (yc.1.fact 14 (f := .keep "relation_holds") (by kernel_rfl))
  obtain ⟨_, _, _, _, _, _, _, _, _, l_literal_holds, c_literal_holds⟩ := yc.1.def_ 4 (d := ⟨("literal_holds", none), "literal_holds", "literal_holds", defArgs s_literal_holds, defBody s_literal_holds, defScope s_literal_holds⟩) (by kernel_rfl)
  have a_literal_holds := He.eqO_ok (yc.1.fact 15 (f := .glo "literal_holds") (by kernel_rfl))
  have k_literal_holds := He.keep_ok (yc.1.fact 16 (f := .keep "literal_holds") (by kernel_rfl))
  obtain ⟨_, _, _, _, _, _, _, _, _, l_terms_sum, c_terms_sum⟩ := yc.1.def_ 5 (d := ⟨("terms_sum", none), "terms_sum", "terms_sum", defArgs s_terms_sum, defBody s_terms_sum, defScope s_terms_sum⟩) (by kernel_rfl)
  have a_terms_sum := He.eqO_ok (yc.1.fact 17 (f := .glo "terms_sum") (by kernel_rfl))
  have k_terms_sum := He.keep_ok (yc.1.fact 18 (f := .keep "terms_sum") (by kernel_rfl))
  obtain ⟨_, _, _, _, _, _, _, _, _, l_is_label, c_is_label⟩ := yc.1.def_ 6 (d := ⟨("is_label", none), "is_label", "is_label", defArgs s_is_label, defBody s_is_label, defScope s_is_label⟩) (by kernel_rfl)
  have a_is_label := He.eqO_ok (yc.1.fact 19 (f := .glo "is_label") (by kernel_rfl))
  have k_is_label := He.keep_ok (yc.1.fact 20 (f := .keep "is_label") (by kernel_rfl))
  obtain ⟨_, _, _, _, _, _, _, _, _, l_body_holds, c_body_holds⟩ := yc.1.def_ 7 (d := ⟨("body_holds", none), "body_holds", "body_holds", defArgs s_body_holds, defBody s_body_holds, defScope s_body_holds⟩) (by kernel_rfl)
  have a_body_holds := He.eqO_ok (yc.1.fact 21 (f := .glo "body_holds") (by kernel_rfl))
  have k_body_holds := He.keep_ok (yc.1.fact 22 (f := .keep "body_holds") (by kernel_rfl))
  obtain ⟨_, _, _, _, _, _, _, _, _, l_terms_fit, c_terms_fit⟩ := yc.1.def_ 8 (d := ⟨("terms_fit", none), "terms_fit", "terms_fit", defArgs s_terms_fit, defBody s_terms_fit, defScope s_terms_fit⟩) (by kernel_rfl)
  have a_terms_fit := He.eqO_ok (yc.1.fact 23 (f := .glo "terms_fit") (by kernel_rfl))
  have k_terms_fit := He.keep_ok (yc.1.fact 24 (f := .keep "terms_fit") (by kernel_rfl))
  obtain ⟨_, _, _, _, _, _, _, _, _, l_literal_fits, c_literal_fits⟩ := yc.1.def_ 9 (d := ⟨("literal_fits", none), "literal_fits", "literal_fits", defArgs s_literal_fits, defBody s_literal_fits, defScope s_literal_fits⟩) (by kernel_rfl)
  have a_literal_fits := He.eqO_ok (yc.1.fact 25 (f := .glo "literal_fits") (by kernel_rfl))
  have k_literal_fits := He.keep_ok (yc.1.fact 26 (f := .keep "literal_fits") (by kernel_rfl))
  obtain ⟨_, _, _, _, _, _, _, _, _, l_linear_fits, c_linear_fits⟩ := yc.1.def_ 10 (d := ⟨("linear_fits", none), "linear_fits", "linear_fits", defArgs s_linear_fits, defBody s_linear_fits, defScope s_linear_fits⟩) (by kernel_rfl)
  have a_linear_fits := He.eqO_ok (yc.1.fact 27 (f := .glo "linear_fits") (by kernel_rfl))
  have k_linear_fits := He.keep_ok (yc.1.fact 28 (f := .keep "linear_fits") (by kernel_rfl))
  obtain ⟨_, _, _, _, _, _, _, _, _, l_distinct_fit, c_distinct_fit⟩ := yc.1.def_ 11 (d := ⟨("distinct_fit", none), "distinct_fit", "distinct_fit", defArgs s_distinct_fit, defBody s_distinct_fit, defScope s_distinct_fit⟩) (by kernel_rfl)
  have a_distinct_fit := He.eqO_ok (yc.1.fact 29 (f := .glo "distinct_fit") (by kernel_rfl))
  have k_distinct_fit := He.keep_ok (yc.1.fact 30 (f := .keep "distinct_fit") (by kernel_rfl))
  obtain ⟨_, _, _, _, _, _, _, _, _, l_entries_fit, c_entries_fit⟩ := yc.1.def_ 12 (d := ⟨("entries_fit", none), "entries_fit", "entries_fit", defArgs s_entries_fit, defBody s_entries_fit, defScope s_entries_fit⟩) (by kernel_rfl)
  have a_entries_fit := He.eqO_ok (yc.1.fact 31 (f := .glo "entries_fit") (by kernel_rfl))
  have k_entries_fit := He.keep_ok (yc.1.fact 32 (f := .keep "entries_fit") (by kernel_rfl))
  obtain ⟨_, _, _, _, _, _, _, _, _, l_any_fits, c_any_fits⟩ := yc.1.def_ 13 (d := ⟨("any_fits", none), "any_fits", "any_fits", defArgs s_any_fits, defBody s_any_fits, defScope s_any_fits⟩) (by kernel_rfl)
  have a_any_fits := He.eqO_ok (yc.1.fact 33 (f := .glo "any_fits") (by kernel_rfl))
  have k_any_fits := He.keep_ok (yc.1.fact 34 (f := .keep "any_fits") (by kernel_rfl))
  obtain ⟨_, _, _, _, _, _, _, _, _, l_table_fits, c_table_fits⟩ := yc.1.def_ 14 (d := ⟨("table_fits", none), "table_fits", "table_fits", defArgs s_table_fits, defBody s_table_fits, defScope s_table_fits⟩) (by kernel_rfl)
  have a_table_fits := He.eqO_ok (yc.1.fact 35 (f := .glo "table_fits") (by kernel_rfl))
  have k_table_fits := He.keep_ok (yc.1.fact 36 (f := .keep "table_fits") (by kernel_rfl))
  obtain ⟨_, _, _, _, _, _, _, _, _, l_body_fits, c_body_fits⟩ := yc.1.def_ 15 (d := ⟨("body_fits", none), "body_fits", "body_fits", defArgs s_body_fits, defBody s_body_fits, defScope s_body_fits⟩) (by kernel_rfl)
  have a_body_fits := He.eqO_ok (yc.1.fact 37 (f := .glo "body_fits") (by kernel_rfl))
  have k_body_fits := He.keep_ok (yc.1.fact 38 (f := .keep "body_fits") (by kernel_rfl))
  obtain ⟨_, _, _, _, _, _, _, _, _, l_bounds_fit, c_bounds_fit⟩ := yc.1.def_ 16 (d := ⟨("bounds_fit", none), "bounds_fit", "bounds_fit", defArgs s_bounds_fit, defBody s_bounds_fit, defScope s_bounds_fit⟩) (by kernel_rfl)
  have a_bounds_fit := He.eqO_ok (yc.1.fact 39 (f := .glo "bounds_fit") (by kernel_rfl))
  have k_bounds_fit := He.keep_ok (yc.1.fact 40 (f := .keep "bounds_fit") (by kernel_rfl))
  obtain ⟨_, _, _, _, _, _, _, _, _, l_Model___init__, c_Model___init__⟩ := yc.1.def_ 17 (d := ⟨("Model", some "__init__"), "__init__", "Model.__init__", defArgs s_Model___init__, defBody s_Model___init__, defScope s_Model___init__⟩) (by kernel_rfl)
  obtain ⟨a_Model___init__, i_Model___init__, k_Model___init__⟩ := meth3 (yc.1.fact 41 (f := .meth "Model" "__init__") (by kernel_rfl))
  obtain ⟨_, _, _, _, _, _, _, _, _, l_Model__need, c_Model__need⟩ := yc.1.def_ 18 (d := ⟨("Model", some "_need"), "_need", "Model._need", defArgs s_Model__need, defBody s_Model__need, defScope s_Model__need⟩) (by kernel_rfl)
  obtain ⟨a_Model__need, i_Model__need, k_Model__need⟩ := meth3 (yc.1.fact 42 (f := .meth "Model" "_need") (by kernel_rfl))
  obtain ⟨_, _, _, _, _, _, _, _, _, l_Model_many, c_Model_many⟩ := yc.1.def_ 19 (d := ⟨("Model", some "many"), "many", "Model.many", defArgs s_Model_many, defBody s_Model_many, defScope s_Model_many⟩) (by kernel_rfl)
  obtain ⟨a_Model_many, i_Model_many, k_Model_many⟩ := meth3 (yc.1.fact 43 (f := .meth "Model" "many") (by kernel_rfl))
  obtain ⟨_, _, _, _, _, _, _, _, _, l_Model_low, c_Model_low⟩ := yc.1.def_ 20 (d := ⟨("Model", some "low"), "low", "Model.low", defArgs s_Model_low, defBody s_Model_low, defScope s_Model_low⟩) (by kernel_rfl)
  obtain ⟨a_Model_low, i_Model_low, k_Model_low⟩ := meth3 (yc.1.fact 44 (f := .meth "Model" "low") (by kernel_rfl))
  obtain ⟨_, _, _, _, _, _, _, _, _, l_Model_high, c_Model_high⟩ := yc.1.def_ 21 (d := ⟨("Model", some "high"), "high", "Model.high", defArgs s_Model_high, defBody s_Model_high, defScope s_Model_high⟩) (by kernel_rfl)
  obtain ⟨a_Model_high, i_Model_high, k_Model_high⟩ := meth3 (yc.1.fact 45 (f := .meth "Model" "high") (by kernel_rfl))
  obtain ⟨_, _, _, _, _, _, _, _, _, l_Model_put, c_Model_put⟩ := yc.1.def_ 22 (d := ⟨("Model", some "put"), "put", "Model.put", defArgs s_Model_put, defBody s_Model_put, defScope s_Model_put⟩) (by kernel_rfl)
  obtain ⟨a_Model_put, i_Model_put, k_Model_put⟩ := meth3 (yc.1.fact 46 (f := .meth "Model" "put") (by kernel_rfl))
  obtain ⟨_, _, _, _, _, _, _, _, _, l_Model_withdraw, c_Model_withdraw⟩ := yc.1.def_ 23 (d := ⟨("Model", some "withdraw"), "withdraw", "Model.withdraw", defArgs s_Model_withdraw, defBody s_Model_withdraw, defScope s_Model_withdraw⟩) (by kernel_rfl)
  obtain ⟨a_Model_withdraw, i_Model_withdraw, k_Model_withdraw⟩ := meth3 (yc.1.fact 47 (f := .meth "Model" "withdraw") (by kernel_rfl))
  obtain ⟨_, _, _, _, _, _, _, _, _, l_Model_aim, c_Model_aim⟩ := yc.1.def_ 24 (d := ⟨("Model", some "aim"), "aim", "Model.aim", defArgs s_Model_aim, defBody s_Model_aim, defScope s_Model_aim⟩) (by kernel_rfl)
  obtain ⟨a_Model_aim, i_Model_aim, k_Model_aim⟩ := meth3 (yc.1.fact 48 (f := .meth "Model" "aim") (by kernel_rfl))
  obtain ⟨_, _, _, _, _, _, _, _, _, l_Model_inside, c_Model_inside⟩ := yc.1.def_ 25 (d := ⟨("Model", some "inside"), "inside", "Model.inside", defArgs s_Model_inside, defBody s_Model_inside, defScope s_Model_inside⟩) (by kernel_rfl)
  obtain ⟨a_Model_inside, i_Model_inside, k_Model_inside⟩ := meth3 (yc.1.fact 49 (f := .meth "Model" "inside") (by kernel_rfl))
  obtain ⟨_, _, _, _, _, _, _, _, _, l_Model_broken, c_Model_broken⟩ := yc.1.def_ 26 (d := ⟨("Model", some "broken"), "broken", "Model.broken", defArgs s_Model_broken, defBody s_Model_broken, defScope s_Model_broken⟩) (by kernel_rfl)
  obtain ⟨a_Model_broken, i_Model_broken, k_Model_broken⟩ := meth3 (yc.1.fact 50 (f := .meth "Model" "broken") (by kernel_rfl))
  obtain ⟨_, _, _, _, _, _, _, _, _, l_Model_is_solution, c_Model_is_solution⟩ := yc.1.def_ 27 (d := ⟨("Model", some "is_solution"), "is_solution", "Model.is_solution", defArgs s_Model_is_solution, defBody s_Model_is_solution, defScope s_Model_is_solution⟩) (by kernel_rfl)
  obtain ⟨a_Model_is_solution, i_Model_is_solution, k_Model_is_solution⟩ := meth3 (yc.1.fact 51 (f := .meth "Model" "is_solution") (by kernel_rfl))
  obtain ⟨_, _, _, _, _, _, _, _, _, l_Model_worth, c_Model_worth⟩ := yc.1.def_ 28 (d := ⟨("Model", some "worth"), "worth", "Model.worth", defArgs s_Model_worth, defBody s_Model_worth, defScope s_Model_worth⟩) (by kernel_rfl)
  obtain ⟨a_Model_worth, i_Model_worth, k_Model_worth⟩ := meth3 (yc.1.fact 52 (f := .meth "Model" "worth") (by kernel_rfl))
  obtain ⟨_, _, _, _, _, _, _, _, _, l_Model_is_better, c_Model_is_better⟩ := yc.1.def_ 29 (d := ⟨("Model", some "is_better"), "is_better", "Model.is_better", defArgs s_Model_is_better, defBody s_Model_is_better, defScope s_Model_is_better⟩) (by kernel_rfl)
  obtain ⟨a_Model_is_better, i_Model_is_better, k_Model_is_better⟩ := meth3 (yc.1.fact 53 (f := .meth "Model" "is_better") (by kernel_rfl))
  obtain ⟨_, _, _, _, _, _, _, _, _, l_law_draw, c_law_draw⟩ := yc.1.def_ 30 (d := ⟨("_law_draw", none), "_law_draw", "_law_draw", defArgs s_law_draw, defBody s_law_draw, defScope s_law_draw⟩) (by kernel_rfl)
  have a_law_draw := He.eqO_ok (yc.1.fact 54 (f := .glo "_law_draw") (by kernel_rfl))
  have k_law_draw := He.keep_ok (yc.1.fact 55 (f := .keep "_law_draw") (by kernel_rfl))
  obtain ⟨_, _, _, _, _, _, _, _, _, l_law_tape, c_law_tape⟩ := yc.1.def_ 31 (d := ⟨("_law_tape", none), "_law_tape", "_law_tape", defArgs s_law_tape, defBody s_law_tape, defScope s_law_tape⟩) (by kernel_rfl)
  have a_law_tape := He.eqO_ok (yc.1.fact 56 (f := .glo "_law_tape") (by kernel_rfl))
  have k_law_tape := He.keep_ok (yc.1.fact 57 (f := .keep "_law_tape") (by kernel_rfl))
  obtain ⟨_, _, _, _, _, _, _, _, _, l_law_terms, c_law_terms⟩ := yc.1.def_ 32 (d := ⟨("_law_terms", none), "_law_terms", "_law_terms", defArgs s_law_terms, defBody s_law_terms, defScope s_law_terms⟩) (by kernel_rfl)
  have a_law_terms := He.eqO_ok (yc.1.fact 58 (f := .glo "_law_terms") (by kernel_rfl))
  have k_law_terms := He.keep_ok (yc.1.fact 59 (f := .keep "_law_terms") (by kernel_rfl))
  obtain ⟨_, _, _, _, _, _, _, _, _, l_law_literal, c_law_literal⟩ := yc.1.def_ 33 (d := ⟨("_law_literal", none), "_law_literal", "_law_literal", defArgs s_law_literal, defBody s_law_literal, defScope s_law_literal⟩) (by kernel_rfl)
  have a_law_literal := He.eqO_ok (yc.1.fact 60 (f := .glo "_law_literal") (by kernel_rfl))
  have k_law_literal := He.keep_ok (yc.1.fact 61 (f := .keep "_law_literal") (by kernel_rfl))
  obtain ⟨_, _, _, _, _, _, _, _, _, l_law_some, c_law_some⟩ := yc.1.def_ 34 (d := ⟨("_law_some", none), "_law_some", "_law_some", defArgs s_law_some, defBody s_law_some, defScope s_law_some⟩) (by kernel_rfl)
  have a_law_some := He.eqO_ok (yc.1.fact 62 (f := .glo "_law_some") (by kernel_rfl))
  have k_law_some := He.keep_ok (yc.1.fact 63 (f := .keep "_law_some") (by kernel_rfl))
  obtain ⟨_, _, _, _, _, _, _, _, _, l_law_body, c_law_body⟩ := yc.1.def_ 35 (d := ⟨("_law_body", none), "_law_body", "_law_body", defArgs s_law_body, defBody s_law_body, defScope s_law_body⟩) (by kernel_rfl)
  have a_law_body := He.eqO_ok (yc.1.fact 64 (f := .glo "_law_body") (by kernel_rfl))
  have k_law_body := He.keep_ok (yc.1.fact 65 (f := .keep "_law_body") (by kernel_rfl))
  obtain ⟨_, _, _, _, _, _, _, _, _, l_law_world, c_law_world⟩ := yc.1.def_ 36 (d := ⟨("_law_world", none), "_law_world", "_law_world", defArgs s_law_world, defBody s_law_world, defScope s_law_world⟩) (by kernel_rfl)
  have a_law_world := He.eqO_ok (yc.1.fact 66 (f := .glo "_law_world") (by kernel_rfl))
  have k_law_world := He.keep_ok (yc.1.fact 67 (f := .keep "_law_world") (by kernel_rfl))
  obtain ⟨_, _, _, _, _, _, _, _, _, l_law_model, c_law_model⟩ := yc.1.def_ 37 (d := ⟨("_law_model", none), "_law_model", "_law_model", defArgs s_law_model, defBody s_law_model, defScope s_law_model⟩) (by kernel_rfl)
  have a_law_model := He.eqO_ok (yc.1.fact 68 (f := .glo "_law_model") (by kernel_rfl))
  have k_law_model := He.keep_ok (yc.1.fact 69 (f := .keep "_law_model") (by kernel_rfl))
  obtain ⟨_, _, _, _, _, _, _, _, _, l_law_rel, c_law_rel⟩ := yc.1.def_ 38 (d := ⟨("_law_rel", none), "_law_rel", "_law_rel", defArgs s_law_rel, defBody s_law_rel, defScope s_law_rel⟩) (by kernel_rfl)
  have a_law_rel := He.eqO_ok (yc.1.fact 70 (f := .glo "_law_rel") (by kernel_rfl))
  have k_law_rel := He.keep_ok (yc.1.fact 71 (f := .keep "_law_rel") (by kernel_rfl))
  obtain ⟨_, _, _, _, _, _, _, _, _, l_law_sum, c_law_sum⟩ := yc.1.def_ 39 (d := ⟨("_law_sum", none), "_law_sum", "_law_sum", defArgs s_law_sum, defBody s_law_sum, defScope s_law_sum⟩) (by kernel_rfl)
  have a_law_sum := He.eqO_ok (yc.1.fact 72 (f := .glo "_law_sum") (by kernel_rfl))
  have k_law_sum := He.keep_ok (yc.1.fact 73 (f := .keep "_law_sum") (by kernel_rfl))
  obtain ⟨_, _, _, _, _, _, _, _, _, l_law_lit, c_law_lit⟩ := yc.1.def_ 40 (d := ⟨("_law_lit", none), "_law_lit", "_law_lit", defArgs s_law_lit, defBody s_law_lit, defScope s_law_lit⟩) (by kernel_rfl)
  have a_law_lit := He.eqO_ok (yc.1.fact 74 (f := .glo "_law_lit") (by kernel_rfl))
  have k_law_lit := He.keep_ok (yc.1.fact 75 (f := .keep "_law_lit") (by kernel_rfl))
  obtain ⟨_, _, _, _, _, _, _, _, _, l_law_holds, c_law_holds⟩ := yc.1.def_ 41 (d := ⟨("_law_holds", none), "_law_holds", "_law_holds", defArgs s_law_holds, defBody s_law_holds, defScope s_law_holds⟩) (by kernel_rfl)
  have a_law_holds := He.eqO_ok (yc.1.fact 76 (f := .glo "_law_holds") (by kernel_rfl))
  have k_law_holds := He.keep_ok (yc.1.fact 77 (f := .keep "_law_holds") (by kernel_rfl))
  obtain ⟨_, _, _, _, _, _, _, _, _, l_law_point, c_law_point⟩ := yc.1.def_ 42 (d := ⟨("_law_point", none), "_law_point", "_law_point", defArgs s_law_point, defBody s_law_point, defScope s_law_point⟩) (by kernel_rfl)
  have a_law_point := He.eqO_ok (yc.1.fact 78 (f := .glo "_law_point") (by kernel_rfl))
  have k_law_point := He.keep_ok (yc.1.fact 79 (f := .keep "_law_point") (by kernel_rfl))
  obtain ⟨_, _, _, _, _, _, _, _, _, l_law_solution, c_law_solution⟩ := yc.1.def_ 43 (d := ⟨("_law_solution", none), "_law_solution", "_law_solution", defArgs s_law_solution, defBody s_law_solution, defScope s_law_solution⟩) (by kernel_rfl)
  have a_law_solution := He.eqO_ok (yc.1.fact 80 (f := .glo "_law_solution") (by kernel_rfl))
  have k_law_solution := He.keep_ok (yc.1.fact 81 (f := .keep "_law_solution") (by kernel_rfl))
  obtain ⟨_, _, _, _, _, _, _, _, _, l_law_refused, c_law_refused⟩ := yc.1.def_ 44 (d := ⟨("_law_refused", none), "_law_refused", "_law_refused", defArgs s_law_refused, defBody s_law_refused, defScope s_law_refused⟩) (by kernel_rfl)
  have a_law_refused := He.eqO_ok (yc.1.fact 82 (f := .glo "_law_refused") (by kernel_rfl))
  have k_law_refused := He.keep_ok (yc.1.fact 83 (f := .keep "_law_refused") (by kernel_rfl))
  obtain ⟨_, _, _, _, _, _, _, _, _, l_law_right, c_law_right⟩ := yc.1.def_ 45 (d := ⟨("_law_right", none), "_law_right", "_law_right", defArgs s_law_right, defBody s_law_right, defScope s_law_right⟩) (by kernel_rfl)
  have a_law_right := He.eqO_ok (yc.1.fact 84 (f := .glo "_law_right") (by kernel_rfl))
  have k_law_right := He.keep_ok (yc.1.fact 85 (f := .keep "_law_right") (by kernel_rfl))
  obtain ⟨_, _, _, _, _, _, _, _, _, l_law, c_law⟩ := yc.1.def_ 46 (d := ⟨("law", none), "law", "law", defArgs s_law, defBody s_law, defScope s_law⟩) (by kernel_rfl)
  have a_law := He.eqO_ok (yc.1.fact 86 (f := .glo "law") (by kernel_rfl))
  have k_law := He.keep_ok (yc.1.fact 87 (f := .keep "law") (by kernel_rfl))
  have ze_TooLarge := He.exc_ok (yc.1.fact 88 (f := .exc "TooLarge") (by kernel_rfl))
  obtain ⟨g_COEFFICIENT_MOST, r_COEFFICIENT_MOST⟩ := conX_ok (List.all_eq_true.mp yc.2 _ (List.mem_of_getElem? (i := 2) (by rfl)))
  obtain ⟨g_SUM_MOST, r_SUM_MOST⟩ := conX_ok (List.all_eq_true.mp yc.2 _ (List.mem_of_getElem? (i := 3) (by rfl)))
  obtain ⟨g_ENTRY_MOST, r_ENTRY_MOST⟩ := conX_ok (List.all_eq_true.mp yc.2 _ (List.mem_of_getElem? (i := 4) (by rfl)))
  obtain ⟨g_LETTERS, r_LETTERS⟩ := conX_ok (List.all_eq_true.mp yc.2 _ (List.mem_of_getElem? (i := 5) (by rfl)))
  obtain ⟨g_DIGITS, r_DIGITS⟩ := conX_ok (List.all_eq_true.mp yc.2 _ (List.mem_of_getElem? (i := 6) (by rfl)))
  obtain ⟨g_UNKNOWNS_MOST, r_UNKNOWNS_MOST⟩ := conX_ok (List.all_eq_true.mp yc.2 _ (List.mem_of_getElem? (i := 7) (by rfl)))
  obtain ⟨g_CONSTRAINTS_MOST, r_CONSTRAINTS_MOST⟩ := conX_ok (List.all_eq_true.mp yc.2 _ (List.mem_of_getElem? (i := 8) (by rfl)))
  obtain ⟨g_BOUND_MOST, r_BOUND_MOST⟩ := conX_ok (List.all_eq_true.mp yc.2 _ (List.mem_of_getElem? (i := 9) (by rfl)))
  obtain ⟨g_POINTS_MOST, r_POINTS_MOST⟩ := conX_ok (List.all_eq_true.mp yc.2 _ (List.mem_of_getElem? (i := 10) (by rfl)))
  exact all_mk X G hfa (He.eqO_ok (yc.1.fact 0 (f := .glo "Model") (by kernel_rfl))) (zc_Model.pg) (zc_Model.hd) (zc_Model.po) (zc_Model.sa) (List.all_eq_true.mp yc.2 _ (List.mem_of_getElem? (i := 0) (by rfl))) (List.all_eq_true.mp yc.2 _ (List.mem_of_getElem? (i := 1) (by rfl))) (He.eqO_ok (yc.1.fact 2 (f := .noat "Model" "_names") (by kernel_rfl))) (He.eqO_ok (yc.1.fact 3 (f := .noat "Model" "_lows") (by kernel_rfl))) (He.eqO_ok (yc.1.fact 4 (f := .noat "Model" "_highs") (by kernel_rfl))) (He.eqO_ok (yc.1.fact 5 (f := .noat "Model" "_bodies") (by kernel_rfl))) (He.eqO_ok (yc.1.fact 6 (f := .noat "Model" "_goal") (by kernel_rfl))) a_next_point l_next_point c_next_point k_next_point a_solutions l_solutions c_solutions k_solutions a_best_plain l_best_plain c_best_plain k_best_plain a_relation_holds l_relation_holds c_relation_holds k_relation_holds a_literal_holds l_literal_holds c_literal_holds k_literal_holds a_terms_sum l_terms_sum c_terms_sum k_terms_sum a_is_label l_is_label c_is_label k_is_label a_body_holds l_body_holds c_body_holds k_body_holds a_terms_fit l_terms_fit c_terms_fit k_terms_fit a_literal_fits l_literal_fits c_literal_fits k_literal_fits a_linear_fits l_linear_fits c_linear_fits k_linear_fits a_distinct_fit l_distinct_fit c_distinct_fit k_distinct_fit a_entries_fit l_entries_fit c_entries_fit k_entries_fit a_any_fits l_any_fits c_any_fits k_any_fits a_table_fits l_table_fits c_table_fits k_table_fits a_body_fits l_body_fits c_body_fits k_body_fits a_bounds_fit l_bounds_fit c_bounds_fit k_bounds_fit a_Model___init__ i_Model___init__ l_Model___init__ c_Model___init__ k_Model___init__ a_Model__need i_Model__need l_Model__need c_Model__need k_Model__need a_Model_many i_Model_many l_Model_many c_Model_many k_Model_many a_Model_low i_Model_low l_Model_low c_Model_low k_Model_low a_Model_high i_Model_high l_Model_high c_Model_high k_Model_high a_Model_put i_Model_put l_Model_put c_Model_put k_Model_put a_Model_withdraw i_Model_withdraw l_Model_withdraw c_Model_withdraw k_Model_withdraw a_Model_aim i_Model_aim l_Model_aim c_Model_aim k_Model_aim a_Model_inside i_Model_inside l_Model_inside c_Model_inside k_Model_inside a_Model_broken i_Model_broken l_Model_broken c_Model_broken k_Model_broken a_Model_is_solution i_Model_is_solution l_Model_is_solution c_Model_is_solution k_Model_is_solution a_Model_worth i_Model_worth l_Model_worth c_Model_worth k_Model_worth a_Model_is_better i_Model_is_better l_Model_is_better c_Model_is_better k_Model_is_better a_law_draw l_law_draw c_law_draw k_law_draw a_law_tape l_law_tape c_law_tape k_law_tape a_law_terms l_law_terms c_law_terms k_law_terms a_law_literal l_law_literal c_law_literal k_law_literal a_law_some l_law_some c_law_some k_law_some a_law_body l_law_body c_law_body k_law_body a_law_world l_law_world c_law_world k_law_world a_law_model l_law_model c_law_model k_law_model a_law_rel l_law_rel c_law_rel k_law_rel a_law_sum l_law_sum c_law_sum k_law_sum a_law_lit l_law_lit c_law_lit k_law_lit a_law_holds l_law_holds c_law_holds k_law_holds a_law_point l_law_point c_law_point k_law_point a_law_solution l_law_solution c_law_solution k_law_solution a_law_refused l_law_refused c_law_refused k_law_refused a_law_right l_law_right c_law_right k_law_right a_law l_law c_law k_law (He.eqO_ok (yc.1.fact 91 (f := .free "len") (by kernel_rfl))) (He.eqO_ok (yc.1.fact 92 (f := .free "int") (by kernel_rfl))) (He.eqO_ok (yc.1.fact 93 (f := .free "list") (by kernel_rfl))) (He.eqO_ok (yc.1.fact 94 (f := .free "tuple") (by kernel_rfl))) (He.eqO_ok (yc.1.fact 95 (f := .free "range") (by kernel_rfl))) (He.eqO_ok (yc.1.fact 96 (f := .free "all") (by kernel_rfl))) (He.eqO_ok (yc.1.fact 97 (f := .free "any") (by kernel_rfl))) (He.eqO_ok (yc.1.fact 98 (f := .free "isinstance") (by kernel_rfl))) (He.eqO_ok (yc.1.fact 99 (f := .free "bool") (by kernel_rfl))) (He.eqO_ok (yc.1.fact 100 (f := .free "abs") (by kernel_rfl))) (He.eqO_ok (yc.1.fact 101 (f := .free "set") (by kernel_rfl))) (He.eqO_ok (yc.1.fact 102 (f := .free "str") (by kernel_rfl))) g_COEFFICIENT_MOST r_COEFFICIENT_MOST g_SUM_MOST r_SUM_MOST g_ENTRY_MOST r_ENTRY_MOST g_LETTERS r_LETTERS g_DIGITS r_DIGITS g_UNKNOWNS_MOST r_UNKNOWNS_MOST g_CONSTRAINTS_MOST r_CONSTRAINTS_MOST g_BOUND_MOST r_BOUND_MOST g_POINTS_MOST r_POINTS_MOST (⟨He.glo_ok X G (yc.1.fact 89 (f := .glo "TooLarge") (by kernel_rfl)), ze_TooLarge.1, ze_TooLarge.2.1, ze_TooLarge.2.2.1, ze_TooLarge.2.2.2⟩) (He.exm_ok (yc.1.fact 90 (f := .exm "TooLarge" "TooLarge" true) (by kernel_rfl)))
theorem walk {l : PySem.W.OpenLaw} {q : Program} {loose : List Str} {XP : (Str → Option Value) → Heap → Prop} {d : DefRec} (hn : l.most = some 63) (hdf : d.params.defaults = []) (nm : d.name = "law") : PySem.W.WalkO q loose XP hk.says l.row.toRowW d [] (fun f vs => PySem.call f vs) := by
  refine L2.walk_ofE (CX := CX0) (n := 63) (k := 9) (x := "_law_script") hn (by decide) hdf ⟨rfl, by decide, by decide⟩ (fun w mg fa h Y G hm => ?_) (fun _ _ _ _ z => z)
  obtain ⟨K, X, c⟩ := Y
  rw [nm] at hm
  obtain ⟨fd, hb, hF⟩ := facts (l := l) (w := w) X G hm c
  exact ⟨K, fd, (spLaw K), X, hb, fun H a ns hl _ hS => ⟨a, ns, rfl, hS, hl, fun _ => rfl⟩, hF⟩
end CG

open PySem PySem.W PySem.Calls PyProof.Rows in
set_option maxRecDepth 100000 in
set_option maxHeartbeats 0 in
theorem PySem.Challenge.cw_commonground_k12_best_by_looking_holds : PySem.Challenge.rw_commonground_k12_best_by_looking.Holds := by
  w_on; o_law
  refine HandSHeadRun.head_any (r := OpenLaw.row PySem.Challenge.rw_commonground_k12_best_by_looking) (q := view (OpenLaw.row PySem.Challenge.rw_commonground_k12_best_by_looking).prog [55]) (H := CG.hk) (ob := CG.ob) (M := 3300) (loose := CG.looseL) (d := HandSHeadRun.topDef (OpenLaw.row PySem.Challenge.rw_commonground_k12_best_by_looking).prog 55) (kwd := []) CG.obsA_eq
    (by kernel_rfl) (fun s => by kernel_rfl) CG.run (by kernel_rfl) (by kernel_rfl) (by kernel_rfl) (by rfl) (by first | assumption | decide +kernel) (by decide +kernel) ⟨rfl, rfl, rfl, rfl, rfl, by decide +kernel⟩ ?hw ?hc
  case hw => w_witness2
  case hc => exact CG.walk rfl (by kernel_rfl) (by kernel_rfl)

#print axioms PySem.Challenge.cw_commonground_k12_best_by_looking_holds
