import PyProof.Rows.All
import Wide.All
import OpenK.AllK
import Wide.FinOn
import HandS.ForMost
import HandS.ForExc
import HandS.Flow
import HandS.TupAny
import HandS.IsInst
import HandS.SortInts
import HandS.Conv
import HandS.Zip
import HandS.NoneIn
import HandS.Wide
import HandS.ExcInit
import HandS.ExcField
import KE.GoesEnum
import KE.GoesZip
import KE.GoesMore
import KE.KDictList
import KE.KDictZip
import HandS.Set
import HandS.SetFor
import PyProof.Rows.SortShellAny
import KE.KDictKeyed
import KE.KeyNested
import PySem.Challenge.RW_broadrow_k20_whole_reading_by_parts
set_option Elab.async false
set_option linter.all false
set_option maxRecDepth 100000
/-! The text by places. -/
namespace Br
open PySem L2
def topS (i : Nat) : Stmt := PySem.Challenge.pw_broadrow_k20_whole_reading_by_parts.main.body.getD i (.Pass ⟨0, 0, 0, 0⟩)
abbrev s_is_great : Stmt := topS 4
abbrev n_is_great : List Str := ["number"]
abbrev p_is_great : List Str := ["number"]
theorem sc_is_great : FnScope n_is_great p_is_great (defScope s_is_great) := ⟨rfl, rfl, rfl, by decide +kernel, rfl, by decide +kernel, by decide +kernel⟩
abbrev s_numbered : Stmt := topS 5
abbrev n_numbered : List Str := ["number"]
abbrev p_numbered : List Str := ["number"]
theorem sc_numbered : FnScope n_numbered p_numbered (defScope s_numbered) := ⟨rfl, rfl, rfl, by decide +kernel, rfl, by decide +kernel, by decide +kernel⟩
abbrev s_divided : Stmt := topS 6
abbrev n_divided : List Str := ["sign", "one", "other"]
abbrev p_divided : List Str := ["sign", "one", "other"]
theorem sc_divided : FnScope n_divided p_divided (defScope s_divided) := ⟨rfl, rfl, rfl, by decide +kernel, rfl, by decide +kernel, by decide +kernel⟩
abbrev s_reckoned : Stmt := topS 7
abbrev n_reckoned : List Str := ["sign", "one", "other"]
abbrev p_reckoned : List Str := ["sign", "one", "other"]
theorem sc_reckoned : FnScope n_reckoned p_reckoned (defScope s_reckoned) := ⟨rfl, rfl, rfl, by decide +kernel, rfl, by decide +kernel, by decide +kernel⟩
abbrev s_beginnings : Stmt := topS 8
abbrev n_beginnings : List Str := ["row", "found", "number"]
abbrev p_beginnings : List Str := ["row"]
theorem sc_beginnings : FnScope n_beginnings p_beginnings (defScope s_beginnings) := ⟨rfl, rfl, rfl, by decide +kernel, rfl, by decide +kernel, by decide +kernel⟩
abbrev s_summed : Stmt := topS 9
abbrev n_summed : List Str := ["sign", "row", "found", "word"]
abbrev p_summed : List Str := ["sign", "row"]
theorem sc_summed : FnScope n_summed p_summed (defScope s_summed) := ⟨rfl, rfl, rfl, by decide +kernel, rfl, by decide +kernel, by decide +kernel⟩
abbrev s_greatest : Stmt := topS 10
abbrev n_greatest : List Str := ["row"]
abbrev p_greatest : List Str := ["row"]
theorem sc_greatest : FnScope n_greatest p_greatest (defScope s_greatest) := ⟨rfl, rfl, rfl, by decide +kernel, rfl, by decide +kernel, by decide +kernel⟩
abbrev s_counted : Stmt := topS 11
abbrev n_counted : List Str := ["number"]
abbrev p_counted : List Str := ["number"]
theorem sc_counted : FnScope n_counted p_counted (defScope s_counted) := ⟨rfl, rfl, rfl, by decide +kernel, rfl, by decide +kernel, by decide +kernel⟩
abbrev s_bounded : Stmt := topS 12
abbrev n_bounded : List Str := ["row"]
abbrev p_bounded : List Str := ["row"]
theorem sc_bounded : FnScope n_bounded p_bounded (defScope s_bounded) := ⟨rfl, rfl, rfl, by decide +kernel, rfl, by decide +kernel, by decide +kernel⟩
abbrev s_behind : Stmt := topS 13
abbrev n_behind : List Str := ["rows", "found", "row"]
abbrev p_behind : List Str := ["rows"]
theorem sc_behind : FnScope n_behind p_behind (defScope s_behind) := ⟨rfl, rfl, rfl, by decide +kernel, rfl, by decide +kernel, by decide +kernel⟩
abbrev s_picked : Stmt := topS 14
abbrev n_picked : List Str := ["row", "number"]
abbrev p_picked : List Str := ["row", "number"]
theorem sc_picked : FnScope n_picked p_picked (defScope s_picked) := ⟨rfl, rfl, rfl, by decide +kernel, rfl, by decide +kernel, by decide +kernel⟩
abbrev s_kept : Stmt := topS 15
abbrev n_kept : List Str := ["row", "truths", "thing", "truth"]
abbrev p_kept : List Str := ["row", "truths"]
theorem sc_kept : FnScope n_kept p_kept (defScope s_kept) := ⟨rfl, rfl, rfl, by decide +kernel, rfl, by decide +kernel, by decide +kernel⟩
abbrev s_cut : Stmt := topS 16
abbrev n_cut : List Str := ["row", "lengths", "found", "at", "long", "one"]
abbrev p_cut : List Str := ["row", "lengths"]
theorem sc_cut : FnScope n_cut p_cut (defScope s_cut) := ⟨rfl, rfl, rfl, by decide +kernel, rfl, by decide +kernel, by decide +kernel⟩
abbrev s_done_one : Stmt := topS 17
abbrev n_done_one : List Str := ["sign", "worth"]
abbrev p_done_one : List Str := ["sign", "worth"]
theorem sc_done_one : FnScope n_done_one p_done_one (defScope s_done_one) := ⟨rfl, rfl, rfl, by decide +kernel, rfl, by decide +kernel, by decide +kernel⟩
abbrev s_done_two : Stmt := topS 18
abbrev n_done_two : List Str := ["sign", "one", "other"]
abbrev p_done_two : List Str := ["sign", "one", "other"]
theorem sc_done_two : FnScope n_done_two p_done_two (defScope s_done_two) := ⟨rfl, rfl, rfl, by decide +kernel, rfl, by decide +kernel, by decide +kernel⟩
abbrev s_done_once : Stmt := topS 19
abbrev n_done_once : List Str := ["tree", "worths", "sign"]
abbrev p_done_once : List Str := ["tree", "worths"]
theorem sc_done_once : FnScope n_done_once p_done_once (defScope s_done_once) := ⟨rfl, rfl, rfl, by decide +kernel, rfl, by decide +kernel, by decide +kernel⟩
abbrev s_turns_word : Stmt := topS 20
abbrev n_turns_word : List Str := ["number"]
abbrev p_turns_word : List Str := ["number"]
theorem sc_turns_word : FnScope n_turns_word p_turns_word (defScope s_turns_word) := ⟨rfl, rfl, rfl, by decide +kernel, rfl, by decide +kernel, by decide +kernel⟩
abbrev s_parts : Stmt := topS 24
abbrev n_parts : List Str := ["tree"]
abbrev p_parts : List Str := ["tree"]
theorem sc_parts : FnScope n_parts p_parts (defScope s_parts) := ⟨rfl, rfl, rfl, by decide +kernel, rfl, by decide +kernel, by decide +kernel⟩
abbrev s_binding : Stmt := topS 25
abbrev n_binding : List Str := ["tree"]
abbrev p_binding : List Str := ["tree"]
theorem sc_binding : FnScope n_binding p_binding (defScope s_binding) := ⟨rfl, rfl, rfl, by decide +kernel, rfl, by decide +kernel, by decide +kernel⟩
abbrev s_names_in : Stmt := topS 26
abbrev n_names_in : List Str := ["tree", "found", "k", "part", "some", "name"]
abbrev p_names_in : List Str := ["tree"]
theorem sc_names_in : FnScope n_names_in p_names_in (defScope s_names_in) := ⟨rfl, rfl, rfl, by decide +kernel, rfl, by decide +kernel, by decide +kernel⟩
abbrev s_free_names : Stmt := topS 27
abbrev n_free_names : List Str := ["tree"]
abbrev p_free_names : List Str := ["tree"]
theorem sc_free_names : FnScope n_free_names p_free_names (defScope s_free_names) := ⟨rfl, rfl, rfl, by decide +kernel, rfl, by decide +kernel, by decide +kernel⟩
abbrev s_size : Stmt := topS 29
abbrev n_size : List Str := ["worth", "total", "one"]
abbrev p_size : List Str := ["worth"]
theorem sc_size : FnScope n_size p_size (defScope s_size) := ⟨rfl, rfl, rfl, by decide +kernel, rfl, by decide +kernel, by decide +kernel⟩
abbrev s_S_init : Stmt := inClass (topS 31) 0
abbrev n_S_init : List Str := ["self", "word", "place", "turns"]
abbrev p_S_init : List Str := ["self", "word", "place", "turns"]
theorem sc_S_init : FnScope n_S_init p_S_init (defScope s_S_init) := ⟨rfl, rfl, rfl, by decide +kernel, rfl, by decide +kernel, by decide +kernel⟩
abbrev s_copied : Stmt := topS 32
abbrev n_copied : List Str := ["worth", "some", "one"]
abbrev p_copied : List Str := ["worth"]
theorem sc_copied : FnScope n_copied p_copied (defScope s_copied) := ⟨rfl, rfl, rfl, by decide +kernel, rfl, by decide +kernel, by decide +kernel⟩
abbrev s_sizes_of : Stmt := topS 33
abbrev n_sizes_of : List Str := ["names", "told", "name"]
abbrev p_sizes_of : List Str := ["names", "told"]
theorem sc_sizes_of : FnScope n_sizes_of p_sizes_of (defScope s_sizes_of) := ⟨rfl, rfl, rfl, by decide +kernel, rfl, by decide +kernel, by decide +kernel⟩
abbrev s_width_of : Stmt := topS 34
abbrev n_width_of : List Str := ["tree", "worths", "came", "sign"]
abbrev p_width_of : List Str := ["tree", "worths", "came"]
theorem sc_width_of : FnScope n_width_of p_width_of (defScope s_width_of) := ⟨rfl, rfl, rfl, by decide +kernel, rfl, by decide +kernel, by decide +kernel⟩
abbrev s_R_init : Stmt := inClass (topS 35) 0
abbrev n_R_init : List Str := ["self"]
abbrev p_R_init : List Str := ["self"]
theorem sc_R_init : FnScope n_R_init p_R_init (defScope s_R_init) := ⟨rfl, rfl, rfl, by decide +kernel, rfl, by decide +kernel, by decide +kernel⟩
abbrev s_R_note : Stmt := inClass (topS 35) 1
abbrev n_R_note : List Str := ["self", "place", "rounds", "width", "many", "widths"]
abbrev p_R_note : List Str := ["self", "place", "rounds", "width"]
theorem sc_R_note : FnScope n_R_note p_R_note (defScope s_R_note) := ⟨rfl, rfl, rfl, by decide +kernel, rfl, by decide +kernel, by decide +kernel⟩
abbrev s_R_worth : Stmt := inClass (topS 35) 2
abbrev n_R_worth : List Str := ["self", "tree", "place", "names", "turns", "rounds", "sign", "inner", "worths", "k", "part", "came", "word"]
abbrev p_R_worth : List Str := ["self", "tree", "place", "names", "turns", "rounds"]
theorem sc_R_worth : FnScope n_R_worth p_R_worth (defScope s_R_worth) := ⟨rfl, rfl, rfl, by decide +kernel, rfl, by decide +kernel, by decide +kernel⟩
abbrev s_R_arm : Stmt := inClass (topS 35) 3
abbrev n_R_arm : List Str := ["self", "tree", "place", "names", "turns", "rounds", "at", "arm", "came"]
abbrev p_R_arm : List Str := ["self", "tree", "place", "names", "turns", "rounds"]
theorem sc_R_arm : FnScope n_R_arm p_R_arm (defScope s_R_arm) := ⟨rfl, rfl, rfl, by decide +kernel, rfl, by decide +kernel, by decide +kernel⟩
abbrev s_R_things : Stmt := inClass (topS 35) 4
abbrev n_R_things : List Str := ["self", "tree", "place", "names", "turns", "rounds", "row", "brought", "came", "number", "thing", "inner", "name"]
abbrev p_R_things : List Str := ["self", "tree", "place", "names", "turns", "rounds"]
theorem sc_R_things : FnScope n_R_things p_R_things (defScope s_R_things) := ⟨rfl, rfl, rfl, by decide +kernel, rfl, by decide +kernel, by decide +kernel⟩
abbrev s_R_turned : Stmt := inClass (topS 35) 5
abbrev n_R_turned : List Str := ["self", "tree", "place", "names", "turns", "rounds", "many", "came", "word", "brought", "number", "inner", "name"]
abbrev p_R_turned : List Str := ["self", "tree", "place", "names", "turns", "rounds"]
theorem sc_R_turned : FnScope n_R_turned p_R_turned (defScope s_R_turned) := ⟨rfl, rfl, rfl, by decide +kernel, rfl, by decide +kernel, by decide +kernel⟩
abbrev s_named : Stmt := topS 36
abbrev n_named : List Str := ["program", "worths", "names", "head", "worth"]
abbrev p_named : List Str := ["program", "worths"]
theorem sc_named : FnScope n_named p_named (defScope s_named) := ⟨rfl, rfl, rfl, by decide +kernel, rfl, by decide +kernel, by decide +kernel⟩
abbrev s_read : Stmt := topS 37
abbrev n_read : List Str := ["program", "worths", "reading", "told", "e"]
abbrev p_read : List Str := ["program", "worths"]
theorem sc_read : FnScope n_read p_read (defScope s_read) := ⟨rfl, rfl, rfl, by decide +kernel, rfl, by decide +kernel, by decide +kernel⟩
abbrev s_law_alike : Stmt := topS 39
abbrev n_law_alike : List Str := ["found", "due", "one", "other"]
abbrev p_law_alike : List Str := ["found", "due"]
theorem sc_law_alike : FnScope n_law_alike p_law_alike (defScope s_law_alike) := ⟨rfl, rfl, rfl, by decide +kernel, rfl, by decide +kernel, by decide +kernel⟩
abbrev s_law_cell : Stmt := topS 40
abbrev n_law_cell : List Str := ["state"]
abbrev p_law_cell : List Str := ["state"]
theorem sc_law_cell : FnScope n_law_cell p_law_cell (defScope s_law_cell) := ⟨rfl, rfl, rfl, by decide +kernel, rfl, by decide +kernel, by decide +kernel⟩
abbrev s_law_name : Stmt := topS 41
abbrev n_law_name : List Str := ["state", "names", "cell", "letters", "some", "free", "k", "one", "pair"]
abbrev p_law_name : List Str := ["state", "names", "cell"]
theorem sc_law_name : FnScope n_law_name p_law_name (defScope s_law_name) := ⟨rfl, rfl, rfl, by decide +kernel, rfl, by decide +kernel, by decide +kernel⟩
abbrev s_law_kind : Stmt := topS 42
abbrev n_law_kind : List Str := ["cell", "left", "way"]
abbrev p_law_kind : List Str := ["cell", "left"]
theorem sc_law_kind : FnScope n_law_kind p_law_kind (defScope s_law_kind) := ⟨rfl, rfl, rfl, by decide +kernel, rfl, by decide +kernel, by decide +kernel⟩
abbrev s_law_depth : Stmt := topS 43
abbrev n_law_depth : List Str := ["kind", "part"]
abbrev p_law_depth : List Str := ["kind"]
theorem sc_law_depth : FnScope n_law_depth p_law_depth (defScope s_law_depth) := ⟨rfl, rfl, rfl, by decide +kernel, rfl, by decide +kernel, by decide +kernel⟩
abbrev s_law_number : Stmt := topS 44
abbrev n_law_number : List Str := ["cell", "some"]
abbrev p_law_number : List Str := ["cell"]
theorem sc_law_number : FnScope n_law_number p_law_number (defScope s_law_number) := ⟨rfl, rfl, rfl, by decide +kernel, rfl, by decide +kernel, by decide +kernel⟩
abbrev s_law_leaf : Stmt := topS 45
abbrev n_law_leaf : List Str := ["kind", "names", "cell", "some", "one", "name"]
abbrev p_law_leaf : List Str := ["kind", "names", "cell"]
theorem sc_law_leaf : FnScope n_law_leaf p_law_leaf (defScope s_law_leaf) := ⟨rfl, rfl, rfl, by decide +kernel, rfl, by decide +kernel, by decide +kernel⟩
abbrev s_law_signs : Stmt := topS 46
abbrev n_law_signs : List Str := ["kind", "other", "num", "nums", "found", "sign"]
abbrev p_law_signs : List Str := ["kind", "other"]
theorem sc_law_signs : FnScope n_law_signs p_law_signs (defScope s_law_signs) := ⟨rfl, rfl, rfl, by decide +kernel, rfl, by decide +kernel, by decide +kernel⟩
abbrev s_law_binder : Stmt := topS 47
abbrev n_law_binder : List Str := ["state", "kind", "names", "left", "cell", "other", "name", "test", "one", "many"]
abbrev p_law_binder : List Str := ["state", "kind", "names", "left", "cell", "other"]
theorem sc_law_binder : FnScope n_law_binder p_law_binder (defScope s_law_binder) := ⟨rfl, rfl, rfl, by decide +kernel, rfl, by decide +kernel, by decide +kernel⟩
abbrev s_law_tree : Stmt := topS 48
abbrev n_law_tree : List Str := ["state", "kind", "names", "left", "cell", "rest", "other", "some", "sign", "kinds", "made", "one"]
abbrev p_law_tree : List Str := ["state", "kind", "names", "left"]
theorem sc_law_tree : FnScope n_law_tree p_law_tree (defScope s_law_tree) := ⟨rfl, rfl, rfl, by decide +kernel, rfl, by decide +kernel, by decide +kernel⟩
abbrev s_law_start : Stmt := topS 49
abbrev n_law_start : List Str := ["tree"]
abbrev p_law_start : List Str := ["tree"]
theorem sc_law_start : FnScope n_law_start p_law_start (defScope s_law_start) := ⟨rfl, rfl, rfl, by decide +kernel, rfl, by decide +kernel, by decide +kernel⟩
abbrev s_law_many : Stmt := topS 50
abbrev n_law_many : List Str := ["tree", "part"]
abbrev p_law_many : List Str := ["tree"]
theorem sc_law_many : FnScope n_law_many p_law_many (defScope s_law_many) := ⟨rfl, rfl, rfl, by decide +kernel, rfl, by decide +kernel, by decide +kernel⟩
abbrev s_law_worth : Stmt := topS 51
abbrev n_law_worth : List Str := ["state", "kind", "left", "cell", "k"]
abbrev p_law_worth : List Str := ["state", "kind", "left"]
theorem sc_law_worth : FnScope n_law_worth p_law_worth (defScope s_law_worth) := ⟨rfl, rfl, rfl, by decide +kernel, rfl, by decide +kernel, by decide +kernel⟩
abbrev s_law_program : Stmt := topS 52
abbrev n_law_program : List Str := ["state", "deep", "cell", "names", "k", "kind", "worths", "tree", "name", "one"]
abbrev p_law_program : List Str := ["state", "deep"]
theorem sc_law_program : FnScope n_law_program p_law_program (defScope s_law_program) := ⟨rfl, rfl, rfl, by decide +kernel, rfl, by decide +kernel, by decide +kernel⟩
abbrev s_law_reckoned : Stmt := topS 53
abbrev n_law_reckoned : List Str := ["sign", "one", "other", "found"]
abbrev p_law_reckoned : List Str := ["sign", "one", "other"]
theorem sc_law_reckoned : FnScope n_law_reckoned p_law_reckoned (defScope s_law_reckoned) := ⟨rfl, rfl, rfl, by decide +kernel, rfl, by decide +kernel, by decide +kernel⟩
abbrev s_law_of_row : Stmt := topS 54
abbrev n_law_of_row : List Str := ["sign", "row", "found", "one", "sums", "number", "word"]
abbrev p_law_of_row : List Str := ["sign", "row"]
theorem sc_law_of_row : FnScope n_law_of_row p_law_of_row (defScope s_law_of_row) := ⟨rfl, rfl, rfl, by decide +kernel, rfl, by decide +kernel, by decide +kernel⟩
abbrev s_law_of_two : Stmt := topS 55
abbrev n_law_of_two : List Str := ["sign", "one", "other", "found", "k", "number"]
abbrev p_law_of_two : List Str := ["sign", "one", "other"]
theorem sc_law_of_two : FnScope n_law_of_two p_law_of_two (defScope s_law_of_two) := ⟨rfl, rfl, rfl, by decide +kernel, rfl, by decide +kernel, by decide +kernel⟩
abbrev s_law_once : Stmt := topS 56
abbrev n_law_once : List Str := ["tree", "worths", "sign", "good", "one", "other"]
abbrev p_law_once : List Str := ["tree", "worths"]
theorem sc_law_once : FnScope n_law_once p_law_once (defScope s_law_once) := ⟨rfl, rfl, rfl, by decide +kernel, rfl, by decide +kernel, by decide +kernel⟩
abbrev s_law_size : Stmt := topS 57
abbrev n_law_size : List Str := ["worth", "one"]
abbrev p_law_size : List Str := ["worth"]
theorem sc_law_size : FnScope n_law_size p_law_size (defScope s_law_size) := ⟨rfl, rfl, rfl, by decide +kernel, rfl, by decide +kernel, by decide +kernel⟩
abbrev s_law_cost : Stmt := topS 58
abbrev n_law_cost : List Str := ["calls", "many", "worths", "worth"]
abbrev p_law_cost : List Str := ["calls", "many", "worths"]
theorem sc_law_cost : FnScope n_law_cost p_law_cost (defScope s_law_cost) := ⟨rfl, rfl, rfl, by decide +kernel, rfl, by decide +kernel, by decide +kernel⟩
abbrev s_law_with : Stmt := topS 59
abbrev n_law_with : List Str := ["names", "name", "worth", "more"]
abbrev p_law_with : List Str := ["names", "name", "worth"]
theorem sc_law_with : FnScope n_law_with p_law_with (defScope s_law_with) := ⟨rfl, rfl, rfl, by decide +kernel, rfl, by decide +kernel, by decide +kernel⟩
abbrev s_law_loop : Stmt := topS 60
abbrev n_law_loop : List Str := ["tree", "place", "names", "turns", "calls", "first", "found", "told", "many", "k", "thing", "at"]
abbrev p_law_loop : List Str := ["tree", "place", "names", "turns", "calls"]
theorem sc_law_loop : FnScope n_law_loop p_law_loop (defScope s_law_loop) := ⟨rfl, rfl, rfl, by decide +kernel, rfl, by decide +kernel, by decide +kernel⟩
abbrev s_law_read : Stmt := topS 61
abbrev n_law_read : List Str := ["tree", "place", "names", "turns", "calls", "told", "at", "wide", "worths", "k", "came", "word"]
abbrev p_law_read : List Str := ["tree", "place", "names", "turns", "calls"]
theorem sc_law_read : FnScope n_law_read p_law_read (defScope s_law_read) := ⟨rfl, rfl, rfl, by decide +kernel, rfl, by decide +kernel, by decide +kernel⟩
abbrev s_law_moved : Stmt := topS 62
abbrev n_law_moved : List Str := ["told", "at", "turn"]
abbrev p_law_moved : List Str := ["told", "at", "turn"]
theorem sc_law_moved : FnScope n_law_moved p_law_moved (defScope s_law_moved) := ⟨rfl, rfl, rfl, by decide +kernel, rfl, by decide +kernel, by decide +kernel⟩
abbrev s_law_each : Stmt := topS 63
abbrev n_law_each : List Str := ["heads", "tree", "worths", "numbers", "found", "k", "told"]
abbrev p_law_each : List Str := ["heads", "tree", "worths", "numbers"]
theorem sc_law_each : FnScope n_law_each p_law_each (defScope s_law_each) := ⟨rfl, rfl, rfl, by decide +kernel, rfl, by decide +kernel, by decide +kernel⟩
abbrev s_law_times : Stmt := topS 64
abbrev n_law_times : List Str := ["heads", "tree", "worths", "number", "many", "here", "k", "told"]
abbrev p_law_times : List Str := ["heads", "tree", "worths", "number", "many"]
theorem sc_law_times : FnScope n_law_times p_law_times (defScope s_law_times) := ⟨rfl, rfl, rfl, by decide +kernel, rfl, by decide +kernel, by decide +kernel⟩
abbrev s_law : Stmt := topS 65
abbrev n_law : List Str := ["script", "state", "cell", "program", "worths", "kind", "heads", "tree", "numbers", "names", "begin", "turning", "shots", "row", "told", "alone", "test", "either", "other", "k", "head", "one"]
abbrev p_law : List Str := ["script"]
theorem sc_law : FnScope n_law p_law (defScope s_law) := ⟨rfl, rfl, rfl, by decide +kernel, rfl, by decide +kernel, by decide +kernel⟩
end Br
/-! What every def's proof leans on: a def's promise under its name, the top's facts, heaps that grow. -/
namespace Br
open PySem L2
open PySem.Spec PyProof.Rows
/-- a def of the module, by its name, at a level -/
structure Fn (P : Program) (w : World) (K : PySem.W.Frag) (mg : Str → Option Value) (base : Heap) (k : Nat) (x : Str) (sp : Sp) : Prop where
  ex : ∃ (f : Addr) (fd : FuncData) (ps : List Str), FnOk P w K mg base CX0 k f fd ps sp ∧ mg x = some (.ref f) ∧ PySem.W.keepIn K (.ref f) = true ∧ Binds K fd ps []
theorem Fn.mono {P : Program} {w : World} {K : PySem.W.Frag} {mg : Str → Option Value} {base : Heap} {j k : Nat} {x : Str} {sp : Sp}
    (c : Fn P w K mg base j x sp) (h : j ≤ k) : Fn P w K mg base k x sp := by
  obtain ⟨f, fd, ps, F, r⟩ := c.ex
  exact ⟨f, fd, ps, F.mono h, r⟩
theorem pe_fn {X : Cx} {k j : Nat} {x : Str} {sp : Sp} {e : Expr} {es : List Expr} {t : TA} {p pos : Pos} (c : Fn X.prog X.w X.K X.mg X.base k x sp) (hr : Room j X.A) (hk : k ≤ j) (hg : Gl X x) (ha : PA X (e :: es) t)
    (hdb : (x == ("__debug__" : Str)) = false := by decide)
    (he : starEach (e :: es) X.env = (false, eval e X.env) :: starEach es X.env := by rfl)
    (hpl : (backTo pos (starEach es X.env)).any (·.1) = false := by rfl) :
    PE X (.Call (.Name x p) (e :: es) [] pos) (tCall sp [] E0 t) := by
  obtain ⟨f, fd, ps, F, hm, kp, b⟩ := c.ex
  exact pe_call F (hr.mono hk) hg hm kp b .nil pass0 ha hdb he hpl
/-- the def of the text st stands at f, under the name x -/
structure At (K : PySem.W.Frag) (mg : Str → Option Value) (x : Str) (st : Stmt) (ps : List Str) (f : Addr) (fd : FuncData) : Prop where
  fn : Fun K x x st f fd
  mgf : mg x = some (.ref f)
  bd : Binds K fd ps []
theorem fn_by {P : Program} {w : World} {K : PySem.W.Frag} {mg : Str → Option Value} {base : Heap} {x : Str} {st : Stmt} {f : Addr} {fd : FuncData} {N ps : List Str} {k : Nat} {sp : Sp}
    (F : At K mg x st ps f fd) (S : FnScope N ps (defScope st)) (len : ∀ vs H Q E, sp vs H Q E → vs.length = ps.length)
    (body : ∀ (cdv : Value) (A : Around) (outer : List Env) (s : Shared) (H : Hp) (vs : List V) (Q : VK) (E : XK), Room k (A.deeper (envOfC x (defScope st) s.heap.objs.size f cdv)) → sp vs H Q E →
      ∃ t, PSs (cxOf CX0 P w K mg base N x (defScope st) f cdv A outer s H E).nox (defBody st) t ∧ t { nx := fun _ H' => Q .non H', rt := Q } (start N vs) H) :
    Fn P w K mg base (k + 1) x sp := ⟨f, fd, ps, F.fn.ok S len body, F.mgf, F.fn.kp, F.bd⟩
/-- a name of the module's that holds a constant -/
theorem pe_gc {X : Cx} {x : Str} {v : V} {pos : Pos} (hg : Gl X x) (h : ∃ u, X.mg x = some u ∧ RelV v u)
    (hd : (x == ("__debug__" : Str)) = false := by decide) : PE X (.Name x pos) (tC v) :=
  let ⟨_, hm, r⟩ := h
  pe_glob hg hm r hd
/-- what the top holds beside the defs -/
structure Tp (K : PySem.W.Frag) (mg : Str → Option Value) (aC aB : Addr) : Prop where
  len : mg "len" = none
  isinstance : mg "isinstance" = none
  int : mg "int" = none
  bool : mg "bool" = none
  str : mg "str" = none
  list : mg "list" = none
  tuple : mg "tuple" = none
  max : mg "max" = none
  min : mg "min" = none
  sum : mg "sum" = none
  sorted : mg "sorted" = none
  set : mg "set" = none
  enumerate : mg "enumerate" = none
  zip : mg "zip" = none
  range : mg "range" = none
  dict : mg "dict" = none
  all : mg "all" = none
  abs : mg "abs" = none
  valueError : mg "ValueError" = none
  great : ∃ u, mg "GREATEST" = some u ∧ RelV (.int 1000000000000000000) u
  things : ∃ u, mg "MOST_THINGS" = some u ∧ RelV (.int 200) u
  vV : PySem.W.findCls K (.type "ValueError") (.type "type") "__init__" = some (.val (.builtin "ValueError.__init__"))
  carriers : ∃ u, mg "CARRIERS" = some u ∧ RelV (.ref aC) u
  binders : ∃ u, mg "BINDERS" = some u ∧ RelV (.ref aB) u
  carry : ∀ H, SqT K H aC [.str "num", .str "name", .str "none"]
  bind : ∀ H, SqT K H aB [.str "let", .str "each", .str "times"]
  turns : ∃ u, mg "MOST_TURNS" = some u ∧ RelV (.int 60) u
end Br
/-! The layer's rules with the written part K told apart from the context (a comprehension's block has another context over the same K). -/
namespace Br
open PySem L2
open PySem.Spec PyProof.Rows
section
variable {X : Cx} {pos : Pos}
theorem k_ixl (K : PySem.W.Frag) (h : X.K = K) : IxR X (rIxL K) := by subst h; exact ix_list
theorem k_ixt (K : PySem.W.Frag) (h : X.K = K) : IxR X (rIxT K) := by subst h; exact ix_tup
theorem k_ixs (K : PySem.W.Frag) (h : X.K = K) : IxR X (rIx K) := by subst h; exact ix_seq
theorem k_sll (K : PySem.W.Frag) (h : X.K = K) : SlR X (rSlL K) := by subst h; exact sl_list
theorem k_slt (K : PySem.W.Frag) (h : X.K = K) : SlR X (rSlA K) := by subst h; exact sl_tupA
theorem k_in (K : PySem.W.Frag) (h : X.K = K) : OpR X (compareOp .In) (rIn K false) := by subst h; exact op_in_seq
theorem k_ni (K : PySem.W.Frag) (h : X.K = K) : OpR X (compareOp .NotIn) (rIn K true) := by subst h; exact op_notIn_seq
theorem k_cat (K : PySem.W.Frag) (h : X.K = K) : OpR X (binaryOp .Add) (rCatA K) := by subst h; exact op_catA
theorem k_eqD (K : PySem.W.Frag) (h : X.K = K) {k : Nat} (hr : Room k X.A) : OpR X (compareOp .Eq) (rEqD K) := by subst h; exact op_eqD hr.units
theorem k_neD (K : PySem.W.Frag) (h : X.K = K) {k : Nat} (hr : Room k X.A) : OpR X (compareOp .NotEq) (rNeD K) := by subst h; exact op_neD hr.units
def rLen (K : PySem.W.Frag) : List V → Hp → VK → Prop := fun xs H Q => ∃ p ys, xs = [.ref p] ∧ (SqL K H p ys ∨ SqT K H p ys) ∧ Q (.int ys.length) H
theorem k_len (K : PySem.W.Frag) (h : X.K = K) : CallR X (.builtin "len") (rLen K) := by subst h; exact call_len_seq
theorem k_sum (K : PySem.W.Frag) (h : X.K = K) (c : X.calm = true) : CallR X (.builtin "sum") (rSum K) := by subst h; exact cr_sum c
theorem k_max (K : PySem.W.Frag) (h : X.K = K) (c : X.calm = true) : CallR X (.builtin "max") (rMax K) := by subst h; exact cr_max c
theorem k_all (K : PySem.W.Frag) (h : X.K = K) (c : X.calm = true) : CallR X (.builtin "all") (rAll K) := by subst h; exact cr_all c
theorem k_isi (K : PySem.W.Frag) (h : X.K = K) : CallR X (.builtin "isinstance") (rIsi K) := by subst h; exact call_isi
theorem k_isiT (K : PySem.W.Frag) (h : X.K = K) : CallR X (.builtin "isinstance") (rIsiT K) := by subst h; exact call_isiT
theorem k_sorted (K : PySem.W.Frag) (h : X.K = K) : CallR X (.builtin "sorted") (rSortedI K) := by subst h; exact cr_sortedI
def rListOf (K : PySem.W.Frag) : List V → Hp → VK → Prop := fun xs H Q => ∃ p ys, xs = [.ref p] ∧ (SqL K H p ys ∨ SqT K H p ys) ∧ ∀ l, H l = none → Q (.ref l) (upd H l (.lst ys))
theorem k_listOf (K : PySem.W.Frag) (h : X.K = K) : CallR X (.type "list") (rListOf K) := by subst h; exact call_list_of
def rTupOf (K : PySem.W.Frag) : List V → Hp → VK → Prop := fun xs H Q => ∃ p ys, xs = [.ref p] ∧ ((SqL K H p ys ∧ ∀ l, H l = none → Q (.ref l) (upd H l (.tup ys))) ∨ (SqT K H p ys ∧ Q (.ref p) H))
theorem k_tupOf (K : PySem.W.Frag) (h : X.K = K) : CallR X (.type "tuple") (rTupOf K) := by subst h; exact call_tuple_of
theorem k_index (K : PySem.W.Frag) (h : X.K = K) : MtR X "list.index" (rIndex K) := by subst h; exact mt_index
theorem k_bm (K : PySem.W.Frag) (h : X.K = K) {T name id : String} {r : V → List V → Hp → VK → Prop} {o e : Expr} {es : List Expr} {to : TE} {t : TA} {apos cpos : Pos} (pa : PlainAttrs T) (slot : Slot T name id)
    (hty : typeOf (.builtin id) = pure (.type "method_descriptor")) (hm : MtR X id r) (ho : PE X o to) (ha : PA X (e :: es) t)
    (hb : attributeBase o name X.env (eval o X.env) = eval o X.env := by rfl)
    (hfew : ((backTo cpos (starEach (e :: es) X.env)).all (fun x => !x.1) && (backToKw cpos (keywordEach [] X.env)).all (fun x => x.1.isSome)
      && decide ((e :: es).length + ([] : List Keyword).length + (if ([] : List Keyword).isEmpty then 0 else 1) < 30)) = true := by rfl)
    (hline : (apos.endLine == cpos.line) = true := by rfl) (hs : starEach (e :: es) X.env = (false, eval e X.env) :: starEach es X.env := by rfl)
    (hpl : (backTo cpos (starEach es X.env)).any (·.1) = false := by rfl) :
    PE X (.Call (.Attribute o name apos) (e :: es) [] cpos) (tBM K T r to t) := by
  subst h
  exact pe_bm pa slot hty hm ho ha hb hfew hline hs hpl
theorem k_pil (K : PySem.W.Frag) (h : X.K = K) {tg l : Expr} {tl : TE} (hl : PE X l tl) : PI X tg l (iList K tl) := by subst h; exact pi_list hl
theorem k_pit (K : PySem.W.Frag) (h : X.K = K) {tg l : Expr} {tl : TE} (hl : PE X l tl) : PI X tg l (iTup K tl) := by subst h; exact pi_tup hl
theorem k_gtup (K : PySem.W.Frag) (h : X.K = K) {es : List Expr} {k : Nat} {t : TGs} {n : Nat} (hc : X.calm = true) (hh : PGs X es t)
    (hn : (assignEach es X.env).length = n := by rfl) (hst : (assignEach es X.env).findIdx? (·.1) = none := by rfl) : PG X (.Tuple es k pos) (gTup K n t) := by
  subst h
  exact pg_tup hc hh hn hst
theorem k_gunl (K : PySem.W.Frag) (h : X.K = K) {es : List Expr} {k : Nat} {t : TGs} {n : Nat} (hc : X.calm = true) (hh : PGs X es t)
    (hn : (assignEach es X.env).length = n := by rfl) (hst : (assignEach es X.env).findIdx? (·.1) = none := by rfl) : PG X (.Tuple es k pos) (gUnl K n t) := by
  subst h
  exact pg_unl hc hh hn hst
/-- x and y, by truth -/
theorem k_andT (K : PySem.W.Frag) (h : X.K = K) {a b : Expr} {rest : List Expr} {ta tb : TE} (ha : PE X a ta) (hb : PE X (.BoolOp .And (b :: rest) pos) tb) :
    PE X (.BoolOp .And (a :: b :: rest) pos) (tAndT K ta tb) := by subst h; exact pe_andT ha hb
/-- a value's truth as a test -/
def tTr (K : PySem.W.Frag) (ta : TE) : TT := fun σ H Q => ta σ H fun x H' => ∃ k, TruV K x H' k ∧ Q k H'
theorem k_truth (K : PySem.W.Frag) (h : X.K = K) {a : Expr} {ta : TE} (ha : PE X a ta)
    (he : ∀ whole, isTrue a X.env whole = (do let v ← whole; standAt a.pos; holding [v] (truthy v)) := by intro _; rfl) : PT X a (tTr K ta) := by
  subst h
  exact pt_truth ha he
theorem k_zipA (K : PySem.W.Frag) (h : X.K = K) {e e2 : Expr} {ta : TA} {p pos tpos : Pos} {elts : List Expr} {kk : Nat} (hg : Gl X "zip") (hm : X.mg "zip" = none) (ha : PA X [e, e2] ta)
    (hs : starEach [e, e2] X.env = (false, eval e X.env) :: starEach [e2] X.env := by rfl) (hpl : (backTo pos (starEach [e2] X.env)).any (·.1) = false := by rfl) :
    PI X (.Tuple elts kk tpos) (.Call (.Name "zip" p) [e, e2] [] pos) (RZ.iZipA K ta) := by
  subst h
  exact RZ.pi_zipA hg hm ha hs hpl
theorem k_enum (K : PySem.W.Frag) (h : X.K = K) {e : Expr} {ta : TA} {p pos tpos : Pos} {elts : List Expr} {kk : Nat} (hg : Gl X "enumerate") (hm : X.mg "enumerate" = none) (ha : PA X [e] ta)
    (hs : starEach [e] X.env = [(false, eval e X.env)] := by rfl) :
    PI X (.Tuple elts kk tpos) (.Call (.Name "enumerate" p) [e] [] pos) (iEnum K ta) := by
  subst h
  exact pi_enum hg hm ha hs
/-- dict(d) -/
def rDictOf : List V → Hp → VK → Prop := fun xs H Q => ∃ a kvs, xs = [.ref a] ∧ H a = some (.dK kvs) ∧ ∀ p, H p = none → Q (.ref p) (upd H p (.dK kvs))
theorem cr_dictOf : CallR X (.type "dict") rDictOf := by
  intro pins s σ H xs us Q I r q
  obtain ⟨a, kvs, rfl, ha, q⟩ := q
  obtain ⟨u, rfl, ru⟩ := vals1 r
  obtain rfl : u = Value.ref a := ru
  exact d_copyOf I (.inl ha) fun p s' hp I' => ⟨.ref p, _, I', rfl, q p hp⟩
end
end Br
/-! enumerate of a tuple, zip of a tuple and a list, a walk over what is a list or a tuple. -/
namespace Br
open PySem L2
open PySem.Spec PyProof.Rows
/-! ### enumerate(v), v anything whose iterator begins in one way -/
set_option maxHeartbeats 1000000 in
theorem meets_en1 {v : Value} {ob : Obj} {G : Heap → Prop} (B : Begins v ob G) :
    Meets (Builtin.«enumerate.__new__» ⟨[.type "enumerate", v], []⟩) (fun _ R s => G s.heap ∧
      R (.ok (.ret (.ref (s.heap.push ob).objs.size))) { s with heap := (s.heap.push ob).push { cls := .type "enumerate", data := .fields #[.none, .bool false, .ref s.heap.objs.size, rawInt 0, .none, .none] } }) :=
  .of_wp fun prog w A R s hh => by
    obtain ⟨hp, g, d, tk, os⟩ := s
    obtain ⟨hG, hh⟩ := hh
    have sb := sub_enumerate
    have go : ∀ {A' : Around} {E : Value → Shared → Prop} {Q : Value → Shared → Prop}, Q (.ref hp.objs.size) ⟨hp.push ob, g, d, tk, os⟩ → wpAny (model prog w) A' (pyIter v) Q E ⟨hp, g, d, tk, os⟩ :=
      fun z => B.iter prog w _ _ ⟨hp, g, d, tk, os⟩ _ hG z
    wp_walk using go
    refine wpAny_stack_any fun _ => wpAny_pure ?_
    split
    · rename_i c _ _ _ _ _
      cases (c == Value.type "enumerate")
      · wp_walk using go
        exact ⟨_, rfl, hh⟩
      · wp_walk using go
        exact ⟨_, rfl, hh⟩
    · wp_walk using go
      exact ⟨_, rfl, hh⟩
theorem call_en1 {prog : Program} {w : World} {A : Around} {E : Value → Shared → Prop} {s : Shared} {v : Value} {ob : Obj} {G : Heap → Prop} {Q : Value → Shared → Prop} (B : Begins v ob G) (hG : G s.heap)
    (q : ∀ h', IsEnum h' (s.heap.objs.size + 1) s.heap.objs.size 0 .none → h'.get? s.heap.objs.size = some ob →
      (∀ b o, s.heap.get? b = some o → h'.get? b = some o) → Q (.ref (s.heap.objs.size + 1)) { s with heap := h' }) :
    wpAny (model prog w) A (call (.type "enumerate") [v]) Q E s := by
  refine callType_new F.called_enumerate (by decide) (F.typeCall_enumerate_1 _) (F.newCall_enumerate_1 _)
    (fun obj => F.args_object_init_2 obj _) F.entry_enumerate_new (meets_en1 B) ⟨hG, ?_⟩
  have sz : (s.heap.push ob).objs.size = s.heap.objs.size + 1 := Heap.size_push ..
  show _ ∧ _
  rw [sz]
  have en : IsEnum ((s.heap.push ob).push { cls := .type "enumerate", data := .fields #[.none, .bool false, .ref s.heap.objs.size, rawInt 0, .none, .none] })
      (s.heap.objs.size + 1) s.heap.objs.size 0 .none := by
    have z := Heap.get?_push_size (s.heap.push ob) (o := { cls := .type "enumerate", data := .fields #[.none, .bool false, .ref s.heap.objs.size, rawInt 0, .none, .none] }) rfl
    rw [sz] at z
    exact z
  exact ⟨⟨_, en, rfl⟩, q _ en (Heap.get?_push_of_some _ (Heap.get?_push_size _ B.free)) fun b o z => Heap.get?_push_of_some _ (Heap.get?_push_of_some _ z)⟩
/-- the tuple at a, number and item in new pairs -/
def ItE (K : PySem.W.Frag) (a : Addr) : It where
  go i H := ∃ (xs : List V) (x : V), SqT K H a xs ∧ xs[i]? = some x
  yld i H v H' := ∃ T x, v = .ref T ∧ H T = none ∧ H' = upd H T (.tup [.int (i : Nat), x]) ∧ ∀ xs, SqT K H a xs → xs[i]? = some x
  stop i H := ∃ xs : List V, SqT K H a xs ∧ xs.length = i
theorem it_ne {h : Heap} {it a : Addr} {i : Nat} {its : Array Value} (x : h.IsTupleIter it a i) (y : h.IsTuple a its) : a ≠ it := fun e => by
  obtain ⟨o, ho, hc, _⟩ := x
  obtain ⟨u, hu, hcu, _⟩ := y
  rw [e, ho] at hu
  cases hu
  rw [hc] at hcu
  injection hcu with z
  exact absurd z (by decide)
theorem lit_ne {h : Heap} {it a : Addr} {i : Nat} {its : Array Value} (x : h.IsListIter it a i) (y : h.IsList a its) : a ≠ it := fun e => by
  obtain ⟨o, ho, hc, _⟩ := x
  obtain ⟨u, hu, hcu, _⟩ := y
  rw [e, ho] at hu
  cases hu
  rw [hc] at hcu
  injection hcu with z
  exact absurd z (by decide)
theorem turn_E {P : Program} {w : World} {K : PySem.W.Frag} {elts : List Expr} {kk : Nat} {tpos : Pos} (a e it : Addr) :
    Turn P w K (.Tuple elts kk tpos) (ItE K a) [e, it] e (fun i h => (∃ old, IsEnum h e it ((i : Nat) : Int) old) ∧ h.IsTupleIter it a i ∧ e ≠ it) where
  mem := by simp
  obj i h st b hb := by
    obtain ⟨⟨old, he⟩, ⟨o, ho, _, hd⟩, _⟩ := st
    rcases (show b = e ∨ b = it by simpa using hb) with z | z
    · subst z
      exact ⟨_, he, fun v q => nomatch q⟩
    · subst z
      exact ⟨o, ho, fun v q => by rw [hd] at q; cases q⟩
  keep i h h' st k := by
    obtain ⟨⟨old, he⟩, hi, ne⟩ := st
    exact ⟨⟨old, k e (by simp) _ he⟩, hi.at fun o q => k it (by simp) o q, ne⟩
  item := by
    intro X hP hw hK hc i pins s σ H E I hf st hg
    subst hP hw hK
    obtain ⟨⟨old, he⟩, hit, ne⟩ := st
    obtain ⟨xs, x, hq, hx⟩ := hg
    obtain ⟨its, rv, p, _⟩ := I.tuple hq
    have hT : s.heap.IsTuple a its.toArray := p
    have nai := it_ne hit hT
    obtain ⟨u, hu, ru⟩ := rv.get hx
    have le : e < s.heap.objs.size := Heap.lt_size he
    have li : it < s.heap.objs.size := by
      obtain ⟨_, q, _⟩ := hit
      exact Heap.lt_size q
    have nea : e ≠ a := fun q => by
      obtain ⟨o, ho, hcl, _⟩ := id hT
      rw [← q, he] at ho
      cases ho
      injection hcl with z
      exact absurd z (by decide)
    have hi : i < its.toArray.size := by
      have := (List.getElem?_eq_some_iff.mp hu).1
      simpa using this
    refine wpAny_pyNext_enum_itemC (Draws.tuple (A := X.A.in1) (show X.A.in1.handled = none from I.ok.hd hc) it a nai its.toArray) he ⟨hit, hT⟩ hi ne (by simp [ne, nea]) fun y h' tk hy ho st' hTu _ hk => ?_
    have ey : y = u := by
      have q : its[i]? = some y := by simpa using hy
      rw [hu] at q
      exact (Option.some.inj q).symm
    subst ey
    refine ⟨_, rfl, wpAny_letOwnedTupleGo_enum (s := { s with heap := h', toks := tk + 1 }) ho fun h2 he2 sb => ?_⟩
    have hT2 := (sb.2 _ (Nat.ne_of_gt le)).trans hTu
    have new : ObjOk X.prog X.w (upd H s.heap.objs.size (.tup [.int (i : Nat), x])) h2 s.heap.objs.size (.tup [.int (i : Nat), x]) :=
      ⟨by show 2 ≤ sizeLine; decide, [.int i tk, y], .cons ⟨_, rfl⟩ (.cons ru .nil), ⟨_, hT2, rfl, _, rfl⟩⟩
    have J : Inv X pins σ (upd H s.heap.objs.size (.tup [.int (i : Nat), x])) { s with heap := h2, toks := tk + 1 } :=
      I.turnedNew (ch := [e, it]) (fun b o hb q => (sb.2 b (fun z => hb (by simp [z]))).trans (hk b o (fun z => hb (by simp [z])) (fun z => hb (by simp [z])) q)) hf (Nat.le_refl _) new
    refine ⟨.ref s.heap.objs.size, _, J, rfl, ⟨_, x, rfl, I.hok.fresh (Nat.le_refl _), rfl, fun ys hy => by rw [I.tuple_inj hy hq]; exact hx⟩,
      ⟨⟨y, ?_⟩, st'.1.at fun o q => (sb.2 it (Ne.symm ne)).trans q, ne⟩, fun b hb => ?_⟩
    · rw [show ((i + 1 : Nat) : Int) = (i : Int) + 1 by omega]
      exact he2
    · have lb : b < s.heap.objs.size := by
        rcases (show b = e ∨ b = it by simpa using hb) with z | z
        · rw [z]; exact le
        · rw [z]; exact li
      rw [upd_ne (Nat.ne_of_lt lb)]
      exact (hf b hb).1
  done := by
    intro X hP hw hK hc i pins s σ H E I hf st hg
    subst hP hw hK
    obtain ⟨⟨old, he⟩, hit, ne⟩ := st
    obtain ⟨xs, hq, hx⟩ := hg
    obtain ⟨its, rv, p, _⟩ := I.tuple hq
    have hT : s.heap.IsTuple a its.toArray := p
    have lv := rv.length
    obtain ⟨f0, f1, f2, f3, f4, f5⟩ := hf it (by simp)
    have D := Draws.tuple (prog := X.prog) (w := X.w) (A := X.A.in1) (show X.A.in1.handled = none from I.ok.hd hc) it a (it_ne hit hT) its.toArray
    have ei : i = its.toArray.size := by rw [← hx, lv, List.size_toArray]
    rw [ei] at hit
    exact wpAny_pyNext_enum_endD D he ⟨hit, hT⟩ fun h' eb => ⟨rfl, I.turned (t' := s.toks) (fun b o hb q => eb b o hb q) f0 f1 f3 f4 f5⟩
  self A i s Q E st q := by
    obtain ⟨⟨_, he⟩, _⟩ := st
    exact wpAny_pyIter_enum he q
def iEnumT (K : PySem.W.Frag) (ta : TA) : TI := fun σ H R => ta σ H fun vs H1 => ∃ a xs, vs = [.ref a] ∧ SqT K H1 a xs ∧ R (ItE K a) H1
theorem k_enumT {X : Cx} (K : PySem.W.Frag) (h : X.K = K) {e : Expr} {ta : TA} {p pos tpos : Pos} {elts : List Expr} {kk : Nat} (hg : Gl X "enumerate") (hm : X.mg "enumerate" = none) (ha : PA X [e] ta)
    (hs : starEach [e] X.env = [(false, eval e X.env)] := by rfl) :
    PI X (.Tuple elts kk tpos) (.Call (.Name "enumerate" p) [e] [] pos) (iEnumT K ta) := by
  subst h
  refine ⟨fun pins s σ H R I q => ?_⟩
  refine Call_ (ld_blt I hg hm boot_enumerate (PyProof.Rows.callWith_type1 (thn (ha.run pos pins s σ H _ I q) fun us s1 ⟨vs, H1, I1, r1, q1⟩ => ?_) hs rfl))
  obtain ⟨a, xs, rfl, hq, q⟩ := q1
  obtain ⟨u, rfl, ru⟩ := vals1 r1
  obtain rfl : u = Value.ref a := ru
  obtain ⟨its, rv, p', _⟩ := I1.tuple hq
  refine call_en1 (begins_tuple a its.toArray) (show s1.heap.IsTuple a its.toArray from p') fun h' he hit hk => wpAny_pyIter_enum he ?_
  refine ⟨s1.heap.objs.size + 1, [s1.heap.objs.size + 1, s1.heap.objs.size], _, _, H1, rfl, I1.kept (t' := s1.toks) hk, turn_E a _ _, ⟨⟨.none, he⟩, ⟨_, hit, rfl, rfl⟩, Nat.succ_ne_self _⟩, fun b hb => ?_, q⟩
  have lb : s1.heap.objs.size ≤ b := by
    rcases (show b = s1.heap.objs.size + 1 ∨ b = s1.heap.objs.size by simpa using hb) with z | z
    · rw [z]; exact Nat.le_succ _
    · exact Nat.le_of_eq z.symm
  exact I1.fpOk lb (I1.hok.fresh lb)
/-- a loop over a tuple's numbered items -/
theorem for_enumT {K : PySem.W.Frag} {a : Addr} {xs : List V} {g : TG} {tb : TS} {D : Ends} {σ : L2.St} {H : Hp} (Pv : Nat → L2.St → Hp → Prop) (h0 : Pv 0 σ H) (hl : ∀ i σ H, i ≤ xs.length → Pv i σ H → SqT K H a xs)
    (hs : ∀ i x T σ H, xs[i]? = some x → Pv i σ H → H T = none → g (.ref T) σ (upd H T (.tup [.int (i : Nat), x])) fun σ2 H2 => tb { D with nx := Pv (i + 1), ct := Pv (i + 1), bk := D.nx } σ2 H2) (hd : ∀ σ H, Pv xs.length σ H → D.nx σ H) :
    ∃ W : Nat → Nat → L2.St → Hp → Prop, (∃ m, W 0 m σ H) ∧ ∀ i m σ H, W i m σ H →
      ((ItE K a).stop i H ∧ D.nx σ H) ∨ ((ItE K a).go i H ∧ ∃ N : L2.St → Hp → Prop, (∀ σ' H', N σ' H' → ∃ m', m' < m ∧ W (i + 1) m' σ' H') ∧ ∀ x H', (ItE K a).yld i H x H' → g x σ H' fun σ2 H2 => tb { D with nx := N, ct := N, bk := D.nx } σ2 H2) := by
  refine ⟨fun i m σ H => m = xs.length - i ∧ i ≤ xs.length ∧ Pv i σ H, ⟨xs.length, by simp, Nat.zero_le _, h0⟩, ?_⟩
  rintro i m σ H ⟨rfl, hi, p⟩
  have q := hl i σ H hi p
  by_cases lt : i < xs.length
  · refine .inr ⟨⟨xs, xs[i], q, by simp [lt]⟩, Pv (i + 1), fun σ' H' p' => ⟨xs.length - (i + 1), by omega, rfl, lt, p'⟩, fun x H' y => ?_⟩
    obtain ⟨T, z, rfl, nT, rfl, y⟩ := y
    exact hs i z T σ H (y xs q) p nT
  · obtain rfl : i = xs.length := by omega
    exact .inl ⟨⟨xs, q, rfl⟩, hd σ H p⟩
/-! ### zip of a tuple and a list, of one length -/
def ItTL (K : PySem.W.Frag) (a b : Addr) : It where
  go i H := ∃ (xs ys : List V) (x y : V), SqT K H a xs ∧ SqL K H b ys ∧ xs[i]? = some x ∧ ys[i]? = some y
  yld i H v H' := ∃ T x y, v = .ref T ∧ H T = none ∧ H' = upd H T (.tup [x, y]) ∧ (∀ xs, SqT K H a xs → xs[i]? = some x) ∧ ∀ ys, SqL K H b ys → ys[i]? = some y
  stop i H := ∃ xs ys : List V, SqT K H a xs ∧ SqL K H b ys ∧ xs.length = i ∧ ys.length = i
theorem turn_TL {P : Program} {w : World} {K : PySem.W.Frag} {elts : List Expr} {kk : Nat} {tpos : Pos} {a b z TI TO i1 i2 : Addr} (S : ZipSep2 z TI TO i1 i2 [i1, a] [i2, b]) :
    Turn P w K (.Tuple elts kk tpos) (ItTL K a b) [z, TI, TO, i1, i2] z
      (fun i h => IsZip h z TI TO .none ∧ IsTupOf2 h TI (.ref i1) (.ref i2) ∧ (∃ x y, IsTupOf2 h TO x y) ∧ h.IsTupleIter i1 a i ∧ h.IsListIter i2 b i) where
  mem := by simp
  obj i h st c hc := by
    obtain ⟨hz, hI, ⟨x, y, hO⟩, ⟨o1, e1, _, d1⟩, ⟨o2, e2, _, d2⟩⟩ := st
    rcases (show c = z ∨ c = TI ∨ c = TO ∨ c = i1 ∨ c = i2 by simpa using hc) with q | q | q | q | q
    · subst q
      exact ⟨_, hz, fun v q => nomatch q⟩
    · subst q
      exact ⟨_, hI, fun v q => nomatch q⟩
    · subst q
      exact ⟨_, hO, fun v q => nomatch q⟩
    · subst q
      exact ⟨o1, e1, fun v q => by rw [d1] at q; cases q⟩
    · subst q
      exact ⟨o2, e2, fun v q => by rw [d2] at q; cases q⟩
  keep i h h' st k := by
    obtain ⟨hz, hI, ⟨x, y, hO⟩, h1, h2⟩ := st
    exact ⟨k z (by simp) _ hz, k TI (by simp) _ hI, ⟨x, y, k TO (by simp) _ hO⟩, h1.at fun o q => k i1 (by simp) o q, h2.at fun o q => k i2 (by simp) o q⟩
  item := by
    intro X hP hw hK hc i pins s σ H E I hf st hg
    subst hP hw hK
    obtain ⟨hz, hI, ⟨x0, y0, hO⟩, h1, h2⟩ := st
    obtain ⟨xs, ys, x, y, hqx, hqy, hx, hy⟩ := hg
    obtain ⟨its, rv, p, _⟩ := I.tuple hqx
    obtain ⟨its2, rv2, p2, _⟩ := I.list hqy
    have hT : s.heap.IsTuple a its.toArray := p
    have hL := p2.isList
    obtain ⟨u, hu, ru⟩ := rv.get hx
    obtain ⟨u2, hu2, ru2⟩ := rv2.get hy
    have zl : z < s.heap.objs.size := Heap.lt_size hz
    have b1 : i < its.toArray.size := by simpa using (List.getElem?_eq_some_iff.mp hu).1
    have b2 : i < its2.toArray.size := by simpa using (List.getElem?_eq_some_iff.mp hu2).1
    refine wpAny_pyNext_zipD2_item S (Draws.tuple (A := X.A.in1) (show X.A.in1.handled = none from I.ok.hd hc) i1 a (it_ne h1 hT) its.toArray)
      (Draws.list (A := X.A.in1) (show X.A.in1.handled = none from I.ok.hd hc) i2 b (lit_ne h2 hL) its2.toArray) hz hI hO ⟨h1, hT⟩ ⟨h2, hL⟩ b1 b2 fun v1 v2 h' tk e1 e2 z' O' s1' s2' hTu _ hk => ?_
    obtain rfl : v1 = u := by
      have q : its[i]? = some v1 := by simpa using e1
      rw [hu] at q
      exact (Option.some.inj q).symm
    obtain rfl : v2 = u2 := by
      have q : its2[i]? = some v2 := by simpa using e2
      rw [hu2] at q
      exact (Option.some.inj q).symm
    refine ⟨_, rfl, wpAny_letOwnedTupleGo_zip (s := { s with heap := h', toks := tk }) z' fun h2' z2' sb => ?_⟩
    have hT2 := (sb.2 _ (Nat.ne_of_gt zl)).trans hTu
    have new : ObjOk X.prog X.w (upd H s.heap.objs.size (.tup [x, y])) h2' s.heap.objs.size (.tup [x, y]) :=
      ⟨by show 2 ≤ sizeLine; decide, [v1, v2], .cons ru (.cons ru2 .nil), ⟨_, hT2, rfl, _, rfl⟩⟩
    have J : Inv X pins σ (upd H s.heap.objs.size (.tup [x, y])) { s with heap := h2', toks := tk } :=
      I.turnedNew (t' := tk) (ch := [z, TI, TO, i1, i2]) (fun c o hb q => (sb.2 c (fun e => hb (by simp [e]))).trans
        (hk c o (fun e => hb (by simp [e])) (fun e => hb (by simp [e])) (fun e => hb (by simp [e])) (fun e => hb (by simp [e])) q)) hf (Nat.le_refl _) new
    have iz : i1 ≠ z := fun e => S.zf1 (by rw [← e]; exact S.mem1)
    have iz2 : i2 ≠ z := fun e => S.zf2 (by rw [← e]; exact S.mem2)
    refine ⟨.ref s.heap.objs.size, _, J, rfl, ⟨_, x, y, rfl, I.hok.fresh (Nat.le_refl _), rfl, fun l hl => by rw [I.tuple_inj hl hqx]; exact hx, fun l hl => by rw [I.list_inj hl hqy]; exact hy⟩,
      ⟨z2', ?_, ⟨v1, v2, ?_⟩, ?_, ?_⟩, fun c hcm => ?_⟩
    · exact (sb.2 _ S.TIz).trans (hk _ _ S.TIz S.TITO S.TIi1 S.TIi2 hI)
    · exact (sb.2 _ S.TOz).trans O'
    · exact s1'.1.at fun o q => (sb.2 _ iz).trans q
    · exact s2'.1.at fun o q => (sb.2 _ iz2).trans q
    · have lt : c < s.heap.objs.size := by
        rcases (show c = z ∨ c = TI ∨ c = TO ∨ c = i1 ∨ c = i2 by simpa using hcm) with q | q | q | q | q
        · rw [q]; exact zl
        · rw [q]; exact Heap.lt_size hI
        · rw [q]; exact Heap.lt_size hO
        · rw [q]
          obtain ⟨_, e1, _⟩ := h1
          exact Heap.lt_size e1
        · rw [q]
          obtain ⟨_, e2, _⟩ := h2
          exact Heap.lt_size e2
      rw [upd_ne (Nat.ne_of_lt lt)]
      exact (hf c hcm).1
  done := by
    intro X hP hw hK hc i pins s σ H E I hf st hg
    subst hP hw hK
    obtain ⟨hz, hI, ⟨x0, y0, hO⟩, h1, h2⟩ := st
    obtain ⟨xs, ys, hqx, hqy, l1, l2⟩ := hg
    obtain ⟨its, rv, p, _⟩ := I.tuple hqx
    obtain ⟨its2, rv2, p2, _⟩ := I.list hqy
    have hT : s.heap.IsTuple a its.toArray := p
    have hL := p2.isList
    have e1 := rv.length
    have e2 := rv2.length
    have b1 : i = its.toArray.size := by simp only [List.size_toArray]; omega
    have b2 : i = its2.toArray.size := by simp only [List.size_toArray]; omega
    exact wpAny_pyNext_zipD2_end S (Draws.tuple (A := X.A.in1) (show X.A.in1.handled = none from I.ok.hd hc) i1 a (it_ne h1 hT) its.toArray)
      (Draws.list (A := X.A.in1) (show X.A.in1.handled = none from I.ok.hd hc) i2 b (lit_ne h2 hL) its2.toArray) hz hI hO ⟨h1, hT⟩ ⟨h2, hL⟩ (Nat.le_of_eq b1) (Nat.le_of_eq b2) (.inl b1)
      fun h' tk hk => ⟨rfl, I.turnedL (t' := tk) (ch := [z, TI, TO, i1, i2]) (fun c o hb q =>
        hk c o (fun e => hb (by simp [e])) (fun e => hb (by simp [e])) (fun e => hb (by simp [e])) (fun e => hb (by simp [e])) q) hf⟩
  self A i s Q E st h := wpAny_pyIter_zip st.1 h
def iZipTL (K : PySem.W.Frag) (ta : TA) : TI := fun σ H R => ta σ H fun vs H1 => ∃ a b xs ys, vs = [.ref a, .ref b] ∧ SqT K H1 a xs ∧ SqL K H1 b ys ∧ R (ItTL K a b) H1
theorem k_zipTL {X : Cx} (K : PySem.W.Frag) (h : X.K = K) {e e2 : Expr} {ta : TA} {p pos tpos : Pos} {elts : List Expr} {kk : Nat} (hg : Gl X "zip") (hm : X.mg "zip" = none) (ha : PA X [e, e2] ta)
    (hs : starEach [e, e2] X.env = (false, eval e X.env) :: starEach [e2] X.env := by rfl) (hpl : (backTo pos (starEach [e2] X.env)).any (·.1) = false := by rfl) :
    PI X (.Tuple elts kk tpos) (.Call (.Name "zip" p) [e, e2] [] pos) (iZipTL K ta) := by
  subst h
  refine ⟨fun pins s σ H R I q => ?_⟩
  refine Call_ (ld_blt I hg hm PyProof.Rows.boot_zip (PyProof.Rows.callWith_type1 (thn (ha.run pos pins s σ H _ I q) fun us s1 ⟨vs, H1, I1, r1, q1⟩ => ?_) hs hpl))
  obtain ⟨a, b, xs, ys, rfl, hqx, hqy, q⟩ := q1
  obtain ⟨u, u2, rfl, ru, ru2⟩ := vals2 r1
  obtain rfl : u = Value.ref a := ru
  obtain rfl : u2 = Value.ref b := ru2
  obtain ⟨its, rv, p1, _⟩ := I1.tuple hqx
  obtain ⟨its2, rv2, p2, _⟩ := I1.list hqy
  have la : a < s1.heap.objs.size := p1.lt
  have lb : b < s1.heap.objs.size := p2.lt
  refine zip_begins2 (begins_tuple a its.toArray) (begins_list b its2.toArray) (show s1.heap.IsTuple a its.toArray from p1) p2.isList fun h' hz hI hO h1 h2 _ hk => wpAny_pyIter_zip hz ?_
  have S := zip_sep2 (N := s1.heap.objs.size) (fp1 := [a]) (fp2 := [b]) (fun c hc => by rw [List.mem_singleton.mp hc]; exact la) (fun c hc => by rw [List.mem_singleton.mp hc]; exact lb)
  refine ⟨s1.heap.objs.size + 4, [s1.heap.objs.size + 4, s1.heap.objs.size + 2, s1.heap.objs.size + 3, s1.heap.objs.size, s1.heap.objs.size + 1], _, _, H1, rfl, I1.kept (t' := s1.toks) hk, turn_TL S,
    ⟨hz, hI, ⟨_, _, hO⟩, ⟨_, h1, rfl, rfl⟩, ⟨_, h2, rfl, rfl⟩⟩, fun c hcm => ?_, q⟩
  have le : s1.heap.objs.size ≤ c := by
    rcases (show c = s1.heap.objs.size + 4 ∨ c = s1.heap.objs.size + 2 ∨ c = s1.heap.objs.size + 3 ∨ c = s1.heap.objs.size ∨ c = s1.heap.objs.size + 1 by simpa using hcm) with z | z | z | z | z
    · rw [z]; exact Nat.le_add_right _ _
    · rw [z]; exact Nat.le_add_right _ _
    · rw [z]; exact Nat.le_add_right _ _
    · exact Nat.le_of_eq z.symm
    · rw [z]; exact Nat.le_add_right _ _
  exact I1.fpOk le (I1.hok.fresh le)
theorem for_TL {K : PySem.W.Frag} {a b : Addr} {xs ys : List V} {g : TG} {tb : TS} {D : Ends} {σ : L2.St} {H : Hp} (hl : xs.length = ys.length) (Pv : Nat → L2.St → Hp → Prop) (h0 : Pv 0 σ H)
    (hq : ∀ i σ H, i ≤ xs.length → Pv i σ H → SqT K H a xs ∧ SqL K H b ys)
    (hs : ∀ i x y T σ H, xs[i]? = some x → ys[i]? = some y → Pv i σ H → H T = none → g (.ref T) σ (upd H T (.tup [x, y])) fun σ2 H2 => tb { D with nx := Pv (i + 1), ct := Pv (i + 1), bk := D.nx } σ2 H2) (hd : ∀ σ H, Pv xs.length σ H → D.nx σ H) :
    ∃ W : Nat → Nat → L2.St → Hp → Prop, (∃ m, W 0 m σ H) ∧ ∀ i m σ H, W i m σ H →
      ((ItTL K a b).stop i H ∧ D.nx σ H) ∨ ((ItTL K a b).go i H ∧ ∃ N : L2.St → Hp → Prop, (∀ σ' H', N σ' H' → ∃ m', m' < m ∧ W (i + 1) m' σ' H') ∧ ∀ x H', (ItTL K a b).yld i H x H' → g x σ H' fun σ2 H2 => tb { D with nx := N, ct := N, bk := D.nx } σ2 H2) := by
  refine ⟨fun i m σ H => m = xs.length - i ∧ i ≤ xs.length ∧ Pv i σ H, ⟨xs.length, by simp, Nat.zero_le _, h0⟩, ?_⟩
  rintro i m σ H ⟨rfl, hi, p⟩
  obtain ⟨q1, q2⟩ := hq i σ H hi p
  by_cases lt : i < xs.length
  · have lt2 : i < ys.length := by omega
    refine .inr ⟨⟨xs, ys, xs[i], ys[i], q1, q2, by simp [lt], by simp [lt2]⟩, Pv (i + 1), fun σ' H' p' => ⟨xs.length - (i + 1), by omega, rfl, lt, p'⟩, fun x H' y => ?_⟩
    obtain ⟨T, z, z2, rfl, nT, rfl, y1, y2⟩ := y
    exact hs i z z2 T σ H (y1 xs q1) (y2 ys q2) p nT
  · obtain rfl : i = xs.length := by omega
    exact .inl ⟨⟨xs, ys, q1, q2, rfl, hl.symm⟩, hd σ H p⟩
/-! ### a walk over what is a list or a tuple -/
def iSeq (K : PySem.W.Frag) (tl : TE) : TI := fun σ H R => tl σ H fun x H1 => ∃ a, x = .ref a ∧ (((∃ xs, SqL K H1 a xs) ∧ R (Itl K a) H1) ∨ ((∃ xs, SqT K H1 a xs) ∧ R (Itt K a) H1))
theorem k_pis {X : Cx} (K : PySem.W.Frag) (h : X.K = K) {tg l : Expr} {tl : TE} (hl : PE X l tl) : PI X tg l (iSeq K tl) := by
  subst h
  refine ⟨fun pins s σ H R I q => ?_⟩
  refine thn (hl.run pins s σ H _ I q) fun v s1 ⟨x, H1, I1, r1, q1⟩ => ?_
  obtain ⟨a, rfl, q1⟩ := q1
  obtain rfl : v = Value.ref a := r1
  have fp : ∀ b ∈ [s1.heap.objs.size], FpOk X pins H1 b := fun b hb => by
    rw [List.mem_singleton.mp hb]
    exact I1.fpOk (Nat.le_refl _) (I1.hok.fresh (Nat.le_refl _))
  rcases q1 with ⟨⟨xs, hq⟩, q⟩ | ⟨⟨xs, hq⟩, q⟩
  · obtain ⟨its, rv, p, _⟩ := I1.list hq
    refine wpAny_pyIter_list p.isList ?_
    exact ⟨_, _, _, _, H1, rfl, I1.kept (t' := s1.toks) fun b o e => Heap.get?_push_of_some _ e, turn_list a _, ⟨_, Heap.get?_push_size _ rfl, rfl, rfl⟩, fp, q⟩
  · obtain ⟨its, rv, p, _⟩ := I1.tuple hq
    refine wpAny_pyIter_tuple (show s1.heap.IsTuple a its.toArray from p) ?_
    exact ⟨_, _, _, _, H1, rfl, I1.kept (t' := s1.toks) fun b o e => Heap.get?_push_of_some _ e, turn_tuple a _, ⟨_, Heap.get?_push_size _ rfl, rfl, rfl⟩, fp, q⟩
end Br
/-! Further rules: // of any divisor but 0, < of ints or truths, a built-in class as a value, list(d.values()), dict(zip(names, values)). -/
namespace Br
open PySem L2
open PySem.Spec PyProof.Rows
section
variable {X : Cx} {pos : Pos}
def CDivZ (_ j : Int) : Prop := j ≠ 0 ∧ j.natAbs < 2 ^ 100
theorem op_fdivZ : OpR X (binaryOp .FloorDiv) (rI CDivZ fun i j => .int (i.fdiv j)) := opI fun i j _ _ _ _ _ hc q =>
  floordiv_int hc.1 q (.inl (PyProof.noPylong_of_log2 (Nat.lt_of_lt_of_le (PySem.Flt.log2_lt_of (by decide) hc.2) (by decide))))
/-- i < j of two ints, of two truths -/
def rLtA : R2 := fun x y H Q => (∃ i j, x = .int i ∧ y = .int j ∧ Q (.bl (decide (i < j))) H) ∨ ∃ a b, x = .bl a ∧ y = .bl b ∧ ∀ c, Q (.bl c) H
theorem op_ltA : OpR X (compareOp .Lt) rLtA := by
  intro pins s σ H x y v u Q I rx ry h
  rcases h with ⟨i, j, rfl, rfl, q⟩ | ⟨a, b, rfl, rfl, q⟩
  · exact op_lt pins s σ H _ _ v u Q I rx ry ⟨i, j, rfl, rfl, q⟩
  · obtain rfl : v = Value.bool a := rx
    obtain rfl : u = Value.bool b := ry
    exact PyProof.Rows.lt_bool ⟨.bl _, H, I, rfl, q _⟩
/-- a built-in class as a value -/
theorem pe_ty {x : Str} {n : String} (hg : Gl X x) (hm : X.mg x = none) (hv : bootBuiltins x = some (.type n)) (hn : x ≠ "__name__" := by decide) (hd : (x == ("__debug__" : Str)) = false := by decide) :
    PE X (.Name x pos) (tC (.ty n)) := pe_bltn hg hm hv rfl hn hd
/-- list(d.values()) -/
def tListVals (te : TE) : TE := fun σ H Q => te σ H fun x H1 => ∃ (d : Addr) (kvs : List (Key × V)), x = .ref d ∧ H1 d = some (.dK kvs) ∧ ∀ p, H1 p = none → Q (.ref p) (upd H1 p (.lst (kvs.map (·.2))))
theorem vals_snd : ∀ {kvs : List (Key × V)} {vs : List (Key × Value)}, KV kvs vs → Vals (kvs.map (·.2)) (vs.map (·.2))
  | _, _, .nil => .nil
  | _, _, .cons r t => .cons r.2 (vals_snd t)
theorem pe_listVals {e : Expr} {te : TE} {p apos cpos : Pos} (he : PE X e te) (hg : Gl X "list") (hm : X.mg "list" = none) (hc : X.calm = true)
    (hbase : attributeBase e "values" X.env (eval e X.env) = eval e X.env := by rfl) (hline : (apos.endLine == cpos.line) = true := by rfl)
    (hs : starEach [.Call (.Attribute e "values" apos) [] [] cpos] X.env = (false, eval (.Call (.Attribute e "values" apos) [] [] cpos) X.env) :: starEach [] X.env := by rfl) :
    PE X (.Call (.Name "list" p) [.Call (.Attribute e "values" apos) [] [] cpos] [] pos) (tListVals te) := by
  refine ⟨fun pins s σ H Q I hq => ?_⟩
  refine wpAny_Call_Name_kw (ld_blt I hg hm (u := .type "list") (by decide +kernel) ?_)
  refine PyProof.Rows.callWith_type1 ?_ hs rfl
  rw [hs]
  show wpAny _ _ (spliced ((false, eval (.Call (.Attribute e "values" apos) [] [] cpos) X.env) :: backTo pos (starEach [] X.env))) _ _ s
  refine Calls.spliced_cons ?_
  refine wpAny_Call_method (T := "dict") (id := "dict.values") hbase rfl hline F.plainAttrs_dict F.slot_dict_values F.type_dict_values (thn (he.run pins s σ H _ I hq) fun u s1 hh => ?_)
  obtain ⟨x, H1, I1, rx, d, kvs, rfl, hd, q⟩ := hh
  obtain rfl : u = Value.ref d := rx
  obtain ⟨hz, sm, vs, kv, hdo⟩ := I1.hok d _ hd
  obtain ⟨ep, hat⟩ := hdo.dictAt
  have lk : kvs.length = vs.length := Paired.length kv
  have I2 : Inv X pins σ H1 { s1 with heap := s1.heap.push { cls := .type "dict_values", data := .fields #[.ref d] } } := I1.kept (t' := s1.toks) fun b ob z => Heap.get?_push_of_some _ z
  refine ⟨hdo.typeIs, hdo.mapOf.noDict, ?_⟩
  show wpAny _ _ (callWith cpos (.builtin "dict.values") [.ref d] [] []) _ X.xe s1
  refine method_meetsIn F.slot_dict_values F.entry_dict_values rfl (PySem.evalArgs_none ⟨rfl, hdo.typeIs, F.args_dict_values_1 _, _, meets_dict_values (mixKind X.prog X.w) d sm, ⟨vs, hdo⟩, ?_⟩)
  refine Calls.spliced_nil ?_
  refine PySem.W.kdl_call (PySem.W.kdl_values (knd := mixKind X.prog X.w) (d := d) (kvs := vs) (ep := ep)) (I1.ok.hd hc) ⟨⟨_, Heap.get?_push_size _ rfl, rfl, rfl⟩, hat.push _⟩ (by omega) fun h' tk acc c hk hS hacc => ?_
  have ev : acc.toList = vs.map (·.2) := PySem.W.kdl_vals_eq _ (by rw [Array.length_toList]; exact hacc.1) fun j v z => hacc.2 j v (by rw [← Array.getElem?_toList]; exact z)
  have rv : Vals (kvs.map (·.2)) acc.toList := by rw [ev]; exact vals_snd kv
  have hp : H1 (s1.heap.push { cls := .type "dict_values", data := .fields #[.ref d] }).objs.size = none := I2.hok.fresh (Nat.le_refl _)
  refine ⟨.ref _, _, I2.laid (t' := tk) (o := .lst (kvs.map (·.2))) hk (Nat.le_refl _) ⟨by rw [List.length_map]; omega, acc.toList, c, rv, ?_⟩, rfl, q _ hp⟩
  rw [Array.toArray_toList]
  exact hS
/-- dict(zip(ks, ys)), ks a list of texts -/
def tDictZip (K : PySem.W.Frag) (ta : TA) : TE := fun σ H Q => ta σ H fun vs H1 => ∃ (a b : Addr) (ks : List Str) (ys : List V), vs = [.ref a, .ref b] ∧ SqL K H1 a (ks.map V.str) ∧ SqL K H1 b ys ∧ ks.length = ys.length ∧
  ∀ p, H1 p = none → Q (.ref p) (upd H1 p (.dK (mergeK [] (ks.zipWith (fun k y => ((Sum.inr k : Key), y)) ys))))
theorem kv_zip : ∀ {ks : List Str} {ys : List V} {us ws : List Value}, Vals (ks.map V.str) us → Vals ys ws →
    KV (ks.zipWith (fun k y => ((Sum.inr k : Key), y)) ys) (ks.zipWith (fun k u => ((Sum.inr k : Key), u)) ws)
  | [], _, _, _, _, _ => .nil
  | _ :: _, _, _, _, _, .nil => .nil
  | _ :: _, _, _, _, .cons _ t, .cons r' t' => .cons ⟨rfl, r'⟩ (kv_zip t t')
theorem zip_at : ∀ {ks : List Str} {us ws : List Value} {i : Nat} {k v : Value}, Vals (ks.map V.str) us → us[i]? = some k → ws[i]? = some v →
    ∃ z : Str, (ks.zipWith (fun k u => ((Sum.inr k : Key), u)) ws)[i]? = some (Sum.inr z, v) ∧ ∃ t, k = Value.str z t
  | [], _, _, i, _, _, .nil, h, _ => by simp at h
  | z :: _, _, w :: ws, 0, k, v, .cons r _, h, h' => by
    obtain ⟨t, e⟩ := r
    simp at h h'
    exact ⟨z, by simp [h'], t, by rw [← h]; exact e⟩
  | z :: ks, _ :: us, w :: ws, i + 1, k, v, .cons _ t, h, h' => by
    obtain ⟨y, e1, e2⟩ := zip_at (i := i) (ks := ks) (us := us) (ws := ws) t (by simpa using h) (by simpa using h')
    exact ⟨y, by simpa using e1, e2⟩
  | _ :: _, _, [], _, _, _, _, _, h => by simp at h
theorem pe_dictZip (K : PySem.W.Frag) (h : X.K = K) {e e2 : Expr} {ta : TA} {p p2 zpos : Pos} (hc : X.calm = true) (hgz : Gl X "zip") (hmz : X.mg "zip" = none) (hgd : Gl X "dict") (hmd : X.mg "dict" = none) (ha : PA X [e, e2] ta)
    (hs : starEach [e, e2] X.env = (false, eval e X.env) :: starEach [e2] X.env := by rfl) (hpl : (backTo zpos (starEach [e2] X.env)).any (·.1) = false := by rfl)
    (hs2 : starEach [.Call (.Name "zip" p2) [e, e2] [] zpos] X.env = (false, eval (.Call (.Name "zip" p2) [e, e2] [] zpos) X.env) :: starEach [] X.env := by rfl) :
    PE X (.Call (.Name "dict" p) [.Call (.Name "zip" p2) [e, e2] [] zpos] [] pos) (tDictZip K ta) := by
  subst h
  refine ⟨fun pins s σ H Q I hq => ?_⟩
  refine Call_ (ld_blt I hgd hmd (u := .type "dict") (by decide +kernel) ?_)
  refine PyProof.Rows.callWith_type1 ?_ hs2 rfl
  refine args_cons ?_ hs2
  refine Call_ (ld_blt I hgz hmz PyProof.Rows.boot_zip (PyProof.Rows.callWith_type1 (thn (ha.run zpos pins s σ H _ I hq) fun us s1 hh => ?_) hs hpl))
  obtain ⟨vs, H1, I1, r1, a, b, ks, ys, rfl, hqx, hqy, hl, q⟩ := hh
  obtain ⟨u, u2, rfl, ru, ru2⟩ := vals2 r1
  obtain rfl : u = Value.ref a := ru
  obtain rfl : u2 = Value.ref b := ru2
  obtain ⟨its, rv, p1, z1⟩ := I1.list hqx
  obtain ⟨its2, rv2, p3, _⟩ := I1.list hqy
  refine call_zip_2 p1.isList p3.isList fun h' hz hTI hTO i1 i2 hsz hk => args_nil ?_
  have L1 := p1.isList.at fun o z => hk a o z
  have L2 := p3.isList.at fun o z => hk b o z
  have l1 : its.length = ks.length := by rw [← rv.length, List.length_map]
  have l2 : its2.length = ys.length := rv2.length.symm
  have lz : (ks.zipWith (fun k u => ((Sum.inr k : Key), u)) its2).length = min its.toArray.size its2.toArray.size := by
    rw [List.length_zipWith, List.size_toArray, List.size_toArray, l1]
  refine PySem.call_dict_pairs (knd := mixKind X.prog X.w) (kvs := ks.zipWith (fun k u => ((Sum.inr k : Key), u)) its2)
    (PairArg.zip _ _ _ _ _ a b (PySem.W.ktu_apart s1.heap.objs.size a b p1.lt p3.lt) its.toArray its2.toArray) (I1.ok.hd hc) ⟨hz, hTI, ⟨_, _, hTO⟩, i1, i2, L1, L2⟩
    ⟨lz, fun i k v hkv => ?_⟩ ?_ fun h2 tk hd hk2 => ?_
  · obtain ⟨e1, e3⟩ := hkv
    obtain ⟨z, e4, t, e5⟩ := zip_at (i := i) rv (by simpa using e1) (show its2[i]? = some v by simpa using e3)
    exact ⟨Sum.inr z, e4, by rw [e5]; exact keyIs_str z t⟩
  · rw [← lz, List.length_zipWith]
    have z2 : ks.length ≤ sizeLine := by
      rw [List.length_map] at z1
      exact z1
    omega
  · have big : s1.heap.objs.size ≤ h'.objs.size := by omega
    have old : ∀ c o, s1.heap.get? c = some o → h2.get? c = some o := fun c o z => by
      have lt := Heap.lt_size z
      refine hk2 c o (fun hm => ?_) (hk c o z)
      have hm' : c = s1.heap.objs.size + 4 ∨ c = s1.heap.objs.size + 3 ∨ c = s1.heap.objs.size ∨ c = s1.heap.objs.size + 1 := by simpa using hm
      have lt' : (c : Nat) < s1.heap.objs.size := lt
      rcases hm' with w | w | w | w
      · rw [w] at lt'; exact absurd lt' (Nat.not_lt.mpr (Nat.le_add_right _ _))
      · rw [w] at lt'; exact absurd lt' (Nat.not_lt.mpr (Nat.le_add_right _ _))
      · rw [w] at lt'; exact absurd lt' (Nat.lt_irrefl _)
      · rw [w] at lt'; exact absurd lt' (Nat.not_lt.mpr (Nat.le_add_right _ _))
    have kv := kv_zip rv rv2
    have mk := KV.merge kv (.nil : KV ([] : List (Key × V)) [])
    have sm : (h'.objs.size == sysModules) = false := by
      have := I1.big
      have lt : sysModules < h'.objs.size := Nat.lt_of_lt_of_le this big
      exact beq_eq_false_iff_ne.mpr (Nat.ne_of_gt lt)
    refine ⟨.ref _, _, I1.laid (t' := tk) (o := .dK (mergeK [] (ks.zipWith (fun k y => ((Sum.inr k : Key), y)) ys))) old big ⟨?_, sm, _, mk, hd⟩, rfl, q _ (I1.hok.fresh big)⟩
    have z3 := length_mergeK (ks.zipWith (fun k y => ((Sum.inr k : Key), y)) ys) []
    have z2 : ks.length ≤ sizeLine := by
      rw [List.length_map] at z1
      exact z1
    rw [List.length_zipWith] at z3
    simp only [List.length_nil] at z3
    omega
end
end Br
/-! sorted(set(texts)): a list of texts, each of which was among those. -/
namespace Br
open PySem L2
open PySem.Spec PyProof.Rows
/-- an entry that holds a text of M -/
def GoodT (w : World) (M : Str → Prop) (e : Int × Value) : Prop := ∃ z tk, e.2 = Value.str z tk ∧ e.1 = hashStr w z ∧ M z
/-- a set at a, at most n texts, all of M; its table can be walked -/
def SetS (w : World) (h : Heap) (a : Addr) (M : Str → Prop) (n : Nat) : Prop :=
  ∃ o es ep t, h.get? a = some o ∧ o.ExactSet ∧ o.data = .set es ep t ∧ (∀ e ∈ es.toList, GoodT w M e) ∧
    es.size < scanBound ∧ t.fits es.size = true ∧ es.size ≤ n ∧ Ris t.place.toList ∧ (w.params.followText "set-order" = true ∨ t.led = true)
theorem SetS.at {w : World} {h h' : Heap} {a : Addr} {M : Str → Prop} {n : Nat} (R : SetS w h a M n) (k : ∀ o, h.get? a = some o → h'.get? a = some o) : SetS w h' a M n := by
  obtain ⟨o, es, ep, t, ho, r⟩ := R
  exact ⟨o, es, ep, t, k o ho, r⟩
theorem goodT_elems {P : Program} {w : World} {M : Str → Prop} {l : List (Int × Value)} (g : ∀ e ∈ l, GoodT w M e) : ElemsOf (PySem.strKind P w) l := fun e he => by
  obtain ⟨z, tk, h1, h2, _⟩ := g e he
  exact ⟨⟨z, by rw [h1]; exact strKind_is P w z tk, h2⟩, by rw [h1] <;> rfl⟩
section
variable {P : Program} {w : World} {A : Around} {E : Value → Shared → Prop} {s : Shared} {a : Addr} {M : Str → Prop} {n : Nat}
theorem setS_tail {g : Bool → Sem Unit} (hg : ∀ (b : Bool) (s1 : Shared) (Q' : Unit → Shared → Prop), Q' () s1 → wpAny (model P w) A (g b) Q' E s1)
    {o : Obj} {es es1 : Array (Int × Value)} {ep : Nat} {t t2 : SetTable} (ho : s.heap.get? a = some o) (hex : o.ExactSet) (hd : o.data = .set es ep t)
    (g1 : ∀ e ∈ es1.toList, GoodT w M e) (hb1 : es1.size < scanBound) (hf2 : t2.fits es1.size = true) (hn1 : es1.size ≤ n) (hr : Ris t2.place.toList)
    (hl : w.params.followText "set-order" = true ∨ t2.led = true) {wd : Bool} {R : Option Bool → Shared → Prop}
    (hR : ∀ h', Heap.SameBut a s.heap h' → SetS w h' a M n → R (some true) { s with heap := h' }) :
    wpAny (model P w) A (do
        storeSet a es1 t2
        if (!wd && t2.tooFull) = true then do
            g (relayAll t2 es1 (SetTable.grown es1.size)).2.2
            storeSet a (relayAll t2 es1 (SetTable.grown es1.size)).1 (relayAll t2 es1 (SetTable.grown es1.size)).2.1
            pure (some true)
          else pure (some true)) R E s := by
  refine wpAny_bind (wpAny_storeSet_of ho hd ?_ (fits_of_scanBound hb1))
  have ho1 := store_at (es' := es1) (t' := t2) ho hd
  have sb1 := Heap.SameBut.update s.heap a (Obj.putSet es1 t2)
  split
  · have pm := relayAll_perm t2 es1 (SetTable.grown es1.size)
    have f3 := relayAll_fits t2 es1 (SetTable.grown es1.size)
    have r3 := relayAll_ris t2 es1 (SetTable.grown es1.size)
    have l3 := relayAll_led t2 es1 (SetTable.grown es1.size)
    generalize relayAll t2 es1 (SetTable.grown es1.size) = Z at pm f3 r3 l3 ⊢
    obtain ⟨es2, t3, gave⟩ := Z
    dsimp only at pm f3 r3 l3 ⊢
    have sz : es2.size = es1.size := by rw [← Array.length_toList, pm.length_eq, Array.length_toList]
    have hb2 : es2.size < scanBound := by rw [sz]; exact hb1
    refine wpAny_bind (hg _ _ _ ?_)
    refine wpAny_bind (wpAny_storeSet_of ho1 rfl ?_ (fits_of_scanBound hb2))
    have ho2 := store_at (es' := es2) (t' := t3) ho1 rfl
    exact wpAny_pure (hR _ (sb1.trans (Heap.SameBut.update _ a _))
      ⟨_, es2, _, t3, ho2, hex, rfl, fun e he => g1 e (pm.mem_iff.mp he), hb2, f3, by rw [sz]; exact hn1, r3, hl.imp id fun z => by rw [l3]; exact z⟩)
  · exact wpAny_pure (hR _ sb1 ⟨_, es1, _, t2, ho1, hex, rfl, g1, hb1, hf2, hn1, hr, hl⟩)
theorem setS_add {z : Str} {tk : Tok} {Q : Bool → Shared → Prop} (R : SetS w s.heap a M n) (hz : M z) (room : n + 1 < scanBound)
    (hQ : ∀ b h', Heap.SameBut a s.heap h' → SetS w h' a M (n + 1) → Q b { s with heap := h' }) :
    wpAny (model P w) A (setAddHashed a (.str z tk) ((PySem.strKind P w).hash z)) Q E s := by
  obtain ⟨o, es, ep, t, ho, hex, hd, g, hb, hf, hn, hr, hl⟩ := R
  have key : (PySem.strKind P w).is z (.str z tk) = true := strKind_is P w z tk
  have sc : (Value.str z tk).scannable = true := rfl
  have el : ElemsOf (PySem.strKind P w) es.toList := goodT_elems g
  unfold setAddHashed setAddHashedIn
  refine wpAny_holding (wpAny_bind (wpAny_setState_of ho hd hf ?_))
  dsimp only
  rw [byScan_of sc hb el]
  simp only [↓reduceIte]
  unfold setAddByScan
  refine wpAny_bind ?_
  refine wpAny_bind (wpAny_rule ?_)
  refine wpAny_bind (wpAny_setScan_of key ho hd hf el ?_)
  cases hfi : List.findIdx? (fun e => (PySem.strKind P w).is z e.2) es.toList with
  | some j =>
    dsimp only
    exact wpAny_pure (wpAny_pure (hQ _ s.heap (Heap.SameBut.refl a s.heap) ⟨o, es, ep, t, ho, hex, hd, g, hb, hf, Nat.le_succ_of_le hn, hr, hl⟩))
  | none =>
    dsimp only
    have gw : ∀ (b : Bool) {s1 : Shared} {Q' : Unit → Shared → Prop}, Q' () s1 → wpAny (model P w) A (match b with | true => rule "set.scan.the-table-gave-way" | false => pure ()) Q' E s1 :=
      fun b s1 Q' q => by cases b <;> first | exact wpAny_pure q | exact wpAny_rule q
    have pm := layNew_perm t es ((PySem.strKind P w).hash z) (.str z tk)
    have f1 := layNew_fits t es ((PySem.strKind P w).hash z) (.str z tk)
    have r1 := layNew_ris t es ((PySem.strKind P w).hash z) (.str z tk) hr
    have l1 := layNew_led t es ((PySem.strKind P w).hash z) (.str z tk)
    generalize layNew t es ((PySem.strKind P w).hash z) (.str z tk) = Z at pm f1 r1 l1 ⊢
    obtain ⟨es1, t1, wd, gave⟩ := Z
    dsimp only at pm f1 r1 l1 ⊢
    rw [Array.toList_push] at pm
    have pc : es1.toList.Perm (((PySem.strKind P w).hash z, Value.str z tk) :: es.toList) := pm.trans (List.perm_append_singleton _ _)
    have g1 : ∀ e ∈ es1.toList, GoodT w M e := fun e he => by
      rcases List.mem_cons.mp (pc.mem_iff.mp he) with q | q
      · rw [q]; exact ⟨z, tk, rfl, rfl, hz⟩
      · exact g e q
    have sz : es1.size = es.size + 1 := by rw [← Array.length_toList, pc.length_eq, List.length_cons, Array.length_toList]
    have hn1 : es1.size ≤ n + 1 := by omega
    have hb1 : es1.size < scanBound := Nat.lt_of_le_of_lt hn1 room
    have led : w.params.followText "set-order" = true ∨ t1.led = true := hl.imp id fun q => by rw [l1]; exact q
    refine wpAny_bind (gw _ ?_)
    split
    · refine wpAny_bind ?_
      rw [hashByValue_scannable 8 sc]
      refine wpAny_pure ?_
      refine setS_tail (n := n + 1) ?_ ho hex hd g1 hb1 ?_ hn1 ?_ ?_ ?_
      · intro b s1 Q' q; cases b <;> first | exact wpAny_pure q | exact wpAny_rule q
      · first | (split <;> first | exact f1 | exact SetTable.fits_plain_off f1) | exact f1
      · first | (split <;> exact r1) | exact r1
      · first | (split <;> exact led) | exact led
      · intro h' sb r; dsimp only; exact wpAny_pure (hQ _ h' sb r)
    · refine wpAny_bind (wpAny_pure ?_)
      simp only [↓reduceIte]
      refine setS_tail (n := n + 1) ?_ ho hex hd g1 hb1 f1 hn1 r1 led ?_
      · intro b s1 Q' q; cases b <;> first | exact wpAny_pure q | exact wpAny_rule q
      · intro h' sb r; dsimp only; exact wpAny_pure (hQ _ h' sb r)
abbrev freshSet (w : World) : Obj := { cls := .type "set", dict := none, data := .set #[] 0 (.fresh 0 0 (!w.params.followText "set-order")) }
theorem setS_fresh {h : Heap} (ho : h.get? a = some (freshSet w)) : SetS w h a M 0 :=
  ⟨_, #[], 0, _, ho, ⟨rfl, rfl, rfl⟩, rfl, (fun e he => by simp at he), (by decide), (by rfl), Nat.le_refl _, List.Pairwise.nil, by
    show _ ∨ (!w.params.followText "set-order") = true
    cases w.params.followText "set-order"
    · exact .inr rfl
    · exact .inl rfl⟩
theorem setS_loop {I : Addr} {fp wr : List Addr} {G : Array GenState → Array GenState → Prop} {m : Nat} {Pv : Nat → Value → Prop} {St : Nat → Shared → Prop} {R : Result → Shared → Prop}
    (W : WalksS P w A.in1 I fp wr G m Pv St) (S : Addr) (hSf : S ∉ fp) (hb : m + 1 < scanBound) (hval : ∀ i v, Pv i v → ∃ z t, v = .str z t ∧ M z) :
    ∀ (k i : Nat) (s : Shared), m - i = k → i ≤ m → St i s → SetS w s.heap S M i →
      (∀ s', Moved (S :: wr) G s s' → SetS w s'.heap S M m → R (.ok (.ret .none)) s') →
      codeAny (model P w) A (.builtin "set.update.loop" ⟨[.ref S, .ref I], []⟩) R s := by
  have hSw : S ∉ wr := fun h => hSf (W.sub _ h)
  have sub : ∀ b ∈ wr, b ∈ S :: wr := fun b hb => List.mem_cons_of_mem _ hb
  intro k
  induction k with
  | zero =>
    intro i s hk hi hst hS hR
    obtain rfl : i = m := by omega
    refine codeAny_builtin F.entry_set_update_loop ?_
    rw [Around.under_plainId F.plain_set_update_loop _]
    show wpAny _ A.in1 (pyNext (.ref I) >>= _) _ _ s
    refine wpAny_bind (W.done s _ _ hst fun s' hm => ?_)
    show wpAny _ A.in1 (ret Value.none) _ _ s'
    exact wpAny_pure (hR s' (hm.mono sub) (hS.at fun o e => hm.heap S o hSw e))
  | succ k ih =>
    intro i s hk hi hst hS hR
    have lt : i < m := by omega
    refine codeAny_builtin F.entry_set_update_loop ?_
    rw [Around.under_plainId F.plain_set_update_loop _]
    show wpAny _ A.in1 (pyNext (.ref I) >>= _) _ _ s
    refine wpAny_bind (W.item i s _ _ lt hst fun v s' hP hst' hm => ?_)
    obtain ⟨z, t, rfl, hz⟩ := hval i v hP
    have hS' : SetS w s'.heap S M i := hS.at fun o e => hm.heap S o hSw e
    show wpAny _ A.in1 (holding [Value.str z t] (setAdd S (.str z t)) >>= _) _ _ s'
    refine wpAny_bind (wpAny_holding ?_)
    unfold setAdd
    refine wpAny_holding ?_
    refine wpAny_bind ((PySem.strKind P w).pyHash (k := z) (strKind_is _ _ _ _) ?_)
    refine setS_add (s := { s' with toks := s'.toks + 1 }) hS' hz (by omega) fun b h' hsb hS2 => ?_
    refine wpAny_pure ⟨plainId_quiet F.plain_set_update_loop _, ih (i + 1) _ (by omega) lt (W.frame _ s' _ _ hst' (Nat.le_succ _) fun c hc o e => ?_) hS2 fun s2 hm2 hS3 => ?_⟩
    · rw [hsb.2 c (fun h : c = S => hSf (by rw [← h]; exact hc))]; exact e
    · refine hR s2 (Moved.trans W.gtrans ((hm.mono sub).then_heap (Nat.le_succ _) fun c o hc e => ?_) hm2) hS3
      rw [hsb.2 c (fun h : c = S => hc (by rw [h]; exact List.mem_cons_self))]; exact e
set_option maxHeartbeats 3200000 in
/-- set(xs), xs a list of texts -/
theorem call_setS {l : Addr} {items : Array Value} {Q : Value → Shared → Prop} (hh : A.handled = none) (hl : s.heap.IsList l items) (hit : ∀ v ∈ items.toList, ∃ z t, v = .str z t ∧ M z) (hb : items.size + 1 < scanBound)
    (q : ∀ (h' : Heap) (tk : Nat), SetS w h' s.heap.objs.size M items.size → (∀ b o, s.heap.get? b = some o → h'.get? b = some o) → Q (.ref s.heap.objs.size) { s with heap := h', toks := tk }) :
    wpAny (model P w) A (call (.type "set") [.ref l]) Q E s := by
  obtain ⟨c, tl, hmro⟩ := F.called_set.mro
  have made := F.called_set.made
  have subs := F.called_set.sub
  refine wpAny_call (codeAny_of_tree ?_)
  show wpAny _ _ (callAny (.type "set") _) _ _ _
  refine wpAny_pure ⟨Code.quiet_builtin _ (by decide +kernel), codeAny_builtin F.entry_type_call ?_⟩
  rw [Around.under_plain (weight_type_call_type "set" [.ref l] []) rfl]
  have n1 := F.called_set.notType
  have n2 := F.called_set.canCreate
  have n3 := F.typeCall_set_1 (.ref l)
  repeat (any_goals (first | assumption | wp_step))
  refine codeAny_mono (code_set_led1 (.ref l) (E := E) (Q₁ := fun obj s1 => obj = .ref s.heap.objs.size ∧ s1 = { s with heap := s.heap.push (freshSet w) }) ⟨rfl, rfl⟩) fun r s1 hr => ?_
  cases r with
  | error e => exact hr
  | ok fl =>
    cases fl with
    | ret obj =>
      obtain ⟨rfl, rfl⟩ := hr
      have hS : (s.heap.push (freshSet w)).get? s.heap.objs.size = some (freshSet w) := Heap.get?_push_size _ rfl
      have hT : Shared.TypeIs { s with heap := s.heap.push (freshSet w) } (.ref s.heap.objs.size) "set" := ⟨_, hS, rfl⟩
      have li := F.called_set.init.lookup
      have bi := F.called_set.init.bind (.ref s.heap.objs.size)
      repeat (any_goals (first | assumption | wp_step))
      refine codeAny_mono (codeAny_call_builtin (R := wants (fun r s2 => r = .none ∧ ∃ h' tk, s2 = { s with heap := h', toks := tk } ∧ SetS w h' s.heap.objs.size M items.size ∧
          (∀ b o, s.heap.get? b = some o → h'.get? b = some o)) E) F.called_set.init.plain F.entry_set_init (check_set_init_1 hT ?_)) fun r2 s2 hr2 => ?_
      · obtain ⟨ol, hol, hcl, nl, hdl⟩ := hl
        obtain ⟨ocls, odict, odata, oslots⟩ := ol
        simp only at hcl hdl
        subst hcl; subst hdl
        have hol' : (s.heap.push (freshSet w)).get? l = some { cls := .type "list", dict := odict, data := .seq items nl, slots := oslots } := Heap.get?_push_of_some _ hol
        have m1 := F.sub_list_set
        have m2 := F.sub_list_frozenset
        have m3 : (Value.type "list" == Value.type "dict") = false := by decide
        have hl1 : (s.heap.push (freshSet w)).IsList l items := ⟨_, hol', rfl, nl, rfl⟩
        unfold Builtin.«set.__init__» noKeywords Builtin.Frozenset.updateFrom
        generalize hPI : pyIter = PI
        wp_walk
        subst hPI
        refine wpAny_pyIter_list hl1 ?_
        refine wpAny_bind (wpAny_runValue ?_)
        have lS : l < s.heap.objs.size := Heap.lt_size hol
        have h3 : A.in1.in1.in1.handled = none := by simp [hh]
        have z1 : (s.heap.push (freshSet w)).objs.size = s.heap.objs.size + 1 := Heap.size_push ..
        have neI : l ≠ (s.heap.push (freshSet w)).objs.size := by
          rw [Heap.size_push]; exact Nat.ne_of_lt (Nat.lt_succ_of_lt lS)
        have hSf : s.heap.objs.size ∉ [(s.heap.push (freshSet w)).objs.size, l] := by
          rw [Heap.size_push]; simp only [List.mem_cons, List.mem_singleton, List.not_mem_nil, or_false, not_or]
          exact ⟨Nat.ne_of_lt (Nat.lt_succ_self _), Nat.ne_of_gt lS⟩
        refine setS_loop (M := M) ((Walks.list h3 _ l neI items).toS) s.heap.objs.size hSf hb (fun i v hv => hit v (Array.mem_toList_iff.mpr (Array.mem_of_getElem? hv))) (items.size - 0) 0 _ (by omega) (Nat.zero_le _)
          ⟨⟨_, Heap.get?_push_size _ rfl, rfl, rfl⟩, (hl1.push _)⟩ (setS_fresh (Heap.get?_push_of_some _ hS)) ?_
        intro s' hm hS'
        obtain ⟨h', g2, d', tk', os'⟩ := s'
        have eg : g2 = s.gens := hm.gens
        have ed : d' = s.drawn := hm.drawn
        have eo : os' = s.os := hm.os
        subst eg; subst ed; subst eo
        show wpAny _ _ _ _ _ _
        refine wpAny_pure ?_
        show wpAny _ _ (ret Value.none) _ _ _
        refine wpAny_pure ⟨rfl, h', tk', rfl, hS', fun b o e => ?_⟩
        have b0 : b < s.heap.objs.size := Heap.lt_size e
        have b1 : b ≠ s.heap.objs.size := Nat.ne_of_lt b0
        have b2 : b ≠ (s.heap.push (freshSet w)).objs.size := by
          rw [Heap.size_push]; exact Nat.ne_of_lt (Nat.lt_succ_of_lt b0)
        exact hm.heap b o (by simp only [List.mem_cons, List.mem_singleton, List.not_mem_nil, or_false, not_or]; exact ⟨b1, b2⟩) (Heap.get?_push_of_some _ (Heap.get?_push_of_some _ e))
      · cases r2 with
        | error e => exact hr2
        | ok fl2 =>
          cases fl2 with
          | ret r =>
            obtain ⟨rfl, h', tk, rfl, hS', hk'⟩ := hr2
            repeat (any_goals (first | assumption | wp_step))
            exact q _ _ hS' hk'
          | _ => exact hr2.elim
    | _ => exact hr.elim
theorem strs_of : ∀ (l : List Value), (∀ v ∈ l, ∃ z t, v = Value.str z t ∧ M z) → ∃ ys : List Str, StrsAre l ys ∧ ∀ y ∈ ys, M y
  | [], _ => ⟨[], .nil, fun _ h => by simp at h⟩
  | v :: l, h => by
    obtain ⟨z, t, rfl, hz⟩ := h v List.mem_cons_self
    obtain ⟨ys, r, m⟩ := strs_of l fun u hu => h u (List.mem_cons_of_mem _ hu)
    refine ⟨z :: ys, .cons z t r, fun y hy => ?_⟩
    rcases List.mem_cons.mp hy with e | e
    · rw [e]; exact hz
    · exact m y e
/-- sorted(s) of such a set -/
theorem sorted_setS {Q : Value → Shared → Prop} (R : SetS w s.heap a M n) (hh : A.handled = none)
    (hQ : ∀ s' p (out : Array Value) (c : Nat) (ys : List Str), (∀ b o, s.heap.get? b = some o → s'.heap.get? b = some o) → s'.gens = s.gens → s'.os = s.os → s.heap.objs.size ≤ p →
      s'.heap.get? p = some (seqObj "list" out c) → StrsAre out.toList ys → (∀ y ∈ ys, M y) → ys.length ≤ n → out.size ≤ sizeLine → Q (.ref p) s') :
    wpAny (model P w) A (call (.builtin "sorted") [.ref a]) Q E s := by
  obtain ⟨o, es, ep, t, ho, hex, hd, g, hb, hf, hn, hr, hl⟩ := R
  refine Calls.call_function_entry kind_sorted plain_sorted entry_sorted (args_sorted1 _) ?_
  unfold Builtin.«sorted»
  refine wpAny_bind (m := checkCount "sorted" 1 1 _) (wpAny_pure ?_)
  refine wpAny_bind (collect_set (A := A.in1) hh ⟨o, ho, hex.1, hd⟩ hf hb hr hl fun s1 vs k1 hz g1 o1 pm => ?_)
  have lv : vs.length = es.size := by rw [pm.length_eq, List.length_map, Array.length_toList]
  have sl : vs.length ≤ sizeLine := by rw [lv]; exact fits_of_scanBound hb
  obtain ⟨ss, hS, hM⟩ := strs_of (M := M) vs fun v hv => by
    obtain ⟨e, he, q⟩ := List.mem_map.mp (pm.mem_iff.mp hv)
    obtain ⟨z, tk, h1, _, h3⟩ := g e he
    exact ⟨z, tk, by rw [← q]; exact h1, h3⟩
  have ls := StrsAre.len_eq hS
  refine wpAny_bind (wpAny_newList ?_ sl)
  have hoL : (s1.heap.push (seqObj "list" vs.toArray 0)).get? s1.heap.objs.size = some (seqObj "list" vs.toArray 0) := Heap.get?_push_size _ rfl
  refine wpAny_bind (wpAny_holding (wpAny_call_entry slot_list_sort ⟨_, hoL, rfl⟩ entry_list_sort
    (list_sort_treeKAny strKind_oneLt hoL hS.keysOf (fun v1 v2 rest e => keyKind_strs (by rw [← e]; exact hS)) sl fun st' hp hs => ⟨_, rfl, ?_⟩) (args_list_sort _)))
  obtain ⟨ys, y1, y2, _⟩ := sorted_out_str hS hp hs
  obtain ⟨c, hc⟩ := sortedHeap_at (vs := vs) (out := (arrOf st').map (·.2)) hoL
  have ly : ys.length ≤ n := by rw [y2.length_eq, ← ls, lv]; exact hn
  have lo : ((arrOf st').map (·.2)).size ≤ sizeLine := by
    rw [← Array.length_toList, StrsAre.len_eq y1, y2.length_eq, ← ls]
    exact sl
  refine wpAny_pure ⟨_, rfl, hQ _ s1.heap.objs.size _ c ys (fun b u e => ?_) g1 o1 hz hc y1 (fun y hy => hM y (y2.mem_iff.mp hy)) ly lo⟩
  have q := k1 b u e
  have lt := Heap.lt_size q
  show (sortedHeap (s1.heap.push (seqObj "list" vs.toArray 0)) s1.heap.objs.size vs _).get? b = some u
  rw [sortedHeap_old (Nat.ne_of_lt lt) (by rw [size_push']; exact Nat.lt_succ_of_lt lt)]
  exact Heap.get?_push_of_some _ q
end
/-! ### the rules -/
def SetSO (w : World) (a : Addr) (M : Str → Prop) (n : Nat) : HO := .ext fun h => SetS w h a M n
section
variable {X : Cx}
theorem setSO_ok {P : Program} {w : World} {H : Hp} {h : Heap} {a : Addr} {M : Str → Prop} {n : Nat} (R : SetS w h a M n) : ObjOk P w H h a (SetSO w a M n) := by
  obtain ⟨o, _, _, _, ho, _⟩ := id R
  exact ⟨R, ⟨o, ho⟩, fun h1 h2 p k => SetS.at p k⟩
theorem strs_in {M : Str → Prop} : ∀ {ys : List Str} {us : List Value}, Vals (ys.map V.str) us → (∀ y ∈ ys, M y) → ∀ v ∈ us, ∃ z t, v = Value.str z t ∧ M z
  | [], _, .nil, _, v, hv => by simp at hv
  | y :: ys, _, .cons r t, h, v, hv => by
    rcases List.mem_cons.mp hv with e | e
    · obtain ⟨k, q⟩ := r
      exact ⟨y, k, by rw [e]; exact q, h y List.mem_cons_self⟩
    · exact strs_in t (fun z hz => h z (List.mem_cons_of_mem _ hz)) v e
def rSetS (K : PySem.W.Frag) (w : World) : List V → Hp → VK → Prop := fun xs H Q => ∃ (l : Addr) (ys : List Str) (M : Str → Prop), xs = [.ref l] ∧ SqL K H l (ys.map V.str) ∧ (∀ y ∈ ys, M y) ∧ ys.length ≤ 3000 ∧
  ∀ p, H p = none → Q (.ref p) (upd H p (SetSO w p M ys.length))
theorem cr_setS (K : PySem.W.Frag) (hK : X.K = K) (hc : X.calm = true) : CallR X (.type "set") (rSetS K X.w) := by
  subst hK
  intro pins s σ H xs us Q I r h
  obtain ⟨l, ys, M, rfl, hq, hM, hl, q⟩ := h
  obtain ⟨u, rfl, ru⟩ := vals1 r
  obtain rfl : u = Value.ref l := ru
  obtain ⟨its, rv, p, _⟩ := I.list hq
  have li : its.length = ys.length := by rw [← rv.length, List.length_map]
  have sz : its.toArray.size = ys.length := by rw [List.size_toArray, li]
  refine call_setS (M := M) (I.ok.hd hc) p.isList (by simpa using strs_in rv hM) (by rw [sz]; unfold scanBound; omega) fun h' tk hS hk => ?_
  rw [sz] at hS
  exact ⟨.ref _, _, I.laid (t' := tk) hk (Nat.le_refl _) (setSO_ok hS), rfl, q _ (I.hok.fresh (Nat.le_refl _))⟩
def rSortedSetS (w : World) : List V → Hp → VK → Prop := fun xs H Q => ∃ (a : Addr) (M : Str → Prop) (n : Nat), xs = [.ref a] ∧ H a = some (SetSO w a M n) ∧
  ∀ (ys : List Str) (p : Addr), (∀ y ∈ ys, M y) → ys.length ≤ n → H p = none → Q (.ref p) (upd H p (.lst (ys.map V.str)))
theorem cr_sortedSetS (hc : X.calm = true) : CallR X (.builtin "sorted") (rSortedSetS X.w) := by
  intro pins s σ H xs us Q I r h
  obtain ⟨a, M, n, rfl, ha, q⟩ := h
  obtain ⟨u, rfl, ru⟩ := vals1 r
  obtain rfl : u = Value.ref a := ru
  have R : SetS X.w s.heap a M n := (I.hok a _ ha).1
  refine sorted_setS R (I.ok.hd hc) fun s' p out c ys k g o1 hp ho hy hM hl lo => ?_
  obtain ⟨h', g', d', t', os'⟩ := s'
  have rv : Vals (ys.map V.str) out.toList := vals_of_strs hy
  have new : ObjOk X.prog X.w (upd H p (.lst (ys.map V.str))) h' p (.lst (ys.map V.str)) :=
    ⟨by rw [List.length_map, ← StrsAre.len_eq hy, Array.length_toList]; exact lo, out.toList, c, rv, by rw [Array.toArray_toList]; exact ho⟩
  have bare : AllBare g' := by rw [show g' = s.gens from g]; exact I.bare
  refine ⟨.ref p, _, I.call' (ch := []) o1 (Un.laid k hp (I.hok.fresh hp)) (I.hok.laid k hp new) bare fun b z => by simp at z, rfl, q ys p hM hl (I.hok.fresh hp)⟩
end
end Br
/-! The dict of what a reading met: its keys are pairs of tuples of whole numbers, its values pairs of whole numbers. -/
namespace Br
open PySem L2
open PySem.Spec PyProof.Rows
/-- an entry: place, rounds; where the key's tuple, its two parts and the value's tuple stand; the value -/
structure Me where
  pl : List Int
  ro : List Int
  ka : Addr
  pa : Addr
  ra : Addr
  va : Addr
  m : Int
  w : Int
def nums (l : List Int) : NestedKey := .tup (l.map .num)
def Me.key (e : Me) : NestedKey := .tup [nums e.pl, nums e.ro]
def Me.row (e : Me) : NestedKey × Addr × Value := (e.key, e.ka, .ref e.va)
theorem depth_nums (l : List Int) : NestedKey.depthAll (l.map NestedKey.num) = 0 := by
  induction l with
  | nil => rfl
  | cons x l ih => rw [List.map_cons, NestedKey.depthAll, ih]; rfl
theorem depth_key (a b : List Int) : (NestedKey.tup [nums a, nums b]).depth ≤ 8 := by
  have h : (NestedKey.tup [nums a, nums b]).depth = max (NestedKey.depthAll (a.map NestedKey.num) + 1) (max (NestedKey.depthAll (b.map NestedKey.num) + 1) 0) + 1 := rfl
  rw [h, depth_nums, depth_nums]
  decide
/-- the dict at d with these entries -/
def MetO (P : Program) (w : World) (d : Addr) (L : List Me) : HO := .ext fun h => (d == sysModules) = false ∧
  ∃ o es ep, h.get? d = some o ∧ o.ExactDict ∧ o.data = .dict es ep ∧ es.toList = (L.map Me.row).map (entryOfKey (nestedKind P w)) ∧ ((L.map Me.row).map (·.1)).Nodup
/-- an entry's tuples stand -/
def MeOk (H : Hp) (e : Me) : Prop := H e.ka = some (.tup [.ref e.pa, .ref e.ra]) ∧ H e.pa = some (.tup (e.pl.map V.int)) ∧ H e.ra = some (.tup (e.ro.map V.int)) ∧ H e.va = some (.tup [.int e.m, .int e.w])
/-- the dict of what was met stands at d, with at most n entries -/
def MetAt (P : Program) (w : World) (H : Hp) (d : Addr) (n : Nat) : Prop := ∃ L : List Me, H d = some (MetO P w d L) ∧ (∀ e ∈ L, MeOk H e) ∧ L.length ≤ n
theorem metO_tup {P : Program} {w : World} {d : Addr} {L : List Me} {xs : List V} : MetO P w d L ≠ .tup xs := fun z => by
  have z' : HO.ext _ = HO.tup xs := z
  cases z'
theorem MeOk.mono {H H' : Hp} {e : Me} (k : ∀ b xs, H b = some (.tup xs) → H' b = some (.tup xs)) (h : MeOk H e) : MeOk H' e := ⟨k _ _ h.1, k _ _ h.2.1, k _ _ h.2.2.1, k _ _ h.2.2.2⟩
theorem MetAt.mono {P : Program} {w : World} {H H' : Hp} {d : Addr} {n m : Nat} (h : MetAt P w H d n) (hd : H' d = H d) (k : ∀ b xs, H b = some (.tup xs) → H' b = some (.tup xs)) (l : n ≤ m) : MetAt P w H' d m := by
  obtain ⟨L, h1, h2, h3⟩ := h
  exact ⟨L, by rw [hd]; exact h1, fun e he => (h2 e he).mono k, Nat.le_trans h3 l⟩
section
variable {P : Program} {w : World} {H : Hp} {h : Heap}
theorem nested_ints : ∀ {l : List Int} {us : List Value}, Vals (l.map V.int) us → NestedAll h (l.map NestedKey.num) us
  | [], _, .nil => .nil
  | i :: l, _, .cons r t => by
    obtain ⟨k, rfl⟩ := r
    exact .cons (.int i k) (nested_ints t)
theorem nested_tup (ok : HOk P w H h) {a : Addr} {l : List Int} (e : H a = some (.tup (l.map V.int))) : NestedIs h (nums l) (.ref a) := by
  obtain ⟨_, its, r, o, ho, hc, n, hd⟩ := ok a _ e
  exact .tup ho hc hd (nested_ints r)
theorem nested_key2 (ok : HOk P w H h) {a b c : Addr} {l m : List Int} (e : H a = some (.tup [.ref b, .ref c])) (eb : H b = some (.tup (l.map V.int))) (ec : H c = some (.tup (m.map V.int))) :
    (nestedKind P w).is h (.tup [nums l, nums m]) a := by
  obtain ⟨_, its, r, o, ho, hc, n, hd⟩ := ok a _ e
  obtain ⟨u, u2, rfl, ru, ru2⟩ := vals2 r
  obtain rfl : u = Value.ref b := ru
  obtain rfl : u2 = Value.ref c := ru2
  exact ⟨.tup ho hc hd (.cons (nested_tup ok eb) (.cons (nested_tup ok ec) .nil)), depth_key l m⟩
theorem met_dict (ok : HOk P w H h) {d : Addr} {L : List Me} (e : H d = some (MetO P w d L)) (hL : ∀ x ∈ L, MeOk H x) : (d == sysModules) = false ∧ h.DictOfH (nestedKind P w) d (L.map Me.row) := by
  have x : ObjOk P w H h d (MetO P w d L) := ok d _ e
  obtain ⟨⟨sm, o, es, ep, ho, hx, hd, he, nd⟩, _⟩ := x
  refine ⟨sm, o, es, ep, ho, hx, hd, he, fun y hy => ?_, nd⟩
  obtain ⟨z, hz, rfl⟩ := List.mem_map.mp hy
  obtain ⟨k1, k2, k3, _⟩ := hL z hz
  exact nested_key2 ok k1 k2 k3
theorem at_row {L : List Me} {k : NestedKey} {p : Addr × Value} (h : atKey (L.map Me.row) k = some p) : ∃ e ∈ L, p.2 = .ref e.va := by
  unfold atKey at h
  obtain ⟨x, hx, rfl⟩ := Option.map_eq_some_iff.mp h
  obtain ⟨e, he, rfl⟩ := List.mem_map.mp (List.mem_of_find?_eq_some hx)
  exact ⟨e, he, rfl⟩
end
section
variable {X : Cx} {pins : List (Addr × Obj)} {σ : L2.St} {H : Hp} {s : Shared} {A : Around} {E : Value → Shared → Prop} {d b pa ra z : Addr} {n : Nat} {pl ro : List Int}
theorem met_get {Q : Value → Shared → Prop} (hu : A.units + 9 < cLine) (I : Inv X pins σ H s) (hd : MetAt X.prog X.w H d n) (eb : H b = some (.tup [.ref pa, .ref ra])) (ep : H pa = some (.tup (pl.map V.int))) (er : H ra = some (.tup (ro.map V.int)))
    (hz : H z = some (.tup [.int 0, .int 0])) (q : ∀ s' t m v, Inv X pins σ H s' → H t = some (.tup [.int m, .int v]) → Q (.ref t) s') :
    wpAny (model X.prog X.w) A (call (.builtin "dict.get") [.ref d, .ref b, .ref z]) Q E s := by
  obtain ⟨L, h1, h2, _⟩ := hd
  obtain ⟨sm, dd⟩ := met_dict I.hok h1 h2
  refine call_meetsIn F.slot_dict_get dd.typeIs F.entry_dict_get (F.args_dict_get_3 _ _ _) (meetsH_dict_get_default (nestedKind X.prog X.w) d b sm (.ref z)) ⟨?_, _, _, nested_key2 I.hok eb ep er, dd, ?_⟩
  · show A.units + 1 + 8 < cLine
    omega
  · cases e : atKey (L.map Me.row) (.tup [nums pl, nums ro]) with
    | none => exact q _ z 0 0 (I.tok _) hz
    | some p =>
      obtain ⟨x, hx, ex⟩ := at_row e
      show Q p.2 _
      rw [ex]
      exact q _ x.va x.m x.w (I.tok _) (h2 x hx).2.2.2
/-- d.get(k, (0, 0)) -/
def tMetGet (P : Program) (w : World) (td ty tx : TE) : TE := fun σ H Q => td σ H fun x H1 => ∃ d n, x = .ref d ∧ MetAt P w H1 d n ∧ ty σ H1 fun y H2 => tx σ H2 fun u H3 =>
  ∃ (b pa ra z : Addr) (pl ro : List Int), y = .ref b ∧ u = .ref z ∧ MetAt P w H3 d n ∧ H3 b = some (.tup [.ref pa, .ref ra]) ∧ H3 pa = some (.tup (pl.map V.int)) ∧ H3 ra = some (.tup (ro.map V.int)) ∧ H3 z = some (.tup [.int 0, .int 0]) ∧
    ∀ t m v, H3 t = some (.tup [.int m, .int v]) → Q (.ref t) H3
theorem pe_metget {k : Nat} {o e f : Expr} {apos cpos : Pos} {td ty tx : TE} (hr : Room k X.A) (ho : PE X o td) (he : PE X e ty) (hf : PE X f tx) (m : M2 X o "get" apos e f cpos) :
    PE X (.Call (.Attribute o "get" apos) [e, f] [] cpos) (tMetGet X.prog X.w td ty tx) := by
  refine ⟨fun pins s σ H Q I h => ?_⟩
  refine wpAny_Call_method m.base m.few m.line F.plainAttrs_dict F.slot_dict_get F.type_dict_get (thn (ho.run pins s σ H _ I h) fun u s1 hh => ?_)
  obtain ⟨x, H1, I1, rx, d, n, rfl, hd, q1⟩ := hh
  obtain rfl : u = Value.ref d := rx
  obtain ⟨L, h1, h2, _⟩ := id hd
  obtain ⟨sm, dd⟩ := met_dict I1.hok h1 h2
  refine ⟨dd.typeIs, fun b q => ?_, ?_⟩
  · cases q
    obtain ⟨ob, _, _, g1, g2, _⟩ := dd
    exact ⟨ob, g1, g2.2.1⟩
  rw [m.trees]
  refine Calls.callWith_builtin rfl (Calls.evalArgs_plain (Calls.spliced_cons (thn (he.run pins s1 σ H1 _ I1 q1) fun iv s2 hh => ?_)))
  obtain ⟨y, H2, I2, ry, q2⟩ := hh
  refine Calls.spliced_cons (thn (hf.run pins s2 σ H2 _ I2 q2) fun fv s3 hh => Calls.spliced_nil ?_)
  obtain ⟨v, H3, I3, rz, b, pa, ra, z, pl, ro, rfl, rfl, hd3, eb, ep, er, ez, q3⟩ := hh
  obtain rfl : iv = Value.ref b := ry
  obtain rfl : fv = Value.ref z := rz
  have un := hr.un
  exact met_get (by omega) I3 hd3 eb ep er ez fun s' t m v J ht => ⟨.ref t, H3, J, rfl, q3 t m v ht⟩
/-- d[place, rounds] = (m, v) -/
theorem met_put {va : Addr} {m v : Int} {Q : Unit → Shared → Prop} (hu : A.units + 9 < cLine) (I : Inv X pins σ H s) (hd : MetAt X.prog X.w H d n) (hn : n < 16000000) (eb : H b = some (.tup [.ref pa, .ref ra])) (ep : H pa = some (.tup (pl.map V.int)))
    (er : H ra = some (.tup (ro.map V.int))) (hv : H va = some (.tup [.int m, .int v])) (q : ∀ s' H', Inv X pins σ H' s' → (∀ a, a ≠ d → H' a = H a) → MetAt X.prog X.w H' d (n + 1) → Q () s') :
    wpAny (model X.prog X.w) A (setItem (.ref d) (.ref b) (.ref va)) Q E s := by
  obtain ⟨L, h1, h2, h3⟩ := hd
  obtain ⟨sm, dd⟩ := met_dict I.hok h1 h2
  refine wpAny_setItem_heap (knd := nestedKind X.prog X.w) (hsz := by rw [List.length_map, sizeLine_eq]; omega) (show A.units + 1 + 8 < cLine by omega) (nested_key2 I.hok eb ep er) dd fun h' dd' hs => ?_
  obtain ⟨o, es, ep', g1, g2, g3, g4, _, g5⟩ := dd'
  -- the entries behind the store, as entries of this kind
  have fin : ∀ L' : List Me, storedH (L.map Me.row) (.tup [nums pl, nums ro]) b (.ref va) = L'.map Me.row → (∀ e ∈ L', MeOk H e) → L'.length ≤ n + 1 → Q () { s with heap := h', toks := s.toks + (nestedKind X.prog X.w).draws (.tup [nums pl, nums ro]) } := fun L' e1 e2 e3 => by
    have kp : ∀ c xs, H c = some (.tup xs) → upd H d (MetO X.prog X.w d L') c = some (.tup xs) := fun c xs z => by
      rw [upd_ne (ne_of z h1 (fun y => metO_tup y.symm))]
      exact z
    have new : ObjOk X.prog X.w (upd H d (MetO X.prog X.w d L')) h' d (MetO X.prog X.w d L') := by
      refine ⟨⟨sm, o, es, ep', g1, g2, g3, by rw [← e1]; exact g4, by rw [← e1]; exact g5⟩, ⟨o, g1⟩, fun ha hb z k => ?_⟩
      obtain ⟨sm', o', es', ep2, z1, z2⟩ := z
      exact ⟨sm', o', es', ep2, k _ z1, z2⟩
    refine q _ (upd H d (MetO X.prog X.w d L')) (d_write I (by rw [h1]; exact True.intro) hs ⟨o, g1⟩ new) (fun a ha => upd_ne ha) ⟨L', upd_same, fun e he => (e2 e he).mono kp, e3⟩
  unfold storedH at fin
  cases e : (atKey (L.map Me.row) (.tup [nums pl, nums ro])).isSome with
  | false =>
    refine fin (L ++ [⟨pl, ro, b, pa, ra, va, m, v⟩]) ?_ (fun x hx => ?_) (by rw [List.length_append, List.length_singleton]; omega)
    · rw [e, if_neg Bool.false_ne_true, List.map_append]
      rfl
    · rcases List.mem_append.mp hx with hx | hx
      · exact h2 x hx
      · rw [List.mem_singleton.mp hx]
        exact ⟨eb, ep, er, hv⟩
  | true =>
    refine fin (L.map fun x => if x.key = .tup [nums pl, nums ro] then { x with va := va, m := m, w := v } else x) ?_ (fun x hx => ?_) (by rw [List.length_map]; omega)
    · rw [e, if_pos rfl, List.map_map, List.map_map]
      refine List.map_congr_left fun x _ => ?_
      show putAt (.tup [nums pl, nums ro]) (.ref va) x.row = Me.row (if x.key = .tup [nums pl, nums ro] then { x with va := va, m := m, w := v } else x)
      unfold putAt
      by_cases c : x.key = .tup [nums pl, nums ro]
      · rw [if_pos (show x.row.1 = _ from c), if_pos c]
        rfl
      · rw [if_neg (show ¬ x.row.1 = _ from c), if_neg c]
    · obtain ⟨y, hy, rfl⟩ := List.mem_map.mp hx
      obtain ⟨k1, k2, k3, k4⟩ := h2 y hy
      show MeOk H (if y.key = .tup [nums pl, nums ro] then { y with va := va, m := m, w := v } else y)
      by_cases c : y.key = .tup [nums pl, nums ro]
      · rw [if_pos c]
        exact ⟨k1, k2, k3, hv⟩
      · rw [if_neg c]
        exact ⟨k1, k2, k3, k4⟩
def sMetPut (P : Program) (w : World) (td ty tv : TE) : TS := fun D σ H => tv σ H fun r H1 => td σ H1 fun x H2 => ty σ H2 fun y H3 =>
  ∃ (d : Addr) (n : Nat) (b pa ra va : Addr) (pl ro : List Int) (m v : Int), r = .ref va ∧ x = .ref d ∧ y = .ref b ∧ MetAt P w H3 d n ∧ n < 16000000 ∧ H3 b = some (.tup [.ref pa, .ref ra]) ∧ H3 pa = some (.tup (pl.map V.int)) ∧ H3 ra = some (.tup (ro.map V.int)) ∧ H3 va = some (.tup [.int m, .int v]) ∧
    ∀ H', (∀ a, a ≠ d → H' a = H3 a) → MetAt P w H' d (n + 1) → D.nx σ H'
theorem ps_metput {k : Nat} {o i value : Expr} {pos pos' : Pos} {td ty tv : TE} (hr : Room k X.A) (ho : PE X o td) (hi : PE X i ty) (hv : PE X value tv) (hs : swapsWith value (some (.Subscript o i pos')) pos.line X.env = pure false) :
    PS X (.Assign [.Subscript o i pos'] value pos) (sMetPut X.prog X.w td ty tv) := by
  refine ⟨fun pins s σ H D I h => ?_⟩
  refine wpAny_Assign_Subscript (thn (hv.run pins s σ H _ I h) fun r s1 hh => ?_) hs
  obtain ⟨rv, H1, I1, rr, q1⟩ := hh
  refine thn (ho.run pins s1 σ H1 _ I1 q1) fun u s2 hh => ?_
  obtain ⟨x, H2, I2, rx, q2⟩ := hh
  refine thn (hi.run pins s2 σ H2 _ I2 q2) fun iv s3 hh => ?_
  obtain ⟨y, H3, I3, ry, d, n, b, pa, ra, va, pl, ro, m, v, rfl, rfl, rfl, hd, hn, eb, ep, er, ev, q3⟩ := hh
  obtain rfl : r = Value.ref va := rr
  obtain rfl : u = Value.ref d := rx
  obtain rfl : iv = Value.ref b := ry
  have un := hr.un
  exact met_put (by omega) I3 hd hn eb ep er ev fun s' H' J k1 k2 => ⟨σ, H', J, q3 H' k1 k2⟩
/-- {} that will hold such entries -/
def tDNewM (P : Program) (w : World) : TE := fun _ H Q => ∀ p, H p = none → Q (.ref p) (upd H p (MetO P w p []))
theorem pe_dnewM {pos : Pos} : PE X (.Dict [] [] pos) (tDNewM X.prog X.w) := by
  refine ⟨fun pins s σ H Q I h => ?_⟩
  have new : ObjOk X.prog X.w (upd H s.heap.objs.size (MetO X.prog X.w s.heap.objs.size [])) (s.heap.push { cls := .type "dict", data := .dict #[] }) s.heap.objs.size (MetO X.prog X.w s.heap.objs.size []) := by
    refine ⟨⟨beq_eq_false_iff_ne.mpr (Ne.symm (Nat.ne_of_lt I.big)), _, #[], 0, Heap.get?_push_size _ rfl, ⟨rfl, rfl, rfl⟩, rfl, rfl, List.nodup_nil⟩, ⟨_, Heap.get?_push_size _ rfl⟩, fun ha hb z k => ?_⟩
    obtain ⟨sm, o, es, ep, z1, z2⟩ := z
    exact ⟨sm, o, es, ep, k _ z1, z2⟩
  exact wpAny_Dict_empty ⟨.ref _, _, I.laid (t' := s.toks) (fun _ _ z => Heap.get?_push_of_some _ z) (Nat.le_refl _) new, rfl, h _ (I.hok.fresh (Nat.le_refl _))⟩
end
end Br
/-! Kinds, worths, trees, and the reading as a plain function. -/
namespace Br
open PySem
inductive Kd where
  | num | truth | pair (a b : Kd) | row (a : Kd)
  deriving DecidableEq
/-- the worths of a kind -/
def D : Kd → Type
  | .num => Int
  | .truth => Bool
  | .pair a b => D a × D b
  | .row a => List (D a)
abbrev dI (i : D .num) : Int := i
abbrev dB (b : D .truth) : Bool := b
abbrev dL {a : Kd} (l : D (.row a)) : List (D a) := l
abbrev dLI (l : D (.row .num)) : List Int := l
abbrev dLB (l : D (.row .truth)) : List Bool := l
abbrev dLL {a : Kd} (l : D (.row (.row a))) : List (List (D a)) := l
def Kd.depth : Kd → Nat
  | .num => 1
  | .truth => 1
  | .pair a b => 1 + max a.depth b.depth
  | .row a => 1 + a.depth
abbrev bnd : Int := 1000000000000000000
/-- a worth within its bounds -/
def Fit : (k : Kd) → D k → Prop
  | .num, i => -bnd ≤ (dI i) ∧ (dI i) ≤ bnd
  | .truth, _ => True
  | .pair a b, p => Fit a p.1 ∧ Fit b p.2
  | .row a, l => (dL l).length ≤ 200 ∧ ∀ x ∈ (dL l), Fit a x
inductive Wd where
  | great | nought | beyond | empty | far | unlike
  deriving DecidableEq
def Wd.str : Wd → Str
  | .great => "great"
  | .nought => "nought"
  | .beyond => "beyond"
  | .empty => "empty"
  | .far => "far"
  | .unlike => "unlike"
/-- the signs of one part -/
inductive O1 : Kd → Kd → Type where
  | not : O1 .truth .truth
  | first (a b : Kd) : O1 (.pair a b) a
  | second (a b : Kd) : O1 (.pair a b) b
  | one (a : Kd) : O1 a (.row a)
  | upto : O1 .num (.row .num)
  | long (a : Kd) : O1 (.row a) .num
  | sum : O1 (.row .num) .num
  | sums : O1 (.row .num) (.row .num)
  | most : O1 (.row .num) .num
  | flat (a : Kd) : O1 (.row (.row a)) (.row a)
def O1.str {a b : Kd} : O1 a b → Str
  | .not => "not"
  | .first _ _ => "first"
  | .second _ _ => "second"
  | .one _ => "one"
  | .upto => "upto"
  | .long _ => "long"
  | .sum => "sum"
  | .sums => "sums"
  | .most => "most"
  | .flat _ => "flat"
/-- the signs of two parts -/
inductive O2 : Kd → Kd → Kd → Type where
  | add : O2 .num .num .num
  | sub : O2 .num .num .num
  | mul : O2 .num .num .num
  | div : O2 .num .num .num
  | rest : O2 .num .num .num
  | less : O2 .num .num .truth
  | sameN : O2 .num .num .truth
  | sameT : O2 .truth .truth .truth
  | both : O2 .truth .truth .truth
  | pair (a b : Kd) : O2 a b (.pair a b)
  | pick (a : Kd) : O2 (.row a) .num a
  | join (a : Kd) : O2 (.row a) (.row a) (.row a)
  | keep (a : Kd) : O2 (.row a) (.row .truth) (.row a)
  | cut (a : Kd) : O2 (.row a) (.row .num) (.row (.row a))
def O2.str {a b c : Kd} : O2 a b c → Str
  | .add => "add"
  | .sub => "sub"
  | .mul => "mul"
  | .div => "div"
  | .rest => "rest"
  | .less => "less"
  | .sameN => "same"
  | .sameT => "same"
  | .both => "both"
  | .pair _ _ => "pair"
  | .pick _ => "pick"
  | .join _ => "join"
  | .keep _ => "keep"
  | .cut _ => "cut"
/-- the sums of all beginnings -/
def begs (s : Int) : List Int → List Int
  | [] => [s]
  | x :: l => s :: begs (s + x) l
def isBig (i : Int) : Bool := decide (bnd < i) || decide (i < -bnd)
def bigs (l : List Int) : Bool := (begs 0 l).any isBig
def numR (i : Int) : Except Wd Int := if isBig i then .error .great else .ok i
def maxL (x : Int) (l : List Int) : Int := l.foldl max x
/-- the row cut into rows of these lengths -/
def cutL {α : Type} (l : List α) : List Int → List (List α)
  | [] => []
  | n :: ns => l.take n.toNat :: cutL (l.drop n.toNat) ns
def sem1 : {a b : Kd} → O1 a b → D a → Except Wd (D b)
  | _, _, .not, x => .ok (!(dB x))
  | _, _, .first _ _, p => .ok p.1
  | _, _, .second _ _, p => .ok p.2
  | _, _, .one a, x => .ok [x]
  | _, _, .upto, n => if 0 ≤ (dI n) ∧ (dI n) ≤ 200 then .ok ((List.range (dI n).toNat).map fun (i : Nat) => (i : Int)) else .error .far
  | _, _, .long a, l => .ok ((dL l).length : Int)
  | _, _, .sum, l => if bigs l then .error .great else .ok (dLI l).sum
  | _, _, .sums, l => if bigs l then .error .great else .ok (begs 0 l).dropLast
  | _, _, .most, l => match (dLI l) with
    | [] => .error .empty
    | x :: r => .ok (maxL x r)
  | _, _, .flat a, l => if (dLL l).flatten.length ≤ 200 then .ok (dLL l).flatten else .error .far
def sem2 : {a b c : Kd} → O2 a b c → D a → D b → Except Wd (D c)
  | _, _, _, .add, i, j => numR ((dI i) + (dI j))
  | _, _, _, .sub, i, j => numR ((dI i) - (dI j))
  | _, _, _, .mul, i, j => numR ((dI i) * (dI j))
  | _, _, _, .div, i, j => if (dI j) = 0 then .error .nought else .ok ((dI i).fdiv (dI j))
  | _, _, _, .rest, i, j => if (dI j) = 0 then .error .nought else .ok ((dI i).fmod (dI j))
  | _, _, _, .less, i, j => .ok (decide ((dI i) < (dI j)))
  | _, _, _, .sameN, i, j => .ok (decide ((dI i) = (dI j)))
  | _, _, _, .sameT, i, j => .ok (decide ((dB i) = (dB j)))
  | _, _, _, .both, i, j => .ok ((dB i) && (dB j))
  | _, _, _, .pair a b, x, y => .ok (x, y)
  | _, _, _, .pick a, l, n => if 0 ≤ (dI n) then (match (dL l)[(dI n).toNat]? with
    | some x => .ok x
    | none => .error .beyond) else .error .beyond
  | _, _, _, .join a, l, m => if (dL l).length + (dL m).length ≤ 200 then .ok ((dL l) ++ (dL m)) else .error .far
  | _, _, _, .keep a, l, m => if (dL l).length = (dLB m).length then .ok ((((dL l).zip (dLB m)).filter (·.2)).map (·.1)) else .error .unlike
  | _, _, _, .cut a, l, m => if (dLI m).any (fun i => decide (i < 0)) = false ∧ (dLI m).sum = ((dL l).length : Int) then .ok (cutL (dL l) m) else .error .unlike
/-- trees, by their kinds -/
inductive T : Kd → Type where
  | num (n : Int) : T .num
  | yes : T .truth
  | no : T .truth
  | name (k : Kd) (x : Str) : T k
  | none (a : Kd) : T (.row a)
  | op1 {a b : Kd} (o : O1 a b) (t : T a) : T b
  | op2 {a b c : Kd} (o : O2 a b c) (t : T a) (u : T b) : T c
  | lt {a k : Kd} (x : Str) (t : T a) (u : T k) : T k
  | ite {k : Kd} (c : T .truth) (t u : T k) : T k
  | each {a b : Kd} (x : Str) (t : T (.row a)) (u : T b) : T (.row b)
  | times {k : Kd} (x : Str) (n : T .num) (t u : T k) : T k
def T.ht : {k : Kd} → T k → Nat
  | _, .num _ => 1
  | _, .yes => 1
  | _, .no => 1
  | _, .name _ _ => 1
  | _, .none _ => 1
  | _, .op1 _ t => t.ht + 1
  | _, .op2 _ t u => max t.ht u.ht + 1
  | _, .lt _ t u => max t.ht u.ht + 1
  | _, .ite c t u => max c.ht (max t.ht u.ht) + 1
  | _, .each _ t u => max t.ht u.ht + 1
  | _, .times _ n t u => max n.ht (max t.ht u.ht) + 1
theorem T.ht_pos {k : Kd} (t : T k) : 1 ≤ t.ht := by cases t <;> simp only [T.ht] <;> omega
/-- kinds of names -/
abbrev Ctx := Str → Option Kd
def Ctx.put (G : Ctx) (x : Str) (k : Kd) : Ctx := fun y => if y = x then some k else G y
/-- every name is bound with its kind, every number in its bounds -/
def Sc : {k : Kd} → Ctx → T k → Prop
  | _, _, .num n => 0 ≤ n ∧ n ≤ bnd
  | _, _, .yes => True
  | _, _, .no => True
  | _, G, .name k x => G x = some k
  | _, _, .none _ => True
  | _, G, .op1 _ t => Sc G t
  | _, G, .op2 _ t u => Sc G t ∧ Sc G u
  | _, G, .lt (a := a) x t u => Sc G t ∧ Sc (G.put x a) u
  | _, G, .ite c t u => Sc G c ∧ Sc G t ∧ Sc G u
  | _, G, .each (a := a) x t u => Sc G t ∧ Sc (G.put x a) u
  | _, G, .times (k := k) x n t u => Sc G n ∧ Sc G t ∧ Sc (G.put x k) u
def Ctx.le (G G' : Ctx) : Prop := ∀ x k, G x = some k → G' x = some k
theorem Ctx.le.put {G G' : Ctx} (h : G.le G') (x : Str) (k : Kd) : (G.put x k).le (G'.put x k) := fun y j e => by
  unfold Ctx.put at e ⊢
  by_cases c : y = x
  · rw [if_pos c] at e ⊢
    exact e
  · rw [if_neg c] at e ⊢
    exact h y j e
theorem Sc.mono : ∀ {k : Kd} {t : T k} {G G' : Ctx}, Sc G t → G.le G' → Sc G' t := by
  intro k t
  induction t with
  | num n => exact fun h _ => h
  | yes => exact fun h _ => h
  | no => exact fun h _ => h
  | name k x => exact fun h l => l _ _ h
  | none a => exact fun h _ => h
  | op1 o t ih => exact fun h l => ih (show Sc _ t from h) l
  | op2 o t u ih1 ih2 => exact fun h l => ⟨ih1 h.1 l, ih2 h.2 l⟩
  | lt x t u ih1 ih2 => exact fun h l => ⟨ih1 h.1 l, ih2 h.2 (l.put _ _)⟩
  | ite c t u ih1 ih2 ih3 => exact fun h l => ⟨ih1 h.1 l, ih2 h.2.1 l, ih3 h.2.2 l⟩
  | each x t u ih1 ih2 => exact fun h l => ⟨ih1 h.1 l, ih2 h.2 (l.put _ _)⟩
  | times x n t u ih1 ih2 ih3 => exact fun h l => ⟨ih1 h.1 l, ih2 h.2.1 l, ih3 h.2.2 (l.put _ _)⟩
/-- what stands under a name, by its kind -/
abbrev Env := (k : Kd) → Str → D k
def Env.put (r : Env) (x : Str) {a : Kd} (d : D a) : Env := fun k y => if y = x then (if h : a = k then h ▸ d else r k y) else r k y
theorem Env.put_same (r : Env) (x : Str) {a : Kd} (d : D a) : r.put x d a x = d := by
  unfold Env.put
  rw [if_pos rfl, dif_pos rfl]
theorem Env.put_ne (r : Env) {x y : Str} {a k : Kd} (d : D a) (h : y ≠ x) : r.put x d k y = r k y := by
  unfold Env.put
  rw [if_neg h]
/-- what a reading comes to, n pieces noted on the way -/
inductive Res (α : Type) where
  | ok (n : Nat) (a : α)
  | stop (n : Nat) (w : Wd) (p q : List Int)
namespace Res
variable {α β : Type}
def pre (i : Int) (qs : List Int) : Res α → Res α
  | .ok n a => .ok n a
  | .stop n w p q => .stop n w (i :: p) (qs ++ q)
def plus (m : Nat) : Res α → Res α
  | .ok n a => .ok (m + n) a
  | .stop n w p q => .stop (m + n) w p q
def bind (r : Res α) (f : α → Res β) : Res β := match r with
  | .ok n a => (f a).plus n
  | .stop n w p q => .stop n w p q
def cnt : Res α → Nat
  | .ok n _ => n
  | .stop n _ _ _ => n
def fin : Except Wd α → Res α
  | .ok a => .ok 1 a
  | .error w => .stop 0 w [] []
theorem cnt_pre (i : Int) (qs : List Int) (r : Res α) : (r.pre i qs).cnt = r.cnt := by cases r <;> rfl
theorem cnt_plus (m : Nat) (r : Res α) : (r.plus m).cnt = m + r.cnt := by cases r <;> rfl
end Res
def eachR {α β : Type} (f : α → Res β) : Int → List α → Res (List β)
  | _, [] => .ok 0 []
  | i, d :: l => ((f d).pre 1 [i]).bind fun r => (eachR f (i + 1) l).bind fun rs => .ok 0 (r :: rs)
def timesR {α : Type} (f : α → Res α) : Int → Nat → α → Res α
  | _, 0, d => .ok 0 d
  | i, n + 1, d => ((f d).pre 2 [i]).bind fun d' => timesR f (i + 1) n d'
def den : {k : Kd} → T k → Env → Res (D k)
  | _, .num n, _ => .ok 1 n
  | _, .yes, _ => .ok 1 true
  | _, .no, _ => .ok 1 false
  | _, .name k x, r => .ok 0 (r k x)
  | _, .none _, _ => .ok 1 []
  | _, .op1 o t, r => ((den t r).pre 0 []).bind fun d => .fin (sem1 o d)
  | _, .op2 o t u, r => ((den t r).pre 0 []).bind fun d => ((den u r).pre 1 []).bind fun e => .fin (sem2 o d e)
  | _, .lt x t u, r => ((den t r).pre 0 []).bind fun d => (den u (r.put x d)).pre 1 []
  | _, .ite c t u, r => ((den c r).pre 0 []).bind fun b => (match (dB b) with
    | true => (den t r).pre 1 []
    | false => (den u r).pre 2 []).bind fun d => .ok 1 d
  | _, .each (a := a) (b := b) x t u, r => ((den t r).pre 0 []).bind fun l => (eachR (fun d => den u (r.put x d)) 0 (dL l)).bind fun m => .ok 1 m
  | _, .times (k := k) x n t u, r => ((den n r).pre 0 []).bind fun m => ((den t r).pre 1 []).bind fun d =>
    if 0 ≤ (dI m) ∧ (dI m) ≤ 60 then (timesR (fun d => den u (r.put x (a := k) d)) 0 (dI m).toNat d).bind fun e => .ok 1 e else .stop 0 .far [] []
end Br
/-! What a reading comes to stays within the bounds. -/
namespace Br
open PySem
theorem isBig_false {i : Int} : isBig i = false ↔ -bnd ≤ i ∧ i ≤ bnd := by
  unfold isBig
  rw [Bool.or_eq_false_iff, decide_eq_false_iff_not, decide_eq_false_iff_not]
  omega
theorem isBig_true {i : Int} : isBig i = true ↔ ¬ (-bnd ≤ i ∧ i ≤ bnd) := by
  rw [← isBig_false]
  cases isBig i <;> simp
theorem begs_length (s : Int) : ∀ l : List Int, (begs s l).length = l.length + 1
  | [] => rfl
  | x :: l => by
    show (begs (s + x) l).length + 1 = l.length + 1 + 1
    rw [begs_length]
theorem begs_ne (s : Int) : ∀ l : List Int, begs s l ≠ []
  | [] => by simp [begs]
  | x :: l => by simp [begs]
theorem begs_sum (s : Int) : ∀ l : List Int, s + l.sum ∈ begs s l
  | [] => by simp [begs]
  | x :: l => by
    have h := begs_sum (s + x) l
    rw [List.sum_cons, ← Int.add_assoc]
    exact List.mem_cons_of_mem _ h
theorem begs_last (s : Int) : ∀ l : List Int, (begs s l).getLast? = some (s + l.sum)
  | [] => by simp [begs]
  | x :: l => by
    have h := begs_last (s + x) l
    have ne := begs_ne (s + x) l
    obtain ⟨y, r, e⟩ := List.exists_cons_of_ne_nil ne
    show (s :: begs (s + x) l).getLast? = _
    rw [e, List.getLast?_cons_cons, ← e, h, List.sum_cons, Int.add_assoc]
theorem bigs_mem {l : List Int} (h : bigs l = false) {b : Int} (hb : b ∈ begs 0 l) : -bnd ≤ b ∧ b ≤ bnd := by
  unfold bigs at h
  rw [List.any_eq_false] at h
  exact isBig_false.mp (Bool.eq_false_iff.mpr (h b hb))
theorem maxL_mem : ∀ (l : List Int) (x : Int), maxL x l ∈ x :: l
  | [], x => by simp [maxL]
  | y :: l, x => by
    have h := maxL_mem l (max x y)
    show (l.foldl max (max x y)) ∈ x :: y :: l
    rcases List.mem_cons.mp h with e | e
    · have e' : l.foldl max (max x y) = max x y := e
      rw [e']
      rcases Int.le_total x y with c | c
      · rw [Int.max_eq_right c]
        simp
      · rw [Int.max_eq_left c]
        simp
    · exact List.mem_cons_of_mem _ (List.mem_cons_of_mem _ e)
theorem maxL_le : ∀ (l : List Int) (x : Int), x ≤ maxL x l ∧ ∀ y ∈ l, y ≤ maxL x l
  | [], x => ⟨Int.le_refl _, fun y h => by simp at h⟩
  | y :: l, x => by
    obtain ⟨h1, h2⟩ := maxL_le l (max x y)
    refine ⟨Int.le_trans (Int.le_max_left x y) h1, fun z hz => ?_⟩
    rcases List.mem_cons.mp hz with e | e
    · rw [e]
      exact Int.le_trans (Int.le_max_right x y) h1
    · exact h2 z e
theorem fdiv_abs (a : Int) {b : Int} (h : b ≠ 0) : (a.fdiv b).natAbs ≤ a.natAbs := by
  rcases Int.lt_or_gt_of_ne h with c | c
  · rw [← Int.neg_fdiv_neg, Int.fdiv_eq_ediv_of_nonneg _ (by omega)]
    have := Int.natAbs_ediv_le_natAbs (-a) (-b)
    omega
  · rw [Int.fdiv_eq_ediv_of_nonneg _ (by omega)]
    exact Int.natAbs_ediv_le_natAbs a b
theorem fmod_abs (a : Int) {b : Int} (h : b ≠ 0) : (a.fmod b).natAbs < b.natAbs := by
  rcases Int.lt_or_gt_of_ne h with c | c
  · have e := Int.neg_fmod_neg a b
    have h1 := Int.fmod_nonneg_of_pos (-a) (b := -b) (by omega)
    have h2 := Int.fmod_lt_of_pos (-a) (b := -b) (by omega)
    omega
  · have h1 := Int.fmod_nonneg_of_pos a c
    have h2 := Int.fmod_lt_of_pos a c
    omega
theorem cutL_length {α : Type} : ∀ (m : List Int) (l : List α), (cutL l m).length = m.length
  | [], _ => rfl
  | n :: ns, l => by
    show (cutL (l.drop n.toNat) ns).length + 1 = ns.length + 1
    rw [cutL_length ns]
theorem cutL_mem {α : Type} : ∀ (m : List Int) (l : List α) (y : List α), y ∈ cutL l m → y.length ≤ l.length ∧ ∀ x ∈ y, x ∈ l
  | [], _, _, h => by simp [cutL] at h
  | n :: ns, l, y, h => by
    rcases List.mem_cons.mp h with e | e
    · rw [e, List.length_take]
      exact ⟨Nat.min_le_right _ _, fun x hx => List.mem_of_mem_take hx⟩
    · obtain ⟨h1, h2⟩ := cutL_mem ns _ y e
      rw [List.length_drop] at h1
      exact ⟨by omega, fun x hx => List.mem_of_mem_drop (h2 x hx)⟩
theorem numR_ok {i j : Int} (h : numR i = .ok j) : j = i ∧ -bnd ≤ i ∧ i ≤ bnd := by
  unfold numR at h
  cases e : isBig i with
  | true => rw [e, if_pos rfl] at h; cases h
  | false =>
    rw [e, if_neg Bool.false_ne_true] at h
    cases h
    exact ⟨rfl, isBig_false.mp e⟩
theorem sem1_fit {a b : Kd} (o : O1 a b) {x : D a} {y : D b} (hx : Fit a x) (h : sem1 o x = .ok y) : Fit b y := by
  cases o with
  | not => trivial
  | first _ _ =>
    cases h
    exact hx.1
  | second _ _ =>
    cases h
    exact hx.2
  | one _ =>
    cases h
    refine ⟨by show 1 ≤ 200; decide, fun z hz => ?_⟩
    rw [List.mem_singleton.mp hz]
    exact hx
  | upto =>
    have hb : bnd = 1000000000000000000 := rfl
    by_cases c : 0 ≤ dI x ∧ dI x ≤ 200
    · have h' : (if 0 ≤ (dI x) ∧ (dI x) ≤ 200 then .ok ((List.range (dI x).toNat).map fun (i : Nat) => (i : Int)) else .error .far) = (.ok y : Except Wd (List Int)) := h
      rw [if_pos c] at h'
      cases h'
      have c2 : (dI x).toNat ≤ 200 := by omega
      have e2 : (List.map (fun (i : Nat) => (i : Int)) (List.range (dI x).toNat)).length = (dI x).toNat := by rw [List.length_map, List.length_range]
      refine ⟨Nat.le_trans (Nat.le_of_eq e2) c2, fun z hz => ?_⟩
      obtain ⟨i, hi, rfl⟩ := List.mem_map.mp hz
      have hi' := List.mem_range.mp hi
      show -bnd ≤ (i : Int) ∧ (i : Int) ≤ bnd
      omega
    · have h' : (if 0 ≤ (dI x) ∧ (dI x) ≤ 200 then .ok ((List.range (dI x).toNat).map fun (i : Nat) => (i : Int)) else .error .far) = (.ok y : Except Wd (List Int)) := h
      rw [if_neg c] at h'
      cases h'
  | long _ =>
    cases h
    have := hx.1
    show -bnd ≤ ((dL x).length : Int) ∧ ((dL x).length : Int) ≤ bnd
    have l : (dL x).length ≤ 200 := hx.1
    have hb : bnd = 1000000000000000000 := rfl
    omega
  | sum =>
    have h' : (if bigs (dLI x) then .error .great else .ok (dLI x).sum) = (.ok y : Except Wd (Int)) := h
    cases e : bigs (dLI x) with
    | true => rw [e, if_pos rfl] at h'; cases h'
    | false =>
      rw [e, if_neg Bool.false_ne_true] at h'
      cases h'
      have m := begs_sum 0 (dLI x)
      rw [Int.zero_add] at m
      exact bigs_mem e m
  | sums =>
    have h' : (if bigs (dLI x) then .error .great else .ok (begs 0 (dLI x)).dropLast) = (.ok y : Except Wd (List Int)) := h
    cases e : bigs (dLI x) with
    | true => rw [e, if_pos rfl] at h'; cases h'
    | false =>
      rw [e, if_neg Bool.false_ne_true] at h'
      cases h'
      refine ⟨?_, fun z hz => bigs_mem e (List.dropLast_subset _ hz)⟩
      show (begs 0 (dLI x)).dropLast.length ≤ 200
      rw [List.length_dropLast, begs_length]
      exact hx.1
  | most =>
    have hx' : ∀ i ∈ dLI x, Fit .num i := hx.2
    have h' : (match (dLI x) with
      | [] => .error .empty
      | x :: r => .ok (maxL x r)) = (.ok y : Except Wd Int) := h
    revert h' hx'
    generalize dLI x = l
    intro hx' h'
    cases l with
    | nil => cases h'
    | cons z r =>
      cases h'
      exact hx' _ (maxL_mem r z)
  | flat a =>
    have h' : (if (dLL x).flatten.length ≤ 200 then .ok (dLL x).flatten else .error .far) = (.ok y : Except Wd (List (D a))) := h
    by_cases c : (dLL x).flatten.length ≤ 200
    · rw [if_pos c] at h'
      cases h'
      refine ⟨c, fun z hz => ?_⟩
      obtain ⟨l, hl, hz'⟩ := List.mem_flatten.mp hz
      exact (hx.2 l hl).2 z hz'
    · rw [if_neg c] at h'
      cases h'
theorem sem2_fit {a b c : Kd} (o : O2 a b c) {x : D a} {y : D b} {z : D c} (hx : Fit a x) (hy : Fit b y) (h : sem2 o x y = .ok z) : Fit c z := by
  cases o with
  | add =>
    obtain ⟨rfl, h1⟩ := numR_ok h
    exact h1
  | sub =>
    obtain ⟨rfl, h1⟩ := numR_ok h
    exact h1
  | mul =>
    obtain ⟨rfl, h1⟩ := numR_ok h
    exact h1
  | div =>
    have h' : (if (dI y) = 0 then .error .nought else .ok ((dI x).fdiv (dI y))) = (.ok z : Except Wd Int) := h
    by_cases c : dI y = 0
    · rw [if_pos c] at h'
      cases h'
    · rw [if_neg c] at h'
      cases h'
      have m := fdiv_abs (dI x) c
      have hx' : -bnd ≤ dI x ∧ dI x ≤ bnd := hx
      show -bnd ≤ (dI x).fdiv (dI y) ∧ (dI x).fdiv (dI y) ≤ bnd
      omega
  | rest =>
    have h' : (if (dI y) = 0 then .error .nought else .ok ((dI x).fmod (dI y))) = (.ok z : Except Wd Int) := h
    by_cases c : dI y = 0
    · rw [if_pos c] at h'
      cases h'
    · rw [if_neg c] at h'
      cases h'
      have m := fmod_abs (dI x) c
      have hy' : -bnd ≤ dI y ∧ dI y ≤ bnd := hy
      show -bnd ≤ (dI x).fmod (dI y) ∧ (dI x).fmod (dI y) ≤ bnd
      omega
  | less => trivial
  | sameN => trivial
  | sameT => trivial
  | both => trivial
  | pair _ _ =>
    cases h
    exact ⟨hx, hy⟩
  | pick _ =>
    have h' : (if 0 ≤ (dI y) then (match (dL x)[(dI y).toNat]? with
      | some x => .ok x
      | none => .error .beyond) else .error .beyond) = (.ok z : Except Wd _) := h
    by_cases c : 0 ≤ dI y
    · rw [if_pos c] at h'
      cases e : (dL x)[(dI y).toNat]? with
      | none => rw [e] at h'; cases h'
      | some v =>
        rw [e] at h'
        cases h'
        exact hx.2 _ (List.mem_of_getElem? e)
    · rw [if_neg c] at h'
      cases h'
  | join _ =>
    have h' : (if (dL x).length + (dL y).length ≤ 200 then .ok ((dL x) ++ (dL y)) else .error .far) = (.ok z : Except Wd (List _)) := h
    by_cases c : (dL x).length + (dL y).length ≤ 200
    · rw [if_pos c] at h'
      cases h'
      refine ⟨by show (dL x ++ dL y).length ≤ 200; rw [List.length_append]; exact c, fun v hv => ?_⟩
      rcases List.mem_append.mp hv with e | e
      · exact hx.2 v e
      · exact hy.2 v e
    · rw [if_neg c] at h'
      cases h'
  | keep _ =>
    have h' : (if (dL x).length = (dLB y).length then .ok ((((dL x).zip (dLB y)).filter (·.2)).map (·.1)) else .error .unlike) = (.ok z : Except Wd (List _)) := h
    by_cases c : (dL x).length = (dLB y).length
    · rw [if_pos c] at h'
      cases h'
      refine ⟨?_, fun v hv => ?_⟩
      · show (List.map _ (List.filter _ _)).length ≤ 200
        rw [List.length_map]
        refine Nat.le_trans (List.length_filter_le _ _) ?_
        rw [List.length_zip]
        exact Nat.le_trans (Nat.min_le_left _ _) hx.1
      · obtain ⟨p, hp, rfl⟩ := List.mem_map.mp hv
        have hp' := (List.mem_filter.mp hp).1
        exact hx.2 _ (List.of_mem_zip hp').1
    · rw [if_neg c] at h'
      cases h'
  | cut _ =>
    have h' : (if (dLI y).any (fun i => decide (i < 0)) = false ∧ (dLI y).sum = ((dL x).length : Int) then .ok (cutL (dL x) y) else .error .unlike) = (.ok z : Except Wd (List (List _))) := h
    by_cases c : (dLI y).any (fun i => decide (i < 0)) = false ∧ (dLI y).sum = ((dL x).length : Int)
    · rw [if_pos c] at h'
      cases h'
      refine ⟨?_, fun v hv => ?_⟩
      · show (cutL (dL x) (dLI y)).length ≤ 200
        rw [cutL_length]
        exact hy.1
      · obtain ⟨h1, h2⟩ := cutL_mem (dLI y) (dL x) v hv
        exact ⟨Nat.le_trans h1 hx.1, fun u hu => hx.2 u (h2 u hu)⟩
    · rw [if_neg c] at h'
      cases h'
/-- the names' worths fit -/
def FitE (G : Ctx) (r : Env) : Prop := ∀ x k, G x = some k → Fit k (r k x)
theorem FitE.put {G : Ctx} {r : Env} (h : FitE G r) (x : Str) {a : Kd} {d : D a} (hd : Fit a d) : FitE (G.put x a) (r.put x d) := fun y k e => by
  unfold Ctx.put at e
  by_cases c : y = x
  · rw [if_pos c] at e
    cases e
    subst c
    rw [Env.put_same]
    exact hd
  · rw [if_neg c] at e
    rw [Env.put_ne r d c]
    exact h y k e
namespace Res
variable {α β : Type}
theorem pre_ok {r : Res α} {i : Int} {qs : List Int} {n : Nat} {a : α} (h : r.pre i qs = .ok n a) : r = .ok n a := by
  cases r with
  | ok m b => exact h
  | stop m w p q => cases h
theorem bind_ok {r : Res α} {f : α → Res β} {n : Nat} {b : β} (h : r.bind f = .ok n b) : ∃ m a k, r = .ok m a ∧ f a = .ok k b ∧ n = m + k := by
  cases r with
  | stop m w p q => cases h
  | ok m a =>
    have h' : (f a).plus m = .ok n b := h
    cases e : f a with
    | stop k w p q => rw [e] at h'; cases h'
    | ok k c =>
      rw [e] at h'
      cases h'
      exact ⟨m, a, k, rfl, e, rfl⟩
theorem fin_ok {e : Except Wd α} {n : Nat} {a : α} (h : Res.fin e = .ok n a) : e = .ok a := by
  cases e with
  | error w => cases h
  | ok b => cases h; rfl
end Res
theorem eachR_ok {α β : Type} {f : α → Res β} {F : β → Prop} : ∀ {l : List α} {i : Int} {n : Nat} {m : List β}, (∀ d ∈ l, ∀ k r, f d = .ok k r → F r) → eachR f i l = .ok n m → m.length = l.length ∧ ∀ y ∈ m, F y
  | [], _, _, _, _, h => by
    cases h
    exact ⟨rfl, fun y hy => by simp at hy⟩
  | d :: l, i, n, m, hf, h => by
    obtain ⟨_, r, _, h1, h2, _⟩ := Res.bind_ok h
    obtain ⟨_, rs, _, h3, h4, _⟩ := Res.bind_ok h2
    cases h4
    obtain ⟨e1, e2⟩ := eachR_ok (fun d hd => hf d (List.mem_cons_of_mem _ hd)) h3
    refine ⟨by rw [List.length_cons, List.length_cons, e1], fun y hy => ?_⟩
    rcases List.mem_cons.mp hy with e | e
    · rw [e]
      exact hf d List.mem_cons_self _ _ (Res.pre_ok h1)
    · exact e2 y e
theorem timesR_ok {α : Type} {f : α → Res α} {F : α → Prop} (hf : ∀ d k r, F d → f d = .ok k r → F r) : ∀ {m : Nat} {i : Int} {n : Nat} {d e : α}, F d → timesR f i m d = .ok n e → F e
  | 0, _, _, _, _, hd, h => by
    cases h
    exact hd
  | m + 1, i, n, d, e, hd, h => by
    obtain ⟨_, d', _, h1, h2, _⟩ := Res.bind_ok h
    exact timesR_ok hf (hf d _ d' hd (Res.pre_ok h1)) h2
theorem den_fit : ∀ {k : Kd} (t : T k) {G : Ctx} {r : Env} {n : Nat} {d : D k}, Sc G t → FitE G r → den t r = .ok n d → Fit k d := by
  intro k t
  induction t with
  | num m =>
    intro G r n d hs hr h
    cases h
    have := hs.1
    have := hs.2
    exact ⟨by show -bnd ≤ m; omega, hs.2⟩
  | yes => intro G r n d hs hr h; trivial
  | no => intro G r n d hs hr h; trivial
  | name k x =>
    intro G r n d hs hr h
    cases h
    exact hr _ _ hs
  | none a =>
    intro G r n d hs hr h
    cases h
    exact ⟨by show 0 ≤ 200; decide, fun x hx => by simp at hx⟩
  | op1 o t ih =>
    intro G r n d hs hr h
    obtain ⟨_, x, _, h1, h2, _⟩ := Res.bind_ok h
    exact sem1_fit o (ih hs hr (Res.pre_ok h1)) (Res.fin_ok h2)
  | op2 o t u ih1 ih2 =>
    intro G r n d hs hr h
    obtain ⟨_, x, _, h1, h2, _⟩ := Res.bind_ok h
    obtain ⟨_, y, _, h3, h4, _⟩ := Res.bind_ok h2
    exact sem2_fit o (ih1 hs.1 hr (Res.pre_ok h1)) (ih2 hs.2 hr (Res.pre_ok h3)) (Res.fin_ok h4)
  | lt x t u ih1 ih2 =>
    intro G r n d hs hr h
    obtain ⟨_, y, _, h1, h2, _⟩ := Res.bind_ok h
    exact ih2 hs.2 (hr.put x (ih1 hs.1 hr (Res.pre_ok h1))) (Res.pre_ok h2)
  | ite c t u ih1 ih2 ih3 =>
    intro G r n d hs hr h
    obtain ⟨_, y, _, h1, h2, _⟩ := Res.bind_ok h
    obtain ⟨_, z, _, h3, h4, _⟩ := Res.bind_ok h2
    cases h4
    cases hy : (show Bool from y) with
    | true =>
      rw [hy] at h3
      exact ih2 hs.2.1 hr (Res.pre_ok h3)
    | false =>
      rw [hy] at h3
      exact ih3 hs.2.2 hr (Res.pre_ok h3)
  | each x t u ih1 ih2 =>
    intro G r n d hs hr h
    obtain ⟨_, l, _, h1, h2, _⟩ := Res.bind_ok h
    obtain ⟨_, m, _, h3, h4, _⟩ := Res.bind_ok h2
    cases h4
    have hl := ih1 hs.1 hr (Res.pre_ok h1)
    obtain ⟨e1, e2⟩ := eachR_ok (F := Fit _) (fun y hy _ _ h5 => ih2 hs.2 (hr.put x (hl.2 y hy)) h5) h3
    exact ⟨Nat.le_trans (Nat.le_of_eq e1) hl.1, e2⟩
  | times x m t u ih1 ih2 ih3 =>
    intro G r n d hs hr h
    obtain ⟨_, y, _, h1, h2, _⟩ := Res.bind_ok h
    obtain ⟨_, z, _, h3, h4, _⟩ := Res.bind_ok h2
    split at h4
    · obtain ⟨_, v, _, h5, h6, _⟩ := Res.bind_ok h4
      cases h6
      exact timesR_ok (fun w _ _ hw h7 => ih3 hs.2.2 (hr.put x hw) h7) (ih2 hs.2.1 hr (Res.pre_ok h3)) h5
    · cases h4
end Br
/-! How worths, trees, places, names stand in the heap. -/
namespace Br
open PySem L2
open PySem.Spec PyProof.Rows
/-- no tuple at c -/
def NoT (H : Hp) (c : Addr) : Prop := (∃ o, H c = some o) ∧ ∀ xs, H c ≠ some (.tup xs)
/-- the lists not among c, the tuples stand -/
structure Lk (c : Addr → Prop) (H H' : Hp) : Prop where
  lst : ∀ a xs, ¬ c a → H a = some (.lst xs) → H' a = some (.lst xs)
  tup : ∀ a xs, H a = some (.tup xs) → H' a = some (.tup xs)
/-- all but c stands -/
structure But (c : Addr) (H H' : Hp) : Prop where
  old : ∀ a o, a ≠ c → H a = some o → H' a = some o
  tup : ∀ a xs, H a = some (.tup xs) → H' a = some (.tup xs)
  dom : ∀ a o, H a = some o → ∃ o', H' a = some o'
/-- all stands -/
def Kp (H H' : Hp) : Prop := ∀ a o, H a = some o → H' a = some o
section
variable {c p : Addr} {H H' H'' : Hp} {o : HO}
theorem Kp.refl : Kp H H := fun _ _ h => h
theorem Kp.trans (h : Kp H H') (h' : Kp H' H'') : Kp H H'' := fun a o e => h' a o (h a o e)
theorem Kp.new (hp : H p = none) : Kp H (upd H p o) := fun a u e => by
  rw [upd_ne (ne_of_none e hp)]
  exact e
/-- a new object, changed since -/
theorem Kp.put (h : Kp H H') (hp : H p = none) : Kp H (upd H' p o) := fun a u e => by
  rw [upd_ne (ne_of_none e hp)]
  exact h a u e
theorem Kp.but (h : Kp H H') : But c H H' := ⟨fun a o _ e => h a o e, fun a xs e => h a _ e, fun a o e => ⟨o, h a o e⟩⟩
theorem Kp.free (h : Kp H H') (e : H' p = none) : H p = none := by
  cases q : H p with
  | none => rfl
  | some u => rw [h p u q] at e; cases e
theorem But.refl : But c H H := ⟨fun _ _ _ h => h, fun _ _ h => h, fun _ o h => ⟨o, h⟩⟩
theorem But.trans (h : But c H H') (h' : But c H' H'') : But c H H'' := ⟨fun a o n e => h'.old a o n (h.old a o n e), fun a xs e => h'.tup a xs (h.tup a xs e), fun a o e => by
  obtain ⟨o1, e1⟩ := h.dom a o e
  exact h'.dom a o1 e1⟩
theorem But.free (h : But c H H') (e : H' p = none) : H p = none := by
  cases q : H p with
  | none => rfl
  | some u =>
    obtain ⟨o', z⟩ := h.dom p u q
    rw [z] at e
    cases e
theorem But.put (h : But c H H') (hp : H p = none) : But c H (upd H' p o) := ⟨fun a u n e => by
    rw [upd_ne (ne_of_none e hp)]
    exact h.old a u n e, fun a xs e => by
    rw [upd_ne (ne_of_none e hp)]
    exact h.tup a xs e, fun a u e => by
    rw [upd_ne (ne_of_none e hp)]
    exact h.dom a u e⟩
theorem But.new (hp : H p = none) : But c H (upd H p o) := But.refl.put hp
theorem But.at (n : NoT H c) : But c H (upd H c o) := ⟨fun a u d e => by
    rw [upd_ne d]
    exact e, fun a xs e => by
    rw [upd_ne (fun z => n.2 xs (by rw [← z]; exact e))]
    exact e, fun a u e => by
    by_cases d : a = c
    · exact ⟨o, by rw [d]; exact upd_same⟩
    · exact ⟨u, by rw [upd_ne d]; exact e⟩⟩
/-- of all but p, nothing but c when p is new -/
theorem But.of_new (h : But c H H') (hp : H p = none) (h' : But p H' H'') : But c H H'' := ⟨fun a u n e => h'.old a u (ne_of_none e hp) (h.old a u n e), fun a xs e => h'.tup a xs (h.tup a xs e), fun a u e => by
  obtain ⟨o1, e1⟩ := h.dom a u e
  exact h'.dom a o1 e1⟩
theorem Kp.of_new (h : Kp H H') (hp : H p = none) (h' : But p H' H'') : Kp H H'' := fun a u e => h'.old a u (ne_of_none e hp) (h a u e)
end
section
variable {c : Addr → Prop} {m p : Addr} {H H' H'' : Hp} {o : HO}
theorem But.lk (h : But m H H') (hm : c m) : Lk c H H' := ⟨fun a xs n e => h.old a _ (fun z => n (by rw [z]; exact hm)) e, h.tup⟩
theorem Lk.refl : Lk c H H := ⟨fun _ _ _ h => h, fun _ _ h => h⟩
theorem Lk.trans (h : Lk c H H') (h' : Lk c H' H'') : Lk c H H'' := ⟨fun a xs n e => h'.lst a xs n (h.lst a xs n e), fun a xs e => h'.tup a xs (h.tup a xs e)⟩
theorem Kp.lk (h : Kp H H') : Lk c H H' := ⟨fun a xs _ e => h a _ e, fun a xs e => h a _ e⟩
theorem Lk.new (hp : H p = none) : Lk c H (upd H p o) := (Kp.new hp).lk
/-- a dict changed -/
theorem Lk.dk {kvs : List (Key × V)} (e : H p = some (.dK kvs)) : Lk c H (upd H p o) := ⟨fun a xs n z => by
    rw [upd_ne (fun q => by rw [q, e] at z; cases z)]
    exact z, fun a xs z => by
    rw [upd_ne (fun q => by rw [q, e] at z; cases z)]
    exact z⟩
/-- what is to be avoided stands, and is no tuple -/
def Av (c : Addr → Prop) (H : Hp) : Prop := ∀ a, c a → NoT H a
theorem Av.new (n : Av c H) (hp : H p = none) : ¬ c p := fun e => by
  obtain ⟨⟨o, h⟩, _⟩ := n p e
  rw [h] at hp
  cases hp
theorem Av.ne (n : Av c H) {xs : List V} (h : H p = some (.tup xs)) : ¬ c p := fun e => (n p e).2 xs h
theorem Lk.at (hm : c m) (n : NoT H m) : Lk c H (upd H m o) := ⟨fun a xs d e => by
    rw [upd_ne (fun z => d (by rw [z]; exact hm))]
    exact e, fun a xs e => by
    rw [upd_ne (fun z => n.2 xs (by rw [← z]; exact e))]
    exact e⟩
end
section
variable {c p : Addr} {H H' H'' : Hp} {o : HO}
theorem NoT.ne (n : NoT H c) {xs : List V} (h : H p = some (.tup xs)) : p ≠ c := fun e => n.2 xs (by rw [← e]; exact h)
theorem NoT.new (n : NoT H c) (hp : H p = none) : p ≠ c := fun e => by
  obtain ⟨o, h⟩ := n.1
  rw [e, h] at hp
  cases hp
theorem NoT.kp (n : NoT H c) (k : Kp H H') : NoT H' c := by
  obtain ⟨o, e⟩ := n.1
  exact ⟨⟨o, k c o e⟩, fun xs z => n.2 xs (by rw [k c o e] at z; rw [e]; exact z)⟩
theorem Av.kp {c : Addr → Prop} (n : Av c H) (k : Kp H H') : Av c H' := fun a h => (n a h).kp k
theorem Av.more {c : Addr → Prop} {g : Addr} (n : Av c H) (h : NoT H g) : Av (fun a => c a ∨ a = g) H := fun a e => by
  rcases e with e | e
  · exact n a e
  · rw [e]
    exact h
theorem NoT.of {o : HO} (e : H c = some o) (d : ∀ xs, o ≠ .tup xs) : NoT H c := ⟨⟨o, e⟩, fun xs z => d xs (by rw [e] at z; exact Option.some.inj z)⟩
end
/-- the worth d of kind k stands at v, not at c -/
def RepW (c : Addr → Prop) (H : Hp) : (k : Kd) → V → D k → Prop
  | .num, v, i => v = .int (dI i)
  | .truth, v, b => v = .bl (dB b)
  | .pair a b, v, p => ∃ q x y, v = .ref q ∧ H q = some (.tup [x, y]) ∧ ¬ c q ∧ RepW c H a x p.1 ∧ RepW c H b y p.2
  | .row a, v, l => ∃ q xs, v = .ref q ∧ H q = some (.lst xs) ∧ ¬ c q ∧ Paired (RepW c H a) xs (dL l)
theorem RepW.mono {c : Addr → Prop} {H H' : Hp} (h : Lk c H H') : ∀ {k : Kd} {v : V} {d : D k}, RepW c H k v d → RepW c H' k v d := by
  intro k
  induction k with
  | num => exact fun r => r
  | truth => exact fun r => r
  | pair a b iha ihb =>
    intro v d r
    obtain ⟨q, x, y, e, hq, n, r1, r2⟩ := r
    exact ⟨q, x, y, e, h.tup q _ hq, n, iha r1, ihb r2⟩
  | row a ih =>
    intro v d r
    obtain ⟨q, xs, e, hq, n, r1⟩ := r
    exact ⟨q, xs, e, h.lst q _ n hq, n, Paired.mapP r1 fun _ _ z => ih z⟩
/-- a worth stands apart from what else is new, or neither list nor tuple -/
theorem RepW.recast {c c' : Addr → Prop} {H : Hp} (h : ∀ a, c' a → c a ∨ ((∀ xs, H a ≠ some (.tup xs)) ∧ ∀ xs, H a ≠ some (.lst xs))) : ∀ {k : Kd} {v : V} {d : D k}, RepW c H k v d → RepW c' H k v d := by
  intro k
  induction k with
  | num => exact fun r => r
  | truth => exact fun r => r
  | pair a b iha ihb =>
    intro v d r
    obtain ⟨q, x, y, e, hq, n, r1, r2⟩ := r
    refine ⟨q, x, y, e, hq, fun z => ?_, iha r1, ihb r2⟩
    rcases h q z with w | ⟨w, _⟩
    · exact n w
    · exact w _ hq
  | row a ih =>
    intro v d r
    obtain ⟨q, xs, e, hq, n, r1⟩ := r
    refine ⟨q, xs, e, hq, fun z => ?_, Paired.mapP r1 fun _ _ z => ih z⟩
    rcases h q z with w | ⟨_, w⟩
    · exact n w
    · exact w _ hq
/-- avoiding one more that is new -/
theorem RepW.more {c : Addr → Prop} {g : Addr} {H : Hp} (hg : H g = none) {k : Kd} {v : V} {d : D k} (r : RepW c H k v d) : RepW (fun a => c a ∨ a = g) H k v d := r.recast fun a e => by
  rcases e with e | e
  · exact .inl e
  · exact .inr ⟨fun xs z => (by rw [e, hg] at z; cases z), fun xs z => (by rw [e, hg] at z; cases z)⟩
theorem RepW.less {c : Addr → Prop} {g : Addr} {H : Hp} {k : Kd} {v : V} {d : D k} (r : RepW (fun a => c a ∨ a = g) H k v d) : RepW c H k v d := r.recast fun a e => .inl (.inl e)
/-- tuples kept -/
def Tk (H H' : Hp) : Prop := ∀ a xs, H a = some (.tup xs) → H' a = some (.tup xs)
theorem Lk.tk {c : Addr → Prop} {H H' : Hp} (h : Lk c H H') : Tk H H' := h.tup
theorem But.tk {c : Addr} {H H' : Hp} (h : But c H H') : Tk H H' := h.tup
theorem Kp.tk {H H' : Hp} (h : Kp H H') : Tk H H' := fun a xs e => h a _ e
theorem Tk.trans {H H' H'' : Hp} (h : Tk H H') (h' : Tk H' H'') : Tk H H'' := fun a xs e => h' a xs (h a xs e)
/-- the kind k stands at v -/
def KindAt (H : Hp) : V → Kd → Prop
  | v, .num => ∃ p, v = .ref p ∧ H p = some (.tup [.str "num"])
  | v, .truth => ∃ p, v = .ref p ∧ H p = some (.tup [.str "truth"])
  | v, .pair a b => ∃ p x y, v = .ref p ∧ H p = some (.tup [.str "pair", x, y]) ∧ KindAt H x a ∧ KindAt H y b
  | v, .row a => ∃ p x, v = .ref p ∧ H p = some (.tup [.str "row", x]) ∧ KindAt H x a
theorem KindAt.mono {H H' : Hp} (h : Tk H H') : ∀ {k : Kd} {v : V}, KindAt H v k → KindAt H' v k := by
  intro k
  induction k with
  | num => exact fun ⟨p, e, z⟩ => ⟨p, e, h p _ z⟩
  | truth => exact fun ⟨p, e, z⟩ => ⟨p, e, h p _ z⟩
  | pair a b iha ihb => exact fun ⟨p, x, y, e, z, r1, r2⟩ => ⟨p, x, y, e, h p _ z, iha r1, ihb r2⟩
  | row a ih => exact fun ⟨p, x, e, z, r1⟩ => ⟨p, x, e, h p _ z, ih r1⟩
/-- the tree t stands at v -/
def TreeAt (H : Hp) : {k : Kd} → V → T k → Prop
  | _, v, .num n => ∃ p, v = .ref p ∧ H p = some (.tup [.str "num", .int n])
  | _, v, .yes => ∃ p, v = .ref p ∧ H p = some (.tup [.str "yes"])
  | _, v, .no => ∃ p, v = .ref p ∧ H p = some (.tup [.str "no"])
  | _, v, .name k x => ∃ p, v = .ref p ∧ H p = some (.tup [.str "name", .str x])
  | _, v, .none a => ∃ p z, v = .ref p ∧ H p = some (.tup [.str "none", z])
  | _, v, .op1 o t => ∃ p x, v = .ref p ∧ H p = some (.tup [.str o.str, x]) ∧ TreeAt H x t
  | _, v, .op2 o t u => ∃ p x y, v = .ref p ∧ H p = some (.tup [.str o.str, x, y]) ∧ TreeAt H x t ∧ TreeAt H y u
  | _, v, .lt n t u => ∃ p x y, v = .ref p ∧ H p = some (.tup [.str "let", .str n, x, y]) ∧ TreeAt H x t ∧ TreeAt H y u
  | _, v, .ite b t u => ∃ p x y z, v = .ref p ∧ H p = some (.tup [.str "if", x, y, z]) ∧ TreeAt H x b ∧ TreeAt H y t ∧ TreeAt H z u
  | _, v, .each n t u => ∃ p x y, v = .ref p ∧ H p = some (.tup [.str "each", .str n, x, y]) ∧ TreeAt H x t ∧ TreeAt H y u
  | _, v, .times n m t u => ∃ p x y z, v = .ref p ∧ H p = some (.tup [.str "times", .str n, x, y, z]) ∧ TreeAt H x m ∧ TreeAt H y t ∧ TreeAt H z u
theorem TreeAt.mono {H H' : Hp} (h : Tk H H') : ∀ {k : Kd} {t : T k} {v : V}, TreeAt H v t → TreeAt H' v t := by
  intro k t
  induction t with
  | num n => exact fun ⟨p, e, z⟩ => ⟨p, e, h p _ z⟩
  | yes => exact fun ⟨p, e, z⟩ => ⟨p, e, h p _ z⟩
  | no => exact fun ⟨p, e, z⟩ => ⟨p, e, h p _ z⟩
  | name k x => exact fun ⟨p, e, z⟩ => ⟨p, e, h p _ z⟩
  | none a => exact fun ⟨p, y, e, z⟩ => ⟨p, y, e, h p _ z⟩
  | op1 o t ih => exact fun ⟨p, x, e, z, r⟩ => ⟨p, x, e, h p _ z, ih r⟩
  | op2 o t u ih1 ih2 => exact fun ⟨p, x, y, e, z, r1, r2⟩ => ⟨p, x, y, e, h p _ z, ih1 r1, ih2 r2⟩
  | lt n t u ih1 ih2 => exact fun ⟨p, x, y, e, z, r1, r2⟩ => ⟨p, x, y, e, h p _ z, ih1 r1, ih2 r2⟩
  | ite b t u ih1 ih2 ih3 => exact fun ⟨p, x, y, w, e, z, r1, r2, r3⟩ => ⟨p, x, y, w, e, h p _ z, ih1 r1, ih2 r2, ih3 r3⟩
  | each n t u ih1 ih2 => exact fun ⟨p, x, y, e, z, r1, r2⟩ => ⟨p, x, y, e, h p _ z, ih1 r1, ih2 r2⟩
  | times n m t u ih1 ih2 ih3 => exact fun ⟨p, x, y, w, e, z, r1, r2, r3⟩ => ⟨p, x, y, w, e, h p _ z, ih1 r1, ih2 r2, ih3 r3⟩
theorem TreeAt.ref {H : Hp} {k : Kd} {t : T k} {v : V} (h : TreeAt H v t) : ∃ p xs, v = .ref p ∧ H p = some (.tup xs) := by
  cases t with
  | num n => obtain ⟨p, e, z⟩ := h; exact ⟨p, _, e, z⟩
  | yes => obtain ⟨p, e, z⟩ := h; exact ⟨p, _, e, z⟩
  | no => obtain ⟨p, e, z⟩ := h; exact ⟨p, _, e, z⟩
  | name k x => obtain ⟨p, e, z⟩ := h; exact ⟨p, _, e, z⟩
  | none a => obtain ⟨p, _, e, z⟩ := h; exact ⟨p, _, e, z⟩
  | op1 o t => obtain ⟨p, _, e, z, _⟩ := h; exact ⟨p, _, e, z⟩
  | op2 o t u => obtain ⟨p, _, _, e, z, _⟩ := h; exact ⟨p, _, e, z⟩
  | lt n t u => obtain ⟨p, _, _, e, z, _⟩ := h; exact ⟨p, _, e, z⟩
  | ite b t u => obtain ⟨p, _, _, _, e, z, _⟩ := h; exact ⟨p, _, e, z⟩
  | each n t u => obtain ⟨p, _, _, e, z, _⟩ := h; exact ⟨p, _, e, z⟩
  | times n m t u => obtain ⟨p, _, _, _, e, z, _⟩ := h; exact ⟨p, _, e, z⟩
/-- the numbers l stand at v as a tuple -/
def IntsAt (H : Hp) (v : V) (l : List Int) : Prop := ∃ p, v = .ref p ∧ H p = some (.tup (l.map V.int))
theorem IntsAt.mono {H H' : Hp} (h : Tk H H') {v : V} {l : List Int} : IntsAt H v l → IntsAt H' v l := fun ⟨p, e, z⟩ => ⟨p, e, h p _ z⟩
/-- the names' worths by the entries of a dict -/
structure EnvK (c : Addr → Prop) (H : Hp) (kvs : List (Key × V)) (G : Ctx) (r : Env) (n : Nat) : Prop where
  len : kvs.length ≤ n
  get : ∀ x k, G x = some k → ∃ v, valV kvs (.inr x) = some v ∧ RepW c H k v (r k x)
  all : ∀ p ∈ kvs, ∃ k d, (k.depth ≤ 6 ∧ Fit k d) ∧ RepW c H k p.2 d
theorem mem_putK {kvs : List (Key × V)} {k : Key} {v : V} {p : Key × V} (h : p ∈ putK kvs k v) : p.2 = v ∨ p ∈ kvs := by
  unfold putK at h
  split at h
  · obtain ⟨q, hq, e⟩ := List.mem_map.mp h
    split at e
    · subst e
      exact .inl rfl
    · subst e
      exact .inr hq
  · rcases List.mem_append.mp h with z | z
    · exact .inr z
    · rw [List.mem_singleton.mp z]
      exact .inl rfl
section
variable {c : Addr → Prop} {d : Addr} {H H' : Hp} {kvs : List (Key × V)} {G : Ctx} {r : Env} {n : Nat}
theorem EnvK.mono (e : EnvK c H kvs G r n) (h : Lk c H H') : EnvK c H' kvs G r n := ⟨e.len, fun x k g => by
  obtain ⟨v, h1, h2⟩ := e.get x k g
  exact ⟨v, h1, h2.mono h⟩, fun p hp => by
  obtain ⟨k, w, h1, h2⟩ := e.all p hp
  exact ⟨k, w, h1, h2.mono h⟩⟩
theorem EnvK.recast {c' : Addr → Prop} (e : EnvK c H kvs G r n) (h : ∀ a, c' a → c a ∨ ((∀ xs, H a ≠ some (.tup xs)) ∧ ∀ xs, H a ≠ some (.lst xs))) : EnvK c' H kvs G r n := ⟨e.len, fun x k g => by
  obtain ⟨v, h1, h2⟩ := e.get x k g
  exact ⟨v, h1, h2.recast h⟩, fun p hp => by
  obtain ⟨k, w, h1, h2⟩ := e.all p hp
  exact ⟨k, w, h1, h2.recast h⟩⟩
theorem EnvK.put (e : EnvK c H kvs G r n) (x : Str) {a : Kd} {v : V} {w : D a} (hv : RepW c H a v w) (ha : a.depth ≤ 6) (hf : Fit a w) : EnvK c H (putK kvs (.inr x) v) (G.put x a) (r.put x w) (n + 1) := ⟨
  Nat.le_trans (length_putK _ _ _) (Nat.succ_le_succ e.len), fun y k g => by
  unfold Ctx.put at g
  rw [valV_put]
  by_cases q : y = x
  · rw [if_pos q] at g
    cases g
    subst q
    rw [if_pos rfl, Env.put_same]
    exact ⟨v, rfl, hv⟩
  · rw [if_neg q] at g
    rw [if_neg (fun z => q (Sum.inr.inj z)), Env.put_ne r w q]
    exact e.get y k g, fun p hp => by
  rcases mem_putK hp with z | z
  · rw [z]
    exact ⟨a, w, ⟨ha, hf⟩, hv⟩
  · exact e.all p z⟩
end
/-- the names' worths stand at d -/
def EnvAt (c : Addr → Prop) (H : Hp) (v : V) (G : Ctx) (r : Env) (n : Nat) : Prop := ∃ d kvs, v = .ref d ∧ H d = some (.dK kvs) ∧ ¬ c d ∧ EnvK c H kvs G r n
theorem EnvAt.mono {c : Addr → Prop} {m : Addr} {H H' : Hp} {v : V} {G : Ctx} {r : Env} {n : Nat} (e : EnvAt c H v G r n) (h : But m H H') (hm : c m) : EnvAt c H' v G r n := by
  obtain ⟨d, kvs, h1, h2, h3, h4⟩ := e
  exact ⟨d, kvs, h1, h.old d _ (fun z => h3 (by rw [z]; exact hm)) h2, h3, h4.mono (h.lk hm)⟩
theorem EnvAt.kp {c : Addr → Prop} {H H' : Hp} {v : V} {G : Ctx} {r : Env} {n : Nat} (e : EnvAt c H v G r n) (h : Kp H H') : EnvAt c H' v G r n := by
  obtain ⟨d, kvs, h1, h2, h3, h4⟩ := e
  exact ⟨d, kvs, h1, h d _ h2, h3, h4.mono h.lk⟩
theorem EnvAt.more {c : Addr → Prop} {g : Addr} {H : Hp} {v : V} {G : Ctx} {r : Env} {n : Nat} (e : EnvAt c H v G r n) (hg : H g = none) : EnvAt (fun a => c a ∨ a = g) H v G r n := by
  obtain ⟨d, kvs, h1, h2, h3, h4⟩ := e
  refine ⟨d, kvs, h1, h2, fun z => ?_, h4.recast fun a e => ?_⟩
  · rcases z with z | z
    · exact h3 z
    · rw [z, hg] at h2
      cases h2
  · rcases e with e | e
    · exact .inl e
    · exact .inr ⟨fun xs z => (by rw [e, hg] at z; cases z), fun xs z => (by rw [e, hg] at z; cases z)⟩
/-- what a reading told, as the program tells it, behind a place and turns -/
def ToldAt (c : Addr → Prop) (H : Hp) {k : Kd} (v : V) (pl tu : List Int) : Res (D k) → Prop
  | .ok _ d => ∃ p x, v = .ref p ∧ H p = some (.tup [.str "is", x]) ∧ RepW c H k x d
  | .stop _ w a b => ∃ p x y, v = .ref p ∧ H p = some (.tup [.str "stops", .str w.str, x, y]) ∧ IntsAt H x (pl ++ a) ∧ IntsAt H y (tu ++ b)
theorem ToldAt.mono {c : Addr → Prop} {H H' : Hp} (h : Lk c H H') {k : Kd} {v : V} {pl tu : List Int} {r : Res (D k)} (q : ToldAt c H v pl tu r) : ToldAt c H' v pl tu r := by
  cases r with
  | ok n d =>
    obtain ⟨p, x, e, z, r⟩ := q
    exact ⟨p, x, e, h.tup p _ z, r.mono h⟩
  | stop n w a b =>
    obtain ⟨p, x, y, e, z, r1, r2⟩ := q
    exact ⟨p, x, y, e, h.tup p _ z, r1.mono h.tk, r2.mono h.tk⟩
/-- what a step on worths told: the worth and no word, or any and the word -/
def OutAt (c : Addr → Prop) (H : Hp) {k : Kd} (v : V) (none : V) : Except Wd (D k) → Prop
  | .ok d => ∃ p x, v = .ref p ∧ H p = some (.tup [x, none]) ∧ RepW c H k x d
  | .error w => ∃ p x, v = .ref p ∧ H p = some (.tup [x, .str w.str])
end Br
/-! Small helps: paired lists, known tests, lines, a comprehension over zip. -/
namespace Br
open PySem L2
open PySem.Spec PyProof.Rows
theorem itT {c : Bool} {A B : Prop} (h : c = true) (x : A) : if c = true then A else B := by
  rw [if_pos h]
  exact x
theorem itF {c : Bool} {A B : Prop} (h : c = false) (x : B) : if c = true then A else B := by
  rw [h, if_neg Bool.false_ne_true]
  exact x
theorem itB {c : Bool} {A B : Prop} (h1 : c = true → A) (h2 : c = false → B) : if c = true then A else B := by
  cases c with
  | true => exact itT rfl (h1 rfl)
  | false => exact itF rfl (h2 rfl)
theorem line_le {n : Nat} (h : n ≤ 1000000) : n ≤ sizeLine := by
  rw [sizeLine_eq]
  omega
theorem line_lt {n : Nat} (h : n ≤ 1000000) : n < sizeLine := by
  rw [sizeLine_eq]
  omega
theorem take_more {α : Type} : ∀ {l : List α} {i : Nat} {x : α}, l[i]? = some x → l.take (i + 1) = l.take i ++ [x]
  | [], i, x, h => by simp at h
  | a :: l, 0, x, h => by
    have e : a = x := Option.some.inj h
    subst e
    rfl
  | a :: l, i + 1, x, h => by
    have ih := take_more (l := l) (i := i) (x := x) h
    show a :: l.take (i + 1) = a :: l.take i ++ [x]
    rw [ih]
    rfl
theorem drop_more {α : Type} : ∀ {l : List α} {i : Nat} {x : α}, l[i]? = some x → l.drop i = x :: l.drop (i + 1)
  | [], i, x, h => by simp at h
  | a :: l, 0, x, h => by
    have e : a = x := Option.some.inj h
    subst e
    rfl
  | a :: l, i + 1, x, h => drop_more (l := l) (i := i) h
theorem ints_get {ns : List Int} {i : Nat} {y : V} (h : (ns.map V.int)[i]? = some y) : ∃ z, ns[i]? = some z ∧ y = .int z := by
  rw [List.getElem?_map] at h
  cases e : ns[i]? with
  | none => rw [e] at h; cases h
  | some z =>
    rw [e] at h
    exact ⟨z, rfl, (Option.some.inj h).symm⟩
theorem map_get {α β : Type} {f : α → β} {ns : List α} {i : Nat} {y : β} (h : (ns.map f)[i]? = some y) : ∃ z, ns[i]? = some z ∧ y = f z := by
  rw [List.getElem?_map] at h
  cases e : ns[i]? with
  | none => rw [e] at h; cases h
  | some z =>
    rw [e] at h
    exact ⟨z, rfl, (Option.some.inj h).symm⟩
section
variable {α β : Type} {R : α → β → Prop}
theorem Paired.at : ∀ {xs : List α} {ys : List β} {i : Nat} {x : α}, Paired R xs ys → xs[i]? = some x → ∃ y, ys[i]? = some y ∧ R x y
  | _, _, _, _, .nil, h => by simp at h
  | _, _, 0, _, .cons r _, h => by
    have e := Option.some.inj h
    subst e
    exact ⟨_, rfl, r⟩
  | _, _, i + 1, _, .cons _ t, h => Paired.at (i := i) t h
theorem Paired.at2 : ∀ {xs : List α} {ys : List β} {i : Nat} {y : β}, Paired R xs ys → ys[i]? = some y → ∃ x, xs[i]? = some x ∧ R x y
  | _, _, _, _, .nil, h => by simp at h
  | _, _, 0, _, .cons r _, h => by
    have e := Option.some.inj h
    subst e
    exact ⟨_, rfl, r⟩
  | _, _, i + 1, _, .cons _ t, h => Paired.at2 (i := i) t h
theorem Paired.app : ∀ {xs xs' : List α} {ys ys' : List β}, Paired R xs ys → Paired R xs' ys' → Paired R (xs ++ xs') (ys ++ ys')
  | _, _, _, _, .nil, s => s
  | _, _, _, _, .cons r t, s => .cons r (Paired.app t s)
theorem Paired.tak : ∀ {xs : List α} {ys : List β} (n : Nat), Paired R xs ys → Paired R (xs.take n) (ys.take n)
  | _, _, 0, _ => .nil
  | _, _, _ + 1, .nil => .nil
  | _, _, n + 1, .cons r t => .cons r (Paired.tak n t)
theorem Paired.dro : ∀ {xs : List α} {ys : List β} (n : Nat), Paired R xs ys → Paired R (xs.drop n) (ys.drop n)
  | _, _, 0, r => r
  | _, _, _ + 1, .nil => .nil
  | _, _, n + 1, .cons _ t => Paired.dro n t
theorem Paired.len {xs : List α} {ys : List β} (h : Paired R xs ys) : xs.length = ys.length := PySem.Paired.length h
theorem Paired.of_get : ∀ {xs : List α} {ys : List β}, xs.length = ys.length → (∀ (i : Nat) x y, xs[i]? = some x → ys[i]? = some y → R x y) → Paired R xs ys
  | [], [], _, _ => .nil
  | [], _ :: _, h, _ => by simp at h
  | _ :: _, [], h, _ => by simp at h
  | x :: xs, y :: ys, h, f => .cons (f 0 x y rfl rfl) (Paired.of_get (by simpa using h) fun i a b ha hb => f (i + 1) a b ha hb)
end
theorem rep_nums {c : Addr → Prop} {H : Hp} : ∀ {xs : List V} {l : List Int}, Paired (RepW c H .num) xs l → xs = l.map V.int
  | _, _, .nil => rfl
  | _, _, .cons r t => by
    rw [rep_nums t]
    exact congrArg (· :: _) r
theorem nums_rep {c : Addr → Prop} {H : Hp} : ∀ (l : List Int), Paired (RepW c H .num) (l.map V.int) l
  | [] => .nil
  | _ :: l => .cons rfl (nums_rep l)
theorem rep_bls {c : Addr → Prop} {H : Hp} : ∀ {xs : List V} {l : List Bool}, Paired (RepW c H .truth) xs l → xs = l.map V.bl
  | _, _, .nil => rfl
  | _, _, .cons r t => by
    rw [rep_bls t]
    exact congrArg (· :: _) r
/-- a row of numbers stands at p -/
theorem RepW.ints {c : Addr → Prop} {H : Hp} {v : V} {d : D (.row .num)} (h : RepW c H (.row .num) v d) : ∃ p, v = .ref p ∧ H p = some (.lst ((dLI d).map V.int)) ∧ ¬ c p := by
  obtain ⟨q, xs, e, hq, n, r⟩ := h
  have z : xs = (dLI d).map V.int := rep_nums r
  subst z
  exact ⟨q, e, hq, n⟩
theorem RepW.of_ints {c : Addr → Prop} {p : Addr} {H : Hp} {l : List Int} (h : H p = some (.lst (l.map V.int))) (n : ¬ c p) : RepW c H (.row .num) (.ref p) l := ⟨p, _, rfl, h, n, nums_rep l⟩
theorem atI_zero {α : Type} {x : α} {l : List α} : atI (x :: l) 0 = some x := atI_nat (j := 0) rfl
theorem atI_one {α : Type} {x y : α} {l : List α} : atI (x :: y :: l) 1 = some y := atI_nat (j := 1) rfl
theorem atI_two {α : Type} {x y z : α} {l : List α} : atI (x :: y :: z :: l) 2 = some z := atI_nat (j := 2) rfl
theorem atI_three {α : Type} {x y z u : α} {l : List α} : atI (x :: y :: z :: u :: l) 3 = some u := atI_nat (j := 3) rfl
theorem atI_four {α : Type} {x y z u v : α} {l : List α} : atI (x :: y :: z :: u :: v :: l) 4 = some v := atI_nat (j := 4) rfl
/-- over zip of two lists of one length -/
theorem lc_zipL {K : PySem.W.Frag} {a b : Addr} {xs ys : List V} {g : TG} {tt : TT} {te : TE} {vs : List Nat} {σ : L2.St} {H1 : Hp} {D : Addr} {Qd : Hp → Prop} (hl : xs.length = ys.length) (Pv : Nat → Hp → Prop) (h0 : Pv 0 (upd H1 D (.lst []))) (hq : ∀ i H, i ≤ xs.length → Pv i H → SqL K H a xs ∧ SqL K H b ys)
    (hs : ∀ (i : Nat) (x y : V) (T : Addr) (H : Hp), xs[i]? = some x → ys[i]? = some y → Pv i H → H T = none → g (.ref T) (wipe σ vs) (upd H T (.tup [x, y])) fun σ2 H2 => wipe σ2 vs = wipe σ vs ∧ tt σ2 H2 fun b H3 =>
      if b = true then te σ2 H3 fun y H4 => ∃ acc, H4 D = some (.lst acc) ∧ acc.length < sizeLine ∧ Pv (i + 1) (upd H4 D (.lst (acc ++ [y]))) else Pv (i + 1) H3) (hd : ∀ H, Pv xs.length H → Qd H) :
    ∃ W : Nat → Nat → Hp → Prop, (∃ m, W 0 m (upd H1 D (.lst []))) ∧ ∀ i m H, W i m H →
      ((L2.Itz K a b).stop i H ∧ Qd H) ∨ ((L2.Itz K a b).go i H ∧ ∃ Nx : Hp → Prop, (∀ H', Nx H' → ∃ m', m' < m ∧ W (i + 1) m' H') ∧ ∀ x H', (L2.Itz K a b).yld i H x H' → g x (wipe σ vs) H' fun σ2 H2 => wipe σ2 vs = wipe σ vs ∧ tt σ2 H2 fun b H3 =>
        if b = true then te σ2 H3 fun y H4 => ∃ acc, H4 D = some (.lst acc) ∧ acc.length < sizeLine ∧ Nx (upd H4 D (.lst (acc ++ [y]))) else Nx H3) := by
  refine ⟨fun i m H => m = xs.length - i ∧ i ≤ xs.length ∧ Pv i H, ⟨xs.length, rfl, Nat.zero_le _, h0⟩, ?_⟩
  rintro i m H ⟨rfl, hi, p⟩
  obtain ⟨qx, qy⟩ := hq i H hi p
  by_cases hlt : i < xs.length
  · have hx : xs[i]? = some xs[i] := List.getElem?_eq_getElem hlt
    have hlt2 : i < ys.length := by omega
    have hy : ys[i]? = some ys[i] := List.getElem?_eq_getElem hlt2
    refine .inr ⟨⟨xs, ys, _, _, qx, qy, hx, hy⟩, Pv (i + 1), fun H' p' => ⟨xs.length - (i + 1), by omega, rfl, hlt, p'⟩, fun v H' y => ?_⟩
    obtain ⟨T, x', y', rfl, hT, rfl, f1, f2⟩ := y
    exact hs i x' y' T H (f1 xs qx) (f2 ys qy) p hT
  · have e : i = xs.length := by omega
    subst e
    exact .inl ⟨⟨xs, ys, qx, qy, Or.inl (Nat.le_refl _)⟩, hd H p⟩
/-- over zip of two tuples of one length -/
theorem lc_zipT {K : PySem.W.Frag} {a b : Addr} {xs ys : List V} {g : TG} {tt : TT} {te : TE} {vs : List Nat} {σ : L2.St} {H1 : Hp} {D : Addr} {Qd : Hp → Prop} (hl : xs.length = ys.length) (Pv : Nat → Hp → Prop) (h0 : Pv 0 (upd H1 D (.lst []))) (hq : ∀ i H, i ≤ xs.length → Pv i H → SqT K H a xs ∧ SqT K H b ys)
    (hs : ∀ (i : Nat) (x y : V) (T : Addr) (H : Hp), xs[i]? = some x → ys[i]? = some y → Pv i H → H T = none → g (.ref T) (wipe σ vs) (upd H T (.tup [x, y])) fun σ2 H2 => wipe σ2 vs = wipe σ vs ∧ tt σ2 H2 fun b H3 =>
      if b = true then te σ2 H3 fun y H4 => ∃ acc, H4 D = some (.lst acc) ∧ acc.length < sizeLine ∧ Pv (i + 1) (upd H4 D (.lst (acc ++ [y]))) else Pv (i + 1) H3) (hd : ∀ H, Pv xs.length H → Qd H) :
    ∃ W : Nat → Nat → Hp → Prop, (∃ m, W 0 m (upd H1 D (.lst []))) ∧ ∀ i m H, W i m H →
      ((RZ.ItzT K a b).stop i H ∧ Qd H) ∨ ((RZ.ItzT K a b).go i H ∧ ∃ Nx : Hp → Prop, (∀ H', Nx H' → ∃ m', m' < m ∧ W (i + 1) m' H') ∧ ∀ x H', (RZ.ItzT K a b).yld i H x H' → g x (wipe σ vs) H' fun σ2 H2 => wipe σ2 vs = wipe σ vs ∧ tt σ2 H2 fun b H3 =>
        if b = true then te σ2 H3 fun y H4 => ∃ acc, H4 D = some (.lst acc) ∧ acc.length < sizeLine ∧ Nx (upd H4 D (.lst (acc ++ [y]))) else Nx H3) := by
  refine ⟨fun i m H => m = xs.length - i ∧ i ≤ xs.length ∧ Pv i H, ⟨xs.length, rfl, Nat.zero_le _, h0⟩, ?_⟩
  rintro i m H ⟨rfl, hi, p⟩
  obtain ⟨qx, qy⟩ := hq i H hi p
  by_cases hlt : i < xs.length
  · have hx : xs[i]? = some xs[i] := List.getElem?_eq_getElem hlt
    have hlt2 : i < ys.length := by omega
    have hy : ys[i]? = some ys[i] := List.getElem?_eq_getElem hlt2
    refine .inr ⟨⟨xs, ys, _, _, qx, qy, hx, hy⟩, Pv (i + 1), fun H' p' => ⟨xs.length - (i + 1), by omega, rfl, hlt, p'⟩, fun v H' y => ?_⟩
    obtain ⟨T, x', y', rfl, hT, rfl, f1, f2⟩ := y
    exact hs i x' y' T H (f1 xs qx) (f2 ys qy) p hT
  · have e : i = xs.length := by omega
    subst e
    exact .inl ⟨⟨xs, ys, qx, qy, Or.inl (Nat.le_refl _)⟩, hd H p⟩
end Br
/-! The steps on worths (single): what each def promises, and that it holds. -/
namespace Br
open PySem L2
open PySem.Spec PyProof.Rows
theorem begs_snoc (s : Int) : ∀ (l : List Int) (x : Int), begs s (l ++ [x]) = begs s l ++ [s + l.sum + x]
  | [], x => by simp [begs]
  | y :: l, x => by
    show s :: begs (s + y) (l ++ [x]) = s :: (begs (s + y) l ++ [s + (y :: l).sum + x])
    rw [begs_snoc, List.sum_cons, Int.add_assoc s y]
theorem begs_split (l : List Int) : ∃ m, begs 0 l = m ++ [l.sum] := by
  obtain ⟨m, x, e⟩ : ∃ m x, begs 0 l = m ++ [x] := by
    have n := begs_ne 0 l
    exact ⟨_, _, (List.dropLast_concat_getLast n).symm⟩
  have z := begs_last 0 l
  rw [e, List.getLast?_append] at z
  simp at z
  exact ⟨m, by rw [e, z]⟩
theorem begs_drop {l : List Int} {m : List Int} (e : begs 0 l = m ++ [l.sum]) : (begs 0 l).dropLast = m := by rw [e, List.dropLast_concat]
theorem isBig_eq (i : Int) : isBig i = (decide ((1000000000000000000 : Int) < i) || decide (i < 0 - (1000000000000000000 : Int))) := by
  unfold isBig
  have e : (0 - (1000000000000000000 : Int)) = -bnd := by decide
  rw [e]
/-- a step's end -/
def spOut {k : Kd} (c : Addr → Prop) (r : Except Wd (D k)) (H : Hp) (Q : VK) : Prop := ∀ v H', Kp H H' → OutAt (k := k) c H' v .non r → Q v H'
def spGreat : Sp := fun vs H Q _ => ∃ i, vs = [.int i] ∧ Q (.bl (isBig i)) H
def spNumbered : Sp := fun vs H Q _ => ∃ i c, vs = [.int i] ∧ spOut (k := .num) c (numR i) H Q
def small (i : Int) : Prop := -bnd ≤ i ∧ i ≤ bnd
def spDivided : Sp := fun vs H Q _ => ∃ o i j c, (o = (.div : O2 .num .num .num) ∨ o = .rest) ∧ vs = [.str o.str, .int i, .int j] ∧ small j ∧ spOut (k := .num) c (sem2 o i j) H Q
def spReckoned : Sp := fun vs H Q _ => ∃ (o : O2 .num .num .num) (i j : Int) (c : Addr → Prop), vs = [.str o.str, .int i, .int j] ∧ small i ∧ small j ∧ spOut (k := .num) c (sem2 o i j) H Q
def spBeg : Sp := fun vs H Q _ => ∃ p l, vs = [.ref p] ∧ H p = some (.lst ((l : List Int).map V.int)) ∧ l.length ≤ 200 ∧
  ∀ v H', Kp H H' → (∃ p q fs w, v = .ref p ∧ H' p = some (.tup [.ref q, w]) ∧ H q = none ∧ H' q = some (.lst ((fs : List Int).map V.int)) ∧ fs ≠ [] ∧ ((bigs l = true ∧ w = .str "great") ∨ (bigs l = false ∧ w = .non ∧ fs = begs 0 l))) → Q v H'
def spSummed : Sp := fun vs H Q _ => ∃ c x d, Av c H ∧ RepW c H (.row .num) x d ∧ Fit (.row .num) d ∧ ((vs = [.str "sum", x] ∧ spOut c (sem1 .sum d) H Q) ∨ (vs = [.str "sums", x] ∧ spOut c (sem1 .sums d) H Q))
def spGreatest : Sp := fun vs H Q _ => ∃ c x d, vs = [x] ∧ RepW c H (.row .num) x d ∧ spOut c (sem1 .most d) H Q
def spCounted : Sp := fun vs H Q _ => ∃ c i, vs = [.int i] ∧ Av c H ∧ spOut c (sem1 .upto i) H Q
def spBounded : Sp := fun vs H Q _ => ∃ c k x d, vs = [x] ∧ RepW c H (.row k) x d ∧ spOut (k := .row k) c (if (dL d).length ≤ 200 then .ok d else .error .far) H Q
def spBehind : Sp := fun vs H Q _ => ∃ c k x d, vs = [x] ∧ Av c H ∧ RepW c H (.row (.row k)) x d ∧ Fit (.row (.row k)) d ∧ spOut c (sem1 (.flat k) d) H Q
def spPicked : Sp := fun vs H Q _ => ∃ c k x d i, vs = [x, .int i] ∧ RepW c H (.row k) x d ∧ spOut c (sem2 (.pick k) d i) H Q
def spKept : Sp := fun vs H Q _ => ∃ c k x y d e, vs = [x, y] ∧ Av c H ∧ RepW c H (.row k) x d ∧ RepW c H (.row .truth) y e ∧ Fit (.row k) d ∧ spOut c (sem2 (.keep k) d e) H Q
def spCut : Sp := fun vs H Q _ => ∃ c k x y d e, vs = [x, y] ∧ Av c H ∧ RepW c H (.row k) x d ∧ RepW c H (.row .num) y e ∧ Fit (.row k) d ∧ Fit (.row .num) e ∧ spOut c (sem2 (.cut k) d e) H Q
def spDone1 : Sp := fun vs H Q _ => ∃ c a b o x d, vs = [.str (o : O1 a b).str, x] ∧ Av c H ∧ RepW c H a x d ∧ Fit a d ∧ spOut c (sem1 o d) H Q
def spDone2 : Sp := fun vs H Q _ => ∃ c a b k o x y d e, vs = [.str (o : O2 a b k).str, x, y] ∧ Av c H ∧ RepW c H a x d ∧ RepW c H b y e ∧ Fit a d ∧ Fit b e ∧ spOut c (sem2 o d e) H Q
/-- a step's tree, its parts' worths, what it comes to -/
inductive OnceAt (c : Addr → Prop) (H : Hp) : {k : Kd} → List V → List V → Except Wd (D k) → Prop
  | num (n : Int) : OnceAt c H (k := .num) [.str "num", .int n] [] (.ok n)
  | yes : OnceAt c H (k := .truth) [.str "yes"] [] (.ok true)
  | no : OnceAt c H (k := .truth) [.str "no"] [] (.ok false)
  | none (a : Kd) (z : V) : OnceAt c H (k := .row a) [.str "none", z] [] (.ok [])
  | op1 {a b : Kd} (o : O1 a b) {x0 x : V} {d : D a} (r : RepW c H a x d) (f : Fit a d) : OnceAt c H [.str o.str, x0] [x] (sem1 o d)
  | op2 {a b k : Kd} (o : O2 a b k) {x0 y0 x y : V} {d : D a} {e : D b} (r : RepW c H a x d) (r2 : RepW c H b y e) (f : Fit a d) (f2 : Fit b e) : OnceAt c H [.str o.str, x0, y0] [x, y] (sem2 o d e)
def spOnce : Sp := fun vs H Q _ => ∃ c p q xs ws k r, vs = [.ref p, .ref q] ∧ Av c H ∧ H p = some (.tup xs) ∧ H q = some (.lst ws) ∧ OnceAt c H (k := k) xs ws r ∧ spOut c r H Q
def spTurns : Sp := fun vs H Q _ => ∃ i, vs = [.int i] ∧ Q (if 0 ≤ i ∧ i ≤ 60 then .non else .str "far") H
section
variable {P : Program} {w : World} {K : PySem.W.Frag} {mg : Str → Option Value} {base : Heap} {aC aB f : Addr} {fd : FuncData}
theorem fn_is_great (T : Tp K mg aC aB) (F : At K mg "is_great" s_is_great p_is_great f fd) : Fn P w K mg base 1 "is_great" spGreat := by
  refine fn_by F sc_is_great ?_ (fun cdv A outer s H vs Q E hr h => ?_)
  · rintro vs H Q E ⟨i, rfl, _⟩
    rfl
  obtain ⟨i, rfl, q⟩ := h
  refine ⟨_, (pss_one (ps_ret (pe_or (pe_cmpR op_gt (pv 0) (pe_gc (by rfl) T.great) (nomark _)) (pe_one (pe_cmpR op_lt (pv 0) (pe_op op_sub (pe_int) (pe_gc (by rfl) T.great)) (nomark _)))))), ?_⟩
  rw [isBig_eq] at q
  refine ⟨_, rfl, _, _, rfl, rfl, _, rfl, itB (fun e => ?_) (fun e => ?_)⟩
  · rw [e] at q
    exact q
  · rw [e, Bool.false_or] at q
    exact ⟨_, rfl, _, _, rfl, rfl, _, _, rfl, rfl, q⟩
theorem out_num {c : Addr → Prop} {r : Except Wd Int} {H : Hp} {Q : VK} {p : Addr} {i : Int} {w : V} (q : spOut (k := .num) c r H Q) (hp : H p = none) (h : (r = .ok i ∧ w = .non) ∨ ∃ y, r = .error y ∧ w = .str y.str) : Q (.ref p) (upd H p (.tup [.int i, w])) := by
  refine q _ _ (Kp.new hp) ?_
  rcases h with ⟨rfl, rfl⟩ | ⟨y, rfl, rfl⟩
  · exact ⟨p, .int i, rfl, upd_same, rfl⟩
  · exact ⟨p, _, rfl, upd_same⟩
theorem fn_numbered (T : Tp K mg aC aB) (F : At K mg "numbered" s_numbered p_numbered f fd) (c_is_great : Fn P w K mg base 1 "is_great" spGreat) : Fn P w K mg base 2 "numbered" spNumbered := by
  refine fn_by F sc_numbered ?_ (fun cdv A outer s H vs Q E hr h => ?_)
  · rintro vs H Q E ⟨i, c, rfl, _⟩
    rfl
  obtain ⟨i, c, rfl, q⟩ := h
  refine ⟨_, (pss_one (ps_ret (pe_tup (pa_cons (pv 0) (pa_cons (pe_ifExp (pt_val (pe_fn c_is_great hr (by omega) (by rfl) (pa_cons (pv 0) pa_nil))) (pe_str) (pe_non)) pa_nil))))), ?_⟩
  refine ⟨_, rfl, _, rfl, i, rfl, _, rfl, itB (fun e => ?_) (fun e => ?_)⟩
  · refine ⟨by show 2 ≤ sizeLine; decide, fun p hp => out_num q hp (.inr ⟨.great, ?_, rfl⟩)⟩
    unfold numR
    rw [e, if_pos rfl]
  · refine ⟨by show 2 ≤ sizeLine; decide, fun p hp => out_num q hp (.inl ⟨?_, rfl⟩)⟩
    unfold numR
    rw [e, if_neg Bool.false_ne_true]
theorem fn_divided (T : Tp K mg aC aB) (F : At K mg "divided" s_divided p_divided f fd) : Fn P w K mg base 1 "divided" spDivided := by
  refine fn_by F sc_divided ?_ (fun cdv A outer s H vs Q E hr h => ?_)
  · rintro vs H Q E ⟨o, i, j, c, _, rfl, _⟩
    rfl
  obtain ⟨o, i, j, c, ho, rfl, hj, q⟩ := h
  refine ⟨_, (pss_cons (ps_if (pt_cmpR op_eq (pv 2) (pe_int) (nomark _)) (pss_one (ps_ret (pe_tup (pa_cons (pe_int) (pa_cons (pe_str) pa_nil))))) pss_nil)
  (pss_one (ps_ret (pe_tup (pa_cons (pe_ifExp (pt_cmpR op_eq (pv 0) (pe_str) (nomark _)) (pe_op op_fdivZ (pv 1) (pv 2)) (pe_op op_modN (pv 1) (pv 2))) (pa_cons (pe_non) pa_nil)))))), ?_⟩
  refine ⟨_, rfl, rfl, _, rfl, itB (fun e => ?_) (fun e => ?_)⟩
  · have z : j = 0 := V.int.inj (of_decide_eq_true e)
    refine ⟨by show 2 ≤ sizeLine; decide, fun p hp => out_num q hp (.inr ⟨.nought, ?_, rfl⟩)⟩
    rcases ho with rfl | rfl
    · exact if_pos z
    · exact if_pos z
  · have z : j ≠ 0 := fun n => of_decide_eq_false e (congrArg V.int n)
    have hb : bnd = 1000000000000000000 := rfl
    obtain ⟨h1, h2⟩ := hj
    rcases ho with rfl | rfl
    · refine ⟨_, rfl, rfl, _, rfl, itT (by decide +kernel) ?_⟩
      refine ⟨_, rfl, _, rfl, _, _, rfl, rfl, ⟨z, by omega⟩, by show 2 ≤ sizeLine; decide, fun p hp => out_num q hp (.inl ⟨?_, rfl⟩)⟩
      exact if_neg z
    · refine ⟨_, rfl, rfl, _, rfl, itF (by decide +kernel) ?_⟩
      refine ⟨_, rfl, _, rfl, _, _, rfl, rfl, z, by show 2 ≤ sizeLine; decide, fun p hp => out_num q hp (.inl ⟨?_, rfl⟩)⟩
      exact if_neg z
theorem fn_reckoned (T : Tp K mg aC aB) (F : At K mg "reckoned" s_reckoned p_reckoned f fd) (c_numbered : Fn P w K mg base 2 "numbered" spNumbered) (c_divided : Fn P w K mg base 1 "divided" spDivided) : Fn P w K mg base 3 "reckoned" spReckoned := by
  refine fn_by F sc_reckoned ?_ (fun cdv A outer s H vs Q E hr h => ?_)
  · rintro vs H Q E ⟨o, i, j, c, rfl, _⟩
    rfl
  obtain ⟨o, i, j, c, rfl, hi, hj, q⟩ := h
  refine ⟨_, (pss_cons (ps_if (pt_cmpR op_eq (pv 0) (pe_str) (nomark _)) (pss_one (ps_ret (pe_fn c_numbered hr (by omega) (by rfl) (pa_cons (pe_op op_add (pv 1) (pv 2)) pa_nil)))) pss_nil)
  (pss_cons (ps_if (pt_cmpR op_eq (pv 0) (pe_str) (nomark _)) (pss_one (ps_ret (pe_fn c_numbered hr (by omega) (by rfl) (pa_cons (pe_op op_sub (pv 1) (pv 2)) pa_nil)))) pss_nil)
  (pss_cons (ps_if (pt_cmpR op_eq (pv 0) (pe_str) (nomark _)) (pss_one (ps_ret (pe_fn c_numbered hr (by omega) (by rfl) (pa_cons (pe_op op_mulW (pv 1) (pv 2)) pa_nil)))) pss_nil)
  (pss_one (ps_ret (pe_fn c_divided hr (by omega) (by rfl) (pa_cons (pv 0) (pa_cons (pv 1) (pa_cons (pv 2) pa_nil))))))))), ?_⟩
  have hb : bnd = 1000000000000000000 := rfl
  have hi' := hi
  have hj' := hj
  unfold small at hi' hj'
  cases o with
  | add => exact ⟨_, rfl, rfl, _, rfl, itT (by decide +kernel) ⟨_, rfl, _, rfl, _, _, rfl, rfl, i + j, c, rfl, q⟩⟩
  | sub => exact ⟨_, rfl, rfl, _, rfl, itF (by decide +kernel) ⟨_, rfl, rfl, _, rfl, itT (by decide +kernel) ⟨_, rfl, _, rfl, _, _, rfl, rfl, i - j, c, rfl, q⟩⟩⟩
  | mul => exact ⟨_, rfl, rfl, _, rfl, itF (by decide +kernel) ⟨_, rfl, rfl, _, rfl, itF (by decide +kernel) ⟨_, rfl, rfl, _, rfl, itT (by decide +kernel) ⟨_, rfl, _, rfl, _, _, rfl, rfl, wide_mul (a := 61) (b := 61) (by omega) (by omega) (by decide) (by decide) (by decide), i * j, c, rfl, q⟩⟩⟩⟩
  | div => exact ⟨_, rfl, rfl, _, rfl, itF (by decide +kernel) ⟨_, rfl, rfl, _, rfl, itF (by decide +kernel) ⟨_, rfl, rfl, _, rfl, itF (by decide +kernel) ⟨_, rfl, _, rfl, _, rfl, .div, i, j, c, .inl rfl, rfl, hj, q⟩⟩⟩⟩
  | rest => exact ⟨_, rfl, rfl, _, rfl, itF (by decide +kernel) ⟨_, rfl, rfl, _, rfl, itF (by decide +kernel) ⟨_, rfl, rfl, _, rfl, itF (by decide +kernel) ⟨_, rfl, _, rfl, _, rfl, .rest, i, j, c, .inr rfl, rfl, hj, q⟩⟩⟩⟩
theorem bigs_more {l : List Int} {x : Int} (h : bigs l = false) : bigs (l ++ [x]) = isBig (l.sum + x) := by
  unfold bigs at h ⊢
  rw [begs_snoc, List.any_append, h, Bool.false_or, Int.zero_add]
  show (isBig (l.sum + x) || false) = _
  rw [Bool.or_false]
theorem bigs_stay {l m : List Int} (h : bigs l = true) : bigs (l ++ m) = true := by
  induction m generalizing l with
  | nil =>
    rw [List.append_nil]
    exact h
  | cons x m ih =>
    have e : l ++ x :: m = (l ++ [x]) ++ m := by simp
    rw [e]
    refine ih ?_
    unfold bigs at h ⊢
    rw [begs_snoc, List.any_append, h, Bool.true_or]
theorem fn_beginnings (T : Tp K mg aC aB) (F : At K mg "beginnings" s_beginnings p_beginnings f fd) (c_is_great : Fn P w K mg base 1 "is_great" spGreat) : Fn P w K mg base 2 "beginnings" spBeg := by
  refine fn_by F sc_beginnings ?_ (fun cdv A outer s H vs Q E hr h => ?_)
  · rintro vs H Q E ⟨p, l, rfl, _⟩
    rfl
  obtain ⟨p, l, rfl, hl, hn, q⟩ := h
  refine ⟨_, (pss_cons (ps_set (i := 1) sc_beginnings.nd rfl (by first | exact Or.inl rfl | exact Or.inr rfl) (pe_lst (pa_cons (pe_int) pa_nil)))
  (pss_cons (ps_for PassesOwn.never rfl (k_pil K rfl (pv 0)) (pg_name (i := 2) sc_beginnings.nd rfl (by first | exact Or.inl rfl | exact Or.inr rfl)) (pss_cons (ps_expr (k_bm K rfl PySem.F.plainAttrs_list PySem.F.slot_list_append PySem.F.type_list_append mt_append (pv 1) (pa_cons (pe_op op_add (pe_ix (k_ixl K rfl) (pv 1) (pe_un un_neg (pe_int)) (fun _ _ => rfl)) (pv 2)) pa_nil)))
  (pss_one (ps_if (pt_val (pe_fn c_is_great hr (by omega) (by rfl) (pa_cons (pe_ix (k_ixl K rfl) (pv 1) (pe_un un_neg (pe_int)) (fun _ _ => rfl)) pa_nil))) (pss_one (ps_ret (pe_tup (pa_cons (pv 1) (pa_cons (pe_str) pa_nil))))) pss_nil))))
  (pss_one (ps_ret (pe_tup (pa_cons (pv 1) (pa_cons (pe_non) pa_nil))))))), ?_⟩
  refine ⟨by show 1 ≤ sizeLine; decide, fun a ha => ?_⟩
  have hp' : ∀ {H' : Hp}, Kp H H' → SqL K H' p (l.map V.int) := fun k => SqL.of (k p _ hl)
  refine ⟨_, rfl, p, rfl, ⟨_, hp' (Kp.new ha)⟩, for_list (K := K) (a := p) (xs := l.map V.int) (fun i σ H' => (∃ v, σ = [some (.ref p), some (.ref a), v]) ∧ Kp H H' ∧ H' a = some (.lst ((begs 0 (l.take i)).map V.int)) ∧ bigs (l.take i) = false) ⟨⟨none, rfl⟩, Kp.new ha, upd_same, by show bigs [] = false; decide⟩ (fun i σ H' _ pv => hp' pv.2.1) ?_ ?_⟩
  · rintro i y σ H' hi ⟨⟨v, rfl⟩, k, hf, hb⟩
    obtain ⟨z, hz, rfl⟩ := ints_get hi
    obtain ⟨m, em⟩ := begs_split (l.take i)
    have hf' : H' a = some (.lst (m.map V.int ++ [.int (l.take i).sum])) := by
      rw [hf, em, List.map_append]
      rfl
    have lm : m.length ≤ 200 := by
      have z1 := congrArg List.length em
      rw [begs_length, List.length_append, List.length_take] at z1
      have z2 : [(l.take i).sum].length = 1 := rfl
      omega
    have lx : (m.map V.int ++ [V.int (l.take i).sum]).length < sizeLine := by
      refine line_lt ?_
      rw [List.length_append, List.length_map]
      show m.length + 1 ≤ _
      omega
    refine ⟨_, rfl, .inl ⟨rfl, _, SqL.of hf'⟩, _, rfl, _, rfl, _, _, _, _, rfl, rfl, SqL.of hf', atI_last _ _, _, rfl, _, _, rfl, rfl, _, _, _, rfl, rfl, hf', lx, ?_⟩
    have hg : upd H' a (.lst ((m.map V.int ++ [V.int (l.take i).sum]) ++ [V.int ((l.take i).sum + z)])) a = some (.lst ((m.map V.int ++ [V.int (l.take i).sum]) ++ [V.int ((l.take i).sum + z)])) := upd_same
    refine ⟨_, rfl, _, rfl, _, _, _, _, rfl, rfl, SqL.of hg, atI_last _ _, _, rfl, _, rfl, itB (fun e => ?_) (fun e => ?_)⟩
    · refine ⟨_, rfl, by show 2 ≤ sizeLine; decide, fun b hb' => q _ _ ((k.put ha).trans (Kp.new hb')) ?_⟩
      refine ⟨b, a, m ++ [(l.take i).sum] ++ [(l.take i).sum + z], _, rfl, upd_same, ha, ?_, by simp, .inl ⟨?_, rfl⟩⟩
      · rw [upd_ne (ne_of_none hg hb'), upd_same, List.map_append, List.map_append]
        rfl
      · have e2 := bigs_more (x := z) hb
        rw [e, ← take_more hz] at e2
        have e3 := bigs_stay (m := l.drop (i + 1)) e2
        rw [List.take_append_drop] at e3
        exact e3
    · refine ⟨⟨_, rfl⟩, k.put ha, ?_, ?_⟩
      · rw [take_more hz, begs_snoc, em, upd_same, List.map_append, List.map_append, Int.zero_add]
        rfl
      · rw [take_more hz, bigs_more hb]
        exact e
  · rintro σ H' ⟨⟨v, rfl⟩, k, hf, hb⟩
    rw [List.length_map, List.take_length] at hf hb
    refine ⟨_, rfl, by show 2 ≤ sizeLine; decide, fun b hb' => q _ _ (k.trans (Kp.new hb')) ⟨b, a, begs 0 l, .non, rfl, upd_same, ha, ?_, begs_ne _ _, .inr ⟨hb, rfl, rfl⟩⟩⟩
    rw [upd_ne (ne_of_none hf hb')]
    exact hf
theorem split_last {α : Type} {l : List α} (h : l ≠ []) : ∃ m x, l = m ++ [x] := ⟨_, _, (List.dropLast_concat_getLast h).symm⟩
theorem cutV_drop (xs : List V) (x : V) : cutV (xs ++ [x]) none (some (-1)) = xs := by
  have e : HT.sIx (xs ++ [x]).length (xs ++ [x]).length (some (-1)) = xs.length := by
    unfold HT.sIx
    rw [List.length_append]
    show (if (-1 : Int) < 0 then ((-1 : Int) + ((xs.length + 1 : Nat) : Int)).toNat else _) = _
    rw [if_pos (by decide)]
    omega
  unfold cutV
  rw [e, HT.sIx_none]
  simp
theorem fn_summed (T : Tp K mg aC aB) (F : At K mg "summed" s_summed p_summed f fd) (c_beginnings : Fn P w K mg base 2 "beginnings" spBeg) : Fn P w K mg base 3 "summed" spSummed := by
  refine fn_by F sc_summed ?_ (fun cdv A outer s H vs Q E hr h => ?_)
  · rintro vs H Q E ⟨c, x, d, _, _, _, ⟨rfl, _⟩ | ⟨rfl, _⟩⟩ <;> rfl
  obtain ⟨c, x, d, nc, rx, fx, h⟩ := h
  obtain ⟨p, rfl, hp, np⟩ := rx.ints
  refine ⟨_, (pss_cons (ps_asg (pe_fn c_beginnings hr (by omega) (by rfl) (pa_cons (pv 1) pa_nil)) (k_gtup K rfl (n := 2) rfl (pgs_cons (pg_name (i := 2) sc_summed.nd rfl (by first | exact Or.inl rfl | exact Or.inr rfl)) (pgs_cons (pg_name (i := 3) sc_summed.nd rfl (by first | exact Or.inl rfl | exact Or.inr rfl)) pgs_nil))))
  (pss_one (ps_ret (pe_tup (pa_cons (pe_ifExp (pt_cmpR op_eq (pv 0) (pe_str) (nomark _)) (pe_ix (k_ixl K rfl) (pv 2) (pe_un un_neg (pe_int)) (fun _ _ => rfl)) (pe_slice (k_sll K rfl) (pv 2) po_none (po_some (pe_un un_neg (pe_int))))) (pa_cons (pv 3) pa_nil)))))), ?_⟩
  have s1 : sem1 .sum d = if bigs (dLI d) then .error .great else .ok (dLI d).sum := rfl
  have s2 : sem1 .sums d = if bigs (dLI d) then .error .great else .ok (begs 0 (dLI d)).dropLast := rfl
  have len : (dLI d).length ≤ 200 := fx.1
  rcases h with ⟨rfl, q⟩ | ⟨rfl, q⟩
  · refine ⟨_, rfl, p, dLI d, rfl, hp, len, fun v H' k ⟨b, fq, fs, w', ev, hb, nf, hf, ne, hv⟩ => ?_⟩
    subst ev
    obtain ⟨m, x, rfl⟩ := split_last ne
    have hf' : H' fq = some (.lst (m.map V.int ++ [.int x])) := by
      rw [hf, List.map_append]
      rfl
    refine ⟨b, _, rfl, SqT.of hb, rfl, _, _, rfl, _, _, rfl, rfl, ?_⟩
    refine ⟨_, rfl, rfl, _, rfl, itT (by decide +kernel) ?_⟩
    refine ⟨_, rfl, _, rfl, _, _, _, _, rfl, rfl, SqL.of hf', atI_last _ _, _, rfl, by show 2 ≤ sizeLine; decide, fun a ha => ?_⟩
    refine q _ _ (k.trans (Kp.new ha)) ?_
    rcases hv with ⟨h1, rfl⟩ | ⟨h1, rfl, e'⟩
    · rw [s1, h1, if_pos rfl]
      exact ⟨a, _, rfl, upd_same⟩
    · rw [s1, h1, if_neg Bool.false_ne_true]
      refine ⟨a, _, rfl, upd_same, ?_⟩
      obtain ⟨m', e2⟩ := begs_split (dLI d)
      rw [e2] at e'
      have ex : x = (dLI d).sum := by
        have := congrArg List.getLast? e'
        simpa using this
      rw [ex]
      rfl
  · refine ⟨_, rfl, p, dLI d, rfl, hp, len, fun v H' k ⟨b, fq, fs, w', ev, hb, nf, hf, ne, hv⟩ => ?_⟩
    subst ev
    obtain ⟨m, x, rfl⟩ := split_last ne
    have hf' : H' fq = some (.lst (m.map V.int ++ [.int x])) := by
      rw [hf, List.map_append]
      rfl
    refine ⟨b, _, rfl, SqT.of hb, rfl, _, _, rfl, _, _, rfl, rfl, ?_⟩
    refine ⟨_, rfl, rfl, _, rfl, itF (by decide +kernel) ?_⟩
    refine ⟨_, rfl, _, rfl, _, rfl, _, _, rfl, SqL.of hf', fun g hg => ?_⟩
    refine ⟨_, rfl, by show 2 ≤ sizeLine; decide, fun a ha => ?_⟩
    rw [cutV_drop] at ha ⊢
    have e1 : upd H' g (.lst (m.map V.int)) g = some (.lst (m.map V.int)) := upd_same
    refine q _ _ ((k.trans (Kp.new hg)).trans (Kp.new ha)) ?_
    rcases hv with ⟨h1, rfl⟩ | ⟨h1, rfl, e'⟩
    · rw [s2, h1, if_pos rfl]
      exact ⟨a, _, rfl, upd_same⟩
    · rw [s2, h1, if_neg Bool.false_ne_true]
      refine ⟨a, _, rfl, upd_same, ?_⟩
      rw [← e', List.dropLast_concat]
      exact RepW.of_ints (by rw [upd_ne (ne_of_none e1 ha)]; exact e1) (Av.new (nc.kp k) hg)
theorem fn_greatest (T : Tp K mg aC aB) (F : At K mg "greatest" s_greatest p_greatest f fd) : Fn P w K mg base 1 "greatest" spGreatest := by
  refine fn_by F sc_greatest ?_ (fun cdv A outer s H vs Q E hr h => ?_)
  · rintro vs H Q E ⟨c, x, d, rfl, _⟩
    rfl
  obtain ⟨c, x, d, rfl, rx, q⟩ := h
  obtain ⟨p, rfl, hp, np⟩ := rx.ints
  refine ⟨_, (pss_cons (ps_if (pt_cmpR op_eq (pe_callB (k_len K rfl) (by rfl) T.len (by decide +kernel) (pa_cons (pv 0) pa_nil)) (pe_int) (nomark _)) (pss_one (ps_ret (pe_tup (pa_cons (pe_int) (pa_cons (pe_str) pa_nil))))) pss_nil)
  (pss_one (ps_ret (pe_tup (pa_cons (pe_callB (k_max K rfl rfl) (by rfl) T.max (by decide +kernel) (pa_cons (pv 0) pa_nil)) (pa_cons (pe_non) pa_nil)))))), ?_⟩
  have s1 : sem1 .most d = match (dLI d) with
    | [] => .error .empty
    | x :: r => .ok (maxL x r) := rfl
  rw [s1] at q
  generalize dLI d = l at hp q
  refine ⟨_, rfl, p, _, rfl, .inl (SqL.of hp), rfl, _, rfl, itB (fun e => ?_) (fun e => ?_)⟩
  · have z : (l.map V.int).length = 0 := Int.ofNat.inj (V.int.inj (of_decide_eq_true e))
    rw [List.length_map] at z
    obtain rfl := List.length_eq_zero_iff.mp z
    exact ⟨by show 2 ≤ sizeLine; decide, fun a ha => q _ _ (Kp.new ha) ⟨a, _, rfl, upd_same⟩⟩
  · cases l with
    | nil => exact absurd rfl (of_decide_eq_false e)
    | cons y r =>
      refine ⟨_, rfl, p, _, rfl, SqL.of hp, by show 0 < r.length + 1; omega, fun m hm hle => ?_⟩
      refine ⟨by show 2 ≤ sizeLine; decide, fun a ha => q _ _ (Kp.new ha) ⟨a, _, rfl, upd_same, ?_⟩⟩
      have h1 := maxL_mem r y
      obtain ⟨h2, h3⟩ := maxL_le r y
      have h4 : m ≤ maxL y r := by
        rcases List.mem_cons.mp hm with z | z
        · rw [z]
          exact h2
        · exact h3 m z
      have h5 := hle _ h1
      show V.int m = V.int (maxL y r)
      congr 1
      omega
theorem rgV_zero (i : Int) : rgV 0 i = ((List.range i.toNat).map fun (j : Nat) => (j : Int)).map V.int := by
  unfold rgV
  rw [List.map_map, Int.sub_zero]
  refine List.map_congr_left fun j _ => ?_
  show V.int (0 + (j : Int)) = V.int (j : Int)
  rw [Int.zero_add]
theorem fn_counted (T : Tp K mg aC aB) (F : At K mg "counted" s_counted p_counted f fd) : Fn P w K mg base 1 "counted" spCounted := by
  refine fn_by F sc_counted ?_ (fun cdv A outer s H vs Q E hr h => ?_)
  · rintro vs H Q E ⟨c, i, rfl, _⟩
    rfl
  obtain ⟨c, i, rfl, nc, q⟩ := h
  refine ⟨_, (pss_cons (ps_if (pt_not (pt_chain op_le op_le (pe_int) (pv 0) (pe_gc (by rfl) T.things))) (pss_one (ps_ret (pe_tup (pa_cons (pe_lst pa_nil) (pa_cons (pe_str) pa_nil))))) pss_nil)
  (pss_one (ps_ret (pe_tup (pa_cons (pe_listRg rfl (by rfl) T.list (prg_1 (by rfl) T.range (pv 0))) (pa_cons (pe_non) pa_nil)))))), ?_⟩
  have s1 : sem1 .upto i = if 0 ≤ (dI i) ∧ (dI i) ≤ 200 then .ok ((List.range (dI i).toNat).map fun (i : Nat) => (i : Int)) else .error .far := rfl
  rw [s1] at q
  have bad : ¬ (0 ≤ i ∧ i ≤ 200) → ∀ (a : Addr) (H' : Hp), Kp H H' → H' a = none → ∀ g, H' g = none → ∀ b, (upd H' g (.lst [])) b = none → Q (.ref b) (upd (upd H' g (.lst [])) b (.tup [.ref g, .str "far"])) := fun n a H' k _ g hg b hb => by
    refine q _ _ ((k.trans (Kp.new hg)).trans (Kp.new hb)) ?_
    rw [if_neg n]
    exact ⟨b, _, rfl, upd_same⟩
  refine ⟨_, rfl, _, _, rfl, rfl, _, rfl, itB (fun e => ?_) (fun e => ?_)⟩
  · refine ⟨_, _, rfl, rfl, _, rfl, ?_⟩
    refine itB (fun e2 => ?_) (fun e2 => ?_)
    · have e3 : decide (i ≤ 200) = false := by
        cases z : decide (i ≤ 200) with
        | false => rfl
        | true => rw [z] at e2; cases e2
      refine ⟨by show 0 ≤ sizeLine; decide, fun g hg => ⟨by show 2 ≤ sizeLine; decide, fun b hb => bad (fun z => of_decide_eq_false e3 z.2) b H Kp.refl (Kp.free (Kp.new hg) hb) g hg b hb⟩⟩
    · have e3 : decide (i ≤ 200) = true := by
        cases z : decide (i ≤ 200) with
        | false => rw [z] at e2; cases e2
        | true => rfl
      have h1 : 0 ≤ i := of_decide_eq_true e
      have h2 : i ≤ 200 := of_decide_eq_true e3
      refine ⟨_, rfl, _, rfl, ⟨by omega, by omega, by omega, by omega, by omega⟩, fun g hg => ⟨by show 2 ≤ sizeLine; decide, fun b hb => q _ _ ((Kp.new hg).trans (Kp.new hb)) ?_⟩⟩
      rw [if_pos (show 0 ≤ dI i ∧ dI i ≤ 200 from ⟨h1, h2⟩)]
      refine ⟨b, _, rfl, upd_same, RepW.of_ints ?_ (nc.new hg)⟩
      rw [upd_ne (ne_of_none upd_same hb), upd_same]
      exact congrArg (fun l => some (HO.lst l)) (rgV_zero i)
  · refine ⟨_, rfl, itT rfl ?_⟩
    refine ⟨by show 0 ≤ sizeLine; decide, fun g hg => ⟨by show 2 ≤ sizeLine; decide, fun b hb => bad (fun z => of_decide_eq_false e z.1) b H Kp.refl (Kp.free (Kp.new hg) hb) g hg b hb⟩⟩
theorem fn_bounded (T : Tp K mg aC aB) (F : At K mg "bounded" s_bounded p_bounded f fd) : Fn P w K mg base 1 "bounded" spBounded := by
  refine fn_by F sc_bounded ?_ (fun cdv A outer s H vs Q E hr h => ?_)
  · rintro vs H Q E ⟨c, k, x, d, rfl, _⟩
    rfl
  obtain ⟨c, k, x, d, rfl, rx, q⟩ := h
  obtain ⟨p, xs, rfl, hp, np, pr⟩ := id rx
  refine ⟨_, (pss_one (ps_ret (pe_tup (pa_cons (pv 0) (pa_cons (pe_ifExp (pt_cmpR op_le (pe_callB (k_len K rfl) (by rfl) T.len (by decide +kernel) (pa_cons (pv 0) pa_nil)) (pe_gc (by rfl) T.things) (nomark _)) (pe_non) (pe_str)) pa_nil))))), ?_⟩
  refine ⟨_, rfl, _, rfl, p, _, rfl, .inl (SqL.of hp), _, _, rfl, rfl, _, rfl, itB (fun e => ?_) (fun e => ?_)⟩
  · refine ⟨by show 2 ≤ sizeLine; decide, fun a ha => q _ _ (Kp.new ha) ?_⟩
    have z : (dL d).length ≤ 200 := by
      have := of_decide_eq_true e
      rw [Paired.len pr] at this
      omega
    rw [if_pos z]
    exact ⟨a, _, rfl, upd_same, rx.mono (Kp.new ha).lk⟩
  · refine ⟨by show 2 ≤ sizeLine; decide, fun a ha => q _ _ (Kp.new ha) ?_⟩
    have z : ¬ (dL d).length ≤ 200 := by
      have := of_decide_eq_false e
      rw [Paired.len pr] at this
      omega
    rw [if_neg z]
    exact ⟨a, _, rfl, upd_same⟩
theorem fn_turns_word (T : Tp K mg aC aB) (F : At K mg "turns_word" s_turns_word p_turns_word f fd) : Fn P w K mg base 1 "turns_word" spTurns := by
  refine fn_by F sc_turns_word ?_ (fun cdv A outer s H vs Q E hr h => ?_)
  · rintro vs H Q E ⟨i, rfl, _⟩
    rfl
  obtain ⟨i, rfl, q⟩ := h
  refine ⟨_, (pss_one (ps_ret (pe_ifExp (pt_chain op_le op_le (pe_int) (pv 0) (pe_gc (by rfl) T.turns)) (pe_non) (pe_str)))), ?_⟩
  refine ⟨_, rfl, _, _, rfl, rfl, _, rfl, itB (fun e => ?_) (fun e => ?_)⟩
  · refine ⟨_, _, rfl, rfl, _, rfl, itB (fun e2 => ?_) (fun e2 => ?_)⟩
    · rw [if_pos ⟨of_decide_eq_true e, of_decide_eq_true e2⟩] at q
      exact q
    · rw [if_neg (fun z => of_decide_eq_false e2 z.2)] at q
      exact q
  · rw [if_neg (fun z => of_decide_eq_false e z.1)] at q
    exact ⟨_, rfl, itF rfl q⟩
theorem flat_take {α : Type} {l : List (List α)} {i : Nat} {x : List α} (h : l[i]? = some x) : (l.take (i + 1)).flatten = (l.take i).flatten ++ x := by
  rw [take_more h, List.flatten_append]
  simp
theorem flat_len {α : Type} : ∀ (l : List (List α)), (∀ x ∈ l, x.length ≤ 200) → l.flatten.length ≤ 200 * l.length
  | [], _ => by simp
  | x :: l, h => by
    have h1 := h x List.mem_cons_self
    have h2 := flat_len l fun y hy => h y (List.mem_cons_of_mem _ hy)
    rw [List.flatten_cons, List.length_append, List.length_cons]
    omega
theorem fn_behind (T : Tp K mg aC aB) (F : At K mg "behind" s_behind p_behind f fd) (c_bounded : Fn P w K mg base 1 "bounded" spBounded) : Fn P w K mg base 2 "behind" spBehind := by
  refine fn_by F sc_behind ?_ (fun cdv A outer s H vs Q E hr h => ?_)
  · rintro vs H Q E ⟨c, k, x, d, rfl, _⟩
    rfl
  obtain ⟨c, k, x, d, rfl, nc, rx, fx, q⟩ := h
  obtain ⟨p, xs, rfl, hp, np, pr⟩ := id rx
  refine ⟨_, (pss_cons (ps_set (i := 1) sc_behind.nd rfl (by first | exact Or.inl rfl | exact Or.inr rfl) (pe_lst pa_nil))
  (pss_cons (ps_for PassesOwn.never rfl (k_pil K rfl (pv 0)) (pg_name (i := 2) sc_behind.nd rfl (by first | exact Or.inl rfl | exact Or.inr rfl)) (pss_one (ps_set (i := 1) sc_behind.nd rfl (by first | exact Or.inl rfl | exact Or.inr rfl) (pe_op op_cat (pv 1) (pv 2)))))
  (pss_one (ps_ret (pe_fn c_bounded hr (by omega) (by rfl) (pa_cons (pv 1) pa_nil)))))), ?_⟩
  refine ⟨by show 0 ≤ sizeLine; decide, fun a ha => ?_⟩
  have len : xs.length ≤ 200 := by
    rw [Paired.len pr]
    exact fx.1
  refine ⟨_, rfl, p, rfl, ⟨_, SqL.of ((Kp.new ha) p _ hp)⟩, for_list (K := K) (a := p) (xs := xs) (fun i σ H' => ∃ b ys v, σ = [some (.ref p), some (.ref b), v] ∧ Kp H H' ∧ H b = none ∧ H' b = some (.lst ys) ∧ Paired (RepW c H' k) ys ((dLL d).take i).flatten)
    ⟨a, [], none, rfl, Kp.new ha, ha, upd_same, .nil⟩ (fun i σ H' _ pv => ?_) ?_ ?_⟩
  · obtain ⟨b, ys, v, _, kp, _⟩ := pv
    exact SqL.of (kp p _ hp)
  · rintro i y σ H' hi ⟨b, ys, v, rfl, kp, nb, hb, py⟩
    obtain ⟨l, hl, r⟩ := Paired.at pr hi
    obtain ⟨q1, zs, rfl, hq1, nq1, pz⟩ := r
    have hl' : (dLL d)[i]? = some (dL l) := hl
    have hfl : ∀ m ∈ (dLL d).take i, m.length ≤ 200 := fun m hm => (fx.2 m (List.mem_of_mem_take hm)).1
    have z1 := flat_len _ hfl
    have z2 : ((dLL d).take i).length ≤ 200 := by
      rw [List.length_take]
      exact Nat.le_trans (Nat.min_le_right _ _) fx.1
    have z3 : (dL l).length ≤ 200 := (fx.2 l (List.mem_of_getElem? hl)).1
    refine ⟨_, rfl, _, rfl, _, _, _, _, rfl, rfl, hb, kp _ _ hq1, line_le ?_, fun g hg => ?_⟩
    · rw [Paired.len py, Paired.len pz]
      omega
    · refine ⟨g, _, _, rfl, kp.trans (Kp.new hg), Kp.free kp hg, upd_same, ?_⟩
      rw [flat_take hl']
      exact Paired.app (Paired.mapP py fun _ _ z => z.mono (Kp.new hg).lk) (Paired.mapP pz fun _ _ z => z.mono (kp.trans (Kp.new hg)).lk)
  · rintro σ H' ⟨b, ys, v, rfl, kp, nb, hb, py⟩
    rw [Paired.len pr] at py
    have e : ((dLL d).take (dL d).length).flatten = (dLL d).flatten := congrArg List.flatten (List.take_length (l := dLL d))
    rw [e] at py
    exact ⟨_, rfl, c, k, .ref b, (dLL d).flatten, rfl, ⟨b, ys, rfl, hb, nc.new nb, py⟩, fun v' H2 k2 o => q v' H2 (kp.trans k2) o⟩
theorem fn_picked (T : Tp K mg aC aB) (F : At K mg "picked" s_picked p_picked f fd) : Fn P w K mg base 1 "picked" spPicked := by
  refine fn_by F sc_picked ?_ (fun cdv A outer s H vs Q E hr h => ?_)
  · rintro vs H Q E ⟨c, k, x, d, i, rfl, _⟩
    rfl
  obtain ⟨c, k, x, d, i, rfl, rx, q⟩ := h
  obtain ⟨p, xs, rfl, hp, np, pr⟩ := id rx
  refine ⟨_, (pss_cons (ps_if (pt_not (pt_chain op_le op_lt (pe_int) (pv 1) (pe_callB (k_len K rfl) (by rfl) T.len (by decide +kernel) (pa_cons (pv 0) pa_nil)))) (pss_one (ps_ret (pe_tup (pa_cons (pe_int) (pa_cons (pe_str) pa_nil))))) pss_nil)
  (pss_one (ps_ret (pe_tup (pa_cons (pe_ix (k_ixl K rfl) (pv 0) (pv 1) (fun _ _ => rfl)) (pa_cons (pe_non) pa_nil)))))), ?_⟩
  have s1 : sem2 (.pick k) d i = if 0 ≤ (dI i) then (match (dL d)[(dI i).toNat]? with
    | some x => .ok x
    | none => .error .beyond) else .error .beyond := rfl
  rw [s1] at q
  refine ⟨_, rfl, _, _, rfl, rfl, _, rfl, itB (fun e => ?_) (fun e => ?_)⟩
  · have h0 : 0 ≤ dI i := of_decide_eq_true e
    rw [if_pos h0] at q
    refine ⟨_, rfl, p, _, rfl, .inl (SqL.of hp), _, _, rfl, rfl, _, rfl, itB (fun e2 => ?_) (fun e2 => ?_)⟩
    · have h1 : ¬ dI i < (xs.length : Int) := by
        cases z : decide ((i : Int) < (xs.length : Int)) with
        | false => exact of_decide_eq_false z
        | true => rw [z] at e2; cases e2
      have h2 : (dL d)[(dI i).toNat]? = none := by
        rw [List.getElem?_eq_none_iff, ← Paired.len pr]
        omega
      rw [h2] at q
      exact ⟨by show 2 ≤ sizeLine; decide, fun b hb => q _ _ (Kp.new hb) ⟨b, _, rfl, upd_same⟩⟩
    · have h1 : dI i < (xs.length : Int) := by
        cases z : decide ((i : Int) < (xs.length : Int)) with
        | true => exact of_decide_eq_true z
        | false => rw [z] at e2; cases e2
      have h2 : (dI i).toNat < xs.length := by omega
      obtain ⟨y, hy, r⟩ := Paired.at pr (List.getElem?_eq_getElem h2)
      have hy' : (dL d)[(dI i).toNat]? = some y := hy
      rw [hy'] at q
      have hx : atI xs i = some xs[(dI i).toNat] := by
        have z := atI_nat (List.getElem?_eq_getElem h2)
        rw [show (((dI i).toNat : Nat) : Int) = i from by show _ = dI i; omega] at z
        exact z
      exact ⟨_, rfl, _, rfl, _, _, _, _, rfl, rfl, SqL.of hp, hx, by show 2 ≤ sizeLine; decide, fun b hb => q _ _ (Kp.new hb) ⟨b, _, rfl, upd_same, r.mono (Kp.new hb).lk⟩⟩
  · refine ⟨_, rfl, itT rfl ?_⟩
    rw [if_neg (of_decide_eq_false e)] at q
    exact ⟨by show 2 ≤ sizeLine; decide, fun b hb => q _ _ (Kp.new hb) ⟨b, _, rfl, upd_same⟩⟩
/-- what is kept behind i turns -/
theorem keep_more {α : Type} {l : List α} {m : List Bool} {i : Nat} {x : α} {b : Bool} (hx : l[i]? = some x) (hb : m[i]? = some b) :
    (((l.take (i + 1)).zip (m.take (i + 1))).filter (·.2)).map (·.1) = (((l.take i).zip (m.take i)).filter (·.2)).map (·.1) ++ (if b = true then [x] else []) := by
  have h1 : i < l.length := (List.getElem?_eq_some_iff.mp hx).1
  have h2 : i < m.length := (List.getElem?_eq_some_iff.mp hb).1
  rw [take_more hx, take_more hb, List.zip_append (by rw [List.length_take, List.length_take]; omega), List.filter_append, List.map_append]
  cases b with
  | true => rfl
  | false => rfl
theorem keep_len {α : Type} (l : List α) (m : List Bool) : ((((l.zip m).filter (·.2)).map (·.1)) : List α).length ≤ l.length := by
  rw [List.length_map]
  refine Nat.le_trans (List.length_filter_le _ _) ?_
  rw [List.length_zip]
  exact Nat.min_le_left _ _
theorem fn_kept (T : Tp K mg aC aB) (F : At K mg "kept" s_kept p_kept f fd) : Fn P w K mg base 1 "kept" spKept := by
  refine fn_by F sc_kept ?_ (fun cdv A outer s H vs Q E hr h => ?_)
  · rintro vs H Q E ⟨c, k, x, y, d, e, rfl, _⟩
    rfl
  obtain ⟨c, k, x, y, d, e, rfl, nc, rx, ry, fx, q⟩ := h
  obtain ⟨p, xs, rfl, hp, np, pr⟩ := id rx
  obtain ⟨p2, ys, rfl, hp2, np2, pr2⟩ := id ry
  have eb : ys = (dLB e).map V.bl := rep_bls pr2
  refine ⟨_, (pss_cons (ps_if (pt_cmpR op_ne (pe_callB (k_len K rfl) (by rfl) T.len (by decide +kernel) (pa_cons (pv 0) pa_nil)) (pe_callB (k_len K rfl) (by rfl) T.len (by decide +kernel) (pa_cons (pv 1) pa_nil)) (nomark _)) (pss_one (ps_ret (pe_tup (pa_cons (pe_lst pa_nil) (pa_cons (pe_str) pa_nil))))) pss_nil)
  (pss_one (ps_ret (pe_tup (pa_cons (pe_lc (own := [("thing", 2), ("truth", 3)]) rfl sc_kept.nd (k_zipA K rfl (by rfl) T.zip (pa_cons (pv 0) (pa_cons (pv 1) pa_nil))) (blkOk_by (own := [("thing", 2), ("truth", 3)]) (by rfl)) (fun _ _ _ _ _ => (k_gtup K rfl (n := 2) rfl (pgs_cons (pg_name (i := 2) sc_kept.nd rfl (by first | exact Or.inl rfl | exact Or.inr rfl)) (pgs_cons (pg_name (i := 3) sc_kept.nd rfl (by first | exact Or.inl rfl | exact Or.inr rfl)) pgs_nil)))) (fun _ _ _ _ _ => (pts_one (k_truth K rfl (pv 3)))) (fun _ _ _ _ _ => (pv 2))) (pa_cons (pe_non) pa_nil)))))), ?_⟩
  have s1 : sem2 (.keep k) d e = if (dL d).length = (dLB e).length then .ok ((((dL d).zip (dLB e)).filter (·.2)).map (·.1)) else .error .unlike := rfl
  rw [s1] at q
  have l1 := Paired.len pr
  have l2 := Paired.len pr2
  have l2' : ys.length = (dLB e).length := l2
  refine ⟨_, rfl, p, _, rfl, .inl (SqL.of hp), _, rfl, p2, _, rfl, .inl (SqL.of hp2), rfl, _, rfl, itB (fun ee => ?_) (fun ee => ?_)⟩
  · have z : ¬ (dL d).length = (dLB e).length := fun z => by
      rw [← l1, ← l2'] at z
      rw [z] at ee
      exact absurd ee (by simp)
    rw [if_neg z] at q
    exact ⟨by show 0 ≤ sizeLine; decide, fun g hg => ⟨by show 2 ≤ sizeLine; decide, fun b hb => q _ _ ((Kp.new hg).trans (Kp.new hb)) ⟨b, _, rfl, upd_same⟩⟩⟩
  · have z' : V.int (xs.length : Int) = V.int (ys.length : Int) := by
      cases zz : decide (V.int (xs.length : Int) = V.int (ys.length : Int)) with
      | true => exact of_decide_eq_true zz
      | false => rw [zz] at ee; cases ee
    have z : xs.length = ys.length := Int.ofNat.inj (V.int.inj z')
    rw [if_pos (show (dL d).length = (dLB e).length by rw [← l1, ← l2', z])] at q
    refine ⟨_, rfl, _, rfl, p, p2, xs, ys, rfl, .inl ⟨SqL.of hp, SqL.of hp2, fun g hg => lc_zipL (K := K) (a := p) (b := p2) (xs := xs) (ys := ys) z (fun i H' => ∃ acc, Kp H H' ∧ H' g = some (.lst acc) ∧ Paired (RepW c H k) acc (((((dL d).take i).zip ((dLB e).take i)).filter (·.2)).map (·.1)))
      ⟨[], Kp.new hg, upd_same, .nil⟩ (fun i H' _ pv => ?_) ?_ ?_⟩⟩
    · obtain ⟨acc, kp, _⟩ := pv
      exact ⟨SqL.of (kp p _ hp), SqL.of (kp p2 _ hp2)⟩
    · rintro i a b t H' hi hj ⟨acc, kp, hacc, pa⟩ nt
      obtain ⟨u, hu, r⟩ := Paired.at pr hi
      have hu' : (dL d)[i]? = some u := hu
      rw [eb] at hj
      obtain ⟨bb, hbb, rfl⟩ := map_get hj
      have km := keep_more hu' hbb
      refine ⟨t, _, rfl, SqT.of upd_same, rfl, _, _, rfl, _, _, rfl, rfl, rfl, _, rfl, _, rfl, ?_⟩
      have hacc' : upd H' t (.tup [a, .bl bb]) g = some (.lst acc) := by
        rw [upd_ne (ne_of_none hacc nt)]
        exact hacc
      have kp' : Kp H (upd H' t (.tup [a, .bl bb])) := kp.trans (Kp.new nt)
      cases bb with
      | true =>
        refine itT rfl ⟨_, rfl, acc, hacc', line_lt ?_, acc ++ [a], kp'.put hg, upd_same, ?_⟩
        · have z3 := keep_len ((dL d).take i) ((dLB e).take i)
          rw [← Paired.len pa, List.length_take] at z3
          have : (dL d).length ≤ 200 := fx.1
          omega
        · rw [km, if_pos rfl]
          exact Paired.app pa (.cons r .nil)
      | false =>
        refine itF rfl ⟨acc, kp', hacc', ?_⟩
        rw [km, if_neg Bool.false_ne_true, List.append_nil]
        exact pa
    · rintro H' ⟨acc, kp, hacc, pa⟩
      refine ⟨by show 2 ≤ sizeLine; decide, fun b hb => q _ _ (kp.trans (Kp.new hb)) ⟨b, _, rfl, upd_same, g, acc, rfl, ?_, nc.new hg, ?_⟩⟩
      · rw [upd_ne (ne_of_none hacc hb)]
        exact hacc
      · have e1 : (dL d).take xs.length = dL d := by rw [l1]; exact List.take_length
        have e2 : (dLB e).take xs.length = dLB e := by rw [z, l2']; exact List.take_length
        rw [e1, e2] at pa
        exact Paired.mapP pa fun _ _ w => w.mono (kp.trans (Kp.new hb)).lk
end
end Br
/-! The steps on worths: cut, done_one, done_two, done_once. -/
namespace Br
open PySem L2
open PySem.Spec PyProof.Rows
section
variable {P : Program} {w : World} {K : PySem.W.Frag} {mg : Str → Option Value} {base : Heap} {aC aB f : Addr} {fd : FuncData}
theorem sum_take {l : List Int} {i : Nat} {x : Int} (h : l[i]? = some x) : (l.take (i + 1)).sum = (l.take i).sum + x := by
  rw [take_more h, List.sum_append]
  simp
theorem sum_nn : ∀ {l : List Int}, (∀ x ∈ l, 0 ≤ x) → 0 ≤ l.sum
  | [], _ => by simp
  | x :: l, h => by
    have h1 := h x List.mem_cons_self
    have h2 := sum_nn fun y hy => h y (List.mem_cons_of_mem _ hy)
    rw [List.sum_cons]
    omega
theorem sum_le {l : List Int} (h : ∀ x ∈ l, 0 ≤ x) (i : Nat) : (l.take i).sum ≤ l.sum := by
  have e : (l.take i).sum + (l.drop i).sum = l.sum := by rw [← List.sum_append, List.take_append_drop]
  have := sum_nn (l := l.drop i) fun x hx => h x (List.mem_of_mem_drop hx)
  omega
/-- the cut of a row, told by its turns -/
theorem cutL_get {α : Type} : ∀ {m : List Int} {l : List α} {i : Nat} {n : Int}, (∀ x ∈ m, 0 ≤ x) → m[i]? = some n → (cutL l m)[i]? = some ((l.drop (m.take i).sum.toNat).take n.toNat)
  | [], _, i, _, _, h => by simp at h
  | x :: m, l, 0, n, _, h => by
    have e := Option.some.inj h
    subst e
    rfl
  | x :: m, l, i + 1, n, hp, h => by
    have h1 := hp x List.mem_cons_self
    have h2 : ∀ y ∈ m, 0 ≤ y := fun y hy => hp y (List.mem_cons_of_mem _ hy)
    have ih := cutL_get (l := l.drop x.toNat) (i := i) (n := n) h2 h
    show (cutL (l.drop x.toNat) m)[i]? = _
    rw [ih, List.drop_drop]
    have h3 : 0 ≤ (m.take i).sum := sum_nn fun y hy => h2 y (List.mem_of_mem_take hy)
    have e : x.toNat + (m.take i).sum.toNat = ((x :: m).take (i + 1)).sum.toNat := by
      show _ = (x :: m.take i).sum.toNat
      rw [List.sum_cons]
      omega
    rw [e]
theorem cutV_mid (xs : List V) {a n : Int} (ha : 0 ≤ a) (hn : 0 ≤ n) (hl : a + n ≤ xs.length) : cutV xs (some a) (some (a + n)) = (xs.drop a.toNat).take n.toNat := by
  have e1 : HT.sIx xs.length 0 (some a) = a.toNat := by
    have := HT.sIx_nat xs.length 0 a.toNat
    rw [show ((a.toNat : Nat) : Int) = a by omega] at this
    rw [this]
    omega
  have e2 : HT.sIx xs.length xs.length (some (a + n)) = (a + n).toNat := by
    have := HT.sIx_nat xs.length xs.length (a + n).toNat
    rw [show (((a + n).toNat : Nat) : Int) = a + n by omega] at this
    rw [this]
    omega
  unfold cutV
  rw [e1, e2]
  congr 1
  omega
theorem any_neg {l : List Int} : l.any (fun i => decide (i < 0)) = false ↔ ∀ x ∈ l, 0 ≤ x := by
  rw [List.any_eq_false]
  refine ⟨fun h x hx => ?_, fun h x hx => ?_⟩
  · have := h x hx
    simp at this
    omega
  · have := h x hx
    simp
    omega
theorem fn_cut (T : Tp K mg aC aB) (F : At K mg "cut" s_cut p_cut f fd) : Fn P w K mg base 1 "cut" spCut := by
  refine fn_by F sc_cut ?_ (fun cdv A outer s H vs Q E hr h => ?_)
  · rintro vs H Q E ⟨c, k, x, y, d, e, rfl, _⟩
    rfl
  obtain ⟨c, k, x, y, d, e, rfl, nc, rx, ry, fx, fy, q⟩ := h
  obtain ⟨p, xs, rfl, hp, np, pr⟩ := id rx
  obtain ⟨p2, rfl, hp2, np2⟩ := ry.ints
  refine ⟨_, (pss_cons (ps_if (pw_or (pt_cmpR op_gt (pe_callB (k_len K rfl) (by rfl) T.len (by decide +kernel) (pa_cons (pe_lc (own := [("one", 5)]) rfl sc_cut.nd (k_pil K rfl (pv 1)) (blkOk_by (own := [("one", 5)]) (by rfl)) (fun _ _ _ _ _ => (pg_name (i := 5) sc_cut.nd rfl (by first | exact Or.inl rfl | exact Or.inr rfl))) (fun _ _ _ _ _ => (pts_one (pt_cmpR op_lt (pv 5) (pe_int) (nomark _)))) (fun _ _ _ _ _ => (pv 5))) pa_nil)) (pe_int) (nomark _)) (pw_or1 (pt_cmpR op_ne (pe_callB (k_sum K rfl rfl) (by rfl) T.sum (by decide +kernel) (pa_cons (pv 1) pa_nil)) (pe_callB (k_len K rfl) (by rfl) T.len (by decide +kernel) (pa_cons (pv 0) pa_nil)) (nomark _)))).pt (pss_one (ps_ret (pe_tup (pa_cons (pe_lst pa_nil) (pa_cons (pe_str) pa_nil))))) pss_nil)
  (pss_cons (ps_set (i := 2) sc_cut.nd rfl (by first | exact Or.inl rfl | exact Or.inr rfl) (pe_lst pa_nil))
  (pss_cons (ps_set (i := 3) sc_cut.nd rfl (by first | exact Or.inl rfl | exact Or.inr rfl) (pe_int))
  (pss_cons (ps_for PassesOwn.never rfl (k_pil K rfl (pv 1)) (pg_name (i := 4) sc_cut.nd rfl (by first | exact Or.inl rfl | exact Or.inr rfl)) (pss_cons (ps_expr (k_bm K rfl PySem.F.plainAttrs_list PySem.F.slot_list_append PySem.F.type_list_append mt_append (pv 2) (pa_cons (pe_slice (k_sll K rfl) (pv 0) (po_some (pv 3)) (po_some (pe_op op_add (pv 3) (pv 4)))) pa_nil)))
  (pss_one (ps_set (i := 3) sc_cut.nd rfl (by first | exact Or.inl rfl | exact Or.inr rfl) (pe_op op_add (pv 3) (pv 4))))))
  (pss_one (ps_ret (pe_tup (pa_cons (pv 2) (pa_cons (pe_non) pa_nil))))))))), ?_⟩
  have s1 : sem2 (.cut k) d e = if (dLI e).any (fun i => decide (i < 0)) = false ∧ (dLI e).sum = ((dL d).length : Int) then .ok (cutL (dL d) (dLI e)) else .error .unlike := rfl
  rw [s1] at q
  have l1 := Paired.len pr
  have ly : (dLI e).length ≤ 200 := fy.1
  refine ⟨_, rfl, p2, rfl, ⟨_, SqL.of hp2⟩, fun g hg => lc_list (K := K) (a := p2) (xs := (dLI e).map V.int) (fun i H' => ∃ acc, Kp H H' ∧ H' g = some (.lst acc) ∧ acc.length ≤ i ∧ (acc.length = 0 ↔ ((dLI e).take i).any (fun i => decide (i < 0)) = false))
    ⟨[], Kp.new hg, upd_same, Nat.le_refl _, by simp⟩ (fun i H' _ pv => ?_) ?_ ?_⟩
  · obtain ⟨acc, kp, _⟩ := pv
    exact SqL.of (kp p2 _ hp2)
  · rintro i a H' hi ⟨acc, kp, hacc, hle, hiff⟩
    obtain ⟨z, hz, rfl⟩ := ints_get hi
    have hi2 : i < (dLI e).length := (List.getElem?_eq_some_iff.mp hz).1
    refine ⟨rfl, _, rfl, _, _, rfl, rfl, _, rfl, itB (fun en => ?_) (fun en => ?_)⟩
    · refine ⟨_, rfl, acc, hacc, line_lt (by omega), acc ++ [.int z], kp.put hg, upd_same, by rw [List.length_append]; show acc.length + 1 ≤ _; omega, ?_⟩
      rw [take_more hz, List.any_append, List.any_cons, en]
      simp
    · refine ⟨acc, kp, hacc, by omega, ?_⟩
      rw [take_more hz, List.any_append, List.any_cons, en]
      simpa using hiff
  rintro H' ⟨acc, kp, hacc, hle, hiff⟩
  rw [List.length_map, List.take_length] at hiff
  have bad : ¬ ((dLI e).any (fun i => decide (i < 0)) = false ∧ (dLI e).sum = ((dL d).length : Int)) → ∀ (H' : Hp), Kp H H' → ∀ g, H' g = none → ∀ b, (upd H' g (.lst [])) b = none → Q (.ref b) (upd (upd H' g (.lst [])) b (.tup [.ref g, .str "unlike"])) := fun n H' k g hg b hb => by
    refine q _ _ ((k.trans (Kp.new hg)).trans (Kp.new hb)) ?_
    rw [if_neg n]
    exact ⟨b, _, rfl, upd_same⟩
  refine ⟨g, _, rfl, .inl (SqL.of hacc), _, _, rfl, rfl, _, rfl, itB (fun e1 => ?_) (fun e1 => ?_)⟩
  · refine itT rfl ⟨by show 0 ≤ sizeLine; decide, fun a ha => ⟨by show 2 ≤ sizeLine; decide, fun b hb => bad (fun z => ?_) H' kp a ha b hb⟩⟩
    have z1 := hiff.mpr z.1
    rw [z1] at e1
    cases e1
  · have z0 : acc.length = 0 := by
      have := of_decide_eq_false e1
      omega
    have z1 := hiff.mp z0
    refine ⟨_, rfl, p2, dLI e, rfl, SqL.of (kp p2 _ hp2), _, rfl, p, _, rfl, .inl (SqL.of (kp p _ hp)), rfl, _, rfl, itB (fun e2 => ?_) (fun e2 => ?_)⟩
    · refine ⟨by show 0 ≤ sizeLine; decide, fun a ha => ⟨by show 2 ≤ sizeLine; decide, fun b hb => bad (fun z => ?_) H' kp a ha b hb⟩⟩
      rw [z.2, l1] at e2
      simp at e2
    · have z2 : (dLI e).sum = ((dL d).length : Int) := by
        cases zz : decide (V.int (dLI e).sum = V.int (xs.length : Int)) with
        | true =>
          rw [← l1]
          exact V.int.inj (of_decide_eq_true zz)
        | false => rw [zz] at e2; cases e2
      rw [if_pos ⟨z1, z2⟩] at q
      have nn := any_neg.mp z1
      obtain ⟨L, hL⟩ : ∃ L : List (D (.row k)), L = cutL (dL d) (dLI e) := ⟨_, rfl⟩
      have hLl : L.length = (dLI e).length := by
        rw [hL]
        exact cutL_length _ _
      have hLg : ∀ (i : Nat) (z : Int), (dLI e)[i]? = some z → L[i]? = some (((dL d).drop ((dLI e).take i).sum.toNat).take z.toNat) := fun i z hz => by
        rw [hL]
        exact cutL_get nn hz
      have q' : spOut (k := .row (.row k)) c (.ok L) H Q := by
        rw [hL]
        exact q
      refine ⟨by show 0 ≤ sizeLine; decide, fun b hb => ?_⟩
      have nb : H b = none := Kp.free kp hb
      have k0 := kp.trans (Kp.new (o := .lst []) hb)
      refine ⟨_, rfl, p2, rfl, ⟨_, SqL.of (k0 p2 _ hp2)⟩, for_list (K := K) (a := p2) (xs := (dLI e).map V.int) (fun i σ H2 => ∃ acc v, σ = [some (.ref p), some (.ref p2), some (.ref b), some (.int ((dLI e).take i).sum), v, none] ∧ Kp H H2 ∧ H2 b = some (.lst acc) ∧ Paired (RepW (fun a => c a ∨ a = b) H2 (.row k)) acc (L.take i))
        ⟨[], none, rfl, k0, upd_same, .nil⟩ (fun i σ H2 _ pv => ?_) ?_ ?_⟩
      · obtain ⟨acc2, v, _, kp2, _⟩ := pv
        exact SqL.of (kp2 p2 _ hp2)
      · rintro i a σ H2 hi ⟨acc2, v, rfl, kp2, hacc2, pa⟩
        obtain ⟨z, hz, rfl⟩ := ints_get hi
        have hi2 : i < (dLI e).length := (List.getElem?_eq_some_iff.mp hz).1
        have la : acc2.length < sizeLine := by
          refine line_lt ?_
          rw [Paired.len pa, List.length_take]
          omega
        have s0 : 0 ≤ ((dLI e).take i).sum := sum_nn fun x hx => nn x (List.mem_of_mem_take hx)
        have s2 : 0 ≤ z := nn z (List.mem_of_getElem? hz)
        have s3 : ((dLI e).take i).sum + z ≤ xs.length := by
          have := sum_le nn (i + 1)
          rw [sum_take hz, z2, ← l1] at this
          exact this
        refine ⟨_, rfl, .inl ⟨rfl, _, SqL.of hacc2⟩, _, rfl, _, rfl, _, rfl, _, rfl, _, rfl, _, _, rfl, rfl, _, rfl, _, _, rfl, SqL.of (kp2 p _ hp), fun g2 hg2 => ?_⟩
        rw [cutV_mid xs s0 s2 s3]
        have hb2 : upd H2 g2 (.lst ((xs.drop ((dLI e).take i).sum.toNat).take z.toNat)) b = some (.lst acc2) := by
          rw [upd_ne (ne_of_none hacc2 hg2)]
          exact hacc2
        refine ⟨_, _, _, rfl, rfl, hb2, la, ?_⟩
        have kp3 : Kp H (upd H2 g2 (.lst ((xs.drop ((dLI e).take i).sum.toNat).take z.toNat))) := kp2.trans (Kp.new hg2)
        have kp4 := kp3.put (o := .lst (acc2 ++ [V.ref g2])) nb
        refine ⟨_, rfl, _, rfl, _, _, rfl, rfl, acc2 ++ [V.ref g2], some (.int z), by rw [sum_take hz]; rfl, kp4, upd_same, ?_⟩
        rw [take_more (hLg i z hz)]
        have lk : Lk (fun a => c a ∨ a = b) H2 (upd (upd H2 g2 (.lst ((xs.drop ((dLI e).take i).sum.toNat).take z.toNat))) b (.lst (acc2 ++ [V.ref g2]))) :=
          (Lk.new hg2).trans (Lk.at (.inr rfl) (NoT.of hb2 (fun _ z => nomatch z)))
        refine Paired.app (Paired.mapP pa fun _ _ r => r.mono lk) (.cons ⟨g2, (xs.drop ((dLI e).take i).sum.toNat).take z.toNat, rfl, ?_, ?_, ?_⟩ .nil)
        · rw [upd_ne (fun z => by rw [z, hacc2] at hg2; cases hg2)]
          exact upd_same
        · rintro (z | z)
          · exact nc.kp kp2 |>.new hg2 z
          · rw [z, hacc2] at hg2
            cases hg2
        · exact Paired.mapP (Paired.tak _ (Paired.dro _ pr)) fun _ _ r => (RepW.more nb r).mono kp4.lk
      · rintro σ H2 ⟨acc2, v, rfl, kp2, hacc2, pa⟩
        have e9 : L.take ((dLI e).map V.int).length = L := by
          rw [List.length_map, ← hLl]
          exact List.take_length
        rw [e9] at pa
        refine ⟨_, rfl, by show 2 ≤ sizeLine; decide, fun g2 hg2 => q' _ _ (kp2.trans (Kp.new hg2)) ⟨g2, _, rfl, upd_same, b, acc2, rfl, ?_, nc.new nb, ?_⟩⟩
        · rw [upd_ne (ne_of_none hacc2 hg2)]
          exact hacc2
        · exact Paired.mapP pa fun _ _ r => (r.mono (Lk.new hg2)).less
theorem fn_done_one (T : Tp K mg aC aB) (F : At K mg "done_one" s_done_one p_done_one f fd) (c_counted : Fn P w K mg base 1 "counted" spCounted) (c_greatest : Fn P w K mg base 1 "greatest" spGreatest) (c_behind : Fn P w K mg base 2 "behind" spBehind)
    (c_summed : Fn P w K mg base 3 "summed" spSummed) : Fn P w K mg base 4 "done_one" spDone1 := by
  refine fn_by F sc_done_one ?_ (fun cdv A outer s H vs Q E hr h => ?_)
  · rintro vs H Q E ⟨c, a, b, o, x, d, rfl, _⟩
    rfl
  obtain ⟨c, a, b, o, x, d, rfl, nc, rx, fx, q⟩ := h
  refine ⟨_, (pss_cons (ps_if (pt_cmpR op_eq (pv 0) (pe_str) (nomark _)) (pss_one (ps_ret (pe_tup (pa_cons (pe_not (pv 1)) (pa_cons (pe_non) pa_nil))))) pss_nil)
  (pss_cons (ps_if (pt_cmpR (k_in K rfl) (pv 0) (pe_tup (pa_cons (pe_str) (pa_cons (pe_str) pa_nil))) rfl) (pss_one (ps_ret (pe_tup (pa_cons (pe_ix (k_ixt K rfl) (pv 1) (pe_callTy call_int1 (by rfl) T.int (by decide +kernel) (pa_cons (pe_cmpR op_eq (pv 0) (pe_str) (nomark _)) pa_nil)) (fun _ _ => rfl)) (pa_cons (pe_non) pa_nil))))) pss_nil)
  (pss_cons (ps_if (pt_cmpR op_eq (pv 0) (pe_str) (nomark _)) (pss_one (ps_ret (pe_tup (pa_cons (pe_lst (pa_cons (pv 1) pa_nil)) (pa_cons (pe_non) pa_nil))))) pss_nil)
  (pss_cons (ps_if (pt_cmpR op_eq (pv 0) (pe_str) (nomark _)) (pss_one (ps_ret (pe_fn c_counted hr (by omega) (by rfl) (pa_cons (pv 1) pa_nil)))) pss_nil)
  (pss_cons (ps_if (pt_cmpR op_eq (pv 0) (pe_str) (nomark _)) (pss_one (ps_ret (pe_tup (pa_cons (pe_callB (k_len K rfl) (by rfl) T.len (by decide +kernel) (pa_cons (pv 1) pa_nil)) (pa_cons (pe_non) pa_nil))))) pss_nil)
  (pss_cons (ps_if (pt_cmpR op_eq (pv 0) (pe_str) (nomark _)) (pss_one (ps_ret (pe_fn c_greatest hr (by omega) (by rfl) (pa_cons (pv 1) pa_nil)))) pss_nil)
  (pss_cons (ps_if (pt_cmpR op_eq (pv 0) (pe_str) (nomark _)) (pss_one (ps_ret (pe_fn c_behind hr (by omega) (by rfl) (pa_cons (pv 1) pa_nil)))) pss_nil)
  (pss_one (ps_ret (pe_fn c_summed hr (by omega) (by rfl) (pa_cons (pv 0) (pa_cons (pv 1) pa_nil)))))))))))), ?_⟩
  generalize hs : o.str = sg
  cases o with
  | not =>
    obtain rfl : sg = "not" := hs.symm
    have e : x = .bl (dB d) := rx
    subst e
    refine ⟨_, rfl, rfl, _, rfl, itT (by decide +kernel) ⟨_, rfl, _, rfl, by show 2 ≤ sizeLine; decide, fun p hp => q _ _ (Kp.new hp) ⟨p, _, rfl, upd_same, rfl⟩⟩⟩
  | first b' k' =>
    obtain rfl : sg = "first" := hs.symm
    obtain ⟨p0, x1, x2, rfl, h0, n0, r1, r2⟩ := rx
    refine ⟨_, rfl, rfl, _, rfl, itF (by decide +kernel) ?_⟩
    refine ⟨_, rfl, by show 2 ≤ sizeLine; decide, fun g hg => ⟨g, _, rfl, .inr (SqT.of upd_same), rfl, rfl, _, rfl, itT (by decide +kernel) ?_⟩⟩
    have h1 := (Kp.new (o := .tup [.str "first", .str "second"]) hg) _ _ h0
    refine ⟨_, rfl, _, rfl, rfl, .inr ⟨false, rfl, ?_⟩⟩
    exact ⟨p0, _, 0, x1, rfl, rfl, SqT.of h1, atI_zero, by show 2 ≤ sizeLine; decide, fun p hp => q _ _ ((Kp.new hg).trans (Kp.new hp)) ⟨p, _, rfl, upd_same, r1.mono ((Kp.new hg).trans (Kp.new hp)).lk⟩⟩
  | second b' k' =>
    obtain rfl : sg = "second" := hs.symm
    obtain ⟨p0, x1, x2, rfl, h0, n0, r1, r2⟩ := rx
    refine ⟨_, rfl, rfl, _, rfl, itF (by decide +kernel) ?_⟩
    refine ⟨_, rfl, by show 2 ≤ sizeLine; decide, fun g hg => ⟨g, _, rfl, .inr (SqT.of upd_same), rfl, rfl, _, rfl, itT (by decide +kernel) ?_⟩⟩
    have h1 := (Kp.new (o := .tup [.str "first", .str "second"]) hg) _ _ h0
    refine ⟨_, rfl, _, rfl, rfl, .inr ⟨true, rfl, ?_⟩⟩
    exact ⟨p0, _, 1, x2, rfl, rfl, SqT.of h1, atI_one, by show 2 ≤ sizeLine; decide, fun p hp => q _ _ ((Kp.new hg).trans (Kp.new hp)) ⟨p, _, rfl, upd_same, r2.mono ((Kp.new hg).trans (Kp.new hp)).lk⟩⟩
  | one _ =>
    obtain rfl : sg = "one" := hs.symm
    refine ⟨_, rfl, rfl, _, rfl, itF (by decide +kernel) ?_⟩
    refine ⟨_, rfl, by show 2 ≤ sizeLine; decide, fun g hg => ⟨g, _, rfl, .inr (SqT.of upd_same), rfl, rfl, _, rfl, itF (by decide +kernel) ?_⟩⟩
    refine ⟨_, rfl, rfl, _, rfl, itT (by decide +kernel) ?_⟩
    refine ⟨_, rfl, by show 1 ≤ sizeLine; decide, fun p hp => ⟨by show 2 ≤ sizeLine; decide, fun b hb => q _ _ (((Kp.new hg).trans (Kp.new hp)).trans (Kp.new hb)) ⟨b, _, rfl, upd_same, p, [x], rfl, ?_, (nc.kp (Kp.new hg)).new hp, .cons (rx.mono (((Kp.new hg).trans (Kp.new hp)).trans (Kp.new hb)).lk) .nil⟩⟩⟩
    rw [upd_ne (ne_of_none upd_same hb)]
    exact upd_same
  | upto =>
    obtain rfl : sg = "upto" := hs.symm
    have e : x = .int (dI d) := rx
    subst e
    refine ⟨_, rfl, rfl, _, rfl, itF (by decide +kernel) ?_⟩
    refine ⟨_, rfl, by show 2 ≤ sizeLine; decide, fun g hg => ⟨g, _, rfl, .inr (SqT.of upd_same), rfl, rfl, _, rfl, itF (by decide +kernel) ?_⟩⟩
    refine ⟨_, rfl, rfl, _, rfl, itF (by decide +kernel) ?_⟩
    refine ⟨_, rfl, rfl, _, rfl, itT (by decide +kernel) ?_⟩
    exact ⟨_, rfl, c, dI d, rfl, nc.kp (Kp.new hg), fun v H' k o => q v H' ((Kp.new hg).trans k) o⟩
  | long _ =>
    obtain rfl : sg = "long" := hs.symm
    obtain ⟨p0, xs, rfl, h0, n0, pr⟩ := rx
    refine ⟨_, rfl, rfl, _, rfl, itF (by decide +kernel) ?_⟩
    refine ⟨_, rfl, by show 2 ≤ sizeLine; decide, fun g hg => ⟨g, _, rfl, .inr (SqT.of upd_same), rfl, rfl, _, rfl, itF (by decide +kernel) ?_⟩⟩
    have h1 := (Kp.new (o := .tup [.str "first", .str "second"]) hg) _ _ h0
    refine ⟨_, rfl, rfl, _, rfl, itF (by decide +kernel) ?_⟩
    refine ⟨_, rfl, rfl, _, rfl, itF (by decide +kernel) ?_⟩
    refine ⟨_, rfl, rfl, _, rfl, itT (by decide +kernel) ?_⟩
    refine ⟨_, rfl, p0, _, rfl, .inl (SqL.of h1), by show 2 ≤ sizeLine; decide, fun p hp => q _ _ ((Kp.new hg).trans (Kp.new hp)) ⟨p, _, rfl, upd_same, ?_⟩⟩
    rw [Paired.len pr]
    rfl
  | most =>
    obtain rfl : sg = "most" := hs.symm
    refine ⟨_, rfl, rfl, _, rfl, itF (by decide +kernel) ?_⟩
    refine ⟨_, rfl, by show 2 ≤ sizeLine; decide, fun g hg => ⟨g, _, rfl, .inr (SqT.of upd_same), rfl, rfl, _, rfl, itF (by decide +kernel) ?_⟩⟩
    refine ⟨_, rfl, rfl, _, rfl, itF (by decide +kernel) ?_⟩
    refine ⟨_, rfl, rfl, _, rfl, itF (by decide +kernel) ?_⟩
    refine ⟨_, rfl, rfl, _, rfl, itF (by decide +kernel) ?_⟩
    refine ⟨_, rfl, rfl, _, rfl, itT (by decide +kernel) ?_⟩
    exact ⟨_, rfl, c, x, d, rfl, rx.mono (Kp.new hg).lk, fun v H' k o => q v H' ((Kp.new hg).trans k) o⟩
  | flat _ =>
    obtain rfl : sg = "flat" := hs.symm
    refine ⟨_, rfl, rfl, _, rfl, itF (by decide +kernel) ?_⟩
    refine ⟨_, rfl, by show 2 ≤ sizeLine; decide, fun g hg => ⟨g, _, rfl, .inr (SqT.of upd_same), rfl, rfl, _, rfl, itF (by decide +kernel) ?_⟩⟩
    refine ⟨_, rfl, rfl, _, rfl, itF (by decide +kernel) ?_⟩
    refine ⟨_, rfl, rfl, _, rfl, itF (by decide +kernel) ?_⟩
    refine ⟨_, rfl, rfl, _, rfl, itF (by decide +kernel) ?_⟩
    refine ⟨_, rfl, rfl, _, rfl, itF (by decide +kernel) ?_⟩
    refine ⟨_, rfl, rfl, _, rfl, itT (by decide +kernel) ?_⟩
    exact ⟨_, rfl, c, _, x, d, rfl, nc.kp (Kp.new hg), rx.mono (Kp.new hg).lk, fx, fun v H' k o => q v H' ((Kp.new hg).trans k) o⟩
  | sum =>
    obtain rfl : sg = "sum" := hs.symm
    refine ⟨_, rfl, rfl, _, rfl, itF (by decide +kernel) ?_⟩
    refine ⟨_, rfl, by show 2 ≤ sizeLine; decide, fun g hg => ⟨g, _, rfl, .inr (SqT.of upd_same), rfl, rfl, _, rfl, itF (by decide +kernel) ?_⟩⟩
    refine ⟨_, rfl, rfl, _, rfl, itF (by decide +kernel) ?_⟩
    refine ⟨_, rfl, rfl, _, rfl, itF (by decide +kernel) ?_⟩
    refine ⟨_, rfl, rfl, _, rfl, itF (by decide +kernel) ?_⟩
    refine ⟨_, rfl, rfl, _, rfl, itF (by decide +kernel) ?_⟩
    refine ⟨_, rfl, rfl, _, rfl, itF (by decide +kernel) ?_⟩
    exact ⟨_, rfl, _, rfl, c, x, d, nc.kp (Kp.new hg), rx.mono (Kp.new hg).lk, fx, .inl ⟨rfl, fun v H' k o => q v H' ((Kp.new hg).trans k) o⟩⟩
  | sums =>
    obtain rfl : sg = "sums" := hs.symm
    refine ⟨_, rfl, rfl, _, rfl, itF (by decide +kernel) ?_⟩
    refine ⟨_, rfl, by show 2 ≤ sizeLine; decide, fun g hg => ⟨g, _, rfl, .inr (SqT.of upd_same), rfl, rfl, _, rfl, itF (by decide +kernel) ?_⟩⟩
    refine ⟨_, rfl, rfl, _, rfl, itF (by decide +kernel) ?_⟩
    refine ⟨_, rfl, rfl, _, rfl, itF (by decide +kernel) ?_⟩
    refine ⟨_, rfl, rfl, _, rfl, itF (by decide +kernel) ?_⟩
    refine ⟨_, rfl, rfl, _, rfl, itF (by decide +kernel) ?_⟩
    refine ⟨_, rfl, rfl, _, rfl, itF (by decide +kernel) ?_⟩
    exact ⟨_, rfl, _, rfl, c, x, d, nc.kp (Kp.new hg), rx.mono (Kp.new hg).lk, fx, .inr ⟨rfl, fun v H' k o => q v H' ((Kp.new hg).trans k) o⟩⟩
theorem fn_done_two (T : Tp K mg aC aB) (F : At K mg "done_two" s_done_two p_done_two f fd) (c_picked : Fn P w K mg base 1 "picked" spPicked) (c_bounded : Fn P w K mg base 1 "bounded" spBounded) (c_kept : Fn P w K mg base 1 "kept" spKept) (c_cut : Fn P w K mg base 1 "cut" spCut)
    (c_reckoned : Fn P w K mg base 3 "reckoned" spReckoned) : Fn P w K mg base 4 "done_two" spDone2 := by
  refine fn_by F sc_done_two ?_ (fun cdv A outer s H vs Q E hr h => ?_)
  · rintro vs H Q E ⟨c, a, b, k, o, x, y, d, e, rfl, _⟩
    rfl
  obtain ⟨c, a, b, k, o, x, y, d, e, rfl, nc, rx, ry, fx, fy, q⟩ := h
  refine ⟨_, (pss_cons (ps_if (pt_cmpR op_eq (pv 0) (pe_str) (nomark _)) (pss_one (ps_ret (pe_tup (pa_cons (pe_cmpR op_lt (pv 1) (pv 2) (nomark _)) (pa_cons (pe_non) pa_nil))))) pss_nil)
  (pss_cons (ps_if (pt_cmpR op_eq (pv 0) (pe_str) (nomark _)) (pss_one (ps_ret (pe_tup (pa_cons (pe_cmpR op_eq (pv 1) (pv 2) (nomark _)) (pa_cons (pe_non) pa_nil))))) pss_nil)
  (pss_cons (ps_if (pt_cmpR op_eq (pv 0) (pe_str) (nomark _)) (pss_one (ps_ret (pe_tup (pa_cons (k_andT K rfl (pv 1) (pe_one (pv 2))) (pa_cons (pe_non) pa_nil))))) pss_nil)
  (pss_cons (ps_if (pt_cmpR op_eq (pv 0) (pe_str) (nomark _)) (pss_one (ps_ret (pe_tup (pa_cons (pe_tup (pa_cons (pv 1) (pa_cons (pv 2) pa_nil))) (pa_cons (pe_non) pa_nil))))) pss_nil)
  (pss_cons (ps_if (pt_cmpR op_eq (pv 0) (pe_str) (nomark _)) (pss_one (ps_ret (pe_fn c_picked hr (by omega) (by rfl) (pa_cons (pv 1) (pa_cons (pv 2) pa_nil))))) pss_nil)
  (pss_cons (ps_if (pt_cmpR op_eq (pv 0) (pe_str) (nomark _)) (pss_one (ps_ret (pe_fn c_bounded hr (by omega) (by rfl) (pa_cons (pe_op op_cat (pv 1) (pv 2)) pa_nil)))) pss_nil)
  (pss_cons (ps_if (pt_cmpR op_eq (pv 0) (pe_str) (nomark _)) (pss_one (ps_ret (pe_fn c_kept hr (by omega) (by rfl) (pa_cons (pv 1) (pa_cons (pv 2) pa_nil))))) pss_nil)
  (pss_cons (ps_if (pt_cmpR op_eq (pv 0) (pe_str) (nomark _)) (pss_one (ps_ret (pe_fn c_cut hr (by omega) (by rfl) (pa_cons (pv 1) (pa_cons (pv 2) pa_nil))))) pss_nil)
  (pss_one (ps_ret (pe_fn c_reckoned hr (by omega) (by rfl) (pa_cons (pv 0) (pa_cons (pv 1) (pa_cons (pv 2) pa_nil)))))))))))))), ?_⟩
  have num2 : ∀ {o : O2 .num .num .num} {d e : D .num} {x y : V} (rx : RepW c H .num x d) (ry : RepW c H .num y e) (fx : Fit .num d) (fy : Fit .num e) (q : spOut c (sem2 o d e) H Q), spReckoned ([.str o.str, x, y] ++ []) H Q E0 := by
    intro o d e x y rx ry fx fy q
    have e1 : x = .int (dI d) := rx
    have e2 : y = .int (dI e) := ry
    subst e1 e2
    exact ⟨o, dI d, dI e, c, rfl, fx, fy, q⟩
  generalize hs : o.str = sg
  cases o with
  | less =>
    obtain rfl : sg = "less" := hs.symm
    have e1 : x = .int (dI d) := rx
    have e2 : y = .int (dI e) := ry
    subst e1 e2
    exact ⟨_, rfl, rfl, _, rfl, itT (by decide +kernel) ⟨_, rfl, _, rfl, _, _, rfl, rfl, by show 2 ≤ sizeLine; decide, fun p hp => q _ _ (Kp.new hp) ⟨p, _, rfl, upd_same, rfl⟩⟩⟩
  | sameN =>
    obtain rfl : sg = "same" := hs.symm
    have e1 : x = .int (dI d) := rx
    have e2 : y = .int (dI e) := ry
    subst e1 e2
    refine ⟨_, rfl, rfl, _, rfl, itF (by decide +kernel) ⟨_, rfl, rfl, _, rfl, itT (by decide +kernel) ⟨_, rfl, _, rfl, rfl, by show 2 ≤ sizeLine; decide, fun p hp => q _ _ (Kp.new hp) ⟨p, _, rfl, upd_same, ?_⟩⟩⟩⟩
    show V.bl _ = V.bl (decide (dI d = dI e))
    congr 1
    exact decide_eq_decide.mpr ⟨V.int.inj, congrArg V.int⟩
  | sameT =>
    obtain rfl : sg = "same" := hs.symm
    have e1 : x = .bl (dB d) := rx
    have e2 : y = .bl (dB e) := ry
    subst e1 e2
    refine ⟨_, rfl, rfl, _, rfl, itF (by decide +kernel) ⟨_, rfl, rfl, _, rfl, itT (by decide +kernel) ⟨_, rfl, _, rfl, rfl, by show 2 ≤ sizeLine; decide, fun p hp => q _ _ (Kp.new hp) ⟨p, _, rfl, upd_same, ?_⟩⟩⟩⟩
    show V.bl _ = V.bl (decide (dB d = dB e))
    congr 1
    exact decide_eq_decide.mpr ⟨V.bl.inj, congrArg V.bl⟩
  | both =>
    obtain rfl : sg = "both" := hs.symm
    have e1 : x = .bl (dB d) := rx
    have e2 : y = .bl (dB e) := ry
    subst e1 e2
    refine ⟨_, rfl, rfl, _, rfl, itF (by decide +kernel) ⟨_, rfl, rfl, _, rfl, itF (by decide +kernel) ⟨_, rfl, rfl, _, rfl, itT (by decide +kernel) ⟨_, rfl, _, rfl, itB (fun ee => ?_) (fun ee => ?_)⟩⟩⟩⟩
    · refine ⟨_, rfl, by show 2 ≤ sizeLine; decide, fun p hp => q _ _ (Kp.new hp) ⟨p, _, rfl, upd_same, ?_⟩⟩
      show V.bl (dB e) = V.bl (dB d && dB e)
      rw [ee, Bool.true_and]
    · refine ⟨by show 2 ≤ sizeLine; decide, fun p hp => q _ _ (Kp.new hp) ⟨p, _, rfl, upd_same, ?_⟩⟩
      show V.bl (dB d) = V.bl (dB d && dB e)
      rw [ee, Bool.false_and]
  | pair _ _ =>
    obtain rfl : sg = "pair" := hs.symm
    refine ⟨_, rfl, rfl, _, rfl, itF (by decide +kernel) ⟨_, rfl, rfl, _, rfl, itF (by decide +kernel) ⟨_, rfl, rfl, _, rfl, itF (by decide +kernel) ⟨_, rfl, rfl, _, rfl, itT (by decide +kernel) ?_⟩⟩⟩⟩
    refine ⟨_, rfl, _, rfl, by show 2 ≤ sizeLine; decide, fun g hg => ⟨by show 2 ≤ sizeLine; decide, fun p hp => q _ _ ((Kp.new hg).trans (Kp.new hp)) ⟨p, _, rfl, upd_same, g, x, y, rfl, ?_, nc.new hg, rx.mono ((Kp.new hg).trans (Kp.new hp)).lk, ry.mono ((Kp.new hg).trans (Kp.new hp)).lk⟩⟩⟩
    rw [upd_ne (ne_of_none upd_same hp)]
    exact upd_same
  | pick _ =>
    obtain rfl : sg = "pick" := hs.symm
    have e2 : y = .int (dI e) := ry
    subst e2
    exact ⟨_, rfl, rfl, _, rfl, itF (by decide +kernel) ⟨_, rfl, rfl, _, rfl, itF (by decide +kernel) ⟨_, rfl, rfl, _, rfl, itF (by decide +kernel) ⟨_, rfl, rfl, _, rfl, itF (by decide +kernel) ⟨_, rfl, rfl, _, rfl, itT (by decide +kernel) ⟨_, rfl, _, rfl, c, _, x, d, dI e, rfl, rx, q⟩⟩⟩⟩⟩⟩
  | join k' =>
    obtain rfl : sg = "join" := hs.symm
    obtain ⟨p1, xs, rfl, h1, n1, pr1⟩ := rx
    obtain ⟨p2, ys, rfl, h2, n2, pr2⟩ := ry
    refine ⟨_, rfl, rfl, _, rfl, itF (by decide +kernel) ⟨_, rfl, rfl, _, rfl, itF (by decide +kernel) ⟨_, rfl, rfl, _, rfl, itF (by decide +kernel) ⟨_, rfl, rfl, _, rfl, itF (by decide +kernel) ⟨_, rfl, rfl, _, rfl, itF (by decide +kernel) ⟨_, rfl, rfl, _, rfl, itT (by decide +kernel) ?_⟩⟩⟩⟩⟩⟩
    have l1 : xs.length ≤ 200 := by rw [Paired.len pr1]; exact fx.1
    have l2 : ys.length ≤ 200 := by rw [Paired.len pr2]; exact fy.1
    refine ⟨_, rfl, _, rfl, p1, p2, xs, ys, rfl, rfl, h1, h2, line_le (by omega), fun g hg => ⟨c, k', .ref g, dL d ++ dL e, rfl, ⟨g, _, rfl, upd_same, nc.new hg, ?_⟩, fun v H' kk o => q v H' ((Kp.new hg).trans kk) ?_⟩⟩
    · exact Paired.app (Paired.mapP pr1 fun _ _ z => z.mono (Kp.new hg).lk) (Paired.mapP pr2 fun _ _ z => z.mono (Kp.new hg).lk)
    · have e3 : (dL (a := k') (dL d ++ dL e)).length = (dL d).length + (dL e).length := List.length_append
      rw [e3] at o
      exact o
  | keep _ =>
    obtain rfl : sg = "keep" := hs.symm
    exact ⟨_, rfl, rfl, _, rfl, itF (by decide +kernel) ⟨_, rfl, rfl, _, rfl, itF (by decide +kernel) ⟨_, rfl, rfl, _, rfl, itF (by decide +kernel) ⟨_, rfl, rfl, _, rfl, itF (by decide +kernel) ⟨_, rfl, rfl, _, rfl, itF (by decide +kernel) ⟨_, rfl, rfl, _, rfl, itF (by decide +kernel) ⟨_, rfl, rfl, _, rfl, itT (by decide +kernel) ⟨_, rfl, _, rfl, c, _, x, y, d, e, rfl, nc, rx, ry, fx, q⟩⟩⟩⟩⟩⟩⟩⟩
  | cut _ =>
    obtain rfl : sg = "cut" := hs.symm
    exact ⟨_, rfl, rfl, _, rfl, itF (by decide +kernel) ⟨_, rfl, rfl, _, rfl, itF (by decide +kernel) ⟨_, rfl, rfl, _, rfl, itF (by decide +kernel) ⟨_, rfl, rfl, _, rfl, itF (by decide +kernel) ⟨_, rfl, rfl, _, rfl, itF (by decide +kernel) ⟨_, rfl, rfl, _, rfl, itF (by decide +kernel) ⟨_, rfl, rfl, _, rfl, itF (by decide +kernel) ⟨_, rfl, rfl, _, rfl, itT (by decide +kernel) ⟨_, rfl, _, rfl, c, _, x, y, d, e, rfl, nc, rx, ry, fx, fy, q⟩⟩⟩⟩⟩⟩⟩⟩⟩
  | add =>
    obtain rfl : sg = "add" := hs.symm
    exact ⟨_, rfl, rfl, _, rfl, itF (by decide +kernel) ⟨_, rfl, rfl, _, rfl, itF (by decide +kernel) ⟨_, rfl, rfl, _, rfl, itF (by decide +kernel) ⟨_, rfl, rfl, _, rfl, itF (by decide +kernel) ⟨_, rfl, rfl, _, rfl, itF (by decide +kernel) ⟨_, rfl, rfl, _, rfl, itF (by decide +kernel) ⟨_, rfl, rfl, _, rfl, itF (by decide +kernel) ⟨_, rfl, rfl, _, rfl, itF (by decide +kernel) ⟨_, rfl, _, rfl, _, rfl, num2 (o := .add) rx ry fx fy q⟩⟩⟩⟩⟩⟩⟩⟩⟩
  | sub =>
    obtain rfl : sg = "sub" := hs.symm
    exact ⟨_, rfl, rfl, _, rfl, itF (by decide +kernel) ⟨_, rfl, rfl, _, rfl, itF (by decide +kernel) ⟨_, rfl, rfl, _, rfl, itF (by decide +kernel) ⟨_, rfl, rfl, _, rfl, itF (by decide +kernel) ⟨_, rfl, rfl, _, rfl, itF (by decide +kernel) ⟨_, rfl, rfl, _, rfl, itF (by decide +kernel) ⟨_, rfl, rfl, _, rfl, itF (by decide +kernel) ⟨_, rfl, rfl, _, rfl, itF (by decide +kernel) ⟨_, rfl, _, rfl, _, rfl, num2 (o := .sub) rx ry fx fy q⟩⟩⟩⟩⟩⟩⟩⟩⟩
  | mul =>
    obtain rfl : sg = "mul" := hs.symm
    exact ⟨_, rfl, rfl, _, rfl, itF (by decide +kernel) ⟨_, rfl, rfl, _, rfl, itF (by decide +kernel) ⟨_, rfl, rfl, _, rfl, itF (by decide +kernel) ⟨_, rfl, rfl, _, rfl, itF (by decide +kernel) ⟨_, rfl, rfl, _, rfl, itF (by decide +kernel) ⟨_, rfl, rfl, _, rfl, itF (by decide +kernel) ⟨_, rfl, rfl, _, rfl, itF (by decide +kernel) ⟨_, rfl, rfl, _, rfl, itF (by decide +kernel) ⟨_, rfl, _, rfl, _, rfl, num2 (o := .mul) rx ry fx fy q⟩⟩⟩⟩⟩⟩⟩⟩⟩
  | div =>
    obtain rfl : sg = "div" := hs.symm
    exact ⟨_, rfl, rfl, _, rfl, itF (by decide +kernel) ⟨_, rfl, rfl, _, rfl, itF (by decide +kernel) ⟨_, rfl, rfl, _, rfl, itF (by decide +kernel) ⟨_, rfl, rfl, _, rfl, itF (by decide +kernel) ⟨_, rfl, rfl, _, rfl, itF (by decide +kernel) ⟨_, rfl, rfl, _, rfl, itF (by decide +kernel) ⟨_, rfl, rfl, _, rfl, itF (by decide +kernel) ⟨_, rfl, rfl, _, rfl, itF (by decide +kernel) ⟨_, rfl, _, rfl, _, rfl, num2 (o := .div) rx ry fx fy q⟩⟩⟩⟩⟩⟩⟩⟩⟩
  | rest =>
    obtain rfl : sg = "rest" := hs.symm
    exact ⟨_, rfl, rfl, _, rfl, itF (by decide +kernel) ⟨_, rfl, rfl, _, rfl, itF (by decide +kernel) ⟨_, rfl, rfl, _, rfl, itF (by decide +kernel) ⟨_, rfl, rfl, _, rfl, itF (by decide +kernel) ⟨_, rfl, rfl, _, rfl, itF (by decide +kernel) ⟨_, rfl, rfl, _, rfl, itF (by decide +kernel) ⟨_, rfl, rfl, _, rfl, itF (by decide +kernel) ⟨_, rfl, rfl, _, rfl, itF (by decide +kernel) ⟨_, rfl, _, rfl, _, rfl, num2 (o := .rest) rx ry fx fy q⟩⟩⟩⟩⟩⟩⟩⟩⟩
end
end Br
/-! done_once. -/
namespace Br
open PySem L2
open PySem.Spec PyProof.Rows
section
variable {P : Program} {w : World} {K : PySem.W.Frag} {mg : Str → Option Value} {base : Heap} {aC aB f : Addr} {fd : FuncData}
theorem o1_in {a b : Kd} (o : O1 a b) (q : Str → Prop) (h : ∀ s ∈ (["not", "first", "second", "one", "upto", "long", "sum", "sums", "most", "flat"] : List Str), q s) : q o.str := by
  cases o <;> exact h _ (by simp [O1.str])
theorem o2_in {a b k : Kd} (o : O2 a b k) (q : Str → Prop) (h : ∀ s ∈ (["add", "sub", "mul", "div", "rest", "less", "same", "both", "pair", "pick", "join", "keep", "cut"] : List Str), q s) : q o.str := by
  cases o <;> exact h _ (by simp [O2.str])
theorem o1_num {a b : Kd} (o : O1 a b) : decide (V.str o.str = V.str "num") = false := o1_in o (fun s => decide (V.str s = V.str "num") = false) (by decide +kernel)
theorem o1_yes {a b : Kd} (o : O1 a b) : inV (V.str o.str) [V.str "yes", V.str "no"] = false := o1_in o (fun s => inV (V.str s) [V.str "yes", V.str "no"] = false) (by decide +kernel)
theorem o1_none {a b : Kd} (o : O1 a b) : decide (V.str o.str = V.str "none") = false := o1_in o (fun s => decide (V.str s = V.str "none") = false) (by decide +kernel)
theorem o2_num {a b k : Kd} (o : O2 a b k) : decide (V.str o.str = V.str "num") = false := o2_in o (fun s => decide (V.str s = V.str "num") = false) (by decide +kernel)
theorem o2_yes {a b k : Kd} (o : O2 a b k) : inV (V.str o.str) [V.str "yes", V.str "no"] = false := o2_in o (fun s => inV (V.str s) [V.str "yes", V.str "no"] = false) (by decide +kernel)
theorem o2_none {a b k : Kd} (o : O2 a b k) : decide (V.str o.str = V.str "none") = false := o2_in o (fun s => decide (V.str s = V.str "none") = false) (by decide +kernel)
theorem fn_done_once (T : Tp K mg aC aB) (F : At K mg "done_once" s_done_once p_done_once f fd) (c_done_one : Fn P w K mg base 4 "done_one" spDone1) (c_done_two : Fn P w K mg base 4 "done_two" spDone2) : Fn P w K mg base 5 "done_once" spOnce := by
  refine fn_by F sc_done_once ?_ (fun cdv A outer s H vs Q E hr h => ?_)
  · rintro vs H Q E ⟨c, p, q, xs, ws, k, r, rfl, _⟩
    rfl
  obtain ⟨c, p, p2, xs, ws, k, r, rfl, nc, hp, hp2, oa, q⟩ := h
  refine ⟨_, (pss_cons (ps_set (i := 2) sc_done_once.nd rfl (by first | exact Or.inl rfl | exact Or.inr rfl) (pe_ix (k_ixt K rfl) (pv 0) (pe_int) (fun _ _ => rfl)))
  (pss_cons (ps_if (pt_cmpR op_eq (pv 2) (pe_str) (nomark _)) (pss_one (ps_ret (pe_tup (pa_cons (pe_ix (k_ixt K rfl) (pv 0) (pe_int) (fun _ _ => rfl)) (pa_cons (pe_non) pa_nil))))) pss_nil)
  (pss_cons (ps_if (pt_cmpR (k_in K rfl) (pv 2) (pe_tup (pa_cons (pe_str) (pa_cons (pe_str) pa_nil))) rfl) (pss_one (ps_ret (pe_tup (pa_cons (pe_cmpR op_eq (pv 2) (pe_str) (nomark _)) (pa_cons (pe_non) pa_nil))))) pss_nil)
  (pss_cons (ps_if (pt_cmpR op_eq (pv 2) (pe_str) (nomark _)) (pss_one (ps_ret (pe_tup (pa_cons (pe_lst pa_nil) (pa_cons (pe_non) pa_nil))))) pss_nil)
  (pss_cons (ps_if (pt_cmpR op_eq (pe_callB (k_len K rfl) (by rfl) T.len (by decide +kernel) (pa_cons (pv 1) pa_nil)) (pe_int) (nomark _)) (pss_one (ps_ret (pe_fn c_done_one hr (by omega) (by rfl) (pa_cons (pv 2) (pa_cons (pe_ix (k_ixl K rfl) (pv 1) (pe_int) (fun _ _ => rfl)) pa_nil))))) pss_nil)
  (pss_one (ps_ret (pe_fn c_done_two hr (by omega) (by rfl) (pa_cons (pv 2) (pa_cons (pe_ix (k_ixl K rfl) (pv 1) (pe_int) (fun _ _ => rfl)) (pa_cons (pe_ix (k_ixl K rfl) (pv 1) (pe_int) (fun _ _ => rfl)) pa_nil))))))))))), ?_⟩
  cases oa with
  | num n =>
    refine ⟨_, rfl, _, _, _, _, rfl, rfl, SqT.of hp, atI_zero, ?_⟩
    refine ⟨_, rfl, rfl, _, rfl, itT (by decide +kernel) ?_⟩
    exact ⟨_, rfl, _, _, _, _, rfl, rfl, SqT.of hp, atI_one, by show 2 ≤ sizeLine; decide, fun b hb => q _ _ (Kp.new hb) ⟨b, _, rfl, upd_same, rfl⟩⟩
  | yes =>
    refine ⟨_, rfl, _, _, _, _, rfl, rfl, SqT.of hp, atI_zero, ?_⟩
    refine ⟨_, rfl, rfl, _, rfl, itF (by decide +kernel) ?_⟩
    refine ⟨_, rfl, by show 2 ≤ sizeLine; decide, fun g hg => ⟨g, _, rfl, .inr (SqT.of upd_same), rfl, rfl, _, rfl, itT (by decide +kernel) ?_⟩⟩
    exact ⟨_, rfl, rfl, by show 2 ≤ sizeLine; decide, fun b hb => q _ _ ((Kp.new hg).trans (Kp.new hb)) ⟨b, _, rfl, upd_same, rfl⟩⟩
  | no =>
    refine ⟨_, rfl, _, _, _, _, rfl, rfl, SqT.of hp, atI_zero, ?_⟩
    refine ⟨_, rfl, rfl, _, rfl, itF (by decide +kernel) ?_⟩
    refine ⟨_, rfl, by show 2 ≤ sizeLine; decide, fun g hg => ⟨g, _, rfl, .inr (SqT.of upd_same), rfl, rfl, _, rfl, itT (by decide +kernel) ?_⟩⟩
    exact ⟨_, rfl, rfl, by show 2 ≤ sizeLine; decide, fun b hb => q _ _ ((Kp.new hg).trans (Kp.new hb)) ⟨b, _, rfl, upd_same, rfl⟩⟩
  | none a z =>
    refine ⟨_, rfl, _, _, _, _, rfl, rfl, SqT.of hp, atI_zero, ?_⟩
    refine ⟨_, rfl, rfl, _, rfl, itF (by decide +kernel) ?_⟩
    refine ⟨_, rfl, by show 2 ≤ sizeLine; decide, fun g hg => ⟨g, _, rfl, .inr (SqT.of upd_same), rfl, rfl, _, rfl, itF (by decide +kernel) ?_⟩⟩
    refine ⟨_, rfl, rfl, _, rfl, itT (by decide +kernel) ?_⟩
    refine ⟨by show 0 ≤ sizeLine; decide, fun g2 hg2 => ⟨by show 2 ≤ sizeLine; decide, fun b hb => q _ _ (((Kp.new hg).trans (Kp.new hg2)).trans (Kp.new hb)) ⟨b, _, rfl, upd_same, g2, [], rfl, ?_, (nc.kp (Kp.new hg)).new hg2, .nil⟩⟩⟩
    rw [upd_ne (ne_of_none upd_same hb)]
    exact upd_same
  | op1 o rx fx =>
    refine ⟨_, rfl, _, _, _, _, rfl, rfl, SqT.of hp, atI_zero, ?_⟩
    refine ⟨_, rfl, rfl, _, rfl, itF (o1_num o) ?_⟩
    refine ⟨_, rfl, by show 2 ≤ sizeLine; decide, fun g hg => ⟨g, _, rfl, .inr (SqT.of upd_same), rfl, rfl, _, rfl, itF (o1_yes o) ?_⟩⟩
    have k1 : Kp H _ := Kp.new (o := .tup [.str "yes", .str "no"]) hg
    refine ⟨_, rfl, rfl, _, rfl, itF (o1_none o) ?_⟩
    refine ⟨_, rfl, p2, _, rfl, .inl (SqL.of (k1 _ _ hp2)), rfl, _, rfl, itT (by show decide (V.int 1 = V.int 1) = true; decide) ?_⟩
    exact ⟨_, rfl, _, rfl, _, _, _, _, rfl, rfl, SqL.of (k1 _ _ hp2), atI_zero, c, _, _, o, _, _, rfl, nc.kp k1, rx.mono k1.lk, fx, fun v H' kk oo => q v H' (k1.trans kk) oo⟩
  | op2 o rx ry fx fy =>
    refine ⟨_, rfl, _, _, _, _, rfl, rfl, SqT.of hp, atI_zero, ?_⟩
    refine ⟨_, rfl, rfl, _, rfl, itF (o2_num o) ?_⟩
    refine ⟨_, rfl, by show 2 ≤ sizeLine; decide, fun g hg => ⟨g, _, rfl, .inr (SqT.of upd_same), rfl, rfl, _, rfl, itF (o2_yes o) ?_⟩⟩
    have k1 : Kp H _ := Kp.new (o := .tup [.str "yes", .str "no"]) hg
    refine ⟨_, rfl, rfl, _, rfl, itF (o2_none o) ?_⟩
    refine ⟨_, rfl, p2, _, rfl, .inl (SqL.of (k1 _ _ hp2)), rfl, _, rfl, itF (by show decide (V.int 2 = V.int 1) = false; decide) ?_⟩
    exact ⟨_, rfl, _, rfl, _, _, _, _, rfl, rfl, SqL.of (k1 _ _ hp2), atI_zero, _, rfl, _, _, _, _, rfl, rfl, SqL.of (k1 _ _ hp2), atI_one, c, _, _, _, o, _, _, _, _, rfl, nc.kp k1, rx.mono k1.lk, ry.mono k1.lk, fx, fy, fun v H' kk oo => q v H' (k1.trans kk) oo⟩
end
end Br
/-! Trees: parts, binding, names. -/
namespace Br
open PySem L2
open PySem.Spec PyProof.Rows
abbrev TT2 := (k : Kd) × T k
def T.kids : {k : Kd} → T k → List TT2
  | _, .num _ => []
  | _, .yes => []
  | _, .no => []
  | _, .name _ _ => []
  | _, .none _ => []
  | _, .op1 _ t => [⟨_, t⟩]
  | _, .op2 _ t u => [⟨_, t⟩, ⟨_, u⟩]
  | _, .lt _ t u => [⟨_, t⟩, ⟨_, u⟩]
  | _, .ite b t u => [⟨_, b⟩, ⟨_, t⟩, ⟨_, u⟩]
  | _, .each _ t u => [⟨_, t⟩, ⟨_, u⟩]
  | _, .times _ n t u => [⟨_, n⟩, ⟨_, t⟩, ⟨_, u⟩]
def T.size : {k : Kd} → T k → Nat
  | _, .num _ => 1
  | _, .yes => 1
  | _, .no => 1
  | _, .name _ _ => 1
  | _, .none _ => 1
  | _, .op1 _ t => 1 + t.size
  | _, .op2 _ t u => 1 + (t.size + u.size)
  | _, .lt _ t u => 1 + (t.size + u.size)
  | _, .ite b t u => 1 + (b.size + (t.size + u.size))
  | _, .each _ t u => 1 + (t.size + u.size)
  | _, .times _ n t u => 1 + (n.size + (t.size + u.size))
/-- a sign that neither carries nor binds -/
def plainSign (s : Str) : Prop := inV (V.str s) [.str "num", .str "name", .str "none"] = false ∧ inV (V.str s) [.str "let", .str "each", .str "times"] = false
/-- which part sees the bound name -/
def bindV : {k : Kd} → T k → V
  | _, .lt _ _ _ => .int 1
  | _, .each _ _ _ => .int 1
  | _, .times _ _ _ _ => .int 2
  | _, _ => .non
def bname : {k : Kd} → T k → Str
  | _, .lt x _ _ => x
  | _, .each x _ _ => x
  | _, .times x _ _ _ => x
  | _, _ => ""
/-- a tree's content: what stands ahead of its parts -/
inductive HdAt : {k : Kd} → T k → List V → Prop where
  | num (n : Int) : HdAt (.num n) [.str "num", .int n]
  | name (k : Kd) (x : Str) : HdAt (.name k x) [.str "name", .str x]
  | none (a : Kd) (z : V) : HdAt (.none a) [.str "none", z]
  | plain {k : Kd} {t : T k} {s : Str} (h : plainSign s) (nn : ∀ x, t ≠ .name k x) (nb : bindV t = .non) : HdAt t [.str s]
  | lt {a k : Kd} (x : Str) (t : T a) (u : T k) : HdAt (.lt x t u) [.str "let", .str x]
  | each {a b : Kd} (x : Str) (t : T (.row a)) (u : T b) : HdAt (.each x t u) [.str "each", .str x]
  | times {k : Kd} (x : Str) (n : T .num) (t u : T k) : HdAt (.times x n t u) [.str "times", .str x]
/-- the names that are free in a tree -/
def Fre : {k : Kd} → T k → Str → Prop
  | _, .num _, _ => False
  | _, .yes, _ => False
  | _, .no, _ => False
  | _, .name _ x, y => y = x
  | _, .none _, _ => False
  | _, .op1 _ t, y => Fre t y
  | _, .op2 _ t u, y => Fre t y ∨ Fre u y
  | _, .lt x t u, y => Fre t y ∨ (Fre u y ∧ y ≠ x)
  | _, .ite b t u, y => Fre b y ∨ Fre t y ∨ Fre u y
  | _, .each x t u, y => Fre t y ∨ (Fre u y ∧ y ≠ x)
  | _, .times x n t u, y => Fre n y ∨ Fre t y ∨ (Fre u y ∧ y ≠ x)
theorem put_other {G : Ctx} {x y : Str} {k j : Kd} (h : (G.put x k) y = some j) (n : y ≠ x) : G y = some j := by
  unfold Ctx.put at h
  rw [if_neg n] at h
  exact h
theorem Fre.bound : ∀ {k : Kd} {t : T k} {G : Ctx} {y : Str}, Fre t y → Sc G t → ∃ j, G y = some j := by
  intro k t
  induction t with
  | num n => exact fun h _ => h.elim
  | yes => exact fun h _ => h.elim
  | no => exact fun h _ => h.elim
  | name k x =>
    intro G y h s
    have h' : y = x := h
    subst h'
    exact ⟨k, s⟩
  | none a => exact fun h _ => h.elim
  | op1 o t ih => exact fun h s => ih h s
  | op2 o t u ih1 ih2 =>
    intro G y h s
    rcases h with h | h
    · exact ih1 h s.1
    · exact ih2 h s.2
  | lt x t u ih1 ih2 =>
    intro G y h s
    rcases h with h | ⟨h, n⟩
    · exact ih1 h s.1
    · obtain ⟨j, e⟩ := ih2 h s.2
      exact ⟨j, put_other e n⟩
  | ite b t u ih1 ih2 ih3 =>
    intro G y h s
    rcases h with h | h | h
    · exact ih1 h s.1
    · exact ih2 h s.2.1
    · exact ih3 h s.2.2
  | each x t u ih1 ih2 =>
    intro G y h s
    rcases h with h | ⟨h, n⟩
    · exact ih1 h s.1
    · obtain ⟨j, e⟩ := ih2 h s.2
      exact ⟨j, put_other e n⟩
  | times x m t u ih1 ih2 ih3 =>
    intro G y h s
    rcases h with h | h | ⟨h, n⟩
    · exact ih1 h s.1
    · exact ih2 h s.2.1
    · obtain ⟨j, e⟩ := ih3 h s.2.2
      exact ⟨j, put_other e n⟩
theorem sgn_plain1 {a b : Kd} (o : O1 a b) : plainSign o.str := o1_in o plainSign (by unfold plainSign; decide +kernel)
theorem sgn_plain2 {a b k : Kd} (o : O2 a b k) : plainSign o.str := o2_in o plainSign (by unfold plainSign; decide +kernel)
def KidsAt (H : Hp) : List V → List TT2 → Prop := Paired fun v s => TreeAt H v s.2
theorem KidsAt.mono {H H' : Hp} (h : Tk H H') {vs : List V} {ts : List TT2} (k : KidsAt H vs ts) : KidsAt H' vs ts := Paired.mapP k fun _ _ z => z.mono h
theorem TreeAt.view {H : Hp} : ∀ {k : Kd} {t : T k} {v : V}, TreeAt H v t → ∃ p hd cs, v = .ref p ∧ H p = some (.tup (hd ++ cs)) ∧ HdAt t hd ∧ KidsAt H cs t.kids := by
  intro k t v h
  cases t with
  | num n => obtain ⟨p, e, z⟩ := h; exact ⟨p, _, [], e, z, .num n, .nil⟩
  | yes => obtain ⟨p, e, z⟩ := h; exact ⟨p, [.str "yes"], [], e, z, .plain (by unfold plainSign; decide +kernel) (fun _ z => nomatch z) rfl, .nil⟩
  | no => obtain ⟨p, e, z⟩ := h; exact ⟨p, [.str "no"], [], e, z, .plain (by unfold plainSign; decide +kernel) (fun _ z => nomatch z) rfl, .nil⟩
  | name k x => obtain ⟨p, e, z⟩ := h; exact ⟨p, _, [], e, z, .name k x, .nil⟩
  | none a => obtain ⟨p, y, e, z⟩ := h; exact ⟨p, _, [], e, z, .none a y, .nil⟩
  | op1 o t => obtain ⟨p, x, e, z, r⟩ := h; exact ⟨p, [_], [x], e, z, .plain (sgn_plain1 o) (fun _ z => nomatch z) rfl, .cons r .nil⟩
  | op2 o t u => obtain ⟨p, x, y, e, z, r, r2⟩ := h; exact ⟨p, [_], [x, y], e, z, .plain (sgn_plain2 o) (fun _ z => nomatch z) rfl, .cons r (.cons r2 .nil)⟩
  | lt n t u => obtain ⟨p, x, y, e, z, r, r2⟩ := h; exact ⟨p, [_, _], [x, y], e, z, .lt n t u, .cons r (.cons r2 .nil)⟩
  | ite b t u => obtain ⟨p, x, y, w, e, z, r, r2, r3⟩ := h; exact ⟨p, [_], [x, y, w], e, z, .plain (by unfold plainSign; decide +kernel) (fun _ z => nomatch z) rfl, .cons r (.cons r2 (.cons r3 .nil))⟩
  | each n t u => obtain ⟨p, x, y, e, z, r, r2⟩ := h; exact ⟨p, [_, _], [x, y], e, z, .each n t u, .cons r (.cons r2 .nil)⟩
  | times n m t u => obtain ⟨p, x, y, w, e, z, r, r2, r3⟩ := h; exact ⟨p, [_, _], [x, y, w], e, z, .times n m t u, .cons r (.cons r2 (.cons r3 .nil))⟩
def ksz (ts : List TT2) : Nat := (ts.map fun s => s.2.size).sum
theorem ksz_all {k : Kd} (t : T k) : ksz t.kids + 1 = t.size := by
  cases t <;> simp only [T.kids, ksz, T.size, List.map_cons, List.map_nil, List.sum_cons, List.sum_nil] <;> omega
theorem ksz_more {ts : List TT2} {i : Nat} {s : TT2} (h : ts[i]? = some s) : ksz (ts.take (i + 1)) = ksz (ts.take i) + s.2.size := by
  unfold ksz
  rw [take_more h, List.map_append, List.sum_append]
  simp
theorem ksz_le (ts : List TT2) (i : Nat) : ksz (ts.take i) ≤ ksz ts := by
  have e : ksz ts = ksz (ts.take i) + ksz (ts.drop i) := by
    unfold ksz
    rw [← List.sum_append, ← List.map_append, List.take_append_drop]
  omega
theorem kid_ht {k : Kd} {t : T k} {s : TT2} (h : s ∈ t.kids) : s.2.ht + 1 ≤ t.ht := by
  cases t <;> simp only [T.kids, List.mem_cons, List.not_mem_nil, or_false] at h
  case op1 =>
    subst h
    simp only [T.ht]
    omega
  case op2 => rcases h with rfl | rfl <;> simp only [T.ht] <;> omega
  case lt => rcases h with rfl | rfl <;> simp only [T.ht] <;> omega
  case ite => rcases h with rfl | rfl | rfl <;> simp only [T.ht] <;> omega
  case each => rcases h with rfl | rfl <;> simp only [T.ht] <;> omega
  case times => rcases h with rfl | rfl | rfl <;> simp only [T.ht] <;> omega
theorem kid_size {k : Kd} {t : T k} {s : TT2} (h : s ∈ t.kids) : s.2.size + 1 ≤ t.size := by
  cases t <;> simp only [T.kids, List.mem_cons, List.not_mem_nil, or_false] at h
  case op1 =>
    subst h
    simp only [T.size]
    omega
  case op2 => rcases h with rfl | rfl <;> simp only [T.size] <;> omega
  case lt => rcases h with rfl | rfl <;> simp only [T.size] <;> omega
  case ite => rcases h with rfl | rfl | rfl <;> simp only [T.size] <;> omega
  case each => rcases h with rfl | rfl <;> simp only [T.size] <;> omega
  case times => rcases h with rfl | rfl | rfl <;> simp only [T.size] <;> omega
theorem Fre.kid {k : Kd} {t : T k} {i : Nat} {s : TT2} {y : Str} (h : t.kids[i]? = some s) (f : Fre s.2 y) (n : bindV t = .int (i : Nat) → y ≠ bname t) : Fre t y := by
  cases t with
  | num _ => simp [T.kids] at h
  | yes => simp [T.kids] at h
  | no => simp [T.kids] at h
  | name _ _ => simp [T.kids] at h
  | none _ => simp [T.kids] at h
  | op1 o t =>
    match i, h with
    | 0, h => cases h; exact f
  | op2 o t u =>
    match i, h with
    | 0, h => cases h; exact .inl f
    | 1, h => cases h; exact .inr f
  | lt x t u =>
    match i, h with
    | 0, h => cases h; exact .inl f
    | 1, h => cases h; exact .inr ⟨f, n rfl⟩
  | ite b t u =>
    match i, h with
    | 0, h => cases h; exact .inl f
    | 1, h => cases h; exact .inr (.inl f)
    | 2, h => cases h; exact .inr (.inr f)
  | each x t u =>
    match i, h with
    | 0, h => cases h; exact .inl f
    | 1, h => cases h; exact .inr ⟨f, n rfl⟩
  | times x m t u =>
    match i, h with
    | 0, h => cases h; exact .inl f
    | 1, h => cases h; exact .inr (.inl f)
    | 2, h => cases h; exact .inr (.inr ⟨f, n rfl⟩)
theorem HdAt.bind {k : Kd} {t : T k} {hd : List V} (h : HdAt t hd) {i : Nat} (e : bindV t = .int (i : Nat)) : ∃ s, hd = [s, .str (bname t)] := by
  cases h with
  | num n => cases e
  | name k x => cases e
  | none a z => cases e
  | plain h nn nb => rw [nb] at e; cases e
  | lt x t u => exact ⟨_, rfl⟩
  | each x t u => exact ⟨_, rfl⟩
  | times x n t u => exact ⟨_, rfl⟩
def spParts : Sp := fun vs H Q _ => ∃ k t v, vs = [v] ∧ TreeAt H v (t : T k) ∧ ∀ p cs H', Kp H H' → H' p = some (.tup cs) → KidsAt H cs t.kids → Q (.ref p) H'
def spBinding : Sp := fun vs H Q _ => ∃ k t v, vs = [v] ∧ TreeAt H v (t : T k) ∧ Q (bindV t) H
def spNames (n : Nat) : Sp := fun vs H Q _ => ∃ k t v, vs = [v] ∧ TreeAt H v (t : T k) ∧ t.ht ≤ n ∧ t.size ≤ 1000 ∧
  ∀ (l : List Str) p H', Kp H H' → H p = none → H' p = some (.lst (l.map V.str)) → (∀ y ∈ l, Fre t y) → l.length ≤ t.size → Q (.ref p) H'
def spFree (n : Nat) : Sp := fun vs H Q _ => ∃ k t v, vs = [v] ∧ TreeAt H v (t : T k) ∧ t.ht ≤ n ∧ t.size ≤ 1000 ∧
  ∀ (l : List Str) p H', Kp H H' → H p = none → H' p = some (.lst (l.map V.str)) → (∀ y ∈ l, Fre t y) → l.length ≤ t.size → Q (.ref p) H'
section
variable {P : Program} {w : World} {K : PySem.W.Frag} {mg : Str → Option Value} {base : Heap} {aC aB f : Addr} {fd : FuncData}
theorem cutV_one (x : V) (xs : List V) : cutV (x :: xs) (some 1) none = xs := by
  unfold cutV
  have e : HT.sIx (x :: xs).length 0 (some 1) = 1 := by
    have := HT.sIx_nat (x :: xs).length 0 1
    rw [show ((1 : Nat) : Int) = 1 from rfl] at this
    rw [this, List.length_cons]
    omega
  rw [e, HT.sIx_none, List.length_cons, Nat.add_sub_cancel]
  show xs.take xs.length = xs
  exact List.take_length
theorem cutV_two (x y : V) (xs : List V) : cutV (x :: y :: xs) (some 2) none = xs := by
  unfold cutV
  have e : HT.sIx (x :: y :: xs).length 0 (some 2) = 2 := by
    have := HT.sIx_nat (x :: y :: xs).length 0 2
    rw [show ((2 : Nat) : Int) = 2 from rfl] at this
    rw [this, List.length_cons, List.length_cons]
    omega
  rw [e, HT.sIx_none, List.length_cons, List.length_cons, show xs.length + 1 + 1 - 2 = xs.length by omega]
  show xs.take xs.length = xs
  exact List.take_length
theorem sIx_one (x : V) (xs : List V) : ¬ (HT.sIx (x :: xs).length 0 (some 1) = 0 ∧ HT.sIx (x :: xs).length (x :: xs).length none = (x :: xs).length) := fun z => by
  have := HT.sIx_nat (x :: xs).length 0 1
  rw [show ((1 : Nat) : Int) = 1 from rfl, z.1, List.length_cons] at this
  omega
theorem sIx_two (x y : V) (xs : List V) : ¬ (HT.sIx (x :: y :: xs).length 0 (some 2) = 0 ∧ HT.sIx (x :: y :: xs).length (x :: y :: xs).length none = (x :: y :: xs).length) := fun z => by
  have := HT.sIx_nat (x :: y :: xs).length 0 2
  rw [show ((2 : Nat) : Int) = 2 from rfl, z.1, List.length_cons, List.length_cons] at this
  omega
theorem fn_parts (T : Tp K mg aC aB) (F : At K mg "parts" s_parts p_parts f fd) : Fn P w K mg base 1 "parts" spParts := by
  refine fn_by F sc_parts ?_ (fun cdv A outer s H vs Q E hr h => ?_)
  · rintro vs H Q E ⟨k, t, v, rfl, _⟩
    rfl
  obtain ⟨k, t, v, rfl, ht, q⟩ := h
  obtain ⟨p, hd, cs, rfl, hp, hh, kk⟩ := ht.view
  refine ⟨_, (pss_cons (ps_if (pt_cmpR (k_in K rfl) (pe_ix (k_ixt K rfl) (pv 0) (pe_int) (fun _ _ => rfl)) (pe_gc (by rfl) T.carriers) rfl) (pss_one (ps_ret (pe_tup pa_nil))) pss_nil)
  (pss_cons (ps_if (pt_cmpR (k_in K rfl) (pe_ix (k_ixt K rfl) (pv 0) (pe_int) (fun _ _ => rfl)) (pe_gc (by rfl) T.binders) rfl) (pss_one (ps_ret (pe_slice (k_slt K rfl) (pv 0) (po_some (pe_int)) po_none))) pss_nil)
  (pss_one (ps_ret (pe_slice (k_slt K rfl) (pv 0) (po_some (pe_int)) po_none))))), ?_⟩
  cases hh with
  | num n =>
    cases kk
    exact ⟨_, rfl, _, _, _, _, rfl, rfl, SqT.of hp, atI_zero, aC, _, rfl, .inr (T.carry _), rfl, rfl, _, rfl, itT (by decide +kernel) ⟨by show 0 ≤ sizeLine; decide, fun b hb => q b [] _ (Kp.new hb) upd_same .nil⟩⟩
  | name k x =>
    cases kk
    exact ⟨_, rfl, _, _, _, _, rfl, rfl, SqT.of hp, atI_zero, aC, _, rfl, .inr (T.carry _), rfl, rfl, _, rfl, itT (by decide +kernel) ⟨by show 0 ≤ sizeLine; decide, fun b hb => q b [] _ (Kp.new hb) upd_same .nil⟩⟩
  | none a z =>
    cases kk
    exact ⟨_, rfl, _, _, _, _, rfl, rfl, SqT.of hp, atI_zero, aC, _, rfl, .inr (T.carry _), rfl, rfl, _, rfl, itT (by decide +kernel) ⟨by show 0 ≤ sizeLine; decide, fun b hb => q b [] _ (Kp.new hb) upd_same .nil⟩⟩
  | plain hs nn nb =>
    refine ⟨_, rfl, _, _, _, _, rfl, rfl, SqT.of hp, atI_zero, aC, _, rfl, .inr (T.carry _), rfl, rfl, _, rfl, itF hs.1 ?_⟩
    refine ⟨_, rfl, _, _, _, _, rfl, rfl, SqT.of hp, atI_zero, aB, _, rfl, .inr (T.bind _), rfl, rfl, _, rfl, itF hs.2 ?_⟩
    refine ⟨_, rfl, _, rfl, p, _, rfl, SqT.of hp, fun z => absurd z (sIx_one _ _), fun _ b hb => ?_⟩
    exact q b cs _ (Kp.new hb) (by rw [upd_same]; exact congrArg (fun l => some (HO.tup l)) (cutV_one _ _)) kk
  | lt x t u =>
    refine ⟨_, rfl, _, _, _, _, rfl, rfl, SqT.of hp, atI_zero, aC, _, rfl, .inr (T.carry _), rfl, rfl, _, rfl, itF (by decide +kernel) ?_⟩
    refine ⟨_, rfl, _, _, _, _, rfl, rfl, SqT.of hp, atI_zero, aB, _, rfl, .inr (T.bind _), rfl, rfl, _, rfl, itT (by decide +kernel) ?_⟩
    refine ⟨_, rfl, _, rfl, p, _, rfl, SqT.of hp, fun z => absurd z (sIx_two _ _ _), fun _ b hb => ?_⟩
    exact q b cs _ (Kp.new hb) (by rw [upd_same]; exact congrArg (fun l => some (HO.tup l)) (cutV_two _ _ _)) kk
  | each x t u =>
    refine ⟨_, rfl, _, _, _, _, rfl, rfl, SqT.of hp, atI_zero, aC, _, rfl, .inr (T.carry _), rfl, rfl, _, rfl, itF (by decide +kernel) ?_⟩
    refine ⟨_, rfl, _, _, _, _, rfl, rfl, SqT.of hp, atI_zero, aB, _, rfl, .inr (T.bind _), rfl, rfl, _, rfl, itT (by decide +kernel) ?_⟩
    refine ⟨_, rfl, _, rfl, p, _, rfl, SqT.of hp, fun z => absurd z (sIx_two _ _ _), fun _ b hb => ?_⟩
    exact q b cs _ (Kp.new hb) (by rw [upd_same]; exact congrArg (fun l => some (HO.tup l)) (cutV_two _ _ _)) kk
  | times x n t u =>
    refine ⟨_, rfl, _, _, _, _, rfl, rfl, SqT.of hp, atI_zero, aC, _, rfl, .inr (T.carry _), rfl, rfl, _, rfl, itF (by decide +kernel) ?_⟩
    refine ⟨_, rfl, _, _, _, _, rfl, rfl, SqT.of hp, atI_zero, aB, _, rfl, .inr (T.bind _), rfl, rfl, _, rfl, itT (by decide +kernel) ?_⟩
    refine ⟨_, rfl, _, rfl, p, _, rfl, SqT.of hp, fun z => absurd z (sIx_two _ _ _), fun _ b hb => ?_⟩
    exact q b cs _ (Kp.new hb) (by rw [upd_same]; exact congrArg (fun l => some (HO.tup l)) (cutV_two _ _ _)) kk
theorem fn_binding (T : Tp K mg aC aB) (F : At K mg "binding" s_binding p_binding f fd) : Fn P w K mg base 1 "binding" spBinding := by
  refine fn_by F sc_binding ?_ (fun cdv A outer s H vs Q E hr h => ?_)
  · rintro vs H Q E ⟨k, t, v, rfl, _⟩
    rfl
  obtain ⟨k, t, v, rfl, ht, q⟩ := h
  obtain ⟨p, hd, cs, rfl, hp, hh, kk⟩ := ht.view
  refine ⟨_, (pss_cons (ps_if (pt_cmpR (k_ni K rfl) (pe_ix (k_ixt K rfl) (pv 0) (pe_int) (fun _ _ => rfl)) (pe_gc (by rfl) T.binders) rfl) (pss_one (ps_ret (pe_non))) pss_nil)
  (pss_one (ps_ret (pe_ifExp (pt_cmpR op_eq (pe_ix (k_ixt K rfl) (pv 0) (pe_int) (fun _ _ => rfl)) (pe_str) (nomark _)) (pe_int) (pe_int))))), ?_⟩
  have no : ∀ {b : Bool}, b = false → (if true = true then !b else b) = true := fun e => by rw [e]; rfl
  have yes : ∀ {b : Bool}, b = true → (if true = true then !b else b) = false := fun e => by rw [e]; rfl
  cases hh with
  | num n => exact ⟨_, rfl, _, _, _, _, rfl, rfl, SqT.of hp, atI_zero, aB, _, rfl, .inr (T.bind _), rfl, rfl, _, rfl, itT (no (by decide +kernel)) q⟩
  | name k x => exact ⟨_, rfl, _, _, _, _, rfl, rfl, SqT.of hp, atI_zero, aB, _, rfl, .inr (T.bind _), rfl, rfl, _, rfl, itT (no (by decide +kernel)) q⟩
  | none a z => exact ⟨_, rfl, _, _, _, _, rfl, rfl, SqT.of hp, atI_zero, aB, _, rfl, .inr (T.bind _), rfl, rfl, _, rfl, itT (no (by decide +kernel)) q⟩
  | plain hs nn nb =>
    rw [nb] at q
    exact ⟨_, rfl, _, _, _, _, rfl, rfl, SqT.of hp, atI_zero, aB, _, rfl, .inr (T.bind _), rfl, rfl, _, rfl, itT (no hs.2) q⟩
  | lt x t u => exact ⟨_, rfl, _, _, _, _, rfl, rfl, SqT.of hp, atI_zero, aB, _, rfl, .inr (T.bind _), rfl, rfl, _, rfl, itF (yes (by decide +kernel)) ⟨_, rfl, _, _, _, _, rfl, rfl, SqT.of hp, atI_zero, rfl, _, rfl, itF (by decide +kernel) q⟩⟩
  | each x t u => exact ⟨_, rfl, _, _, _, _, rfl, rfl, SqT.of hp, atI_zero, aB, _, rfl, .inr (T.bind _), rfl, rfl, _, rfl, itF (yes (by decide +kernel)) ⟨_, rfl, _, _, _, _, rfl, rfl, SqT.of hp, atI_zero, rfl, _, rfl, itF (by decide +kernel) q⟩⟩
  | times x n t u => exact ⟨_, rfl, _, _, _, _, rfl, rfl, SqT.of hp, atI_zero, aB, _, rfl, .inr (T.bind _), rfl, rfl, _, rfl, itF (yes (by decide +kernel)) ⟨_, rfl, _, _, _, _, rfl, rfl, SqT.of hp, atI_zero, rfl, _, rfl, itT (by decide +kernel) q⟩⟩
theorem str_get {ns : List Str} {i : Nat} {y : V} (h : (ns.map V.str)[i]? = some y) : ∃ z, ns[i]? = some z ∧ y = .str z := map_get h
theorem fn_names_in (T : Tp K mg aC aB) (F : At K mg "names_in" s_names_in p_names_in f fd) (c_parts : Fn P w K mg base 1 "parts" spParts) (c_binding : Fn P w K mg base 1 "binding" spBinding) : ∀ n, Fn P w K mg base (n + 2) "names_in" (spNames n) := by
  intro n
  induction n with
  | zero =>
    refine fn_by F sc_names_in ?_ (fun cdv A outer s H vs Q E hr h => ?_)
    · rintro vs H Q E ⟨k, t, v, rfl, _⟩
      rfl
    obtain ⟨k, t, v, rfl, ht, hn, _⟩ := h
    exact absurd hn (by have := t.ht_pos; omega)
  | succ n c_names_in =>
  refine fn_by F sc_names_in ?_ (fun cdv A outer s H vs Q E hr h => ?_)
  · rintro vs H Q E ⟨k, t, v, rfl, _⟩
    rfl
  obtain ⟨k, t, v, rfl, ht, hn, hz, q⟩ := h
  obtain ⟨p, hd, cs, rfl, hp, hh, kk⟩ := id ht.view
  refine ⟨_, (pss_cons (ps_if (pt_cmpR op_eq (pe_ix (k_ixt K rfl) (pv 0) (pe_int) (fun _ _ => rfl)) (pe_str) (nomark _)) (pss_one (ps_ret (pe_lst (pa_cons (pe_ix (k_ixt K rfl) (pv 0) (pe_int) (fun _ _ => rfl)) pa_nil)))) pss_nil)
  (pss_cons (ps_set (i := 1) sc_names_in.nd rfl (by first | exact Or.inl rfl | exact Or.inr rfl) (pe_lst pa_nil))
  (pss_cons (ps_for PassesOwn.never rfl (k_enumT K rfl (by rfl) T.enumerate (pa_cons (pe_fn c_parts hr (by omega) (by rfl) (pa_cons (pv 0) pa_nil)) pa_nil)) (k_gtup K rfl (n := 2) rfl (pgs_cons (pg_name (i := 2) sc_names_in.nd rfl (by first | exact Or.inl rfl | exact Or.inr rfl)) (pgs_cons (pg_name (i := 3) sc_names_in.nd rfl (by first | exact Or.inl rfl | exact Or.inr rfl)) pgs_nil))) (pss_cons (ps_set (i := 4) sc_names_in.nd rfl (by first | exact Or.inl rfl | exact Or.inr rfl) (pe_fn c_names_in hr (by omega) (by rfl) (pa_cons (pv 3) pa_nil)))
  (pss_cons (ps_if (pt_cmpR op_eq (pv 2) (pe_fn c_binding hr (by omega) (by rfl) (pa_cons (pv 0) pa_nil)) (nomark _)) (pss_one (ps_setLc (i := 4) (own := [("name", 5)]) rfl sc_names_in.nd rfl rfl (sw_true rfl rfl rfl (by decide +kernel)) (k_pil K rfl (pv 4)) (blkOk_by (own := [("name", 5)]) (by rfl)) (fun _ _ _ _ _ => (pg_name (i := 5) sc_names_in.nd rfl (by first | exact Or.inl rfl | exact Or.inr rfl))) (fun _ _ _ _ _ => (pts_one (pt_cmpR op_ne (pv 5) (pe_ix (k_ixt K rfl) (pv 0) (pe_int) (fun _ _ => rfl)) (nomark _)))) (fun _ _ _ _ _ => (pv 5)))) pss_nil)
  (pss_one (ps_set (i := 1) sc_names_in.nd rfl (by first | exact Or.inl rfl | exact Or.inr rfl) (pe_op op_cat (pv 1) (pv 4)))))))
  (pss_one (ps_ret (pv 1)))))), ?_⟩
  have alt : (∃ x, hd = [.str "name", .str x] ∧ Fre t x) ∨ (∃ s0 r, hd = .str s0 :: r ∧ decide (V.str s0 = V.str "name") = false) := by
    cases hh with
    | num n => exact .inr ⟨_, _, rfl, by decide +kernel⟩
    | name k x => exact .inl ⟨x, rfl, rfl⟩
    | none a z => exact .inr ⟨_, _, rfl, by decide +kernel⟩
    | plain hs nn nb =>
      refine .inr ⟨_, _, rfl, ?_⟩
      rename_i s0
      cases e : decide (V.str s0 = V.str "name") with
      | false => rfl
      | true =>
        have e2 := V.str.inj (of_decide_eq_true e)
        subst e2
        exact absurd hs.1 (by decide +kernel)
    | lt x t u => exact .inr ⟨_, _, rfl, by decide +kernel⟩
    | each x t u => exact .inr ⟨_, _, rfl, by decide +kernel⟩
    | times x n t u => exact .inr ⟨_, _, rfl, by decide +kernel⟩
  rcases alt with ⟨x, rfl, hx⟩ | ⟨s0, r, rfl, hs0⟩
  · refine ⟨_, rfl, _, _, _, _, rfl, rfl, SqT.of hp, atI_zero, rfl, _, rfl, itT (by decide +kernel) ?_⟩
    refine ⟨_, rfl, _, _, _, _, rfl, rfl, SqT.of hp, atI_one, by show 1 ≤ sizeLine; decide, fun b hb => q [x] b _ (Kp.new hb) hb upd_same (fun y hy => ?_) ?_⟩
    · rw [List.mem_singleton.mp hy]
      exact hx
    · have := ksz_all t
      show 1 ≤ t.size
      omega
  refine ⟨_, rfl, _, _, _, _, rfl, rfl, SqT.of hp, atI_zero, rfl, _, rfl, itF hs0 ?_⟩
  refine ⟨by show 0 ≤ sizeLine; decide, fun b hb => ?_⟩
  refine ⟨_, rfl, k, t, .ref p, rfl, ht.mono (Kp.new hb).tk, fun g cs' H1 k1 hg kk' => ⟨g, cs', rfl, SqT.of hg, for_enumT (K := K) (a := g) (xs := cs')
    (fun i σ H' => ∃ b l v2 v3 v4, σ = [some (.ref p), some (.ref b), v2, v3, v4, none] ∧ Kp H1 H' ∧ H b = none ∧ H' b = some (.lst ((l : List Str).map V.str)) ∧ (∀ y ∈ l, Fre t y) ∧ l.length ≤ ksz (t.kids.take i))
    ⟨b, [], none, none, none, rfl, Kp.refl, hb, k1 _ _ upd_same, fun y hy => absurd hy (by simp), Nat.zero_le _⟩ (fun i σ H' _ pv => ?_) ?_ ?_⟩⟩
  · obtain ⟨b, l, v2, v3, v4, _, kp, _⟩ := pv
    exact SqT.of (kp g _ hg)
  · rintro i y tt σ H' hi ⟨b1, l, v2, v3, v4, rfl, kp, nb, hb1, hl, hlen⟩ ntt
    have K0 : Kp H H1 := (Kp.new hb).trans k1
    have K1 : Kp H (upd H' tt (.tup [.int (i : Nat), y])) := (K0.trans kp).trans (Kp.new ntt)
    obtain ⟨s1, hs1, r1⟩ := Paired.at kk' hi
    have mem1 := List.mem_of_getElem? hs1
    have z1 := kid_ht mem1
    have z2 := kid_size mem1
    have r1' : TreeAt (upd H' tt (.tup [.int (i : Nat), y])) y s1.2 := r1.mono (k1.trans (kp.trans (Kp.new ntt))).tk
    refine ⟨tt, _, rfl, SqT.of upd_same, rfl, _, _, rfl, _, _, rfl, rfl, ?_⟩
    refine ⟨_, rfl, s1.1, s1.2, y, rfl, r1', by omega, by omega, fun l2 g2 H2 k2 n2 h2 f2 len2 => ?_⟩
    have K2 : Kp H H2 := K1.trans k2
    have hb2 : H2 b1 = some (.lst (l.map V.str)) := k2 _ _ (Kp.new ntt _ _ hb1)
    have fin : ∀ (H3 : Hp) (a4 : Addr) (l4 : List Str), Kp H H3 → Kp H1 H3 → H3 b1 = some (.lst (l.map V.str)) → H3 a4 = some (.lst (l4.map V.str)) → (∀ y ∈ l4, Fre t y) → l4.length ≤ s1.2.size →
        ∃ l5 b5 x5 z5, V.ref b1 = .ref l5 ∧ V.ref a4 = .ref b5 ∧ H3 l5 = some (.lst x5) ∧ H3 b5 = some (.lst z5) ∧ x5.length + z5.length ≤ sizeLine ∧ ∀ g5, H3 g5 = none → ∃ b l v2 v3 v4, [some (V.ref p), some (.ref g5), some (.int (i : Nat)), some y, some (.ref a4), none] = [some (.ref p), some (.ref b), v2, v3, v4, none] ∧ Kp H1 (upd H3 g5 (.lst (x5 ++ z5))) ∧ H b = none ∧ (upd H3 g5 (.lst (x5 ++ z5))) b = some (.lst ((l : List Str).map V.str)) ∧ (∀ y ∈ l, Fre t y) ∧ l.length ≤ ksz (t.kids.take (i + 1)) := by
      intro H3 a4 l4 K3 K3' h3 h4 f4 len4
      have e1 := ksz_le t.kids i
      have e2 := ksz_all t
      refine ⟨b1, a4, _, _, rfl, rfl, h3, h4, line_le ?_, fun g5 hg5 => ⟨g5, l ++ l4, _, _, _, rfl, K3'.trans (Kp.new hg5), Kp.free K3 hg5, by rw [upd_same, List.map_append], fun w hw => ?_, ?_⟩⟩
      · rw [List.length_map, List.length_map]
        omega
      · rcases List.mem_append.mp hw with c | c
        · exact hl w c
        · exact f4 w c
      · rw [List.length_append, ksz_more hs1]
        omega
    have sc : scal (.int (i : Nat)) (bindV t) = true := by cases t <;> rfl
    refine ⟨_, rfl, _, rfl, k, t, .ref p, rfl, ht.mono K2.tk, sc, _, rfl, itB (fun e => ?_) (fun e => ?_)⟩
    · have e' : bindV t = .int (i : Nat) := (of_decide_eq_true e).symm
      obtain ⟨s2, e2⟩ := hh.bind e'
      have hp2 : H p = some (.tup (s2 :: .str (bname t) :: cs)) := by
        rw [hp, e2]
        rfl
      refine ⟨_, rfl, g2, rfl, ⟨_, SqL.of h2⟩, fun d hd2 => lc_list (K := K) (a := g2) (xs := l2.map V.str) (fun j H3 => ∃ l4 : List Str, Kp H2 H3 ∧ H3 d = some (.lst (l4.map V.str)) ∧ (∀ y ∈ l4, Fre t y) ∧ l4.length ≤ j)
        ⟨[], Kp.new hd2, upd_same, fun y hy => absurd hy (by simp), Nat.le_refl _⟩ (fun j H3 _ pv => ?_) ?_ ?_⟩
      · obtain ⟨l4, kp3, _⟩ := pv
        exact SqL.of (kp3 _ _ h2)
      · rintro j w H3 hj ⟨l4, kp3, h3, f4, len4⟩
        obtain ⟨z, hz', rfl⟩ := str_get hj
        have jl : j < l2.length := (List.getElem?_eq_some_iff.mp hz').1
        refine ⟨rfl, _, rfl, _, rfl, _, _, _, _, rfl, rfl, SqT.of ((K2.trans kp3) _ _ hp2), atI_one, rfl, _, rfl, itB (fun en => ?_) (fun en => ?_)⟩
        · have ne : z ≠ bname t := fun q3 => by
            subst q3
            simp at en
          refine ⟨_, rfl, _, h3, line_lt (by rw [List.length_map]; omega), l4 ++ [z], kp3.put hd2, by rw [upd_same, List.map_append]; rfl, fun y hy => ?_, by rw [List.length_append]; show l4.length + 1 ≤ _; omega⟩
          rcases List.mem_append.mp hy with c | c
          · exact f4 y c
          · rw [List.mem_singleton.mp c]
            exact Fre.kid hs1 (f2 z (List.mem_of_getElem? hz')) fun _ => ne
        · exact ⟨l4, kp3, h3, f4, by omega⟩
      · rintro H3 ⟨l4, kp3, h3, f4, len4⟩
        rw [List.length_map] at len4
        exact ⟨_, rfl, _, rfl, fin H3 d l4 (K2.trans kp3) (((kp.trans (Kp.new ntt)).trans k2).trans kp3) (kp3 _ _ hb2) h3 f4 (by omega)⟩
    · have e' : ¬ bindV t = .int (i : Nat) := fun z => of_decide_eq_false e z.symm
      exact ⟨_, rfl, _, rfl, fin H2 g2 l2 K2 ((kp.trans (Kp.new ntt)).trans k2) hb2 h2 (fun y hy => Fre.kid hs1 (f2 y hy) fun z => absurd z e') len2⟩
  · rintro σ H' ⟨b1, l, v2, v3, v4, rfl, kp, nb, hb1, hl, hlen⟩
    have e1 := ksz_le t.kids cs'.length
    have e2 := ksz_all t
    exact ⟨_, rfl, q l b1 H' (((Kp.new hb).trans k1).trans kp) nb hb1 hl (by omega)⟩
theorem fn_free_names (T : Tp K mg aC aB) (F : At K mg "free_names" s_free_names p_free_names f fd) (n : Nat) (c_names_in : Fn P w K mg base (n + 2) "names_in" (spNames n)) : Fn P w K mg base (n + 3) "free_names" (spFree n) := by
  refine fn_by F sc_free_names ?_ (fun cdv A outer s H vs Q E hr h => ?_)
  · rintro vs H Q E ⟨k, t, v, rfl, _⟩
    rfl
  obtain ⟨k, t, v, rfl, ht, hn, hz, q⟩ := h
  refine ⟨_, (pss_one (ps_ret (pe_callB (cr_sortedSetS rfl) (by rfl) T.sorted (by decide +kernel) (pa_cons (pe_callTy (cr_setS K rfl rfl) (by rfl) T.set (by decide +kernel) (pa_cons (pe_fn c_names_in hr (by omega) (by rfl) (pa_cons (pv 0) pa_nil)) pa_nil)) pa_nil)))), ?_⟩
  refine ⟨_, rfl, k, t, v, rfl, ht, hn, hz, fun l g H1 k1 n1 h1 f1 len1 => ?_⟩
  refine ⟨g, l, Fre t, rfl, SqL.of h1, f1, by omega, fun d hd => ?_⟩
  refine ⟨d, Fre t, _, rfl, upd_same, fun ys b fy ly hb => ?_⟩
  have K1 := (k1.trans (Kp.new hd)).trans (Kp.new (o := .lst (ys.map V.str)) hb)
  exact q ys b _ K1 (Kp.free (k1.trans (Kp.new hd)) hb) upd_same fy (by omega)
end
end Br
/-! Sizes of worths, copies, widths. -/
namespace Br
open PySem L2
open PySem.Spec PyProof.Rows
/-- a worth, whatever its kind, at most n deep -/
def Wt (H : Hp) : Nat → V → Prop
  | 0, _ => False
  | n + 1, v => (∃ i, v = .int i) ∨ (∃ b, v = .bl b) ∨ ∃ q xs, v = .ref q ∧ (H q = some (.tup xs) ∨ H q = some (.lst xs)) ∧ xs.length ≤ 100000 ∧ ∀ x ∈ xs, Wt H n x
theorem Wt.mono {H H' : Hp} (h : Kp H H') : ∀ {n : Nat} {v : V}, Wt H n v → Wt H' n v
  | 0, _, w => w
  | n + 1, v, w => by
    rcases w with w | w | ⟨q, xs, e, hq, hl, ha⟩
    · exact .inl w
    · exact .inr (.inl w)
    · refine .inr (.inr ⟨q, xs, e, ?_, hl, fun x hx => Wt.mono h (ha x hx)⟩)
      rcases hq with z | z
      · exact .inl (h _ _ z)
      · exact .inr (h _ _ z)
theorem paired_mem {α β : Type} {R : α → β → Prop} : ∀ {xs : List α} {ys : List β} {x : α}, Paired R xs ys → x ∈ xs → ∃ y ∈ ys, R x y
  | _, _, _, .nil, h => absurd h (by simp)
  | _, _, _, .cons r t, h => by
    rcases List.mem_cons.mp h with e | e
    · subst e
      exact ⟨_, List.mem_cons_self, r⟩
    · obtain ⟨y, hy, z⟩ := paired_mem t e
      exact ⟨y, List.mem_cons_of_mem _ hy, z⟩
theorem RepW.wt {c : Addr → Prop} {H : Hp} : ∀ {k : Kd} {v : V} {d : D k} {n : Nat}, RepW c H k v d → Fit k d → k.depth ≤ n → Wt H n v := by
  intro k
  induction k with
  | num =>
    intro v d n r ft h
    match n, h with
    | m + 1, _ => exact .inl ⟨_, r⟩
  | truth =>
    intro v d n r ft h
    match n, h with
    | m + 1, _ => exact .inr (.inl ⟨_, r⟩)
  | pair a b iha ihb =>
    intro v d n r ft h
    obtain ⟨q, x, y, e, hq, _, r1, r2⟩ := r
    have h' : 1 + max a.depth b.depth ≤ n := h
    match n, h' with
    | m + 1, h' =>
      refine .inr (.inr ⟨q, _, e, .inl hq, by show 2 ≤ 100000; decide, fun z hz => ?_⟩)
      rcases List.mem_cons.mp hz with e2 | e2
      · rw [e2]
        exact iha r1 ft.1 (by omega)
      · rw [List.mem_singleton.mp e2]
        exact ihb r2 ft.2 (by omega)
    | 0, h' => omega
  | row a ih =>
    intro v d n r ft h
    obtain ⟨q, xs, e, hq, _, pr⟩ := r
    have h' : 1 + a.depth ≤ n := h
    match n, h' with
    | m + 1, h' =>
      refine .inr (.inr ⟨q, _, e, .inr hq, ?_, fun z hz => ?_⟩)
      · rw [Paired.len pr]
        exact Nat.le_trans ft.1 (by decide)
      obtain ⟨y, hy, r1⟩ := paired_mem pr hz
      exact ih r1 (ft.2 y hy) (by omega)
    | 0, h' => omega
def spSize (n : Nat) : Sp := fun vs H Q _ => ∃ v, vs = [v] ∧ Wt H n v ∧ ∀ (m : Nat) H', Kp H H' → Q (.int (m : Int)) H'
def spSizesOf (n : Nat) : Sp := fun vs H Q _ => ∃ a l d kvs, vs = [.ref a, .ref d] ∧ H a = some (.lst ((l : List Str).map V.str)) ∧ H d = some (.dK kvs) ∧ (∀ y ∈ l, ∃ v, valV kvs (Sum.inr y) = some v ∧ Wt H n v) ∧ l.length ≤ 1000 ∧
  ∀ (m : Nat) H', Kp H H' → Q (.int (m : Int)) H'
def spCopied (n : Nat) : Sp := fun vs H Q _ => ∃ c k v d, vs = [v] ∧ RepW c H k v d ∧ k.depth ≤ n ∧ Fit k d ∧ ∃ c', Av c' H ∧ ∀ v' H', Kp H H' → RepW c' H' k v' d → Q v' H'
def spWidth : Sp := fun vs H Q _ => ∃ c p q xs ws k r d v, vs = [.ref p, .ref q, v] ∧ H p = some (.tup xs) ∧ H q = some (.lst ws) ∧ OnceAt c H (k := k) xs ws r ∧ RepW c H k v d ∧ Fit k d ∧ k.depth ≤ 6 ∧ ∀ m H', Kp H H' → Q (.int m) H'
/-- the parts of a worth, with their kinds -/
def wkids : {k : Kd} → D k → List ((k : Kd) × D k)
  | .num, _ => []
  | .truth, _ => []
  | .pair a b, p => [⟨a, p.1⟩, ⟨b, p.2⟩]
  | .row a, l => (dL l).map fun x => ⟨a, x⟩
section
variable {P : Program} {w : World} {K : PySem.W.Frag} {mg : Str → Option Value} {base : Heap} {aC aB f : Addr} {fd : FuncData}
theorem itY {Q : Bool → Hp → Prop} {σ : L2.St} {H : Hp} (h : Q true H) : tYes σ H Q := h
theorem is_ii (K : PySem.W.Frag) : PySem.W.kitOne K (.type "int") (.type "int") = some true := kit_ty (by decide +kernel)
theorem is_bi (K : PySem.W.Frag) : PySem.W.kitOne K (.type "bool") (.type "int") = some true := kit_ty (by decide +kernel)
theorem is_ti (K : PySem.W.Frag) : PySem.W.kitOne K (.type "tuple") (.type "int") = some false := kit_ty (by decide +kernel)
theorem is_li (K : PySem.W.Frag) : PySem.W.kitOne K (.type "list") (.type "int") = some false := kit_ty (by decide +kernel)
theorem is_tl (K : PySem.W.Frag) : PySem.W.kitOne K (.type "tuple") (.type "list") = some false := kit_ty (by decide +kernel)
theorem is_ll (K : PySem.W.Frag) : PySem.W.kitOne K (.type "list") (.type "list") = some true := kit_ty (by decide +kernel)
theorem is_tt (K : PySem.W.Frag) : PySem.W.kitOne K (.type "tuple") (.type "tuple") = some true := kit_ty (by decide +kernel)
theorem is_lt (K : PySem.W.Frag) : PySem.W.kitOne K (.type "list") (.type "tuple") = some false := kit_ty (by decide +kernel)
theorem fn_size (T : Tp K mg aC aB) (F : At K mg "size" s_size p_size f fd) : ∀ n, Fn P w K mg base n "size" (spSize n) → Fn P w K mg base (n + 1) "size" (spSize (n + 1)) := by
  intro n c_size
  refine fn_by F sc_size ?_ (fun cdv A outer s H vs Q E hr h => ?_)
  · rintro vs H Q E ⟨v, rfl, _⟩
    rfl
  obtain ⟨v, rfl, hw, q⟩ := h
  refine ⟨_, (pss_cons (ps_if (pt_val (pe_callB (k_isi K rfl) (by rfl) T.isinstance (by decide +kernel) (pa_cons (pv 0) (pa_cons (pe_ty (n := "int") (by rfl) T.int (by decide +kernel)) pa_nil)))) (pss_one (ps_ret (pe_int))) pss_nil)
  (pss_cons (ps_set (i := 1) sc_size.nd rfl (by first | exact Or.inl rfl | exact Or.inr rfl) (pe_callTy call_int1 (by rfl) T.int (by decide +kernel) (pa_cons (pe_callB (k_isi K rfl) (by rfl) T.isinstance (by decide +kernel) (pa_cons (pv 0) (pa_cons (pe_ty (n := "list") (by rfl) T.list (by decide +kernel)) pa_nil))) pa_nil)))
  (pss_cons (ps_for PassesOwn.never rfl (k_pis K rfl (pv 0)) (pg_name (i := 2) sc_size.nd rfl (by first | exact Or.inl rfl | exact Or.inr rfl)) (pss_one (ps_set (i := 1) sc_size.nd rfl (by first | exact Or.inl rfl | exact Or.inr rfl) (pe_op op_add (pv 1) (pe_fn c_size hr (by omega) (by rfl) (pa_cons (pv 2) pa_nil))))))
  (pss_one (ps_ret (pv 1)))))), ?_⟩
  rcases hw with ⟨i, rfl⟩ | ⟨b, rfl⟩ | ⟨p, xs, rfl, hp, hlx, ha⟩
  · exact ⟨_, rfl, _, _, _, _, _, rfl, .ty "int", .base (.int i), is_ii K, _, rfl, itT rfl (q 1 H Kp.refl)⟩
  · exact ⟨_, rfl, _, _, _, _, _, rfl, .ty "int", .base (.bl b), is_bi K, _, rfl, itT rfl (q 1 H Kp.refl)⟩
  · rcases hp with hp | hp
    · refine ⟨_, rfl, _, _, _, _, _, rfl, .ty "int", .base (.tup hp), is_ti K, _, rfl, itF rfl ?_⟩
      refine ⟨_, rfl, _, _, _, _, _, rfl, .ty "list", .base (.tup hp), is_tl K, .inr ⟨_, rfl, ?_⟩⟩
      refine ⟨_, rfl, p, rfl, .inr ⟨⟨_, SqT.of hp⟩, for_tup (K := K) (a := p) (xs := xs) (fun i σ H' => ∃ (m : Nat) (v : Option V), σ = [some (.ref p), some (.int (m : Int)), v] ∧ Kp H H') ⟨0, none, rfl, Kp.refl⟩ (fun i σ H' _ pv => ?_) ?_ ?_⟩⟩
      · obtain ⟨m, v, _, kp⟩ := pv
        exact SqT.of (kp _ _ hp)
      · rintro i y σ H' hi ⟨m, v, rfl, kp⟩
        refine ⟨_, rfl, _, rfl, y, rfl, (ha y (List.mem_of_getElem? hi)).mono kp, fun m2 H2 k2 => ⟨_, _, rfl, rfl, m + m2, some y, ?_, kp.trans k2⟩⟩
        rw [Int.natCast_add]
        rfl
      · rintro σ H' ⟨m, v, rfl, kp⟩
        exact ⟨_, rfl, q m H' kp⟩
    · refine ⟨_, rfl, _, _, _, _, _, rfl, .ty "int", .base (.lst hp), is_li K, _, rfl, itF rfl ?_⟩
      refine ⟨_, rfl, _, _, _, _, _, rfl, .ty "list", .base (.lst hp), is_ll K, .inr ⟨_, rfl, ?_⟩⟩
      refine ⟨_, rfl, p, rfl, .inl ⟨⟨_, SqL.of hp⟩, for_list (K := K) (a := p) (xs := xs) (fun i σ H' => ∃ (m : Nat) (v : Option V), σ = [some (.ref p), some (.int (m : Int)), v] ∧ Kp H H') ⟨1, none, rfl, Kp.refl⟩ (fun i σ H' _ pv => ?_) ?_ ?_⟩⟩
      · obtain ⟨m, v, _, kp⟩ := pv
        exact SqL.of (kp _ _ hp)
      · rintro i y σ H' hi ⟨m, v, rfl, kp⟩
        refine ⟨_, rfl, _, rfl, y, rfl, (ha y (List.mem_of_getElem? hi)).mono kp, fun m2 H2 k2 => ⟨_, _, rfl, rfl, m + m2, some y, ?_, kp.trans k2⟩⟩
        rw [Int.natCast_add]
        rfl
      · rintro σ H' ⟨m, v, rfl, kp⟩
        exact ⟨_, rfl, q m H' kp⟩
theorem fn_sizes_of (T : Tp K mg aC aB) (F : At K mg "sizes_of" s_sizes_of p_sizes_of f fd) {n : Nat} (c_size : Fn P w K mg base n "size" (spSize n)) : Fn P w K mg base (n + 1) "sizes_of" (spSizesOf n) := by
  refine fn_by F sc_sizes_of ?_ (fun cdv A outer s H vs Q E hr h => ?_)
  · rintro vs H Q E ⟨a, l, d, kvs, rfl, _⟩
    rfl
  obtain ⟨a, l, d, kvs, rfl, hl, hd, hy, hn, q⟩ := h
  refine ⟨_, (pss_one (ps_ret (pe_callB (k_sum K rfl rfl) (by rfl) T.sum (by decide +kernel) (pa_cons (pe_lc (own := [("name", 2)]) rfl sc_sizes_of.nd (k_pil K rfl (pv 0)) (blkOk_by (own := [("name", 2)]) (by rfl)) (fun _ _ _ _ _ => (pg_name (i := 2) sc_sizes_of.nd rfl (by first | exact Or.inl rfl | exact Or.inr rfl))) (fun _ _ _ _ _ => pts_nil) (fun _ _ _ _ _ => (pe_fn c_size hr (by omega) (by rfl) (pa_cons (pe_dget (hu_of hr) (pv 1) (pv 2) (fun _ _ => rfl)) pa_nil)))) pa_nil)))), ?_⟩
  refine ⟨_, rfl, a, rfl, ⟨_, SqL.of hl⟩, fun g hg => lc_list (K := K) (a := a) (xs := l.map V.str) (fun i H' => ∃ ms : List Nat, Kp H H' ∧ H' g = some (.lst (ms.map fun (m : Nat) => V.int (m : Int))) ∧ ms.length = i)
    ⟨[], Kp.new hg, upd_same, rfl⟩ (fun i H' _ pv => ?_) ?_ ?_⟩
  · obtain ⟨ms, kp, _⟩ := pv
    exact SqL.of (kp _ _ hl)
  · rintro i y H' hi ⟨ms, kp, h1, lm⟩
    obtain ⟨z, hz, rfl⟩ := str_get hi
    obtain ⟨v, hv, wv⟩ := hy z (List.mem_of_getElem? hz)
    have li : i < l.length := (List.getElem?_eq_some_iff.mp hz).1
    refine ⟨rfl, itY <| itT rfl ?_⟩
    refine ⟨_, rfl, _, rfl, d, v, rfl, ?_, v, rfl, wv.mono kp, fun m2 H2 k2 => ⟨_, k2 _ _ h1, line_lt (by rw [List.length_map]; omega), ms ++ [m2], (kp.trans k2).put hg, by rw [upd_same, List.map_append]; rfl, by rw [List.length_append]; show ms.length + 1 = _; omega⟩⟩
    have := DGet.k (k := Sum.inr z) (kp _ _ hd)
    rw [hv] at this
    exact this
  · rintro H' ⟨ms, kp, h1, lm⟩
    have e : (ms.map fun (m : Nat) => V.int (m : Int)) = (ms.map fun (m : Nat) => (m : Int)).map V.int := by rw [List.map_map]; rfl
    rw [e] at h1
    refine ⟨g, _, rfl, SqL.of h1, ?_⟩
    have e2 : (ms.map fun (m : Nat) => (m : Int)).sum = ((ms.sum : Nat) : Int) := by
      clear h1 e lm
      induction ms with
      | nil => rfl
      | cons x ms ih =>
        rw [List.map_cons, List.sum_cons, List.sum_cons, ih]
        omega
    rw [e2]
    exact q _ _ kp
theorem fn_copied (T : Tp K mg aC aB) (F : At K mg "copied" s_copied p_copied f fd) : ∀ n, Fn P w K mg base n "copied" (spCopied n) → Fn P w K mg base (n + 1) "copied" (spCopied (n + 1)) := by
  intro n c_copied
  refine fn_by F sc_copied ?_ (fun cdv A outer s H vs Q E hr h => ?_)
  · rintro vs H Q E ⟨c, k, v, d, rfl, _⟩
    rfl
  obtain ⟨c, k, v, d, rfl, rv, hk, fit, c', av, q⟩ := h
  refine ⟨_, (pss_cons (ps_if (pt_val (pe_callB (k_isi K rfl) (by rfl) T.isinstance (by decide +kernel) (pa_cons (pv 0) (pa_cons (pe_ty (n := "int") (by rfl) T.int (by decide +kernel)) pa_nil)))) (pss_one (ps_ret (pv 0))) pss_nil)
  (pss_cons (ps_setLc (i := 1) (own := [("one", 2)]) rfl sc_copied.nd rfl rfl (sw_true rfl rfl rfl (by decide +kernel)) (k_pis K rfl (pv 0)) (blkOk_by (own := [("one", 2)]) (by rfl)) (fun _ _ _ _ _ => (pg_name (i := 2) sc_copied.nd rfl (by first | exact Or.inl rfl | exact Or.inr rfl))) (fun _ _ _ _ _ => pts_nil) (fun _ _ _ _ _ => (pe_fn c_copied hr (by omega) (by rfl) (pa_cons (pv 2) pa_nil))))
  (pss_one (ps_ret (pe_ifExp (pt_val (pe_callB (k_isi K rfl) (by rfl) T.isinstance (by decide +kernel) (pa_cons (pv 0) (pa_cons (pe_ty (n := "tuple") (by rfl) T.tuple (by decide +kernel)) pa_nil)))) (pe_callTy (k_tupOf K rfl) (by rfl) T.tuple (by decide +kernel) (pa_cons (pv 1) pa_nil)) (pv 1)))))), ?_⟩
  cases k with
  | num =>
    have e : v = .int (dI d) := rv
    subst e
    exact ⟨_, rfl, _, _, _, _, _, rfl, .ty "int", .base (.int _), is_ii K, _, rfl, itT rfl ⟨_, rfl, q _ H Kp.refl rfl⟩⟩
  | truth =>
    have e : v = .bl (dB d) := rv
    subst e
    exact ⟨_, rfl, _, _, _, _, _, rfl, .ty "int", .base (.bl _), is_bi K, _, rfl, itT rfl ⟨_, rfl, q _ H Kp.refl rfl⟩⟩
  | pair a b =>
    obtain ⟨p, x, y, rfl, hp, np, r1, r2⟩ := rv
    have hk' : 1 + max a.depth b.depth ≤ n + 1 := hk
    refine ⟨_, rfl, _, _, _, _, _, rfl, .ty "int", .base (.tup hp), is_ti K, _, rfl, itF rfl ?_⟩
    refine ⟨_, rfl, p, rfl, .inr ⟨⟨_, SqT.of hp⟩, fun g hg => lc_tup (K := K) (a := p) (xs := [x, y]) (fun i H' => ∃ acc, Kp H H' ∧ H' g = some (.lst acc) ∧ Paired (fun v (s : (k : Kd) × D k) => RepW (fun a => c' a ∨ a = g) H' s.1 v s.2) acc ((wkids d).take i))
      ⟨[], Kp.new hg, upd_same, .nil⟩ (fun i H' _ pv => ?_) ?_ ?_⟩⟩
    · obtain ⟨acc, kp, _⟩ := pv
      exact SqT.of (kp _ _ hp)
    · rintro i z H' hi ⟨acc, kp, h1, pa⟩
      have la : acc.length ≤ 2 := by
        rw [Paired.len pa, List.length_take]
        exact Nat.min_le_right _ _
      have av' : Av (fun a => c' a ∨ a = g) H' := (av.kp kp).more (NoT.of h1 (fun _ z => nomatch z))
      have mono : ∀ (H2 : Hp) (v : V), Kp H' H2 → Lk (fun a => c' a ∨ a = g) H' (upd H2 g (.lst (acc ++ [v]))) := fun H2 v k2 => k2.lk.trans (Lk.at (.inr rfl) (NoT.of (k2 _ _ h1) (fun _ z => nomatch z)))
      have mono2 : ∀ (H2 : Hp) (v : V), H2 g = some (.lst acc) → Lk (fun a => c' a ∨ a = g) H2 (upd H2 g (.lst (acc ++ [v]))) := fun H2 v e => Lk.at (.inr rfl) (NoT.of e (fun _ z => nomatch z))
      have step : ∀ (s : (k : Kd) × D k), (wkids d)[i]? = some s → RepW c H s.1 z s.2 → s.1.depth ≤ n → Fit s.1 s.2 → spCopied n ([z] ++ []) H' (fun y H4 => ∃ acc, H4 g = some (.lst acc) ∧ acc.length < sizeLine ∧ ∃ acc2, Kp H (upd H4 g (.lst (acc ++ [y]))) ∧ (upd H4 g (.lst (acc ++ [y]))) g = some (.lst acc2) ∧ Paired (fun v (s : (k : Kd) × D k) => RepW (fun a => c' a ∨ a = g) (upd H4 g (.lst (acc ++ [y]))) s.1 v s.2) acc2 ((wkids d).take (i + 1))) E0 := by
        intro s hs rs hds fs
        refine ⟨c, s.1, z, s.2, rfl, rs.mono kp.lk, hds, fs, _, av', fun v2 H2 k2 rv2 => ⟨acc, k2 _ _ h1, line_lt (by omega), acc ++ [v2], (kp.trans k2).put hg, upd_same, ?_⟩⟩
        rw [take_more hs]
        exact Paired.app (Paired.mapP pa fun _ _ w => w.mono (mono H2 v2 k2)) (.cons (rv2.mono (mono2 H2 v2 (k2 _ _ h1))) .nil)
      refine ⟨rfl, itY <| itT rfl ⟨_, rfl, ?_⟩⟩
      match i, hi with
      | 0, hi =>
        cases hi
        exact step ⟨a, d.1⟩ rfl r1 (by show a.depth ≤ n; omega) fit.1
      | 1, hi =>
        cases hi
        exact step ⟨b, d.2⟩ rfl r2 (by show b.depth ≤ n; omega) fit.2
    · rintro H' ⟨acc, kp, h1, pa⟩
      have pa' : Paired (fun v (s : (k : Kd) × D k) => RepW (fun a => c' a ∨ a = g) H' s.1 v s.2) acc [⟨a, d.1⟩, ⟨b, d.2⟩] := pa
      cases pa' with
      | cons w1 t1 => cases t1 with
        | cons w2 t2 =>
          cases t2
          refine ⟨_, rfl, _, _, _, _, _, rfl, .ty "tuple", .base (.tup (kp _ _ hp)), is_tt K, _, rfl, itT rfl ?_⟩
          refine ⟨_, rfl, g, _, rfl, .inl ⟨SqL.of h1, fun b2 hb2 => q _ _ (kp.trans (Kp.new hb2)) ⟨b2, _, _, rfl, upd_same, (av.kp kp).new hb2, ?_, ?_⟩⟩⟩
          · exact w1.less.mono (Kp.new hb2).lk
          · exact w2.less.mono (Kp.new hb2).lk
  | row a =>
    obtain ⟨p, xs, rfl, hp, np, pr⟩ := rv
    have hk' : 1 + a.depth ≤ n + 1 := hk
    refine ⟨_, rfl, _, _, _, _, _, rfl, .ty "int", .base (.lst hp), is_li K, _, rfl, itF rfl ?_⟩
    refine ⟨_, rfl, p, rfl, .inl ⟨⟨_, SqL.of hp⟩, fun g hg => lc_list (K := K) (a := p) (xs := xs) (fun i H' => ∃ acc, Kp H H' ∧ H' g = some (.lst acc) ∧ Paired (RepW (fun a => c' a ∨ a = g) H' a) acc ((dL d).take i))
      ⟨[], Kp.new hg, upd_same, .nil⟩ (fun i H' _ pv => ?_) ?_ ?_⟩⟩
    · obtain ⟨acc, kp, _⟩ := pv
      exact SqL.of (kp _ _ hp)
    · rintro i z H' hi ⟨acc, kp, h1, pa⟩
      obtain ⟨u, hu, ru⟩ := Paired.at pr hi
      have ld : (dL d).length ≤ 200 := fit.1
      have la : acc.length ≤ 200 := by
        rw [Paired.len pa, List.length_take]
        omega
      have av' : Av (fun a => c' a ∨ a = g) H' := (av.kp kp).more (NoT.of h1 (fun _ z => nomatch z))
      refine ⟨rfl, itY <| itT rfl ⟨_, rfl, c, a, z, u, rfl, ru.mono kp.lk, by omega, fit.2 u (List.mem_of_getElem? hu), _, av', fun v2 H2 k2 rv2 => ⟨acc, k2 _ _ h1, line_lt (by omega), acc ++ [v2], (kp.trans k2).put hg, upd_same, ?_⟩⟩⟩
      rw [take_more hu]
      have m1 : Lk (fun a => c' a ∨ a = g) H2 (upd H2 g (.lst (acc ++ [v2]))) := Lk.at (.inr rfl) (NoT.of (k2 _ _ h1) (fun _ z => nomatch z))
      exact Paired.app (Paired.mapP pa fun _ _ w => w.mono (k2.lk.trans m1)) (.cons (rv2.mono m1) .nil)
    · rintro H' ⟨acc, kp, h1, pa⟩
      rw [show (dL d).take xs.length = dL d by rw [Paired.len pr]; exact List.take_length] at pa
      refine ⟨_, rfl, _, _, _, _, _, rfl, .ty "tuple", .base (.lst (kp _ _ hp)), is_lt K, _, rfl, itF rfl ⟨_, rfl, q _ _ kp ⟨g, acc, rfl, h1, av.new hg, Paired.mapP pa fun _ _ w => w.less⟩⟩⟩
end
end Br
/-! Widths; the law's sizes and costs. -/
namespace Br
open PySem L2
open PySem.Spec PyProof.Rows
def spLCost : Sp := fun vs H Q _ => ∃ (c a : Addr) (n : Int) (m : Nat) (xs : List V), vs = [.ref c, .int m, .ref a] ∧ H c = some (.lst [.int n]) ∧ H a = some (.lst xs) ∧ (∀ x ∈ xs, Wt H 6 x) ∧ xs.length ≤ 100000 ∧
  ∀ (n' : Int) H', n + m ≤ n' → But c H H' → H' c = some (.lst [.int n']) → Q (.bl (decide (20000 < n'))) H'
section
variable {P : Program} {w : World} {K : PySem.W.Frag} {mg : Str → Option Value} {base : Heap} {aC aB f : Addr} {fd : FuncData}
def wideOf (s : Str) : Nat := if s = "sum" ∨ s = "sums" ∨ s = "most" ∨ s = "flat" then 0 else if s = "upto" then 1 else if s = "cut" then 2 else if s = "pick" ∨ s = "join" ∨ s = "keep" then 3 else 4
theorem fn_width_of (T : Tp K mg aC aB) (F : At K mg "width_of" s_width_of p_width_of f fd) (c_size : Fn P w K mg base 6 "size" (spSize 6)) : Fn P w K mg base 7 "width_of" spWidth := by
  refine fn_by F sc_width_of ?_ (fun cdv A outer s H vs Q E hr h => ?_)
  · rintro vs H Q E ⟨c, p, q, xs, ws, k, r, d, v, rfl, _⟩
    rfl
  obtain ⟨c, p, p2, xs, ws, k, r, d, v, rfl, hp, hp2, oa, rv, fv, hk, q⟩ := h
  refine ⟨_, (pss_cons (ps_set (i := 3) sc_width_of.nd rfl (by first | exact Or.inl rfl | exact Or.inr rfl) (pe_ix (k_ixt K rfl) (pv 0) (pe_int) (fun _ _ => rfl)))
  (pss_cons (ps_if (pt_cmpR (k_in K rfl) (pv 3) (pe_tup (pa_cons (pe_str) (pa_cons (pe_str) (pa_cons (pe_str) (pa_cons (pe_str) pa_nil))))) rfl) (pss_one (ps_ret (pe_op op_add (pe_int) (pe_callB (k_len K rfl) (by rfl) T.len (by decide +kernel) (pa_cons (pe_ix (k_ixl K rfl) (pv 1) (pe_int) (fun _ _ => rfl)) pa_nil))))) pss_nil)
  (pss_cons (ps_if (pt_cmpR op_eq (pv 3) (pe_str) (nomark _)) (pss_one (ps_ret (pe_op op_add (pe_int) (pe_callB (k_len K rfl) (by rfl) T.len (by decide +kernel) (pa_cons (pv 2) pa_nil))))) pss_nil)
  (pss_cons (ps_if (pt_cmpR op_eq (pv 3) (pe_str) (nomark _)) (pss_one (ps_ret (pe_op op_add (pe_int) (pe_callB (k_len K rfl) (by rfl) T.len (by decide +kernel) (pa_cons (pe_ix (k_ixl K rfl) (pv 1) (pe_int) (fun _ _ => rfl)) pa_nil))))) pss_nil)
  (pss_cons (ps_if (pt_cmpR (k_in K rfl) (pv 3) (pe_tup (pa_cons (pe_str) (pa_cons (pe_str) (pa_cons (pe_str) pa_nil)))) rfl) (pss_one (ps_ret (pe_op op_add (pe_int) (pe_fn c_size hr (by omega) (by rfl) (pa_cons (pv 2) pa_nil))))) pss_nil)
  (pss_one (ps_ret (pe_int)))))))), ?_⟩
  -- the four ways by the sign
  have hdx : ∃ sg rest, xs = V.str sg :: rest := by
    cases oa <;> exact ⟨_, _, rfl⟩
  obtain ⟨sg, rest, rfl⟩ := hdx
  have h0 : ∀ {H' : Hp}, Kp H H' → SqT K H' p (V.str sg :: rest) := fun k => SqT.of (k _ _ hp)
  refine ⟨_, rfl, _, _, _, _, rfl, rfl, SqT.of hp, atI_zero, ?_⟩
  refine ⟨_, rfl, by show 4 ≤ sizeLine; decide, fun g hg => ⟨g, _, rfl, .inr (SqT.of upd_same), rfl, rfl, _, rfl, itB (fun e => ?_) (fun e1 => ?_)⟩⟩
  · -- a row of one part
    have ok : ∃ q1 ys r1, ws = .ref q1 :: r1 ∧ H q1 = some (.lst ys) := by
      cases oa with
      | num n => exact absurd e (by decide +kernel)
      | yes => exact absurd e (by decide +kernel)
      | no => exact absurd e (by decide +kernel)
      | none a z => exact absurd e (by decide +kernel)
      | op1 o rx fx =>
        cases o with
        | not => exact absurd e (by simp only [O1.str]; decide +kernel)
        | first _ _ => exact absurd e (by simp only [O1.str]; decide +kernel)
        | second _ _ => exact absurd e (by simp only [O1.str]; decide +kernel)
        | one _ => exact absurd e (by simp only [O1.str]; decide +kernel)
        | upto => exact absurd e (by simp only [O1.str]; decide +kernel)
        | long _ => obtain ⟨q1, ys, rfl, h1, _⟩ := rx; exact ⟨q1, ys, _, rfl, h1⟩
        | sum => obtain ⟨q1, ys, rfl, h1, _⟩ := rx; exact ⟨q1, ys, _, rfl, h1⟩
        | sums => obtain ⟨q1, ys, rfl, h1, _⟩ := rx; exact ⟨q1, ys, _, rfl, h1⟩
        | most => obtain ⟨q1, ys, rfl, h1, _⟩ := rx; exact ⟨q1, ys, _, rfl, h1⟩
        | flat _ => obtain ⟨q1, ys, rfl, h1, _⟩ := rx; exact ⟨q1, ys, _, rfl, h1⟩
      | op2 o rx ry fx fy =>
        refine absurd e ?_
        exact o2_in o (fun s => ¬ (if false = true then !inV (V.str s) [.str "sum", .str "sums", .str "most", .str "flat"] else inV (V.str s) [.str "sum", .str "sums", .str "most", .str "flat"]) = true) (by decide +kernel)
    obtain ⟨q1, ys, r1, rfl, h1⟩ := ok
    have k1 : Kp H _ := Kp.new (o := .tup [.str "sum", .str "sums", .str "most", .str "flat"]) hg
    exact ⟨_, rfl, _, _, _, _, rfl, rfl, SqL.of (k1 _ _ hp2), atI_zero, q1, _, rfl, .inl (SqL.of (k1 _ _ h1)), _, _, rfl, rfl, q _ _ k1⟩
  have k1 : Kp H _ := Kp.new (o := .tup [.str "sum", .str "sums", .str "most", .str "flat"]) hg
  refine ⟨_, rfl, rfl, _, rfl, itB (fun e => ?_) (fun e2 => ?_)⟩
  · have es := V.str.inj (of_decide_eq_true e)
    have ok : ∃ q1 ys, v = .ref q1 ∧ H q1 = some (.lst ys) := by
      cases oa with
      | num n => exact absurd es (by decide +kernel)
      | yes => exact absurd es (by decide +kernel)
      | no => exact absurd es (by decide +kernel)
      | none a z => exact absurd es (by decide +kernel)
      | op1 o rx fx =>
        cases o with
        | upto => obtain ⟨q1, ys, rfl, h1, _⟩ := rv; exact ⟨q1, ys, rfl, h1⟩
        | one _ => obtain ⟨q1, ys, rfl, h1, _⟩ := rv; exact ⟨q1, ys, rfl, h1⟩
        | sums => obtain ⟨q1, ys, rfl, h1, _⟩ := rv; exact ⟨q1, ys, rfl, h1⟩
        | flat _ => obtain ⟨q1, ys, rfl, h1, _⟩ := rv; exact ⟨q1, ys, rfl, h1⟩
        | not => exact absurd es (by simp only [O1.str]; decide +kernel)
        | first _ _ => exact absurd es (by simp only [O1.str]; decide +kernel)
        | second _ _ => exact absurd es (by simp only [O1.str]; decide +kernel)
        | long _ => exact absurd es (by simp only [O1.str]; decide +kernel)
        | sum => exact absurd es (by simp only [O1.str]; decide +kernel)
        | most => exact absurd es (by simp only [O1.str]; decide +kernel)
      | op2 o rx ry fx fy => exact absurd es (o2_in o (fun s => ¬ s = "upto") (by decide +kernel))
    obtain ⟨q1, ys, rfl, h1⟩ := ok
    exact ⟨_, rfl, q1, _, rfl, .inl (SqL.of (k1 _ _ h1)), _, _, rfl, rfl, q _ _ k1⟩
  refine ⟨_, rfl, rfl, _, rfl, itB (fun e => ?_) (fun e3 => ?_)⟩
  · have es := V.str.inj (of_decide_eq_true e)
    have ok : ∃ z q1 ys r1, ws = z :: .ref q1 :: r1 ∧ H q1 = some (.lst ys) := by
      cases oa with
      | num n => exact absurd es (by decide +kernel)
      | yes => exact absurd es (by decide +kernel)
      | no => exact absurd es (by decide +kernel)
      | none a z => exact absurd es (by decide +kernel)
      | op1 o rx fx => exact absurd es (o1_in o (fun s => ¬ s = "cut") (by decide +kernel))
      | op2 o rx ry fx fy =>
        cases o with
        | cut _ => obtain ⟨q1, ys, rfl, h1, _⟩ := ry; exact ⟨_, q1, ys, _, rfl, h1⟩
        | join _ => obtain ⟨q1, ys, rfl, h1, _⟩ := ry; exact ⟨_, q1, ys, _, rfl, h1⟩
        | keep _ => obtain ⟨q1, ys, rfl, h1, _⟩ := ry; exact ⟨_, q1, ys, _, rfl, h1⟩
        | add => exact absurd es (by simp only [O2.str]; decide +kernel)
        | sub => exact absurd es (by simp only [O2.str]; decide +kernel)
        | mul => exact absurd es (by simp only [O2.str]; decide +kernel)
        | div => exact absurd es (by simp only [O2.str]; decide +kernel)
        | rest => exact absurd es (by simp only [O2.str]; decide +kernel)
        | less => exact absurd es (by simp only [O2.str]; decide +kernel)
        | sameN => exact absurd es (by simp only [O2.str]; decide +kernel)
        | sameT => exact absurd es (by simp only [O2.str]; decide +kernel)
        | both => exact absurd es (by simp only [O2.str]; decide +kernel)
        | pair _ _ => exact absurd es (by simp only [O2.str]; decide +kernel)
        | pick _ => exact absurd es (by simp only [O2.str]; decide +kernel)
    obtain ⟨z, q1, ys, r1, rfl, h1⟩ := ok
    exact ⟨_, rfl, _, _, _, _, rfl, rfl, SqL.of (k1 _ _ hp2), atI_one, q1, _, rfl, .inl (SqL.of (k1 _ _ h1)), _, _, rfl, rfl, q _ _ k1⟩
  refine ⟨_, rfl, by show 3 ≤ sizeLine; decide, fun g2 hg2 => ⟨g2, _, rfl, .inr (SqT.of upd_same), rfl, rfl, _, rfl, itB (fun e => ?_) (fun e4 => ?_)⟩⟩
  · have k2 : Kp H _ := k1.trans (Kp.new (o := .tup [.str "pick", .str "join", .str "keep"]) hg2)
    exact ⟨_, rfl, v, rfl, (rv.wt fv hk).mono k2, fun m H' k3 => ⟨_, _, rfl, rfl, q _ _ (k2.trans k3)⟩⟩
  · exact q _ _ (k1.trans (Kp.new hg2))
theorem fn_law_size (T : Tp K mg aC aB) (F : At K mg "_law_size" s_law_size p_law_size f fd) : ∀ n, Fn P w K mg base n "_law_size" (spSize n) → Fn P w K mg base (n + 1) "_law_size" (spSize (n + 1)) := by
  intro n c_law_size
  refine fn_by F sc_law_size ?_ (fun cdv A outer s H vs Q E hr h => ?_)
  · rintro vs H Q E ⟨v, rfl, _⟩
    rfl
  obtain ⟨v, rfl, hw, q⟩ := h
  refine ⟨_, (pss_cons (ps_if (pt_val (pe_callB (k_isiT K rfl) (by rfl) T.isinstance (by decide +kernel) (pa_cons (pv 0) (pa_cons (pe_tup (pa_cons (pe_ty (n := "bool") (by rfl) T.bool (by decide +kernel)) (pa_cons (pe_ty (n := "int") (by rfl) T.int (by decide +kernel)) pa_nil))) pa_nil)))) (pss_one (ps_ret (pe_int))) pss_nil)
  (pss_one (ps_ret (pe_op op_add (pe_callTy call_int1 (by rfl) T.int (by decide +kernel) (pa_cons (pe_callB (k_isi K rfl) (by rfl) T.isinstance (by decide +kernel) (pa_cons (pv 0) (pa_cons (pe_ty (n := "list") (by rfl) T.list (by decide +kernel)) pa_nil))) pa_nil)) (pe_callB (k_sum K rfl rfl) (by rfl) T.sum (by decide +kernel) (pa_cons (pe_lc (own := [("one", 1)]) rfl sc_law_size.nd (k_pis K rfl (pv 0)) (blkOk_by (own := [("one", 1)]) (by rfl)) (fun _ _ _ _ _ => (pg_name (i := 1) sc_law_size.nd rfl (by first | exact Or.inl rfl | exact Or.inr rfl))) (fun _ _ _ _ _ => pts_nil) (fun _ _ _ _ _ => (pe_fn c_law_size hr (by omega) (by rfl) (pa_cons (pv 1) pa_nil)))) pa_nil)))))), ?_⟩
  have two : ∀ t b, PySem.W.kitOne K t (.type "bool") = some false → PySem.W.kitOne K t (.type "int") = some b → PySem.W.kitAny K t [.type "bool", .type "int"] = some b := fun t b h1 h2 => by
    refine kitAny_cons h1 (fun _ => kitAny_cons h2 (fun e => ?_) (fun e => e)) (fun z => nomatch z)
    rw [e]
    rfl
  have fin : ∀ (g : Addr) (H' : Hp) (ms : List Nat) (b : Int), 0 ≤ b → Kp H H' → H' g = some (.lst (ms.map fun (m : Nat) => V.int (m : Int))) → rSum K [.ref g] H' fun y H3 => ∃ i j, V.int b = .int i ∧ y = .int j ∧ Q (.int (i + j)) H3 := by
    intro g H' ms b hb kp h1
    have e : (ms.map fun (m : Nat) => V.int (m : Int)) = (ms.map fun (m : Nat) => (m : Int)).map V.int := by rw [List.map_map]; rfl
    rw [e] at h1
    refine ⟨g, _, rfl, SqL.of h1, _, _, rfl, rfl, ?_⟩
    have e2 : (ms.map fun (m : Nat) => (m : Int)).sum = ((ms.sum : Nat) : Int) := by
      clear h1 e
      induction ms with
      | nil => rfl
      | cons x ms ih =>
        rw [List.map_cons, List.sum_cons, List.sum_cons, ih]
        omega
    rw [e2, show b + ((ms.sum : Nat) : Int) = ((b.toNat + ms.sum : Nat) : Int) by omega]
    exact q _ _ kp
  refine ⟨_, rfl, by show 2 ≤ sizeLine; decide, fun t ht => ?_⟩
  have k1 : Kp H _ := Kp.new (o := .tup [.ty "bool", .ty "int"]) ht
  rcases hw with ⟨i, rfl⟩ | ⟨b, rfl⟩ | ⟨p, xs, rfl, hp, hlx, ha⟩
  · exact ⟨_, t, _, _, _, _, rfl, upd_same, .cons (.ty _) (.cons (.ty _) .nil), .base (.int i), two _ _ (kit_ty (by decide +kernel)) (is_ii K), _, rfl, itT rfl (q 1 _ k1)⟩
  · exact ⟨_, t, _, _, _, _, rfl, upd_same, .cons (.ty _) (.cons (.ty _) .nil), .base (.bl b), kitAny_cons (b := true) (r := true) (kit_ty (by decide +kernel)) (fun z => nomatch z) (fun _ => rfl), _, rfl, itT rfl (q 1 _ k1)⟩
  · rcases hp with hp | hp
    · have hp' := k1 _ _ hp
      refine ⟨_, t, _, _, _, _, rfl, upd_same, .cons (.ty _) (.cons (.ty _) .nil), .base (.tup hp'), two _ _ (kit_ty (by decide +kernel)) (is_ti K), _, rfl, itF rfl ?_⟩
      refine ⟨_, rfl, _, _, _, _, _, rfl, .ty "list", .base (.tup hp'), is_tl K, .inr ⟨_, rfl, ?_⟩⟩
      refine ⟨_, rfl, p, rfl, .inr ⟨⟨_, SqT.of hp'⟩, fun g hg => lc_tup (K := K) (a := p) (xs := xs) (fun i H' => ∃ ms : List Nat, Kp H H' ∧ H' g = some (.lst (ms.map fun (m : Nat) => V.int (m : Int))) ∧ ms.length = i)
        ⟨[], k1.trans (Kp.new hg), upd_same, rfl⟩ (fun i H' _ pv => ?_) ?_ ?_⟩⟩
      · obtain ⟨ms, kp, _⟩ := pv
        exact SqT.of (kp _ _ hp)
      · rintro i y H' hi ⟨ms, kp, h1, lm⟩
        have li : i < xs.length := (List.getElem?_eq_some_iff.mp hi).1
        refine ⟨rfl, itY <| itT rfl ⟨_, rfl, y, rfl, (ha y (List.mem_of_getElem? hi)).mono kp, fun m2 H2 k2 => ⟨_, k2 _ _ h1, line_lt (by rw [List.length_map]; omega), ms ++ [m2], (kp.trans k2).put (Kp.free k1 hg), by rw [upd_same, List.map_append]; rfl, by rw [List.length_append]; show ms.length + 1 = _; omega⟩⟩⟩
      · rintro H' ⟨ms, kp, h1, lm⟩
        exact fin g H' ms 0 (by decide) kp h1
    · have hp' := k1 _ _ hp
      refine ⟨_, t, _, _, _, _, rfl, upd_same, .cons (.ty _) (.cons (.ty _) .nil), .base (.lst hp'), two _ _ (kit_ty (by decide +kernel)) (is_li K), _, rfl, itF rfl ?_⟩
      refine ⟨_, rfl, _, _, _, _, _, rfl, .ty "list", .base (.lst hp'), is_ll K, .inr ⟨_, rfl, ?_⟩⟩
      refine ⟨_, rfl, p, rfl, .inl ⟨⟨_, SqL.of hp'⟩, fun g hg => lc_list (K := K) (a := p) (xs := xs) (fun i H' => ∃ ms : List Nat, Kp H H' ∧ H' g = some (.lst (ms.map fun (m : Nat) => V.int (m : Int))) ∧ ms.length = i)
        ⟨[], k1.trans (Kp.new hg), upd_same, rfl⟩ (fun i H' _ pv => ?_) ?_ ?_⟩⟩
      · obtain ⟨ms, kp, _⟩ := pv
        exact SqL.of (kp _ _ hp)
      · rintro i y H' hi ⟨ms, kp, h1, lm⟩
        have li : i < xs.length := (List.getElem?_eq_some_iff.mp hi).1
        refine ⟨rfl, itY <| itT rfl ⟨_, rfl, y, rfl, (ha y (List.mem_of_getElem? hi)).mono kp, fun m2 H2 k2 => ⟨_, k2 _ _ h1, line_lt (by rw [List.length_map]; omega), ms ++ [m2], (kp.trans k2).put (Kp.free k1 hg), by rw [upd_same, List.map_append]; rfl, by rw [List.length_append]; show ms.length + 1 = _; omega⟩⟩⟩
      · rintro H' ⟨ms, kp, h1, lm⟩
        exact fin g H' ms 1 (by decide) kp h1
end
end Br
/-! The law's cost, and a name more. -/
namespace Br
open PySem L2
open PySem.Spec PyProof.Rows
def spCost : Sp := fun vs H Q _ => ∃ (c a : Addr) (n : Int) (m : Nat) (xs : List V), vs = [.ref c, .int (m : Int), .ref a] ∧ H c = some (.lst [.int n]) ∧ H a = some (.lst xs) ∧ a ≠ c ∧ (∀ x ∈ xs, Wt H 6 x) ∧ xs.length ≤ 100000 ∧ m ≤ 1000 ∧
  ∀ (n' : Int) H', n + m ≤ n' → But c H H' → H' c = some (.lst [.int n']) → Q (.bl (decide (20000 < n'))) H'
def spWith : Sp := fun vs H Q _ => ∃ (d : Addr) (kvs : List (Key × V)) (x : Str) (v : V), vs = [.ref d, .str x, v] ∧ H d = some (.dK kvs) ∧ kvs.length ≤ 2000 ∧ ∀ p H', Kp H H' → H p = none → H' p = some (.dK (putK kvs (Sum.inr x) v)) → Q (.ref p) H'
section
variable {P : Program} {w : World} {K : PySem.W.Frag} {mg : Str → Option Value} {base : Heap} {aC aB f : Addr} {fd : FuncData}
theorem fn_law_with (T : Tp K mg aC aB) (F : At K mg "_law_with" s_law_with p_law_with f fd) : Fn P w K mg base 1 "_law_with" spWith := by
  refine fn_by F sc_law_with ?_ (fun cdv A outer s H vs Q E hr h => ?_)
  · rintro vs H Q E ⟨d, kvs, x, v, rfl, _⟩
    rfl
  obtain ⟨d, kvs, x, v, rfl, hd, hn, q⟩ := h
  refine ⟨_, (pss_cons (ps_set (i := 3) sc_law_with.nd rfl (by first | exact Or.inl rfl | exact Or.inr rfl) (pe_callTy cr_dictOf (by rfl) T.dict (by decide +kernel) (pa_cons (pv 0) pa_nil)))
  (pss_cons (ps_dput (hu_of hr) (pv 3) (pv 1) (pv 2) rfl)
  (pss_one (ps_ret (pv 3))))), ?_⟩
  refine ⟨_, rfl, d, kvs, rfl, hd, fun p hp => ?_⟩
  refine ⟨_, rfl, _, rfl, _, rfl, p, _, rfl, DPut.k (k := Sum.inr x) upd_same (line_lt (by omega)), _, rfl, ?_⟩
  refine q p _ ((Kp.new hp).put hp) hp upd_same
theorem fn_law_cost (T : Tp K mg aC aB) (F : At K mg "_law_cost" s_law_cost p_law_cost f fd) (c_law_size : Fn P w K mg base 6 "_law_size" (spSize 6)) : Fn P w K mg base 7 "_law_cost" spCost := by
  refine fn_by F sc_law_cost ?_ (fun cdv A outer s H vs Q E hr h => ?_)
  · rintro vs H Q E ⟨c, a, n, m, xs, rfl, _⟩
    rfl
  obtain ⟨c, a, n, m, xs, rfl, hc, ha, nac, hw, hl, hm, q⟩ := h
  refine ⟨_, (pss_cons (ps_asg (pe_op op_add (pe_ix (k_ixl K rfl) (pv 0) (pe_int) (fun _ _ => rfl)) (pe_op op_mul (pv 1) (pe_op op_add (pe_int) (pe_callB (k_sum K rfl rfl) (by rfl) T.sum (by decide +kernel) (pa_cons (pe_lc (own := [("worth", 3)]) rfl sc_law_cost.nd (k_pil K rfl (pv 2)) (blkOk_by (own := [("worth", 3)]) (by rfl)) (fun _ _ _ _ _ => (pg_name (i := 3) sc_law_cost.nd rfl (by first | exact Or.inl rfl | exact Or.inr rfl))) (fun _ _ _ _ _ => pts_nil) (fun _ _ _ _ _ => (pe_fn c_law_size hr (by omega) (by rfl) (pa_cons (pv 3) pa_nil)))) pa_nil))))) (pg_sub (pv 0) (pe_int) set_list))
  (pss_one (ps_ret (pe_cmpR op_gt (pe_ix (k_ixl K rfl) (pv 0) (pe_int) (fun _ _ => rfl)) (pe_int) (nomark _))))), ?_⟩
  refine ⟨_, rfl, _, _, _, _, rfl, rfl, SqL.of hc, atI_zero, _, rfl, ?_⟩
  refine ⟨_, rfl, a, rfl, ⟨_, SqL.of ha⟩, fun g hg => lc_list (K := K) (a := a) (xs := xs) (fun i H' => ∃ ms : List Nat, Kp H H' ∧ H' g = some (.lst (ms.map fun (m : Nat) => V.int (m : Int))) ∧ ms.length = i)
    ⟨[], Kp.new hg, upd_same, rfl⟩ (fun i H' _ pv => ?_) ?_ ?_⟩
  · obtain ⟨ms, kp, _⟩ := pv
    exact SqL.of (kp _ _ ha)
  · rintro i y H' hi ⟨ms, kp, h1, lm⟩
    have li : i < xs.length := (List.getElem?_eq_some_iff.mp hi).1
    refine ⟨rfl, itY <| itT rfl ⟨_, rfl, y, rfl, (hw y (List.mem_of_getElem? hi)).mono kp, fun m2 H2 k2 => ⟨_, k2 _ _ h1, line_lt (by rw [List.length_map]; omega), ms ++ [m2], (kp.trans k2).put hg, by rw [upd_same, List.map_append]; rfl, by rw [List.length_append]; show ms.length + 1 = _; omega⟩⟩⟩
  · rintro H' ⟨ms, kp, h1, lm⟩
    have e : (ms.map fun (m : Nat) => V.int (m : Int)) = (ms.map fun (m : Nat) => (m : Int)).map V.int := by rw [List.map_map]; rfl
    rw [e] at h1
    have e2 : (ms.map fun (m : Nat) => (m : Int)).sum = ((ms.sum : Nat) : Int) := by
      clear h1 e lm
      induction ms with
      | nil => rfl
      | cons x ms ih =>
        rw [List.map_cons, List.sum_cons, List.sum_cons, ih]
        omega
    refine ⟨g, _, rfl, SqL.of h1, _, _, rfl, rfl, _, _, rfl, rfl, .inl ⟨by omega, by omega⟩, _, _, rfl, rfl, ?_⟩
    refine ⟨_, rfl, c, _, 0, 0, rfl, rfl, kp _ _ hc, rfl, ?_⟩
    rw [e2]
    have nc : NoT H c := NoT.of hc (fun _ z => nomatch z)
    have bt : ∀ (u : HO), But c H (upd H' c u) := fun u => kp.but.trans (But.at (nc.kp kp))
    refine ⟨_, rfl, _, _, _, _, rfl, rfl, SqL.of upd_same, atI_zero, _, _, rfl, rfl, ?_⟩
    refine q (n + (m : Int) * (1 + ((ms.sum : Nat) : Int))) _ ?_ (bt _) upd_same
    have z : (m : Int) * (1 + ((ms.sum : Nat) : Int)) = ((m * (1 + ms.sum) : Nat) : Int) := by
      rw [Int.natCast_mul, Int.natCast_add]
      rfl
    rw [z]
    have z2 : m ≤ m * (1 + ms.sum) := Nat.le_mul_of_pos_right m (by omega)
    omega
end
end Br
/-! The class Reading and its error: what the top holds, __init__, note. -/
namespace Br
open PySem L2
open PySem.Spec PyProof.Rows
/-- a method's promise -/
structure Mn (P : Program) (w : World) (K : PySem.W.Frag) (mg : Str → Option Value) (base : Heap) (cx : CXT) (C : Addr) (k : Nat) (m : Str) (sp : Sp) : Prop where
  ex : ∃ (f : Addr) (fd : FuncData) (ps : List Str), FnOk P w K mg base cx k f fd ps sp ∧ Meth K C m f ∧ Binds K fd ps []
theorem Mn.mono {P : Program} {w : World} {K : PySem.W.Frag} {mg : Str → Option Value} {base : Heap} {cx : CXT} {C : Addr} {j k : Nat} {m : Str} {sp : Sp} (c : Mn P w K mg base cx C j m sp) (h : j ≤ k) : Mn P w K mg base cx C k m sp := by
  obtain ⟨f, fd, ps, F, r⟩ := c.ex
  exact ⟨f, fd, ps, F.mono h, r⟩
section
variable {X : Cx} {C : Addr} {k j : Nat} {m : Str} {sp : Sp} {e o : Expr} {es : List Expr} {to : TE} {t : TA} {pos apos : Pos} {pl : Sem Bool}
theorem pe_mn {C' : Addr} (ho : PE X o to) (hC : C' = C) (c : Cls X.K C') (M : Mn X.prog X.w X.K X.mg X.base CX0 C k m sp) (hr : Room j X.A) (hk : k ≤ j) (ha : PA X (e :: es) t)
    (hst : starEach (e :: es) X.env = (false, eval e X.env) :: starEach es X.env := by rfl) (hpl : (backTo pos (starEach es X.env)).any (·.1) = false := by rfl)
    (ht : eval (.Call (.Attribute o m apos) (e :: es) [] pos) X.env = (do
      let ov ← eval o X.env
      standAt apos.atName
      let (f, first) ← holding [ov] (getMethod ov m pl)
      callWith pos f first (backTo pos (starEach (e :: es) X.env)) (backToKw pos (keywordEach [] X.env))) := by rfl) :
    PE X (.Call (.Attribute o m apos) (e :: es) [] pos) (tMeth C m sp [] E0 to t) := by
  subst hC
  obtain ⟨f, fd, ps, F, hm, b⟩ := M.ex
  exact pe_meth ho c hm F (hr.mono hk) b .nil pass0 ha hst hpl ht
theorem pe_mnX {C' : Addr} {E : XK} (ho : PE X o to) (hC : C' = C) (c : Cls X.K C') (M : Mn X.prog X.w X.K X.mg X.base (L2.CX X.prog X.w) C k m sp) (hr : Room j X.A) (hk : k ≤ j) (tk : Takes X (fun cls d _ H => E cls d H)) (ha : PA X (e :: es) t)
    (hst : starEach (e :: es) X.env = (false, eval e X.env) :: starEach es X.env := by rfl) (hpl : (backTo pos (starEach es X.env)).any (·.1) = false := by rfl)
    (ht : eval (.Call (.Attribute o m apos) (e :: es) [] pos) X.env = (do
      let ov ← eval o X.env
      standAt apos.atName
      let (f, first) ← holding [ov] (getMethod ov m pl)
      callWith pos f first (backTo pos (starEach (e :: es) X.env)) (backToKw pos (keywordEach [] X.env))) := by rfl) :
    PE X (.Call (.Attribute o m apos) (e :: es) [] pos) (tMeth C m sp [] E to t) := by
  subst hC
  obtain ⟨f, fd, ps, F, hm, b⟩ := M.ex
  exact pe_meth ho c hm F (hr.mono hk) b .nil (passes_call tk (fun _ _ _ _ h => h)) ha hst hpl ht
end
/-- the def of the text st stands at f, a method m of the class at C -/
structure MAt (K : PySem.W.Frag) (C : Addr) (m qual : Str) (st : Stmt) (ps : List Str) (f : Addr) (fd : FuncData) : Prop where
  fn : Fun K m qual st f fd
  me : Meth K C m f
  bd : Binds K fd ps []
section
variable {P : Program} {w : World} {K : PySem.W.Frag} {mg : Str → Option Value} {base : Heap} {C f : Addr} {fd : FuncData} {m qual : Str} {st : Stmt} {N ps : List Str} {k : Nat} {sp : Sp}
theorem mn_by (F : MAt K C m qual st ps f fd) (S : FnScope N ps (defScope st)) (len : ∀ vs H Q E, sp vs H Q E → vs.length = ps.length)
    (body : ∀ (cdv : Value) (A : Around) (outer : List PySem.Env) (s : Shared) (H : Hp) (vs : List V) (Q : VK) (E : XK), Room k (A.deeper (envOfC qual (defScope st) s.heap.objs.size f cdv)) → sp vs H Q E →
      ∃ t, PSs (cxOf CX0 P w K mg base N qual (defScope st) f cdv A outer s H E).nox (defBody st) t ∧ t { nx := fun _ H' => Q .non H', rt := Q } (start N vs) H) :
    Mn P w K mg base CX0 C (k + 1) m sp := ⟨f, fd, ps, F.fn.ok S len body, F.me, F.bd⟩
theorem mn_byX (F : MAt K C m qual st ps f fd) (S : FnScope N ps (defScope st)) (len : ∀ vs H Q E, sp vs H Q E → vs.length = ps.length)
    (body : ∀ (cdv : Value) (A : Around) (outer : List PySem.Env) (s : Shared) (H : Hp) (vs : List V) (Q : VK) (E : XK), Room k (A.deeper (envOfC qual (defScope st) s.heap.objs.size f cdv)) → sp vs H Q E →
      ∃ t, PSs (cxOf (L2.CX P w) P w K mg base N qual (defScope st) f cdv A outer s H E) (defBody st) t ∧ t { nx := fun _ H' => Q .non H', rt := Q } (start N vs) H) :
    Mn P w K mg base (L2.CX P w) C (k + 1) m sp := ⟨f, fd, ps, F.fn.okX S len body, F.me, F.bd⟩
end
/-- what the top has written of Reading (at C) and Stopped (at CS) -/
structure RT (K : PySem.W.Frag) (mg : Str → Option Value) (C CS : Addr) : Prop where
  cl : Cls K C
  nM : NoAttr K C "met"
  gR : mg "Reading" = some (.ref C)
  gS : mg "Stopped" = some (.ref CS)
  oS : OexC K CS
  xS : XfC K CS
  nW : PySem.W.findIn K (.ref CS) "word" = some none
  nP : PySem.W.findIn K (.ref CS) "place" = some none
  nT : PySem.W.findIn K (.ref CS) "turns" = some none
  te : PySem.W.exmOne K (.ref CS) (.ref CS) = some true
/-- a reading stands at s, its dict of what was met at m, of at most n entries -/
def RdAt (P : Program) (w : World) (C : Addr) (H : Hp) (s m : Addr) (n : Nat) : Prop := (∃ dx, H s = some (.ins C dx [("met", .ref m)])) ∧ MetAt P w H m n ∧ s ≠ m
theorem MetAt.not {P : Program} {w : World} {H : Hp} {m : Addr} {n : Nat} (h : MetAt P w H m n) : NoT H m := by
  obtain ⟨L, h1, _⟩ := h
  exact NoT.of h1 (fun _ z => metO_tup z)
theorem MetAt.kp {P : Program} {w : World} {H H' : Hp} {m : Addr} {n : Nat} (h : MetAt P w H m n) (k : Kp H H') : MetAt P w H' m n := by
  obtain ⟨L, h1, h2, h3⟩ := h
  exact ⟨L, k _ _ h1, fun e he => (h2 e he).mono fun b xs z => k b _ z, h3⟩
theorem RdAt.kp {P : Program} {w : World} {C : Addr} {H H' : Hp} {s m : Addr} {n : Nat} (h : RdAt P w C H s m n) (k : Kp H H') : RdAt P w C H' s m n := by
  obtain ⟨⟨dx, h1⟩, h2, h3⟩ := h
  exact ⟨⟨dx, k _ _ h1⟩, h2.kp k, h3⟩
theorem RdAt.not {P : Program} {w : World} {C : Addr} {H : Hp} {s m : Addr} {n : Nat} (h : RdAt P w C H s m n) : NoT H m := h.2.1.not
def StopAt (H : Hp) (d : Addr) (w : Wd) (pl tu : List Int) : Prop := ∃ (fs : List (Str × V)) (x y : V), H d = some (.xd fs) ∧ fs.lookup ("word" : Str) = some (.str w.str) ∧ fs.lookup ("place" : Str) = some x ∧ fs.lookup ("turns" : Str) = some y ∧ IntsAt H x pl ∧ IntsAt H y tu
def spRInit (P : Program) (w : World) (C : Addr) : Sp := fun vs H Q _ => ∃ (p dx : Addr), vs = [.ref p] ∧ H p = some (.ins C dx []) ∧
  ∀ H' m, (∀ a o, a ≠ p → H a = some o → H' a = some o) → H' p = some (.ins C dx [("met", .ref m)]) → H' m = some (MetO P w m []) → m ≠ p → H m = none → Q .non H'
def spSInit (CS : Addr) : Sp := fun vs H Q _ => ∃ (a : Addr) (x y z : V), vs = [.ref a, x, y, z] ∧ H a = some (exo a CS none) ∧
  ∀ d H', H d = none → d ≠ a → (∀ b o, b ≠ a → H b = some o → H' b = some o) → H' a = some (exo a CS (some d)) → H' d = some (exd d [("turns", z), ("place", y), ("word", x)]) → Q .non H'
def spNote (P : Program) (w : World) (C : Addr) : Sp := fun vs H Q _ => ∃ (s m : Addr) (n : Nat) (pv rv : V) (pl ro : List Int) (wd : Int), vs = [.ref s, pv, rv, .int wd] ∧ RdAt P w C H s m n ∧ IntsAt H pv pl ∧ IntsAt H rv ro ∧ n < 16000000 ∧
  ∀ H', But m H H' → RdAt P w C H' s m (n + 1) → Q .non H'
section
variable {P : Program} {w : World} {K : PySem.W.Frag} {mg : Str → Option Value} {base : Heap} {aC aB f C CS : Addr} {fd : FuncData}
theorem fn_S_init (T : Tp K mg aC aB) (R : RT K mg C CS) (F : Fun K "__init__" "Stopped.__init__" s_S_init f fd) : FnOk P w K mg base CX0 1 f fd p_S_init (spSInit CS) := by
  refine F.ok sc_S_init ?_ (fun cdv A outer s H vs Q E hr h => ?_)
  · rintro vs H Q E ⟨a, x, y, z, rfl, _⟩
    rfl
  obtain ⟨a, x, y, z, rfl, ha, q⟩ := h
  refine ⟨_, (pss_cons (ps_expr (pe_veinit (by rfl) T.valueError T.vV (pa_cons (pv 0) (pa_cons (pe_str) pa_nil))))
  (pss_cons (ps_ost (pv 0) (pv 1))
  (pss_cons (ps_ost (pv 0) (pv 2))
  (pss_one (ps_ost (pv 0) (pv 3)))))), ?_⟩
  refine ⟨_, rfl, a, CS, _, rfl, by show 1 ≤ 1000; decide, R.oS, ha, ?_⟩
  refine ⟨_, rfl, _, rfl, a, CS, rfl, R.oS, R.nW, .inl ⟨ha, fun d hd na => ?_⟩⟩
  have e1 : upd (upd H d (exd d [("word", x)])) a (exo a CS (some d)) d = some (exd d [("word", x)]) := by rw [upd_ne na]; exact upd_same
  refine ⟨_, rfl, _, rfl, a, CS, rfl, R.oS, R.nP, .inr ⟨d, _, upd_same, e1, by show 1 ≤ 900; decide, ?_⟩⟩
  have e2 : upd (upd (upd H d (exd d [("word", x)])) a (exo a CS (some d))) d (exd d [("place", y), ("word", x)]) a = some (exo a CS (some d)) := by rw [upd_ne (Ne.symm na)]; exact upd_same
  refine ⟨_, rfl, _, rfl, a, CS, rfl, R.oS, R.nT, .inr ⟨d, _, e2, upd_same, by show 2 ≤ 900; decide, ?_⟩⟩
  refine q d _ hd na (fun b o nb hb => ?_) ?_ upd_same
  · have nd := ne_of_none hb hd
    rw [upd_ne nd, upd_ne nd, upd_ne nb, upd_ne nd]
    exact hb
  · rw [upd_ne (Ne.symm na)]
    exact e2
theorem fn_R_init (T : Tp K mg aC aB) (R : RT K mg C CS) (F : Fun K "__init__" "Reading.__init__" s_R_init f fd) : FnOk P w K mg base CX0 1 f fd p_R_init (spRInit P w C) := by
  refine F.ok sc_R_init ?_ (fun cdv A outer s H vs Q E hr h => ?_)
  · rintro vs H Q E ⟨p, dx, rfl, _⟩
    rfl
  obtain ⟨p, dx, rfl, hp, q⟩ := h
  refine ⟨_, (pss_one (ps_fld (pv 0) pe_dnewM rfl)), ?_⟩
  refine fun m hm => ⟨_, rfl, p, C, dx, [], rfl, Kp.new hm _ _ hp, R.cl, R.nM, by show 0 < 1000; decide, ?_⟩
  have np : m ≠ p := (ne_of_none hp hm).symm
  refine q _ m (fun a o na ha => ?_) upd_same ?_ np hm
  · rw [upd_ne na, upd_ne (ne_of_none ha hm)]
    exact ha
  · rw [upd_ne np]
    exact upd_same
theorem fn_R_note (T : Tp K mg aC aB) (R : RT K mg C CS) (F : MAt K C "note" "Reading.note" s_R_note p_R_note f fd) : Mn P w K mg base CX0 C 1 "note" (spNote P w C) := by
  refine mn_by F sc_R_note ?_ (fun cdv A outer s H vs Q E hr h => ?_)
  · rintro vs H Q E ⟨s, m, n, pv, rv, pl, ro, wd, rfl, _⟩
    rfl
  obtain ⟨s, m, n, pv, rv, pl, ro, wd, rfl, rd, ⟨pa, rfl, hpa⟩, ⟨ra, rfl, hra⟩, hn, q⟩ := h
  refine ⟨_, (pss_cons (ps_asg (pe_metget hr (pe_fld (pv 0) rfl) (pe_tup (pa_cons (pv 1) (pa_cons (pv 2) pa_nil))) (pe_tup (pa_cons (pe_int) (pa_cons (pe_int) pa_nil))) ⟨rfl, rfl, rfl, rfl⟩) (k_gtup K rfl (n := 2) rfl (pgs_cons (pg_name (i := 4) sc_R_note.nd rfl (by first | exact Or.inl rfl | exact Or.inr rfl)) (pgs_cons (pg_name (i := 5) sc_R_note.nd rfl (by first | exact Or.inl rfl | exact Or.inr rfl)) pgs_nil))))
  (pss_one (ps_metput hr (pe_fld (pv 0) rfl) (pe_tup (pa_cons (pv 1) (pa_cons (pv 2) pa_nil))) (pe_tup (pa_cons (pe_op op_add (pv 4) (pe_int)) (pa_cons (pe_op op_add (pv 5) (pv 3)) pa_nil))) rfl))), ?_⟩
  obtain ⟨⟨dx, hs⟩, hm, nsm⟩ := id rd
  have lk : ([(("met" : Str), V.ref m)]).lookup ("met" : Str) = some (.ref m) := by simp [List.lookup]
  refine ⟨_, rfl, s, C, dx, _, _, rfl, hs, R.cl, R.nM, lk, m, n, rfl, hm, ?_⟩
  refine ⟨_, rfl, _, rfl, by show 2 ≤ sizeLine; decide, fun b hb => ?_⟩
  refine ⟨by show 2 ≤ sizeLine; decide, fun z hz => ?_⟩
  have k2 : Kp H (upd (upd H b (.tup [.ref pa, .ref ra])) z (.tup [.int 0, .int 0])) := (Kp.new hb).trans (Kp.new hz)
  have hb2 : upd (upd H b (.tup [.ref pa, .ref ra])) z (.tup [.int 0, .int 0]) b = some (.tup [.ref pa, .ref ra]) := by rw [upd_ne (ne_of_none upd_same hz)]; exact upd_same
  refine ⟨b, pa, ra, z, pl, ro, rfl, rfl, hm.kp k2, hb2, k2 _ _ hpa, k2 _ _ hra, upd_same, fun t mm v ht => ?_⟩
  refine ⟨t, _, rfl, SqT.of ht, rfl, _, _, rfl, _, _, rfl, rfl, ?_⟩
  refine ⟨_, rfl, _, _, rfl, rfl, _, rfl, _, rfl, _, _, rfl, rfl, by show 2 ≤ sizeLine; decide, fun va hva => ?_⟩
  have k3 := k2.trans (Kp.new (o := .tup [.int (mm + 1), .int (v + wd)]) hva)
  refine ⟨_, rfl, s, C, dx, _, _, rfl, k3 _ _ hs, R.cl, R.nM, lk, ?_⟩
  refine ⟨_, rfl, _, rfl, by show 2 ≤ sizeLine; decide, fun b2 hb2' => ?_⟩
  have k4 := k3.trans (Kp.new (o := .tup [.ref pa, .ref ra]) hb2')
  have hva2 : upd (upd (upd (upd H b (.tup [.ref pa, .ref ra])) z (.tup [.int 0, .int 0])) va (.tup [.int (mm + 1), .int (v + wd)])) b2 (.tup [.ref pa, .ref ra]) va = some (.tup [.int (mm + 1), .int (v + wd)]) := by
    rw [upd_ne (ne_of_none upd_same hb2')]
    exact upd_same
  refine ⟨m, n, b2, pa, ra, va, pl, ro, _, _, rfl, rfl, rfl, hm.kp k4, hn, upd_same, k4 _ _ hpa, k4 _ _ hra, hva2, fun H' same met => ?_⟩
  have bt : But m H H' := ⟨fun a o na ha => by rw [same a na]; exact k4 _ _ ha, fun a xs ha => by
    rw [same a (fun e => (hm.not).2 xs (by rw [← e]; exact ha))]
    exact k4 _ _ ha, fun a o ha => by
    by_cases e : a = m
    · obtain ⟨L, h1, _⟩ := met
      exact ⟨_, by rw [e]; exact h1⟩
    · exact ⟨o, by rw [same a e]; exact k4 _ _ ha⟩⟩
  exact q H' bt ⟨⟨dx, bt.old _ _ nsm hs⟩, met, nsm⟩
end
end Br
/-! The plain reading in steps. -/
namespace Br
open PySem L2
open PySem.Spec PyProof.Rows
/-- how deep the kinds go -/
def T.dep : {k : Kd} → T k → Nat
  | _, .num _ => 1
  | _, .yes => 1
  | _, .no => 1
  | _, .name k _ => k.depth
  | _, .none a => 1 + a.depth
  | _, .op1 (b := b) _ t => max b.depth t.dep
  | _, .op2 (c := c) _ t u => max c.depth (max t.dep u.dep)
  | _, .lt (k := k) _ t u => max k.depth (max t.dep u.dep)
  | _, .ite (k := k) b t u => max k.depth (max b.dep (max t.dep u.dep))
  | _, .each (b := b) _ t u => max (1 + b.depth) (max t.dep u.dep)
  | _, .times (k := k) _ n t u => max k.depth (max n.dep (max t.dep u.dep))
theorem T.dep_k {k : Kd} (t : T k) : k.depth ≤ t.dep := by cases t <;> simp only [T.dep, Kd.depth] <;> omega
namespace Res
variable {α β : Type}
theorem plus_plus (a b : Nat) (r : Res α) : (r.plus a).plus b = r.plus (b + a) := by
  cases r <;> simp [plus, Nat.add_assoc]
theorem plus_zero (r : Res α) : r.plus 0 = r := by cases r <;> simp [plus]
theorem cnt_le (r : Res α) (f : α → Res β) : r.cnt ≤ (r.bind f).cnt := by
  cases r with
  | ok n a =>
    show n ≤ ((f a).plus n).cnt
    rw [cnt_plus]
    omega
  | stop n w p q => exact Nat.le_refl _
theorem bind_of {r : Res α} {n : Nat} {a : α} (e : r = .ok n a) (i : Int) (qs : List Int) (f : α → Res β) : (r.pre i qs).bind f = (f a).plus n := by rw [e]; rfl
theorem bind_st {r : Res α} {n : Nat} {w : Wd} {p q : List Int} (e : r = .stop n w p q) (i : Int) (qs : List Int) (f : α → Res β) : (r.pre i qs).bind f = .stop n w (i :: p) (qs ++ q) := by rw [e]; rfl
end Res
def IsOp : {k : Kd} → T k → Prop
  | _, .num _ => True
  | _, .yes => True
  | _, .no => True
  | _, .none _ => True
  | _, .op1 _ _ => True
  | _, .op2 _ _ _ => True
  | _, _ => False
def opSign (s : Str) : Prop := decide (V.str s = V.str "name") = false ∧ decide (V.str s = V.str "let") = false ∧ decide (V.str s = V.str "if") = false ∧ decide (V.str s = V.str "each") = false ∧ decide (V.str s = V.str "times") = false
instance (s : Str) : Decidable (opSign s) := by unfold opSign; infer_instance
/-- the parts' worths behind i turns, n pieces noted -/
def Prog (c : Addr → Prop) (H : Hp) (r : Env) : {k : Kd} → T k → Nat → List V → Nat → Prop
  | _, .op1 _ t, i, acc, n => (i = 0 ∧ acc = [] ∧ n = 0) ∨ (i = 1 ∧ ∃ v d, acc = [v] ∧ den t r = .ok n d ∧ RepW c H _ v d)
  | _, .op2 _ t u, i, acc, n => (i = 0 ∧ acc = [] ∧ n = 0) ∨ (i = 1 ∧ ∃ v d, acc = [v] ∧ den t r = .ok n d ∧ RepW c H _ v d) ∨
      (i = 2 ∧ ∃ v d v2 d2 n1 n2, acc = [v, v2] ∧ den t r = .ok n1 d ∧ den u r = .ok n2 d2 ∧ n = n1 + n2 ∧ RepW c H _ v d ∧ RepW c H _ v2 d2)
  | _, _, i, acc, n => i = 0 ∧ acc = [] ∧ n = 0
theorem Prog.zero {c : Addr → Prop} {H : Hp} {r : Env} {k : Kd} (t : T k) : Prog c H r t 0 [] 0 := by
  cases t with
  | op1 o t => exact .inl ⟨rfl, rfl, rfl⟩
  | op2 o t u => exact .inl ⟨rfl, rfl, rfl⟩
  | num => exact ⟨rfl, rfl, rfl⟩
  | yes => exact ⟨rfl, rfl, rfl⟩
  | no => exact ⟨rfl, rfl, rfl⟩
  | name => exact ⟨rfl, rfl, rfl⟩
  | none => exact ⟨rfl, rfl, rfl⟩
  | lt => exact ⟨rfl, rfl, rfl⟩
  | ite => exact ⟨rfl, rfl, rfl⟩
  | each => exact ⟨rfl, rfl, rfl⟩
  | times => exact ⟨rfl, rfl, rfl⟩
theorem Prog.mono {c : Addr → Prop} {H H' : Hp} {r : Env} {k : Kd} {t : T k} {i : Nat} {acc : List V} {n : Nat} (l : Lk c H H') (p : Prog c H r t i acc n) : Prog c H' r t i acc n := by
  cases t with
  | op1 o t =>
    rcases p with p | ⟨h, v, d, h1, h2, h3⟩
    · exact .inl p
    · exact .inr ⟨h, v, d, h1, h2, h3.mono l⟩
  | op2 o t u =>
    rcases p with p | ⟨h, v, d, h1, h2, h3⟩ | ⟨h, v, d, v2, d2, n1, n2, h1, h2, h3, h4, h5, h6⟩
    · exact .inl p
    · exact .inr (.inl ⟨h, v, d, h1, h2, h3.mono l⟩)
    · exact .inr (.inr ⟨h, v, d, v2, d2, n1, n2, h1, h2, h3, h4, h5.mono l, h6.mono l⟩)
  | num => exact p
  | yes => exact p
  | no => exact p
  | name => exact p
  | none => exact p
  | lt => exact p
  | ite => exact p
  | each => exact p
  | times => exact p
theorem Prog.len {c : Addr → Prop} {H : Hp} {r : Env} {k : Kd} {t : T k} {i : Nat} {acc : List V} {n : Nat} (p : Prog c H r t i acc n) : acc.length = i ∧ i ≤ 2 := by
  have z : (i = 0 ∧ acc = [] ∧ n = 0) → acc.length = i ∧ i ≤ 2 := fun ⟨h1, h2, _⟩ => by subst h1 h2; exact ⟨rfl, by decide⟩
  cases t with
  | op1 o t =>
    rcases p with p | ⟨h, v, d, h1, h2, h3⟩
    · exact z p
    · subst h h1
      exact ⟨rfl, by decide⟩
  | op2 o t u =>
    rcases p with p | ⟨h, v, d, h1, h2, h3⟩ | ⟨h, v, d, v2, d2, n1, n2, h1, h2, h3, h4, h5, h6⟩
    · exact z p
    · subst h h1
      exact ⟨rfl, by decide⟩
    · subst h h1
      exact ⟨rfl, by decide⟩
  | num => exact z p
  | yes => exact z p
  | no => exact z p
  | name => exact z p
  | none => exact z p
  | lt => exact z p
  | ite => exact z p
  | each => exact z p
  | times => exact z p
theorem Prog.step {c : Addr → Prop} {H : Hp} {r : Env} {k : Kd} {t : T k} (io : IsOp t) {i : Nat} {acc : List V} {n : Nat} (p : Prog c H r t i acc n) {s : TT2} (hs : t.kids[i]? = some s) :
    (∃ F : D s.1 → Res (D k), den t r = (((den s.2 r).pre (i : Int) []).bind F).plus n) ∧ ∀ d n' v, den s.2 r = .ok n' d → RepW c H s.1 v d → Prog c H r t (i + 1) (acc ++ [v]) (n + n') := by
  cases t with
  | op1 o t =>
    match i, hs with
    | 0, hs =>
      cases hs
      rcases p with ⟨_, rfl, rfl⟩ | ⟨h, _⟩
      · refine ⟨⟨fun d => .fin (sem1 o d), (Res.plus_zero _).symm⟩, fun d n' v e rv => .inr ⟨rfl, v, d, rfl, ?_, rv⟩⟩
        rw [Nat.zero_add]
        exact e
      · omega
  | op2 o t u =>
    match i, hs with
    | 0, hs =>
      cases hs
      rcases p with ⟨_, rfl, rfl⟩ | ⟨h, _⟩ | ⟨h, _⟩
      · refine ⟨⟨fun d => ((den u r).pre 1 []).bind fun e => .fin (sem2 o d e), (Res.plus_zero _).symm⟩, fun d n' v e rv => .inr (.inl ⟨rfl, v, d, rfl, ?_, rv⟩)⟩
        rw [Nat.zero_add]
        exact e
      · omega
      · omega
    | 1, hs =>
      cases hs
      rcases p with ⟨h, _⟩ | ⟨_, v, d, rfl, h2, h3⟩ | ⟨h, _⟩
      · omega
      · refine ⟨⟨fun e => .fin (sem2 o d e), ?_⟩, fun d2 n' v2 e rv => .inr (.inr ⟨rfl, v, d, v2, d2, n, n', rfl, h2, e, rfl, h3, rv⟩)⟩
        show ((den t r).pre 0 []).bind _ = _
        rw [Res.bind_of h2]
        rfl
      · omega
  | num => simp [T.kids] at hs
  | yes => simp [T.kids] at hs
  | no => simp [T.kids] at hs
  | none => simp [T.kids] at hs
  | name => exact io.elim
  | lt => exact io.elim
  | ite => exact io.elim
  | each => exact io.elim
  | times => exact io.elim
theorem sgn_op1 {a b : Kd} (o : O1 a b) : opSign o.str := o1_in o opSign (by decide +kernel)
theorem sgn_op2 {a b k : Kd} (o : O2 a b k) : opSign o.str := o2_in o opSign (by decide +kernel)
theorem Prog.fin {c : Addr → Prop} {H : Hp} {r : Env} {k : Kd} {t : T k} (io : IsOp t) {acc : List V} {n : Nat} {G : Ctx} (hs : Sc G t) (hf : FitE G r) (p : Prog c H r t t.kids.length acc n) {tv : V} {H0 : Hp} (ht : TreeAt H0 tv t) :
    ∃ p xs rr, tv = .ref p ∧ H0 p = some (.tup xs) ∧ OnceAt c H (k := k) xs acc rr ∧ den t r = (Res.fin rr).plus n := by
  cases t with
  | op1 o t =>
    obtain ⟨q, x, e, z, r1⟩ := ht
    rcases p with ⟨h, _⟩ | ⟨h, v, d, rfl, h2, h3⟩
    · exact absurd h (by show ¬ 1 = 0; decide)
    · refine ⟨q, _, _, e, z, .op1 o h3 (den_fit t (show Sc G t from hs) hf h2), ?_⟩
      show ((den t r).pre 0 []).bind _ = _
      rw [Res.bind_of h2]
  | op2 o t u =>
    obtain ⟨q, x, y, e, z, r1, r2⟩ := ht
    rcases p with ⟨h, _⟩ | ⟨h, _⟩ | ⟨h, v, d, v2, d2, n1, n2, rfl, h2, h3, rfl, h5, h6⟩
    · exact absurd h (by show ¬ 2 = 0; decide)
    · exact absurd h (by show ¬ 2 = 1; decide)
    · refine ⟨q, _, _, e, z, .op2 o h5 h6 (den_fit t hs.1 hf h2) (den_fit u hs.2 hf h3), ?_⟩
      show ((den t r).pre 0 []).bind _ = _
      rw [Res.bind_of h2]
      show (((den u r).pre 1 []).bind _).plus n1 = _
      rw [Res.bind_of h3, Res.plus_plus]
  | num m =>
    obtain ⟨q, e, z⟩ := ht
    obtain ⟨_, rfl, rfl⟩ := p
    exact ⟨q, _, _, e, z, .num m, rfl⟩
  | yes =>
    obtain ⟨q, e, z⟩ := ht
    obtain ⟨_, rfl, rfl⟩ := p
    exact ⟨q, _, _, e, z, .yes, rfl⟩
  | no =>
    obtain ⟨q, e, z⟩ := ht
    obtain ⟨_, rfl, rfl⟩ := p
    exact ⟨q, _, _, e, z, .no, rfl⟩
  | none a =>
    obtain ⟨q, y, e, z⟩ := ht
    obtain ⟨_, rfl, rfl⟩ := p
    exact ⟨q, _, _, e, z, .none a y, rfl⟩
  | name => exact io.elim
  | lt => exact io.elim
  | ite => exact io.elim
  | each => exact io.elim
  | times => exact io.elim
theorem op_sign {k : Kd} {t : T k} (io : IsOp t) {H : Hp} {v : V} (ht : TreeAt H v t) : ∃ p s r, v = .ref p ∧ H p = some (.tup (.str s :: r)) ∧ opSign s := by
  cases t with
  | op1 o t => obtain ⟨q, x, e, z, r1⟩ := ht; exact ⟨q, _, _, e, z, sgn_op1 o⟩
  | op2 o t u => obtain ⟨q, x, y, e, z, r1⟩ := ht; exact ⟨q, _, _, e, z, sgn_op2 o⟩
  | num m => obtain ⟨q, e, z⟩ := ht; exact ⟨q, _, _, e, z, by decide +kernel⟩
  | yes => obtain ⟨q, e, z⟩ := ht; exact ⟨q, _, _, e, z, by decide +kernel⟩
  | no => obtain ⟨q, e, z⟩ := ht; exact ⟨q, _, _, e, z, by decide +kernel⟩
  | none a => obtain ⟨q, y, e, z⟩ := ht; exact ⟨q, _, _, e, z, by decide +kernel⟩
  | name => exact io.elim
  | lt => exact io.elim
  | ite => exact io.elim
  | each => exact io.elim
  | times => exact io.elim
theorem kid_sc {k : Kd} {t : T k} (io : IsOp t) {G : Ctx} (h : Sc G t) {s : TT2} (hs : s ∈ t.kids) : Sc G s.2 := by
  cases t with
  | op1 o t =>
    cases (List.mem_singleton.mp hs)
    exact h
  | op2 o t u =>
    rcases List.mem_cons.mp hs with e | e
    · cases e
      exact h.1
    · cases (List.mem_singleton.mp e)
      exact h.2
  | num => exact absurd hs (by simp [T.kids])
  | yes => exact absurd hs (by simp [T.kids])
  | no => exact absurd hs (by simp [T.kids])
  | none => exact absurd hs (by simp [T.kids])
  | name => exact io.elim
  | lt => exact io.elim
  | ite => exact io.elim
  | each => exact io.elim
  | times => exact io.elim
theorem kid_dep {k : Kd} {t : T k} {s : TT2} (h : s ∈ t.kids) : s.2.dep ≤ t.dep := by
  cases t <;> simp only [T.kids, List.mem_cons, List.not_mem_nil, or_false] at h
  case op1 =>
    subst h
    simp only [T.dep]
    omega
  case op2 => rcases h with rfl | rfl <;> simp only [T.dep] <;> omega
  case lt => rcases h with rfl | rfl <;> simp only [T.dep] <;> omega
  case ite => rcases h with rfl | rfl | rfl <;> simp only [T.dep] <;> omega
  case each => rcases h with rfl | rfl <;> simp only [T.dep] <;> omega
  case times => rcases h with rfl | rfl | rfl <;> simp only [T.dep] <;> omega
end Br
/-! Reading.worth. -/
namespace Br
open PySem L2
open PySem.Spec PyProof.Rows
/-- what the top has written of Reading and Stopped, and what their __init__ promise -/
structure RX (P : Program) (w : World) (K : PySem.W.Frag) (mg : Str → Option Value) (base : Heap) (C CS : Addr) : Prop extends RT K mg C CS where
  pS : ∃ fS fdS, FnOk P w K mg base CX0 1 fS fdS p_S_init (spSInit CS) ∧ PySem.W.findIn K (.ref CS) "__init__" = some (some (.ref fS)) ∧ PySem.W.typeIn K (.ref fS) = some (.type "function") ∧ Binds K fdS p_S_init []
  pR : ∃ fR fdR, FnOk P w K mg base CX0 1 fR fdR p_R_init (spRInit P w C) ∧ Mk K C fR ∧ Binds K fdR p_R_init []
theorem RX.pmk {X : Cx} {C CS : Addr} {j : Nat} {e : Expr} {es : List Expr} {ta : TA} {p pos : Pos} (R : RX X.prog X.w X.K X.mg X.base C CS) (hr : Room j X.A) (hk : 2 ≤ j) (hg : Gl X "Stopped") (ha : PA X (e :: es) ta)
    (he : starEach (e :: es) X.env = (false, eval e X.env) :: starEach es X.env := by rfl) (hpl : (backTo pos (starEach es X.env)).any (·.1) = false := by rfl) :
    PMk X (.Call (.Name "Stopped" p) (e :: es) [] pos) (tMkO CS (spSInit CS) [] ta) := by
  obtain ⟨fS, fdS, F, iC, tI, b⟩ := R.pS
  exact pmk_oex R.oS iC tI F (hr.mono hk) b .nil pass0 hg R.gS ha (by decide) he hpl
theorem RX.mkR {X : Cx} {C CS : Addr} {j : Nat} {p pos : Pos} (R : RX X.prog X.w X.K X.mg X.base C CS) (hr : Room j X.A) (hk : 2 ≤ j) (hg : Gl X "Reading") :
    PE X (.Call (.Name "Reading" p) [] [] pos) (tMake C (spRInit X.prog X.w C) [] E0 tNil) := by
  obtain ⟨fR, fdR, F, M, b⟩ := R.pR
  exact pe_make0 M F (hr.mono hk) hg R.gR b .nil pass0
/-- worth's arguments -/
structure WAt (P : Program) (w : World) (C : Addr) (c : Addr → Prop) (H : Hp) (s m : Addr) {k : Kd} (t : T k) (G : Ctx) (r : Env) (tv pv dv uv rv : V) (pl tu ro : List Int) (j b n : Nat) : Prop where
  rd : RdAt P w C H s m j
  cm : c m
  av : Av c H
  tr : TreeAt H tv t
  ht : t.ht ≤ n
  sz : t.size ≤ 1000
  dp : t.dep ≤ 6
  sc : Sc G t
  fe : FitE G r
  en : EnvAt c H dv G r b
  bn : b + t.ht ≤ 1000
  pa : IntsAt H pv pl
  ta : IntsAt H uv tu
  ra : IntsAt H rv ro
  pn : pl.length + t.ht ≤ 1000
  tn : tu.length + t.ht ≤ 1000
  rn : ro.length + t.ht ≤ 1000
  cn : j + (den t r).cnt ≤ 16000000
def spW (P : Program) (w : World) (C CS : Addr) (sh : (k : Kd) → T k → Prop) (n : Nat) : Sp := fun vs H Q E => ∃ (c : Addr → Prop) (s m : Addr) (k : Kd) (t : T k) (G : Ctx) (r : Env) (tv pv dv uv rv : V) (pl tu ro : List Int) (j b : Nat),
  vs = [.ref s, tv, pv, dv, uv, rv] ∧ sh k t ∧ WAt P w C c H s m t G r tv pv dv uv rv pl tu ro j b n ∧
  (∀ i d v H', den t r = .ok i d → But m H H' → RdAt P w C H' s m (j + i) → RepW c H' k v d → Q v H') ∧
  (∀ i wd p q d H', den t r = .stop i wd p q → But m H H' → H d = none → StopAt H' d wd (pl ++ p) (tu ++ q) → E (.ref CS) (some d) H')
def anyT : (k : Kd) → T k → Prop := fun _ _ => True
def isIte : (k : Kd) → T k → Prop
  | _, .ite _ _ _ => True
  | _, _ => False
def isEach : (k : Kd) → T k → Prop
  | _, .each _ _ _ => True
  | _, _ => False
def isTimes : (k : Kd) → T k → Prop
  | _, .times _ _ _ _ => True
  | _, _ => False
theorem Av.but {c : Addr → Prop} {m : Addr} {H H' : Hp} (av : Av c H) (h : But m H H') (hm : NoT H' m) : Av c H' := fun a ha => by
  by_cases e : a = m
  · rw [e]
    exact hm
  · obtain ⟨⟨o, ho⟩, hn⟩ := av a ha
    exact ⟨⟨o, h.old a o e ho⟩, fun xs z => by
      rw [h.old a o e ho] at z
      exact hn xs (by rw [ho]; exact z)⟩
theorem lk_none {f : Str} {v : V} (h : (f == ("met" : Str)) = false) : List.lookup f [(("met" : Str), v)] = none := by simp only [List.lookup, h]
theorem MetAt.ext {P : Program} {w : World} {H : Hp} {m : Addr} {n : Nat} (h : MetAt P w H m n) : ∃ φ, H m = some (.ext φ) := by
  obtain ⟨L, h1, _⟩ := h
  exact ⟨_, h1⟩
theorem RdAt.ne_lst {P : Program} {w : World} {C : Addr} {H : Hp} {s m g : Addr} {n : Nat} {xs : List V} (h : RdAt P w C H s m n) (e : H g = some (.lst xs)) : g ≠ m := fun z => by
  obtain ⟨φ, h1⟩ := h.2.1.ext
  rw [z, h1] at e
  cases e
theorem RdAt.ne_dk {P : Program} {w : World} {C : Addr} {H : Hp} {s m g : Addr} {n : Nat} {xs : List (Key × V)} (h : RdAt P w C H s m n) (e : H g = some (.dK xs)) : g ≠ m := fun z => by
  obtain ⟨φ, h1⟩ := h.2.1.ext
  rw [z, h1] at e
  cases e
theorem RdAt.putg {P : Program} {w : World} {C : Addr} {H : Hp} {s m g : Addr} {n : Nat} {o : HO} (h : RdAt P w C H s m n) (n1 : g ≠ m) (n2 : g ≠ s) (n3 : ∀ xs, H g ≠ some (.tup xs)) : RdAt P w C (upd H g o) s m n := by
  obtain ⟨⟨dx, h1⟩, h2, h3⟩ := h
  refine ⟨⟨dx, by rw [upd_ne (Ne.symm n2)]; exact h1⟩, h2.mono (by rw [upd_ne (Ne.symm n1)]) (fun b xs e => ?_) (Nat.le_refl _), h3⟩
  rw [upd_ne (fun z => n3 xs (by rw [← z]; exact e))]
  exact e
theorem RdAt.put {P : Program} {w : World} {C : Addr} {H : Hp} {s m g : Addr} {n : Nat} {xs : List V} {o : HO} (h : RdAt P w C H s m n) (e : H g = some (.lst xs)) : RdAt P w C (upd H g o) s m n := h.putg (h.ne_lst e) (fun z => by
  obtain ⟨dx, h1⟩ := h.1
  rw [z, h1] at e
  cases e) (fun xs z => by rw [e] at z; cases z)
theorem RdAt.put_dk {P : Program} {w : World} {C : Addr} {H : Hp} {s m g : Addr} {n : Nat} {xs : List (Key × V)} {o : HO} (h : RdAt P w C H s m n) (e : H g = some (.dK xs)) : RdAt P w C (upd H g o) s m n := h.putg (h.ne_dk e) (fun z => by
  obtain ⟨dx, h1⟩ := h.1
  rw [z, h1] at e
  cases e) (fun xs z => by rw [e] at z; cases z)
/-- a place and a number more -/
theorem cat_one {K : PySem.W.Frag} {H : Hp} {x : V} {l : List Int} {i : Int} {Q : VK} (h : IntsAt H x l) (hl : l.length ≤ 1000) (q : ∀ v H', Kp H H' → IntsAt H' v (l ++ [i]) → Q v H') :
    1 ≤ sizeLine ∧ ∀ p, H p = none → rCatA K x (.ref p) (upd H p (.tup [.int i])) Q := by
  refine ⟨by decide, fun p hp => ?_⟩
  obtain ⟨a, rfl, ha⟩ := h
  have ha' := Kp.new (o := .tup [.int i]) hp _ _ ha
  refine ⟨a, p, _, _, rfl, rfl, SqT.of ha', SqT.of upd_same, line_le (by rw [List.length_map]; show l.length + 1 ≤ _; omega), fun e => ?_, fun _ e => absurd e (by simp), fun _ _ b hb => ?_⟩
  · have e2 : l = [] := List.map_eq_nil_iff.mp e
    subst e2
    exact q _ _ (Kp.new hp) ⟨p, rfl, upd_same⟩
  · refine q _ _ ((Kp.new hp).trans (Kp.new hb)) ⟨b, rfl, ?_⟩
    rw [upd_same, List.map_append]
    rfl
theorem OnceAt.mono {c : Addr → Prop} {H H' : Hp} (l : Lk c H H') {k : Kd} {xs ws : List V} {r : Except Wd (D k)} (o : OnceAt c H xs ws r) : OnceAt c H' xs ws r := by
  cases o with
  | num n => exact .num n
  | yes => exact .yes
  | no => exact .no
  | none a z => exact .none a z
  | op1 o rx fx => exact .op1 o (rx.mono l) fx
  | op2 o rx ry fx fy => exact .op2 o (rx.mono l) (ry.mono l) fx fy
/-- raise Stopped(word, place, turns) -/
theorem stop_made {P : Program} {w : World} {C CS s m : Addr} {H H1 : Hp} {wd : Wd} {pv uv : V} {pl tu : List Int} {E : XK} {j : Nat} (b : But m H H1) (rd : RdAt P w C H1 s m j) (ip : IntsAt H1 pv pl) (it : IntsAt H1 uv tu)
    (q : ∀ d H', But m H H' → H d = none → StopAt H' d wd pl tu → E (.ref CS) (some d) H') :
    [V.str wd.str, pv, uv].length ≤ 1000 ∧ ∀ a, H1 a = none → spSInit CS (.ref a :: ([V.str wd.str, pv, uv] ++ [])) (upd H1 a (exo a CS none))
      (fun v H2 => v = .non ∧ ∃ (d : Addr) (fs : List (Str × V)), H2 a = some (exo a CS (some d)) ∧ H2 d = some (exd d fs) ∧ H1 d = none ∧ E (.ref CS) (some d) (upd (del H2 a) d (.xd fs))) (fun _ _ _ => False) := by
  refine ⟨by show 3 ≤ 1000; decide, fun a ha => ⟨a, _, _, _, rfl, upd_same, fun d H' hd nd old hx hdx => ⟨rfl, d, _, hx, hdx, ?_, ?_⟩⟩⟩
  · rw [upd_ne nd] at hd
    exact hd
  · have hd1 : H1 d = none := by
      rw [upd_ne nd] at hd
      exact hd
    have same : ∀ b o, H1 b = some o → upd (del H' a) d (.xd [("turns", uv), ("place", pv), ("word", .str wd.str)]) b = some o := fun b o hb => by
      have n1 := ne_of_none hb ha
      rw [upd_ne (ne_of_none hb hd1), del_ne n1]
      exact old b o n1 (by rw [upd_ne n1]; exact hb)
    have kp : Kp H1 (upd (del H' a) d (.xd [("turns", uv), ("place", pv), ("word", .str wd.str)])) := same
    refine q d _ (b.trans kp.but) (b.free hd1) ⟨_, pv, uv, upd_same, ?_, ?_, ?_, ip.mono kp.tk, it.mono kp.tk⟩
    · simp only [List.lookup, show (("word" : Str) == ("turns" : Str)) = false by decide +kernel, show (("word" : Str) == ("place" : Str)) = false by decide +kernel, beq_self_eq_true]
    · simp only [List.lookup, show (("place" : Str) == ("turns" : Str)) = false by decide +kernel, beq_self_eq_true]
    · simp only [List.lookup, beq_self_eq_true]
section
variable {P : Program} {w : World} {K : PySem.W.Frag} {mg : Str → Option Value} {base : Heap} {aC aB f C CS : Addr} {fd : FuncData}
set_option maxHeartbeats 1000000 in
theorem fn_R_worth (T : Tp K mg aC aB) (R : RX P w K mg base C CS) (F : MAt K C "worth" "Reading.worth" s_R_worth p_R_worth f fd) {n k0 : Nat} (hk0 : 10 ≤ k0) (c_parts : Fn P w K mg base 1 "parts" spParts) (c_done_once : Fn P w K mg base 5 "done_once" spOnce)
    (c_width_of : Fn P w K mg base 7 "width_of" spWidth) (c_note : Mn P w K mg base CX0 C 1 "note" (spNote P w C)) (c_worth : Mn P w K mg base (L2.CX P w) C k0 "worth" (spW P w C CS anyT n))
    (c_arm : Mn P w K mg base (L2.CX P w) C k0 "arm" (spW P w C CS isIte (n + 1))) (c_things : Mn P w K mg base (L2.CX P w) C k0 "things" (spW P w C CS isEach (n + 1))) (c_turned : Mn P w K mg base (L2.CX P w) C k0 "turned" (spW P w C CS isTimes (n + 1))) :
    Mn P w K mg base (L2.CX P w) C (k0 + 1) "worth" (spW P w C CS anyT (n + 1)) := by
  refine mn_byX F sc_R_worth ?_ (fun cdv A outer s0 H vs Q E hr h => ?_)
  · rintro vs H Q E ⟨c, s, m, k, t, G, r, tv, qv, dv, uv, rv, pl, tu, ro, j, b, rfl, _⟩
    rfl
  obtain ⟨c, s, m, k, t, G, r, tv, qv, dv, uv, rv, pl, tu, ro, j, b, rfl, -, a, qok, qst⟩ := h
  refine ⟨_, (pss_cons (ps_set (i := 6) sc_R_worth.nd rfl (by first | exact Or.inl rfl | exact Or.inr rfl) (pe_ix (k_ixt K rfl) (pv 1) (pe_int) (fun _ _ => rfl)))
  (pss_cons (ps_if (pt_cmpR op_eq (pv 6) (pe_str) (nomark _)) (pss_one (ps_ret (pe_dget (hu_of hr) (pv 3) (pe_ix (k_ixt K rfl) (pv 1) (pe_int) (fun _ _ => rfl)) (fun _ _ => rfl)))) pss_nil)
  (pss_cons (ps_if (pt_cmpR op_eq (pv 6) (pe_str) (nomark _)) (pss_cons (ps_set (i := 7) sc_R_worth.nd rfl (by first | exact Or.inl rfl | exact Or.inr rfl) (pe_callTy cr_dictOf (by rfl) T.dict (by decide +kernel) (pa_cons (pv 3) pa_nil)))
  (pss_cons (ps_dput (hu_of hr) (pv 7) (pe_ix (k_ixt K rfl) (pv 1) (pe_int) (fun _ _ => rfl)) (pe_mnX (pv 0) rfl R.cl c_worth hr (by omega) (takes_of rfl rfl rfl rfl) (pa_cons (pe_ix (k_ixt K rfl) (pv 1) (pe_int) (fun _ _ => rfl)) (pa_cons (pe_op (k_cat K rfl) (pv 2) (pe_tup (pa_cons (pe_int) pa_nil))) (pa_cons (pv 3) (pa_cons (pv 4) (pa_cons (pv 5) pa_nil)))))) rfl)
  (pss_one (ps_ret (pe_mnX (pv 0) rfl R.cl c_worth hr (by omega) (takes_of rfl rfl rfl rfl) (pa_cons (pe_ix (k_ixt K rfl) (pv 1) (pe_int) (fun _ _ => rfl)) (pa_cons (pe_op (k_cat K rfl) (pv 2) (pe_tup (pa_cons (pe_int) pa_nil))) (pa_cons (pv 7) (pa_cons (pv 4) (pa_cons (pv 5) pa_nil)))))))))) pss_nil)
  (pss_cons (ps_if (pt_cmpR op_eq (pv 6) (pe_str) (nomark _)) (pss_one (ps_ret (pe_mnX (pv 0) rfl R.cl c_arm hr (by omega) (takes_of rfl rfl rfl rfl) (pa_cons (pv 1) (pa_cons (pv 2) (pa_cons (pv 3) (pa_cons (pv 4) (pa_cons (pv 5) pa_nil)))))))) pss_nil)
  (pss_cons (ps_if (pt_cmpR op_eq (pv 6) (pe_str) (nomark _)) (pss_one (ps_ret (pe_mnX (pv 0) rfl R.cl c_things hr (by omega) (takes_of rfl rfl rfl rfl) (pa_cons (pv 1) (pa_cons (pv 2) (pa_cons (pv 3) (pa_cons (pv 4) (pa_cons (pv 5) pa_nil)))))))) pss_nil)
  (pss_cons (ps_if (pt_cmpR op_eq (pv 6) (pe_str) (nomark _)) (pss_one (ps_ret (pe_mnX (pv 0) rfl R.cl c_turned hr (by omega) (takes_of rfl rfl rfl rfl) (pa_cons (pv 1) (pa_cons (pv 2) (pa_cons (pv 3) (pa_cons (pv 4) (pa_cons (pv 5) pa_nil)))))))) pss_nil)
  (pss_cons (ps_set (i := 8) sc_R_worth.nd rfl (by first | exact Or.inl rfl | exact Or.inr rfl) (pe_lst pa_nil))
  (pss_cons (ps_for (passes_of rfl) rfl (k_enumT K rfl (by rfl) T.enumerate (pa_cons (pe_fn c_parts hr (by omega) (by rfl) (pa_cons (pv 1) pa_nil)) pa_nil)) (k_gtup K rfl (n := 2) rfl (pgs_cons (pg_name (i := 9) sc_R_worth.nd rfl (by first | exact Or.inl rfl | exact Or.inr rfl)) (pgs_cons (pg_name (i := 10) sc_R_worth.nd rfl (by first | exact Or.inl rfl | exact Or.inr rfl)) pgs_nil))) (pss_one (ps_expr (k_bm K rfl PySem.F.plainAttrs_list PySem.F.slot_list_append PySem.F.type_list_append mt_append (pv 8) (pa_cons (pe_mnX (pv 0) rfl R.cl c_worth hr (by omega) (takes_of rfl rfl rfl rfl) (pa_cons (pv 10) (pa_cons (pe_op (k_cat K rfl) (pv 2) (pe_tup (pa_cons (pv 9) pa_nil))) (pa_cons (pv 3) (pa_cons (pv 4) (pa_cons (pv 5) pa_nil)))))) pa_nil)))))
  (pss_cons (ps_asg (pe_fn c_done_once hr (by omega) (by rfl) (pa_cons (pv 1) (pa_cons (pv 8) pa_nil))) (k_gtup K rfl (n := 2) rfl (pgs_cons (pg_name (i := 11) sc_R_worth.nd rfl (by first | exact Or.inl rfl | exact Or.inr rfl)) (pgs_cons (pg_name (i := 12) sc_R_worth.nd rfl (by first | exact Or.inl rfl | exact Or.inr rfl)) pgs_nil))))
  (pss_cons (ps_if (pt_cmpR op_notN (pv 12) (pe_non) (nomark _)) (pss_one (ps_raise rfl (takes_of rfl rfl rfl rfl) (R.pmk hr (by omega) (by rfl) (pa_cons (pv 12) (pa_cons (pv 2) (pa_cons (pv 4) pa_nil)))))) pss_nil)
  (pss_cons (ps_expr (pe_mn (pv 0) rfl R.cl c_note hr (by omega) (pa_cons (pv 2) (pa_cons (pv 5) (pa_cons (pe_fn c_width_of hr (by omega) (by rfl) (pa_cons (pv 1) (pa_cons (pv 8) (pa_cons (pv 11) pa_nil)))) pa_nil)))))
  (pss_one (ps_ret (pv 11)))))))))))))), ?_⟩
  have lW : List.lookup ("worth" : Str) [(("met" : Str), V.ref m)] = none := lk_none (by decide +kernel)
  have lN : List.lookup ("note" : Str) [(("met" : Str), V.ref m)] = none := lk_none (by decide +kernel)
  by_cases io : IsOp t
  · obtain ⟨p, sg, rest, rfl, hp, os⟩ := op_sign io a.tr
    refine ⟨_, rfl, _, _, _, _, rfl, rfl, SqT.of hp, atI_zero, ?_⟩
    refine ⟨_, rfl, rfl, _, rfl, itF os.1 ?_⟩
    refine ⟨_, rfl, rfl, _, rfl, itF os.2.1 ?_⟩
    refine ⟨_, rfl, rfl, _, rfl, itF os.2.2.1 ?_⟩
    refine ⟨_, rfl, rfl, _, rfl, itF os.2.2.2.1 ?_⟩
    refine ⟨_, rfl, rfl, _, rfl, itF os.2.2.2.2 ?_⟩
    refine ⟨by show 0 ≤ sizeLine; decide, fun g hg => ?_⟩
    refine ⟨_, rfl, k, t, .ref p, rfl, a.tr.mono (Kp.new hg).tk, fun q cs H1 k1 hq kk => ⟨q, cs, rfl, SqT.of hq, for_enumT (K := K) (a := q) (xs := cs)
      (fun i σ H' => (∃ v9 v10, σ = [some (.ref s), some (.ref p), some qv, some dv, some uv, some rv, some (.str sg), none, some (.ref g), v9, v10, none, none]) ∧
        ∃ acc n, But m H H' ∧ RdAt P w C H' s m (j + n) ∧ H' g = some (.lst acc) ∧ Prog (fun a => c a ∨ a = g) H' r t i acc n ∧ Tk H1 H')
      ⟨⟨none, none, rfl⟩, [], 0, ((Kp.new hg).trans k1).but, a.rd.kp ((Kp.new hg).trans k1), k1 _ _ upd_same, Prog.zero t, fun _ _ z => z⟩ (fun i σ H' _ pv => ?_) ?_ ?_⟩⟩
    · obtain ⟨_, acc, n, _, _, _, _, tk⟩ := pv
      exact SqT.of (tk _ _ hq)
    · rintro i y tt σ H' hi ⟨⟨v9, v10, rfl⟩, acc, n', bt, rd, hgl, pg, tk⟩ ntt
      obtain ⟨s1, hs1, r1⟩ := Paired.at kk hi
      have mem1 := List.mem_of_getElem? hs1
      have z1 := kid_ht mem1
      have z2 := kid_size mem1
      have z3 := kid_dep mem1
      have z4 := Prog.len pg
      obtain ⟨⟨FF, hF⟩, hstep⟩ := Prog.step io pg hs1
      have cnt1 : n' + (den s1.2 r).cnt ≤ (den t r).cnt := by
        have u1 := Res.cnt_le ((den s1.2 r).pre (i : Int) []) FF
        rw [hF, Res.cnt_plus]
        rw [Res.cnt_pre] at u1
        omega
      have cn := a.cn
      refine ⟨tt, _, rfl, SqT.of upd_same, rfl, _, _, rfl, _, _, rfl, rfl, ?_⟩
      have kt : Kp H' (upd H' tt (.tup [.int (i : Nat), y])) := Kp.new ntt
      have hgl2 := kt _ _ hgl
      have rd2 := rd.kp kt
      obtain ⟨dx, hs⟩ := rd2.1
      refine ⟨_, rfl, .inl ⟨rfl, _, SqL.of hgl2⟩, _, rfl, s, dx, _, rfl, hs, lW, _, rfl, _, rfl, _, rfl, cat_one ((a.pa.mono bt.tk).mono kt.tk) (by have := a.pn; omega) fun pv' H3 k3 ip3 => ⟨_, rfl, _, rfl, _, rfl, ?_⟩⟩
      have bt3 : But m H H3 := bt.trans (kt.trans k3).but
      have rd3 := rd2.kp k3
      have av3 : Av (fun a => c a ∨ a = g) H3 := (a.av.but bt3 rd3.not).more (NoT.of (k3 _ _ hgl2) (fun _ z => nomatch z))
      refine ⟨(fun a => c a ∨ a = g), s, m, s1.1, s1.2, G, r, y, pv', dv, uv, rv, pl ++ [(i : Int)], tu, ro, j + n', b, rfl, trivial, ?_, ?_, ?_⟩
      · exact { rd := rd3, cm := .inl a.cm, av := av3, tr := r1.mono ((k1.tk.trans tk).trans (kt.trans k3).tk), ht := by have := a.ht; omega, sz := by have := a.sz; omega, dp := by have := a.dp; omega, sc := kid_sc io a.sc mem1, fe := a.fe,
                en := (a.en.more hg).mono bt3 (.inl a.cm), bn := by have := a.bn; omega, pa := ip3, ta := a.ta.mono bt3.tk, ra := a.ra.mono bt3.tk, pn := by have := a.pn; rw [List.length_append]; show pl.length + 1 + _ ≤ _; omega,
                tn := by have := a.tn; omega, rn := by have := a.rn; omega, cn := by omega }
      · intro i2 d v H4 ed b4 rd4 rv4
        have hg4 : H4 g = some (.lst acc) := b4.old _ _ (rd.ne_lst hgl) (k3 _ _ hgl2)
        have lk : Lk (fun a => c a ∨ a = g) H4 (upd H4 g (.lst (acc ++ [v]))) := Lk.at (.inr rfl) (NoT.of hg4 (fun _ z => nomatch z))
        have lk' : Lk (fun a => c a ∨ a = g) H' H4 := (kt.trans k3).lk.trans (b4.lk (.inl a.cm))
        refine ⟨g, acc, v, rfl, rfl, hg4, line_lt (by omega), ⟨_, _, rfl⟩, acc ++ [v], n' + i2, (bt3.trans b4).put hg, ?_, upd_same, ?_, ?_⟩
        · rw [← Nat.add_assoc]
          exact rd4.put hg4
        · exact ((Prog.step io (pg.mono lk') hs1).2 d i2 v ed rv4).mono lk
        · exact (tk.trans (kt.trans k3).tk).trans (b4.tk.trans lk.tk)
      · intro i2 wd p2 q2 d H4 ed b4 hd st
        refine qst (n' + i2) wd ((i : Int) :: p2) q2 d H4 ?_ (bt3.trans b4) (bt3.free hd) ?_
        · rw [hF, Res.bind_st ed]
          rfl
        · rw [List.append_assoc] at st
          exact st
    · rintro σ H' ⟨⟨v9, v10, rfl⟩, acc, n', bt, rd, hgl, pg, tk⟩
      rw [Paired.len kk] at pg
      have lc : Lk (fun a => c a ∨ a = g) H' H' := Lk.refl
      obtain ⟨p', xs, rr, e1, e2, oa, eden⟩ := Prog.fin io a.sc a.fe pg (a.tr.mono bt.tk)
      obtain rfl : p = p' := V.ref.inj e1
      have av1 : Av (fun a => c a ∨ a = g) H' := (a.av.but bt rd.not).more (NoT.of hgl (fun _ z => nomatch z))
      refine ⟨_, rfl, _, rfl, (fun a => c a ∨ a = g), p, g, xs, acc, k, rr, rfl, av1, e2, hgl, oa, fun v H2 k2 o => ?_⟩
      have bt2 : But m H H2 := bt.trans k2.but
      have rd2 := rd.kp k2
      cases rr with
      | error wd =>
        obtain ⟨b1, z, rfl, hb1⟩ := o
        refine ⟨b1, _, rfl, SqT.of hb1, rfl, _, _, rfl, _, _, rfl, rfl, ?_⟩
        refine ⟨_, rfl, rfl, _, rfl, itT rfl ?_⟩
        refine ⟨_, rfl, _, rfl, _, rfl, ?_⟩
        refine stop_made bt2 rd2 (a.pa.mono bt2.tk) (a.ta.mono bt2.tk) fun d H3 b3 hd st => ?_
        refine qst n' wd [] [] d H3 eden b3 hd ?_
        rw [List.append_nil, List.append_nil]
        exact st
      | ok d =>
        obtain ⟨b1, z, rfl, hb1, rz⟩ := o
        have eden' : den t r = .ok (n' + 1) d := eden
        have fz := den_fit t a.sc a.fe eden'
        have cn := a.cn
        have cnt1 : (den t r).cnt = n' + 1 := by rw [eden']; rfl
        refine ⟨b1, _, rfl, SqT.of hb1, rfl, _, _, rfl, _, _, rfl, rfl, ?_⟩
        refine ⟨_, rfl, rfl, _, rfl, itF rfl ?_⟩
        obtain ⟨dx, hs⟩ := rd2.1
        refine ⟨_, rfl, s, dx, _, rfl, hs, lN, _, rfl, _, rfl, _, rfl, _, rfl, _, rfl, ?_⟩
        refine ⟨(fun a => c a ∨ a = g), p, g, xs, acc, k, _, d, z, rfl, k2 _ _ e2, k2 _ _ hgl, oa.mono k2.lk, rz, fz, Nat.le_trans t.dep_k a.dp, fun mm H3 k3 => ?_⟩
        refine ⟨s, m, j + n', qv, rv, pl, ro, mm, rfl, rd2.kp k3, (a.pa.mono bt2.tk).mono k3.tk, (a.ra.mono bt2.tk).mono k3.tk, by omega, fun H4 b4 rd4 => ?_⟩
        refine ⟨_, rfl, qok (n' + 1) d z H4 eden' ((bt2.trans k3.but).trans b4) rd4 ?_⟩
        exact ((rz.mono k3.lk).mono (b4.lk (.inl a.cm))).less
  · cases t with
    | num => exact absurd trivial io
    | yes => exact absurd trivial io
    | no => exact absurd trivial io
    | none => exact absurd trivial io
    | op1 => exact absurd trivial io
    | op2 => exact absurd trivial io
    | name k x =>
      obtain ⟨p, rfl, hp⟩ := a.tr
      refine ⟨_, rfl, _, _, _, _, rfl, rfl, SqT.of hp, atI_zero, ?_⟩
      refine ⟨_, rfl, rfl, _, rfl, itT (by decide +kernel) ?_⟩
      obtain ⟨d, kvs, rfl, hd, nd, ek⟩ := a.en
      obtain ⟨v, hv, rv'⟩ := ek.get x k a.sc
      refine ⟨_, rfl, _, rfl, _, _, _, _, rfl, rfl, SqT.of hp, atI_one, d, v, rfl, ?_, qok 0 (r k x) v H rfl But.refl a.rd rv'⟩
      have := DGet.k (k := Sum.inr x) hd
      rw [hv] at this
      exact this
    | ite c0 t1 u1 =>
      obtain ⟨p, x0, x1, x2, rfl, hp, _⟩ := id a.tr
      refine ⟨_, rfl, _, _, _, _, rfl, rfl, SqT.of hp, atI_zero, ?_⟩
      refine ⟨_, rfl, rfl, _, rfl, itF (by decide +kernel) ?_⟩
      refine ⟨_, rfl, rfl, _, rfl, itF (by decide +kernel) ?_⟩
      refine ⟨_, rfl, rfl, _, rfl, itT (by decide +kernel) ?_⟩
      obtain ⟨dx, hs⟩ := a.rd.1
      exact ⟨_, rfl, s, dx, _, rfl, hs, lk_none (by decide +kernel), _, rfl, _, rfl, _, rfl, _, rfl, _, rfl, c, s, m, _, .ite c0 t1 u1, G, r, _, _, _, _, _, pl, tu, ro, j, b, rfl, trivial, a, qok, qst⟩ 
    | each x t1 u1 =>
      obtain ⟨p, x1, x2, rfl, hp, _⟩ := id a.tr
      refine ⟨_, rfl, _, _, _, _, rfl, rfl, SqT.of hp, atI_zero, ?_⟩
      refine ⟨_, rfl, rfl, _, rfl, itF (by decide +kernel) ?_⟩
      refine ⟨_, rfl, rfl, _, rfl, itF (by decide +kernel) ?_⟩
      refine ⟨_, rfl, rfl, _, rfl, itF (by decide +kernel) ?_⟩
      refine ⟨_, rfl, rfl, _, rfl, itT (by decide +kernel) ?_⟩
      obtain ⟨dx, hs⟩ := a.rd.1
      exact ⟨_, rfl, s, dx, _, rfl, hs, lk_none (by decide +kernel), _, rfl, _, rfl, _, rfl, _, rfl, _, rfl, c, s, m, _, .each x t1 u1, G, r, _, _, _, _, _, pl, tu, ro, j, b, rfl, trivial, a, qok, qst⟩ 
    | times x m1 t1 u1 =>
      obtain ⟨p, x1, x2, x3, rfl, hp, _⟩ := id a.tr
      refine ⟨_, rfl, _, _, _, _, rfl, rfl, SqT.of hp, atI_zero, ?_⟩
      refine ⟨_, rfl, rfl, _, rfl, itF (by decide +kernel) ?_⟩
      refine ⟨_, rfl, rfl, _, rfl, itF (by decide +kernel) ?_⟩
      refine ⟨_, rfl, rfl, _, rfl, itF (by decide +kernel) ?_⟩
      refine ⟨_, rfl, rfl, _, rfl, itF (by decide +kernel) ?_⟩
      refine ⟨_, rfl, rfl, _, rfl, itT (by decide +kernel) ?_⟩
      obtain ⟨dx, hs⟩ := a.rd.1
      exact ⟨_, rfl, s, dx, _, rfl, hs, lk_none (by decide +kernel), _, rfl, _, rfl, _, rfl, _, rfl, _, rfl, c, s, m, _, .times x m1 t1 u1, G, r, _, _, _, _, _, pl, tu, ro, j, b, rfl, trivial, a, qok, qst⟩ 
    | lt x t1 u1 =>
      rename_i a0
      obtain ⟨p, x1, x2, rfl, hp, r1, r2⟩ := id a.tr
      refine ⟨_, rfl, _, _, _, _, rfl, rfl, SqT.of hp, atI_zero, ?_⟩
      refine ⟨_, rfl, rfl, _, rfl, itF (by decide +kernel) ?_⟩
      refine ⟨_, rfl, rfl, _, rfl, itT (by decide +kernel) ?_⟩
      obtain ⟨d, kvs, rfl, hd, nd, ek⟩ := id a.en
      have ht0 : max t1.ht u1.ht + 1 ≤ n + 1 := a.ht
      have sz0 : 1 + (t1.size + u1.size) ≤ 1000 := a.sz
      have dp0 : max k.depth (max t1.dep u1.dep) ≤ 6 := a.dp
      have bn0 : b + (max t1.ht u1.ht + 1) ≤ 1000 := a.bn
      have pn0 : pl.length + (max t1.ht u1.ht + 1) ≤ 1000 := a.pn
      have tn0 : tu.length + (max t1.ht u1.ht + 1) ≤ 1000 := a.tn
      have rn0 : ro.length + (max t1.ht u1.ht + 1) ≤ 1000 := a.rn
      have eden : den (.lt x t1 u1) r = ((den t1 r).pre 0 []).bind fun d => (den u1 (r.put x d)).pre 1 [] := rfl
      have cn := a.cn
      have u1c := Res.cnt_le ((den t1 r).pre 0 []) (fun d => (den u1 (r.put x d)).pre 1 [])
      rw [Res.cnt_pre, ← eden] at u1c
      have ekl := ek.len
      -- inner = dict(names)
      refine ⟨_, rfl, d, kvs, rfl, hd, fun g hg => ?_⟩
      have kg : Kp H (upd H g (.dK kvs)) := Kp.new hg
      obtain ⟨dx, hs⟩ := (a.rd.kp kg).1
      refine ⟨_, rfl, s, dx, _, rfl, hs, lW, _, rfl, _, _, _, _, rfl, rfl, SqT.of (kg _ _ hp), atI_two, _, rfl, cat_one (a.pa.mono kg.tk) (by omega) fun pv' H3 k3 ip3 => ⟨_, rfl, _, rfl, _, rfl, ?_⟩⟩
      have k03 := kg.trans k3
      have rd3 := a.rd.kp k03
      refine ⟨c, s, m, _, t1, G, r, x1, pv', _, uv, rv, pl ++ [0], tu, ro, j, b, rfl, trivial, ?_, ?_, ?_⟩
      · exact { rd := rd3, cm := a.cm, av := a.av.kp k03, tr := r1.mono k03.tk, ht := by omega, sz := by omega, dp := by omega, sc := a.sc.1, fe := a.fe, en := a.en.kp k03, bn := by omega, pa := ip3, ta := a.ta.mono k03.tk, ra := a.ra.mono k03.tk,
                pn := by rw [List.length_append]; show pl.length + 1 + _ ≤ _; omega, tn := by omega, rn := by omega, cn := by omega }
      · intro i1 dv1 v H4 ed b4 rd4 rv4
        have b04 : But m H H4 := k03.but.trans b4
        have hg4 : H4 g = some (.dK kvs) := b4.old _ _ (rd3.ne_dk (k3 _ _ upd_same)) (k3 _ _ upd_same)
        refine ⟨_, rfl, _, rfl, _, _, _, _, rfl, rfl, SqT.of (b04.tup _ _ hp), atI_one, g, _, rfl, DPut.k (k := Sum.inr x) hg4 (line_lt (by omega)), ?_⟩
        have b05 : But m H (upd H4 g (.dK (putK kvs (Sum.inr x) v))) := b04.put hg
        have lk5 : Lk c H4 (upd H4 g (.dK (putK kvs (Sum.inr x) v))) := Lk.dk hg4
        have rd5 := rd4.put_dk (o := .dK (putK kvs (Sum.inr x) v)) hg4
        have eq2 : den (.lt x t1 u1) r = ((den u1 (r.put x dv1)).pre 1 []).plus i1 := by rw [eden, Res.bind_of ed]
        have cnt2 : (den (.lt x t1 u1) r).cnt = i1 + (den u1 (r.put x dv1)).cnt := by rw [eq2, Res.cnt_plus, Res.cnt_pre]
        obtain ⟨dx5, hs5⟩ := rd5.1
        refine ⟨_, rfl, s, dx5, _, rfl, hs5, lW, _, rfl, _, _, _, _, rfl, rfl, SqT.of (b05.tup _ _ hp), atI_three, _, rfl, cat_one (a.pa.mono b05.tk) (by omega) fun pv6 H6 k6 ip6 => ⟨_, rfl, _, rfl, _, rfl, ?_⟩⟩
        have b06 := b05.trans k6.but (c := m)
        have rd6 := rd5.kp k6
        have fv : Fit a0 dv1 := den_fit t1 a.sc.1 a.fe ed
        refine ⟨c, s, m, _, u1, G.put x a0, r.put x dv1, x2, pv6, _, uv, rv, pl ++ [1], tu, ro, j + i1, b + 1, rfl, trivial, ?_, ?_, ?_⟩
        · exact { rd := rd6, cm := a.cm, av := a.av.but b06 rd6.not, tr := r2.mono b06.tk, ht := by omega, sz := by omega, dp := by omega, sc := a.sc.2, fe := a.fe.put x fv,
                  en := ⟨g, _, rfl, k6 _ _ upd_same, a.av.new hg, ((ek.mono (b04.lk a.cm)).put x rv4 (by have := t1.dep_k; omega) fv).mono (lk5.trans k6.lk)⟩, bn := by omega, pa := ip6, ta := a.ta.mono b06.tk, ra := a.ra.mono b06.tk,
                  pn := by rw [List.length_append]; show pl.length + 1 + _ ≤ _; omega, tn := by omega, rn := by omega, cn := by omega }
        · intro i2 dv2 v2 H7 ed2 b7 rd7 rv7
          refine qok (i1 + i2) dv2 v2 H7 ?_ (b06.trans b7) ?_ rv7
          · rw [eq2, ed2]
            rfl
          · rw [← Nat.add_assoc]
            exact rd7
        · intro i2 wd p2 q2 d2 H7 ed2 b7 hd2 st
          refine qst (i1 + i2) wd (1 :: p2) q2 d2 H7 ?_ (b06.trans b7) (b06.free hd2) ?_
          · rw [eq2, ed2]
            rfl
          · rw [List.append_assoc] at st
            exact st
      · intro i1 wd p2 q2 d2 H4 ed b4 hd2 st
        refine qst i1 wd (0 :: p2) q2 d2 H4 ?_ (k03.but.trans b4) (k03.free hd2) ?_
        · rw [eden, Res.bind_st ed]
          rfl
        · rw [List.append_assoc] at st
          exact st
end
end Br
/-! Reading.arm. -/
namespace Br
open PySem L2
open PySem.Spec PyProof.Rows
theorem valV_mem {kvs : List (Key × V)} {k : Key} {v : V} (h : valV kvs k = some v) : ∃ p ∈ kvs, p.2 = v := by
  unfold valV at h
  obtain ⟨p, hp, e⟩ := Option.map_eq_some_iff.mp h
  exact ⟨p, List.mem_of_find?_eq_some hp, e⟩
theorem EnvK.wt {c : Addr → Prop} {H : Hp} {kvs : List (Key × V)} {G : Ctx} {r : Env} {n : Nat} (e : EnvK c H kvs G r n) {p : Key × V} (hp : p ∈ kvs) : Wt H 6 p.2 := by
  obtain ⟨k, d, ⟨h1, h2⟩, h3⟩ := e.all p hp
  exact h3.wt h2 h1
/-- the free names' worths are at hand -/
theorem EnvK.free {c : Addr → Prop} {H : Hp} {kvs : List (Key × V)} {G : Ctx} {r : Env} {n : Nat} (e : EnvK c H kvs G r n) {k : Kd} {t : T k} (sc : Sc G t) {y : Str} (f : Fre t y) : ∃ v, valV kvs (Sum.inr y) = some v ∧ Wt H 6 v := by
  obtain ⟨j, hj⟩ := f.bound sc
  obtain ⟨v, hv, _⟩ := e.get y j hj
  obtain ⟨p, hp, e2⟩ := valV_mem hv
  exact ⟨v, hv, by rw [← e2]; exact e.wt hp⟩
section
variable {P : Program} {w : World} {K : PySem.W.Frag} {mg : Str → Option Value} {base : Heap} {aC aB f C CS : Addr} {fd : FuncData}
set_option maxHeartbeats 1000000 in
theorem fn_R_arm (T : Tp K mg aC aB) (R : RX P w K mg base C CS) (F : MAt K C "arm" "Reading.arm" s_R_arm p_R_arm f fd) {n k0 : Nat} (hk0 : 10 ≤ k0) (c_free_names : Fn P w K mg base k0 "free_names" (spFree n)) (c_size : Fn P w K mg base 6 "size" (spSize 6))
    (c_sizes_of : Fn P w K mg base 7 "sizes_of" (spSizesOf 6)) (c_note : Mn P w K mg base CX0 C 1 "note" (spNote P w C)) (c_worth : Mn P w K mg base (L2.CX P w) C k0 "worth" (spW P w C CS anyT n)) :
    Mn P w K mg base (L2.CX P w) C (k0 + 1) "arm" (spW P w C CS isIte (n + 1)) := by
  refine mn_byX F sc_R_arm ?_ (fun cdv A outer s0 H vs Q E hr h => ?_)
  · rintro vs H Q E ⟨c, s, m, k, t, G, r, tv, qv, dv, uv, rv, pl, tu, ro, j, b, rfl, _⟩
    rfl
  obtain ⟨c, s, m, k, t, G, r, tv, qv, dv, uv, rv, pl, tu, ro, j, b, rfl, sh, a, qok, qst⟩ := h
  refine ⟨_, (pss_cons (ps_set (i := 6) sc_R_arm.nd rfl (by first | exact Or.inl rfl | exact Or.inr rfl) (pe_ifExp (k_truth K rfl (pe_mnX (pv 0) rfl R.cl c_worth hr (by omega) (takes_of rfl rfl rfl rfl) (pa_cons (pe_ix (k_ixt K rfl) (pv 1) (pe_int) (fun _ _ => rfl)) (pa_cons (pe_op (k_cat K rfl) (pv 2) (pe_tup (pa_cons (pe_int) pa_nil))) (pa_cons (pv 3) (pa_cons (pv 4) (pa_cons (pv 5) pa_nil))))))) (pe_int) (pe_int)))
  (pss_cons (ps_set (i := 7) sc_R_arm.nd rfl (by first | exact Or.inl rfl | exact Or.inr rfl) (pe_ix (k_ixt K rfl) (pv 1) (pe_op op_add (pv 6) (pe_int)) (fun _ _ => rfl)))
  (pss_cons (ps_set (i := 8) sc_R_arm.nd rfl (by first | exact Or.inl rfl | exact Or.inr rfl) (pe_mnX (pv 0) rfl R.cl c_worth hr (by omega) (takes_of rfl rfl rfl rfl) (pa_cons (pv 7) (pa_cons (pe_op (k_cat K rfl) (pv 2) (pe_tup (pa_cons (pv 6) pa_nil))) (pa_cons (pv 3) (pa_cons (pv 4) (pa_cons (pv 5) pa_nil)))))))
  (pss_cons (ps_expr (pe_mn (pv 0) rfl R.cl c_note hr (by omega) (pa_cons (pv 2) (pa_cons (pv 5) (pa_cons (pe_op op_add (pe_op op_add (pe_int) (pe_fn c_sizes_of hr (by omega) (by rfl) (pa_cons (pe_fn c_free_names hr (by omega) (by rfl) (pa_cons (pv 7) pa_nil)) (pa_cons (pv 3) pa_nil)))) (pe_fn c_size hr (by omega) (by rfl) (pa_cons (pv 8) pa_nil))) pa_nil)))))
  (pss_one (ps_ret (pv 8))))))), ?_⟩
  have lW : List.lookup ("worth" : Str) [(("met" : Str), V.ref m)] = none := lk_none (by decide +kernel)
  have lN : List.lookup ("note" : Str) [(("met" : Str), V.ref m)] = none := lk_none (by decide +kernel)
  cases t with
  | num => exact sh.elim
  | yes => exact sh.elim
  | no => exact sh.elim
  | none => exact sh.elim
  | op1 => exact sh.elim
  | op2 => exact sh.elim
  | name => exact sh.elim
  | lt => exact sh.elim
  | each => exact sh.elim
  | times => exact sh.elim
  | ite c0 t1 u1 =>
    obtain ⟨p, x0, x1, x2, rfl, hp, r0, r1, r2⟩ := id a.tr
    obtain ⟨d, kvs, rfl, hd, nd, ek⟩ := id a.en
    have ht0 : max c0.ht (max t1.ht u1.ht) + 1 ≤ n + 1 := a.ht
    have sz0 : 1 + (c0.size + (t1.size + u1.size)) ≤ 1000 := a.sz
    have dp0 : max k.depth (max c0.dep (max t1.dep u1.dep)) ≤ 6 := a.dp
    have bn0 : b + (max c0.ht (max t1.ht u1.ht) + 1) ≤ 1000 := a.bn
    have pn0 : pl.length + (max c0.ht (max t1.ht u1.ht) + 1) ≤ 1000 := a.pn
    have tn0 : tu.length + (max c0.ht (max t1.ht u1.ht) + 1) ≤ 1000 := a.tn
    have rn0 : ro.length + (max c0.ht (max t1.ht u1.ht) + 1) ≤ 1000 := a.rn
    have eden : den (.ite c0 t1 u1) r = ((den c0 r).pre 0 []).bind fun bb => (match (dB bb) with
      | true => (den t1 r).pre 1 []
      | false => (den u1 r).pre 2 []).bind fun d => .ok 1 d := rfl
    have cn := a.cn
    have u1c := Res.cnt_le ((den c0 r).pre 0 []) (fun bb => (match (dB bb) with
      | true => (den t1 r).pre 1 []
      | false => (den u1 r).pre 2 []).bind fun d => .ok 1 d)
    rw [Res.cnt_pre, ← eden] at u1c
    obtain ⟨dx, hs⟩ := a.rd.1
    refine ⟨_, rfl, s, dx, _, rfl, hs, lW, _, rfl, _, _, _, _, rfl, rfl, SqT.of hp, atI_one, _, rfl, cat_one a.pa (by omega) fun pv' H3 k3 ip3 => ⟨_, rfl, _, rfl, _, rfl, ?_⟩⟩
    have rd3 := a.rd.kp k3
    refine ⟨c, s, m, _, c0, G, r, x0, pv', _, uv, rv, pl ++ [0], tu, ro, j, b, rfl, trivial, ?_, ?_, ?_⟩
    · exact { rd := rd3, cm := a.cm, av := a.av.kp k3, tr := r0.mono k3.tk, ht := by omega, sz := by omega, dp := by omega, sc := a.sc.1, fe := a.fe, en := a.en.kp k3, bn := by omega, pa := ip3, ta := a.ta.mono k3.tk, ra := a.ra.mono k3.tk,
              pn := by rw [List.length_append]; show pl.length + 1 + _ ≤ _; omega, tn := by omega, rn := by omega, cn := by omega }
    · intro i1 dv1 v H4 ed b4 rd4 rv4
      have ev : v = .bl (dB dv1) := rv4
      subst ev
      have b04 : But m H H4 := k3.but.trans b4
      refine ⟨dB dv1, rfl, ?_⟩
      cases hb : dB dv1 with
      | true =>
        have eq2 : den (.ite c0 t1 u1) r = (((den t1 r).pre 1 []).bind fun d => .ok 1 d).plus i1 := by rw [eden, Res.bind_of ed, hb]
        have cnt2 : (den (.ite c0 t1 u1) r).cnt = i1 + (((den t1 r).pre 1 []).bind fun d => Res.ok 1 d).cnt := by rw [eq2, Res.cnt_plus]
        have cnt3 := Res.cnt_le ((den t1 r).pre 1 []) (fun d => Res.ok 1 d)
        rw [Res.cnt_pre] at cnt3
        obtain ⟨dx4, hs4⟩ := rd4.1
        refine itT rfl ?_
        refine ⟨_, rfl, _, rfl, _, _, rfl, rfl, _, _, _, _, rfl, rfl, SqT.of (b04.tup _ _ hp), atI_two, ?_⟩
        refine ⟨_, rfl, s, dx4, _, rfl, hs4, lW, _, rfl, _, rfl, _, rfl, cat_one (a.pa.mono b04.tk) (by omega) fun pv6 H6 k6 ip6 => ⟨_, rfl, _, rfl, _, rfl, ?_⟩⟩
        have b06 := b04.trans k6.but (c := m)
        have rd6 := rd4.kp k6
        refine ⟨c, s, m, _, t1, G, r, x1, pv6, _, uv, rv, pl ++ [1], tu, ro, j + i1, b, rfl, trivial, ?_, ?_, ?_⟩
        · exact { rd := rd6, cm := a.cm, av := a.av.but b06 rd6.not, tr := r1.mono b06.tk, ht := by omega, sz := by omega, dp := by omega, sc := a.sc.2.1, fe := a.fe, en := a.en.mono b06 a.cm, bn := by omega, pa := ip6, ta := a.ta.mono b06.tk, ra := a.ra.mono b06.tk,
                  pn := by rw [List.length_append]; show pl.length + 1 + _ ≤ _; omega, tn := by omega, rn := by omega, cn := by omega }
        · intro i2 dv2 v2 H7 ed2 b7 rd7 rv7
          have b07 := b06.trans b7
          have ek7 := ek.mono (b07.lk a.cm)
          have hd7 : H7 d = some (.dK kvs) := b07.old _ _ (a.rd.ne_dk hd) hd
          have fv : Fit k dv2 := den_fit t1 a.sc.2.1 a.fe ed2
          have eq3 : den (.ite c0 t1 u1) r = .ok (i1 + (i2 + 1)) dv2 := by
            rw [eq2, Res.bind_of ed2]
            rfl
          have cnt4 : (den (.ite c0 t1 u1) r).cnt = i1 + (i2 + 1) := by rw [eq3]; rfl
          obtain ⟨dx7, hs7⟩ := rd7.1
          refine ⟨_, rfl, s, dx7, _, rfl, hs7, lN, _, rfl, _, rfl, _, rfl, k, t1, x1, rfl, r1.mono b07.tk, by omega, by omega, fun l fl H8 k8 nf hl fy ln => ?_⟩
          refine ⟨_, rfl, fl, l, d, kvs, rfl, hl, k8 _ _ hd7, fun y hy => ?_, by omega, fun m1 H9 k9 => ⟨_, _, rfl, rfl, _, rfl, v2, rfl, ?_, fun m2 H10 k10 => ⟨_, _, rfl, rfl, ?_⟩⟩⟩
          · obtain ⟨v, hv, wv⟩ := ek7.free a.sc.2.1 (fy y hy)
            exact ⟨v, hv, wv.mono k8⟩
          · exact (rv7.wt fv (by omega)).mono (k8.trans k9)
          · have k710 := (k8.trans k9).trans k10
            refine ⟨s, m, j + i1 + i2, qv, rv, pl, ro, _, rfl, rd7.kp k710, (a.pa.mono b07.tk).mono k710.tk, (a.ra.mono b07.tk).mono k710.tk, by omega, fun H11 b11 rd11 => ?_⟩
            refine ⟨_, rfl, qok (i1 + (i2 + 1)) dv2 v2 H11 eq3 ((b07.trans k710.but).trans b11) ?_ ((rv7.mono k710.lk).mono (b11.lk a.cm))⟩
            have e9 : j + (i1 + (i2 + 1)) = j + i1 + i2 + 1 := by omega
            rw [e9]
            exact rd11
        · intro i2 wd p2 q2 d2 H7 ed2 b7 hd2 st
          refine qst (i1 + i2) wd (1 :: p2) q2 d2 H7 ?_ (b06.trans b7) (b06.free hd2) ?_
          · rw [eq2, Res.bind_st ed2]
            rfl
          · rw [List.append_assoc] at st
            exact st
      | false =>
        have eq2 : den (.ite c0 t1 u1) r = (((den u1 r).pre 2 []).bind fun d => .ok 1 d).plus i1 := by rw [eden, Res.bind_of ed, hb]
        have cnt2 : (den (.ite c0 t1 u1) r).cnt = i1 + (((den u1 r).pre 2 []).bind fun d => Res.ok 1 d).cnt := by rw [eq2, Res.cnt_plus]
        have cnt3 := Res.cnt_le ((den u1 r).pre 2 []) (fun d => Res.ok 1 d)
        rw [Res.cnt_pre] at cnt3
        obtain ⟨dx4, hs4⟩ := rd4.1
        refine itF rfl ?_
        refine ⟨_, rfl, _, rfl, _, _, rfl, rfl, _, _, _, _, rfl, rfl, SqT.of (b04.tup _ _ hp), atI_three, ?_⟩
        refine ⟨_, rfl, s, dx4, _, rfl, hs4, lW, _, rfl, _, rfl, _, rfl, cat_one (a.pa.mono b04.tk) (by omega) fun pv6 H6 k6 ip6 => ⟨_, rfl, _, rfl, _, rfl, ?_⟩⟩
        have b06 := b04.trans k6.but (c := m)
        have rd6 := rd4.kp k6
        refine ⟨c, s, m, _, u1, G, r, x2, pv6, _, uv, rv, pl ++ [2], tu, ro, j + i1, b, rfl, trivial, ?_, ?_, ?_⟩
        · exact { rd := rd6, cm := a.cm, av := a.av.but b06 rd6.not, tr := r2.mono b06.tk, ht := by omega, sz := by omega, dp := by omega, sc := a.sc.2.2, fe := a.fe, en := a.en.mono b06 a.cm, bn := by omega, pa := ip6, ta := a.ta.mono b06.tk, ra := a.ra.mono b06.tk,
                  pn := by rw [List.length_append]; show pl.length + 1 + _ ≤ _; omega, tn := by omega, rn := by omega, cn := by omega }
        · intro i2 dv2 v2 H7 ed2 b7 rd7 rv7
          have b07 := b06.trans b7
          have ek7 := ek.mono (b07.lk a.cm)
          have hd7 : H7 d = some (.dK kvs) := b07.old _ _ (a.rd.ne_dk hd) hd
          have fv : Fit k dv2 := den_fit u1 a.sc.2.2 a.fe ed2
          have eq3 : den (.ite c0 t1 u1) r = .ok (i1 + (i2 + 1)) dv2 := by
            rw [eq2, Res.bind_of ed2]
            rfl
          have cnt4 : (den (.ite c0 t1 u1) r).cnt = i1 + (i2 + 1) := by rw [eq3]; rfl
          obtain ⟨dx7, hs7⟩ := rd7.1
          refine ⟨_, rfl, s, dx7, _, rfl, hs7, lN, _, rfl, _, rfl, _, rfl, k, u1, x2, rfl, r2.mono b07.tk, by omega, by omega, fun l fl H8 k8 nf hl fy ln => ?_⟩
          refine ⟨_, rfl, fl, l, d, kvs, rfl, hl, k8 _ _ hd7, fun y hy => ?_, by omega, fun m1 H9 k9 => ⟨_, _, rfl, rfl, _, rfl, v2, rfl, ?_, fun m2 H10 k10 => ⟨_, _, rfl, rfl, ?_⟩⟩⟩
          · obtain ⟨v, hv, wv⟩ := ek7.free a.sc.2.2 (fy y hy)
            exact ⟨v, hv, wv.mono k8⟩
          · exact (rv7.wt fv (by omega)).mono (k8.trans k9)
          · have k710 := (k8.trans k9).trans k10
            refine ⟨s, m, j + i1 + i2, qv, rv, pl, ro, _, rfl, rd7.kp k710, (a.pa.mono b07.tk).mono k710.tk, (a.ra.mono b07.tk).mono k710.tk, by omega, fun H11 b11 rd11 => ?_⟩
            refine ⟨_, rfl, qok (i1 + (i2 + 1)) dv2 v2 H11 eq3 ((b07.trans k710.but).trans b11) ?_ ((rv7.mono k710.lk).mono (b11.lk a.cm))⟩
            have e9 : j + (i1 + (i2 + 1)) = j + i1 + i2 + 1 := by omega
            rw [e9]
            exact rd11
        · intro i2 wd p2 q2 d2 H7 ed2 b7 hd2 st
          refine qst (i1 + i2) wd (2 :: p2) q2 d2 H7 ?_ (b06.trans b7) (b06.free hd2) ?_
          · rw [eq2, Res.bind_st ed2]
            rfl
          · rw [List.append_assoc] at st
            exact st
    · intro i1 wd p2 q2 d2 H4 ed b4 hd2 st
      refine qst i1 wd (0 :: p2) q2 d2 H4 ?_ (k3.but.trans b4) (k3.free hd2) ?_
      · rw [eden, Res.bind_st ed]
        rfl
      · rw [List.append_assoc] at st
        exact st
end
end Br
/-! eachR and timesR turn by turn; enumerate of a list. -/
namespace Br
open PySem L2
open PySem.Spec PyProof.Rows
namespace Res
variable {α β γ : Type}
theorem plus_bind (r : Res α) (n : Nat) (f : α → Res β) : (r.plus n).bind f = (r.bind f).plus n := by
  cases r with
  | ok m a =>
    show (f a).plus (n + m) = ((f a).plus m).plus n
    rw [plus_plus]
  | stop m w p q => rfl
theorem bind_bind (r : Res α) (f : α → Res β) (g : β → Res γ) : (r.bind f).bind g = r.bind fun x => (f x).bind g := by
  cases r with
  | ok m a =>
    show ((f a).plus m).bind g = ((f a).bind g).plus m
    rw [plus_bind]
  | stop m w p q => rfl
theorem ok_bind (n : Nat) (a : α) (f : α → Res β) : (Res.ok n a).bind f = (f a).plus n := rfl
end Res
section
variable {α β : Type}
def EachAt (f : α → Res β) (L : List α) (i : Nat) (ms : List β) (n : Nat) : Prop := eachR f 0 L = ((eachR f (i : Int) (L.drop i)).bind fun rest => .ok 0 (ms ++ rest)).plus n
variable {f : α → Res β} {L : List α} {i n n' : Nat} {ms : List β} {d : α} {y : β} {w : Wd} {p q : List Int}
theorem EachAt.zero : EachAt f L 0 [] 0 := by
  unfold EachAt
  rw [Res.plus_zero]
  show eachR f 0 L = (eachR f 0 L).bind fun rest => .ok 0 rest
  cases eachR f 0 L with
  | ok m a => rfl
  | stop m w p q => rfl
theorem EachAt.ok (h : EachAt f L i ms n) (hd : L[i]? = some d) (e : f d = .ok n' y) : EachAt f L (i + 1) (ms ++ [y]) (n + n') := by
  unfold EachAt at h ⊢
  rw [h, drop_more hd]
  show ((((f d).pre 1 [(i : Int)]).bind fun r => (eachR f ((i : Int) + 1) (L.drop (i + 1))).bind fun rs => .ok 0 (r :: rs)).bind fun rest => .ok 0 (ms ++ rest)).plus n = _
  rw [Res.bind_of e, Res.plus_bind, Res.plus_plus, Res.bind_bind]
  congr 1
  have e2 : ((i + 1 : Nat) : Int) = (i : Int) + 1 := rfl
  rw [e2]
  congr 1
  funext rs
  rw [Res.ok_bind, Res.plus_zero, List.append_assoc]
  rfl
theorem EachAt.stop (h : EachAt f L i ms n) (hd : L[i]? = some d) (e : f d = .stop n' w p q) : eachR f 0 L = .stop (n + n') w (1 :: p) ((i : Int) :: q) := by
  unfold EachAt at h
  rw [h, drop_more hd]
  show ((((f d).pre 1 [(i : Int)]).bind fun r => (eachR f ((i : Int) + 1) (L.drop (i + 1))).bind fun rs => .ok 0 (r :: rs)).bind fun rest => .ok 0 (ms ++ rest)).plus n = _
  rw [Res.bind_st e]
  rfl
theorem EachAt.fin (h : EachAt f L L.length ms n) : eachR f 0 L = .ok n ms := by
  unfold EachAt at h
  rw [h, List.drop_length]
  show ((Res.ok 0 []).bind fun rest => Res.ok 0 (ms ++ rest)).plus n = _
  rw [Res.ok_bind, List.append_nil, Res.plus_zero]
  rfl
theorem EachAt.cnt (h : EachAt f L i ms n) (hd : L[i]? = some d) : n + (f d).cnt ≤ (eachR f 0 L).cnt := by
  unfold EachAt at h
  rw [h, drop_more hd, Res.cnt_plus]
  have u := Res.cnt_le (((f d).pre 1 [(i : Int)]).bind fun r => (eachR f ((i : Int) + 1) (L.drop (i + 1))).bind fun rs => .ok 0 (r :: rs)) (fun rest => Res.ok 0 (ms ++ rest))
  have u2 := Res.cnt_le ((f d).pre 1 [(i : Int)]) (fun r => (eachR f ((i : Int) + 1) (L.drop (i + 1))).bind fun rs => .ok 0 (r :: rs))
  rw [Res.cnt_pre] at u2
  have u3 : (eachR f (i : Int) (d :: L.drop (i + 1))) = ((f d).pre 1 [(i : Int)]).bind fun r => (eachR f ((i : Int) + 1) (L.drop (i + 1))).bind fun rs => .ok 0 (r :: rs) := rfl
  rw [u3]
  omega
end
section
variable {α : Type}
def TimesAt (f : α → Res α) (N : Nat) (d0 : α) (i : Nat) (d : α) (n : Nat) : Prop := i ≤ N ∧ timesR f 0 N d0 = (timesR f (i : Int) (N - i) d).plus n
variable {f : α → Res α} {N i n n' : Nat} {d0 d y : α} {w : Wd} {p q : List Int}
theorem TimesAt.zero : TimesAt f N d0 0 d0 0 := ⟨Nat.zero_le _, by rw [Res.plus_zero]; rfl⟩
theorem TimesAt.unf (h : TimesAt f N d0 i d n) (l : i < N) : timesR f 0 N d0 = (((f d).pre 2 [(i : Int)]).bind fun d' => timesR f ((i + 1 : Nat) : Int) (N - (i + 1)) d').plus n := by
  obtain ⟨h1, h2⟩ := h
  rw [h2, show N - i = (N - (i + 1)) + 1 by omega]
  rfl
theorem TimesAt.ok (h : TimesAt f N d0 i d n) (l : i < N) (e : f d = .ok n' y) : TimesAt f N d0 (i + 1) y (n + n') := by
  refine ⟨l, ?_⟩
  rw [h.unf l, Res.bind_of e, Res.plus_plus]
theorem TimesAt.stop (h : TimesAt f N d0 i d n) (l : i < N) (e : f d = .stop n' w p q) : timesR f 0 N d0 = .stop (n + n') w (2 :: p) ((i : Int) :: q) := by
  rw [h.unf l, Res.bind_st e]
  rfl
theorem TimesAt.fin (h : TimesAt f N d0 N d n) : timesR f 0 N d0 = .ok n d := by
  obtain ⟨h1, h2⟩ := h
  rw [h2, Nat.sub_self]
  rfl
theorem TimesAt.cnt (h : TimesAt f N d0 i d n) (l : i < N) : n + (f d).cnt ≤ (timesR f 0 N d0).cnt := by
  rw [h.unf l, Res.cnt_plus]
  have u := Res.cnt_le ((f d).pre 2 [(i : Int)]) (fun d' => timesR f ((i + 1 : Nat) : Int) (N - (i + 1)) d')
  rw [Res.cnt_pre] at u
  omega
end
/-- a loop over enumerate of a list -/
theorem for_enumL {K : PySem.W.Frag} {a : Addr} {xs : List V} {g : TG} {tb : TS} {D : Ends} {σ : L2.St} {H : Hp} (Pv : Nat → L2.St → Hp → Prop) (h0 : Pv 0 σ H) (hl : ∀ i σ H, i ≤ xs.length → Pv i σ H → SqL K H a xs)
    (hs : ∀ i x T σ H, xs[i]? = some x → Pv i σ H → H T = none → g (.ref T) σ (upd H T (.tup [.int (i : Nat), x])) fun σ2 H2 => tb { D with nx := Pv (i + 1), ct := Pv (i + 1), bk := D.nx } σ2 H2) (hd : ∀ σ H, Pv xs.length σ H → D.nx σ H) :
    ∃ W : Nat → Nat → L2.St → Hp → Prop, (∃ m, W 0 m σ H) ∧ ∀ i m σ H, W i m σ H →
      ((Ite K a).stop i H ∧ D.nx σ H) ∨ ((Ite K a).go i H ∧ ∃ N : L2.St → Hp → Prop, (∀ σ' H', N σ' H' → ∃ m', m' < m ∧ W (i + 1) m' σ' H') ∧ ∀ x H', (Ite K a).yld i H x H' → g x σ H' fun σ2 H2 => tb { D with nx := N, ct := N, bk := D.nx } σ2 H2) := by
  refine ⟨fun i m σ H => m = xs.length - i ∧ i ≤ xs.length ∧ Pv i σ H, ⟨xs.length, by simp, Nat.zero_le _, h0⟩, ?_⟩
  rintro i m σ H ⟨rfl, hi, p⟩
  have q1 := hl i σ H hi p
  by_cases lt : i < xs.length
  · refine .inr ⟨⟨xs, xs[i], q1, by simp [lt]⟩, Pv (i + 1), fun σ' H' p' => ⟨xs.length - (i + 1), by omega, rfl, lt, p'⟩, fun x H' y => ?_⟩
    obtain ⟨T, z, rfl, nT, rfl, y1⟩ := y
    exact hs i z T σ H (y1 xs q1) p nT
  · obtain rfl : i = xs.length := by omega
    exact .inl ⟨⟨xs, q1, Nat.le_refl _⟩, hd σ H p⟩
end Br
/-! Reading.things. -/
namespace Br
open PySem L2
open PySem.Spec PyProof.Rows
theorem EnvK.more {c : Addr → Prop} {g : Addr} {H : Hp} {kvs : List (Key × V)} {G : Ctx} {r : Env} {n : Nat} (e : EnvK c H kvs G r n) (hg : H g = none) : EnvK (fun a => c a ∨ a = g) H kvs G r n := e.recast fun a z => by
  rcases z with z | z
  · exact .inl z
  · exact .inr ⟨fun xs w => (by rw [z, hg] at w; cases w), fun xs w => (by rw [z, hg] at w; cases w)⟩
section
variable {P : Program} {w : World} {K : PySem.W.Frag} {mg : Str → Option Value} {base : Heap} {aC aB f C CS : Addr} {fd : FuncData}
set_option maxHeartbeats 1000000 in
theorem fn_R_things (T : Tp K mg aC aB) (R : RX P w K mg base C CS) (F : MAt K C "things" "Reading.things" s_R_things p_R_things f fd) {n k0 : Nat} (hk0 : 10 ≤ k0) (c_free_names : Fn P w K mg base k0 "free_names" (spFree n))
    (c_sizes_of : Fn P w K mg base 7 "sizes_of" (spSizesOf 6)) (c_note : Mn P w K mg base CX0 C 1 "note" (spNote P w C)) (c_worth : Mn P w K mg base (L2.CX P w) C k0 "worth" (spW P w C CS anyT n)) :
    Mn P w K mg base (L2.CX P w) C (k0 + 1) "things" (spW P w C CS isEach (n + 1)) := by
  refine mn_byX F sc_R_things ?_ (fun cdv A outer s0 H vs Q E hr h => ?_)
  · rintro vs H Q E ⟨c, s, m, k, t, G, r, tv, qv, dv, uv, rv, pl, tu, ro, j, b, rfl, _⟩
    rfl
  obtain ⟨c, s, m, k, t, G, r, tv, qv, dv, uv, rv, pl, tu, ro, j, b, rfl, sh, a, qok, qst⟩ := h
  refine ⟨_, (pss_cons (ps_set (i := 6) sc_R_things.nd rfl (by first | exact Or.inl rfl | exact Or.inr rfl) (pe_mnX (pv 0) rfl R.cl c_worth hr (by omega) (takes_of rfl rfl rfl rfl) (pa_cons (pe_ix (k_ixt K rfl) (pv 1) (pe_int) (fun _ _ => rfl)) (pa_cons (pe_op (k_cat K rfl) (pv 2) (pe_tup (pa_cons (pe_int) pa_nil))) (pa_cons (pv 3) (pa_cons (pv 4) (pa_cons (pv 5) pa_nil)))))))
  (pss_cons (ps_setLc (i := 7) (own := [("name", 12)]) rfl sc_R_things.nd rfl rfl (sw_true rfl rfl rfl (by decide +kernel)) (k_pil K rfl (pe_fn c_free_names hr (by omega) (by rfl) (pa_cons (pe_ix (k_ixt K rfl) (pv 1) (pe_int) (fun _ _ => rfl)) pa_nil))) (blkOk_by (own := [("name", 12)]) (by rfl)) (fun _ _ _ _ _ => (pg_name (i := 12) sc_R_things.nd rfl (by first | exact Or.inl rfl | exact Or.inr rfl))) (fun _ _ _ _ _ => (pts_one (pt_cmpR op_ne (pv 12) (pe_ix (k_ixt K rfl) (pv 1) (pe_int) (fun _ _ => rfl)) (nomark _)))) (fun _ _ _ _ _ => (pv 12)))
  (pss_cons (ps_set (i := 8) sc_R_things.nd rfl (by first | exact Or.inl rfl | exact Or.inr rfl) (pe_lst pa_nil))
  (pss_cons (ps_for (passes_of rfl) rfl (k_enum K rfl (by rfl) T.enumerate (pa_cons (pv 6) pa_nil)) (k_gtup K rfl (n := 2) rfl (pgs_cons (pg_name (i := 9) sc_R_things.nd rfl (by first | exact Or.inl rfl | exact Or.inr rfl)) (pgs_cons (pg_name (i := 10) sc_R_things.nd rfl (by first | exact Or.inl rfl | exact Or.inr rfl)) pgs_nil))) (pss_cons (ps_set (i := 11) sc_R_things.nd rfl (by first | exact Or.inl rfl | exact Or.inr rfl) (pe_callTy cr_dictOf (by rfl) T.dict (by decide +kernel) (pa_cons (pv 3) pa_nil)))
  (pss_cons (ps_dput (hu_of hr) (pv 11) (pe_ix (k_ixt K rfl) (pv 1) (pe_int) (fun _ _ => rfl)) (pv 10) rfl)
  (pss_one (ps_expr (k_bm K rfl PySem.F.plainAttrs_list PySem.F.slot_list_append PySem.F.type_list_append mt_append (pv 8) (pa_cons (pe_mnX (pv 0) rfl R.cl c_worth hr (by omega) (takes_of rfl rfl rfl rfl) (pa_cons (pe_ix (k_ixt K rfl) (pv 1) (pe_int) (fun _ _ => rfl)) (pa_cons (pe_op (k_cat K rfl) (pv 2) (pe_tup (pa_cons (pe_int) pa_nil))) (pa_cons (pv 11) (pa_cons (pe_op (k_cat K rfl) (pv 4) (pe_tup (pa_cons (pv 9) pa_nil))) (pa_cons (pv 5) pa_nil)))))) pa_nil)))))))
  (pss_cons (ps_expr (pe_mn (pv 0) rfl R.cl c_note hr (by omega) (pa_cons (pv 2) (pa_cons (pv 5) (pa_cons (pe_op op_add (pe_int) (pe_op op_mul (pe_callB (k_len K rfl) (by rfl) T.len (by decide +kernel) (pa_cons (pv 6) pa_nil)) (pe_op op_add (pe_int) (pe_fn c_sizes_of hr (by omega) (by rfl) (pa_cons (pv 7) (pa_cons (pv 3) pa_nil)))))) pa_nil)))))
  (pss_one (ps_ret (pv 8)))))))), ?_⟩
  have lW : List.lookup ("worth" : Str) [(("met" : Str), V.ref m)] = none := lk_none (by decide +kernel)
  have lN : List.lookup ("note" : Str) [(("met" : Str), V.ref m)] = none := lk_none (by decide +kernel)
  cases t with
  | num => exact sh.elim
  | yes => exact sh.elim
  | no => exact sh.elim
  | none => exact sh.elim
  | op1 => exact sh.elim
  | op2 => exact sh.elim
  | name => exact sh.elim
  | lt => exact sh.elim
  | ite => exact sh.elim
  | times => exact sh.elim
  | each x t1 u1 =>
    rename_i a0 kb
    obtain ⟨p, x1, x2, rfl, hp, r1, r2⟩ := id a.tr
    obtain ⟨d, kvs, rfl, hd, nd, ek⟩ := id a.en
    have ht0 : max t1.ht u1.ht + 1 ≤ n + 1 := a.ht
    have sz0 : 1 + (t1.size + u1.size) ≤ 1000 := a.sz
    have dp0 : max (1 + kb.depth) (max t1.dep u1.dep) ≤ 6 := a.dp
    have bn0 : b + (max t1.ht u1.ht + 1) ≤ 1000 := a.bn
    have pn0 : pl.length + (max t1.ht u1.ht + 1) ≤ 1000 := a.pn
    have tn0 : tu.length + (max t1.ht u1.ht + 1) ≤ 1000 := a.tn
    have rn0 : ro.length + (max t1.ht u1.ht + 1) ≤ 1000 := a.rn
    have ekl := ek.len
    have eden : den (.each x t1 u1) r = ((den t1 r).pre 0 []).bind fun l => (eachR (fun d => den u1 (r.put x d)) 0 (dL l)).bind fun m => .ok 1 m := rfl
    have cn := a.cn
    have u1c : (den t1 r).cnt ≤ (den (.each x t1 u1) r).cnt := by
      have z := Res.cnt_le ((den t1 r).pre 0 []) (fun l => (eachR (fun d => den u1 (r.put x d)) 0 (dL l)).bind fun m => .ok 1 m)
      rw [Res.cnt_pre] at z
      exact z
    obtain ⟨dx, hs⟩ := a.rd.1
    refine ⟨_, rfl, s, dx, _, rfl, hs, lW, _, rfl, _, _, _, _, rfl, rfl, SqT.of hp, atI_two, _, rfl, cat_one a.pa (by omega) fun pv' H3 k3 ip3 => ⟨_, rfl, _, rfl, _, rfl, ?_⟩⟩
    have rd3 := a.rd.kp k3
    refine ⟨c, s, m, _, t1, G, r, x1, pv', _, uv, rv, pl ++ [0], tu, ro, j, b, rfl, trivial, ?_, ?_, ?_⟩
    · exact { rd := rd3, cm := a.cm, av := a.av.kp k3, tr := r1.mono k3.tk, ht := by omega, sz := by omega, dp := by omega, sc := a.sc.1, fe := a.fe, en := a.en.kp k3, bn := by omega, pa := ip3, ta := a.ta.mono k3.tk, ra := a.ra.mono k3.tk,
              pn := by rw [List.length_append]; show pl.length + 1 + _ ≤ _; omega, tn := by omega, rn := by omega, cn := by omega }
    · intro i1 dv1 v H4 ed b4 rd4 rv4
      have b04 : But m H H4 := k3.but.trans b4
      obtain ⟨q, xs, rfl, hq, nq, pr⟩ := id rv4
      have fr : Fit (.row a0) dv1 := den_fit t1 a.sc.1 a.fe ed
      have lx : xs.length ≤ 200 := by rw [Paired.len pr]; exact fr.1
      have eq2 : den (.each x t1 u1) r = ((eachR (fun d => den u1 (r.put x d)) 0 (dL dv1)).bind fun m => .ok 1 m).plus i1 := by rw [eden, Res.bind_of ed]
      have cnt2 : (den (.each x t1 u1) r).cnt = i1 + ((eachR (fun d => den u1 (r.put x d)) 0 (dL dv1)).bind fun m => Res.ok 1 m).cnt := by
        rw [eq2]
        exact Res.cnt_plus _ _
      have cnt3 := Res.cnt_le (eachR (fun d => den u1 (r.put x d)) 0 (dL dv1)) (fun m => Res.ok 1 m)
      -- the names brought
      refine ⟨_, rfl, _, _, _, _, rfl, rfl, SqT.of (b04.tup _ _ hp), atI_three, kb, u1, x2, rfl, r2.mono b04.tk, by omega, by omega, fun l fl H5 k5 nf hl fy ln => ⟨fl, rfl, ⟨_, SqL.of hl⟩, fun dd hdd => lc_list (K := K) (a := fl) (xs := l.map V.str)
        (fun jj H' => ∃ l4 : List Str, Kp H5 H' ∧ H' dd = some (.lst (l4.map V.str)) ∧ (∀ y ∈ l4, Fre u1 y ∧ y ≠ x) ∧ l4.length ≤ jj)
        ⟨[], Kp.new hdd, upd_same, fun y hy => absurd hy (by simp), Nat.le_refl _⟩ (fun jj H' _ pv => ?_) ?_ ?_⟩⟩
      · obtain ⟨l4, kp4, _⟩ := pv
        exact SqL.of (kp4 _ _ hl)
      · rintro jj y H' hj ⟨l4, kp4, h4, f4, len4⟩
        obtain ⟨z, hz, rfl⟩ := str_get hj
        have jl : jj < l.length := (List.getElem?_eq_some_iff.mp hz).1
        refine ⟨rfl, _, rfl, _, rfl, _, _, _, _, rfl, rfl, SqT.of ((k5.trans kp4) _ _ (b04.tup _ _ hp)), atI_one, rfl, _, rfl, itB (fun en => ?_) (fun en => ?_)⟩
        · have ne : z ≠ x := fun q3 => by
            subst q3
            simp at en
          refine ⟨_, rfl, _, h4, line_lt (by rw [List.length_map]; omega), l4 ++ [z], kp4.put hdd, by rw [upd_same, List.map_append]; rfl, fun y hy => ?_, by rw [List.length_append]; show l4.length + 1 ≤ _; omega⟩
          rcases List.mem_append.mp hy with cc | cc
          · exact f4 y cc
          · rw [List.mem_singleton.mp cc]
            exact ⟨fy z (List.mem_of_getElem? hz), ne⟩
        · exact ⟨l4, kp4, h4, f4, by omega⟩
      · rintro H6 ⟨l4, kp4, hl4, f4, len4⟩
        rw [List.length_map] at len4
        have k46 : Kp H4 H6 := k5.trans kp4
        have b06 : But m H H6 := b04.trans k46.but
        have rd6 := rd4.kp k46
        refine ⟨by show 0 ≤ sizeLine; decide, fun g hg => ?_⟩
        have hgH4 : H4 g = none := k46.free hg
        have hgH : H g = none := b06.free hg
        have kg : Kp H6 (upd H6 g (.lst [])) := Kp.new hg
        refine ⟨_, rfl, q, xs, rfl, SqL.of (kg _ _ (k46 _ _ hq)), for_enumL (K := K) (a := q) (xs := xs)
          (fun i σ H' => (∃ v9 v10 v11, σ = [some (.ref s), some (.ref p), some qv, some (.ref d), some uv, some rv, some (.ref q), some (.ref dd), some (.ref g), v9, v10, v11, none]) ∧
            ∃ acc ms n', But m H6 H' ∧ RdAt P w C H' s m (j + i1 + n') ∧ H' g = some (.lst acc) ∧ Paired (RepW (fun a => c a ∨ a = g) H' kb) acc ms ∧ EachAt (fun d => den u1 (r.put x d)) (dL dv1) i ms n' ∧ acc.length = i)
          ⟨⟨none, none, none, rfl⟩, [], [], 0, kg.but, rd6.kp kg, upd_same, .nil, EachAt.zero, rfl⟩ (fun i σ H' _ pv => ?_) ?_ ?_⟩
        · obtain ⟨_, acc, ms, n', bt, rd, _⟩ := pv
          exact SqL.of (bt.old _ _ (rd6.ne_lst (k46 _ _ hq)) (k46 _ _ hq))
        · rintro i y tt σ H' hi ⟨⟨v9, v10, v11, rfl⟩, acc, ms, n', bt, rd, hgl, pa, ea, lacc⟩ ntt
          obtain ⟨th, hth, rth⟩ := Paired.at pr hi
          have hi2 : i < xs.length := (List.getElem?_eq_some_iff.mp hi).1
          have cntE := ea.cnt hth
          have kt : Kp H' (upd H' tt (.tup [.int (i : Nat), y])) := Kp.new ntt
          have b0t : But m H (upd H' tt (.tup [.int (i : Nat), y])) := (b06.trans bt).trans kt.but
          refine ⟨tt, _, rfl, SqT.of upd_same, rfl, _, _, rfl, _, _, rfl, rfl, ?_⟩
          have hdt : upd H' tt (.tup [.int (i : Nat), y]) d = some (.dK kvs) := b0t.old _ _ (a.rd.ne_dk hd) hd
          refine ⟨_, rfl, d, kvs, rfl, hdt, fun g2 hg2 => ?_⟩
          have kg2 : Kp (upd H' tt (.tup [.int (i : Nat), y])) (upd (upd H' tt (.tup [.int (i : Nat), y])) g2 (.dK kvs)) := Kp.new hg2
          refine ⟨_, rfl, _, rfl, _, rfl, _, _, _, _, rfl, rfl, SqT.of (kg2 _ _ (b0t.tup _ _ hp)), atI_one, g2, _, rfl, DPut.k (k := Sum.inr x) upd_same (line_lt (by omega)), ?_⟩
          rw [upd_upd]
          have kp7 : Kp (upd H' tt (.tup [.int (i : Nat), y])) (upd (upd H' tt (.tup [.int (i : Nat), y])) g2 (.dK (putK kvs (Sum.inr x) y))) := Kp.new hg2
          have k7 := kt.trans kp7
          have b07 := b0t.trans kp7.but (c := m)
          have rd7 := rd.kp k7
          have hgl7 := k7 _ _ hgl
          obtain ⟨dx7, hs7⟩ := rd7.1
          refine ⟨_, rfl, .inl ⟨rfl, _, SqL.of hgl7⟩, _, rfl, s, dx7, _, rfl, hs7, lW, _, rfl, _, _, _, _, rfl, rfl, SqT.of (b07.tup _ _ hp), atI_three, _, rfl, cat_one (a.pa.mono b07.tk) (by omega) fun pv8 H8 k8 ip8 =>
            ⟨_, rfl, _, rfl, _, rfl, cat_one ((a.ta.mono b07.tk).mono k8.tk) (by omega) fun uv9 H9 k9 it9 => ⟨_, rfl, ?_⟩⟩⟩
          have k79 := k8.trans k9
          have b09 := b07.trans k79.but (c := m)
          have rd9 := rd7.kp k79
          have hgl9 := k79 _ _ hgl7
          have av9 : Av (fun a => c a ∨ a = g) H9 := (a.av.but b09 rd9.not).more (NoT.of hgl9 (fun _ z => nomatch z))
          have avt : Av (fun a => c a ∨ a = g) (upd H' tt (.tup [.int (i : Nat), y])) := (a.av.but b0t (rd.kp kt).not).more (NoT.of (kt _ _ hgl) (fun _ z => nomatch z))
          have b49 : But m H4 H9 := ((k46.but.trans bt).trans k7.but).trans k79.but
          have fth : Fit a0 th := fr.2 th (List.mem_of_getElem? hth)
          have dep1 := t1.dep_k
          have dep1' : 1 + a0.depth ≤ t1.dep := dep1
          refine ⟨(fun a => c a ∨ a = g), s, m, kb, u1, G.put x a0, r.put x th, x2, pv8, .ref g2, uv9, rv, pl ++ [1], tu ++ [(i : Int)], ro, j + i1 + n', b + 1, rfl, trivial, ?_, ?_, ?_⟩
          · exact { rd := rd9, cm := .inl a.cm, av := av9, tr := r2.mono b09.tk, ht := by omega, sz := by omega, dp := by omega, sc := a.sc.2, fe := a.fe.put x fth,
                    en := ⟨g2, _, rfl, k79 _ _ upd_same, avt.new hg2, ((ek.more hgH).mono (b09.lk (.inl a.cm))).put x ((rth.more hgH4).mono (b49.lk (.inl a.cm))) (by omega) fth⟩, bn := by omega, pa := ip8.mono k9.tk, ta := it9, ra := a.ra.mono b09.tk,
                    pn := by rw [List.length_append]; show pl.length + 1 + _ ≤ _; omega, tn := by rw [List.length_append]; show tu.length + 1 + _ ≤ _; omega, rn := by omega, cn := by omega }
          · intro i2 dv2 v2 H10 ed2 b10 rd10 rv10
            have hgl10 : H10 g = some (.lst acc) := b10.old _ _ (rd.ne_lst hgl) hgl9
            have lk : Lk (fun a => c a ∨ a = g) H10 (upd H10 g (.lst (acc ++ [v2]))) := Lk.at (.inr rfl) (NoT.of hgl10 (fun _ z => nomatch z))
            refine ⟨g, acc, v2, rfl, rfl, hgl10, line_lt (by omega), ⟨_, _, _, rfl⟩, acc ++ [v2], ms ++ [dv2], n' + i2, (((bt.trans k7.but).trans k79.but).trans b10).put hg, ?_, upd_same, ?_, ea.ok hth ed2, by rw [List.length_append, lacc]; rfl⟩
            · rw [← Nat.add_assoc]
              exact rd10.put hgl10
            · exact Paired.app (Paired.mapP pa fun _ _ z => ((z.mono (k7.trans k79).lk).mono (b10.lk (.inl a.cm))).mono lk) (.cons (rv10.mono lk) .nil)
          · intro i2 wd p2 q2 d2 H10 ed2 b10 hd2 st
            refine qst (i1 + (n' + i2)) wd (1 :: p2) ((i : Int) :: q2) d2 H10 ?_ (b09.trans b10) (b09.free hd2) ?_
            · rw [eq2, ea.stop hth ed2]
              rfl
            · rw [List.append_assoc, List.append_assoc] at st
              exact st
        · rintro σ H' ⟨⟨v9, v10, v11, rfl⟩, acc, ms, n', bt, rd, hgl, pa, ea, lacc⟩
          rw [Paired.len pr] at ea
          have efin := ea.fin
          have eq3 : den (.each x t1 u1) r = .ok (i1 + (n' + 1)) ms := by
            rw [eq2, efin]
            rfl
          have cnt4 : (den (.each x t1 u1) r).cnt = i1 + (n' + 1) := by rw [eq3]; rfl
          have b07 := b06.trans bt
          have hd7 : H' d = some (.dK kvs) := b07.old _ _ (a.rd.ne_dk hd) hd
          have hl7 : H' dd = some (.lst (l4.map V.str)) := bt.old _ _ (rd6.ne_lst hl4) hl4
          have hq7 : H' q = some (.lst xs) := bt.old _ _ (rd6.ne_lst (k46 _ _ hq)) (k46 _ _ hq)
          obtain ⟨dx7, hs7⟩ := rd.1
          refine ⟨_, rfl, s, dx7, _, rfl, hs7, lN, _, rfl, _, rfl, _, rfl, q, _, rfl, .inl (SqL.of hq7), _, rfl, _, rfl, dd, l4, d, kvs, rfl, hl7, hd7, fun y hy => ?_, by omega, fun m1 H9 k9 => ⟨_, _, rfl, rfl, _, _, rfl, rfl, .inl ⟨by omega, by omega⟩, _, _, rfl, rfl, ?_⟩⟩
          · obtain ⟨v, hv, wv⟩ := (ek.mono (b07.lk a.cm)).free (t := .each x t1 u1) a.sc (.inr (f4 y hy))
            exact ⟨v, hv, wv⟩
          · refine ⟨s, m, j + i1 + n', qv, rv, pl, ro, _, rfl, rd.kp k9, (a.pa.mono b07.tk).mono k9.tk, (a.ra.mono b07.tk).mono k9.tk, by omega, fun H11 b11 rd11 => ?_⟩
            refine ⟨_, rfl, qok (i1 + (n' + 1)) ms (.ref g) H11 eq3 ((b07.trans k9.but).trans b11) ?_ ⟨g, acc, rfl, ?_, ?_, ?_⟩⟩
            · have e9 : j + (i1 + (n' + 1)) = j + i1 + n' + 1 := by omega
              rw [e9]
              exact rd11
            · exact b11.old _ _ (rd.ne_lst hgl) (k9 _ _ hgl)
            · exact a.av.new hgH
            · exact Paired.mapP pa fun _ _ z => ((z.mono k9.lk).mono (b11.lk (.inl a.cm))).less
    · intro i1 wd p2 q2 d2 H4 ed b4 hd2 st
      refine qst i1 wd (0 :: p2) q2 d2 H4 ?_ (k3.but.trans b4) (k3.free hd2) ?_
      · rw [eden, Res.bind_st ed]
        rfl
      · rw [List.append_assoc] at st
        exact st
end
end Br
/-! Reading.turned. -/
namespace Br
open PySem L2
open PySem.Spec PyProof.Rows
section
variable {P : Program} {w : World} {K : PySem.W.Frag} {mg : Str → Option Value} {base : Heap} {aC aB f C CS : Addr} {fd : FuncData}
set_option maxHeartbeats 1000000 in
theorem fn_R_turned (T : Tp K mg aC aB) (R : RX P w K mg base C CS) (F : MAt K C "turned" "Reading.turned" s_R_turned p_R_turned f fd) {n k0 : Nat} (hk0 : 10 ≤ k0) (c_free_names : Fn P w K mg base k0 "free_names" (spFree n)) (c_turns_word : Fn P w K mg base 1 "turns_word" spTurns)
    (c_sizes_of : Fn P w K mg base 7 "sizes_of" (spSizesOf 6)) (c_note : Mn P w K mg base CX0 C 1 "note" (spNote P w C)) (c_worth : Mn P w K mg base (L2.CX P w) C k0 "worth" (spW P w C CS anyT n)) :
    Mn P w K mg base (L2.CX P w) C (k0 + 1) "turned" (spW P w C CS isTimes (n + 1)) := by
  refine mn_byX F sc_R_turned ?_ (fun cdv A outer s0 H vs Q E hr h => ?_)
  · rintro vs H Q E ⟨c, s, m, k, t, G, r, tv, qv, dv, uv, rv, pl, tu, ro, j, b, rfl, _⟩
    rfl
  obtain ⟨c, s, m, k, t, G, r, tv, qv, dv, uv, rv, pl, tu, ro, j, b, rfl, sh, a, qok, qst⟩ := h
  refine ⟨_, (pss_cons (ps_set (i := 6) sc_R_turned.nd rfl (by first | exact Or.inl rfl | exact Or.inr rfl) (pe_mnX (pv 0) rfl R.cl c_worth hr (by omega) (takes_of rfl rfl rfl rfl) (pa_cons (pe_ix (k_ixt K rfl) (pv 1) (pe_int) (fun _ _ => rfl)) (pa_cons (pe_op (k_cat K rfl) (pv 2) (pe_tup (pa_cons (pe_int) pa_nil))) (pa_cons (pv 3) (pa_cons (pv 4) (pa_cons (pv 5) pa_nil)))))))
  (pss_cons (ps_set (i := 7) sc_R_turned.nd rfl (by first | exact Or.inl rfl | exact Or.inr rfl) (pe_mnX (pv 0) rfl R.cl c_worth hr (by omega) (takes_of rfl rfl rfl rfl) (pa_cons (pe_ix (k_ixt K rfl) (pv 1) (pe_int) (fun _ _ => rfl)) (pa_cons (pe_op (k_cat K rfl) (pv 2) (pe_tup (pa_cons (pe_int) pa_nil))) (pa_cons (pv 3) (pa_cons (pv 4) (pa_cons (pv 5) pa_nil)))))))
  (pss_cons (ps_set (i := 8) sc_R_turned.nd rfl (by first | exact Or.inl rfl | exact Or.inr rfl) (pe_fn c_turns_word hr (by omega) (by rfl) (pa_cons (pv 6) pa_nil)))
  (pss_cons (ps_if (pt_cmpR op_notN (pv 8) (pe_non) (nomark _)) (pss_one (ps_raise rfl (takes_of rfl rfl rfl rfl) (R.pmk hr (by omega) (by rfl) (pa_cons (pv 8) (pa_cons (pv 2) (pa_cons (pv 4) pa_nil)))))) pss_nil)
  (pss_cons (ps_setLc (i := 9) (own := [("name", 12)]) rfl sc_R_turned.nd rfl rfl (sw_true rfl rfl rfl (by decide +kernel)) (k_pil K rfl (pe_fn c_free_names hr (by omega) (by rfl) (pa_cons (pe_ix (k_ixt K rfl) (pv 1) (pe_int) (fun _ _ => rfl)) pa_nil))) (blkOk_by (own := [("name", 12)]) (by rfl)) (fun _ _ _ _ _ => (pg_name (i := 12) sc_R_turned.nd rfl (by first | exact Or.inl rfl | exact Or.inr rfl))) (fun _ _ _ _ _ => (pts_one (pt_cmpR op_ne (pv 12) (pe_ix (k_ixt K rfl) (pv 1) (pe_int) (fun _ _ => rfl)) (nomark _)))) (fun _ _ _ _ _ => (pv 12)))
  (pss_cons (ps_for (passes_of rfl) rfl (pi_range1 (by rfl) T.range (pa_cons (pv 6) pa_nil)) (pg_name (i := 10) sc_R_turned.nd rfl (by first | exact Or.inl rfl | exact Or.inr rfl)) (pss_cons (ps_set (i := 11) sc_R_turned.nd rfl (by first | exact Or.inl rfl | exact Or.inr rfl) (pe_callTy cr_dictOf (by rfl) T.dict (by decide +kernel) (pa_cons (pv 3) pa_nil)))
  (pss_cons (ps_dput (hu_of hr) (pv 11) (pe_ix (k_ixt K rfl) (pv 1) (pe_int) (fun _ _ => rfl)) (pv 7) rfl)
  (pss_one (ps_set (i := 7) sc_R_turned.nd rfl (by first | exact Or.inl rfl | exact Or.inr rfl) (pe_mnX (pv 0) rfl R.cl c_worth hr (by omega) (takes_of rfl rfl rfl rfl) (pa_cons (pe_ix (k_ixt K rfl) (pv 1) (pe_int) (fun _ _ => rfl)) (pa_cons (pe_op (k_cat K rfl) (pv 2) (pe_tup (pa_cons (pe_int) pa_nil))) (pa_cons (pv 11) (pa_cons (pe_op (k_cat K rfl) (pv 4) (pe_tup (pa_cons (pv 10) pa_nil))) (pa_cons (pe_op (k_cat K rfl) (pv 5) (pe_tup (pa_cons (pv 10) pa_nil))) pa_nil)))))))))))
  (pss_cons (ps_expr (pe_mn (pv 0) rfl R.cl c_note hr (by omega) (pa_cons (pv 2) (pa_cons (pv 5) (pa_cons (pe_op op_add (pe_int) (pe_op op_mul (pv 6) (pe_op op_add (pe_int) (pe_fn c_sizes_of hr (by omega) (by rfl) (pa_cons (pv 9) (pa_cons (pv 3) pa_nil)))))) pa_nil)))))
  (pss_one (ps_ret (pv 7)))))))))), ?_⟩
  have lW : List.lookup ("worth" : Str) [(("met" : Str), V.ref m)] = none := lk_none (by decide +kernel)
  have lN : List.lookup ("note" : Str) [(("met" : Str), V.ref m)] = none := lk_none (by decide +kernel)
  cases t with
  | num => exact sh.elim
  | yes => exact sh.elim
  | no => exact sh.elim
  | none => exact sh.elim
  | op1 => exact sh.elim
  | op2 => exact sh.elim
  | name => exact sh.elim
  | lt => exact sh.elim
  | ite => exact sh.elim
  | each => exact sh.elim
  | times x t0 t1 u1 =>
    obtain ⟨p, x0, x1, x2, rfl, hp, r0, r1, r2⟩ := id a.tr
    obtain ⟨d, kvs, rfl, hd, nd, ek⟩ := id a.en
    have ht0 : max t0.ht (max t1.ht u1.ht) + 1 ≤ n + 1 := a.ht
    have sz0 : 1 + (t0.size + (t1.size + u1.size)) ≤ 1000 := a.sz
    have dp0 : max k.depth (max t0.dep (max t1.dep u1.dep)) ≤ 6 := a.dp
    have bn0 : b + (max t0.ht (max t1.ht u1.ht) + 1) ≤ 1000 := a.bn
    have pn0 : pl.length + (max t0.ht (max t1.ht u1.ht) + 1) ≤ 1000 := a.pn
    have tn0 : tu.length + (max t0.ht (max t1.ht u1.ht) + 1) ≤ 1000 := a.tn
    have rn0 : ro.length + (max t0.ht (max t1.ht u1.ht) + 1) ≤ 1000 := a.rn
    have ekl := ek.len
    obtain ⟨f1, hf1⟩ : ∃ f1 : D .num → D k → Res (D k), f1 = fun mm d => if 0 ≤ (dI mm) ∧ (dI mm) ≤ 60 then (timesR (fun d => den u1 (r.put x (a := k) d)) 0 (dI mm).toNat d).bind fun e => .ok 1 e else .stop 0 .far [] [] := ⟨_, rfl⟩
    have eden : den (.times x t0 t1 u1) r = ((den t0 r).pre 0 []).bind fun mm => ((den t1 r).pre 1 []).bind (f1 mm) := by
      rw [hf1]
      rfl
    have cn := a.cn
    have u1c : (den t0 r).cnt ≤ (den (.times x t0 t1 u1) r).cnt := by
      have z := Res.cnt_le ((den t0 r).pre 0 []) (fun mm => ((den t1 r).pre 1 []).bind (f1 mm))
      rw [Res.cnt_pre] at z
      rw [eden]
      exact z
    obtain ⟨dx, hs⟩ := a.rd.1
    refine ⟨_, rfl, s, dx, _, rfl, hs, lW, _, rfl, _, _, _, _, rfl, rfl, SqT.of hp, atI_two, _, rfl, cat_one a.pa (by omega) fun pv' H3 k3 ip3 => ⟨_, rfl, _, rfl, _, rfl, ?_⟩⟩
    have rd3 := a.rd.kp k3
    refine ⟨c, s, m, _, t0, G, r, x0, pv', _, uv, rv, pl ++ [0], tu, ro, j, b, rfl, trivial, ?_, ?_, ?_⟩
    · exact { rd := rd3, cm := a.cm, av := a.av.kp k3, tr := r0.mono k3.tk, ht := by omega, sz := by omega, dp := by omega, sc := a.sc.1, fe := a.fe, en := a.en.kp k3, bn := by omega, pa := ip3, ta := a.ta.mono k3.tk, ra := a.ra.mono k3.tk,
              pn := by rw [List.length_append]; show pl.length + 1 + _ ≤ _; omega, tn := by omega, rn := by omega, cn := by omega }
    · intro i1 mm v H4 ed b4 rd4 rv4
      have ev : v = .int (dI mm) := rv4
      subst ev
      have b04 : But m H H4 := k3.but.trans b4
      have eq2 : den (.times x t0 t1 u1) r = (((den t1 r).pre 1 []).bind (f1 mm)).plus i1 := by rw [eden, Res.bind_of ed]
      have cnt2 : (den (.times x t0 t1 u1) r).cnt = i1 + (((den t1 r).pre 1 []).bind (f1 mm)).cnt := by
        rw [eq2]
        exact Res.cnt_plus _ _
      have u2c : (den t1 r).cnt ≤ (((den t1 r).pre 1 []).bind (f1 mm)).cnt := by
        have z := Res.cnt_le ((den t1 r).pre 1 []) (f1 mm)
        rw [Res.cnt_pre] at z
        exact z
      obtain ⟨dx4, hs4⟩ := rd4.1
      refine ⟨_, rfl, s, dx4, _, rfl, hs4, lW, _, rfl, _, _, _, _, rfl, rfl, SqT.of (b04.tup _ _ hp), atI_three, _, rfl, cat_one (a.pa.mono b04.tk) (by omega) fun pv5 H5 k5 ip5 => ⟨_, rfl, _, rfl, _, rfl, ?_⟩⟩
      have b05 := b04.trans k5.but (c := m)
      have rd5 := rd4.kp k5
      refine ⟨c, s, m, _, t1, G, r, x1, pv5, _, uv, rv, pl ++ [1], tu, ro, j + i1, b, rfl, trivial, ?_, ?_, ?_⟩
      · exact { rd := rd5, cm := a.cm, av := a.av.but b05 rd5.not, tr := r1.mono b05.tk, ht := by omega, sz := by omega, dp := by omega, sc := a.sc.2.1, fe := a.fe, en := a.en.mono b05 a.cm, bn := by omega, pa := ip5, ta := a.ta.mono b05.tk, ra := a.ra.mono b05.tk,
                pn := by rw [List.length_append]; show pl.length + 1 + _ ≤ _; omega, tn := by omega, rn := by omega, cn := by omega }
      · intro i2 d0 cv H6 ed2 b6 rd6 rv6
        have b06 : But m H H6 := b05.trans b6
        have fd0 : Fit k d0 := den_fit t1 a.sc.2.1 a.fe ed2
        have eq3 : den (.times x t0 t1 u1) r = ((f1 mm d0).plus i2).plus i1 := by rw [eq2, Res.bind_of ed2]
        have cnt3 : (den (.times x t0 t1 u1) r).cnt = i1 + (i2 + (f1 mm d0).cnt) := by
          rw [eq3]
          rw [Res.cnt_plus, Res.cnt_plus]
        refine ⟨_, rfl, dI mm, rfl, ?_⟩
        by_cases ok : 0 ≤ dI mm ∧ dI mm ≤ 60
        · rw [if_pos ok]
          have ef1 : f1 mm d0 = (timesR (fun d => den u1 (r.put x (a := k) d)) 0 (dI mm).toNat d0).bind fun e => .ok 1 e := by
            rw [hf1]
            exact if_pos ok
          have cnt4 : (timesR (fun d => den u1 (r.put x (a := k) d)) 0 (dI mm).toNat d0).cnt ≤ (f1 mm d0).cnt := by
            rw [ef1]
            exact Res.cnt_le _ _
          refine ⟨_, rfl, rfl, _, rfl, itF rfl ?_⟩
          refine ⟨_, rfl, _, _, _, _, rfl, rfl, SqT.of (b06.tup _ _ hp), atI_four, k, u1, x2, rfl, r2.mono b06.tk, by omega, by omega, fun l fl H7 k7 nf hl fy ln => ⟨fl, rfl, ⟨_, SqL.of hl⟩, fun dd hdd => lc_list (K := K) (a := fl) (xs := l.map V.str)
            (fun jj H' => ∃ l4 : List Str, Kp H7 H' ∧ H' dd = some (.lst (l4.map V.str)) ∧ (∀ y ∈ l4, Fre u1 y ∧ y ≠ x) ∧ l4.length ≤ jj)
            ⟨[], Kp.new hdd, upd_same, fun y hy => absurd hy (by simp), Nat.le_refl _⟩ (fun jj H' _ pv => ?_) ?_ ?_⟩⟩
          · obtain ⟨l4, kp4, _⟩ := pv
            exact SqL.of (kp4 _ _ hl)
          · rintro jj y H' hj ⟨l4, kp4, h4, f4, len4⟩
            obtain ⟨z, hz, rfl⟩ := str_get hj
            have jl : jj < l.length := (List.getElem?_eq_some_iff.mp hz).1
            refine ⟨rfl, _, rfl, _, rfl, _, _, _, _, rfl, rfl, SqT.of ((k7.trans kp4) _ _ (b06.tup _ _ hp)), atI_one, rfl, _, rfl, itB (fun en => ?_) (fun en => ?_)⟩
            · have ne : z ≠ x := fun q3 => by
                subst q3
                simp at en
              refine ⟨_, rfl, _, h4, line_lt (by rw [List.length_map]; omega), l4 ++ [z], kp4.put hdd, by rw [upd_same, List.map_append]; rfl, fun y hy => ?_, by rw [List.length_append]; show l4.length + 1 ≤ _; omega⟩
              rcases List.mem_append.mp hy with cc | cc
              · exact f4 y cc
              · rw [List.mem_singleton.mp cc]
                exact ⟨fy z (List.mem_of_getElem? hz), ne⟩
            · exact ⟨l4, kp4, h4, f4, by omega⟩
          · rintro H8 ⟨l4, kp4, hl4, f4, len4⟩
            rw [List.length_map] at len4
            have k68 : Kp H6 H8 := k7.trans kp4
            have b08 : But m H H8 := b06.trans k68.but
            have rd8 := rd6.kp k68
            refine ⟨_, rfl, dI mm, rfl, by omega, by omega, for_range (lo := 0) (n := (dI mm).toNat)
              (fun i σ H' => ∃ v10 v11 cv2 d2 n', σ = [some (.ref s), some (.ref p), some qv, some (.ref d), some uv, some rv, some (.int (dI mm)), some cv2, some .non, some (.ref dd), v10, v11, none] ∧
                But m H8 H' ∧ RdAt P w C H' s m (j + i1 + i2 + n') ∧ RepW c H' k cv2 d2 ∧ Fit k d2 ∧ TimesAt (fun d => den u1 (r.put x (a := k) d)) (dI mm).toNat d0 i d2 n')
              ⟨none, none, cv, d0, 0, rfl, But.refl, rd8, rv6.mono k68.lk, fd0, TimesAt.zero⟩ ?_ ?_⟩
            · rintro i σ H' hi ⟨v10, v11, cv2, d2, n', rfl, bt, rd, rvc, fc, ta⟩
              have cntT := ta.cnt hi
              have b0t : But m H H' := b08.trans bt
              have hdt : H' d = some (.dK kvs) := b0t.old _ _ (a.rd.ne_dk hd) hd
              refine ⟨_, rfl, d, kvs, rfl, hdt, fun g2 hg2 => ?_⟩
              have kg2 : Kp H' (upd H' g2 (.dK kvs)) := Kp.new hg2
              refine ⟨_, rfl, _, rfl, _, rfl, _, _, _, _, rfl, rfl, SqT.of (kg2 _ _ (b0t.tup _ _ hp)), atI_one, g2, _, rfl, DPut.k (k := Sum.inr x) upd_same (line_lt (by omega)), ?_⟩
              rw [upd_upd]
              have kp9 : Kp H' (upd H' g2 (.dK (putK kvs (Sum.inr x) cv2))) := Kp.new hg2
              have b09 := b0t.trans kp9.but (c := m)
              have rd9 := rd.kp kp9
              obtain ⟨dx9, hs9⟩ := rd9.1
              refine ⟨_, rfl, s, dx9, _, rfl, hs9, lW, _, rfl, _, _, _, _, rfl, rfl, SqT.of (b09.tup _ _ hp), atI_four, _, rfl, cat_one (a.pa.mono b09.tk) (by omega) fun pv10 H10 k10 ip10 =>
                ⟨_, rfl, _, rfl, _, rfl, cat_one ((a.ta.mono b09.tk).mono k10.tk) (by omega) fun uv11 H11 k11 it11 => ⟨_, rfl, _, rfl, cat_one (((a.ra.mono b09.tk).mono k10.tk).mono k11.tk) (by omega) fun rv12 H12 k12 ir12 => ?_⟩⟩⟩
              have k912 := (k10.trans k11).trans k12
              have b12 := b09.trans k912.but (c := m)
              have rd12 := rd9.kp k912
              have dep1 := t1.dep_k
              refine ⟨c, s, m, k, u1, G.put x k, r.put x d2, x2, pv10, .ref g2, uv11, rv12, pl ++ [2], tu ++ [0 + (i : Int)], ro ++ [0 + (i : Int)], j + i1 + i2 + n', b + 1, rfl, trivial, ?_, ?_, ?_⟩
              · exact { rd := rd12, cm := a.cm, av := a.av.but b12 rd12.not, tr := r2.mono b12.tk, ht := by omega, sz := by omega, dp := by omega, sc := a.sc.2.2, fe := a.fe.put x fc,
                        en := ⟨g2, _, rfl, k912 _ _ upd_same, (a.av.but b0t rd.not).new hg2, ((ek.mono (b0t.lk a.cm)).put x rvc (by omega) fc).mono (kp9.trans k912).lk⟩, bn := by omega, pa := (ip10.mono k11.tk).mono k12.tk, ta := it11.mono k12.tk, ra := ir12,
                        pn := by rw [List.length_append]; show pl.length + 1 + _ ≤ _; omega, tn := by rw [List.length_append]; show tu.length + 1 + _ ≤ _; omega, rn := by rw [List.length_append]; show ro.length + 1 + _ ≤ _; omega, cn := by omega }
              · intro i3 d3 v3 H13 ed3 b13 rd13 rv13
                refine ⟨_, _, v3, d3, n' + i3, rfl, ((bt.trans kp9.but).trans k912.but).trans b13, ?_, rv13, ?_, ta.ok hi ed3⟩
                · rw [← Nat.add_assoc]
                  exact rd13
                · exact den_fit u1 a.sc.2.2 (a.fe.put x fc) ed3
              · intro i3 wd p2 q2 d3 H13 ed3 b13 hd3 st
                refine qst (i1 + (i2 + (n' + i3))) wd (2 :: p2) ((i : Int) :: q2) d3 H13 ?_ (b12.trans b13) (b12.free hd3) ?_
                · rw [eq3, ef1, ta.stop hi ed3]
                  rfl
                · rw [List.append_assoc, List.append_assoc, Int.zero_add] at st
                  exact st
            · rintro σ H' ⟨v10, v11, cv2, d2, n', rfl, bt, rd, rvc, fc, ta⟩
              have efin := ta.fin
              have eq4 : den (.times x t0 t1 u1) r = .ok (i1 + (i2 + (n' + 1))) d2 := by
                rw [eq3, ef1, efin]
                rfl
              have cnt5 : (den (.times x t0 t1 u1) r).cnt = i1 + (i2 + (n' + 1)) := by rw [eq4]; rfl
              have b09 := b08.trans bt
              have hd9 : H' d = some (.dK kvs) := b09.old _ _ (a.rd.ne_dk hd) hd
              have hl9 : H' dd = some (.lst (l4.map V.str)) := bt.old _ _ (rd8.ne_lst hl4) hl4
              obtain ⟨dx9, hs9⟩ := rd.1
              refine ⟨_, rfl, s, dx9, _, rfl, hs9, lN, _, rfl, _, rfl, _, rfl, _, rfl, _, rfl, dd, l4, d, kvs, rfl, hl9, hd9, fun y hy => ?_, by omega, fun m1 H10 k10 => ⟨_, _, rfl, rfl, _, _, rfl, rfl, .inl ⟨by omega, by omega⟩, _, _, rfl, rfl, ?_⟩⟩
              · obtain ⟨v, hv, wv⟩ := (ek.mono (b09.lk a.cm)).free (t := .times x t0 t1 u1) a.sc (.inr (.inr (f4 y hy)))
                exact ⟨v, hv, wv⟩
              · refine ⟨s, m, j + i1 + i2 + n', qv, rv, pl, ro, _, rfl, rd.kp k10, (a.pa.mono b09.tk).mono k10.tk, (a.ra.mono b09.tk).mono k10.tk, by omega, fun H11 b11 rd11 => ?_⟩
                refine ⟨_, rfl, qok (i1 + (i2 + (n' + 1))) d2 cv2 H11 eq4 ((b09.trans k10.but).trans b11) ?_ ((rvc.mono k10.lk).mono (b11.lk a.cm))⟩
                have e9 : j + (i1 + (i2 + (n' + 1))) = j + i1 + i2 + n' + 1 := by omega
                rw [e9]
                exact rd11
        · rw [if_neg ok]
          refine ⟨_, rfl, rfl, _, rfl, itT rfl ?_⟩
          have ef1 : f1 mm d0 = .stop 0 .far [] [] := by
            rw [hf1]
            exact if_neg ok
          refine ⟨_, rfl, _, rfl, _, rfl, ?_⟩
          refine stop_made (wd := .far) b06 rd6 (a.pa.mono b06.tk) (a.ta.mono b06.tk) fun d3 H7 b7 hd3 st => ?_
          refine qst (i1 + (i2 + 0)) .far [] [] d3 H7 ?_ b7 hd3 ?_
          · rw [eq3, ef1]
            rfl
          · rw [List.append_nil, List.append_nil]
            exact st
      · intro i2 wd p2 q2 d2 H6 ed2 b6 hd2 st
        refine qst (i1 + i2) wd (1 :: p2) q2 d2 H6 ?_ (b05.trans b6) (b05.free hd2) ?_
        · rw [eq2, Res.bind_st ed2]
          rfl
        · rw [List.append_assoc] at st
          exact st
    · intro i1 wd p2 q2 d2 H4 ed b4 hd2 st
      refine qst i1 wd (0 :: p2) q2 d2 H4 ?_ (k3.but.trans b4) (k3.free hd2) ?_
      · rw [eden, Res.bind_st ed]
        rfl
      · rw [List.append_assoc] at st
        exact st
end
end Br
/-! worth at every height; named; read. -/
namespace Br
open PySem L2
open PySem.Spec PyProof.Rows
/-- o.m(e, ..) within a try: what it lets out is asked at the slots as they stand -/
def tMeS (C : Addr) (m : Str) (sp : Sp) (E : L2.St → XK) (ta : TE) (t : TA) : TE := fun σ H Q => ta σ H fun x H1 => ∃ a dx fs, x = .ref a ∧ H1 a = some (.ins C dx fs) ∧ fs.lookup m = none ∧ t σ H1 fun vs H2 => sp (x :: vs) H2 Q (E σ)
theorem pe_mnS {X : Cx} {C C' : Addr} {k j : Nat} {m : Str} {sp : Sp} {E : L2.St → XK} {e o : Expr} {es : List Expr} {to : TE} {t : TA} {pos apos : Pos} {pl : Sem Bool} (ho : PE X o to) (hC : C' = C) (c : Cls X.K C') (M : Mn X.prog X.w X.K X.mg X.base (L2.CX X.prog X.w) C k m sp) (hr : Room j X.A) (hk : k ≤ j)
    (hx : ∀ σ, PassesAt (L2.CX X.prog X.w) X σ (E σ)) (ha : PA X (e :: es) t)
    (hst : starEach (e :: es) X.env = (false, eval e X.env) :: starEach es X.env := by rfl) (hpl : (backTo pos (starEach es X.env)).any (·.1) = false := by rfl)
    (ht : eval (.Call (.Attribute o m apos) (e :: es) [] pos) X.env = (do
      let ov ← eval o X.env
      standAt apos.atName
      let (f, first) ← holding [ov] (getMethod ov m pl)
      callWith pos f first (backTo pos (starEach (e :: es) X.env)) (backToKw pos (keywordEach [] X.env))) := by rfl) :
    PE X (.Call (.Attribute o m apos) (e :: es) [] pos) (tMeS C m sp E to t) := by
  subst hC
  obtain ⟨f, fd, ps, F, hm, b⟩ := M.ex
  refine ⟨fun pins s σ H Q I h => ?_⟩
  refine PySem.W.methodCall_KW (pl := pl) (thn (ho.run pins s σ H _ I h) fun u s1 hh => ?_) ht
  obtain ⟨x, H1, I1, rx, a, dx, fs, rfl, ea, l, q⟩ := hh
  obtain rfl : u = Value.ref a := rx
  refine getmeth_ok I1 ea c hm l ?_
  refine PySem.W.callWith_K (first := [.ref a]) (h₀ := X.base) I.ok.mod.kin hm.kp (thn (ha.run pos pins s1 σ H1 _ I1 q) fun us s2 hh2 => ?_) hst hpl
  obtain ⟨vs, H2, I2, rr, q2⟩ := hh2
  exact ⟨I2.kIn, run_fnS (us := .ref a :: us) (vs := .ref a :: vs) F (hr.mono hk) b (hx σ) I2 (.cons rfl rr) q2⟩
section
variable {P : Program} {w : World} {K : PySem.W.Frag} {mg : Str → Option Value} {base : Heap} {aC aB f C CS fW fA fT fU : Addr} {fd dW dA dT dU : FuncData}
theorem all_worth (T : Tp K mg aC aB) (R : RX P w K mg base C CS) (FW : MAt K C "worth" "Reading.worth" s_R_worth p_R_worth fW dW) (FA : MAt K C "arm" "Reading.arm" s_R_arm p_R_arm fA dA) (FT : MAt K C "things" "Reading.things" s_R_things p_R_things fT dT)
    (FU : MAt K C "turned" "Reading.turned" s_R_turned p_R_turned fU dU) (c_parts : Fn P w K mg base 1 "parts" spParts) (c_done_once : Fn P w K mg base 5 "done_once" spOnce) (c_width_of : Fn P w K mg base 7 "width_of" spWidth) (c_note : Mn P w K mg base CX0 C 1 "note" (spNote P w C))
    (c_size : Fn P w K mg base 6 "size" (spSize 6)) (c_sizes_of : Fn P w K mg base 7 "sizes_of" (spSizesOf 6)) (c_turns_word : Fn P w K mg base 1 "turns_word" spTurns) (c_free : ∀ n, Fn P w K mg base (n + 3) "free_names" (spFree n)) :
    ∀ n, Mn P w K mg base (L2.CX P w) C (10 + 2 * n) "worth" (spW P w C CS anyT n) := by
  intro n
  induction n with
  | zero =>
    refine mn_byX (k := 9) FW sc_R_worth ?_ (fun cdv A outer s0 H vs Q E hr h => ?_)
    · rintro vs H Q E ⟨c, s, m, k, t, G, r, tv, qv, dv, uv, rv, pl, tu, ro, j, b, rfl, _⟩
      rfl
    obtain ⟨c, s, m, k, t, G, r, tv, qv, dv, uv, rv, pl, tu, ro, j, b, rfl, -, a, qok, qst⟩ := h
    exact absurd a.ht (by have := t.ht_pos; omega)
  | succ n ih =>
    have cf := (c_free n).mono (show n + 3 ≤ 10 + 2 * n by omega)
    have ih' := ih.mono (show 10 + 2 * n ≤ 10 + 2 * n + 1 by omega)
    exact fn_R_worth T R FW (k0 := 10 + 2 * n + 1) (by omega) c_parts c_done_once c_width_of c_note ih' (fn_R_arm T R FA (by omega) cf c_size c_sizes_of c_note ih) (fn_R_things T R FT (by omega) cf c_sizes_of c_note ih) (fn_R_turned T R FU (by omega) cf c_turns_word c_sizes_of c_note ih)
end
/-- a head with its worth -/
structure HE where
  x : Str
  k : Kd
  d : D k
def ctxF : Ctx → List HE → Ctx
  | G, [] => G
  | G, e :: l => ctxF (G.put e.x e.k) l
def envF : Env → List HE → Env
  | r, [] => r
  | r, e :: l => envF (r.put e.x e.d) l
def dflt : (k : Kd) → D k
  | .num => (0 : Int)
  | .truth => false
  | .pair a b => (dflt a, dflt b)
  | .row _ => []
def G0 : Ctx := fun _ => none
def r0 : Env := fun k _ => dflt k
def HeadAt (H : Hp) (v : V) (e : HE) : Prop := ∃ a z, v = .ref a ∧ H a = some (.tup [.str e.x, z])
theorem ctxF_app (l : List HE) (e : HE) : ∀ G, ctxF G (l ++ [e]) = (ctxF G l).put e.x e.k := by
  induction l with
  | nil => intro G; rfl
  | cons a l ih => intro G; exact ih _
theorem envF_app (l : List HE) (e : HE) : ∀ r, envF r (l ++ [e]) = (envF r l).put e.x e.d := by
  induction l with
  | nil => intro r; rfl
  | cons a l ih => intro r; exact ih _
theorem FitE.fold : ∀ {l : List HE} {G : Ctx} {r : Env}, FitE G r → (∀ e ∈ l, Fit e.k e.d) → FitE (ctxF G l) (envF r l)
  | [], _, _, h, _ => h
  | e :: l, _, _, h, f => FitE.fold (l := l) (h.put e.x (f e List.mem_cons_self)) fun a ha => f a (List.mem_cons_of_mem _ ha)
theorem FitE.nil : FitE G0 r0 := fun x k h => nomatch h
def spNamed : Sp := fun vs H Q _ => ∃ (c : Addr → Prop) (p q hv : Addr) (tv : V) (hs ws : List V) (es : List HE), vs = [.ref p, .ref q] ∧ Av c H ∧ H p = some (.tup [.ref hv, tv]) ∧ H hv = some (.tup hs) ∧ H q = some (.lst ws) ∧
  Paired (HeadAt H) hs es ∧ Paired (fun v (e : HE) => RepW c H e.k v e.d) ws es ∧ (∀ e ∈ es, e.k.depth ≤ 6 ∧ Fit e.k e.d) ∧ es.length ≤ 10 ∧ ∀ v H', Kp H H' → EnvAt c H' v (ctxF G0 es) (envF r0 es) es.length → Q v H'
def spRead (n : Nat) : Sp := fun vs H Q _ => ∃ (c : Addr → Prop) (p q hv : Addr) (tv : V) (hs ws : List V) (es : List HE) (k : Kd) (t : T k), vs = [.ref p, .ref q] ∧ Av c H ∧ H p = some (.tup [.ref hv, tv]) ∧ H hv = some (.tup hs) ∧ H q = some (.lst ws) ∧
  Paired (HeadAt H) hs es ∧ Paired (fun v (e : HE) => RepW c H e.k v e.d) ws es ∧ (∀ e ∈ es, e.k.depth ≤ 6 ∧ Fit e.k e.d) ∧ es.length ≤ 10 ∧ TreeAt H tv t ∧ t.ht ≤ n ∧ t.size ≤ 1000 ∧ t.dep ≤ 6 ∧ Sc (ctxF G0 es) t ∧ (den t (envF r0 es)).cnt ≤ 16000000 ∧
  ∀ v H', Kp H H' → ToldAt c H' v [] [] (den t (envF r0 es)) → Q v H'
section
variable {P : Program} {w : World} {K : PySem.W.Frag} {mg : Str → Option Value} {base : Heap} {aC aB f C CS : Addr} {fd : FuncData}
theorem fn_named (T : Tp K mg aC aB) (F : At K mg "named" s_named p_named f fd) : Fn P w K mg base 1 "named" spNamed := by
  refine fn_by F sc_named ?_ (fun cdv A outer s H vs Q E hr h => ?_)
  · rintro vs H Q E ⟨c, p, q, hv, tv, hs, ws, es, rfl, _⟩
    rfl
  obtain ⟨c, p, q, hv, tv, hs, ws, es, rfl, av, hp, hh, hq, ph, pw, fit, len, Qk⟩ := h
  refine ⟨_, (pss_cons (ps_set (i := 2) sc_named.nd rfl (by first | exact Or.inl rfl | exact Or.inr rfl) pe_dnewK)
  (pss_cons (ps_for PassesOwn.never rfl (k_zipTL K rfl (by rfl) T.zip (pa_cons (pe_ix (k_ixt K rfl) (pv 0) (pe_int) (fun _ _ => rfl)) (pa_cons (pv 1) pa_nil))) (k_gtup K rfl (n := 2) rfl (pgs_cons (pg_name (i := 3) sc_named.nd rfl (by first | exact Or.inl rfl | exact Or.inr rfl)) (pgs_cons (pg_name (i := 4) sc_named.nd rfl (by first | exact Or.inl rfl | exact Or.inr rfl)) pgs_nil))) (pss_one (ps_dput (hu_of hr) (pv 2) (pe_ix (k_ixt K rfl) (pv 3) (pe_int) (fun _ _ => rfl)) (pv 4) rfl)))
  (pss_one (ps_ret (pv 2))))), ?_⟩
  refine fun g hg => ?_
  have kg : Kp H (upd H g (.dK [])) := Kp.new hg
  refine ⟨_, rfl, _, _, _, _, rfl, rfl, SqT.of (kg _ _ hp), atI_zero, _, rfl, hv, q, hs, ws, rfl, SqT.of (kg _ _ hh), SqL.of (kg _ _ hq), for_TL (K := K) (a := hv) (b := q) (xs := hs) (ys := ws) ((Paired.len ph).trans (Paired.len pw).symm)
    (fun i σ H' => ∃ v3 v4 kvs, σ = [some (.ref p), some (.ref q), some (.ref g), v3, v4] ∧ Kp H H' ∧ H' g = some (.dK kvs) ∧ EnvK c H' kvs (ctxF G0 (es.take i)) (envF r0 (es.take i)) i)
    ⟨none, none, [], rfl, kg, upd_same, ⟨Nat.le_refl _, fun x k h => (nomatch h), fun p hp => absurd hp (by simp)⟩⟩ (fun i σ H' _ pv => ?_) ?_ ?_⟩
  · obtain ⟨v3, v4, kvs, _, kp, _⟩ := pv
    exact ⟨SqT.of (kp _ _ hh), SqL.of (kp _ _ hq)⟩
  · rintro i y z tt σ H' hi hj ⟨v3, v4, kvs, rfl, kp, hgd, ek⟩ ntt
    obtain ⟨e, he, a, zz, rfl, ha⟩ := Paired.at ph hi
    obtain ⟨e', he', rz⟩ := Paired.at pw hj
    obtain rfl : e = e' := by
      rw [he] at he'
      exact Option.some.inj he'
    have kt : Kp H' (upd H' tt (.tup [.ref a, z])) := Kp.new ntt
    have li : i < es.length := (List.getElem?_eq_some_iff.mp he).1
    have el := ek.len
    obtain ⟨f1, f2⟩ := fit e (List.mem_of_getElem? he)
    refine ⟨tt, _, rfl, SqT.of upd_same, rfl, _, _, rfl, _, _, rfl, rfl, ?_⟩
    refine ⟨_, rfl, _, rfl, _, rfl, _, _, _, _, rfl, rfl, SqT.of ((kp.trans kt) _ _ ha), atI_zero, g, _, rfl, DPut.k (k := Sum.inr e.x) (kt _ _ hgd) (line_lt (by omega)), ?_⟩
    refine ⟨_, _, _, rfl, (kp.trans kt).put hg, upd_same, ?_⟩
    rw [take_more he, ctxF_app, envF_app]
    have lk : Lk c H' (upd (upd H' tt (.tup [.ref a, z])) g (.dK (putK kvs (Sum.inr e.x) z))) := kt.lk.trans (Lk.dk (kt _ _ hgd))
    exact (ek.mono lk).put e.x (rz.mono (kp.lk.trans lk)) f1 f2
  · rintro σ H' ⟨v3, v4, kvs, rfl, kp, hgd, ek⟩
    rw [Paired.len ph, List.take_length] at ek
    exact ⟨_, rfl, Qk _ H' kp ⟨g, kvs, rfl, hgd, av.new hg, ek⟩⟩
set_option maxHeartbeats 1000000 in
theorem fn_read (T : Tp K mg aC aB) (R : RX P w K mg base C CS) (F : At K mg "read" s_read p_read f fd) {n k0 : Nat} (hk0 : 10 ≤ k0) (hn : n ≤ 900) (c_named : Fn P w K mg base 1 "named" spNamed) (c_copied : Fn P w K mg base 6 "copied" (spCopied 6))
    (c_worth : Mn P w K mg base (L2.CX P w) C k0 "worth" (spW P w C CS anyT n)) : Fn P w K mg base (k0 + 1) "read" (spRead n) := by
  refine fn_by F sc_read ?_ (fun cdv A outer s0 H vs Q E hr h => ?_)
  · rintro vs H Q E ⟨c, p, q, hv, tv, hs, ws, es, k, t, rfl, _⟩
    rfl
  obtain ⟨c, p, q, hv, tv, hs, ws, es, k, t, rfl, av, hp, hh, hq, ph, pw, fit, len, ht, hht, hsz, hdp, hsc, hcn, Qk⟩ := h
  refine ⟨_, (pss_cons (ps_set (i := 2) sc_read.nd rfl (by first | exact Or.inl rfl | exact Or.inr rfl) (R.mkR hr (by omega) (by rfl)))
  (pss_cons (ps_set (i := 3) sc_read.nd rfl (by first | exact Or.inl rfl | exact Or.inr rfl) (pe_non))
  (pss_cons (ps_try_as (i := 4) (Wout := fun _ _ _ _ => False) rfl rfl sc_read.nd rfl rfl ⟨rfl, by decide, Or.inl R.gS⟩ takes0 (fun W pn xe tk _ => (pss_one (ps_set (i := 3) sc_read.nd rfl (by first | exact Or.inl rfl | exact Or.inr rfl) (pe_tup (pa_cons pe_str (pa_cons (pe_fn c_copied hr (by omega) (by rfl) (pa_cons (pe_mnS (pv 2) rfl R.cl c_worth hr (by omega) (fun σ => passAt tk σ) (pa_cons (pe_ix (k_ixt K rfl) (pv 0) (pe_int) (fun _ _ => rfl)) (pa_cons (pe_tup pa_nil) (pa_cons (pe_fn c_named hr (by omega) (by rfl) (pa_cons (pv 0) (pa_cons (pv 1) pa_nil))) (pa_cons (pe_tup pa_nil) (pa_cons (pe_tup pa_nil) pa_nil)))))) pa_nil)) pa_nil)))))) (fun a oe cls d pn hz hf => (pss_one (ps_set (i := 3) sc_read.nd rfl (by first | exact Or.inl rfl | exact Or.inr rfl) (pe_tup (pa_cons pe_str (pa_cons (pe_xf R.xS R.nW hz hf (pv 4)) (pa_cons (pe_xf R.xS R.nP hz hf (pv 4)) (pa_cons (pe_xf R.xS R.nT hz hf (pv 4)) pa_nil)))))))))
  (pss_one (ps_ret (pv 3)))))), ?_⟩
  -- reading = Reading()
  refine fun x dx nx nd ne => ⟨x, dx, rfl, upd_same, fun H1 m old hx hm nm fm => ⟨rfl, ?_⟩⟩
  have fx : H m = none := by
    have z1 : (upd (upd H dx (.own x)) x (.ins C dx [])) m = none := fm
    rw [upd_ne nm] at z1
    cases e : H m with
    | none => rfl
    | some o =>
      rw [upd_ne (ne_of_none e nd), e] at z1
      cases z1
  have k1 : Kp H H1 := fun a o e => old a o (ne_of_none e nx) (by
    rw [upd_ne (ne_of_none e nx), upd_ne (ne_of_none e nd)]
    exact e)
  have met1 : MetAt P w H1 m 0 := ⟨[], hm, fun e he => absurd he (by simp), Nat.le_refl _⟩
  have rd1 : RdAt P w C H1 x m 0 := ⟨⟨dx, hx⟩, met1, Ne.symm nm⟩
  have recast : ∀ {H2 : Hp}, Kp H1 H2 → ∀ {k : Kd} {v : V} {d : D k}, RepW c H k v d → RepW (fun a => a = m) H2 k v d := by
    intro H2 k2 k v d r
    exact (r.mono (k1.trans k2).lk).recast fun a e => .inr ⟨fun xs z => (rd1.kp k2).not.2 xs (by rw [← e]; exact z), fun xs z => ((rd1.kp k2).ne_lst z) e⟩
  have avm : ∀ {H2 : Hp}, Kp H1 H2 → Av (fun a => a = m) H2 := fun k2 a e => by
    rw [show a = m from e]
    exact (rd1.kp k2).not
  have dep := t.dep_k
  have ffit : FitE (ctxF G0 es) (envF r0 es) := FitE.fold FitE.nil fun e he => (fit e he).2
  have kpn : ∀ {H2 : Hp}, But m H1 H2 → Kp H H2 := fun b a o e => b.old a o (fun z => by rw [z, fx] at e; cases e) (k1 a o e)
  refine ⟨_, rfl, x, dx, _, rfl, hx, lk_none (by decide +kernel), _, rfl, _, _, _, _, rfl, rfl, SqT.of (k1 _ _ hp), atI_one, by show 0 ≤ sizeLine; decide, fun b1 hb1 => ?_⟩
  have k2 : Kp H1 (upd H1 b1 (.tup [])) := Kp.new hb1
  have k02 := k1.trans k2
  refine ⟨_, rfl, _, rfl, (fun a => a = m), p, q, hv, tv, hs, ws, es, rfl, avm k2, k02 _ _ hp, k02 _ _ hh, k02 _ _ hq, Paired.mapP ph fun v e ⟨a, z, e1, e2⟩ => ⟨a, z, e1, k02 _ _ e2⟩, Paired.mapP pw fun v e r => recast k2 r, fit, len, fun v H3 k3 en => ?_⟩
  refine ⟨by show 0 ≤ sizeLine; decide, fun b2 hb2 => ⟨by show 0 ≤ sizeLine; decide, fun b3 hb3 => ?_⟩⟩
  have k4 : Kp H3 (upd H3 b2 (.tup [])) := Kp.new hb2
  have k5 : Kp (upd H3 b2 (.tup [])) (upd (upd H3 b2 (.tup [])) b3 (.tup [])) := Kp.new hb3
  have k15 := ((k2.trans k3).trans k4).trans k5
  have i1 : IntsAt (upd H1 b1 (.tup [])) (.ref b1) [] := ⟨b1, rfl, upd_same⟩
  have i2 : IntsAt (upd H3 b2 (.tup [])) (.ref b2) [] := ⟨b2, rfl, upd_same⟩
  have i3 : IntsAt (upd (upd H3 b2 (.tup [])) b3 (.tup [])) (.ref b3) [] := ⟨b3, rfl, upd_same⟩
  refine ⟨(fun a => a = m), x, m, k, t, ctxF G0 es, envF r0 es, tv, .ref b1, v, .ref b2, .ref b3, [], [], [], 0, es.length, rfl, trivial, ?_, ?_, ?_⟩
  · exact { rd := rd1.kp k15, cm := rfl, av := avm k15, tr := ht.mono (k1.trans k15).tk, ht := hht, sz := hsz, dp := hdp, sc := hsc, fe := ffit, en := (en.kp k4).kp k5, bn := by omega, pa := ((i1.mono k3.tk).mono k4.tk).mono k5.tk, ta := i2.mono k5.tk, ra := i3,
            pn := by show 0 + _ ≤ _; omega, tn := by show 0 + _ ≤ _; omega, rn := by show 0 + _ ≤ _; omega, cn := by omega }
  · intro i d v2 H6 ed b6 rd6 rv6
    have b16 : But m H1 H6 := k15.but.trans b6
    have kp6 := kpn b16
    refine ⟨(fun a => a = m), k, v2, d, rfl, rv6, by omega, den_fit t hsc ffit ed, c, av.kp kp6, fun v7 H7 k7 rv7 => ⟨by show 2 ≤ sizeLine; decide, fun g hg => ?_⟩⟩
    refine ⟨_, rfl, Qk _ _ ((kp6.trans k7).trans (Kp.new hg)) ?_⟩
    rw [ed]
    exact ⟨g, v7, rfl, upd_same, rv7.mono (Kp.new hg).lk⟩
  · intro i wd pp qq d H6 ed b6 hd6 st
    have b16 : But m H1 H6 := k15.but.trans b6
    have kp6 := kpn b16
    obtain ⟨fs, xp, xt, hfs, l1, l2, l3, ip, it⟩ := st
    refine ⟨true, R.te, fun _ a0 ha0 => ?_, fun z => Bool.noConfusion z⟩
    refine ⟨_, rfl, rfl, rfl, d, fs, _, rfl, hfs, l1, _, rfl, rfl, rfl, d, fs, _, rfl, hfs, l2, _, rfl, rfl, rfl, d, fs, _, rfl, hfs, l3, by show 4 ≤ sizeLine; decide, fun g hg => ?_⟩
    refine ⟨_, rfl, Qk _ _ (kp6.trans (Kp.new hg)) ?_⟩
    rw [ed]
    exact ⟨g, xp, xt, rfl, upd_same, ip.mono (Kp.new hg).tk, it.mono (Kp.new hg).tk⟩
end
end Br
/-! The law's own steps on worths. -/
namespace Br
open PySem L2
open PySem.Spec PyProof.Rows
/-- what a step told, as the law tells it -/
def OutL (c : Addr → Prop) (H : Hp) {k : Kd} (v : V) : Except Wd (D k) → Prop
  | .ok d => ∃ p x, v = .ref p ∧ H p = some (.tup [x, .str ""]) ∧ RepW c H k x d
  | .error w => ∃ p x, v = .ref p ∧ H p = some (.tup [x, .str w.str]) ∧ Wt H 6 x
/-- a step's end, as the law tells it -/
def spOutL {k : Kd} (c : Addr → Prop) (r : Except Wd (D k)) (H : Hp) (Q : VK) : Prop := ∀ v H', Kp H H' → OutL (k := k) c H' v r → Q v H'
theorem Wt.nil {H : Hp} {g : Addr} (h : H g = some (.lst [])) : Wt H 6 (.ref g) := .inr (.inr ⟨g, [], rfl, .inr h, Nat.zero_le _, fun x hx => absurd hx (by simp)⟩)
theorem Wt.lst {H : Hp} {g : Addr} {xs : List V} (h : H g = some (.lst xs)) (l : xs.length ≤ 100000) (a : ∀ x ∈ xs, Wt H 5 x) : Wt H 6 (.ref g) := .inr (.inr ⟨g, xs, rfl, .inr h, l, a⟩)
theorem abs_big (i : Int) : decide ((10 : Int) ^ (18 : Int).toNat < if i < 0 then -i else i) = isBig i := by
  unfold isBig
  have e : (10 : Int) ^ (18 : Int).toNat = bnd := by decide
  rw [e]
  have hb : bnd = 1000000000000000000 := rfl
  by_cases h : i < 0
  · rw [if_pos h]
    rw [← Bool.decide_or]
    exact decide_eq_decide.mpr (by omega)
  · rw [if_neg h]
    rw [← Bool.decide_or]
    exact decide_eq_decide.mpr (by omega)
theorem idx_of {ys : List V} {y : V} {j : Nat} (h : (ys.take j).all (fun z => !eqV z y) = true) : ∀ (m : Nat) (z' : V), m < j → ys[m]? = some z' → eqV z' y = false := fun m z' hm hz => by
  have z : z' ∈ ys.take j := by
    rw [List.mem_iff_getElem?]
    exact ⟨m, by rw [List.getElem?_take_of_lt hm]; exact hz⟩
  have := List.all_eq_true.mp h z' z
  simpa using this
theorem cpow18 : CPow 10 18 := by
  unfold CPow
  decide
def spLReck : Sp := fun vs H Q _ => ∃ (o : O2 .num .num .num) (i j : Int) (c : Addr → Prop), vs = [.str o.str, .int i, .int j] ∧ small i ∧ small j ∧ spOutL (k := .num) c (sem2 o i j) H Q
inductive RowOp : {a b : Kd} → O1 a b → Prop
  | long (a : Kd) : RowOp (.long a)
  | most : RowOp .most
  | flat (a : Kd) : RowOp (.flat a)
  | sum : RowOp .sum
  | sums : RowOp .sums
def spLRow : Sp := fun vs H Q _ => ∃ c a b o x d, vs = [.str (o : O1 a b).str, x] ∧ RowOp o ∧ b.depth ≤ 6 ∧ Av c H ∧ RepW c H a x d ∧ Fit a d ∧ spOutL c (sem1 o d) H Q
inductive TwoOp : {a b k : Kd} → O2 a b k → Prop
  | join (a : Kd) : TwoOp (.join a)
  | pick (a : Kd) : TwoOp (.pick a)
  | keep (a : Kd) : TwoOp (.keep a)
  | cut (a : Kd) : TwoOp (.cut a)
def spLTwo : Sp := fun vs H Q _ => ∃ c a b k o x y d e, vs = [.str (o : O2 a b k).str, x, y] ∧ TwoOp o ∧ k.depth ≤ 6 ∧ Av c H ∧ RepW c H a x d ∧ RepW c H b y e ∧ Fit a d ∧ Fit b e ∧ spOutL c (sem2 o d e) H Q
def spLOnce : Sp := fun vs H Q _ => ∃ c p q xs ws k r, vs = [.ref p, .ref q] ∧ k.depth ≤ 6 ∧ Av c H ∧ H p = some (.tup xs) ∧ H q = some (.lst ws) ∧ OnceAt c H (k := k) xs ws r ∧ spOutL c r H Q
section
variable {P : Program} {w : World} {K : PySem.W.Frag} {mg : Str → Option Value} {base : Heap} {aC aB f : Addr} {fd : FuncData}
theorem fmod_as (i j : Int) : i - i.fdiv j * j = i.fmod j := by
  have := Int.mul_fdiv_add_fmod i j
  rw [Int.mul_comm] at this
  omega
theorem fn_law_reckoned (T : Tp K mg aC aB) (F : At K mg "_law_reckoned" s_law_reckoned p_law_reckoned f fd) : Fn P w K mg base 1 "_law_reckoned" spLReck := by
  refine fn_by F sc_law_reckoned ?_ (fun cdv A outer s H vs Q E hr h => ?_)
  · rintro vs H Q E ⟨o, i, j, c, rfl, _⟩
    rfl
  obtain ⟨o, i, j, c, rfl, hi, hj, q⟩ := h
  refine ⟨_, (pss_cons (ps_if (pt_cmpR (k_in K rfl) (pv 0) (pe_tup (pa_cons (pe_str) (pa_cons (pe_str) pa_nil))) rfl) (pss_cons (ps_if (pt_cmpR op_eq (pv 2) (pe_int) (nomark _)) (pss_one (ps_ret (pe_tup (pa_cons (pe_int) (pa_cons (pe_str) pa_nil))))) pss_nil)
  (pss_one (ps_ret (pe_tup (pa_cons (pe_ix (k_ixl K rfl) (pe_lst (pa_cons (pe_op op_fdivZ (pv 1) (pv 2)) (pa_cons (pe_op op_sub (pv 1) (pe_op op_mulW (pe_op op_fdivZ (pv 1) (pv 2)) (pv 2))) pa_nil))) (pe_callTy call_int1 (by rfl) T.int (by decide +kernel) (pa_cons (pe_cmpR op_eq (pv 0) (pe_str) (nomark _)) pa_nil)) (fun _ _ => rfl)) (pa_cons (pe_str) pa_nil)))))) pss_nil)
  (pss_cons (ps_set (i := 3) sc_law_reckoned.nd rfl (by first | exact Or.inl rfl | exact Or.inr rfl) (pe_ix (k_ixl K rfl) (pe_lst (pa_cons (pe_op op_add (pv 1) (pv 2)) (pa_cons (pe_op op_sub (pv 1) (pv 2)) (pa_cons (pe_op op_mulW (pv 1) (pv 2)) pa_nil)))) (k_bm K rfl PySem.F.plainAttrs_list PySem.F.slot_list_index PySem.F.type_list_index (k_index K rfl) (pe_lst (pa_cons (pe_str) (pa_cons (pe_str) (pa_cons (pe_str) pa_nil)))) (pa_cons (pv 0) pa_nil)) (fun _ _ => rfl)))
  (pss_one (ps_ret (pe_tup (pa_cons (pv 3) (pa_cons (pe_ifExp (pt_cmpR op_gt (pe_callB call_abs (by rfl) T.abs (by decide +kernel) (pa_cons (pv 3) pa_nil)) (pe_op op_pow (pe_int) (pe_int)) (nomark _)) (pe_str) (pe_str)) pa_nil))))))), ?_⟩
  have hb : bnd = 1000000000000000000 := rfl
  have hi' := hi
  have hj' := hj
  unfold small at hi' hj'
  have mw : CMulW i j := wide_mul (a := 61) (b := 61) (by omega) (by omega) (by decide) (by decide) (by decide)
  generalize hs : o.str = sg
  cases o with
  | div =>
    obtain rfl : sg = "div" := hs.symm
    refine ⟨_, rfl, by show 2 ≤ sizeLine; decide, fun g hg => ⟨g, _, rfl, .inr (SqT.of upd_same), rfl, rfl, _, rfl, itT (by decide +kernel) ?_⟩⟩
    have k1 : Kp H _ := Kp.new (o := .tup [.str "div", .str "rest"]) hg
    refine ⟨_, rfl, rfl, _, rfl, itB (fun e => ?_) (fun e => ?_)⟩
    · have z : j = 0 := V.int.inj (of_decide_eq_true e)
      refine ⟨by show 2 ≤ sizeLine; decide, fun p hp => q _ _ (k1.trans (Kp.new hp)) ?_⟩
      have e2 : sem2 .div i j = Except.error Wd.nought := if_pos z
      rw [e2]
      exact ⟨p, _, rfl, upd_same, .inl ⟨_, rfl⟩⟩
    · have z : j ≠ 0 := fun n => of_decide_eq_false e (congrArg V.int n)
      have fz := fdiv_abs i z
      refine ⟨_, rfl, _, rfl, _, _, rfl, rfl, ⟨z, by omega⟩, _, rfl, _, rfl, _, rfl, _, _, rfl, rfl, ⟨z, by omega⟩, _, rfl, _, _, rfl, rfl, wide_mul (a := 61) (b := 61) (by omega) (by omega) (by decide) (by decide) (by decide), _, _, rfl, rfl, by show 2 ≤ sizeLine; decide, fun l hl => ?_⟩
      refine ⟨_, rfl, rfl, .inr ⟨false, rfl, l, _, 0, _, rfl, rfl, SqL.of upd_same, atI_zero, by show 2 ≤ sizeLine; decide, fun p hp => q _ _ ((k1.trans (Kp.new hl)).trans (Kp.new hp)) ?_⟩⟩
      have e2 : sem2 .div i j = Except.ok (i.fdiv j) := if_neg z
      rw [e2]
      exact ⟨p, _, rfl, upd_same, rfl⟩
  | rest =>
    obtain rfl : sg = "rest" := hs.symm
    refine ⟨_, rfl, by show 2 ≤ sizeLine; decide, fun g hg => ⟨g, _, rfl, .inr (SqT.of upd_same), rfl, rfl, _, rfl, itT (by decide +kernel) ?_⟩⟩
    have k1 : Kp H _ := Kp.new (o := .tup [.str "div", .str "rest"]) hg
    refine ⟨_, rfl, rfl, _, rfl, itB (fun e => ?_) (fun e => ?_)⟩
    · have z : j = 0 := V.int.inj (of_decide_eq_true e)
      refine ⟨by show 2 ≤ sizeLine; decide, fun p hp => q _ _ (k1.trans (Kp.new hp)) ?_⟩
      have e2 : sem2 .rest i j = Except.error Wd.nought := if_pos z
      rw [e2]
      exact ⟨p, _, rfl, upd_same, .inl ⟨_, rfl⟩⟩
    · have z : j ≠ 0 := fun n => of_decide_eq_false e (congrArg V.int n)
      have fz := fdiv_abs i z
      refine ⟨_, rfl, _, rfl, _, _, rfl, rfl, ⟨z, by omega⟩, _, rfl, _, rfl, _, rfl, _, _, rfl, rfl, ⟨z, by omega⟩, _, rfl, _, _, rfl, rfl, wide_mul (a := 61) (b := 61) (by omega) (by omega) (by decide) (by decide) (by decide), _, _, rfl, rfl, by show 2 ≤ sizeLine; decide, fun l hl => ?_⟩
      refine ⟨_, rfl, rfl, .inr ⟨true, rfl, l, _, 1, _, rfl, rfl, SqL.of upd_same, atI_one, by show 2 ≤ sizeLine; decide, fun p hp => q _ _ ((k1.trans (Kp.new hl)).trans (Kp.new hp)) ?_⟩⟩
      have e2 : sem2 .rest i j = Except.ok (i.fmod j) := if_neg z
      rw [e2]
      refine ⟨p, _, rfl, upd_same, ?_⟩
      show V.int _ = V.int _
      rw [fmod_as]
  | add =>
    obtain rfl : sg = "add" := hs.symm
    refine ⟨_, rfl, by show 2 ≤ sizeLine; decide, fun g hg => ⟨g, _, rfl, .inr (SqT.of upd_same), rfl, rfl, _, rfl, itF (by decide +kernel) ?_⟩⟩
    have k1 : Kp H _ := Kp.new (o := .tup [.str "div", .str "rest"]) hg
    refine ⟨_, rfl, _, rfl, _, _, rfl, rfl, _, rfl, _, rfl, _, _, rfl, rfl, _, rfl, _, rfl, _, _, rfl, rfl, mw, by show 3 ≤ sizeLine; decide, fun l hl => ?_⟩
    have k2 := k1.trans (Kp.new (o := .lst [.int (i + j), .int (i - j), .int (i * j)]) hl)
    refine ⟨by show 3 ≤ sizeLine; decide, fun l2 hl2 => ⟨.inl ⟨rfl, _, SqL.of upd_same⟩, _, rfl, l2, _, _, 0, _, rfl, rfl, SqL.of upd_same, rfl, rfl, rfl, by decide +kernel, idx_of (by decide +kernel), ?_⟩⟩
    have k3 := k2.trans (Kp.new (o := .lst [.str "add", .str "sub", .str "mul"]) hl2)
    refine ⟨l, _, ((0 : Nat) : Int), .int (i + j), rfl, rfl, SqL.of (Kp.new hl2 _ _ upd_same), rfl, ?_⟩
    refine ⟨_, rfl, _, rfl, i + j, rfl, _, _, rfl, rfl, cpow18, _, _, rfl, rfl, _, rfl, itB (fun e => ?_) (fun e => ?_)⟩
    · rw [abs_big] at e
      refine ⟨by show 2 ≤ sizeLine; decide, fun p hp => q _ _ (k3.trans (Kp.new hp)) ?_⟩
      have e2 : sem2 .add i j = Except.error Wd.great := by
        show numR (i + j) = _
        unfold numR
        rw [e]
        exact if_pos rfl
      rw [e2]
      exact ⟨p, _, rfl, upd_same, .inl ⟨_, rfl⟩⟩
    · rw [abs_big] at e
      refine ⟨by show 2 ≤ sizeLine; decide, fun p hp => q _ _ (k3.trans (Kp.new hp)) ?_⟩
      have e2 : sem2 .add i j = Except.ok (i + j) := by
        show numR (i + j) = _
        unfold numR
        rw [e]
        exact if_neg Bool.false_ne_true
      rw [e2]
      exact ⟨p, _, rfl, upd_same, rfl⟩
  | sub =>
    obtain rfl : sg = "sub" := hs.symm
    refine ⟨_, rfl, by show 2 ≤ sizeLine; decide, fun g hg => ⟨g, _, rfl, .inr (SqT.of upd_same), rfl, rfl, _, rfl, itF (by decide +kernel) ?_⟩⟩
    have k1 : Kp H _ := Kp.new (o := .tup [.str "div", .str "rest"]) hg
    refine ⟨_, rfl, _, rfl, _, _, rfl, rfl, _, rfl, _, rfl, _, _, rfl, rfl, _, rfl, _, rfl, _, _, rfl, rfl, mw, by show 3 ≤ sizeLine; decide, fun l hl => ?_⟩
    have k2 := k1.trans (Kp.new (o := .lst [.int (i + j), .int (i - j), .int (i * j)]) hl)
    refine ⟨by show 3 ≤ sizeLine; decide, fun l2 hl2 => ⟨.inl ⟨rfl, _, SqL.of upd_same⟩, _, rfl, l2, _, _, 1, _, rfl, rfl, SqL.of upd_same, rfl, rfl, rfl, by decide +kernel, idx_of (by decide +kernel), ?_⟩⟩
    have k3 := k2.trans (Kp.new (o := .lst [.str "add", .str "sub", .str "mul"]) hl2)
    refine ⟨l, _, ((1 : Nat) : Int), .int (i - j), rfl, rfl, SqL.of (Kp.new hl2 _ _ upd_same), rfl, ?_⟩
    refine ⟨_, rfl, _, rfl, i - j, rfl, _, _, rfl, rfl, cpow18, _, _, rfl, rfl, _, rfl, itB (fun e => ?_) (fun e => ?_)⟩
    · rw [abs_big] at e
      refine ⟨by show 2 ≤ sizeLine; decide, fun p hp => q _ _ (k3.trans (Kp.new hp)) ?_⟩
      have e2 : sem2 .sub i j = Except.error Wd.great := by
        show numR (i - j) = _
        unfold numR
        rw [e]
        exact if_pos rfl
      rw [e2]
      exact ⟨p, _, rfl, upd_same, .inl ⟨_, rfl⟩⟩
    · rw [abs_big] at e
      refine ⟨by show 2 ≤ sizeLine; decide, fun p hp => q _ _ (k3.trans (Kp.new hp)) ?_⟩
      have e2 : sem2 .sub i j = Except.ok (i - j) := by
        show numR (i - j) = _
        unfold numR
        rw [e]
        exact if_neg Bool.false_ne_true
      rw [e2]
      exact ⟨p, _, rfl, upd_same, rfl⟩
  | mul =>
    obtain rfl : sg = "mul" := hs.symm
    refine ⟨_, rfl, by show 2 ≤ sizeLine; decide, fun g hg => ⟨g, _, rfl, .inr (SqT.of upd_same), rfl, rfl, _, rfl, itF (by decide +kernel) ?_⟩⟩
    have k1 : Kp H _ := Kp.new (o := .tup [.str "div", .str "rest"]) hg
    refine ⟨_, rfl, _, rfl, _, _, rfl, rfl, _, rfl, _, rfl, _, _, rfl, rfl, _, rfl, _, rfl, _, _, rfl, rfl, mw, by show 3 ≤ sizeLine; decide, fun l hl => ?_⟩
    have k2 := k1.trans (Kp.new (o := .lst [.int (i + j), .int (i - j), .int (i * j)]) hl)
    refine ⟨by show 3 ≤ sizeLine; decide, fun l2 hl2 => ⟨.inl ⟨rfl, _, SqL.of upd_same⟩, _, rfl, l2, _, _, 2, _, rfl, rfl, SqL.of upd_same, rfl, rfl, rfl, by decide +kernel, idx_of (by decide +kernel), ?_⟩⟩
    have k3 := k2.trans (Kp.new (o := .lst [.str "add", .str "sub", .str "mul"]) hl2)
    refine ⟨l, _, ((2 : Nat) : Int), .int (i * j), rfl, rfl, SqL.of (Kp.new hl2 _ _ upd_same), rfl, ?_⟩
    refine ⟨_, rfl, _, rfl, i * j, rfl, _, _, rfl, rfl, cpow18, _, _, rfl, rfl, _, rfl, itB (fun e => ?_) (fun e => ?_)⟩
    · rw [abs_big] at e
      refine ⟨by show 2 ≤ sizeLine; decide, fun p hp => q _ _ (k3.trans (Kp.new hp)) ?_⟩
      have e2 : sem2 .mul i j = Except.error Wd.great := by
        show numR (i * j) = _
        unfold numR
        rw [e]
        exact if_pos rfl
      rw [e2]
      exact ⟨p, _, rfl, upd_same, .inl ⟨_, rfl⟩⟩
    · rw [abs_big] at e
      refine ⟨by show 2 ≤ sizeLine; decide, fun p hp => q _ _ (k3.trans (Kp.new hp)) ?_⟩
      have e2 : sem2 .mul i j = Except.ok (i * j) := by
        show numR (i * j) = _
        unfold numR
        rw [e]
        exact if_neg Bool.false_ne_true
      rw [e2]
      exact ⟨p, _, rfl, upd_same, rfl⟩
end
end Br
/-! The law's own steps: of_row, of_two. -/
namespace Br
open PySem L2
open PySem.Spec PyProof.Rows
def ab (i : Int) : Int := if i < 0 then -i else i
theorem ab_big (i : Int) : decide ((10 : Int) ^ (18 : Int).toNat < ab i) = isBig i := abs_big i
theorem max_big {l : List Int} {m : Int} (hm : m ∈ (begs 0 l).map ab) (hle : ∀ y ∈ (begs 0 l).map ab, y ≤ m) : decide ((10 : Int) ^ (18 : Int).toNat < m) = bigs l := by
  obtain ⟨b, hb, rfl⟩ := List.mem_map.mp hm
  rw [ab_big]
  unfold bigs
  cases e : isBig b with
  | true => exact (List.any_eq_true.mpr ⟨b, hb, e⟩).symm
  | false =>
    refine (List.any_eq_false.mpr fun y hy => ?_).symm
    have h1 := hle _ (List.mem_map_of_mem (f := ab) hy)
    rw [← ab_big] at e ⊢
    have h2 := of_decide_eq_false e
    intro z
    have h3 := of_decide_eq_true z
    omega
section
variable {P : Program} {w : World} {K : PySem.W.Frag} {mg : Str → Option Value} {base : Heap} {aC aB f : Addr} {fd : FuncData}
theorem fn_law_of_row (T : Tp K mg aC aB) (F : At K mg "_law_of_row" s_law_of_row p_law_of_row f fd) : Fn P w K mg base 1 "_law_of_row" spLRow := by
  refine fn_by F sc_law_of_row ?_ (fun cdv A outer s H vs Q E hr h => ?_)
  · rintro vs H Q E ⟨c, a, b, o, x, d, rfl, _⟩
    rfl
  obtain ⟨c, a, b, o, x, d, rfl, ro, dep, nc, rx, fx, q⟩ := h
  refine ⟨_, (pss_cons (ps_if (pt_cmpR op_eq (pv 0) (pe_str) (nomark _)) (pss_one (ps_ret (pe_tup (pa_cons (pe_callB (k_len K rfl) (by rfl) T.len (by decide +kernel) (pa_cons (pv 1) pa_nil)) (pa_cons (pe_str) pa_nil))))) pss_nil)
  (pss_cons (ps_if (pt_cmpR op_eq (pv 0) (pe_str) (nomark _)) (pss_one (ps_ret (pe_tup (pa_cons (pe_ifExp (pt_cmpR op_gt (pe_callB (k_len K rfl) (by rfl) T.len (by decide +kernel) (pa_cons (pv 1) pa_nil)) (pe_int) (nomark _)) (pe_ix (k_ixl K rfl) (pe_callB (k_sorted K rfl) (by rfl) T.sorted (by decide +kernel) (pa_cons (pv 1) pa_nil)) (pe_un un_neg (pe_int)) (fun _ _ => rfl)) (pe_int)) (pa_cons (pe_ifExp (pt_cmpR op_gt (pe_callB (k_len K rfl) (by rfl) T.len (by decide +kernel) (pa_cons (pv 1) pa_nil)) (pe_int) (nomark _)) (pe_str) (pe_str)) pa_nil))))) pss_nil)
  (pss_cons (ps_if (pt_cmpR op_eq (pv 0) (pe_str) (nomark _)) (pss_cons (ps_set (i := 2) sc_law_of_row.nd rfl (by first | exact Or.inl rfl | exact Or.inr rfl) (pe_lst pa_nil))
  (pss_cons (ps_for PassesOwn.never rfl (k_pil K rfl (pv 1)) (pg_name (i := 3) sc_law_of_row.nd rfl (by first | exact Or.inl rfl | exact Or.inr rfl)) (pss_one (ps_expr (k_bm K rfl PySem.F.plainAttrs_list PySem.F.slot_list_extend PySem.F.type_list_extend mt_extend (pv 2) (pa_cons (pv 3) pa_nil)))))
  (pss_one (ps_ret (pe_tup (pa_cons (pv 2) (pa_cons (pe_ifExp (pt_cmpR op_gt (pe_callB (k_len K rfl) (by rfl) T.len (by decide +kernel) (pa_cons (pv 2) pa_nil)) (pe_int) (nomark _)) (pe_str) (pe_str)) pa_nil))))))) pss_nil)
  (pss_cons (ps_set (i := 4) sc_law_of_row.nd rfl (by first | exact Or.inl rfl | exact Or.inr rfl) (pe_lst (pa_cons (pe_int) pa_nil)))
  (pss_cons (ps_for PassesOwn.never rfl (k_pil K rfl (pv 1)) (pg_name (i := 5) sc_law_of_row.nd rfl (by first | exact Or.inl rfl | exact Or.inr rfl)) (pss_one (ps_expr (k_bm K rfl PySem.F.plainAttrs_list PySem.F.slot_list_append PySem.F.type_list_append mt_append (pv 4) (pa_cons (pe_op op_add (pe_ix (k_ixl K rfl) (pv 4) (pe_un un_neg (pe_int)) (fun _ _ => rfl)) (pv 5)) pa_nil)))))
  (pss_cons (ps_set (i := 6) sc_law_of_row.nd rfl (by first | exact Or.inl rfl | exact Or.inr rfl) (pe_ifExp (pt_cmpR op_gt (pe_callB (k_max K rfl rfl) (by rfl) T.max (by decide +kernel) (pa_cons (pe_lc (own := [("number", 5)]) rfl sc_law_of_row.nd (k_pil K rfl (pv 4)) (blkOk_by (own := [("number", 5)]) (by rfl)) (fun _ _ _ _ _ => (pg_name (i := 5) sc_law_of_row.nd rfl (by first | exact Or.inl rfl | exact Or.inr rfl))) (fun _ _ _ _ _ => pts_nil) (fun _ _ _ _ _ => (pe_callB call_abs (by rfl) T.abs (by decide +kernel) (pa_cons (pv 5) pa_nil)))) pa_nil)) (pe_op op_pow (pe_int) (pe_int)) (nomark _)) (pe_str) (pe_str)))
  (pss_one (ps_ret (pe_tup (pa_cons (pe_ifExp (pt_cmpR op_eq (pv 0) (pe_str) (nomark _)) (pe_ix (k_ixl K rfl) (pv 4) (pe_un un_neg (pe_int)) (fun _ _ => rfl)) (pe_slice (k_sll K rfl) (pv 4) po_none (po_some (pe_un un_neg (pe_int))))) (pa_cons (pv 6) pa_nil))))))))))), ?_⟩
  generalize hs : o.str = sg
  cases ro with
  | long k =>
    obtain rfl : sg = "long" := hs.symm
    obtain ⟨p0, xs, rfl, h0, n0, pr⟩ := rx
    refine ⟨_, rfl, rfl, _, rfl, itT (by decide +kernel) ?_⟩
    refine ⟨_, rfl, p0, _, rfl, .inl (SqL.of h0), by show 2 ≤ sizeLine; decide, fun p hp => q _ _ (Kp.new hp) ⟨p, _, rfl, upd_same, ?_⟩⟩
    rw [Paired.len pr]
    rfl
  | most =>
    obtain rfl : sg = "most" := hs.symm
    obtain ⟨p, rfl, hp, np⟩ := rx.ints
    refine ⟨_, rfl, rfl, _, rfl, itF (by decide +kernel) ?_⟩
    refine ⟨_, rfl, rfl, _, rfl, itT (by decide +kernel) ?_⟩
    have s1 : sem1 .most d = match (dLI d) with
      | [] => .error .empty
      | x :: r => .ok (maxL x r) := rfl
    rw [s1] at q
    generalize dLI d = l at hp q
    refine ⟨_, rfl, p, _, rfl, .inl (SqL.of hp), _, _, rfl, rfl, _, rfl, itB (fun e => ?_) (fun e => ?_)⟩
    · cases l with
      | nil => exact absurd (of_decide_eq_true e) (by simp)
      | cons y r =>
        refine ⟨_, rfl, p, _, rfl, SqL.of hp, fun ns' g pm pw hg => ?_⟩
        obtain ⟨m, z, rfl⟩ : ∃ m z, ns' = m ++ [z] := split_last (fun e2 => by
          rw [e2] at pm
          have := pm.length_eq
          simp at this)
        have hp2 := Kp.new (o := .lst ((m ++ [z]).map V.int)) hg _ _ hp
        have e3 : (m ++ [z]).map V.int = m.map V.int ++ [.int z] := by rw [List.map_append]; rfl
        refine ⟨_, rfl, g, _, _, _, rfl, rfl, SqL.of upd_same, by rw [e3]; exact atI_last _ _, _, rfl, p, _, rfl, .inl (SqL.of hp2), _, _, rfl, rfl, _, rfl, itT e ?_⟩
        refine ⟨by show 2 ≤ sizeLine; decide, fun b hb => q _ _ ((Kp.new hg).trans (Kp.new hb)) ⟨b, _, rfl, upd_same, ?_⟩⟩
        have h1 := maxL_mem r y
        obtain ⟨h2, h3⟩ := maxL_le r y
        have hz : z ∈ y :: r := pm.subset (by simp)
        have h4 : z ≤ maxL y r := by
          rcases List.mem_cons.mp hz with e4 | e4
          · rw [e4]
            exact h2
          · exact h3 z e4
        have h5 : maxL y r ≤ z := by
          have h6 : maxL y r ∈ m ++ [z] := pm.symm.subset h1
          rcases List.mem_append.mp h6 with e4 | e4
          · rw [List.pairwise_append] at pw
            exact pw.2.2 _ e4 z (by simp)
          · rw [List.mem_singleton.mp e4]
            exact Int.le_refl _
        show V.int z = V.int (maxL y r)
        congr 1
        omega
    · cases l with
      | cons y r =>
        have z := of_decide_eq_false e
        rw [List.length_map, List.length_cons] at z
        omega
      | nil =>
        refine ⟨_, rfl, p, _, rfl, .inl (SqL.of hp), _, _, rfl, rfl, _, rfl, itF e ?_⟩
        exact ⟨by show 2 ≤ sizeLine; decide, fun b hb => q _ _ (Kp.new hb) ⟨b, _, rfl, upd_same, .inl ⟨_, rfl⟩⟩⟩
  | flat k =>
    obtain rfl : sg = "flat" := hs.symm
    obtain ⟨p, xs, rfl, hp, np, pr⟩ := id rx
    refine ⟨_, rfl, rfl, _, rfl, itF (by decide +kernel) ?_⟩
    refine ⟨_, rfl, rfl, _, rfl, itF (by decide +kernel) ?_⟩
    refine ⟨_, rfl, rfl, _, rfl, itT (by decide +kernel) ?_⟩
    have len : xs.length ≤ 200 := by
      rw [Paired.len pr]
      exact fx.1
    refine ⟨by show 0 ≤ sizeLine; decide, fun a ha => ?_⟩
    refine ⟨_, rfl, p, rfl, ⟨_, SqL.of ((Kp.new ha) p _ hp)⟩, for_list (K := K) (a := p) (xs := xs) (fun i σ H' => ∃ ys v, σ = [some (.str "flat"), some (.ref p), some (.ref a), v, none, none, none] ∧ Kp H H' ∧ H' a = some (.lst ys) ∧ Paired (RepW c H k) ys ((dLL d).take i).flatten)
      ⟨[], none, rfl, Kp.new ha, upd_same, .nil⟩ (fun i σ H' _ pv => ?_) ?_ ?_⟩
    · obtain ⟨ys, v, _, kp, _⟩ := pv
      exact SqL.of (kp p _ hp)
    · rintro i y σ H' hi ⟨ys, v, rfl, kp, hb, py⟩
      obtain ⟨l, hl, r⟩ := Paired.at pr hi
      obtain ⟨q1, zs, rfl, hq1, nq1, pz⟩ := r
      have hl' : (dLL d)[i]? = some (dL l) := hl
      have hfl : ∀ m ∈ (dLL d).take i, m.length ≤ 200 := fun m hm => (fx.2 m (List.mem_of_mem_take hm)).1
      have z1 := flat_len _ hfl
      have z2 : ((dLL d).take i).length ≤ 200 := by
        rw [List.length_take]
        exact Nat.le_trans (Nat.min_le_right _ _) fx.1
      have z3 : (dL l).length ≤ 200 := (fx.2 l (List.mem_of_getElem? hl)).1
      refine ⟨_, rfl, .inl ⟨rfl, _, SqL.of hb⟩, _, rfl, a, q1, ys, zs, rfl, rfl, hb, kp _ _ hq1, line_le ?_, ys ++ zs, _, rfl, kp.put ha, upd_same, ?_⟩
      · rw [Paired.len py, Paired.len pz]
        omega
      · rw [flat_take hl']
        exact Paired.app py pz
    · rintro σ H' ⟨ys, v, rfl, kp, hb, py⟩
      rw [Paired.len pr] at py
      have e : ((dLL d).take (dL d).length).flatten = (dLL d).flatten := congrArg List.flatten (List.take_length (l := dLL d))
      rw [e] at py
      have s1 : sem1 (.flat k) d = if (dLL d).flatten.length ≤ 200 then .ok (dLL d).flatten else .error .far := rfl
      rw [s1] at q
      refine ⟨_, rfl, _, rfl, a, _, rfl, .inl (SqL.of hb), _, _, rfl, rfl, _, rfl, itB (fun e2 => ?_) (fun e2 => ?_)⟩
      · have z := of_decide_eq_true e2
        rw [Paired.len py] at z
        refine ⟨by show 2 ≤ sizeLine; decide, fun b hb2 => q _ _ (kp.trans (Kp.new hb2)) ?_⟩
        rw [if_neg (by omega)]
        have flen := flat_len (dLL d) (fun m hm => (fx.2 m hm).1)
        have dlen : (dLL d).length ≤ 200 := fx.1
        refine ⟨b, _, rfl, upd_same, Wt.lst (Kp.new hb2 _ _ hb) (by rw [Paired.len py]; omega) fun x hx => ?_⟩
        obtain ⟨y, hy, ry⟩ := paired_mem py hx
        obtain ⟨l, hl, hy2⟩ := List.mem_flatten.mp hy
        have dep' : 1 + k.depth ≤ 6 := dep
        exact (ry.mono (kp.trans (Kp.new hb2)).lk).wt ((fx.2 l hl).2 y hy2) (by omega)
      · have z := of_decide_eq_false e2
        rw [Paired.len py] at z
        refine ⟨by show 2 ≤ sizeLine; decide, fun b hb2 => q _ _ (kp.trans (Kp.new hb2)) ?_⟩
        rw [if_pos (by omega)]
        exact ⟨b, _, rfl, upd_same, a, ys, rfl, Kp.new hb2 _ _ hb, nc.new ha, Paired.mapP py fun _ _ z => z.mono (kp.trans (Kp.new hb2)).lk⟩
  | sum =>
    obtain rfl : sg = "sum" := hs.symm
    obtain ⟨p, rfl, hl, np⟩ := rx.ints
    have hn : (dLI d).length ≤ 200 := fx.1
    refine ⟨_, rfl, rfl, _, rfl, itF (by decide +kernel) ?_⟩
    refine ⟨_, rfl, rfl, _, rfl, itF (by decide +kernel) ?_⟩
    refine ⟨_, rfl, rfl, _, rfl, itF (by decide +kernel) ?_⟩
    refine ⟨by show 1 ≤ sizeLine; decide, fun a ha => ?_⟩
    have hp' : ∀ {H' : Hp}, Kp H H' → SqL K H' p ((dLI d).map V.int) := fun k => SqL.of (k p _ hl)
    refine ⟨_, rfl, p, rfl, ⟨_, hp' (Kp.new ha)⟩, for_list (K := K) (a := p) (xs := (dLI d).map V.int) (fun i σ H' => (∃ v, σ = [some (.str "sum"), some (.ref p), none, none, some (.ref a), v, none]) ∧ Kp H H' ∧ H' a = some (.lst ((begs 0 ((dLI d).take i)).map V.int))) ⟨⟨none, rfl⟩, Kp.new ha, upd_same⟩ (fun i σ H' _ pv => hp' pv.2.1) ?_ ?_⟩
    · rintro i y σ H' hi ⟨⟨v, rfl⟩, k, hf⟩
      obtain ⟨z, hz, rfl⟩ := ints_get hi
      obtain ⟨m, em⟩ := begs_split ((dLI d).take i)
      have hf' : H' a = some (.lst (m.map V.int ++ [.int ((dLI d).take i).sum])) := by
        rw [hf, em, List.map_append]
        rfl
      have lm : m.length ≤ 200 := by
        have z1 := congrArg List.length em
        rw [begs_length, List.length_append, List.length_take] at z1
        have z2 : [((dLI d).take i).sum].length = 1 := rfl
        omega
      have lx : (m.map V.int ++ [V.int ((dLI d).take i).sum]).length < sizeLine := by
        refine line_lt ?_
        rw [List.length_append, List.length_map]
        show m.length + 1 ≤ _
        omega
      refine ⟨_, rfl, .inl ⟨rfl, _, SqL.of hf'⟩, _, rfl, _, rfl, _, _, _, _, rfl, rfl, SqL.of hf', atI_last _ _, _, rfl, _, _, rfl, rfl, _, _, _, rfl, rfl, hf', lx, ⟨_, rfl⟩, k.put ha, ?_⟩
      rw [take_more hz, begs_snoc, em, upd_same, List.map_append, List.map_append, Int.zero_add]
      rfl
    · rintro σ H' ⟨⟨v, rfl⟩, k, hf⟩
      rw [List.length_map, List.take_length] at hf
      refine ⟨_, rfl, a, rfl, ⟨_, SqL.of hf⟩, fun g hg => lc_list (K := K) (a := a) (xs := (begs 0 (dLI d)).map V.int) (fun i H2 => Kp H' H2 ∧ H2 g = some (.lst ((((begs 0 (dLI d)).map ab).take i).map V.int)))
        ⟨Kp.new hg, upd_same⟩ (fun i H2 _ pv => SqL.of (pv.1 _ _ hf)) ?_ ?_⟩
      · rintro i y H2 hi ⟨k2, h2⟩
        obtain ⟨z, hz, rfl⟩ := ints_get hi
        have li : i < (begs 0 (dLI d)).length := (List.getElem?_eq_some_iff.mp hz).1
        have lb := begs_length 0 (dLI d)
        refine ⟨rfl, itY <| itT rfl ⟨_, rfl, z, rfl, _, h2, line_lt (by rw [List.length_map, List.length_take]; omega), k2.put hg, ?_⟩⟩
        have e1 : ((begs 0 (dLI d)).map ab)[i]? = some (ab z) := by rw [List.getElem?_map, hz]; rfl
        rw [take_more e1, upd_same, List.map_append]
        rfl
      · rintro H2 ⟨k2, h2⟩
        have e1 : ((begs 0 (dLI d)).map ab).take ((begs 0 (dLI d)).map V.int).length = (begs 0 (dLI d)).map ab := by
          rw [List.length_map, ← List.length_map (f := ab)]
          exact List.take_length
        rw [e1] at h2
        have lb := begs_length 0 (dLI d)
        refine ⟨g, _, rfl, SqL.of h2, by rw [List.length_map]; omega, fun mx hmx hle => ⟨_, _, rfl, rfl, cpow18, _, _, rfl, rfl, ?_⟩⟩
        have mb := max_big hmx hle
        have K2 : Kp H H2 := k.trans k2
        obtain ⟨m, em⟩ := begs_split (dLI d)
        have hf2 : H2 a = some (.lst (m.map V.int ++ [.int (dLI d).sum])) := by
          rw [k2 _ _ hf, em, List.map_append]
          rfl
        have s1 : sem1 .sum d = if bigs (dLI d) then .error .great else .ok (dLI d).sum := rfl
        have s2 : sem1 .sums d = if bigs (dLI d) then .error .great else .ok (begs 0 (dLI d)).dropLast := rfl
        refine ⟨_, rfl, itB (fun e => ?_) (fun e => ?_)⟩
        · rw [mb] at e
          refine ⟨_, rfl, rfl, _, rfl, itT (by decide +kernel) ?_⟩
          refine ⟨_, rfl, _, rfl, _, _, _, _, rfl, rfl, SqL.of hf2, atI_last _ _, _, rfl, by show 2 ≤ sizeLine; decide, fun b hb => q _ _ (K2.trans (Kp.new hb)) ?_⟩
          rw [s1, e, if_pos rfl]
          exact ⟨b, _, rfl, upd_same, .inl ⟨_, rfl⟩⟩
        · rw [mb] at e
          refine ⟨_, rfl, rfl, _, rfl, itT (by decide +kernel) ?_⟩
          refine ⟨_, rfl, _, rfl, _, _, _, _, rfl, rfl, SqL.of hf2, atI_last _ _, _, rfl, by show 2 ≤ sizeLine; decide, fun b hb => q _ _ (K2.trans (Kp.new hb)) ?_⟩
          rw [s1, e, if_neg Bool.false_ne_true]
          exact ⟨b, _, rfl, upd_same, rfl⟩
  | sums =>
    obtain rfl : sg = "sums" := hs.symm
    obtain ⟨p, rfl, hl, np⟩ := rx.ints
    have hn : (dLI d).length ≤ 200 := fx.1
    refine ⟨_, rfl, rfl, _, rfl, itF (by decide +kernel) ?_⟩
    refine ⟨_, rfl, rfl, _, rfl, itF (by decide +kernel) ?_⟩
    refine ⟨_, rfl, rfl, _, rfl, itF (by decide +kernel) ?_⟩
    refine ⟨by show 1 ≤ sizeLine; decide, fun a ha => ?_⟩
    have hp' : ∀ {H' : Hp}, Kp H H' → SqL K H' p ((dLI d).map V.int) := fun k => SqL.of (k p _ hl)
    refine ⟨_, rfl, p, rfl, ⟨_, hp' (Kp.new ha)⟩, for_list (K := K) (a := p) (xs := (dLI d).map V.int) (fun i σ H' => (∃ v, σ = [some (.str "sums"), some (.ref p), none, none, some (.ref a), v, none]) ∧ Kp H H' ∧ H' a = some (.lst ((begs 0 ((dLI d).take i)).map V.int))) ⟨⟨none, rfl⟩, Kp.new ha, upd_same⟩ (fun i σ H' _ pv => hp' pv.2.1) ?_ ?_⟩
    · rintro i y σ H' hi ⟨⟨v, rfl⟩, k, hf⟩
      obtain ⟨z, hz, rfl⟩ := ints_get hi
      obtain ⟨m, em⟩ := begs_split ((dLI d).take i)
      have hf' : H' a = some (.lst (m.map V.int ++ [.int ((dLI d).take i).sum])) := by
        rw [hf, em, List.map_append]
        rfl
      have lm : m.length ≤ 200 := by
        have z1 := congrArg List.length em
        rw [begs_length, List.length_append, List.length_take] at z1
        have z2 : [((dLI d).take i).sum].length = 1 := rfl
        omega
      have lx : (m.map V.int ++ [V.int ((dLI d).take i).sum]).length < sizeLine := by
        refine line_lt ?_
        rw [List.length_append, List.length_map]
        show m.length + 1 ≤ _
        omega
      refine ⟨_, rfl, .inl ⟨rfl, _, SqL.of hf'⟩, _, rfl, _, rfl, _, _, _, _, rfl, rfl, SqL.of hf', atI_last _ _, _, rfl, _, _, rfl, rfl, _, _, _, rfl, rfl, hf', lx, ⟨_, rfl⟩, k.put ha, ?_⟩
      rw [take_more hz, begs_snoc, em, upd_same, List.map_append, List.map_append, Int.zero_add]
      rfl
    · rintro σ H' ⟨⟨v, rfl⟩, k, hf⟩
      rw [List.length_map, List.take_length] at hf
      refine ⟨_, rfl, a, rfl, ⟨_, SqL.of hf⟩, fun g hg => lc_list (K := K) (a := a) (xs := (begs 0 (dLI d)).map V.int) (fun i H2 => Kp H' H2 ∧ H2 g = some (.lst ((((begs 0 (dLI d)).map ab).take i).map V.int)))
        ⟨Kp.new hg, upd_same⟩ (fun i H2 _ pv => SqL.of (pv.1 _ _ hf)) ?_ ?_⟩
      · rintro i y H2 hi ⟨k2, h2⟩
        obtain ⟨z, hz, rfl⟩ := ints_get hi
        have li : i < (begs 0 (dLI d)).length := (List.getElem?_eq_some_iff.mp hz).1
        have lb := begs_length 0 (dLI d)
        refine ⟨rfl, itY <| itT rfl ⟨_, rfl, z, rfl, _, h2, line_lt (by rw [List.length_map, List.length_take]; omega), k2.put hg, ?_⟩⟩
        have e1 : ((begs 0 (dLI d)).map ab)[i]? = some (ab z) := by rw [List.getElem?_map, hz]; rfl
        rw [take_more e1, upd_same, List.map_append]
        rfl
      · rintro H2 ⟨k2, h2⟩
        have e1 : ((begs 0 (dLI d)).map ab).take ((begs 0 (dLI d)).map V.int).length = (begs 0 (dLI d)).map ab := by
          rw [List.length_map, ← List.length_map (f := ab)]
          exact List.take_length
        rw [e1] at h2
        have lb := begs_length 0 (dLI d)
        refine ⟨g, _, rfl, SqL.of h2, by rw [List.length_map]; omega, fun mx hmx hle => ⟨_, _, rfl, rfl, cpow18, _, _, rfl, rfl, ?_⟩⟩
        have mb := max_big hmx hle
        have K2 : Kp H H2 := k.trans k2
        obtain ⟨m, em⟩ := begs_split (dLI d)
        have hf2 : H2 a = some (.lst (m.map V.int ++ [.int (dLI d).sum])) := by
          rw [k2 _ _ hf, em, List.map_append]
          rfl
        have s1 : sem1 .sum d = if bigs (dLI d) then .error .great else .ok (dLI d).sum := rfl
        have s2 : sem1 .sums d = if bigs (dLI d) then .error .great else .ok (begs 0 (dLI d)).dropLast := rfl
        refine ⟨_, rfl, itB (fun e => ?_) (fun e => ?_)⟩
        · rw [mb] at e
          refine ⟨_, rfl, rfl, _, rfl, itF (by decide +kernel) ?_⟩
          refine ⟨_, rfl, _, rfl, _, rfl, _, _, rfl, SqL.of hf2, fun g2 hg2 => ?_⟩
          rw [cutV_drop]
          have e5 : upd H2 g2 (.lst (m.map V.int)) g2 = some (.lst (m.map V.int)) := upd_same
          refine ⟨_, rfl, by show 2 ≤ sizeLine; decide, fun b hb => q _ _ ((K2.trans (Kp.new hg2)).trans (Kp.new hb)) ?_⟩
          rw [s2, e, if_pos rfl]
          have ml : m.length ≤ 200 := by
            have z1 := congrArg List.length em
            rw [begs_length, List.length_append] at z1
            have z2 : [(dLI d).sum].length = 1 := rfl
            omega
          refine ⟨b, _, rfl, upd_same, Wt.lst (Kp.new hb _ _ e5) (by rw [List.length_map]; omega) fun x hx => ?_⟩
          obtain ⟨z, _, rfl⟩ := List.mem_map.mp hx
          exact .inl ⟨z, rfl⟩
        · rw [mb] at e
          refine ⟨_, rfl, rfl, _, rfl, itF (by decide +kernel) ?_⟩
          refine ⟨_, rfl, _, rfl, _, rfl, _, _, rfl, SqL.of hf2, fun g2 hg2 => ?_⟩
          rw [cutV_drop]
          have e5 : upd H2 g2 (.lst (m.map V.int)) g2 = some (.lst (m.map V.int)) := upd_same
          refine ⟨_, rfl, by show 2 ≤ sizeLine; decide, fun b hb => q _ _ ((K2.trans (Kp.new hg2)).trans (Kp.new hb)) ?_⟩
          rw [s2, e, if_neg Bool.false_ne_true]
          refine ⟨b, _, rfl, upd_same, ?_⟩
          rw [begs_drop em]
          exact RepW.of_ints (by rw [upd_ne (ne_of_none e5 hb)]; exact e5) (Av.new (nc.kp K2) hg2)
end
end Br
/-! The law's own steps: of_two, once. -/
namespace Br
open PySem L2
open PySem.Spec PyProof.Rows
theorem cutV_take (xs : List V) {k : Nat} (h : k ≤ xs.length) : cutV xs none (some (k : Int)) = xs.take k := by
  unfold cutV
  rw [HT.sIx_none, HT.sIx_nat, Nat.min_eq_left h, Nat.sub_zero]
  rfl
section
variable {P : Program} {w : World} {K : PySem.W.Frag} {mg : Str → Option Value} {base : Heap} {aC aB f : Addr} {fd : FuncData}
theorem fn_law_of_two (T : Tp K mg aC aB) (F : At K mg "_law_of_two" s_law_of_two p_law_of_two f fd) : Fn P w K mg base 1 "_law_of_two" spLTwo := by
  refine fn_by F sc_law_of_two ?_ (fun cdv A outer s H vs Q E hr h => ?_)
  · rintro vs H Q E ⟨c, a, b, k, o, x, y, d, e, rfl, _⟩
    rfl
  obtain ⟨c, a, b, k, o, x, y, d, e, rfl, ro, dep, nc, rx, ry, fx, fy, q⟩ := h
  refine ⟨_, (pss_cons (ps_if (pt_cmpR op_eq (pv 0) (pe_str) (nomark _)) (pss_one (ps_ret (pe_tup (pa_cons (pe_op op_cat (pv 1) (pv 2)) (pa_cons (pe_ifExp (pt_cmpR op_gt (pe_op op_add (pe_callB (k_len K rfl) (by rfl) T.len (by decide +kernel) (pa_cons (pv 1) pa_nil)) (pe_callB (k_len K rfl) (by rfl) T.len (by decide +kernel) (pa_cons (pv 2) pa_nil))) (pe_int) (nomark _)) (pe_str) (pe_str)) pa_nil))))) pss_nil)
  (pss_cons (ps_if (pt_cmpR op_eq (pv 0) (pe_str) (nomark _)) (pss_cons (ps_if (pw_or (pt_cmpR op_lt (pv 2) (pe_int) (nomark _)) (pw_or1 (pt_cmpR op_ge (pv 2) (pe_callB (k_len K rfl) (by rfl) T.len (by decide +kernel) (pa_cons (pv 1) pa_nil)) (nomark _)))).pt (pss_one (ps_ret (pe_tup (pa_cons (pe_int) (pa_cons (pe_str) pa_nil))))) pss_nil)
  (pss_one (ps_ret (pe_tup (pa_cons (pe_ix (k_ixl K rfl) (pv 1) (pv 2) (fun _ _ => rfl)) (pa_cons (pe_str) pa_nil)))))) pss_nil)
  (pss_cons (ps_if (pt_cmpR op_eq (pv 0) (pe_str) (nomark _)) (pss_cons (ps_if (pt_cmpR op_ne (pe_callB (k_len K rfl) (by rfl) T.len (by decide +kernel) (pa_cons (pv 1) pa_nil)) (pe_callB (k_len K rfl) (by rfl) T.len (by decide +kernel) (pa_cons (pv 2) pa_nil)) (nomark _)) (pss_one (ps_ret (pe_tup (pa_cons (pe_lst pa_nil) (pa_cons (pe_str) pa_nil))))) pss_nil)
  (pss_one (ps_ret (pe_tup (pa_cons (pe_lc (own := [("k", 4)]) rfl sc_law_of_two.nd (pi_range1 (by rfl) T.range (pa_cons (pe_callB (k_len K rfl) (by rfl) T.len (by decide +kernel) (pa_cons (pv 1) pa_nil)) pa_nil)) (blkOk_by (own := [("k", 4)]) (by rfl)) (fun _ _ _ _ _ => (pg_name (i := 4) sc_law_of_two.nd rfl (by first | exact Or.inl rfl | exact Or.inr rfl))) (fun _ _ _ _ _ => (pts_one (k_truth K rfl (pe_ix (k_ixl K rfl) (pv 2) (pv 4) (fun _ _ => rfl))))) (fun _ _ _ _ _ => (pe_ix (k_ixl K rfl) (pv 1) (pv 4) (fun _ _ => rfl)))) (pa_cons (pe_str) pa_nil)))))) pss_nil)
  (pss_cons (ps_if (pw_or (pt_cmpR op_gt (pe_callB (k_len K rfl) (by rfl) T.len (by decide +kernel) (pa_cons (pe_lc (own := [("number", 5)]) rfl sc_law_of_two.nd (k_pil K rfl (pv 2)) (blkOk_by (own := [("number", 5)]) (by rfl)) (fun _ _ _ _ _ => (pg_name (i := 5) sc_law_of_two.nd rfl (by first | exact Or.inl rfl | exact Or.inr rfl))) (fun _ _ _ _ _ => (pts_one (pt_cmpR op_lt (pv 5) (pe_int) (nomark _)))) (fun _ _ _ _ _ => (pv 5))) pa_nil)) (pe_int) (nomark _)) (pw_or1 (pt_cmpR op_ne (pe_callB (k_sum K rfl rfl) (by rfl) T.sum (by decide +kernel) (pa_cons (pv 2) pa_nil)) (pe_callB (k_len K rfl) (by rfl) T.len (by decide +kernel) (pa_cons (pv 1) pa_nil)) (nomark _)))).pt (pss_one (ps_ret (pe_tup (pa_cons (pe_lst pa_nil) (pa_cons (pe_str) pa_nil))))) pss_nil)
  (pss_cons (ps_set (i := 3) sc_law_of_two.nd rfl (by first | exact Or.inl rfl | exact Or.inr rfl) (pe_lst pa_nil))
  (pss_cons (ps_for PassesOwn.never rfl (pi_range1 (by rfl) T.range (pa_cons (pe_callB (k_len K rfl) (by rfl) T.len (by decide +kernel) (pa_cons (pv 2) pa_nil)) pa_nil)) (pg_name (i := 4) sc_law_of_two.nd rfl (by first | exact Or.inl rfl | exact Or.inr rfl)) (pss_one (ps_expr (k_bm K rfl PySem.F.plainAttrs_list PySem.F.slot_list_append PySem.F.type_list_append mt_append (pv 3) (pa_cons (pe_slice (k_sll K rfl) (pv 1) (po_some (pe_callB (k_sum K rfl rfl) (by rfl) T.sum (by decide +kernel) (pa_cons (pe_slice (k_sll K rfl) (pv 2) po_none (po_some (pv 4))) pa_nil))) (po_some (pe_callB (k_sum K rfl rfl) (by rfl) T.sum (by decide +kernel) (pa_cons (pe_slice (k_sll K rfl) (pv 2) po_none (po_some (pe_op op_add (pv 4) (pe_int)))) pa_nil)))) pa_nil)))))
  (pss_one (ps_ret (pe_tup (pa_cons (pv 3) (pa_cons (pe_str) pa_nil))))))))))), ?_⟩
  generalize hs : o.str = sg
  cases ro with
  | join k =>
    obtain rfl : sg = "join" := hs.symm
    obtain ⟨p1, xs, rfl, h1, n1, pr1⟩ := rx
    obtain ⟨p2, ys, rfl, h2, n2, pr2⟩ := ry
    have l1 : xs.length ≤ 200 := by rw [Paired.len pr1]; exact fx.1
    have l2 : ys.length ≤ 200 := by rw [Paired.len pr2]; exact fy.1
    have s1 : sem2 (.join k) d e = if (dL d).length + (dL e).length ≤ 200 then .ok (dL d ++ dL e) else .error .far := rfl
    rw [s1] at q
    refine ⟨_, rfl, rfl, _, rfl, itT (by decide +kernel) ?_⟩
    refine ⟨_, rfl, _, rfl, p1, p2, xs, ys, rfl, rfl, h1, h2, line_le (by omega), fun g hg => ?_⟩
    have kg : Kp H (upd H g (.lst (xs ++ ys))) := Kp.new hg
    refine ⟨_, rfl, p1, _, rfl, .inl (SqL.of (kg _ _ h1)), _, rfl, p2, _, rfl, .inl (SqL.of (kg _ _ h2)), _, _, rfl, rfl, _, _, rfl, rfl, _, rfl, itB (fun e2 => ?_) (fun e2 => ?_)⟩
    · have z := of_decide_eq_true e2
      rw [Paired.len pr1, Paired.len pr2] at z
      refine ⟨by show 2 ≤ sizeLine; decide, fun b hb2 => q _ _ (kg.trans (Kp.new hb2)) ?_⟩
      rw [if_neg (by omega)]
      have dep' : 1 + k.depth ≤ 6 := dep
      refine ⟨b, _, rfl, upd_same, Wt.lst (Kp.new hb2 _ _ upd_same) (by rw [List.length_append]; omega) fun x hx => ?_⟩
      rcases List.mem_append.mp hx with hx | hx
      · obtain ⟨y, hy, ry⟩ := paired_mem pr1 hx
        exact (ry.mono (kg.trans (Kp.new hb2)).lk).wt (fx.2 y hy) (by omega)
      · obtain ⟨y, hy, ry⟩ := paired_mem pr2 hx
        exact (ry.mono (kg.trans (Kp.new hb2)).lk).wt (fy.2 y hy) (by omega)
    · have z := of_decide_eq_false e2
      rw [Paired.len pr1, Paired.len pr2] at z
      refine ⟨by show 2 ≤ sizeLine; decide, fun b hb2 => q _ _ (kg.trans (Kp.new hb2)) ?_⟩
      rw [if_pos (by omega)]
      refine ⟨b, _, rfl, upd_same, g, _, rfl, Kp.new hb2 _ _ upd_same, nc.new hg, ?_⟩
      exact Paired.app (Paired.mapP pr1 fun _ _ z => z.mono (kg.trans (Kp.new hb2)).lk) (Paired.mapP pr2 fun _ _ z => z.mono (kg.trans (Kp.new hb2)).lk)
  | pick k =>
    obtain rfl : sg = "pick" := hs.symm
    obtain ⟨p, xs, rfl, hp, np, pr⟩ := id rx
    have e2 : y = .int (dI e) := ry
    subst e2
    refine ⟨_, rfl, rfl, _, rfl, itF (by decide +kernel) ?_⟩
    refine ⟨_, rfl, rfl, _, rfl, itT (by decide +kernel) ?_⟩
    have s1 : sem2 (.pick k) d e = if 0 ≤ (dI e) then (match (dL d)[(dI e).toNat]? with
      | some x => .ok x
      | none => .error .beyond) else .error .beyond := rfl
    rw [s1] at q
    generalize dI e = i at q
    refine ⟨_, rfl, _, _, rfl, rfl, _, rfl, itB (fun e => ?_) (fun e => ?_)⟩
    · have h0 := of_decide_eq_true e
      rw [if_neg (by omega)] at q
      exact itT rfl ⟨by show 2 ≤ sizeLine; decide, fun b hb => q _ _ (Kp.new hb) ⟨b, _, rfl, upd_same, .inl ⟨_, rfl⟩⟩⟩
    · have h0 := of_decide_eq_false e
      rw [if_pos (by omega)] at q
      refine ⟨_, rfl, _, rfl, p, _, rfl, .inl (SqL.of hp), _, _, rfl, rfl, _, rfl, itB (fun e2 => ?_) (fun e2 => ?_)⟩
      · have h1 := of_decide_eq_true e2
        have h2 : (dL d)[i.toNat]? = none := by
          rw [List.getElem?_eq_none_iff, ← Paired.len pr]
          omega
        rw [h2] at q
        exact ⟨by show 2 ≤ sizeLine; decide, fun b hb => q _ _ (Kp.new hb) ⟨b, _, rfl, upd_same, .inl ⟨_, rfl⟩⟩⟩
      · have h1 := of_decide_eq_false e2
        have h2 : i.toNat < xs.length := by omega
        obtain ⟨y, hy, r⟩ := Paired.at pr (List.getElem?_eq_getElem h2)
        have hy' : (dL d)[i.toNat]? = some y := hy
        rw [hy'] at q
        have hx : atI xs i = some xs[i.toNat] := by
          have z := atI_nat (List.getElem?_eq_getElem h2)
          rw [show ((i.toNat : Nat) : Int) = i by omega] at z
          exact z
        exact ⟨_, rfl, _, rfl, _, _, _, _, rfl, rfl, SqL.of hp, hx, by show 2 ≤ sizeLine; decide, fun b hb => q _ _ (Kp.new hb) ⟨b, _, rfl, upd_same, r.mono (Kp.new hb).lk⟩⟩
  | keep k =>
    obtain rfl : sg = "keep" := hs.symm
    obtain ⟨p, xs, rfl, hp, np, pr⟩ := id rx
    obtain ⟨p2, ys, rfl, hp2, np2, pr2⟩ := id ry
    have eb : ys = (dLB e).map V.bl := rep_bls pr2
    refine ⟨_, rfl, rfl, _, rfl, itF (by decide +kernel) ?_⟩
    refine ⟨_, rfl, rfl, _, rfl, itF (by decide +kernel) ?_⟩
    refine ⟨_, rfl, rfl, _, rfl, itT (by decide +kernel) ?_⟩
    have s1 : sem2 (.keep k) d e = if (dL d).length = (dLB e).length then .ok ((((dL d).zip (dLB e)).filter (·.2)).map (·.1)) else .error .unlike := rfl
    rw [s1] at q
    have l1 := Paired.len pr
    have l2 := Paired.len pr2
    have l2' : ys.length = (dLB e).length := l2
    have lx : xs.length ≤ 200 := by rw [l1]; exact fx.1
    refine ⟨_, rfl, p, _, rfl, .inl (SqL.of hp), _, rfl, p2, _, rfl, .inl (SqL.of hp2), rfl, _, rfl, itB (fun ee => ?_) (fun ee => ?_)⟩
    · have z : ¬ (dL d).length = (dLB e).length := fun z => by
        rw [← l1, ← l2'] at z
        rw [z] at ee
        exact absurd ee (by simp)
      rw [if_neg z] at q
      exact ⟨by show 0 ≤ sizeLine; decide, fun g hg => ⟨by show 2 ≤ sizeLine; decide, fun b hb => q _ _ ((Kp.new hg).trans (Kp.new hb)) ⟨b, _, rfl, upd_same, Wt.nil (Kp.new hb _ _ upd_same)⟩⟩⟩
    · have z' : V.int (xs.length : Int) = V.int (ys.length : Int) := by
        cases zz : decide (V.int (xs.length : Int) = V.int (ys.length : Int)) with
        | true => exact of_decide_eq_true zz
        | false => rw [zz] at ee; cases ee
      have z : xs.length = ys.length := Int.ofNat.inj (V.int.inj z')
      rw [if_pos (show (dL d).length = (dLB e).length by rw [← l1, ← l2', z])] at q
      refine ⟨_, rfl, p, _, rfl, .inl (SqL.of hp), (xs.length : Int), rfl, by omega, by omega, fun g hg => lc_range (lo := 0) (n := xs.length) (fun i H' => ∃ acc, Kp H H' ∧ H' g = some (.lst acc) ∧ Paired (RepW c H k) acc (((((dL d).take i).zip ((dLB e).take i)).filter (·.2)).map (·.1)))
        ⟨[], Kp.new hg, upd_same, .nil⟩ ?_ ?_⟩
      · rintro i H' hi ⟨acc, kp, hacc, pa⟩
        have hx : xs[i]? = some xs[i] := List.getElem?_eq_getElem hi
        obtain ⟨u, hu, r⟩ := Paired.at pr hx
        have hu' : (dL d)[i]? = some u := hu
        have hi2 : i < (dLB e).length := by omega
        have hbb : (dLB e)[i]? = some (dLB e)[i] := List.getElem?_eq_getElem hi2
        obtain ⟨bb, hb2⟩ : ∃ bb, (dLB e)[i] = bb := ⟨_, rfl⟩
        rw [hb2] at hbb
        have hy : ys[i]? = some (.bl bb) := by
          rw [eb, List.getElem?_map, hbb]
          rfl
        have km := keep_more hu' hbb
        refine ⟨rfl, _, rfl, _, rfl, p2, _, _, .bl bb, rfl, rfl, SqL.of (kp _ _ hp2), by rw [Int.zero_add]; exact atI_nat hy, bb, rfl, ?_⟩
        cases bb with
        | true =>
          refine itT rfl ⟨_, rfl, _, rfl, p, _, _, xs[i], rfl, rfl, SqL.of (kp _ _ hp), by rw [Int.zero_add]; exact atI_nat hx, acc, hacc, line_lt ?_, acc ++ [xs[i]], kp.put hg, upd_same, ?_⟩
          · have z3 := keep_len ((dL d).take i) ((dLB e).take i)
            rw [← Paired.len pa, List.length_take] at z3
            omega
          · rw [km, if_pos rfl]
            exact Paired.app pa (.cons r .nil)
        | false =>
          refine itF rfl ⟨acc, kp, hacc, ?_⟩
          rw [km, if_neg Bool.false_ne_true, List.append_nil]
          exact pa
      · rintro H' ⟨acc, kp, hacc, pa⟩
        refine ⟨by show 2 ≤ sizeLine; decide, fun b hb => q _ _ (kp.trans (Kp.new hb)) ⟨b, _, rfl, upd_same, g, acc, rfl, ?_, nc.new hg, ?_⟩⟩
        · rw [upd_ne (ne_of_none hacc hb)]
          exact hacc
        · have e1 : (dL d).take xs.length = dL d := by rw [l1]; exact List.take_length
          have e2 : (dLB e).take xs.length = dLB e := by rw [z, l2']; exact List.take_length
          rw [e1, e2] at pa
          exact Paired.mapP pa fun _ _ w => w.mono (kp.trans (Kp.new hb)).lk
  | cut k =>
    obtain rfl : sg = "cut" := hs.symm
    obtain ⟨p, xs, rfl, hp, np, pr⟩ := id rx
    obtain ⟨p2, rfl, hp2, np2⟩ := ry.ints
    refine ⟨_, rfl, rfl, _, rfl, itF (by decide +kernel) ?_⟩
    refine ⟨_, rfl, rfl, _, rfl, itF (by decide +kernel) ?_⟩
    refine ⟨_, rfl, rfl, _, rfl, itF (by decide +kernel) ?_⟩
    have s1 : sem2 (.cut k) d e = if (dLI e).any (fun i => decide (i < 0)) = false ∧ (dLI e).sum = ((dL d).length : Int) then .ok (cutL (dL d) e) else .error .unlike := rfl
    rw [s1] at q
    have l1 := Paired.len pr
    have ly : (dLI e).length ≤ 200 := fy.1
    refine ⟨_, rfl, p2, rfl, ⟨_, SqL.of hp2⟩, fun g hg => lc_list (K := K) (a := p2) (xs := (dLI e).map V.int) (fun i H' => ∃ acc, Kp H H' ∧ H' g = some (.lst acc) ∧ acc.length ≤ i ∧ (acc.length = 0 ↔ ((dLI e).take i).any (fun i => decide (i < 0)) = false))
      ⟨[], Kp.new hg, upd_same, Nat.le_refl _, by simp⟩ (fun i H' _ pv => ?_) ?_ ?_⟩
    · obtain ⟨acc, kp, _⟩ := pv
      exact SqL.of (kp p2 _ hp2)
    · rintro i a H' hi ⟨acc, kp, hacc, hle, hiff⟩
      obtain ⟨z, hz, rfl⟩ := ints_get hi
      have hi2 : i < (dLI e).length := (List.getElem?_eq_some_iff.mp hz).1
      refine ⟨rfl, _, rfl, _, _, rfl, rfl, _, rfl, itB (fun en => ?_) (fun en => ?_)⟩
      · refine ⟨_, rfl, acc, hacc, line_lt (by omega), acc ++ [.int z], kp.put hg, upd_same, by rw [List.length_append]; show acc.length + 1 ≤ _; omega, ?_⟩
        rw [take_more hz, List.any_append, List.any_cons, en]
        simp
      · refine ⟨acc, kp, hacc, by omega, ?_⟩
        rw [take_more hz, List.any_append, List.any_cons, en]
        simpa using hiff
    rintro H' ⟨acc, kp, hacc, hle, hiff⟩
    rw [List.length_map, List.take_length] at hiff
    have bad : ¬ ((dLI e).any (fun i => decide (i < 0)) = false ∧ (dLI e).sum = ((dL d).length : Int)) → ∀ (H' : Hp), Kp H H' → ∀ g, H' g = none → ∀ b, (upd H' g (.lst [])) b = none → Q (.ref b) (upd (upd H' g (.lst [])) b (.tup [.ref g, .str "unlike"])) := fun n H' k g hg b hb => by
      refine q _ _ ((k.trans (Kp.new hg)).trans (Kp.new hb)) ?_
      rw [if_neg n]
      exact ⟨b, _, rfl, upd_same, Wt.nil (Kp.new hb _ _ upd_same)⟩
    refine ⟨g, _, rfl, .inl (SqL.of hacc), _, _, rfl, rfl, _, rfl, itB (fun e1 => ?_) (fun e1 => ?_)⟩
    · refine itT rfl ⟨by show 0 ≤ sizeLine; decide, fun a ha => ⟨by show 2 ≤ sizeLine; decide, fun b hb => bad (fun z => ?_) H' kp a ha b hb⟩⟩
      have z1 := hiff.mpr z.1
      rw [z1] at e1
      cases e1
    · have z0 : acc.length = 0 := by
        have := of_decide_eq_false e1
        omega
      have z1 := hiff.mp z0
      refine ⟨_, rfl, p2, dLI e, rfl, SqL.of (kp p2 _ hp2), _, rfl, p, _, rfl, .inl (SqL.of (kp p _ hp)), rfl, _, rfl, itB (fun e2 => ?_) (fun e2 => ?_)⟩
      · refine ⟨by show 0 ≤ sizeLine; decide, fun a ha => ⟨by show 2 ≤ sizeLine; decide, fun b hb => bad (fun z => ?_) H' kp a ha b hb⟩⟩
        rw [z.2, l1] at e2
        simp at e2
      · have z2 : (dLI e).sum = ((dL d).length : Int) := by
          cases zz : decide (V.int (dLI e).sum = V.int (xs.length : Int)) with
          | true =>
            rw [← l1]
            exact V.int.inj (of_decide_eq_true zz)
          | false => rw [zz] at e2; cases e2
        rw [if_pos ⟨z1, z2⟩] at q
        have nn := any_neg.mp z1
        obtain ⟨L, hL⟩ : ∃ L : List (D (.row k)), L = cutL (dL d) (dLI e) := ⟨_, rfl⟩
        have hLl : L.length = (dLI e).length := by
          rw [hL]
          exact cutL_length _ _
        have hLg : ∀ (i : Nat) (z : Int), (dLI e)[i]? = some z → L[i]? = some (((dL d).drop ((dLI e).take i).sum.toNat).take z.toNat) := fun i z hz => by
          rw [hL]
          exact cutL_get nn hz
        have q' : spOutL (k := .row (.row k)) c (.ok L) H Q := by
          rw [hL]
          exact q
        refine ⟨by show 0 ≤ sizeLine; decide, fun b hb => ?_⟩
        have nb : H b = none := Kp.free kp hb
        have k0 := kp.trans (Kp.new (o := .lst []) hb)
        refine ⟨_, rfl, p2, _, rfl, .inl (SqL.of (k0 p2 _ hp2)), ((((dLI e).map V.int).length : Nat) : Int), rfl, by rw [List.length_map]; omega, by rw [List.length_map]; omega, for_range (lo := 0) (n := ((dLI e).map V.int).length) (fun i σ H2 => ∃ acc v, σ = [some (.str "cut"), some (.ref p), some (.ref p2), some (.ref b), v, none] ∧ Kp H H2 ∧ H2 b = some (.lst acc) ∧ Paired (RepW (fun a => c a ∨ a = b) H2 (.row k)) acc (L.take i))
          ⟨[], none, rfl, k0, upd_same, .nil⟩ ?_ ?_⟩
        · rintro i σ H2 hi ⟨acc2, v, rfl, kp2, hacc2, pa⟩
          rw [List.length_map] at hi
          have hz : (dLI e)[i]? = some (dLI e)[i] := List.getElem?_eq_getElem hi
          generalize (dLI e)[i] = z at hz
          have la : acc2.length < sizeLine := by
            refine line_lt ?_
            rw [Paired.len pa, List.length_take]
            omega
          have s0 : 0 ≤ ((dLI e).take i).sum := sum_nn fun x hx => nn x (List.mem_of_mem_take hx)
          have s2 : 0 ≤ z := nn z (List.mem_of_getElem? hz)
          have s3 : ((dLI e).take i).sum + z ≤ xs.length := by
            have := sum_le nn (i + 1)
            rw [sum_take hz, z2, ← l1] at this
            exact this
          have ct : ∀ {k : Nat}, k ≤ (dLI e).length → cutV ((dLI e).map V.int) none (some (0 + (k : Int))) = ((dLI e).take k).map V.int := fun {k} hk => by
            rw [Int.zero_add, cutV_take _ (by rw [List.length_map]; exact hk), List.map_take]
          have ct1 : cutV ((dLI e).map V.int) none (some (0 + (i : Int) + 1)) = ((dLI e).take (i + 1)).map V.int := by
            rw [show (0 + (i : Int) + 1) = 0 + ((i + 1 : Nat) : Int) by omega]
            exact ct hi
          refine ⟨_, rfl, .inl ⟨rfl, _, SqL.of hacc2⟩, _, rfl, _, rfl, _, rfl, _, rfl, p2, _, rfl, SqL.of (kp2 _ _ hp2), fun g3 hg3 => ?_⟩
          rw [ct (Nat.le_of_lt hi)]
          have k3 : Kp H2 (upd H2 g3 (.lst (((dLI e).take i).map V.int))) := Kp.new hg3
          refine ⟨g3, _, rfl, SqL.of upd_same, _, rfl, _, rfl, _, rfl, _, _, rfl, rfl, _, rfl, p2, _, rfl, SqL.of ((kp2.trans k3) _ _ hp2), fun g4 hg4 => ?_⟩
          rw [ct1]
          have k4 := k3.trans (Kp.new (o := .lst (((dLI e).take (i + 1)).map V.int)) hg4)
          refine ⟨g4, _, rfl, SqL.of upd_same, _, rfl, p, _, rfl, SqL.of ((kp2.trans k4) _ _ hp), fun g2 hg2 => ?_⟩
          rw [sum_take hz, cutV_mid xs s0 s2 s3]
          have k5 := k4.trans (Kp.new (o := .lst ((xs.drop ((dLI e).take i).sum.toNat).take z.toNat)) hg2)
          have hb2 := k5 _ _ hacc2
          refine ⟨b, acc2, _, rfl, rfl, hb2, la, ?_⟩
          have kp4 := (kp2.trans k5).put (o := .lst (acc2 ++ [V.ref g2])) nb
          refine ⟨acc2 ++ [V.ref g2], _, rfl, kp4, upd_same, ?_⟩
          rw [take_more (hLg i z hz)]
          have lk : Lk (fun a => c a ∨ a = b) H2 _ := k5.lk.trans (Lk.at (o := .lst (acc2 ++ [V.ref g2])) (.inr rfl) (NoT.of hb2 (fun _ z => nomatch z)))
          have n2 : g2 ≠ b := fun z => by
            rw [z, k4 _ _ hacc2] at hg2
            cases hg2
          refine Paired.app (Paired.mapP pa fun _ _ r => r.mono lk) (.cons ⟨g2, (xs.drop ((dLI e).take i).sum.toNat).take z.toNat, rfl, ?_, ?_, ?_⟩ .nil)
          · rw [upd_ne n2]
            exact upd_same
          · rintro (z | z)
            · exact (nc.kp (kp2.trans k4)).new hg2 z
            · exact n2 z
          · exact Paired.mapP (Paired.tak _ (Paired.dro _ pr)) fun _ _ r => (RepW.more nb r).mono kp4.lk
        · rintro σ H2 ⟨acc2, v, rfl, kp2, hacc2, pa⟩
          have e9 : L.take ((dLI e).map V.int).length = L := by
            rw [List.length_map, ← hLl]
            exact List.take_length
          rw [e9] at pa
          refine ⟨_, rfl, by show 2 ≤ sizeLine; decide, fun g2 hg2 => q' _ _ (kp2.trans (Kp.new hg2)) ⟨g2, _, rfl, upd_same, b, acc2, rfl, ?_, nc.new nb, ?_⟩⟩
          · rw [upd_ne (ne_of_none hacc2 hg2)]
            exact hacc2
          · exact Paired.mapP pa fun _ _ r => (r.mono (Lk.new hg2)).less
end
end Br
/-! The law's once. -/
namespace Br
open PySem L2
open PySem.Spec PyProof.Rows
section
variable {P : Program} {w : World} {K : PySem.W.Frag} {mg : Str → Option Value} {base : Heap} {aC aB f : Addr} {fd : FuncData}
set_option maxHeartbeats 1000000 in
theorem fn_law_once (T : Tp K mg aC aB) (F : At K mg "_law_once" s_law_once p_law_once f fd) (c_law_reckoned : Fn P w K mg base 1 "_law_reckoned" spLReck) (c_law_of_row : Fn P w K mg base 1 "_law_of_row" spLRow) (c_law_of_two : Fn P w K mg base 1 "_law_of_two" spLTwo) :
    Fn P w K mg base 2 "_law_once" spLOnce := by
  refine fn_by F sc_law_once ?_ (fun cdv A outer s H vs Q E hr h => ?_)
  · rintro vs H Q E ⟨c, p, q, xs, ws, k, r, rfl, _⟩
    rfl
  obtain ⟨c, p, p2, xs, ws, k, r, rfl, dep, nc, hp, hq, oa, q⟩ := h
  refine ⟨_, (pss_cons (ps_set (i := 2) sc_law_once.nd rfl (by first | exact Or.inl rfl | exact Or.inr rfl) (pe_ix (k_ixt K rfl) (pv 0) (pe_int) (fun _ _ => rfl)))
  (pss_cons (ps_if (pt_cmpR op_eq (pv 2) (pe_str) (nomark _)) (pss_one (ps_ret (pe_tup (pa_cons (pe_ix (k_ixt K rfl) (pv 0) (pe_int) (fun _ _ => rfl)) (pa_cons (pe_str) pa_nil))))) pss_nil)
  (pss_cons (ps_if (pt_cmpR (k_in K rfl) (pv 2) (pe_tup (pa_cons (pe_str) (pa_cons (pe_str) (pa_cons (pe_str) pa_nil)))) rfl) (pss_one (ps_ret (pe_tup (pa_cons (pe_ifExp (pt_cmpR op_eq (pv 2) (pe_str) (nomark _)) (pe_lst pa_nil) (pe_cmpR op_eq (pv 2) (pe_str) (nomark _))) (pa_cons (pe_str) pa_nil))))) pss_nil)
  (pss_cons (ps_if (pt_cmpR op_eq (pv 2) (pe_str) (nomark _)) (pss_one (ps_ret (pe_tup (pa_cons (pe_not (pe_ix (k_ixl K rfl) (pv 1) (pe_int) (fun _ _ => rfl))) (pa_cons (pe_str) pa_nil))))) pss_nil)
  (pss_cons (ps_if (pt_cmpR (k_in K rfl) (pv 2) (pe_tup (pa_cons (pe_str) (pa_cons (pe_str) pa_nil))) rfl) (pss_one (ps_ret (pe_tup (pa_cons (pe_ix (k_ixt K rfl) (pe_ix (k_ixl K rfl) (pv 1) (pe_int) (fun _ _ => rfl)) (pe_callTy call_int1 (by rfl) T.int (by decide +kernel) (pa_cons (pe_cmpR op_eq (pv 2) (pe_str) (nomark _)) pa_nil)) (fun _ _ => rfl)) (pa_cons (pe_str) pa_nil))))) pss_nil)
  (pss_cons (ps_if (pt_cmpR (k_in K rfl) (pv 2) (pe_tup (pa_cons (pe_str) (pa_cons (pe_str) pa_nil))) rfl) (pss_one (ps_ret (pe_tup (pa_cons (pe_ifExp (pt_cmpR op_eq (pv 2) (pe_str) (nomark _)) (pe_callTy (k_tupOf K rfl) (by rfl) T.tuple (by decide +kernel) (pa_cons (pv 1) pa_nil)) (pe_callTy (k_listOf K rfl) (by rfl) T.list (by decide +kernel) (pa_cons (pv 1) pa_nil))) (pa_cons (pe_str) pa_nil))))) pss_nil)
  (pss_cons (ps_if (pt_cmpR op_eq (pv 2) (pe_str) (nomark _)) (pss_cons (ps_set (i := 3) sc_law_once.nd rfl (by first | exact Or.inl rfl | exact Or.inr rfl) (pe_and (pe_cmpR op_ge (pe_ix (k_ixl K rfl) (pv 1) (pe_int) (fun _ _ => rfl)) (pe_int) (nomark _)) (pe_one (pe_cmpR op_le (pe_ix (k_ixl K rfl) (pv 1) (pe_int) (fun _ _ => rfl)) (pe_int) (nomark _)))))
  (pss_one (ps_ret (pe_tup (pa_cons (pe_ifExp (k_truth K rfl (pv 3)) (pe_listRg rfl (by rfl) T.list (prg_1 (by rfl) T.range (pe_ix (k_ixl K rfl) (pv 1) (pe_int) (fun _ _ => rfl)))) (pe_lst pa_nil)) (pa_cons (pe_ifExp (k_truth K rfl (pv 3)) (pe_str) (pe_str)) pa_nil)))))) pss_nil)
  (pss_cons (ps_if (pt_cmpR (k_in K rfl) (pv 2) (pe_tup (pa_cons (pe_str) (pa_cons (pe_str) (pa_cons (pe_str) pa_nil)))) rfl) (pss_cons (ps_asg (pv 1) (k_gunl K rfl (n := 2) rfl (pgs_cons (pg_name (i := 4) sc_law_once.nd rfl (by first | exact Or.inl rfl | exact Or.inr rfl)) (pgs_cons (pg_name (i := 5) sc_law_once.nd rfl (by first | exact Or.inl rfl | exact Or.inr rfl)) pgs_nil))))
  (pss_one (ps_ret (pe_tup (pa_cons (pe_ix (k_ixl K rfl) (pe_lst (pa_cons (pe_cmpR op_ltA (pv 4) (pv 5) (nomark _)) (pa_cons (pe_cmpR op_eq (pv 4) (pv 5) (nomark _)) (pa_cons (k_andT K rfl (pv 4) (pe_one (pv 5))) pa_nil)))) (k_bm K rfl PySem.F.plainAttrs_list PySem.F.slot_list_index PySem.F.type_list_index (k_index K rfl) (pe_lst (pa_cons (pe_str) (pa_cons (pe_str) (pa_cons (pe_str) pa_nil)))) (pa_cons (pv 2) pa_nil)) (fun _ _ => rfl)) (pa_cons (pe_str) pa_nil)))))) pss_nil)
  (pss_cons (ps_if (pt_cmpR (k_in K rfl) (pv 2) (pe_tup (pa_cons (pe_str) (pa_cons (pe_str) (pa_cons (pe_str) (pa_cons (pe_str) (pa_cons (pe_str) pa_nil)))))) rfl) (pss_one (ps_ret (pe_fn c_law_reckoned hr (by omega) (by rfl) (pa_cons (pv 2) (pa_cons (pe_ix (k_ixl K rfl) (pv 1) (pe_int) (fun _ _ => rfl)) (pa_cons (pe_ix (k_ixl K rfl) (pv 1) (pe_int) (fun _ _ => rfl)) pa_nil)))))) pss_nil)
  (pss_cons (ps_if (pt_cmpR (k_in K rfl) (pv 2) (pe_tup (pa_cons (pe_str) (pa_cons (pe_str) (pa_cons (pe_str) (pa_cons (pe_str) (pa_cons (pe_str) pa_nil)))))) rfl) (pss_one (ps_ret (pe_fn c_law_of_row hr (by omega) (by rfl) (pa_cons (pv 2) (pa_cons (pe_ix (k_ixl K rfl) (pv 1) (pe_int) (fun _ _ => rfl)) pa_nil))))) pss_nil)
  (pss_one (ps_ret (pe_fn c_law_of_two hr (by omega) (by rfl) (pa_cons (pv 2) (pa_cons (pe_ix (k_ixl K rfl) (pv 1) (pe_int) (fun _ _ => rfl)) (pa_cons (pe_ix (k_ixl K rfl) (pv 1) (pe_int) (fun _ _ => rfl)) pa_nil)))))))))))))))), ?_⟩
  cases oa with
  | num n =>
    refine ⟨_, rfl, _, _, _, _, rfl, rfl, SqT.of hp, atI_zero, ?_⟩
    refine ⟨_, rfl, rfl, _, rfl, itT (by decide +kernel) ?_⟩
    exact ⟨_, rfl, _, _, _, _, rfl, rfl, SqT.of hp, atI_one, by show 2 ≤ sizeLine; decide, fun b hb => q _ _ (Kp.new hb) ⟨b, _, rfl, upd_same, rfl⟩⟩
  | yes =>
    refine ⟨_, rfl, _, _, _, _, rfl, rfl, SqT.of hp, atI_zero, ?_⟩
    refine ⟨_, rfl, rfl, _, rfl, itF (by decide +kernel) ?_⟩
    refine ⟨_, rfl, by show 3 ≤ sizeLine; decide, fun g1 hg1 => ⟨g1, _, rfl, .inr (SqT.of upd_same), rfl, rfl, _, rfl, itT (by decide +kernel) ?_⟩⟩
    have k1 : Kp H _ := (Kp.refl : Kp H H).trans (Kp.new (o := .tup [.str "yes", .str "no", .str "none"]) hg1)
    refine ⟨_, rfl, rfl, _, rfl, itF (by decide +kernel) ?_⟩
    exact ⟨_, rfl, rfl, by show 2 ≤ sizeLine; decide, fun b hb => q _ _ (k1.trans (Kp.new hb)) ⟨b, _, rfl, upd_same, rfl⟩⟩
  | no =>
    refine ⟨_, rfl, _, _, _, _, rfl, rfl, SqT.of hp, atI_zero, ?_⟩
    refine ⟨_, rfl, rfl, _, rfl, itF (by decide +kernel) ?_⟩
    refine ⟨_, rfl, by show 3 ≤ sizeLine; decide, fun g1 hg1 => ⟨g1, _, rfl, .inr (SqT.of upd_same), rfl, rfl, _, rfl, itT (by decide +kernel) ?_⟩⟩
    have k1 : Kp H _ := (Kp.refl : Kp H H).trans (Kp.new (o := .tup [.str "yes", .str "no", .str "none"]) hg1)
    refine ⟨_, rfl, rfl, _, rfl, itF (by decide +kernel) ?_⟩
    exact ⟨_, rfl, rfl, by show 2 ≤ sizeLine; decide, fun b hb => q _ _ (k1.trans (Kp.new hb)) ⟨b, _, rfl, upd_same, rfl⟩⟩
  | none a z =>
    refine ⟨_, rfl, _, _, _, _, rfl, rfl, SqT.of hp, atI_zero, ?_⟩
    refine ⟨_, rfl, rfl, _, rfl, itF (by decide +kernel) ?_⟩
    refine ⟨_, rfl, by show 3 ≤ sizeLine; decide, fun g1 hg1 => ⟨g1, _, rfl, .inr (SqT.of upd_same), rfl, rfl, _, rfl, itT (by decide +kernel) ?_⟩⟩
    have k1 : Kp H _ := (Kp.refl : Kp H H).trans (Kp.new (o := .tup [.str "yes", .str "no", .str "none"]) hg1)
    refine ⟨_, rfl, rfl, _, rfl, itT (by decide +kernel) ?_⟩
    exact ⟨by show 0 ≤ sizeLine; decide, fun l hl => ⟨by show 2 ≤ sizeLine; decide, fun b hb => q _ _ ((k1.trans (Kp.new hl)).trans (Kp.new hb)) ⟨b, _, rfl, upd_same, l, [], rfl, Kp.new hb _ _ upd_same, (nc.kp k1).new hl, .nil⟩⟩⟩
  | @op1 a b o x0 x d rx fx =>
    generalize hs : o.str = sg at hp
    cases o with
    | not =>
      obtain rfl : sg = "not" := hs.symm
      have e : x = .bl (dB d) := rx
      subst e
      refine ⟨_, rfl, _, _, _, _, rfl, rfl, SqT.of hp, atI_zero, ?_⟩
      refine ⟨_, rfl, rfl, _, rfl, itF (by decide +kernel) ?_⟩
      refine ⟨_, rfl, by show 3 ≤ sizeLine; decide, fun g1 hg1 => ⟨g1, _, rfl, .inr (SqT.of upd_same), rfl, rfl, _, rfl, itF (by decide +kernel) ?_⟩⟩
      have k1 : Kp H _ := (Kp.refl : Kp H H).trans (Kp.new (o := .tup [.str "yes", .str "no", .str "none"]) hg1)
      refine ⟨_, rfl, rfl, _, rfl, itT (by decide +kernel) ?_⟩
      exact ⟨_, rfl, _, _, _, _, rfl, rfl, SqL.of (k1 _ _ hq), atI_zero, _, rfl, by show 2 ≤ sizeLine; decide, fun b hb => q _ _ (k1.trans (Kp.new hb)) ⟨b, _, rfl, upd_same, rfl⟩⟩
    | first _ _ =>
      obtain rfl : sg = "first" := hs.symm
      obtain ⟨p0, x1, x2, rfl, h0, n0, r1, r2⟩ := rx
      refine ⟨_, rfl, _, _, _, _, rfl, rfl, SqT.of hp, atI_zero, ?_⟩
      refine ⟨_, rfl, rfl, _, rfl, itF (by decide +kernel) ?_⟩
      refine ⟨_, rfl, by show 3 ≤ sizeLine; decide, fun g1 hg1 => ⟨g1, _, rfl, .inr (SqT.of upd_same), rfl, rfl, _, rfl, itF (by decide +kernel) ?_⟩⟩
      have k1 : Kp H _ := (Kp.refl : Kp H H).trans (Kp.new (o := .tup [.str "yes", .str "no", .str "none"]) hg1)
      refine ⟨_, rfl, rfl, _, rfl, itF (by decide +kernel) ?_⟩
      refine ⟨_, rfl, by show 2 ≤ sizeLine; decide, fun g2 hg2 => ⟨g2, _, rfl, .inr (SqT.of upd_same), rfl, rfl, _, rfl, itT (by decide +kernel) ?_⟩⟩
      have k2 : Kp H _ := k1.trans (Kp.new (o := .tup [.str "first", .str "second"]) hg2)
      exact ⟨_, rfl, _, _, _, _, rfl, rfl, SqL.of (k2 _ _ hq), atI_zero, _, rfl, rfl, .inr ⟨false, rfl, p0, _, 0, x1, rfl, rfl, SqT.of (k2 _ _ h0), atI_zero, by show 2 ≤ sizeLine; decide, fun b hb => q _ _ (k2.trans (Kp.new hb)) ⟨b, _, rfl, upd_same, r1.mono (k2.trans (Kp.new hb)).lk⟩⟩⟩
    | second _ _ =>
      obtain rfl : sg = "second" := hs.symm
      obtain ⟨p0, x1, x2, rfl, h0, n0, r1, r2⟩ := rx
      refine ⟨_, rfl, _, _, _, _, rfl, rfl, SqT.of hp, atI_zero, ?_⟩
      refine ⟨_, rfl, rfl, _, rfl, itF (by decide +kernel) ?_⟩
      refine ⟨_, rfl, by show 3 ≤ sizeLine; decide, fun g1 hg1 => ⟨g1, _, rfl, .inr (SqT.of upd_same), rfl, rfl, _, rfl, itF (by decide +kernel) ?_⟩⟩
      have k1 : Kp H _ := (Kp.refl : Kp H H).trans (Kp.new (o := .tup [.str "yes", .str "no", .str "none"]) hg1)
      refine ⟨_, rfl, rfl, _, rfl, itF (by decide +kernel) ?_⟩
      refine ⟨_, rfl, by show 2 ≤ sizeLine; decide, fun g2 hg2 => ⟨g2, _, rfl, .inr (SqT.of upd_same), rfl, rfl, _, rfl, itT (by decide +kernel) ?_⟩⟩
      have k2 : Kp H _ := k1.trans (Kp.new (o := .tup [.str "first", .str "second"]) hg2)
      exact ⟨_, rfl, _, _, _, _, rfl, rfl, SqL.of (k2 _ _ hq), atI_zero, _, rfl, rfl, .inr ⟨true, rfl, p0, _, 1, x2, rfl, rfl, SqT.of (k2 _ _ h0), atI_one, by show 2 ≤ sizeLine; decide, fun b hb => q _ _ (k2.trans (Kp.new hb)) ⟨b, _, rfl, upd_same, r2.mono (k2.trans (Kp.new hb)).lk⟩⟩⟩
    | one _ =>
      obtain rfl : sg = "one" := hs.symm
      refine ⟨_, rfl, _, _, _, _, rfl, rfl, SqT.of hp, atI_zero, ?_⟩
      refine ⟨_, rfl, rfl, _, rfl, itF (by decide +kernel) ?_⟩
      refine ⟨_, rfl, by show 3 ≤ sizeLine; decide, fun g1 hg1 => ⟨g1, _, rfl, .inr (SqT.of upd_same), rfl, rfl, _, rfl, itF (by decide +kernel) ?_⟩⟩
      have k1 : Kp H _ := (Kp.refl : Kp H H).trans (Kp.new (o := .tup [.str "yes", .str "no", .str "none"]) hg1)
      refine ⟨_, rfl, rfl, _, rfl, itF (by decide +kernel) ?_⟩
      refine ⟨_, rfl, by show 2 ≤ sizeLine; decide, fun g2 hg2 => ⟨g2, _, rfl, .inr (SqT.of upd_same), rfl, rfl, _, rfl, itF (by decide +kernel) ?_⟩⟩
      have k2 : Kp H _ := k1.trans (Kp.new (o := .tup [.str "first", .str "second"]) hg2)
      refine ⟨_, rfl, by show 2 ≤ sizeLine; decide, fun g3 hg3 => ⟨g3, _, rfl, .inr (SqT.of upd_same), rfl, rfl, _, rfl, itT (by decide +kernel) ?_⟩⟩
      have k3 : Kp H _ := k2.trans (Kp.new (o := .tup [.str "one", .str "pair"]) hg3)
      refine ⟨_, rfl, rfl, _, rfl, itF (by decide +kernel) ?_⟩
      exact ⟨_, rfl, p2, _, rfl, .inl (SqL.of (k3 _ _ hq)), fun l hl => ⟨by show 2 ≤ sizeLine; decide, fun b hb => q _ _ ((k3.trans (Kp.new hl)).trans (Kp.new hb)) ⟨b, _, rfl, upd_same, l, [x], rfl, Kp.new hb _ _ upd_same, (nc.kp k3).new hl, .cons (rx.mono ((k3.trans (Kp.new hl)).trans (Kp.new hb)).lk) .nil⟩⟩⟩
    | upto =>
      obtain rfl : sg = "upto" := hs.symm
      have e : x = .int (dI d) := rx
      subst e
      refine ⟨_, rfl, _, _, _, _, rfl, rfl, SqT.of hp, atI_zero, ?_⟩
      refine ⟨_, rfl, rfl, _, rfl, itF (by decide +kernel) ?_⟩
      refine ⟨_, rfl, by show 3 ≤ sizeLine; decide, fun g1 hg1 => ⟨g1, _, rfl, .inr (SqT.of upd_same), rfl, rfl, _, rfl, itF (by decide +kernel) ?_⟩⟩
      have k1 : Kp H _ := (Kp.refl : Kp H H).trans (Kp.new (o := .tup [.str "yes", .str "no", .str "none"]) hg1)
      refine ⟨_, rfl, rfl, _, rfl, itF (by decide +kernel) ?_⟩
      refine ⟨_, rfl, by show 2 ≤ sizeLine; decide, fun g2 hg2 => ⟨g2, _, rfl, .inr (SqT.of upd_same), rfl, rfl, _, rfl, itF (by decide +kernel) ?_⟩⟩
      have k2 : Kp H _ := k1.trans (Kp.new (o := .tup [.str "first", .str "second"]) hg2)
      refine ⟨_, rfl, by show 2 ≤ sizeLine; decide, fun g3 hg3 => ⟨g3, _, rfl, .inr (SqT.of upd_same), rfl, rfl, _, rfl, itF (by decide +kernel) ?_⟩⟩
      have k3 : Kp H _ := k2.trans (Kp.new (o := .tup [.str "one", .str "pair"]) hg3)
      refine ⟨_, rfl, rfl, _, rfl, itT (by decide +kernel) ?_⟩
      have s1 : sem1 .upto d = if 0 ≤ (dI d) ∧ (dI d) ≤ 200 then .ok ((List.range (dI d).toNat).map fun (i : Nat) => (i : Int)) else .error .far := rfl
      rw [s1] at q
      generalize dI d = i at hq q
      refine ⟨_, rfl, _, _, _, _, rfl, rfl, SqL.of (k3 _ _ hq), atI_zero, _, _, rfl, rfl, _, rfl, itB (fun e => ?_) (fun e => ?_)⟩
      · refine ⟨_, rfl, _, _, _, _, rfl, rfl, SqL.of (k3 _ _ hq), atI_zero, _, _, rfl, rfl, ?_⟩
        refine ⟨_, rfl, decide (i ≤ 200), rfl, itB (fun e2 => ?_) (fun e2 => ?_)⟩
        · have h1 := of_decide_eq_true e
          have h2 := of_decide_eq_true e2
          rw [if_pos ⟨h1, h2⟩] at q
          refine ⟨_, rfl, _, _, _, _, rfl, rfl, SqL.of (k3 _ _ hq), atI_zero, i, rfl, ⟨by omega, by omega, by omega, by omega, by omega⟩, fun l hl => ⟨_, rfl, decide (i ≤ 200), rfl, itT e2 ⟨by show 2 ≤ sizeLine; decide, fun b hb => q _ _ ((k3.trans (Kp.new hl)).trans (Kp.new hb)) ⟨b, _, rfl, upd_same, RepW.of_ints ?_ ((nc.kp k3).new hl)⟩⟩⟩⟩
          rw [upd_ne (ne_of_none upd_same hb), upd_same]
          exact congrArg (fun l => some (HO.lst l)) (rgV_zero i)
        · have h2 := of_decide_eq_false e2
          rw [if_neg (fun z => h2 z.2)] at q
          exact ⟨by show 0 ≤ sizeLine; decide, fun l hl => ⟨_, rfl, decide (i ≤ 200), rfl, itF e2 ⟨by show 2 ≤ sizeLine; decide, fun b hb => q _ _ ((k3.trans (Kp.new hl)).trans (Kp.new hb)) ⟨b, _, rfl, upd_same, Wt.nil (Kp.new hb _ _ upd_same)⟩⟩⟩⟩
      · have h1 := of_decide_eq_false e
        rw [if_neg (fun z => h1 z.1)] at q
        exact ⟨_, rfl, false, rfl, itF rfl ⟨by show 0 ≤ sizeLine; decide, fun l hl => ⟨_, rfl, false, rfl, itF rfl ⟨by show 2 ≤ sizeLine; decide, fun b hb => q _ _ ((k3.trans (Kp.new hl)).trans (Kp.new hb)) ⟨b, _, rfl, upd_same, Wt.nil (Kp.new hb _ _ upd_same)⟩⟩⟩⟩⟩
    | long _ =>
      obtain rfl : sg = "long" := hs.symm
      refine ⟨_, rfl, _, _, _, _, rfl, rfl, SqT.of hp, atI_zero, ?_⟩
      refine ⟨_, rfl, rfl, _, rfl, itF (by decide +kernel) ?_⟩
      refine ⟨_, rfl, by show 3 ≤ sizeLine; decide, fun g1 hg1 => ⟨g1, _, rfl, .inr (SqT.of upd_same), rfl, rfl, _, rfl, itF (by decide +kernel) ?_⟩⟩
      have k1 : Kp H _ := (Kp.refl : Kp H H).trans (Kp.new (o := .tup [.str "yes", .str "no", .str "none"]) hg1)
      refine ⟨_, rfl, rfl, _, rfl, itF (by decide +kernel) ?_⟩
      refine ⟨_, rfl, by show 2 ≤ sizeLine; decide, fun g2 hg2 => ⟨g2, _, rfl, .inr (SqT.of upd_same), rfl, rfl, _, rfl, itF (by decide +kernel) ?_⟩⟩
      have k2 : Kp H _ := k1.trans (Kp.new (o := .tup [.str "first", .str "second"]) hg2)
      refine ⟨_, rfl, by show 2 ≤ sizeLine; decide, fun g3 hg3 => ⟨g3, _, rfl, .inr (SqT.of upd_same), rfl, rfl, _, rfl, itF (by decide +kernel) ?_⟩⟩
      have k3 : Kp H _ := k2.trans (Kp.new (o := .tup [.str "one", .str "pair"]) hg3)
      refine ⟨_, rfl, rfl, _, rfl, itF (by decide +kernel) ?_⟩
      refine ⟨_, rfl, by show 3 ≤ sizeLine; decide, fun g4 hg4 => ⟨g4, _, rfl, .inr (SqT.of upd_same), rfl, rfl, _, rfl, itF (by decide +kernel) ?_⟩⟩
      have k4 : Kp H _ := k3.trans (Kp.new (o := .tup [.str "less", .str "same", .str "both"]) hg4)
      refine ⟨_, rfl, by show 5 ≤ sizeLine; decide, fun g5 hg5 => ⟨g5, _, rfl, .inr (SqT.of upd_same), rfl, rfl, _, rfl, itF (by decide +kernel) ?_⟩⟩
      have k5 : Kp H _ := k4.trans (Kp.new (o := .tup [.str "add", .str "sub", .str "mul", .str "div", .str "rest"]) hg5)
      refine ⟨_, rfl, by show 5 ≤ sizeLine; decide, fun g6 hg6 => ⟨g6, _, rfl, .inr (SqT.of upd_same), rfl, rfl, _, rfl, itT (by decide +kernel) ?_⟩⟩
      have k6 : Kp H _ := k5.trans (Kp.new (o := .tup [.str "sum", .str "sums", .str "most", .str "long", .str "flat"]) hg6)
      exact ⟨_, rfl, _, rfl, _, _, _, _, rfl, rfl, SqL.of (k6 _ _ hq), atI_zero, c, _, _, _, x, d, rfl, .long _, dep, nc.kp k6, rx.mono k6.lk, fx, fun v H' kk oo => q v H' (k6.trans kk) oo⟩
    | sum =>
      obtain rfl : sg = "sum" := hs.symm
      refine ⟨_, rfl, _, _, _, _, rfl, rfl, SqT.of hp, atI_zero, ?_⟩
      refine ⟨_, rfl, rfl, _, rfl, itF (by decide +kernel) ?_⟩
      refine ⟨_, rfl, by show 3 ≤ sizeLine; decide, fun g1 hg1 => ⟨g1, _, rfl, .inr (SqT.of upd_same), rfl, rfl, _, rfl, itF (by decide +kernel) ?_⟩⟩
      have k1 : Kp H _ := (Kp.refl : Kp H H).trans (Kp.new (o := .tup [.str "yes", .str "no", .str "none"]) hg1)
      refine ⟨_, rfl, rfl, _, rfl, itF (by decide +kernel) ?_⟩
      refine ⟨_, rfl, by show 2 ≤ sizeLine; decide, fun g2 hg2 => ⟨g2, _, rfl, .inr (SqT.of upd_same), rfl, rfl, _, rfl, itF (by decide +kernel) ?_⟩⟩
      have k2 : Kp H _ := k1.trans (Kp.new (o := .tup [.str "first", .str "second"]) hg2)
      refine ⟨_, rfl, by show 2 ≤ sizeLine; decide, fun g3 hg3 => ⟨g3, _, rfl, .inr (SqT.of upd_same), rfl, rfl, _, rfl, itF (by decide +kernel) ?_⟩⟩
      have k3 : Kp H _ := k2.trans (Kp.new (o := .tup [.str "one", .str "pair"]) hg3)
      refine ⟨_, rfl, rfl, _, rfl, itF (by decide +kernel) ?_⟩
      refine ⟨_, rfl, by show 3 ≤ sizeLine; decide, fun g4 hg4 => ⟨g4, _, rfl, .inr (SqT.of upd_same), rfl, rfl, _, rfl, itF (by decide +kernel) ?_⟩⟩
      have k4 : Kp H _ := k3.trans (Kp.new (o := .tup [.str "less", .str "same", .str "both"]) hg4)
      refine ⟨_, rfl, by show 5 ≤ sizeLine; decide, fun g5 hg5 => ⟨g5, _, rfl, .inr (SqT.of upd_same), rfl, rfl, _, rfl, itF (by decide +kernel) ?_⟩⟩
      have k5 : Kp H _ := k4.trans (Kp.new (o := .tup [.str "add", .str "sub", .str "mul", .str "div", .str "rest"]) hg5)
      refine ⟨_, rfl, by show 5 ≤ sizeLine; decide, fun g6 hg6 => ⟨g6, _, rfl, .inr (SqT.of upd_same), rfl, rfl, _, rfl, itT (by decide +kernel) ?_⟩⟩
      have k6 : Kp H _ := k5.trans (Kp.new (o := .tup [.str "sum", .str "sums", .str "most", .str "long", .str "flat"]) hg6)
      exact ⟨_, rfl, _, rfl, _, _, _, _, rfl, rfl, SqL.of (k6 _ _ hq), atI_zero, c, _, _, _, x, d, rfl, .sum, dep, nc.kp k6, rx.mono k6.lk, fx, fun v H' kk oo => q v H' (k6.trans kk) oo⟩
    | sums =>
      obtain rfl : sg = "sums" := hs.symm
      refine ⟨_, rfl, _, _, _, _, rfl, rfl, SqT.of hp, atI_zero, ?_⟩
      refine ⟨_, rfl, rfl, _, rfl, itF (by decide +kernel) ?_⟩
      refine ⟨_, rfl, by show 3 ≤ sizeLine; decide, fun g1 hg1 => ⟨g1, _, rfl, .inr (SqT.of upd_same), rfl, rfl, _, rfl, itF (by decide +kernel) ?_⟩⟩
      have k1 : Kp H _ := (Kp.refl : Kp H H).trans (Kp.new (o := .tup [.str "yes", .str "no", .str "none"]) hg1)
      refine ⟨_, rfl, rfl, _, rfl, itF (by decide +kernel) ?_⟩
      refine ⟨_, rfl, by show 2 ≤ sizeLine; decide, fun g2 hg2 => ⟨g2, _, rfl, .inr (SqT.of upd_same), rfl, rfl, _, rfl, itF (by decide +kernel) ?_⟩⟩
      have k2 : Kp H _ := k1.trans (Kp.new (o := .tup [.str "first", .str "second"]) hg2)
      refine ⟨_, rfl, by show 2 ≤ sizeLine; decide, fun g3 hg3 => ⟨g3, _, rfl, .inr (SqT.of upd_same), rfl, rfl, _, rfl, itF (by decide +kernel) ?_⟩⟩
      have k3 : Kp H _ := k2.trans (Kp.new (o := .tup [.str "one", .str "pair"]) hg3)
      refine ⟨_, rfl, rfl, _, rfl, itF (by decide +kernel) ?_⟩
      refine ⟨_, rfl, by show 3 ≤ sizeLine; decide, fun g4 hg4 => ⟨g4, _, rfl, .inr (SqT.of upd_same), rfl, rfl, _, rfl, itF (by decide +kernel) ?_⟩⟩
      have k4 : Kp H _ := k3.trans (Kp.new (o := .tup [.str "less", .str "same", .str "both"]) hg4)
      refine ⟨_, rfl, by show 5 ≤ sizeLine; decide, fun g5 hg5 => ⟨g5, _, rfl, .inr (SqT.of upd_same), rfl, rfl, _, rfl, itF (by decide +kernel) ?_⟩⟩
      have k5 : Kp H _ := k4.trans (Kp.new (o := .tup [.str "add", .str "sub", .str "mul", .str "div", .str "rest"]) hg5)
      refine ⟨_, rfl, by show 5 ≤ sizeLine; decide, fun g6 hg6 => ⟨g6, _, rfl, .inr (SqT.of upd_same), rfl, rfl, _, rfl, itT (by decide +kernel) ?_⟩⟩
      have k6 : Kp H _ := k5.trans (Kp.new (o := .tup [.str "sum", .str "sums", .str "most", .str "long", .str "flat"]) hg6)
      exact ⟨_, rfl, _, rfl, _, _, _, _, rfl, rfl, SqL.of (k6 _ _ hq), atI_zero, c, _, _, _, x, d, rfl, .sums, dep, nc.kp k6, rx.mono k6.lk, fx, fun v H' kk oo => q v H' (k6.trans kk) oo⟩
    | most =>
      obtain rfl : sg = "most" := hs.symm
      refine ⟨_, rfl, _, _, _, _, rfl, rfl, SqT.of hp, atI_zero, ?_⟩
      refine ⟨_, rfl, rfl, _, rfl, itF (by decide +kernel) ?_⟩
      refine ⟨_, rfl, by show 3 ≤ sizeLine; decide, fun g1 hg1 => ⟨g1, _, rfl, .inr (SqT.of upd_same), rfl, rfl, _, rfl, itF (by decide +kernel) ?_⟩⟩
      have k1 : Kp H _ := (Kp.refl : Kp H H).trans (Kp.new (o := .tup [.str "yes", .str "no", .str "none"]) hg1)
      refine ⟨_, rfl, rfl, _, rfl, itF (by decide +kernel) ?_⟩
      refine ⟨_, rfl, by show 2 ≤ sizeLine; decide, fun g2 hg2 => ⟨g2, _, rfl, .inr (SqT.of upd_same), rfl, rfl, _, rfl, itF (by decide +kernel) ?_⟩⟩
      have k2 : Kp H _ := k1.trans (Kp.new (o := .tup [.str "first", .str "second"]) hg2)
      refine ⟨_, rfl, by show 2 ≤ sizeLine; decide, fun g3 hg3 => ⟨g3, _, rfl, .inr (SqT.of upd_same), rfl, rfl, _, rfl, itF (by decide +kernel) ?_⟩⟩
      have k3 : Kp H _ := k2.trans (Kp.new (o := .tup [.str "one", .str "pair"]) hg3)
      refine ⟨_, rfl, rfl, _, rfl, itF (by decide +kernel) ?_⟩
      refine ⟨_, rfl, by show 3 ≤ sizeLine; decide, fun g4 hg4 => ⟨g4, _, rfl, .inr (SqT.of upd_same), rfl, rfl, _, rfl, itF (by decide +kernel) ?_⟩⟩
      have k4 : Kp H _ := k3.trans (Kp.new (o := .tup [.str "less", .str "same", .str "both"]) hg4)
      refine ⟨_, rfl, by show 5 ≤ sizeLine; decide, fun g5 hg5 => ⟨g5, _, rfl, .inr (SqT.of upd_same), rfl, rfl, _, rfl, itF (by decide +kernel) ?_⟩⟩
      have k5 : Kp H _ := k4.trans (Kp.new (o := .tup [.str "add", .str "sub", .str "mul", .str "div", .str "rest"]) hg5)
      refine ⟨_, rfl, by show 5 ≤ sizeLine; decide, fun g6 hg6 => ⟨g6, _, rfl, .inr (SqT.of upd_same), rfl, rfl, _, rfl, itT (by decide +kernel) ?_⟩⟩
      have k6 : Kp H _ := k5.trans (Kp.new (o := .tup [.str "sum", .str "sums", .str "most", .str "long", .str "flat"]) hg6)
      exact ⟨_, rfl, _, rfl, _, _, _, _, rfl, rfl, SqL.of (k6 _ _ hq), atI_zero, c, _, _, _, x, d, rfl, .most, dep, nc.kp k6, rx.mono k6.lk, fx, fun v H' kk oo => q v H' (k6.trans kk) oo⟩
    | flat _ =>
      obtain rfl : sg = "flat" := hs.symm
      refine ⟨_, rfl, _, _, _, _, rfl, rfl, SqT.of hp, atI_zero, ?_⟩
      refine ⟨_, rfl, rfl, _, rfl, itF (by decide +kernel) ?_⟩
      refine ⟨_, rfl, by show 3 ≤ sizeLine; decide, fun g1 hg1 => ⟨g1, _, rfl, .inr (SqT.of upd_same), rfl, rfl, _, rfl, itF (by decide +kernel) ?_⟩⟩
      have k1 : Kp H _ := (Kp.refl : Kp H H).trans (Kp.new (o := .tup [.str "yes", .str "no", .str "none"]) hg1)
      refine ⟨_, rfl, rfl, _, rfl, itF (by decide +kernel) ?_⟩
      refine ⟨_, rfl, by show 2 ≤ sizeLine; decide, fun g2 hg2 => ⟨g2, _, rfl, .inr (SqT.of upd_same), rfl, rfl, _, rfl, itF (by decide +kernel) ?_⟩⟩
      have k2 : Kp H _ := k1.trans (Kp.new (o := .tup [.str "first", .str "second"]) hg2)
      refine ⟨_, rfl, by show 2 ≤ sizeLine; decide, fun g3 hg3 => ⟨g3, _, rfl, .inr (SqT.of upd_same), rfl, rfl, _, rfl, itF (by decide +kernel) ?_⟩⟩
      have k3 : Kp H _ := k2.trans (Kp.new (o := .tup [.str "one", .str "pair"]) hg3)
      refine ⟨_, rfl, rfl, _, rfl, itF (by decide +kernel) ?_⟩
      refine ⟨_, rfl, by show 3 ≤ sizeLine; decide, fun g4 hg4 => ⟨g4, _, rfl, .inr (SqT.of upd_same), rfl, rfl, _, rfl, itF (by decide +kernel) ?_⟩⟩
      have k4 : Kp H _ := k3.trans (Kp.new (o := .tup [.str "less", .str "same", .str "both"]) hg4)
      refine ⟨_, rfl, by show 5 ≤ sizeLine; decide, fun g5 hg5 => ⟨g5, _, rfl, .inr (SqT.of upd_same), rfl, rfl, _, rfl, itF (by decide +kernel) ?_⟩⟩
      have k5 : Kp H _ := k4.trans (Kp.new (o := .tup [.str "add", .str "sub", .str "mul", .str "div", .str "rest"]) hg5)
      refine ⟨_, rfl, by show 5 ≤ sizeLine; decide, fun g6 hg6 => ⟨g6, _, rfl, .inr (SqT.of upd_same), rfl, rfl, _, rfl, itT (by decide +kernel) ?_⟩⟩
      have k6 : Kp H _ := k5.trans (Kp.new (o := .tup [.str "sum", .str "sums", .str "most", .str "long", .str "flat"]) hg6)
      exact ⟨_, rfl, _, rfl, _, _, _, _, rfl, rfl, SqL.of (k6 _ _ hq), atI_zero, c, _, _, _, x, d, rfl, .flat _, dep, nc.kp k6, rx.mono k6.lk, fx, fun v H' kk oo => q v H' (k6.trans kk) oo⟩
  | @op2 a b k o x0 y0 x y d e rx ry fx fy =>
    generalize hs : o.str = sg at hp
    cases o with
    | less =>
      obtain rfl : sg = "less" := hs.symm
      have e1 : x = .int (dI d) := rx
      have e2 : y = .int (dI e) := ry
      subst e1 e2
      refine ⟨_, rfl, _, _, _, _, rfl, rfl, SqT.of hp, atI_zero, ?_⟩
      refine ⟨_, rfl, rfl, _, rfl, itF (by decide +kernel) ?_⟩
      refine ⟨_, rfl, by show 3 ≤ sizeLine; decide, fun g1 hg1 => ⟨g1, _, rfl, .inr (SqT.of upd_same), rfl, rfl, _, rfl, itF (by decide +kernel) ?_⟩⟩
      have k1 : Kp H _ := (Kp.refl : Kp H H).trans (Kp.new (o := .tup [.str "yes", .str "no", .str "none"]) hg1)
      refine ⟨_, rfl, rfl, _, rfl, itF (by decide +kernel) ?_⟩
      refine ⟨_, rfl, by show 2 ≤ sizeLine; decide, fun g2 hg2 => ⟨g2, _, rfl, .inr (SqT.of upd_same), rfl, rfl, _, rfl, itF (by decide +kernel) ?_⟩⟩
      have k2 : Kp H _ := k1.trans (Kp.new (o := .tup [.str "first", .str "second"]) hg2)
      refine ⟨_, rfl, by show 2 ≤ sizeLine; decide, fun g3 hg3 => ⟨g3, _, rfl, .inr (SqT.of upd_same), rfl, rfl, _, rfl, itF (by decide +kernel) ?_⟩⟩
      have k3 : Kp H _ := k2.trans (Kp.new (o := .tup [.str "one", .str "pair"]) hg3)
      refine ⟨_, rfl, rfl, _, rfl, itF (by decide +kernel) ?_⟩
      refine ⟨_, rfl, by show 3 ≤ sizeLine; decide, fun g4 hg4 => ⟨g4, _, rfl, .inr (SqT.of upd_same), rfl, rfl, _, rfl, itT (by decide +kernel) ?_⟩⟩
      have k4 : Kp H _ := k3.trans (Kp.new (o := .tup [.str "less", .str "same", .str "both"]) hg4)
      refine ⟨_, rfl, p2, _, rfl, SqL.of (k4 _ _ hq), rfl, _, _, rfl, _, _, rfl, rfl, ?_⟩
      refine ⟨_, rfl, _, rfl, .inl ⟨_, _, rfl, rfl, ?_⟩⟩
      refine ⟨_, rfl, _, rfl, rfl, ?_⟩
      refine ⟨_, rfl, _, rfl, itB (fun e1 => ⟨_, rfl, ?_⟩) (fun e1 => ?_)⟩
      · refine ⟨by show 3 ≤ sizeLine; decide, fun l hl => ?_⟩
        refine ⟨by show 3 ≤ sizeLine; decide, fun l2 hl2 => ⟨.inl ⟨rfl, _, SqL.of upd_same⟩, _, rfl, l2, _, _, 0, _, rfl, rfl, SqL.of upd_same, rfl, rfl, rfl, by decide +kernel, idx_of (by decide +kernel), ?_⟩⟩
        refine ⟨l, _, ((0 : Nat) : Int), _, rfl, rfl, SqL.of (Kp.new hl2 _ _ upd_same), rfl, ?_⟩
        refine ⟨by show 2 ≤ sizeLine; decide, fun b hb => q _ _ (((k4.trans (Kp.new hl)).trans (Kp.new hl2)).trans (Kp.new hb)) ⟨b, _, rfl, upd_same, ?_⟩⟩
        exact rfl
      · refine ⟨by show 3 ≤ sizeLine; decide, fun l hl => ?_⟩
        refine ⟨by show 3 ≤ sizeLine; decide, fun l2 hl2 => ⟨.inl ⟨rfl, _, SqL.of upd_same⟩, _, rfl, l2, _, _, 0, _, rfl, rfl, SqL.of upd_same, rfl, rfl, rfl, by decide +kernel, idx_of (by decide +kernel), ?_⟩⟩
        refine ⟨l, _, ((0 : Nat) : Int), _, rfl, rfl, SqL.of (Kp.new hl2 _ _ upd_same), rfl, ?_⟩
        refine ⟨by show 2 ≤ sizeLine; decide, fun b hb => q _ _ (((k4.trans (Kp.new hl)).trans (Kp.new hl2)).trans (Kp.new hb)) ⟨b, _, rfl, upd_same, ?_⟩⟩
        exact rfl
    | sameN =>
      obtain rfl : sg = "same" := hs.symm
      have e1 : x = .int (dI d) := rx
      have e2 : y = .int (dI e) := ry
      subst e1 e2
      refine ⟨_, rfl, _, _, _, _, rfl, rfl, SqT.of hp, atI_zero, ?_⟩
      refine ⟨_, rfl, rfl, _, rfl, itF (by decide +kernel) ?_⟩
      refine ⟨_, rfl, by show 3 ≤ sizeLine; decide, fun g1 hg1 => ⟨g1, _, rfl, .inr (SqT.of upd_same), rfl, rfl, _, rfl, itF (by decide +kernel) ?_⟩⟩
      have k1 : Kp H _ := (Kp.refl : Kp H H).trans (Kp.new (o := .tup [.str "yes", .str "no", .str "none"]) hg1)
      refine ⟨_, rfl, rfl, _, rfl, itF (by decide +kernel) ?_⟩
      refine ⟨_, rfl, by show 2 ≤ sizeLine; decide, fun g2 hg2 => ⟨g2, _, rfl, .inr (SqT.of upd_same), rfl, rfl, _, rfl, itF (by decide +kernel) ?_⟩⟩
      have k2 : Kp H _ := k1.trans (Kp.new (o := .tup [.str "first", .str "second"]) hg2)
      refine ⟨_, rfl, by show 2 ≤ sizeLine; decide, fun g3 hg3 => ⟨g3, _, rfl, .inr (SqT.of upd_same), rfl, rfl, _, rfl, itF (by decide +kernel) ?_⟩⟩
      have k3 : Kp H _ := k2.trans (Kp.new (o := .tup [.str "one", .str "pair"]) hg3)
      refine ⟨_, rfl, rfl, _, rfl, itF (by decide +kernel) ?_⟩
      refine ⟨_, rfl, by show 3 ≤ sizeLine; decide, fun g4 hg4 => ⟨g4, _, rfl, .inr (SqT.of upd_same), rfl, rfl, _, rfl, itT (by decide +kernel) ?_⟩⟩
      have k4 : Kp H _ := k3.trans (Kp.new (o := .tup [.str "less", .str "same", .str "both"]) hg4)
      refine ⟨_, rfl, p2, _, rfl, SqL.of (k4 _ _ hq), rfl, _, _, rfl, _, _, rfl, rfl, ?_⟩
      refine ⟨_, rfl, _, rfl, .inl ⟨_, _, rfl, rfl, ?_⟩⟩
      refine ⟨_, rfl, _, rfl, rfl, ?_⟩
      refine ⟨_, rfl, _, rfl, itB (fun e1 => ⟨_, rfl, ?_⟩) (fun e1 => ?_)⟩
      · refine ⟨by show 3 ≤ sizeLine; decide, fun l hl => ?_⟩
        refine ⟨by show 3 ≤ sizeLine; decide, fun l2 hl2 => ⟨.inl ⟨rfl, _, SqL.of upd_same⟩, _, rfl, l2, _, _, 1, _, rfl, rfl, SqL.of upd_same, rfl, rfl, rfl, by decide +kernel, idx_of (by decide +kernel), ?_⟩⟩
        refine ⟨l, _, ((1 : Nat) : Int), _, rfl, rfl, SqL.of (Kp.new hl2 _ _ upd_same), rfl, ?_⟩
        refine ⟨by show 2 ≤ sizeLine; decide, fun b hb => q _ _ (((k4.trans (Kp.new hl)).trans (Kp.new hl2)).trans (Kp.new hb)) ⟨b, _, rfl, upd_same, ?_⟩⟩
        show V.bl _ = V.bl (decide (dI d = dI e))
        congr 1
        exact decide_eq_decide.mpr ⟨V.int.inj, congrArg V.int⟩
      · refine ⟨by show 3 ≤ sizeLine; decide, fun l hl => ?_⟩
        refine ⟨by show 3 ≤ sizeLine; decide, fun l2 hl2 => ⟨.inl ⟨rfl, _, SqL.of upd_same⟩, _, rfl, l2, _, _, 1, _, rfl, rfl, SqL.of upd_same, rfl, rfl, rfl, by decide +kernel, idx_of (by decide +kernel), ?_⟩⟩
        refine ⟨l, _, ((1 : Nat) : Int), _, rfl, rfl, SqL.of (Kp.new hl2 _ _ upd_same), rfl, ?_⟩
        refine ⟨by show 2 ≤ sizeLine; decide, fun b hb => q _ _ (((k4.trans (Kp.new hl)).trans (Kp.new hl2)).trans (Kp.new hb)) ⟨b, _, rfl, upd_same, ?_⟩⟩
        show V.bl _ = V.bl (decide (dI d = dI e))
        congr 1
        exact decide_eq_decide.mpr ⟨V.int.inj, congrArg V.int⟩
    | sameT =>
      obtain rfl : sg = "same" := hs.symm
      have e1 : x = .bl (dB d) := rx
      have e2 : y = .bl (dB e) := ry
      subst e1 e2
      refine ⟨_, rfl, _, _, _, _, rfl, rfl, SqT.of hp, atI_zero, ?_⟩
      refine ⟨_, rfl, rfl, _, rfl, itF (by decide +kernel) ?_⟩
      refine ⟨_, rfl, by show 3 ≤ sizeLine; decide, fun g1 hg1 => ⟨g1, _, rfl, .inr (SqT.of upd_same), rfl, rfl, _, rfl, itF (by decide +kernel) ?_⟩⟩
      have k1 : Kp H _ := (Kp.refl : Kp H H).trans (Kp.new (o := .tup [.str "yes", .str "no", .str "none"]) hg1)
      refine ⟨_, rfl, rfl, _, rfl, itF (by decide +kernel) ?_⟩
      refine ⟨_, rfl, by show 2 ≤ sizeLine; decide, fun g2 hg2 => ⟨g2, _, rfl, .inr (SqT.of upd_same), rfl, rfl, _, rfl, itF (by decide +kernel) ?_⟩⟩
      have k2 : Kp H _ := k1.trans (Kp.new (o := .tup [.str "first", .str "second"]) hg2)
      refine ⟨_, rfl, by show 2 ≤ sizeLine; decide, fun g3 hg3 => ⟨g3, _, rfl, .inr (SqT.of upd_same), rfl, rfl, _, rfl, itF (by decide +kernel) ?_⟩⟩
      have k3 : Kp H _ := k2.trans (Kp.new (o := .tup [.str "one", .str "pair"]) hg3)
      refine ⟨_, rfl, rfl, _, rfl, itF (by decide +kernel) ?_⟩
      refine ⟨_, rfl, by show 3 ≤ sizeLine; decide, fun g4 hg4 => ⟨g4, _, rfl, .inr (SqT.of upd_same), rfl, rfl, _, rfl, itT (by decide +kernel) ?_⟩⟩
      have k4 : Kp H _ := k3.trans (Kp.new (o := .tup [.str "less", .str "same", .str "both"]) hg4)
      refine ⟨_, rfl, p2, _, rfl, SqL.of (k4 _ _ hq), rfl, _, _, rfl, _, _, rfl, rfl, ?_⟩
      refine ⟨_, rfl, _, rfl, .inr ⟨_, _, rfl, rfl, fun cc => ?_⟩⟩
      refine ⟨_, rfl, _, rfl, rfl, ?_⟩
      refine ⟨_, rfl, _, rfl, itB (fun e1 => ⟨_, rfl, ?_⟩) (fun e1 => ?_)⟩
      · refine ⟨by show 3 ≤ sizeLine; decide, fun l hl => ?_⟩
        refine ⟨by show 3 ≤ sizeLine; decide, fun l2 hl2 => ⟨.inl ⟨rfl, _, SqL.of upd_same⟩, _, rfl, l2, _, _, 1, _, rfl, rfl, SqL.of upd_same, rfl, rfl, rfl, by decide +kernel, idx_of (by decide +kernel), ?_⟩⟩
        refine ⟨l, _, ((1 : Nat) : Int), _, rfl, rfl, SqL.of (Kp.new hl2 _ _ upd_same), rfl, ?_⟩
        refine ⟨by show 2 ≤ sizeLine; decide, fun b hb => q _ _ (((k4.trans (Kp.new hl)).trans (Kp.new hl2)).trans (Kp.new hb)) ⟨b, _, rfl, upd_same, ?_⟩⟩
        show V.bl _ = V.bl (decide (dB d = dB e))
        congr 1
        exact decide_eq_decide.mpr ⟨V.bl.inj, congrArg V.bl⟩
      · refine ⟨by show 3 ≤ sizeLine; decide, fun l hl => ?_⟩
        refine ⟨by show 3 ≤ sizeLine; decide, fun l2 hl2 => ⟨.inl ⟨rfl, _, SqL.of upd_same⟩, _, rfl, l2, _, _, 1, _, rfl, rfl, SqL.of upd_same, rfl, rfl, rfl, by decide +kernel, idx_of (by decide +kernel), ?_⟩⟩
        refine ⟨l, _, ((1 : Nat) : Int), _, rfl, rfl, SqL.of (Kp.new hl2 _ _ upd_same), rfl, ?_⟩
        refine ⟨by show 2 ≤ sizeLine; decide, fun b hb => q _ _ (((k4.trans (Kp.new hl)).trans (Kp.new hl2)).trans (Kp.new hb)) ⟨b, _, rfl, upd_same, ?_⟩⟩
        show V.bl _ = V.bl (decide (dB d = dB e))
        congr 1
        exact decide_eq_decide.mpr ⟨V.bl.inj, congrArg V.bl⟩
    | both =>
      obtain rfl : sg = "both" := hs.symm
      have e1 : x = .bl (dB d) := rx
      have e2 : y = .bl (dB e) := ry
      subst e1 e2
      refine ⟨_, rfl, _, _, _, _, rfl, rfl, SqT.of hp, atI_zero, ?_⟩
      refine ⟨_, rfl, rfl, _, rfl, itF (by decide +kernel) ?_⟩
      refine ⟨_, rfl, by show 3 ≤ sizeLine; decide, fun g1 hg1 => ⟨g1, _, rfl, .inr (SqT.of upd_same), rfl, rfl, _, rfl, itF (by decide +kernel) ?_⟩⟩
      have k1 : Kp H _ := (Kp.refl : Kp H H).trans (Kp.new (o := .tup [.str "yes", .str "no", .str "none"]) hg1)
      refine ⟨_, rfl, rfl, _, rfl, itF (by decide +kernel) ?_⟩
      refine ⟨_, rfl, by show 2 ≤ sizeLine; decide, fun g2 hg2 => ⟨g2, _, rfl, .inr (SqT.of upd_same), rfl, rfl, _, rfl, itF (by decide +kernel) ?_⟩⟩
      have k2 : Kp H _ := k1.trans (Kp.new (o := .tup [.str "first", .str "second"]) hg2)
      refine ⟨_, rfl, by show 2 ≤ sizeLine; decide, fun g3 hg3 => ⟨g3, _, rfl, .inr (SqT.of upd_same), rfl, rfl, _, rfl, itF (by decide +kernel) ?_⟩⟩
      have k3 : Kp H _ := k2.trans (Kp.new (o := .tup [.str "one", .str "pair"]) hg3)
      refine ⟨_, rfl, rfl, _, rfl, itF (by decide +kernel) ?_⟩
      refine ⟨_, rfl, by show 3 ≤ sizeLine; decide, fun g4 hg4 => ⟨g4, _, rfl, .inr (SqT.of upd_same), rfl, rfl, _, rfl, itT (by decide +kernel) ?_⟩⟩
      have k4 : Kp H _ := k3.trans (Kp.new (o := .tup [.str "less", .str "same", .str "both"]) hg4)
      refine ⟨_, rfl, p2, _, rfl, SqL.of (k4 _ _ hq), rfl, _, _, rfl, _, _, rfl, rfl, ?_⟩
      refine ⟨_, rfl, _, rfl, .inr ⟨_, _, rfl, rfl, fun cc => ?_⟩⟩
      refine ⟨_, rfl, _, rfl, rfl, ?_⟩
      refine ⟨_, rfl, _, rfl, itB (fun e1 => ⟨_, rfl, ?_⟩) (fun e1 => ?_)⟩
      · refine ⟨by show 3 ≤ sizeLine; decide, fun l hl => ?_⟩
        refine ⟨by show 3 ≤ sizeLine; decide, fun l2 hl2 => ⟨.inl ⟨rfl, _, SqL.of upd_same⟩, _, rfl, l2, _, _, 2, _, rfl, rfl, SqL.of upd_same, rfl, rfl, rfl, by decide +kernel, idx_of (by decide +kernel), ?_⟩⟩
        refine ⟨l, _, ((2 : Nat) : Int), _, rfl, rfl, SqL.of (Kp.new hl2 _ _ upd_same), rfl, ?_⟩
        refine ⟨by show 2 ≤ sizeLine; decide, fun b hb => q _ _ (((k4.trans (Kp.new hl)).trans (Kp.new hl2)).trans (Kp.new hb)) ⟨b, _, rfl, upd_same, ?_⟩⟩
        show V.bl (dB e) = V.bl (dB d && dB e)
        rw [e1, Bool.true_and]
      · refine ⟨by show 3 ≤ sizeLine; decide, fun l hl => ?_⟩
        refine ⟨by show 3 ≤ sizeLine; decide, fun l2 hl2 => ⟨.inl ⟨rfl, _, SqL.of upd_same⟩, _, rfl, l2, _, _, 2, _, rfl, rfl, SqL.of upd_same, rfl, rfl, rfl, by decide +kernel, idx_of (by decide +kernel), ?_⟩⟩
        refine ⟨l, _, ((2 : Nat) : Int), _, rfl, rfl, SqL.of (Kp.new hl2 _ _ upd_same), rfl, ?_⟩
        refine ⟨by show 2 ≤ sizeLine; decide, fun b hb => q _ _ (((k4.trans (Kp.new hl)).trans (Kp.new hl2)).trans (Kp.new hb)) ⟨b, _, rfl, upd_same, ?_⟩⟩
        show V.bl (dB d) = V.bl (dB d && dB e)
        rw [e1, Bool.false_and]
    | pair _ _ =>
      obtain rfl : sg = "pair" := hs.symm
      refine ⟨_, rfl, _, _, _, _, rfl, rfl, SqT.of hp, atI_zero, ?_⟩
      refine ⟨_, rfl, rfl, _, rfl, itF (by decide +kernel) ?_⟩
      refine ⟨_, rfl, by show 3 ≤ sizeLine; decide, fun g1 hg1 => ⟨g1, _, rfl, .inr (SqT.of upd_same), rfl, rfl, _, rfl, itF (by decide +kernel) ?_⟩⟩
      have k1 : Kp H _ := (Kp.refl : Kp H H).trans (Kp.new (o := .tup [.str "yes", .str "no", .str "none"]) hg1)
      refine ⟨_, rfl, rfl, _, rfl, itF (by decide +kernel) ?_⟩
      refine ⟨_, rfl, by show 2 ≤ sizeLine; decide, fun g2 hg2 => ⟨g2, _, rfl, .inr (SqT.of upd_same), rfl, rfl, _, rfl, itF (by decide +kernel) ?_⟩⟩
      have k2 : Kp H _ := k1.trans (Kp.new (o := .tup [.str "first", .str "second"]) hg2)
      refine ⟨_, rfl, by show 2 ≤ sizeLine; decide, fun g3 hg3 => ⟨g3, _, rfl, .inr (SqT.of upd_same), rfl, rfl, _, rfl, itT (by decide +kernel) ?_⟩⟩
      have k3 : Kp H _ := k2.trans (Kp.new (o := .tup [.str "one", .str "pair"]) hg3)
      refine ⟨_, rfl, rfl, _, rfl, itT (by decide +kernel) ?_⟩
      exact ⟨_, rfl, p2, _, rfl, .inl ⟨SqL.of (k3 _ _ hq), fun l hl => ⟨by show 2 ≤ sizeLine; decide, fun b hb => q _ _ ((k3.trans (Kp.new hl)).trans (Kp.new hb)) ⟨b, _, rfl, upd_same, l, x, y, rfl, Kp.new hb _ _ upd_same, (nc.kp k3).new hl, rx.mono ((k3.trans (Kp.new hl)).trans (Kp.new hb)).lk, ry.mono ((k3.trans (Kp.new hl)).trans (Kp.new hb)).lk⟩⟩⟩⟩
    | add =>
      obtain rfl : sg = "add" := hs.symm
      have e1 : x = .int (dI d) := rx
      have e2 : y = .int (dI e) := ry
      subst e1 e2
      refine ⟨_, rfl, _, _, _, _, rfl, rfl, SqT.of hp, atI_zero, ?_⟩
      refine ⟨_, rfl, rfl, _, rfl, itF (by decide +kernel) ?_⟩
      refine ⟨_, rfl, by show 3 ≤ sizeLine; decide, fun g1 hg1 => ⟨g1, _, rfl, .inr (SqT.of upd_same), rfl, rfl, _, rfl, itF (by decide +kernel) ?_⟩⟩
      have k1 : Kp H _ := (Kp.refl : Kp H H).trans (Kp.new (o := .tup [.str "yes", .str "no", .str "none"]) hg1)
      refine ⟨_, rfl, rfl, _, rfl, itF (by decide +kernel) ?_⟩
      refine ⟨_, rfl, by show 2 ≤ sizeLine; decide, fun g2 hg2 => ⟨g2, _, rfl, .inr (SqT.of upd_same), rfl, rfl, _, rfl, itF (by decide +kernel) ?_⟩⟩
      have k2 : Kp H _ := k1.trans (Kp.new (o := .tup [.str "first", .str "second"]) hg2)
      refine ⟨_, rfl, by show 2 ≤ sizeLine; decide, fun g3 hg3 => ⟨g3, _, rfl, .inr (SqT.of upd_same), rfl, rfl, _, rfl, itF (by decide +kernel) ?_⟩⟩
      have k3 : Kp H _ := k2.trans (Kp.new (o := .tup [.str "one", .str "pair"]) hg3)
      refine ⟨_, rfl, rfl, _, rfl, itF (by decide +kernel) ?_⟩
      refine ⟨_, rfl, by show 3 ≤ sizeLine; decide, fun g4 hg4 => ⟨g4, _, rfl, .inr (SqT.of upd_same), rfl, rfl, _, rfl, itF (by decide +kernel) ?_⟩⟩
      have k4 : Kp H _ := k3.trans (Kp.new (o := .tup [.str "less", .str "same", .str "both"]) hg4)
      refine ⟨_, rfl, by show 5 ≤ sizeLine; decide, fun g5 hg5 => ⟨g5, _, rfl, .inr (SqT.of upd_same), rfl, rfl, _, rfl, itT (by decide +kernel) ?_⟩⟩
      have k5 : Kp H _ := k4.trans (Kp.new (o := .tup [.str "add", .str "sub", .str "mul", .str "div", .str "rest"]) hg5)
      exact ⟨_, rfl, _, rfl, _, _, _, _, rfl, rfl, SqL.of (k5 _ _ hq), atI_zero, _, rfl, _, _, _, _, rfl, rfl, SqL.of (k5 _ _ hq), atI_one, .add, dI d, dI e, c, rfl, fx, fy, fun v H' kk oo => q v H' (k5.trans kk) oo⟩
    | sub =>
      obtain rfl : sg = "sub" := hs.symm
      have e1 : x = .int (dI d) := rx
      have e2 : y = .int (dI e) := ry
      subst e1 e2
      refine ⟨_, rfl, _, _, _, _, rfl, rfl, SqT.of hp, atI_zero, ?_⟩
      refine ⟨_, rfl, rfl, _, rfl, itF (by decide +kernel) ?_⟩
      refine ⟨_, rfl, by show 3 ≤ sizeLine; decide, fun g1 hg1 => ⟨g1, _, rfl, .inr (SqT.of upd_same), rfl, rfl, _, rfl, itF (by decide +kernel) ?_⟩⟩
      have k1 : Kp H _ := (Kp.refl : Kp H H).trans (Kp.new (o := .tup [.str "yes", .str "no", .str "none"]) hg1)
      refine ⟨_, rfl, rfl, _, rfl, itF (by decide +kernel) ?_⟩
      refine ⟨_, rfl, by show 2 ≤ sizeLine; decide, fun g2 hg2 => ⟨g2, _, rfl, .inr (SqT.of upd_same), rfl, rfl, _, rfl, itF (by decide +kernel) ?_⟩⟩
      have k2 : Kp H _ := k1.trans (Kp.new (o := .tup [.str "first", .str "second"]) hg2)
      refine ⟨_, rfl, by show 2 ≤ sizeLine; decide, fun g3 hg3 => ⟨g3, _, rfl, .inr (SqT.of upd_same), rfl, rfl, _, rfl, itF (by decide +kernel) ?_⟩⟩
      have k3 : Kp H _ := k2.trans (Kp.new (o := .tup [.str "one", .str "pair"]) hg3)
      refine ⟨_, rfl, rfl, _, rfl, itF (by decide +kernel) ?_⟩
      refine ⟨_, rfl, by show 3 ≤ sizeLine; decide, fun g4 hg4 => ⟨g4, _, rfl, .inr (SqT.of upd_same), rfl, rfl, _, rfl, itF (by decide +kernel) ?_⟩⟩
      have k4 : Kp H _ := k3.trans (Kp.new (o := .tup [.str "less", .str "same", .str "both"]) hg4)
      refine ⟨_, rfl, by show 5 ≤ sizeLine; decide, fun g5 hg5 => ⟨g5, _, rfl, .inr (SqT.of upd_same), rfl, rfl, _, rfl, itT (by decide +kernel) ?_⟩⟩
      have k5 : Kp H _ := k4.trans (Kp.new (o := .tup [.str "add", .str "sub", .str "mul", .str "div", .str "rest"]) hg5)
      exact ⟨_, rfl, _, rfl, _, _, _, _, rfl, rfl, SqL.of (k5 _ _ hq), atI_zero, _, rfl, _, _, _, _, rfl, rfl, SqL.of (k5 _ _ hq), atI_one, .sub, dI d, dI e, c, rfl, fx, fy, fun v H' kk oo => q v H' (k5.trans kk) oo⟩
    | mul =>
      obtain rfl : sg = "mul" := hs.symm
      have e1 : x = .int (dI d) := rx
      have e2 : y = .int (dI e) := ry
      subst e1 e2
      refine ⟨_, rfl, _, _, _, _, rfl, rfl, SqT.of hp, atI_zero, ?_⟩
      refine ⟨_, rfl, rfl, _, rfl, itF (by decide +kernel) ?_⟩
      refine ⟨_, rfl, by show 3 ≤ sizeLine; decide, fun g1 hg1 => ⟨g1, _, rfl, .inr (SqT.of upd_same), rfl, rfl, _, rfl, itF (by decide +kernel) ?_⟩⟩
      have k1 : Kp H _ := (Kp.refl : Kp H H).trans (Kp.new (o := .tup [.str "yes", .str "no", .str "none"]) hg1)
      refine ⟨_, rfl, rfl, _, rfl, itF (by decide +kernel) ?_⟩
      refine ⟨_, rfl, by show 2 ≤ sizeLine; decide, fun g2 hg2 => ⟨g2, _, rfl, .inr (SqT.of upd_same), rfl, rfl, _, rfl, itF (by decide +kernel) ?_⟩⟩
      have k2 : Kp H _ := k1.trans (Kp.new (o := .tup [.str "first", .str "second"]) hg2)
      refine ⟨_, rfl, by show 2 ≤ sizeLine; decide, fun g3 hg3 => ⟨g3, _, rfl, .inr (SqT.of upd_same), rfl, rfl, _, rfl, itF (by decide +kernel) ?_⟩⟩
      have k3 : Kp H _ := k2.trans (Kp.new (o := .tup [.str "one", .str "pair"]) hg3)
      refine ⟨_, rfl, rfl, _, rfl, itF (by decide +kernel) ?_⟩
      refine ⟨_, rfl, by show 3 ≤ sizeLine; decide, fun g4 hg4 => ⟨g4, _, rfl, .inr (SqT.of upd_same), rfl, rfl, _, rfl, itF (by decide +kernel) ?_⟩⟩
      have k4 : Kp H _ := k3.trans (Kp.new (o := .tup [.str "less", .str "same", .str "both"]) hg4)
      refine ⟨_, rfl, by show 5 ≤ sizeLine; decide, fun g5 hg5 => ⟨g5, _, rfl, .inr (SqT.of upd_same), rfl, rfl, _, rfl, itT (by decide +kernel) ?_⟩⟩
      have k5 : Kp H _ := k4.trans (Kp.new (o := .tup [.str "add", .str "sub", .str "mul", .str "div", .str "rest"]) hg5)
      exact ⟨_, rfl, _, rfl, _, _, _, _, rfl, rfl, SqL.of (k5 _ _ hq), atI_zero, _, rfl, _, _, _, _, rfl, rfl, SqL.of (k5 _ _ hq), atI_one, .mul, dI d, dI e, c, rfl, fx, fy, fun v H' kk oo => q v H' (k5.trans kk) oo⟩
    | div =>
      obtain rfl : sg = "div" := hs.symm
      have e1 : x = .int (dI d) := rx
      have e2 : y = .int (dI e) := ry
      subst e1 e2
      refine ⟨_, rfl, _, _, _, _, rfl, rfl, SqT.of hp, atI_zero, ?_⟩
      refine ⟨_, rfl, rfl, _, rfl, itF (by decide +kernel) ?_⟩
      refine ⟨_, rfl, by show 3 ≤ sizeLine; decide, fun g1 hg1 => ⟨g1, _, rfl, .inr (SqT.of upd_same), rfl, rfl, _, rfl, itF (by decide +kernel) ?_⟩⟩
      have k1 : Kp H _ := (Kp.refl : Kp H H).trans (Kp.new (o := .tup [.str "yes", .str "no", .str "none"]) hg1)
      refine ⟨_, rfl, rfl, _, rfl, itF (by decide +kernel) ?_⟩
      refine ⟨_, rfl, by show 2 ≤ sizeLine; decide, fun g2 hg2 => ⟨g2, _, rfl, .inr (SqT.of upd_same), rfl, rfl, _, rfl, itF (by decide +kernel) ?_⟩⟩
      have k2 : Kp H _ := k1.trans (Kp.new (o := .tup [.str "first", .str "second"]) hg2)
      refine ⟨_, rfl, by show 2 ≤ sizeLine; decide, fun g3 hg3 => ⟨g3, _, rfl, .inr (SqT.of upd_same), rfl, rfl, _, rfl, itF (by decide +kernel) ?_⟩⟩
      have k3 : Kp H _ := k2.trans (Kp.new (o := .tup [.str "one", .str "pair"]) hg3)
      refine ⟨_, rfl, rfl, _, rfl, itF (by decide +kernel) ?_⟩
      refine ⟨_, rfl, by show 3 ≤ sizeLine; decide, fun g4 hg4 => ⟨g4, _, rfl, .inr (SqT.of upd_same), rfl, rfl, _, rfl, itF (by decide +kernel) ?_⟩⟩
      have k4 : Kp H _ := k3.trans (Kp.new (o := .tup [.str "less", .str "same", .str "both"]) hg4)
      refine ⟨_, rfl, by show 5 ≤ sizeLine; decide, fun g5 hg5 => ⟨g5, _, rfl, .inr (SqT.of upd_same), rfl, rfl, _, rfl, itT (by decide +kernel) ?_⟩⟩
      have k5 : Kp H _ := k4.trans (Kp.new (o := .tup [.str "add", .str "sub", .str "mul", .str "div", .str "rest"]) hg5)
      exact ⟨_, rfl, _, rfl, _, _, _, _, rfl, rfl, SqL.of (k5 _ _ hq), atI_zero, _, rfl, _, _, _, _, rfl, rfl, SqL.of (k5 _ _ hq), atI_one, .div, dI d, dI e, c, rfl, fx, fy, fun v H' kk oo => q v H' (k5.trans kk) oo⟩
    | rest =>
      obtain rfl : sg = "rest" := hs.symm
      have e1 : x = .int (dI d) := rx
      have e2 : y = .int (dI e) := ry
      subst e1 e2
      refine ⟨_, rfl, _, _, _, _, rfl, rfl, SqT.of hp, atI_zero, ?_⟩
      refine ⟨_, rfl, rfl, _, rfl, itF (by decide +kernel) ?_⟩
      refine ⟨_, rfl, by show 3 ≤ sizeLine; decide, fun g1 hg1 => ⟨g1, _, rfl, .inr (SqT.of upd_same), rfl, rfl, _, rfl, itF (by decide +kernel) ?_⟩⟩
      have k1 : Kp H _ := (Kp.refl : Kp H H).trans (Kp.new (o := .tup [.str "yes", .str "no", .str "none"]) hg1)
      refine ⟨_, rfl, rfl, _, rfl, itF (by decide +kernel) ?_⟩
      refine ⟨_, rfl, by show 2 ≤ sizeLine; decide, fun g2 hg2 => ⟨g2, _, rfl, .inr (SqT.of upd_same), rfl, rfl, _, rfl, itF (by decide +kernel) ?_⟩⟩
      have k2 : Kp H _ := k1.trans (Kp.new (o := .tup [.str "first", .str "second"]) hg2)
      refine ⟨_, rfl, by show 2 ≤ sizeLine; decide, fun g3 hg3 => ⟨g3, _, rfl, .inr (SqT.of upd_same), rfl, rfl, _, rfl, itF (by decide +kernel) ?_⟩⟩
      have k3 : Kp H _ := k2.trans (Kp.new (o := .tup [.str "one", .str "pair"]) hg3)
      refine ⟨_, rfl, rfl, _, rfl, itF (by decide +kernel) ?_⟩
      refine ⟨_, rfl, by show 3 ≤ sizeLine; decide, fun g4 hg4 => ⟨g4, _, rfl, .inr (SqT.of upd_same), rfl, rfl, _, rfl, itF (by decide +kernel) ?_⟩⟩
      have k4 : Kp H _ := k3.trans (Kp.new (o := .tup [.str "less", .str "same", .str "both"]) hg4)
      refine ⟨_, rfl, by show 5 ≤ sizeLine; decide, fun g5 hg5 => ⟨g5, _, rfl, .inr (SqT.of upd_same), rfl, rfl, _, rfl, itT (by decide +kernel) ?_⟩⟩
      have k5 : Kp H _ := k4.trans (Kp.new (o := .tup [.str "add", .str "sub", .str "mul", .str "div", .str "rest"]) hg5)
      exact ⟨_, rfl, _, rfl, _, _, _, _, rfl, rfl, SqL.of (k5 _ _ hq), atI_zero, _, rfl, _, _, _, _, rfl, rfl, SqL.of (k5 _ _ hq), atI_one, .rest, dI d, dI e, c, rfl, fx, fy, fun v H' kk oo => q v H' (k5.trans kk) oo⟩
    | pick _ =>
      obtain rfl : sg = "pick" := hs.symm
      refine ⟨_, rfl, _, _, _, _, rfl, rfl, SqT.of hp, atI_zero, ?_⟩
      refine ⟨_, rfl, rfl, _, rfl, itF (by decide +kernel) ?_⟩
      refine ⟨_, rfl, by show 3 ≤ sizeLine; decide, fun g1 hg1 => ⟨g1, _, rfl, .inr (SqT.of upd_same), rfl, rfl, _, rfl, itF (by decide +kernel) ?_⟩⟩
      have k1 : Kp H _ := (Kp.refl : Kp H H).trans (Kp.new (o := .tup [.str "yes", .str "no", .str "none"]) hg1)
      refine ⟨_, rfl, rfl, _, rfl, itF (by decide +kernel) ?_⟩
      refine ⟨_, rfl, by show 2 ≤ sizeLine; decide, fun g2 hg2 => ⟨g2, _, rfl, .inr (SqT.of upd_same), rfl, rfl, _, rfl, itF (by decide +kernel) ?_⟩⟩
      have k2 : Kp H _ := k1.trans (Kp.new (o := .tup [.str "first", .str "second"]) hg2)
      refine ⟨_, rfl, by show 2 ≤ sizeLine; decide, fun g3 hg3 => ⟨g3, _, rfl, .inr (SqT.of upd_same), rfl, rfl, _, rfl, itF (by decide +kernel) ?_⟩⟩
      have k3 : Kp H _ := k2.trans (Kp.new (o := .tup [.str "one", .str "pair"]) hg3)
      refine ⟨_, rfl, rfl, _, rfl, itF (by decide +kernel) ?_⟩
      refine ⟨_, rfl, by show 3 ≤ sizeLine; decide, fun g4 hg4 => ⟨g4, _, rfl, .inr (SqT.of upd_same), rfl, rfl, _, rfl, itF (by decide +kernel) ?_⟩⟩
      have k4 : Kp H _ := k3.trans (Kp.new (o := .tup [.str "less", .str "same", .str "both"]) hg4)
      refine ⟨_, rfl, by show 5 ≤ sizeLine; decide, fun g5 hg5 => ⟨g5, _, rfl, .inr (SqT.of upd_same), rfl, rfl, _, rfl, itF (by decide +kernel) ?_⟩⟩
      have k5 : Kp H _ := k4.trans (Kp.new (o := .tup [.str "add", .str "sub", .str "mul", .str "div", .str "rest"]) hg5)
      refine ⟨_, rfl, by show 5 ≤ sizeLine; decide, fun g6 hg6 => ⟨g6, _, rfl, .inr (SqT.of upd_same), rfl, rfl, _, rfl, itF (by decide +kernel) ?_⟩⟩
      have k6 : Kp H _ := k5.trans (Kp.new (o := .tup [.str "sum", .str "sums", .str "most", .str "long", .str "flat"]) hg6)
      exact ⟨_, rfl, _, rfl, _, _, _, _, rfl, rfl, SqL.of (k6 _ _ hq), atI_zero, _, rfl, _, _, _, _, rfl, rfl, SqL.of (k6 _ _ hq), atI_one, c, _, _, _, _, x, y, d, e, rfl, .pick _, dep, nc.kp k6, rx.mono k6.lk, ry.mono k6.lk, fx, fy, fun v H' kk oo => q v H' (k6.trans kk) oo⟩
    | join _ =>
      obtain rfl : sg = "join" := hs.symm
      refine ⟨_, rfl, _, _, _, _, rfl, rfl, SqT.of hp, atI_zero, ?_⟩
      refine ⟨_, rfl, rfl, _, rfl, itF (by decide +kernel) ?_⟩
      refine ⟨_, rfl, by show 3 ≤ sizeLine; decide, fun g1 hg1 => ⟨g1, _, rfl, .inr (SqT.of upd_same), rfl, rfl, _, rfl, itF (by decide +kernel) ?_⟩⟩
      have k1 : Kp H _ := (Kp.refl : Kp H H).trans (Kp.new (o := .tup [.str "yes", .str "no", .str "none"]) hg1)
      refine ⟨_, rfl, rfl, _, rfl, itF (by decide +kernel) ?_⟩
      refine ⟨_, rfl, by show 2 ≤ sizeLine; decide, fun g2 hg2 => ⟨g2, _, rfl, .inr (SqT.of upd_same), rfl, rfl, _, rfl, itF (by decide +kernel) ?_⟩⟩
      have k2 : Kp H _ := k1.trans (Kp.new (o := .tup [.str "first", .str "second"]) hg2)
      refine ⟨_, rfl, by show 2 ≤ sizeLine; decide, fun g3 hg3 => ⟨g3, _, rfl, .inr (SqT.of upd_same), rfl, rfl, _, rfl, itF (by decide +kernel) ?_⟩⟩
      have k3 : Kp H _ := k2.trans (Kp.new (o := .tup [.str "one", .str "pair"]) hg3)
      refine ⟨_, rfl, rfl, _, rfl, itF (by decide +kernel) ?_⟩
      refine ⟨_, rfl, by show 3 ≤ sizeLine; decide, fun g4 hg4 => ⟨g4, _, rfl, .inr (SqT.of upd_same), rfl, rfl, _, rfl, itF (by decide +kernel) ?_⟩⟩
      have k4 : Kp H _ := k3.trans (Kp.new (o := .tup [.str "less", .str "same", .str "both"]) hg4)
      refine ⟨_, rfl, by show 5 ≤ sizeLine; decide, fun g5 hg5 => ⟨g5, _, rfl, .inr (SqT.of upd_same), rfl, rfl, _, rfl, itF (by decide +kernel) ?_⟩⟩
      have k5 : Kp H _ := k4.trans (Kp.new (o := .tup [.str "add", .str "sub", .str "mul", .str "div", .str "rest"]) hg5)
      refine ⟨_, rfl, by show 5 ≤ sizeLine; decide, fun g6 hg6 => ⟨g6, _, rfl, .inr (SqT.of upd_same), rfl, rfl, _, rfl, itF (by decide +kernel) ?_⟩⟩
      have k6 : Kp H _ := k5.trans (Kp.new (o := .tup [.str "sum", .str "sums", .str "most", .str "long", .str "flat"]) hg6)
      exact ⟨_, rfl, _, rfl, _, _, _, _, rfl, rfl, SqL.of (k6 _ _ hq), atI_zero, _, rfl, _, _, _, _, rfl, rfl, SqL.of (k6 _ _ hq), atI_one, c, _, _, _, _, x, y, d, e, rfl, .join _, dep, nc.kp k6, rx.mono k6.lk, ry.mono k6.lk, fx, fy, fun v H' kk oo => q v H' (k6.trans kk) oo⟩
    | keep _ =>
      obtain rfl : sg = "keep" := hs.symm
      refine ⟨_, rfl, _, _, _, _, rfl, rfl, SqT.of hp, atI_zero, ?_⟩
      refine ⟨_, rfl, rfl, _, rfl, itF (by decide +kernel) ?_⟩
      refine ⟨_, rfl, by show 3 ≤ sizeLine; decide, fun g1 hg1 => ⟨g1, _, rfl, .inr (SqT.of upd_same), rfl, rfl, _, rfl, itF (by decide +kernel) ?_⟩⟩
      have k1 : Kp H _ := (Kp.refl : Kp H H).trans (Kp.new (o := .tup [.str "yes", .str "no", .str "none"]) hg1)
      refine ⟨_, rfl, rfl, _, rfl, itF (by decide +kernel) ?_⟩
      refine ⟨_, rfl, by show 2 ≤ sizeLine; decide, fun g2 hg2 => ⟨g2, _, rfl, .inr (SqT.of upd_same), rfl, rfl, _, rfl, itF (by decide +kernel) ?_⟩⟩
      have k2 : Kp H _ := k1.trans (Kp.new (o := .tup [.str "first", .str "second"]) hg2)
      refine ⟨_, rfl, by show 2 ≤ sizeLine; decide, fun g3 hg3 => ⟨g3, _, rfl, .inr (SqT.of upd_same), rfl, rfl, _, rfl, itF (by decide +kernel) ?_⟩⟩
      have k3 : Kp H _ := k2.trans (Kp.new (o := .tup [.str "one", .str "pair"]) hg3)
      refine ⟨_, rfl, rfl, _, rfl, itF (by decide +kernel) ?_⟩
      refine ⟨_, rfl, by show 3 ≤ sizeLine; decide, fun g4 hg4 => ⟨g4, _, rfl, .inr (SqT.of upd_same), rfl, rfl, _, rfl, itF (by decide +kernel) ?_⟩⟩
      have k4 : Kp H _ := k3.trans (Kp.new (o := .tup [.str "less", .str "same", .str "both"]) hg4)
      refine ⟨_, rfl, by show 5 ≤ sizeLine; decide, fun g5 hg5 => ⟨g5, _, rfl, .inr (SqT.of upd_same), rfl, rfl, _, rfl, itF (by decide +kernel) ?_⟩⟩
      have k5 : Kp H _ := k4.trans (Kp.new (o := .tup [.str "add", .str "sub", .str "mul", .str "div", .str "rest"]) hg5)
      refine ⟨_, rfl, by show 5 ≤ sizeLine; decide, fun g6 hg6 => ⟨g6, _, rfl, .inr (SqT.of upd_same), rfl, rfl, _, rfl, itF (by decide +kernel) ?_⟩⟩
      have k6 : Kp H _ := k5.trans (Kp.new (o := .tup [.str "sum", .str "sums", .str "most", .str "long", .str "flat"]) hg6)
      exact ⟨_, rfl, _, rfl, _, _, _, _, rfl, rfl, SqL.of (k6 _ _ hq), atI_zero, _, rfl, _, _, _, _, rfl, rfl, SqL.of (k6 _ _ hq), atI_one, c, _, _, _, _, x, y, d, e, rfl, .keep _, dep, nc.kp k6, rx.mono k6.lk, ry.mono k6.lk, fx, fy, fun v H' kk oo => q v H' (k6.trans kk) oo⟩
    | cut _ =>
      obtain rfl : sg = "cut" := hs.symm
      refine ⟨_, rfl, _, _, _, _, rfl, rfl, SqT.of hp, atI_zero, ?_⟩
      refine ⟨_, rfl, rfl, _, rfl, itF (by decide +kernel) ?_⟩
      refine ⟨_, rfl, by show 3 ≤ sizeLine; decide, fun g1 hg1 => ⟨g1, _, rfl, .inr (SqT.of upd_same), rfl, rfl, _, rfl, itF (by decide +kernel) ?_⟩⟩
      have k1 : Kp H _ := (Kp.refl : Kp H H).trans (Kp.new (o := .tup [.str "yes", .str "no", .str "none"]) hg1)
      refine ⟨_, rfl, rfl, _, rfl, itF (by decide +kernel) ?_⟩
      refine ⟨_, rfl, by show 2 ≤ sizeLine; decide, fun g2 hg2 => ⟨g2, _, rfl, .inr (SqT.of upd_same), rfl, rfl, _, rfl, itF (by decide +kernel) ?_⟩⟩
      have k2 : Kp H _ := k1.trans (Kp.new (o := .tup [.str "first", .str "second"]) hg2)
      refine ⟨_, rfl, by show 2 ≤ sizeLine; decide, fun g3 hg3 => ⟨g3, _, rfl, .inr (SqT.of upd_same), rfl, rfl, _, rfl, itF (by decide +kernel) ?_⟩⟩
      have k3 : Kp H _ := k2.trans (Kp.new (o := .tup [.str "one", .str "pair"]) hg3)
      refine ⟨_, rfl, rfl, _, rfl, itF (by decide +kernel) ?_⟩
      refine ⟨_, rfl, by show 3 ≤ sizeLine; decide, fun g4 hg4 => ⟨g4, _, rfl, .inr (SqT.of upd_same), rfl, rfl, _, rfl, itF (by decide +kernel) ?_⟩⟩
      have k4 : Kp H _ := k3.trans (Kp.new (o := .tup [.str "less", .str "same", .str "both"]) hg4)
      refine ⟨_, rfl, by show 5 ≤ sizeLine; decide, fun g5 hg5 => ⟨g5, _, rfl, .inr (SqT.of upd_same), rfl, rfl, _, rfl, itF (by decide +kernel) ?_⟩⟩
      have k5 : Kp H _ := k4.trans (Kp.new (o := .tup [.str "add", .str "sub", .str "mul", .str "div", .str "rest"]) hg5)
      refine ⟨_, rfl, by show 5 ≤ sizeLine; decide, fun g6 hg6 => ⟨g6, _, rfl, .inr (SqT.of upd_same), rfl, rfl, _, rfl, itF (by decide +kernel) ?_⟩⟩
      have k6 : Kp H _ := k5.trans (Kp.new (o := .tup [.str "sum", .str "sums", .str "most", .str "long", .str "flat"]) hg6)
      exact ⟨_, rfl, _, rfl, _, _, _, _, rfl, rfl, SqL.of (k6 _ _ hq), atI_zero, _, rfl, _, _, _, _, rfl, rfl, SqL.of (k6 _ _ hq), atI_one, c, _, _, _, _, x, y, d, e, rfl, .cut _, dep, nc.kp k6, rx.mono k6.lk, ry.mono k6.lk, fx, fy, fun v H' kk oo => q v H' (k6.trans kk) oo⟩
end
end Br
/-! The law's reading. -/
namespace Br
open PySem L2
open PySem.Spec PyProof.Rows
/-- what the law's reading came to: too long, or what is told, its pieces within the count -/
def LRes (c : Addr → Prop) (H : Hp) {k : Kd} (v : V) (pl tu : List Int) (r : Res (D k)) (n n' : Int) : Prop :=
  (∃ p rest, v = .ref p ∧ H p = some (.tup (.str "long" :: rest))) ∨ (n' ≤ 20000 ∧ n + (r.cnt : Int) ≤ n' ∧ ToldAt c H v pl tu r)
theorem LRes.ways {c : Addr → Prop} {H : Hp} {k : Kd} {v : V} {pl tu : List Int} {r : Res (D k)} {n n' : Int} (l : LRes c H v pl tu r n n') :
    (∃ p s0 rest, v = .ref p ∧ H p = some (.tup (.str s0 :: rest)) ∧ decide (V.str s0 = V.str "is") = false ∧ ∀ {j : Kd} (c' : Addr → Prop) (R : Res (D j)) (pl' tu' : List Int) (m : Int),
      (∀ i w a b, r = .stop i w a b → ∃ i' a' b', R = .stop i' w a' b' ∧ pl' ++ a' = pl ++ a ∧ tu' ++ b' = tu ++ b ∧ m + (i' : Int) ≤ n + (i : Int)) → LRes c' H v pl' tu' R m n') ∨
    ∃ i d p x, r = .ok i d ∧ n' ≤ 20000 ∧ n + (i : Int) ≤ n' ∧ v = .ref p ∧ H p = some (.tup [.str "is", x]) ∧ RepW c H k x d := by
  rcases l with ⟨p, rest, e, h⟩ | ⟨h1, h2, h3⟩
  · exact .inl ⟨p, _, rest, e, h, by decide +kernel, fun c' R pl' tu' m _ => .inl ⟨p, rest, e, h⟩⟩
  · cases r with
    | ok i d =>
      obtain ⟨p, x, e, h, rx⟩ := h3
      exact .inr ⟨i, d, p, x, rfl, h1, h2, e, h, rx⟩
    | stop i w a b =>
      obtain ⟨p, x, y, e, h, ix, iy⟩ := h3
      refine .inl ⟨p, _, _, e, h, by decide +kernel, fun c' R pl' tu' m f => ?_⟩
      obtain ⟨i', a', b', rfl, e1, e2, e3⟩ := f i w a b rfl
      refine .inr ⟨h1, Int.le_trans e3 h2, p, x, y, e, h, ?_, ?_⟩
      · rw [e1]
        exact ix
      · rw [e2]
        exact iy
theorem LRes.less {c : Addr → Prop} {H : Hp} {k : Kd} {v : V} {pl tu : List Int} {r : Res (D k)} {n n' m : Int} (l : LRes c H v pl tu r n n') (h : m ≤ n) : LRes c H v pl tu r m n' := by
  rcases l with l | ⟨h1, h2, h3⟩
  · exact .inl l
  · exact .inr ⟨h1, by omega, h3⟩
theorem wd_ne (wd : Wd) : (!decide (V.str wd.str = V.str "")) = true := by cases wd <;> decide +kernel
structure LAt (c : Addr → Prop) (H : Hp) (a : Addr) {k : Kd} (t : T k) (G : Ctx) (r : Env) (tv pv dv uv : V) (pl tu : List Int) (b n : Nat) (nn : Int) : Prop where
  ca : H a = some (.lst [.int nn])
  cm : c a
  av : Av c H
  tr : TreeAt H tv t
  ht : t.ht ≤ n
  dp : t.dep ≤ 6
  sc : Sc G t
  fe : FitE G r
  en : EnvAt c H dv G r b
  bn : b + t.ht ≤ 1000
  pa : IntsAt H pv pl
  ta : IntsAt H uv tu
  pn : pl.length + t.ht ≤ 1000
  tn : tu.length + t.ht ≤ 1000
def spLR (sh : (k : Kd) → T k → Prop) (less : Int) (n : Nat) : Sp := fun vs H Q _ => ∃ (c : Addr → Prop) (a : Addr) (k : Kd) (t : T k) (G : Ctx) (r : Env) (tv pv dv uv : V) (pl tu : List Int) (b : Nat) (nn : Int),
  vs = [tv, pv, dv, uv, .ref a] ∧ sh k t ∧ LAt c H a t G r tv pv dv uv pl tu b n nn ∧ ∀ v H' n', But a H H' → H' a = some (.lst [.int n']) → LRes c H' v pl tu (den t r) (nn - less) n' → Q v H'
def isBind : (k : Kd) → T k → Prop
  | _, .lt _ _ _ => True
  | _, .each _ _ _ => True
  | _, .times _ _ _ _ => True
  | _, _ => False
theorem bind_sign {k : Kd} {t : T k} (h : isBind k t) {H : Hp} {v : V} (ht : TreeAt H v t) : ∃ p s r, v = .ref p ∧ H p = some (.tup (.str s :: r)) ∧ decide (V.str s = V.str "name") = false ∧ inV (V.str s) [.str "let", .str "each", .str "times"] = true := by
  cases t with
  | lt x t u => obtain ⟨q, x1, x2, e, z, _⟩ := ht; exact ⟨q, _, _, e, z, by decide +kernel, by decide +kernel⟩
  | each x t u => obtain ⟨q, x1, x2, e, z, _⟩ := ht; exact ⟨q, _, _, e, z, by decide +kernel, by decide +kernel⟩
  | times x n t u => obtain ⟨q, x0, x1, x2, e, z, _⟩ := ht; exact ⟨q, _, _, e, z, by decide +kernel, by decide +kernel⟩
  | num => exact h.elim
  | yes => exact h.elim
  | no => exact h.elim
  | none => exact h.elim
  | op1 => exact h.elim
  | op2 => exact h.elim
  | name => exact h.elim
  | ite => exact h.elim
def lawSign (s : Str) : Prop := opSign s ∧ inV (V.str s) [.str "let", .str "each", .str "times"] = false ∧ inV (V.str s) [.str "num", .str "none"] = false
instance (s : Str) : Decidable (lawSign s) := by unfold lawSign; infer_instance
theorem op_kids {k : Kd} {t : T k} (io : IsOp t) {H : Hp} {v : V} (ht : TreeAt H v t) : ∃ p s r, v = .ref p ∧ H p = some (.tup (.str s :: r)) ∧ opSign s ∧ inV (V.str s) [.str "let", .str "each", .str "times"] = false ∧
    ((inV (V.str s) [.str "num", .str "none"] = false ∧ KidsAt H r t.kids) ∨ (inV (V.str s) [.str "num", .str "none"] = true ∧ t.kids = [])) := by
  cases t with
  | op1 o t =>
    obtain ⟨q, x, e, z, r1⟩ := ht
    have ls : lawSign o.str := o1_in o lawSign (by decide +kernel)
    exact ⟨q, _, _, e, z, ls.1, ls.2.1, .inl ⟨ls.2.2, .cons r1 .nil⟩⟩
  | op2 o t u =>
    obtain ⟨q, x, y, e, z, r1, r2⟩ := ht
    have ls : lawSign o.str := o2_in o lawSign (by decide +kernel)
    exact ⟨q, _, _, e, z, ls.1, ls.2.1, .inl ⟨ls.2.2, .cons r1 (.cons r2 .nil)⟩⟩
  | num m => obtain ⟨q, e, z⟩ := ht; exact ⟨q, _, _, e, z, by decide +kernel, by decide +kernel, .inr ⟨by decide +kernel, rfl⟩⟩
  | yes => obtain ⟨q, e, z⟩ := ht; exact ⟨q, _, _, e, z, by decide +kernel, by decide +kernel, .inl ⟨by decide +kernel, .nil⟩⟩
  | no => obtain ⟨q, e, z⟩ := ht; exact ⟨q, _, _, e, z, by decide +kernel, by decide +kernel, .inl ⟨by decide +kernel, .nil⟩⟩
  | none a => obtain ⟨q, y, e, z⟩ := ht; exact ⟨q, _, _, e, z, by decide +kernel, by decide +kernel, .inr ⟨by decide +kernel, rfl⟩⟩
  | name => exact io.elim
  | lt => exact io.elim
  | ite => exact io.elim
  | each => exact io.elim
  | times => exact io.elim
theorem op_two {k : Kd} {t : T k} (io : IsOp t) : t.kids.length ≤ 2 := by
  cases t with
  | op1 o t => exact Nat.le_succ 1
  | op2 o t u => exact Nat.le_refl 2
  | num m => exact Nat.zero_le _
  | yes => exact Nat.zero_le _
  | no => exact Nat.zero_le _
  | none a => exact Nat.zero_le _
  | name => exact io.elim
  | lt => exact io.elim
  | ite => exact io.elim
  | each => exact io.elim
  | times => exact io.elim
theorem not_is {s : Str} (h : decide (V.str s = V.str "is") = false) : (!decide (V.str s = V.str "is")) = true := by rw [h]; rfl
theorem at_more {x : V} {xs : List V} {i : Nat} {y : V} (h : xs[i]? = some y) : atI (x :: xs) (0 + (i : Int) + 1) = some y := by
  have e : (0 + (i : Int) + 1) = ((i + 1 : Nat) : Int) := by omega
  rw [e]
  exact atI_nat (j := i + 1) h
theorem no_in {b : Bool} (e : b = false) : (if true = true then !b else b) = true := by rw [e]; rfl
theorem yes_in {b : Bool} (e : b = true) : (if true = true then !b else b) = false := by rw [e]; rfl
/-- the parts' worths are sizeable -/
theorem OnceAt.wts {c : Addr → Prop} {H : Hp} {k : Kd} {xs ws : List V} {r : Except Wd (D k)} (o : OnceAt c H xs ws r) (hd : ∀ v ∈ ws, ∃ (k' : Kd) (d : D k'), RepW c H k' v d ∧ Fit k' d ∧ k'.depth ≤ 6) : ∀ v ∈ ws, Wt H 6 v := fun v hv => by
  obtain ⟨k', d, h1, h2, h3⟩ := hd v hv
  exact h1.wt h2 h3
theorem Prog.wts {c : Addr → Prop} {H : Hp} {r : Env} {k : Kd} {t : T k} {i : Nat} {acc : List V} {n : Nat} {G : Ctx} (p : Prog c H r t i acc n) (hs : Sc G t) (hf : FitE G r) (dp : t.dep ≤ 6) : ∀ v ∈ acc, Wt H 6 v := by
  have z : (i = 0 ∧ acc = [] ∧ n = 0) → ∀ v ∈ acc, Wt H 6 v := fun ⟨h1, h2, _⟩ v hv => by rw [h2] at hv; exact absurd hv (by simp)
  cases t with
  | op1 o t =>
    rcases p with p | ⟨h, v, d, h1, h2, h3⟩
    · exact z p
    · intro v' hv
      rw [h1] at hv
      rw [List.mem_singleton.mp hv]
      have dp' : max _ t.dep ≤ 6 := dp
      have := t.dep_k
      exact h3.wt (den_fit t (show Sc G t from hs) hf h2) (by omega)
  | op2 o t u =>
    have dp' : max _ (max t.dep u.dep) ≤ 6 := dp
    have d1 := t.dep_k
    have d2 := u.dep_k
    rcases p with p | ⟨h, v, d, h1, h2, h3⟩ | ⟨h, v, d, v2, d2, n1, n2, h1, h2, h3, h4, h5, h6⟩
    · exact z p
    · intro v' hv
      rw [h1] at hv
      rw [List.mem_singleton.mp hv]
      exact h3.wt (den_fit t hs.1 hf h2) (by omega)
    · intro v' hv
      rw [h1] at hv
      rcases List.mem_cons.mp hv with e | e
      · rw [e]
        exact h5.wt (den_fit t hs.1 hf h2) (by omega)
      · rw [List.mem_singleton.mp e]
        exact h6.wt (den_fit u hs.2 hf h3) (by omega)
  | num => exact z p
  | yes => exact z p
  | no => exact z p
  | name => exact z p
  | none => exact z p
  | lt => exact z p
  | ite => exact z p
  | each => exact z p
  | times => exact z p
section
variable {P : Program} {w : World} {K : PySem.W.Frag} {mg : Str → Option Value} {base : Heap} {aC aB f : Addr} {fd : FuncData}
set_option maxHeartbeats 2000000 in
theorem fn_law_read (T : Tp K mg aC aB) (F : At K mg "_law_read" s_law_read p_law_read f fd) {n k0 : Nat} (hk0 : 10 ≤ k0) (c_law_cost : Fn P w K mg base 7 "_law_cost" spCost) (c_law_once : Fn P w K mg base 2 "_law_once" spLOnce)
    (c_law_loop : Fn P w K mg base k0 "_law_loop" (spLR isBind 1 (n + 1))) (c_law_read : Fn P w K mg base k0 "_law_read" (spLR anyT 0 n)) : Fn P w K mg base (k0 + 1) "_law_read" (spLR anyT 0 (n + 1)) := by
  refine fn_by F sc_law_read ?_ (fun cdv A outer s0 H vs Q E hr h => ?_)
  · rintro vs H Q E ⟨c, a, k, t, G, r, tv, pv, dv, uv, pl, tu, b, nn, rfl, _⟩
    rfl
  obtain ⟨c, a, k, t, G, r, tv, qv, dv, uv, pl, tu, b, nn, rfl, -, l, q⟩ := h
  rw [Int.sub_zero] at q
  refine ⟨_, (pss_cons (ps_if (pt_val (pe_fn c_law_cost hr (by omega) (by rfl) (pa_cons (pv 4) (pa_cons (pe_int) (pa_cons (pe_lst pa_nil) pa_nil))))) (pss_one (ps_ret (pe_tup (pa_cons (pe_str) (pa_cons (pe_str) (pa_cons (pv 1) (pa_cons (pv 3) pa_nil))))))) pss_nil)
  (pss_cons (ps_if (pt_cmpR op_eq (pe_ix (k_ixt K rfl) (pv 0) (pe_int) (fun _ _ => rfl)) (pe_str) (nomark _)) (pss_one (ps_ret (pe_tup (pa_cons (pe_str) (pa_cons (pe_dget (hu_of hr) (pv 2) (pe_ix (k_ixt K rfl) (pv 0) (pe_int) (fun _ _ => rfl)) (fun _ _ => rfl)) pa_nil))))) pss_nil)
  (pss_cons (ps_if (pt_cmpR (k_in K rfl) (pe_ix (k_ixt K rfl) (pv 0) (pe_int) (fun _ _ => rfl)) (pe_tup (pa_cons (pe_str) (pa_cons (pe_str) (pa_cons (pe_str) pa_nil)))) rfl) (pss_one (ps_ret (pe_fn c_law_loop hr (by omega) (by rfl) (pa_cons (pv 0) (pa_cons (pv 1) (pa_cons (pv 2) (pa_cons (pv 3) (pa_cons (pv 4) pa_nil)))))))) pss_nil)
  (pss_cons (ps_if (pt_cmpR op_eq (pe_ix (k_ixt K rfl) (pv 0) (pe_int) (fun _ _ => rfl)) (pe_str) (nomark _)) (pss_cons (ps_set (i := 5) sc_law_read.nd rfl (by first | exact Or.inl rfl | exact Or.inr rfl) (pe_fn c_law_read hr (by omega) (by rfl) (pa_cons (pe_ix (k_ixt K rfl) (pv 0) (pe_int) (fun _ _ => rfl)) (pa_cons (pe_op (k_cat K rfl) (pv 1) (pe_tup (pa_cons (pe_int) pa_nil))) (pa_cons (pv 2) (pa_cons (pv 3) (pa_cons (pv 4) pa_nil)))))))
  (pss_cons (ps_if (pt_cmpR op_ne (pe_ix (k_ixt K rfl) (pv 5) (pe_int) (fun _ _ => rfl)) (pe_str) (nomark _)) (pss_one (ps_ret (pv 5))) pss_nil)
  (pss_cons (ps_set (i := 6) sc_law_read.nd rfl (by first | exact Or.inl rfl | exact Or.inr rfl) (pe_ifExp (k_truth K rfl (pe_ix (k_ixt K rfl) (pv 5) (pe_int) (fun _ _ => rfl))) (pe_int) (pe_int)))
  (pss_cons (ps_set (i := 5) sc_law_read.nd rfl (by first | exact Or.inl rfl | exact Or.inr rfl) (pe_fn c_law_read hr (by omega) (by rfl) (pa_cons (pe_ix (k_ixt K rfl) (pv 0) (pe_op op_add (pv 6) (pe_int)) (fun _ _ => rfl)) (pa_cons (pe_op (k_cat K rfl) (pv 1) (pe_tup (pa_cons (pv 6) pa_nil))) (pa_cons (pv 2) (pa_cons (pv 3) (pa_cons (pv 4) pa_nil)))))))
  (pss_cons (ps_set (i := 7) sc_law_read.nd rfl (by first | exact Or.inl rfl | exact Or.inr rfl) (pe_and (pe_cmpR op_eq (pe_ix (k_ixt K rfl) (pv 5) (pe_int) (fun _ _ => rfl)) (pe_str) (nomark _)) (pe_one (pe_fn c_law_cost hr (by omega) (by rfl) (pa_cons (pv 4) (pa_cons (pe_int) (pa_cons (pe_op op_cat (pe_listVals (pv 2) (by rfl) T.list rfl) (pe_lst (pa_cons (pe_ix (k_ixt K rfl) (pv 5) (pe_int) (fun _ _ => rfl)) pa_nil))) pa_nil)))))))
  (pss_one (ps_ret (pe_ifExp (k_truth K rfl (pv 7)) (pe_tup (pa_cons (pe_str) (pa_cons (pe_str) (pa_cons (pv 1) (pa_cons (pv 3) pa_nil))))) (pv 5))))))))) pss_nil)
  (pss_cons (ps_set (i := 8) sc_law_read.nd rfl (by first | exact Or.inl rfl | exact Or.inr rfl) (pe_lst pa_nil))
  (pss_cons (ps_for PassesOwn.never rfl (pi_range1 (by rfl) T.range (pa_cons (pe_ifExp (pt_cmpR (k_ni K rfl) (pe_ix (k_ixt K rfl) (pv 0) (pe_int) (fun _ _ => rfl)) (pe_tup (pa_cons (pe_str) (pa_cons (pe_str) pa_nil))) rfl) (pe_op op_sub (pe_callB (k_len K rfl) (by rfl) T.len (by decide +kernel) (pa_cons (pv 0) pa_nil)) (pe_int)) (pe_int)) pa_nil)) (pg_name (i := 9) sc_law_read.nd rfl (by first | exact Or.inl rfl | exact Or.inr rfl)) (pss_cons (ps_set (i := 5) sc_law_read.nd rfl (by first | exact Or.inl rfl | exact Or.inr rfl) (pe_fn c_law_read hr (by omega) (by rfl) (pa_cons (pe_ix (k_ixt K rfl) (pv 0) (pe_op op_add (pv 9) (pe_int)) (fun _ _ => rfl)) (pa_cons (pe_op (k_cat K rfl) (pv 1) (pe_tup (pa_cons (pv 9) pa_nil))) (pa_cons (pv 2) (pa_cons (pv 3) (pa_cons (pv 4) pa_nil)))))))
  (pss_cons (ps_if (pt_cmpR op_ne (pe_ix (k_ixt K rfl) (pv 5) (pe_int) (fun _ _ => rfl)) (pe_str) (nomark _)) (pss_one (ps_ret (pv 5))) pss_nil)
  (pss_one (ps_expr (k_bm K rfl PySem.F.plainAttrs_list PySem.F.slot_list_append PySem.F.type_list_append mt_append (pv 8) (pa_cons (pe_ix (k_ixt K rfl) (pv 5) (pe_int) (fun _ _ => rfl)) pa_nil)))))))
  (pss_cons (ps_asg (pe_fn c_law_once hr (by omega) (by rfl) (pa_cons (pv 0) (pa_cons (pv 8) pa_nil))) (k_gtup K rfl (n := 2) rfl (pgs_cons (pg_name (i := 10) sc_law_read.nd rfl (by first | exact Or.inl rfl | exact Or.inr rfl)) (pgs_cons (pg_name (i := 11) sc_law_read.nd rfl (by first | exact Or.inl rfl | exact Or.inr rfl)) pgs_nil))))
  (pss_cons (ps_if (pt_val (pe_fn c_law_cost hr (by omega) (by rfl) (pa_cons (pv 4) (pa_cons (pe_int) (pa_cons (pe_op op_cat (pv 8) (pe_lst (pa_cons (pv 10) pa_nil))) pa_nil))))) (pss_one (ps_ret (pe_tup (pa_cons (pe_str) (pa_cons (pe_str) (pa_cons (pv 1) (pa_cons (pv 3) pa_nil))))))) pss_nil)
  (pss_one (ps_ret (pe_ifExp (pt_cmpR op_ne (pv 11) (pe_str) (nomark _)) (pe_tup (pa_cons (pe_str) (pa_cons (pv 11) (pa_cons (pv 1) (pa_cons (pv 3) pa_nil))))) (pe_tup (pa_cons (pe_str) (pa_cons (pv 10) pa_nil)))))))))))))), ?_⟩
  have long : ∀ H1 n1 p, But a H H1 → H1 a = some (.lst [.int n1]) → H1 p = none → Q (.ref p) (upd H1 p (.tup [.str "long", .str "", qv, uv])) := fun H1 n1 p b1 h1 hp =>
    q _ _ n1 (b1.trans (Kp.new hp).but) (Kp.new hp _ _ h1) (.inl ⟨p, _, rfl, upd_same⟩)
  refine ⟨_, rfl, by show 0 ≤ sizeLine; decide, fun g hg => ⟨a, g, nn, 4, [], rfl, Kp.new hg _ _ l.ca, upd_same, fun z => (by rw [z, l.ca] at hg; cases hg), fun x hx => absurd hx (by simp), by show 0 ≤ 100000; decide, by decide, fun n1 H1 h1 b1 e1 => ⟨_, rfl, itB (fun e => ?_) (fun e => ?_)⟩⟩⟩
  · exact ⟨_, rfl, _, rfl, by show 4 ≤ sizeLine; decide, fun p hp => long H1 n1 p ((Kp.new hg).but.trans b1) e1 hp⟩
  have le1 : n1 ≤ 20000 := by
    have := of_decide_eq_false e
    omega
  have h1' : nn + 4 ≤ n1 := h1
  have bt1 : But a H H1 := (Kp.new hg).but.trans b1
  have nota : ∀ {H' : Hp} {m : Int}, H' a = some (.lst [.int m]) → NoT H' a := fun e => NoT.of e (fun _ z => nomatch z)
  have tr1 := l.tr.mono bt1.tk
  have en1 := l.en.mono bt1 l.cm
  by_cases io : IsOp t
  · obtain ⟨p, sg, rest, rfl, hpH, os, ns, kk⟩ := op_kids io l.tr
    have hp := bt1.tup _ _ hpH
    refine ⟨_, rfl, _, _, _, _, rfl, rfl, SqT.of hp, atI_zero, rfl, _, rfl, itF os.1 ?_⟩
    refine ⟨_, rfl, _, _, _, _, rfl, rfl, SqT.of hp, atI_zero, by show 3 ≤ sizeLine; decide, fun g2 hg2 => ⟨g2, _, rfl, .inr (SqT.of upd_same), rfl, rfl, _, rfl, itF ns ?_⟩⟩
    have k2 : Kp H1 _ := Kp.new (o := .tup [.str "let", .str "each", .str "times"]) hg2
    refine ⟨_, rfl, _, _, _, _, rfl, rfl, SqT.of (k2 _ _ hp), atI_zero, rfl, _, rfl, itF os.2.2.1 ?_⟩
    refine ⟨by show 0 ≤ sizeLine; decide, fun w hw => ?_⟩
    have k3 := k2.trans (Kp.new (o := .lst []) hw)
    refine ⟨_, rfl, _, _, _, _, rfl, rfl, SqT.of (k3 _ _ hp), atI_zero, by show 2 ≤ sizeLine; decide, fun g4 hg4 => ⟨g4, _, rfl, .inr (SqT.of upd_same), rfl, rfl, _, rfl, ?_⟩⟩
    have k4 := k3.trans (Kp.new (o := .tup [.str "num", .str "none"]) hg4)
    have hwH : H w = none := (bt1.trans k2.but).free hw
    have hw4 : upd (upd (upd H1 g2 (.tup [.str "let", .str "each", .str "times"])) w (.lst [])) g4 (.tup [.str "num", .str "none"]) w = some (.lst []) := Kp.new hg4 _ _ upd_same
    have bt4 := bt1.trans k4.but (c := a)
    have nwa : w ≠ a := fun z => by
      rw [z, k2 _ _ e1] at hw
      cases hw
    -- the state behind i parts
    obtain ⟨Pv, hPv⟩ : ∃ Pv : Nat → L2.St → Hp → Prop, Pv = fun i σ H' => (∃ v5 v9, σ = [some (.ref p), some qv, some dv, some uv, some (.ref a), v5, none, none, some (.ref w), v9, none, none]) ∧
        ∃ (acc : List V) (n' : Nat) (ni : Int), But a H H' ∧ H' a = some (.lst [.int ni]) ∧ ni ≤ 20000 ∧ nn + 4 + (n' : Int) ≤ ni ∧ H' w = some (.lst acc) ∧ Prog (fun x => c x ∨ x = w) H' r t i acc n' := ⟨_, rfl⟩
    have P0 : Pv 0 [some (.ref p), some qv, some dv, some uv, some (.ref a), none, none, none, some (.ref w), none, none, none] (upd (upd (upd H1 g2 (.tup [.str "let", .str "each", .str "times"])) w (.lst [])) g4 (.tup [.str "num", .str "none"])) := by
      rw [hPv]
      exact ⟨⟨none, none, rfl⟩, [], 0, n1, bt4, k4 _ _ e1, le1, by omega, hw4, Prog.zero t⟩
    rcases kk with ⟨nl, kk⟩ | ⟨nl, nlk⟩
    · refine itT (no_in nl) ⟨_, rfl, p, _, rfl, .inr (SqT.of (k4 _ _ hp)), _, _, rfl, rfl, ((rest.length : Nat) : Int), ?_, ?_⟩
      · show [V.int (((rest.length + 1 : Nat) : Int) - 1)] = [V.int ((rest.length : Nat) : Int)]
        rw [show (((rest.length + 1 : Nat) : Int) - 1) = ((rest.length : Nat) : Int) by omega]
      have lr := Paired.len kk
      have lk3 : rest.length ≤ 2 := by
        rw [lr]
        exact op_two io
      refine ⟨by omega, by omega, for_range (lo := 0) (n := rest.length) Pv P0 ?_ ?_⟩
      · rintro i σ H' hi pvi
        rw [hPv] at pvi
        obtain ⟨⟨v5, v9, rfl⟩, acc, n', ni, bt, hai, lei, gei, hwi, pg⟩ := pvi
        have hy : rest[i]? = some rest[i] := List.getElem?_eq_getElem hi
        generalize rest[i] = y at hy
        obtain ⟨s1, hs1, r1⟩ := Paired.at kk hy
        have mem1 := List.mem_of_getElem? hs1
        have z1 := kid_ht mem1
        have z3 := kid_dep mem1
        have z4 := Prog.len pg
        have lht := l.ht
        have ldp := l.dp
        have lbn := l.bn
        have lpn := l.pn
        have ltn := l.tn
        obtain ⟨⟨FF, hF⟩, hstep⟩ := Prog.step io pg hs1
        have hpi := bt.tup _ _ hpH
        refine ⟨_, rfl, _, rfl, _, _, rfl, rfl, _, _, _, _, rfl, rfl, SqT.of hpi, at_more hy, _, rfl, _, rfl, cat_one (l.pa.mono bt.tk) (by omega) fun pv' H3 k3 ip3 => ⟨_, rfl, _, rfl, _, rfl, ?_⟩⟩
        have bt3 := bt.trans k3.but (c := a)
        have av3 : Av (fun x => c x ∨ x = w) H3 := (l.av.but bt3 (nota (k3 _ _ hai))).more (NoT.of (k3 _ _ hwi) (fun _ z => nomatch z))
        have kidT : TreeAt H3 y s1.2 := r1.mono bt3.tk
        refine ⟨(fun x => c x ∨ x = w), a, s1.1, s1.2, G, r, y, pv', dv, uv, pl ++ [0 + (i : Int)], tu, b, ni, rfl, trivial, ?_, fun v H4 n4 b4 e4 lr4 => ?_⟩
        · exact { ca := k3 _ _ hai, cm := .inl l.cm, av := av3, tr := kidT, ht := by omega, dp := by omega, sc := kid_sc io l.sc mem1, fe := l.fe, en := (l.en.more hwH).mono bt3 (.inl l.cm), bn := by omega, pa := ip3, ta := l.ta.mono bt3.tk,
                  pn := by rw [List.length_append]; show pl.length + 1 + _ ≤ _; omega, tn := by omega }
        · rw [Int.sub_zero] at lr4
          have bt4' := bt3.trans b4
          rcases lr4.ways with ⟨pp, s9, rr, rfl, hpp, nis, give⟩ | ⟨i2, d, pp, x, ed, le4, ge4, rfl, hpp, rx⟩
          · refine ⟨_, rfl, _, _, _, _, rfl, rfl, SqT.of hpp, atI_zero, rfl, _, rfl, itT (not_is nis) ⟨_, rfl, q _ _ n4 bt4' e4 ?_⟩⟩
            exact give c (den t r) pl tu nn (fun i3 wd aa bb er => ⟨n' + i3, (i : Int) :: aa, bb, by rw [hF, Res.bind_st er]; rfl, by rw [List.append_assoc, Int.zero_add]; rfl, rfl, by rw [Int.natCast_add]; omega⟩)
          · have hw4' : H4 w = some (.lst acc) := b4.old _ _ nwa (k3 _ _ hwi)
            refine ⟨_, rfl, _, _, _, _, rfl, rfl, SqT.of hpp, atI_zero, rfl, _, rfl, itF rfl ?_⟩
            refine ⟨_, rfl, .inl ⟨rfl, _, SqL.of hw4'⟩, _, rfl, _, _, _, _, rfl, rfl, SqT.of hpp, atI_one, w, acc, x, rfl, rfl, hw4', line_lt (by omega), ?_⟩
            have lk : Lk (fun x => c x ∨ x = w) H4 (upd H4 w (.lst (acc ++ [x]))) := Lk.at (.inr rfl) (NoT.of hw4' (fun _ z => nomatch z))
            have lk' : Lk (fun x => c x ∨ x = w) H' H4 := k3.lk.trans (b4.lk (.inl l.cm))
            rw [hPv]
            refine ⟨⟨_, _, rfl⟩, acc ++ [x], n' + i2, n4, bt4'.put hwH, by rw [upd_ne (Ne.symm nwa)]; exact e4, le4, by rw [Int.natCast_add]; omega, upd_same, ?_⟩
            exact ((Prog.step io (pg.mono lk') hs1).2 d i2 x ed rx).mono lk
      · rintro σ H' pvi
        rw [hPv] at pvi
        obtain ⟨⟨v5, v9, rfl⟩, acc, n', ni, bt, hai, lei, gei, hwi, pg⟩ := pvi
        rw [lr] at pg
        have z4 := Prog.len pg
        obtain ⟨p', xs, rr, e1', e2', oa, eden⟩ := Prog.fin io l.sc l.fe pg (l.tr.mono bt.tk)
        obtain rfl : p = p' := V.ref.inj e1'
        have wts := pg.wts l.sc l.fe l.dp
        have dep := Nat.le_trans t.dep_k l.dp
        have av1 : Av (fun x => c x ∨ x = w) H' := (l.av.but bt (nota hai)).more (NoT.of hwi (fun _ z => nomatch z))
        refine ⟨_, rfl, _, rfl, (fun x => c x ∨ x = w), p, w, xs, acc, k, rr, rfl, dep, av1, e2', hwi, oa, fun v H2 k2 o => ?_⟩
        obtain ⟨b1, z, wd, rfl, hb1, wz, fin⟩ : ∃ b1 z wd, v = .ref b1 ∧ H2 b1 = some (.tup [z, .str wd]) ∧ Wt H2 6 z ∧ ((∃ w0, rr = .error w0 ∧ wd = w0.str) ∨ (∃ d, rr = .ok d ∧ wd = "" ∧ RepW (fun x => c x ∨ x = w) H2 k z d)) := by
          cases rr with
          | error w0 =>
            obtain ⟨b1, z, e, h, wz⟩ := o
            exact ⟨b1, z, _, e, h, wz, .inl ⟨w0, rfl, rfl⟩⟩
          | ok d =>
            obtain ⟨b1, z, e, h, rz⟩ := o
            have eden' : den t r = .ok (n' + 1) d := eden
            exact ⟨b1, z, _, e, h, rz.wt (den_fit t l.sc l.fe eden') dep, .inr ⟨d, rfl, rfl, rz⟩⟩
        refine ⟨b1, _, rfl, SqT.of hb1, rfl, _, _, rfl, _, _, rfl, rfl, ?_⟩
        have hw2 := k2 _ _ hwi
        refine ⟨_, rfl, _, rfl, _, rfl, by show 1 ≤ sizeLine; decide, fun g5 hg5 => ⟨w, g5, acc, [z], rfl, rfl, Kp.new hg5 _ _ hw2, upd_same, line_le (by show acc.length + 1 ≤ _; omega), fun g6 hg6 => ?_⟩⟩
        have k56 := (Kp.new (o := .lst [z]) hg5).trans (Kp.new (o := .lst (acc ++ [z])) hg6)
        have k26 := k2.trans k56
        have na6 : g6 ≠ a := fun zz => by
          have z8 := (k2.trans (Kp.new (o := .lst [z]) hg5)) _ _ hai
          rw [← zz, hg6] at z8
          cases z8
        refine ⟨a, g6, ni, 1, acc ++ [z], rfl, k26 _ _ hai, upd_same, na6, fun x hx => ?_, by rw [List.length_append]; show acc.length + 1 ≤ _; omega, by decide, fun n5 H5 h5 b5 e5 => ⟨_, rfl, itB (fun e => ?_) (fun e => ?_)⟩⟩
        · rcases List.mem_append.mp hx with hx | hx
          · exact (wts x hx).mono k26
          · rw [List.mem_singleton.mp hx]
            exact wz.mono k56
        · exact ⟨_, rfl, _, rfl, by show 4 ≤ sizeLine; decide, fun pp hpp => long H5 n5 pp ((bt.trans k26.but).trans b5) e5 hpp⟩
        · have le5 : n5 ≤ 20000 := by
            have := of_decide_eq_false e
            omega
          have h5' : ni + 1 ≤ n5 := h5
          have bt5 := (bt.trans k26.but).trans b5
          rcases fin with ⟨w0, rfl, rfl⟩ | ⟨d, rfl, rfl, rz⟩
          · refine ⟨_, rfl, rfl, _, rfl, itT (wd_ne w0) ?_⟩
            refine ⟨_, rfl, _, rfl, _, rfl, by show 4 ≤ sizeLine; decide, fun pp hpp => q _ _ n5 (bt5.trans (Kp.new hpp).but) (Kp.new hpp _ _ e5) (.inr ⟨le5, ?_, ?_⟩)⟩
            · rw [eden]
              show nn + ((n' + 0 : Nat) : Int) ≤ n5
              omega
            · rw [eden]
              refine ⟨pp, _, _, rfl, upd_same, ?_, ?_⟩
              · rw [List.append_nil]
                exact (l.pa.mono bt5.tk).mono (Kp.new hpp).tk
              · rw [List.append_nil]
                exact (l.ta.mono bt5.tk).mono (Kp.new hpp).tk
          · refine ⟨_, rfl, rfl, _, rfl, itF rfl ?_⟩
            refine ⟨_, rfl, by show 2 ≤ sizeLine; decide, fun pp hpp => q _ _ n5 (bt5.trans (Kp.new hpp).but) (Kp.new hpp _ _ e5) (.inr ⟨le5, ?_, ?_⟩)⟩
            · rw [eden]
              show nn + ((n' + 1 : Nat) : Int) ≤ n5
              omega
            · rw [eden]
              exact ⟨pp, _, rfl, upd_same, (((rz.mono k56.lk).mono (b5.lk (.inl l.cm))).less).mono (Kp.new hpp).lk⟩
    · refine itF (yes_in nl) ⟨0, rfl, by omega, by omega, for_range (lo := 0) (n := 0) Pv P0 (fun i σ H' hi => absurd hi (by omega)) ?_⟩
      rintro σ H' pvi
      rw [hPv] at pvi
      obtain ⟨⟨v5, v9, rfl⟩, acc, n', ni, bt, hai, lei, gei, hwi, pg⟩ := pvi
      rw [show (0 : Nat) = t.kids.length by rw [nlk]; rfl] at pg
      have z4 := Prog.len pg
      obtain ⟨p', xs, rr, e1', e2', oa, eden⟩ := Prog.fin io l.sc l.fe pg (l.tr.mono bt.tk)
      obtain rfl : p = p' := V.ref.inj e1'
      have wts := pg.wts l.sc l.fe l.dp
      have dep := Nat.le_trans t.dep_k l.dp
      have av1 : Av (fun x => c x ∨ x = w) H' := (l.av.but bt (nota hai)).more (NoT.of hwi (fun _ z => nomatch z))
      refine ⟨_, rfl, _, rfl, (fun x => c x ∨ x = w), p, w, xs, acc, k, rr, rfl, dep, av1, e2', hwi, oa, fun v H2 k2 o => ?_⟩
      obtain ⟨b1, z, wd, rfl, hb1, wz, fin⟩ : ∃ b1 z wd, v = .ref b1 ∧ H2 b1 = some (.tup [z, .str wd]) ∧ Wt H2 6 z ∧ ((∃ w0, rr = .error w0 ∧ wd = w0.str) ∨ (∃ d, rr = .ok d ∧ wd = "" ∧ RepW (fun x => c x ∨ x = w) H2 k z d)) := by
        cases rr with
        | error w0 =>
          obtain ⟨b1, z, e, h, wz⟩ := o
          exact ⟨b1, z, _, e, h, wz, .inl ⟨w0, rfl, rfl⟩⟩
        | ok d =>
          obtain ⟨b1, z, e, h, rz⟩ := o
          have eden' : den t r = .ok (n' + 1) d := eden
          exact ⟨b1, z, _, e, h, rz.wt (den_fit t l.sc l.fe eden') dep, .inr ⟨d, rfl, rfl, rz⟩⟩
      refine ⟨b1, _, rfl, SqT.of hb1, rfl, _, _, rfl, _, _, rfl, rfl, ?_⟩
      have hw2 := k2 _ _ hwi
      refine ⟨_, rfl, _, rfl, _, rfl, by show 1 ≤ sizeLine; decide, fun g5 hg5 => ⟨w, g5, acc, [z], rfl, rfl, Kp.new hg5 _ _ hw2, upd_same, line_le (by show acc.length + 1 ≤ _; omega), fun g6 hg6 => ?_⟩⟩
      have k56 := (Kp.new (o := .lst [z]) hg5).trans (Kp.new (o := .lst (acc ++ [z])) hg6)
      have k26 := k2.trans k56
      have na6 : g6 ≠ a := fun zz => by
        have z8 := (k2.trans (Kp.new (o := .lst [z]) hg5)) _ _ hai
        rw [← zz, hg6] at z8
        cases z8
      refine ⟨a, g6, ni, 1, acc ++ [z], rfl, k26 _ _ hai, upd_same, na6, fun x hx => ?_, by rw [List.length_append]; show acc.length + 1 ≤ _; omega, by decide, fun n5 H5 h5 b5 e5 => ⟨_, rfl, itB (fun e => ?_) (fun e => ?_)⟩⟩
      · rcases List.mem_append.mp hx with hx | hx
        · exact (wts x hx).mono k26
        · rw [List.mem_singleton.mp hx]
          exact wz.mono k56
      · exact ⟨_, rfl, _, rfl, by show 4 ≤ sizeLine; decide, fun pp hpp => long H5 n5 pp ((bt.trans k26.but).trans b5) e5 hpp⟩
      · have le5 : n5 ≤ 20000 := by
          have := of_decide_eq_false e
          omega
        have h5' : ni + 1 ≤ n5 := h5
        have bt5 := (bt.trans k26.but).trans b5
        rcases fin with ⟨w0, rfl, rfl⟩ | ⟨d, rfl, rfl, rz⟩
        · refine ⟨_, rfl, rfl, _, rfl, itT (wd_ne w0) ?_⟩
          refine ⟨_, rfl, _, rfl, _, rfl, by show 4 ≤ sizeLine; decide, fun pp hpp => q _ _ n5 (bt5.trans (Kp.new hpp).but) (Kp.new hpp _ _ e5) (.inr ⟨le5, ?_, ?_⟩)⟩
          · rw [eden]
            show nn + ((n' + 0 : Nat) : Int) ≤ n5
            omega
          · rw [eden]
            refine ⟨pp, _, _, rfl, upd_same, ?_, ?_⟩
            · rw [List.append_nil]
              exact (l.pa.mono bt5.tk).mono (Kp.new hpp).tk
            · rw [List.append_nil]
              exact (l.ta.mono bt5.tk).mono (Kp.new hpp).tk
        · refine ⟨_, rfl, rfl, _, rfl, itF rfl ?_⟩
          refine ⟨_, rfl, by show 2 ≤ sizeLine; decide, fun pp hpp => q _ _ n5 (bt5.trans (Kp.new hpp).but) (Kp.new hpp _ _ e5) (.inr ⟨le5, ?_, ?_⟩)⟩
          · rw [eden]
            show nn + ((n' + 1 : Nat) : Int) ≤ n5
            omega
          · rw [eden]
            exact ⟨pp, _, rfl, upd_same, (((rz.mono k56.lk).mono (b5.lk (.inl l.cm))).less).mono (Kp.new hpp).lk⟩
  · cases t with
    | num => exact absurd trivial io
    | yes => exact absurd trivial io
    | no => exact absurd trivial io
    | none => exact absurd trivial io
    | op1 => exact absurd trivial io
    | op2 => exact absurd trivial io
    | name k x =>
      obtain ⟨p, rfl, hpH⟩ := l.tr
      have hp := bt1.tup _ _ hpH
      refine ⟨_, rfl, _, _, _, _, rfl, rfl, SqT.of hp, atI_zero, rfl, _, rfl, itT (by decide +kernel) ?_⟩
      obtain ⟨d, kvs, rfl, hd, nd, ek⟩ := en1
      obtain ⟨v, hv, rv'⟩ := ek.get x k l.sc
      refine ⟨_, rfl, _, rfl, _, _, _, _, rfl, rfl, SqT.of hp, atI_one, d, v, rfl, ?_, by show 2 ≤ sizeLine; decide, fun pp hpp => q _ _ n1 (bt1.trans (Kp.new hpp).but) (Kp.new hpp _ _ e1) (.inr ⟨le1, ?_, pp, _, rfl, upd_same, rv'.mono (Kp.new hpp).lk⟩)⟩
      · have := DGet.k (k := Sum.inr x) hd
        rw [hv] at this
        exact this
      · show nn + ((0 : Nat) : Int) ≤ n1
        omega
    | lt x t1 u1 =>
      obtain ⟨p, sg, rest, rfl, hpH, e2, e3⟩ := bind_sign (t := .lt x t1 u1) trivial l.tr
      have hp := bt1.tup _ _ hpH
      refine ⟨_, rfl, _, _, _, _, rfl, rfl, SqT.of hp, atI_zero, rfl, _, rfl, itF e2 ?_⟩
      refine ⟨_, rfl, _, _, _, _, rfl, rfl, SqT.of hp, atI_zero, by show 3 ≤ sizeLine; decide, fun g2 hg2 => ⟨g2, _, rfl, .inr (SqT.of upd_same), rfl, rfl, _, rfl, itT e3 ?_⟩⟩
      have k2 : Kp H1 _ := Kp.new (o := .tup [.str "let", .str "each", .str "times"]) hg2
      have bt2 := bt1.trans k2.but (c := a)
      refine ⟨_, rfl, _, rfl, _, rfl, _, rfl, _, rfl, c, a, _, .lt x t1 u1, G, r, _, _, _, _, pl, tu, b, n1, rfl, trivial, ?_, fun v H' n' b' e' lr => q v H' n' (bt2.trans b') e' (lr.less (by omega))⟩
      exact { ca := k2 _ _ e1, cm := l.cm, av := l.av.but bt2 (nota (k2 _ _ e1)), tr := l.tr.mono bt2.tk, ht := l.ht, dp := l.dp, sc := l.sc, fe := l.fe, en := l.en.mono bt2 l.cm, bn := l.bn, pa := l.pa.mono bt2.tk, ta := l.ta.mono bt2.tk, pn := l.pn, tn := l.tn }
    | each x t1 u1 =>
      obtain ⟨p, sg, rest, rfl, hpH, e2, e3⟩ := bind_sign (t := .each x t1 u1) trivial l.tr
      have hp := bt1.tup _ _ hpH
      refine ⟨_, rfl, _, _, _, _, rfl, rfl, SqT.of hp, atI_zero, rfl, _, rfl, itF e2 ?_⟩
      refine ⟨_, rfl, _, _, _, _, rfl, rfl, SqT.of hp, atI_zero, by show 3 ≤ sizeLine; decide, fun g2 hg2 => ⟨g2, _, rfl, .inr (SqT.of upd_same), rfl, rfl, _, rfl, itT e3 ?_⟩⟩
      have k2 : Kp H1 _ := Kp.new (o := .tup [.str "let", .str "each", .str "times"]) hg2
      have bt2 := bt1.trans k2.but (c := a)
      refine ⟨_, rfl, _, rfl, _, rfl, _, rfl, _, rfl, c, a, _, .each x t1 u1, G, r, _, _, _, _, pl, tu, b, n1, rfl, trivial, ?_, fun v H' n' b' e' lr => q v H' n' (bt2.trans b') e' (lr.less (by omega))⟩
      exact { ca := k2 _ _ e1, cm := l.cm, av := l.av.but bt2 (nota (k2 _ _ e1)), tr := l.tr.mono bt2.tk, ht := l.ht, dp := l.dp, sc := l.sc, fe := l.fe, en := l.en.mono bt2 l.cm, bn := l.bn, pa := l.pa.mono bt2.tk, ta := l.ta.mono bt2.tk, pn := l.pn, tn := l.tn }
    | times x m1 t1 u1 =>
      obtain ⟨p, sg, rest, rfl, hpH, e2, e3⟩ := bind_sign (t := .times x m1 t1 u1) trivial l.tr
      have hp := bt1.tup _ _ hpH
      refine ⟨_, rfl, _, _, _, _, rfl, rfl, SqT.of hp, atI_zero, rfl, _, rfl, itF e2 ?_⟩
      refine ⟨_, rfl, _, _, _, _, rfl, rfl, SqT.of hp, atI_zero, by show 3 ≤ sizeLine; decide, fun g2 hg2 => ⟨g2, _, rfl, .inr (SqT.of upd_same), rfl, rfl, _, rfl, itT e3 ?_⟩⟩
      have k2 : Kp H1 _ := Kp.new (o := .tup [.str "let", .str "each", .str "times"]) hg2
      have bt2 := bt1.trans k2.but (c := a)
      refine ⟨_, rfl, _, rfl, _, rfl, _, rfl, _, rfl, c, a, _, .times x m1 t1 u1, G, r, _, _, _, _, pl, tu, b, n1, rfl, trivial, ?_, fun v H' n' b' e' lr => q v H' n' (bt2.trans b') e' (lr.less (by omega))⟩
      exact { ca := k2 _ _ e1, cm := l.cm, av := l.av.but bt2 (nota (k2 _ _ e1)), tr := l.tr.mono bt2.tk, ht := l.ht, dp := l.dp, sc := l.sc, fe := l.fe, en := l.en.mono bt2 l.cm, bn := l.bn, pa := l.pa.mono bt2.tk, ta := l.ta.mono bt2.tk, pn := l.pn, tn := l.tn }
    | ite c0 t1 u1 =>
      obtain ⟨p, x0, x1, x2, rfl, hpH, r0, r1, r2⟩ := id l.tr
      have hp := bt1.tup _ _ hpH
      have ht0 : max c0.ht (max t1.ht u1.ht) + 1 ≤ n + 1 := l.ht
      have dp0 : max k.depth (max c0.dep (max t1.dep u1.dep)) ≤ 6 := l.dp
      have bn0 : b + (max c0.ht (max t1.ht u1.ht) + 1) ≤ 1000 := l.bn
      have pn0 : pl.length + (max c0.ht (max t1.ht u1.ht) + 1) ≤ 1000 := l.pn
      have tn0 : tu.length + (max c0.ht (max t1.ht u1.ht) + 1) ≤ 1000 := l.tn
      have eden : den (.ite c0 t1 u1) r = ((den c0 r).pre 0 []).bind fun bb => (match (dB bb) with
        | true => (den t1 r).pre 1 []
        | false => (den u1 r).pre 2 []).bind fun d => .ok 1 d := rfl
      refine ⟨_, rfl, _, _, _, _, rfl, rfl, SqT.of hp, atI_zero, rfl, _, rfl, itF (by decide +kernel) ?_⟩
      refine ⟨_, rfl, _, _, _, _, rfl, rfl, SqT.of hp, atI_zero, by show 3 ≤ sizeLine; decide, fun g2 hg2 => ⟨g2, _, rfl, .inr (SqT.of upd_same), rfl, rfl, _, rfl, itF (by decide +kernel) ?_⟩⟩
      have k2 : Kp H1 _ := Kp.new (o := .tup [.str "let", .str "each", .str "times"]) hg2
      have bt2 := bt1.trans k2.but (c := a)
      refine ⟨_, rfl, _, _, _, _, rfl, rfl, SqT.of (k2 _ _ hp), atI_zero, rfl, _, rfl, itT (by decide +kernel) ?_⟩
      refine ⟨_, rfl, _, _, _, _, rfl, rfl, SqT.of (k2 _ _ hp), atI_one, _, rfl, cat_one (l.pa.mono bt2.tk) (by omega) fun pv' H3 k3 ip3 => ⟨_, rfl, _, rfl, _, rfl, ?_⟩⟩
      have bt3 := bt2.trans k3.but (c := a)
      have ea3 := (k2.trans k3) _ _ e1
      refine ⟨c, a, _, c0, G, r, x0, pv', dv, uv, pl ++ [0], tu, b, n1, rfl, trivial, ?_, fun v H4 n4 b4 e4 lr4 => ?_⟩
      · exact { ca := ea3, cm := l.cm, av := l.av.but bt3 (nota ea3), tr := r0.mono bt3.tk, ht := by omega, dp := by omega, sc := l.sc.1, fe := l.fe, en := l.en.mono bt3 l.cm, bn := by omega, pa := ip3, ta := l.ta.mono bt3.tk,
                pn := by rw [List.length_append]; show pl.length + 1 + _ ≤ _; omega, tn := by omega }
      rw [Int.sub_zero] at lr4
      have bt4 := bt3.trans b4
      rcases lr4.ways with ⟨pp, s9, rr, rfl, hpp, nis, give⟩ | ⟨i1, d1, pp, x, ed, le4, ge4, rfl, hpp, rx⟩
      · refine ⟨_, rfl, _, _, _, _, rfl, rfl, SqT.of hpp, atI_zero, rfl, _, rfl, itT (not_is nis) ⟨_, rfl, q _ _ n4 bt4 e4 ?_⟩⟩
        exact give c _ pl tu nn (fun i3 wd aa bb er => ⟨i3, 0 :: aa, bb, by rw [eden, Res.bind_st er]; rfl, by rw [List.append_assoc]; rfl, rfl, by omega⟩)
      have ev : x = .bl (dB d1) := rx
      subst ev
      refine ⟨_, rfl, _, _, _, _, rfl, rfl, SqT.of hpp, atI_zero, rfl, _, rfl, itF rfl ?_⟩
      refine ⟨_, rfl, _, _, _, _, rfl, rfl, SqT.of hpp, atI_one, dB d1, rfl, ?_⟩
      cases hb : dB d1 with
      | true =>
        have eq2 : den (.ite c0 t1 u1) r = (((den t1 r).pre 1 []).bind fun d => .ok 1 d).plus i1 := by rw [eden, Res.bind_of ed, hb]
        refine itT rfl ?_
        refine ⟨_, rfl, _, rfl, _, _, rfl, rfl, _, _, _, _, rfl, rfl, SqT.of (bt4.tup _ _ hpH), atI_two, _, rfl, _, rfl, cat_one (l.pa.mono bt4.tk) (by omega) fun pv6 H6 k6 ip6 => ⟨_, rfl, _, rfl, _, rfl, ?_⟩⟩
        have bt6 := bt4.trans k6.but (c := a)
        have ea6 := k6 _ _ e4
        refine ⟨c, a, _, t1, G, r, x1, pv6, dv, uv, pl ++ [1], tu, b, n4, rfl, trivial, ?_, fun v H7 n7 b7 e7 lr7 => ?_⟩
        · exact { ca := ea6, cm := l.cm, av := l.av.but bt6 (nota ea6), tr := r1.mono bt6.tk, ht := by omega, dp := by omega, sc := l.sc.2.1, fe := l.fe, en := l.en.mono bt6 l.cm, bn := by omega, pa := ip6, ta := l.ta.mono bt6.tk,
                  pn := by rw [List.length_append]; show pl.length + 1 + _ ≤ _; omega, tn := by omega }
        rw [Int.sub_zero] at lr7
        have bt7 := bt6.trans b7
        rcases lr7.ways with ⟨pp, s9, rr, rfl, hpp, nis, give⟩ | ⟨i2, d2, pp, x, ed2, le7, ge7, rfl, hpp, rx2⟩
        · refine ⟨_, rfl, _, _, _, _, rfl, rfl, SqT.of hpp, atI_zero, rfl, _, rfl, itF nis ?_⟩
          refine ⟨_, rfl, false, rfl, itF rfl ⟨_, rfl, q _ _ n7 bt7 e7 ?_⟩⟩
          exact give c _ pl tu nn (fun i3 wd aa bb er => ⟨i1 + i3, 1 :: aa, bb, by rw [eq2, Res.bind_st er]; rfl, by rw [List.append_assoc]; rfl, rfl, by rw [Int.natCast_add]; omega⟩)
        obtain ⟨d, kvs, rfl, hd, nd, ek⟩ := l.en.mono bt7 l.cm
        have ekl := ek.len
        have eq3 : den (.ite c0 t1 u1) r = .ok (i1 + (i2 + 1)) d2 := by
          rw [eq2, Res.bind_of ed2]
          rfl
        refine ⟨_, rfl, _, _, _, _, rfl, rfl, SqT.of hpp, atI_zero, rfl, _, rfl, itT rfl ?_⟩
        refine ⟨_, rfl, _, rfl, d, kvs, rfl, hd, fun g3 hg3 => ?_⟩
        have kg3 : Kp H7 (upd H7 g3 (.lst (kvs.map (·.2)))) := Kp.new hg3
        refine ⟨_, rfl, _, _, _, _, rfl, rfl, SqT.of (kg3 _ _ hpp), atI_one, by show 1 ≤ sizeLine; decide, fun g4 hg4 => ⟨g3, g4, _, _, rfl, rfl, Kp.new hg4 _ _ upd_same, upd_same, line_le (by rw [List.length_map]; show kvs.length + 1 ≤ _; omega), fun g5 hg5 => ?_⟩⟩
        have kg5 := (kg3.trans (Kp.new (o := .lst [x]) hg4)).trans (Kp.new (o := .lst (kvs.map (·.2) ++ [x])) hg5)
        have na5 : g5 ≠ a := fun zz => by
          have z8 := (kg3.trans (Kp.new (o := .lst [x]) hg4)) _ _ e7
          rw [← zz, hg5] at z8
          cases z8
        refine ⟨a, g5, n7, 1, _, rfl, kg5 _ _ e7, upd_same, na5, fun y hy => ?_, by rw [List.length_append, List.length_map]; show kvs.length + 1 ≤ _; omega, by decide, fun n8 H8 h8 b8 e8 => ?_⟩
        · rcases List.mem_append.mp hy with hy | hy
          · obtain ⟨pr, hpr, rfl⟩ := List.mem_map.mp hy
            exact (ek.wt hpr).mono kg5
          · rw [List.mem_singleton.mp hy]
            exact (rx2.wt (den_fit t1 l.sc.2.1 l.fe ed2) (by omega)).mono kg5
        · have bt8 := (bt7.trans kg5.but).trans b8
          have h8' : n7 + 1 ≤ n8 := h8
          refine ⟨_, rfl, decide (20000 < n8), rfl, itB (fun e => ?_) (fun e => ?_)⟩
          · exact ⟨_, rfl, _, rfl, by show 4 ≤ sizeLine; decide, fun pp hpp => long H8 n8 pp bt8 e8 hpp⟩
          · have le8 : n8 ≤ 20000 := by
              have := of_decide_eq_false e
              omega
            refine ⟨_, rfl, q _ _ n8 bt8 e8 (.inr ⟨le8, ?_, ?_⟩)⟩
            · rw [eq3]
              show nn + ((i1 + (i2 + 1) : Nat) : Int) ≤ n8
              omega
            · rw [eq3]
              exact ⟨pp, x, rfl, b8.tup _ _ (kg5 _ _ hpp), (rx2.mono kg5.lk).mono (b8.lk l.cm)⟩
      | false =>
        have eq2 : den (.ite c0 t1 u1) r = (((den u1 r).pre 2 []).bind fun d => .ok 1 d).plus i1 := by rw [eden, Res.bind_of ed, hb]
        refine itF rfl ?_
        refine ⟨_, rfl, _, rfl, _, _, rfl, rfl, _, _, _, _, rfl, rfl, SqT.of (bt4.tup _ _ hpH), atI_three, _, rfl, _, rfl, cat_one (l.pa.mono bt4.tk) (by omega) fun pv6 H6 k6 ip6 => ⟨_, rfl, _, rfl, _, rfl, ?_⟩⟩
        have bt6 := bt4.trans k6.but (c := a)
        have ea6 := k6 _ _ e4
        refine ⟨c, a, _, u1, G, r, x2, pv6, dv, uv, pl ++ [2], tu, b, n4, rfl, trivial, ?_, fun v H7 n7 b7 e7 lr7 => ?_⟩
        · exact { ca := ea6, cm := l.cm, av := l.av.but bt6 (nota ea6), tr := r2.mono bt6.tk, ht := by omega, dp := by omega, sc := l.sc.2.2, fe := l.fe, en := l.en.mono bt6 l.cm, bn := by omega, pa := ip6, ta := l.ta.mono bt6.tk,
                  pn := by rw [List.length_append]; show pl.length + 1 + _ ≤ _; omega, tn := by omega }
        rw [Int.sub_zero] at lr7
        have bt7 := bt6.trans b7
        rcases lr7.ways with ⟨pp, s9, rr, rfl, hpp, nis, give⟩ | ⟨i2, d2, pp, x, ed2, le7, ge7, rfl, hpp, rx2⟩
        · refine ⟨_, rfl, _, _, _, _, rfl, rfl, SqT.of hpp, atI_zero, rfl, _, rfl, itF nis ?_⟩
          refine ⟨_, rfl, false, rfl, itF rfl ⟨_, rfl, q _ _ n7 bt7 e7 ?_⟩⟩
          exact give c _ pl tu nn (fun i3 wd aa bb er => ⟨i1 + i3, 2 :: aa, bb, by rw [eq2, Res.bind_st er]; rfl, by rw [List.append_assoc]; rfl, rfl, by rw [Int.natCast_add]; omega⟩)
        obtain ⟨d, kvs, rfl, hd, nd, ek⟩ := l.en.mono bt7 l.cm
        have ekl := ek.len
        have eq3 : den (.ite c0 t1 u1) r = .ok (i1 + (i2 + 1)) d2 := by
          rw [eq2, Res.bind_of ed2]
          rfl
        refine ⟨_, rfl, _, _, _, _, rfl, rfl, SqT.of hpp, atI_zero, rfl, _, rfl, itT rfl ?_⟩
        refine ⟨_, rfl, _, rfl, d, kvs, rfl, hd, fun g3 hg3 => ?_⟩
        have kg3 : Kp H7 (upd H7 g3 (.lst (kvs.map (·.2)))) := Kp.new hg3
        refine ⟨_, rfl, _, _, _, _, rfl, rfl, SqT.of (kg3 _ _ hpp), atI_one, by show 1 ≤ sizeLine; decide, fun g4 hg4 => ⟨g3, g4, _, _, rfl, rfl, Kp.new hg4 _ _ upd_same, upd_same, line_le (by rw [List.length_map]; show kvs.length + 1 ≤ _; omega), fun g5 hg5 => ?_⟩⟩
        have kg5 := (kg3.trans (Kp.new (o := .lst [x]) hg4)).trans (Kp.new (o := .lst (kvs.map (·.2) ++ [x])) hg5)
        have na5 : g5 ≠ a := fun zz => by
          have z8 := (kg3.trans (Kp.new (o := .lst [x]) hg4)) _ _ e7
          rw [← zz, hg5] at z8
          cases z8
        refine ⟨a, g5, n7, 1, _, rfl, kg5 _ _ e7, upd_same, na5, fun y hy => ?_, by rw [List.length_append, List.length_map]; show kvs.length + 1 ≤ _; omega, by decide, fun n8 H8 h8 b8 e8 => ?_⟩
        · rcases List.mem_append.mp hy with hy | hy
          · obtain ⟨pr, hpr, rfl⟩ := List.mem_map.mp hy
            exact (ek.wt hpr).mono kg5
          · rw [List.mem_singleton.mp hy]
            exact (rx2.wt (den_fit u1 l.sc.2.2 l.fe ed2) (by omega)).mono kg5
        · have bt8 := (bt7.trans kg5.but).trans b8
          have h8' : n7 + 1 ≤ n8 := h8
          refine ⟨_, rfl, decide (20000 < n8), rfl, itB (fun e => ?_) (fun e => ?_)⟩
          · exact ⟨_, rfl, _, rfl, by show 4 ≤ sizeLine; decide, fun pp hpp => long H8 n8 pp bt8 e8 hpp⟩
          · have le8 : n8 ≤ 20000 := by
              have := of_decide_eq_false e
              omega
            refine ⟨_, rfl, q _ _ n8 bt8 e8 (.inr ⟨le8, ?_, ?_⟩)⟩
            · rw [eq3]
              show nn + ((i1 + (i2 + 1) : Nat) : Int) ≤ n8
              omega
            · rw [eq3]
              exact ⟨pp, x, rfl, b8.tup _ _ (kg5 _ _ hpp), (rx2.mono kg5.lk).mono (b8.lk l.cm)⟩
end
end Br
/-! The law's loop. -/
namespace Br
open PySem L2
open PySem.Spec PyProof.Rows
section
variable {P : Program} {w : World} {K : PySem.W.Frag} {mg : Str → Option Value} {base : Heap} {aC aB f : Addr} {fd : FuncData}
set_option maxHeartbeats 2000000 in
theorem fn_law_loop (T : Tp K mg aC aB) (F : At K mg "_law_loop" s_law_loop p_law_loop f fd) {n k0 : Nat} (hk0 : 10 ≤ k0) (c_law_cost : Fn P w K mg base 7 "_law_cost" spCost) (c_law_with : Fn P w K mg base 1 "_law_with" spWith)
    (c_law_read : Fn P w K mg base k0 "_law_read" (spLR anyT 0 n)) : Fn P w K mg base (k0 + 1) "_law_loop" (spLR isBind 1 (n + 1)) := by
  refine fn_by F sc_law_loop ?_ (fun cdv A outer s0 H vs Q E hr h => ?_)
  · rintro vs H Q E ⟨c, a, k, t, G, r, tv, pv, dv, uv, pl, tu, b, nn, rfl, _⟩
    rfl
  obtain ⟨c, a, k, t, G, r, tv, qv, dv, uv, pl, tu, b, nn, rfl, sh, l, q⟩ := h
  refine ⟨_, (pss_cons (ps_set (i := 5) sc_law_loop.nd rfl (by first | exact Or.inl rfl | exact Or.inr rfl) (pe_fn c_law_read hr (by omega) (by rfl) (pa_cons (pe_ix (k_ixt K rfl) (pv 0) (pe_int) (fun _ _ => rfl)) (pa_cons (pe_op (k_cat K rfl) (pv 1) (pe_tup (pa_cons (pe_int) pa_nil))) (pa_cons (pv 2) (pa_cons (pv 3) (pa_cons (pv 4) pa_nil)))))))
  (pss_cons (ps_if (pt_cmpR op_ne (pe_ix (k_ixt K rfl) (pv 5) (pe_int) (fun _ _ => rfl)) (pe_str) (nomark _)) (pss_one (ps_ret (pv 5))) pss_nil)
  (pss_cons (ps_if (pt_cmpR op_eq (pe_ix (k_ixt K rfl) (pv 0) (pe_int) (fun _ _ => rfl)) (pe_str) (nomark _)) (pss_one (ps_ret (pe_fn c_law_read hr (by omega) (by rfl) (pa_cons (pe_ix (k_ixt K rfl) (pv 0) (pe_int) (fun _ _ => rfl)) (pa_cons (pe_op (k_cat K rfl) (pv 1) (pe_tup (pa_cons (pe_int) pa_nil))) (pa_cons (pe_fn c_law_with hr (by omega) (by rfl) (pa_cons (pv 2) (pa_cons (pe_ix (k_ixt K rfl) (pv 0) (pe_int) (fun _ _ => rfl)) (pa_cons (pe_ix (k_ixt K rfl) (pv 5) (pe_int) (fun _ _ => rfl)) pa_nil)))) (pa_cons (pv 3) (pa_cons (pv 4) pa_nil)))))))) pss_nil)
  (pss_cons (ps_set (i := 6) sc_law_loop.nd rfl (by first | exact Or.inl rfl | exact Or.inr rfl) (pe_lst pa_nil))
  (pss_cons (ps_set (i := 7) sc_law_loop.nd rfl (by first | exact Or.inl rfl | exact Or.inr rfl) (pe_tup (pa_cons (pe_str) (pa_cons (pv 6) pa_nil))))
  (pss_cons (ps_if (pt_cmpR op_eq (pe_ix (k_ixt K rfl) (pv 0) (pe_int) (fun _ _ => rfl)) (pe_str) (nomark _)) (pss_cons (ps_set (i := 7) sc_law_loop.nd rfl (by first | exact Or.inl rfl | exact Or.inr rfl) (pe_fn c_law_read hr (by omega) (by rfl) (pa_cons (pe_ix (k_ixt K rfl) (pv 0) (pe_int) (fun _ _ => rfl)) (pa_cons (pe_op (k_cat K rfl) (pv 1) (pe_tup (pa_cons (pe_int) pa_nil))) (pa_cons (pv 2) (pa_cons (pv 3) (pa_cons (pv 4) pa_nil)))))))
  (pss_one (ps_if (pw_and (pt_cmpR op_eq (pe_ix (k_ixt K rfl) (pv 7) (pe_int) (fun _ _ => rfl)) (pe_str) (nomark _)) (pw_and1 (pw_or (pt_cmpR op_lt (pe_ix (k_ixt K rfl) (pv 5) (pe_int) (fun _ _ => rfl)) (pe_int) (nomark _)) (pw_or1 (pt_cmpR op_gt (pe_ix (k_ixt K rfl) (pv 5) (pe_int) (fun _ _ => rfl)) (pe_int) (nomark _)))).pt)).pt (pss_one (ps_ret (pe_tup (pa_cons (pe_str) (pa_cons (pe_str) (pa_cons (pv 1) (pa_cons (pv 3) pa_nil))))))) pss_nil))) pss_nil)
  (pss_cons (ps_set (i := 8) sc_law_loop.nd rfl (by first | exact Or.inl rfl | exact Or.inr rfl) (pe_ifExp (pt_cmpR op_eq (pe_ix (k_ixt K rfl) (pv 0) (pe_int) (fun _ _ => rfl)) (pe_str) (nomark _)) (pe_ix (k_ixt K rfl) (pv 5) (pe_int) (fun _ _ => rfl)) (pe_callB (k_len K rfl) (by rfl) T.len (by decide +kernel) (pa_cons (pe_ix (k_ixt K rfl) (pv 5) (pe_int) (fun _ _ => rfl)) pa_nil))))
  (pss_cons (ps_if (pw_and (pt_cmpR op_eq (pe_ix (k_ixt K rfl) (pv 7) (pe_int) (fun _ _ => rfl)) (pe_str) (nomark _)) (pw_and1 (pt_val (pe_fn c_law_cost hr (by omega) (by rfl) (pa_cons (pv 4) (pa_cons (pv 8) (pa_cons (pe_listVals (pv 2) (by rfl) T.list rfl) pa_nil))))))).pt (pss_one (ps_ret (pe_tup (pa_cons (pe_str) (pa_cons (pe_str) (pa_cons (pv 1) (pa_cons (pv 3) pa_nil))))))) pss_nil)
  (pss_cons (ps_for PassesOwn.never rfl (pi_range1 (by rfl) T.range (pa_cons (pe_ifExp (pt_cmpR op_eq (pe_ix (k_ixt K rfl) (pv 7) (pe_int) (fun _ _ => rfl)) (pe_str) (nomark _)) (pv 8) (pe_int)) pa_nil)) (pg_name (i := 9) sc_law_loop.nd rfl (by first | exact Or.inl rfl | exact Or.inr rfl)) (pss_cons (ps_set (i := 10) sc_law_loop.nd rfl (by first | exact Or.inl rfl | exact Or.inr rfl) (pe_ifExp (pt_cmpR op_eq (pe_ix (k_ixt K rfl) (pv 0) (pe_int) (fun _ _ => rfl)) (pe_str) (nomark _)) (pe_ix (k_ixt K rfl) (pv 7) (pe_int) (fun _ _ => rfl)) (pe_ix (k_ixl K rfl) (pe_ix (k_ixt K rfl) (pv 5) (pe_int) (fun _ _ => rfl)) (pv 9) (fun _ _ => rfl))))
  (pss_cons (ps_set (i := 11) sc_law_loop.nd rfl (by first | exact Or.inl rfl | exact Or.inr rfl) (pe_op op_sub (pe_callB (k_len K rfl) (by rfl) T.len (by decide +kernel) (pa_cons (pv 0) pa_nil)) (pe_int)))
  (pss_cons (ps_set (i := 7) sc_law_loop.nd rfl (by first | exact Or.inl rfl | exact Or.inr rfl) (pe_fn c_law_read hr (by omega) (by rfl) (pa_cons (pe_ix (k_ixt K rfl) (pv 0) (pe_un un_neg (pe_int)) (fun _ _ => rfl)) (pa_cons (pe_op (k_cat K rfl) (pv 1) (pe_tup (pa_cons (pv 11) pa_nil))) (pa_cons (pe_fn c_law_with hr (by omega) (by rfl) (pa_cons (pv 2) (pa_cons (pe_ix (k_ixt K rfl) (pv 0) (pe_int) (fun _ _ => rfl)) (pa_cons (pv 10) pa_nil)))) (pa_cons (pe_op (k_cat K rfl) (pv 3) (pe_tup (pa_cons (pv 9) pa_nil))) (pa_cons (pv 4) pa_nil)))))))
  (pss_cons (ps_if (pt_cmpR op_ne (pe_ix (k_ixt K rfl) (pv 7) (pe_int) (fun _ _ => rfl)) (pe_str) (nomark _)) (pss_one (ps_ret (pv 7))) pss_nil)
  (pss_one (ps_expr (k_bm K rfl PySem.F.plainAttrs_list PySem.F.slot_list_append PySem.F.type_list_append mt_append (pv 6) (pa_cons (pe_ix (k_ixt K rfl) (pv 7) (pe_int) (fun _ _ => rfl)) pa_nil)))))))))
  (pss_one (ps_ret (pe_ifExp (pt_cmpR op_eq (pe_ix (k_ixt K rfl) (pv 0) (pe_int) (fun _ _ => rfl)) (pe_str) (nomark _)) (pe_tup (pa_cons (pe_str) (pa_cons (pv 6) pa_nil))) (pv 7))))))))))))), ?_⟩
  have nota : ∀ {H' : Hp} {m : Int}, H' a = some (.lst [.int m]) → NoT H' a := fun e => NoT.of e (fun _ z => nomatch z)
  have long : ∀ H1 n1 p, But a H H1 → H1 a = some (.lst [.int n1]) → H1 p = none → Q (.ref p) (upd H1 p (.tup [.str "long", .str "", qv, uv])) := fun H1 n1 p b1 h1 hp =>
    q _ _ n1 (b1.trans (Kp.new hp).but) (Kp.new hp _ _ h1) (.inl ⟨p, _, rfl, upd_same⟩)
  cases t with
  | num => exact sh.elim
  | yes => exact sh.elim
  | no => exact sh.elim
  | none => exact sh.elim
  | op1 => exact sh.elim
  | op2 => exact sh.elim
  | name => exact sh.elim
  | ite => exact sh.elim
  | lt x t1 u1 =>
    rename_i a0
    obtain ⟨p, x1, x2, rfl, hp, r1, r2⟩ := id l.tr
    obtain ⟨d, kvs, rfl, hd, nd, ek⟩ := id l.en
    have ht0 : max t1.ht u1.ht + 1 ≤ n + 1 := l.ht
    have dp0 : max k.depth (max t1.dep u1.dep) ≤ 6 := l.dp
    have bn0 : b + (max t1.ht u1.ht + 1) ≤ 1000 := l.bn
    have pn0 : pl.length + (max t1.ht u1.ht + 1) ≤ 1000 := l.pn
    have tn0 : tu.length + (max t1.ht u1.ht + 1) ≤ 1000 := l.tn
    have ekl := ek.len
    have dep1 := t1.dep_k
    have eden : den (.lt x t1 u1) r = ((den t1 r).pre 0 []).bind fun d => (den u1 (r.put x d)).pre 1 [] := rfl
    refine ⟨_, rfl, _, _, _, _, rfl, rfl, SqT.of hp, atI_two, _, rfl, cat_one l.pa (by omega) fun pv' H3 k3 ip3 => ⟨_, rfl, _, rfl, _, rfl, ?_⟩⟩
    refine ⟨c, a, _, t1, G, r, x1, pv', _, uv, pl ++ [0], tu, b, nn, rfl, trivial, ?_, fun v H4 n4 b4 e4 lr4 => ?_⟩
    · exact { ca := k3 _ _ l.ca, cm := l.cm, av := l.av.kp k3, tr := r1.mono k3.tk, ht := by omega, dp := by omega, sc := l.sc.1, fe := l.fe, en := l.en.kp k3, bn := by omega, pa := ip3, ta := l.ta.mono k3.tk,
              pn := by rw [List.length_append]; show pl.length + 1 + _ ≤ _; omega, tn := by omega }
    rw [Int.sub_zero] at lr4
    have bt4 := k3.but.trans b4 (c := a)
    rcases lr4.ways with ⟨pp, s9, rr, rfl, hpp, nis, give⟩ | ⟨i1, d1, pp, y, ed, le4, ge4, rfl, hpp, ry⟩
    · refine ⟨_, rfl, _, _, _, _, rfl, rfl, SqT.of hpp, atI_zero, rfl, _, rfl, itT (not_is nis) ⟨_, rfl, q _ _ n4 bt4 e4 ?_⟩⟩
      exact give c _ pl tu _ (fun i3 wd aa bb er => ⟨i3, 0 :: aa, bb, by rw [eden, Res.bind_st er]; rfl, by rw [List.append_assoc]; rfl, rfl, by omega⟩)
    refine ⟨_, rfl, _, _, _, _, rfl, rfl, SqT.of hpp, atI_zero, rfl, _, rfl, itF rfl ?_⟩
    refine ⟨_, rfl, _, _, _, _, rfl, rfl, SqT.of (bt4.tup _ _ hp), atI_zero, rfl, _, rfl, itT (by decide +kernel) ?_⟩
    have eq2 : den (.lt x t1 u1) r = ((den u1 (r.put x d1)).pre 1 []).plus i1 := by rw [eden, Res.bind_of ed]
    have fv : Fit a0 d1 := den_fit t1 l.sc.1 l.fe ed
    obtain ⟨d', kvs', ee, hd4, nd4, ek4⟩ := l.en.mono bt4 l.cm
    obtain rfl : d = d' := V.ref.inj ee
    have ekl4 := ek4.len
    refine ⟨_, rfl, _, _, _, _, rfl, rfl, SqT.of (bt4.tup _ _ hp), atI_three, _, rfl, cat_one (l.pa.mono bt4.tk) (by omega) fun pv6 H6 k6 ip6 => ?_⟩
    refine ⟨_, rfl, _, rfl, _, _, _, _, rfl, rfl, SqT.of ((bt4.trans k6.but).tup _ _ hp), atI_one, _, rfl, _, _, _, _, rfl, rfl, SqT.of (k6 _ _ hpp), atI_one, d, kvs', x, y, rfl, k6 _ _ hd4, by omega, fun g2 H7 k7 ng hg2 => ?_⟩
    have k67 := k6.trans k7
    have bt7 := bt4.trans k67.but
    refine ⟨_, rfl, _, rfl, ?_⟩
    refine ⟨c, a, _, u1, G.put x a0, r.put x d1, x2, pv6, .ref g2, uv, pl ++ [1], tu, b + 1, n4, rfl, trivial, ?_, fun v H8 n8 b8 e8 lr8 => ?_⟩
    · exact { ca := k67 _ _ e4, cm := l.cm, av := l.av.but bt7 (nota (k67 _ _ e4)), tr := r2.mono bt7.tk, ht := by omega, dp := by omega, sc := l.sc.2, fe := l.fe.put x fv,
              en := ⟨g2, _, rfl, hg2, (l.av.but (bt4.trans k6.but) (nota (k6 _ _ e4))).new ng, (ek4.put x ry (by omega) fv).mono k67.lk⟩, bn := by omega, pa := ip6.mono k7.tk, ta := l.ta.mono bt7.tk,
              pn := by rw [List.length_append]; show pl.length + 1 + _ ≤ _; omega, tn := by omega }
    rw [Int.sub_zero] at lr8
    have bt8 := bt7.trans b8
    rcases lr8.ways with ⟨pp, s9, rr, rfl, hpp, nis, give⟩ | ⟨i2, d2, pp, z, ed2, le8, ge8, rfl, hpp8, rz⟩
    · refine q _ _ n8 bt8 e8 (give c _ pl tu _ (fun i3 wd aa bb er => ⟨i1 + i3, 1 :: aa, bb, by rw [eq2, er]; rfl, by rw [List.append_assoc]; rfl, rfl, by rw [Int.natCast_add]; omega⟩))
    · refine q _ _ n8 bt8 e8 (.inr ⟨le8, ?_, ?_⟩)
      · rw [eq2, ed2]
        show nn - 1 + ((i1 + i2 : Nat) : Int) ≤ n8
        omega
      · rw [eq2, ed2]
        exact ⟨pp, z, rfl, hpp8, rz⟩
  | each x t1 u1 =>
    rename_i a0 kb
    obtain ⟨p, x1, x2, rfl, hp, r1, r2⟩ := id l.tr
    obtain ⟨d, kvs, rfl, hd, nd, ek⟩ := id l.en
    have ht0 : max t1.ht u1.ht + 1 ≤ n + 1 := l.ht
    have dp0 : max (1 + kb.depth) (max t1.dep u1.dep) ≤ 6 := l.dp
    have bn0 : b + (max t1.ht u1.ht + 1) ≤ 1000 := l.bn
    have pn0 : pl.length + (max t1.ht u1.ht + 1) ≤ 1000 := l.pn
    have tn0 : tu.length + (max t1.ht u1.ht + 1) ≤ 1000 := l.tn
    have ekl := ek.len
    have dep1 : 1 + a0.depth ≤ t1.dep := t1.dep_k
    have eden : den (.each x t1 u1) r = ((den t1 r).pre 0 []).bind fun l => (eachR (fun d => den u1 (r.put x d)) 0 (dL l)).bind fun m => .ok 1 m := rfl
    refine ⟨_, rfl, _, _, _, _, rfl, rfl, SqT.of hp, atI_two, _, rfl, cat_one l.pa (by omega) fun pv' H3 k3 ip3 => ⟨_, rfl, _, rfl, _, rfl, ?_⟩⟩
    refine ⟨c, a, _, t1, G, r, x1, pv', _, uv, pl ++ [0], tu, b, nn, rfl, trivial, ?_, fun v H4 n4 b4 e4 lr4 => ?_⟩
    · exact { ca := k3 _ _ l.ca, cm := l.cm, av := l.av.kp k3, tr := r1.mono k3.tk, ht := by omega, dp := by omega, sc := l.sc.1, fe := l.fe, en := l.en.kp k3, bn := by omega, pa := ip3, ta := l.ta.mono k3.tk,
              pn := by rw [List.length_append]; show pl.length + 1 + _ ≤ _; omega, tn := by omega }
    rw [Int.sub_zero] at lr4
    have bt4 := k3.but.trans b4 (c := a)
    rcases lr4.ways with ⟨pp, s9, rr, rfl, hpp, nis, give⟩ | ⟨i1, d1, pp, y, ed, le4, ge4, rfl, hpp, ry⟩
    · refine ⟨_, rfl, _, _, _, _, rfl, rfl, SqT.of hpp, atI_zero, rfl, _, rfl, itT (not_is nis) ⟨_, rfl, q _ _ n4 bt4 e4 ?_⟩⟩
      exact give c _ pl tu _ (fun i3 wd aa bb er => ⟨i3, 0 :: aa, bb, by rw [eden, Res.bind_st er]; rfl, by rw [List.append_assoc]; rfl, rfl, by omega⟩)
    obtain ⟨qr, xs, rfl, hq, nq, pr⟩ := id ry
    have fr : Fit (.row a0) d1 := den_fit t1 l.sc.1 l.fe ed
    have lx : xs.length ≤ 200 := by rw [Paired.len pr]; exact fr.1
    have eq2 : den (.each x t1 u1) r = ((eachR (fun d => den u1 (r.put x d)) 0 (dL d1)).bind fun m => .ok 1 m).plus i1 := by rw [eden, Res.bind_of ed]
    refine ⟨_, rfl, _, _, _, _, rfl, rfl, SqT.of hpp, atI_zero, rfl, _, rfl, itF rfl ?_⟩
    refine ⟨_, rfl, _, _, _, _, rfl, rfl, SqT.of (bt4.tup _ _ hp), atI_zero, rfl, _, rfl, itF (by decide +kernel) ?_⟩
    refine ⟨by show 0 ≤ sizeLine; decide, fun g hg => ?_⟩
    have hgH : H g = none := bt4.free hg
    have kg : Kp H4 (upd H4 g (.lst [])) := Kp.new hg
    refine ⟨_, rfl, by show 2 ≤ sizeLine; decide, fun tt htt => ?_⟩
    have kt := kg.trans (Kp.new (o := .tup [.str "is", .ref g]) htt)
    have hgt : upd (upd H4 g (.lst [])) tt (.tup [.str "is", .ref g]) g = some (.lst []) := Kp.new htt _ _ upd_same
    have bt5 := bt4.trans kt.but
    refine ⟨_, rfl, _, _, _, _, rfl, rfl, SqT.of (bt5.tup _ _ hp), atI_zero, rfl, _, rfl, itF (by decide +kernel) ?_⟩
    refine ⟨_, rfl, _, _, _, _, rfl, rfl, SqT.of (bt5.tup _ _ hp), atI_zero, rfl, _, rfl, itF (by decide +kernel) ?_⟩
    refine ⟨_, rfl, _, _, _, _, rfl, rfl, SqT.of (kt _ _ hpp), atI_one, qr, _, rfl, .inl (SqL.of (kt _ _ hq)), ?_⟩
    refine ⟨_, rfl, _, _, _, _, rfl, rfl, SqT.of upd_same, atI_zero, rfl, _, rfl, itT rfl ?_⟩
    obtain ⟨d', kvs', ee, hd5, nd5, ek5⟩ := l.en.mono bt5 l.cm
    obtain rfl : d = d' := V.ref.inj ee
    have ekl5 := ek5.len
    refine ⟨_, rfl, _, rfl, _, rfl, d, kvs', rfl, hd5, fun g3 hg3 => ?_⟩
    have k3' := kt.trans (Kp.new (o := .lst (kvs'.map (·.2))) hg3)
    have na3 : g3 ≠ a := fun zz => by
      have z8 := kt _ _ e4
      rw [← zz, hg3] at z8
      cases z8
    refine ⟨a, g3, n4, xs.length, _, rfl, k3' _ _ e4, upd_same, na3, fun y hy => ?_, by rw [List.length_map]; omega, by omega, fun n5 H5 h5 b5 e5 => ⟨_, rfl, itB (fun e => ?_) (fun e => ?_)⟩⟩
    · obtain ⟨pr, hpr, rfl⟩ := List.mem_map.mp hy
      exact (ek5.wt hpr).mono (Kp.new hg3)
    · exact ⟨_, rfl, _, rfl, by show 4 ≤ sizeLine; decide, fun pp hpp => long H5 n5 pp ((bt4.trans k3'.but).trans b5) e5 hpp⟩
    have le5 : n5 ≤ 20000 := by
      have := of_decide_eq_false e
      omega
    have ga : g ≠ a := fun zz => by rw [← zz, hg] at e4; cases e4
    have tt5 : H5 tt = some (.tup [.str "is", .ref g]) := b5.tup _ _ (Kp.new hg3 _ _ upd_same)
    have g5 : H5 g = some (.lst []) := b5.old _ _ ga (Kp.new hg3 _ _ hgt)
    have pa4 : qr ≠ a := fun zz => nq (by rw [zz]; exact l.cm)
    -- H4 but for a
    have b45 : But a H4 H5 := k3'.but.trans b5
    have b05 := bt4.trans b45
    refine ⟨_, rfl, _, _, _, _, rfl, rfl, SqT.of tt5, atI_zero, rfl, _, rfl, itT rfl ⟨_, rfl, ((xs.length : Nat) : Int), rfl, by omega, by omega, for_range (lo := 0) (n := xs.length)
      (fun i σ H' => (∃ v7 v9 v10 v11, σ = [some (.ref p), some qv, some (.ref d), some uv, some (.ref a), some (.ref pp), some (.ref g), v7, some (.int ((xs.length : Nat) : Int)), v9, v10, v11]) ∧
        ∃ (acc : List V) (ms : List (D kb)) (n' : Nat) (ni : Int), But a H4 H' ∧ H' a = some (.lst [.int ni]) ∧ ni ≤ 20000 ∧ n4 + (n' : Int) ≤ ni ∧ H' g = some (.lst acc) ∧ Paired (RepW (fun z => c z ∨ z = g) H' kb) acc ms ∧ EachAt (fun d => den u1 (r.put x d)) (dL d1) i ms n' ∧ acc.length = i)
      ⟨⟨_, none, none, none, rfl⟩, [], [], 0, n5, b45, e5, le5, by omega, g5, .nil, EachAt.zero, rfl⟩ ?_ ?_⟩⟩
    · rintro i σ H' hi ⟨⟨v7, v9, v10, v11, rfl⟩, acc, ms, n', ni, bt, hai, lei, gei, hgl, pa, ea, lacc⟩
      have hx : xs[i]? = some xs[i] := List.getElem?_eq_getElem hi
      generalize xs[i] = y at hx
      obtain ⟨th, hth, rth⟩ := Paired.at pr hx
      have b0 := bt4.trans bt
      have hpp' := bt.tup _ _ hpp
      refine ⟨_, rfl, _, _, _, _, rfl, rfl, SqT.of (b0.tup _ _ hp), atI_zero, rfl, _, rfl, itF (by decide +kernel) ?_⟩
      refine ⟨_, rfl, _, _, _, _, rfl, rfl, SqT.of hpp', atI_one, _, rfl, qr, _, _, y, rfl, rfl, SqL.of (bt.old _ _ pa4 hq), by rw [Int.zero_add]; exact atI_nat hx, ?_⟩
      refine ⟨_, rfl, p, _, rfl, .inr (SqT.of (b0.tup _ _ hp)), _, _, rfl, rfl, ?_⟩
      refine ⟨_, rfl, _, rfl, _, _, _, _, rfl, rfl, SqT.of (b0.tup _ _ hp), atI_last [_, _, _] _, _, rfl, _, rfl, cat_one (i := 1) (l.pa.mono b0.tk) (by omega) fun pv6 H6 k6 ip6 => ?_⟩
      obtain ⟨d', kvs6, ee, hd6, nd6, ek6⟩ := ((l.en.more hgH).mono b0 (.inl l.cm)).kp k6
      obtain rfl : d = d' := V.ref.inj ee
      have ekl6 := ek6.len
      refine ⟨_, rfl, _, rfl, _, _, _, _, rfl, rfl, SqT.of ((b0.trans k6.but).tup _ _ hp), atI_one, _, rfl, d, kvs6, x, y, rfl, hd6, by omega, fun g2 H7 k7 ng hg2 => ?_⟩
      refine ⟨_, rfl, _, rfl, cat_one (((l.ta.mono b0.tk).mono k6.tk).mono k7.tk) (by omega) fun uv8 H8 k8 it8 => ⟨_, rfl, ?_⟩⟩
      have k68 := (k6.trans k7).trans k8
      have b08 := b0.trans k68.but
      have fth : Fit a0 th := fr.2 th (List.mem_of_getElem? hth)
      have hgl8 := k68 _ _ hgl
      have rth6 : RepW (fun z => c z ∨ z = g) H6 a0 y th := ((rth.more hg).mono (bt.lk (.inl l.cm))).mono k6.lk
      have av6 : Av (fun z => c z ∨ z = g) H6 := (l.av.but (b0.trans k6.but) (nota (k6 _ _ hai))).more (NoT.of (k6 _ _ hgl) (fun _ z => nomatch z))
      refine ⟨(fun z => c z ∨ z = g), a, kb, u1, G.put x a0, r.put x th, x2, pv6, .ref g2, uv8, pl ++ [1], tu ++ [0 + (i : Int)], b + 1, ni, rfl, trivial, ?_, fun v H9 n9 b9 e9 lr9 => ?_⟩
      · exact { ca := k68 _ _ hai, cm := .inl l.cm, av := (l.av.but b08 (nota (k68 _ _ hai))).more (NoT.of hgl8 (fun _ z => nomatch z)), tr := r2.mono b08.tk, ht := by omega, dp := by omega, sc := l.sc.2, fe := l.fe.put x fth,
                en := ⟨g2, _, rfl, k8 _ _ hg2, av6.new ng, (ek6.put x rth6 (by omega) fth).mono (k7.trans k8).lk⟩, bn := by omega, pa := (ip6.mono k7.tk).mono k8.tk, ta := it8,
                pn := by rw [List.length_append]; show pl.length + 1 + _ ≤ _; omega, tn := by rw [List.length_append]; show tu.length + 1 + _ ≤ _; omega }
      rw [Int.sub_zero] at lr9
      have bt9 := (bt.trans k68.but).trans b9
      rcases lr9.ways with ⟨pq, s9, rr, rfl, hpq, nis, give⟩ | ⟨i2, d2, pq, z, ed2, le9, ge9, rfl, hpq, rz⟩
      · refine ⟨_, rfl, _, _, _, _, rfl, rfl, SqT.of hpq, atI_zero, rfl, _, rfl, itT (not_is nis) ⟨_, rfl, q _ _ n9 (bt4.trans bt9) e9 ?_⟩⟩
        exact give c _ pl tu _ (fun i3 wd aa bb er => ⟨i1 + (n' + i3), 1 :: aa, (i : Int) :: bb, by rw [eq2, ea.stop hth er]; rfl, by rw [List.append_assoc]; rfl, by rw [List.append_assoc, Int.zero_add]; rfl, by rw [Int.natCast_add, Int.natCast_add]; omega⟩)
      · refine ⟨_, rfl, _, _, _, _, rfl, rfl, SqT.of hpq, atI_zero, rfl, _, rfl, itF rfl ?_⟩
        have hgl9 : H9 g = some (.lst acc) := b9.old _ _ ga hgl8
        refine ⟨_, rfl, .inl ⟨rfl, _, SqL.of hgl9⟩, _, rfl, _, _, _, _, rfl, rfl, SqT.of hpq, atI_one, g, acc, z, rfl, rfl, hgl9, line_lt (by omega), ?_⟩
        have lk : Lk (fun z => c z ∨ z = g) H9 (upd H9 g (.lst (acc ++ [z]))) := Lk.at (.inr rfl) (NoT.of hgl9 (fun _ z => nomatch z))
        refine ⟨⟨_, _, _, _, rfl⟩, acc ++ [z], ms ++ [d2], n' + i2, n9, bt9.put hg, by rw [upd_ne (Ne.symm ga)]; exact e9, le9, by rw [Int.natCast_add]; omega, upd_same, ?_, ea.ok hth ed2, by rw [List.length_append, lacc]; rfl⟩
        exact Paired.app (Paired.mapP pa fun _ _ w => ((w.mono k68.lk).mono (b9.lk (.inl l.cm))).mono lk) (.cons (rz.mono lk) .nil)
    · rintro σ H' ⟨⟨v7, v9, v10, v11, rfl⟩, acc, ms, n', ni, bt, hai, lei, gei, hgl, pa, ea, lacc⟩
      rw [Paired.len pr] at ea
      have efin := ea.fin
      have eq3 : den (.each x t1 u1) r = .ok (i1 + (n' + 1)) ms := by
        rw [eq2, efin]
        rfl
      have b0 := bt4.trans bt
      refine ⟨_, rfl, _, _, _, _, rfl, rfl, SqT.of (b0.tup _ _ hp), atI_zero, rfl, _, rfl, itT (by decide +kernel) ?_⟩
      refine ⟨_, rfl, by show 2 ≤ sizeLine; decide, fun pz hpz => q _ _ ni (b0.trans (Kp.new hpz).but) (Kp.new hpz _ _ hai) (.inr ⟨lei, ?_, ?_⟩)⟩
      · rw [eq3]
        show nn - 1 + ((i1 + (n' + 1) : Nat) : Int) ≤ ni
        omega
      · rw [eq3]
        exact ⟨pz, _, rfl, upd_same, g, acc, rfl, Kp.new hpz _ _ hgl, l.av.new hgH, Paired.mapP pa fun _ _ w => (w.mono (Kp.new hpz).lk).less⟩
  | times x t0 t1 u1 =>
    obtain ⟨p, x0, x1, x2, rfl, hp, r0, r1, r2⟩ := id l.tr
    obtain ⟨d, kvs, rfl, hd, nd, ek⟩ := id l.en
    have ht0 : max t0.ht (max t1.ht u1.ht) + 1 ≤ n + 1 := l.ht
    have dp0 : max k.depth (max t0.dep (max t1.dep u1.dep)) ≤ 6 := l.dp
    have bn0 : b + (max t0.ht (max t1.ht u1.ht) + 1) ≤ 1000 := l.bn
    have pn0 : pl.length + (max t0.ht (max t1.ht u1.ht) + 1) ≤ 1000 := l.pn
    have tn0 : tu.length + (max t0.ht (max t1.ht u1.ht) + 1) ≤ 1000 := l.tn
    have ekl := ek.len
    obtain ⟨f1, hf1⟩ : ∃ f1 : D .num → D k → Res (D k), f1 = fun mm d => if 0 ≤ (dI mm) ∧ (dI mm) ≤ 60 then (timesR (fun d => den u1 (r.put x (a := k) d)) 0 (dI mm).toNat d).bind fun e => .ok 1 e else .stop 0 .far [] [] := ⟨_, rfl⟩
    have eden : den (.times x t0 t1 u1) r = ((den t0 r).pre 0 []).bind fun mm => ((den t1 r).pre 1 []).bind (f1 mm) := by
      rw [hf1]
      rfl
    refine ⟨_, rfl, _, _, _, _, rfl, rfl, SqT.of hp, atI_two, _, rfl, cat_one l.pa (by omega) fun pv' H3 k3 ip3 => ⟨_, rfl, _, rfl, _, rfl, ?_⟩⟩
    refine ⟨c, a, _, t0, G, r, x0, pv', _, uv, pl ++ [0], tu, b, nn, rfl, trivial, ?_, fun v H4 n4 b4 e4 lr4 => ?_⟩
    · exact { ca := k3 _ _ l.ca, cm := l.cm, av := l.av.kp k3, tr := r0.mono k3.tk, ht := by omega, dp := by omega, sc := l.sc.1, fe := l.fe, en := l.en.kp k3, bn := by omega, pa := ip3, ta := l.ta.mono k3.tk,
              pn := by rw [List.length_append]; show pl.length + 1 + _ ≤ _; omega, tn := by omega }
    rw [Int.sub_zero] at lr4
    have bt4 := k3.but.trans b4 (c := a)
    rcases lr4.ways with ⟨pp, s9, rr, rfl, hpp, nis, give⟩ | ⟨i1, mm, pp, y, ed, le4, ge4, rfl, hpp, ry⟩
    · refine ⟨_, rfl, _, _, _, _, rfl, rfl, SqT.of hpp, atI_zero, rfl, _, rfl, itT (not_is nis) ⟨_, rfl, q _ _ n4 bt4 e4 ?_⟩⟩
      exact give c _ pl tu _ (fun i3 wd aa bb er => ⟨i3, 0 :: aa, bb, by rw [eden, Res.bind_st er]; rfl, by rw [List.append_assoc]; rfl, rfl, by omega⟩)
    have ey : y = .int (dI mm) := ry
    subst ey
    have eq2 : den (.times x t0 t1 u1) r = (((den t1 r).pre 1 []).bind (f1 mm)).plus i1 := by rw [eden, Res.bind_of ed]
    refine ⟨_, rfl, _, _, _, _, rfl, rfl, SqT.of hpp, atI_zero, rfl, _, rfl, itF rfl ?_⟩
    refine ⟨_, rfl, _, _, _, _, rfl, rfl, SqT.of (bt4.tup _ _ hp), atI_zero, rfl, _, rfl, itF (by decide +kernel) ?_⟩
    refine ⟨by show 0 ≤ sizeLine; decide, fun g hg => ?_⟩
    have hgH : H g = none := bt4.free hg
    have kg : Kp H4 (upd H4 g (.lst [])) := Kp.new hg
    have ga : g ≠ a := fun zz => by rw [← zz, hg] at e4; cases e4
    refine ⟨_, rfl, by show 2 ≤ sizeLine; decide, fun tt htt => ?_⟩
    have kt := kg.trans (Kp.new (o := .tup [.str "is", .ref g]) htt)
    have hgt : upd (upd H4 g (.lst [])) tt (.tup [.str "is", .ref g]) g = some (.lst []) := Kp.new htt _ _ upd_same
    have bt5 := bt4.trans kt.but
    refine ⟨_, rfl, _, _, _, _, rfl, rfl, SqT.of (bt5.tup _ _ hp), atI_zero, rfl, _, rfl, itT (by decide +kernel) ?_⟩
    -- told = the reading of the start
    refine ⟨_, rfl, _, _, _, _, rfl, rfl, SqT.of (bt5.tup _ _ hp), atI_three, _, rfl, cat_one (l.pa.mono bt5.tk) (by omega) fun pv6 H6 k6 ip6 => ⟨_, rfl, _, rfl, _, rfl, ?_⟩⟩
    have k46 := kt.trans k6
    have bt6 := bt4.trans k46.but
    have ea6 := k46 _ _ e4
    have hg6 := k6 _ _ hgt
    refine ⟨(fun z => c z ∨ z = g), a, _, t1, G, r, x1, pv6, _, uv, pl ++ [1], tu, b, n4, rfl, trivial, ?_, fun v H7 n7 b7 e7 lr7 => ?_⟩
    · exact { ca := ea6, cm := .inl l.cm, av := (l.av.but bt6 (nota ea6)).more (NoT.of hg6 (fun _ z => nomatch z)), tr := r1.mono bt6.tk, ht := by omega, dp := by omega, sc := l.sc.2.1, fe := l.fe, en := (l.en.more hgH).mono bt6 (.inl l.cm), bn := by omega, pa := ip6, ta := l.ta.mono bt6.tk,
              pn := by rw [List.length_append]; show pl.length + 1 + _ ≤ _; omega, tn := by omega }
    rw [Int.sub_zero] at lr7
    have bt7 := bt6.trans b7
    have hpp7 := b7.tup _ _ (k46 _ _ hpp)
    rcases lr7.ways with ⟨pq, s9, rr, rfl, hpq, nis, give⟩ | ⟨i2, d0, pq, cv, ed2, le7, ge7, rfl, hpq, rcv⟩
    · refine ⟨_, rfl, _, _, _, _, rfl, rfl, SqT.of hpq, atI_zero, rfl, _, rfl, itF nis (itF rfl ?_)⟩
      refine ⟨_, rfl, _, _, _, _, rfl, rfl, SqT.of (bt7.tup _ _ hp), atI_zero, rfl, _, rfl, itT (by decide +kernel) ?_⟩
      refine ⟨_, rfl, _, _, _, _, rfl, rfl, SqT.of hpp7, atI_one, ?_⟩
      refine ⟨_, rfl, _, _, _, _, rfl, rfl, SqT.of hpq, atI_zero, rfl, _, rfl, itF nis (itF rfl ?_)⟩
      refine ⟨_, rfl, _, _, _, _, rfl, rfl, SqT.of hpq, atI_zero, rfl, _, rfl, itF nis ⟨0, rfl, by omega, by omega, for_range (lo := 0) (n := 0) (fun i σ H' => (∃ v9, σ = [some (.ref p), some qv, some (.ref d), some uv, some (.ref a), some (.ref pp), some (.ref g), some (.ref pq), some (.int (dI mm)), v9, none, none]) ∧ H' = H7)
        ⟨⟨none, rfl⟩, rfl⟩ (fun i σ H' hi => absurd hi (by omega)) ?_⟩⟩
      rintro σ H' ⟨⟨v9, rfl⟩, rfl⟩
      refine ⟨_, rfl, _, _, _, _, rfl, rfl, SqT.of (bt7.tup _ _ hp), atI_zero, rfl, _, rfl, itF (by decide +kernel) ?_⟩
      refine ⟨_, rfl, q _ _ n7 bt7 e7 ?_⟩
      exact give c _ pl tu _ (fun i3 wd aa bb er => ⟨i1 + i3, 1 :: aa, bb, by rw [eq2, Res.bind_st er]; rfl, by rw [List.append_assoc]; rfl, rfl, by rw [Int.natCast_add]; omega⟩)
    have eq3 : den (.times x t0 t1 u1) r = ((f1 mm d0).plus i2).plus i1 := by rw [eq2, Res.bind_of ed2]
    have fd0 : Fit k d0 := den_fit t1 l.sc.2.1 l.fe ed2
    -- too many turns
    have far : ¬ (0 ≤ dI mm ∧ dI mm ≤ 60) → 4 ≤ sizeLine ∧ ∀ pz, H7 pz = none → Q (.ref pz) (upd H7 pz (.tup [.str "stops", .str "far", qv, uv])) := fun bad => ⟨by decide, fun pz hpz => by
      have ef1 : f1 mm d0 = .stop 0 .far [] [] := by
        rw [hf1]
        exact if_neg bad
      refine q _ _ n7 (bt7.trans (Kp.new hpz).but) (Kp.new hpz _ _ e7) (.inr ⟨le7, ?_, ?_⟩)
      · rw [eq3, ef1]
        show nn - 1 + ((i1 + (i2 + 0) : Nat) : Int) ≤ n7
        omega
      · rw [eq3, ef1]
        refine ⟨pz, _, _, rfl, upd_same, ?_, ?_⟩
        · rw [List.append_nil]
          exact (l.pa.mono bt7.tk).mono (Kp.new hpz).tk
        · rw [List.append_nil]
          exact (l.ta.mono bt7.tk).mono (Kp.new hpz).tk⟩
    refine ⟨_, rfl, _, _, _, _, rfl, rfl, SqT.of hpq, atI_zero, rfl, _, rfl, itT rfl ?_⟩
    refine ⟨_, rfl, _, _, _, _, rfl, rfl, SqT.of hpp7, atI_one, _, _, rfl, rfl, _, rfl, itB (fun e1 => ?_) (fun e1 => ?_)⟩
    · have h1 := of_decide_eq_true e1
      exact itT rfl ⟨_, rfl, _, rfl, far (by omega)⟩
    have h1 := of_decide_eq_false e1
    refine ⟨_, rfl, _, _, _, _, rfl, rfl, SqT.of hpp7, atI_one, _, _, rfl, rfl, _, rfl, itB (fun e2 => ?_) (fun e2 => ?_)⟩
    · have h2 := of_decide_eq_true e2
      exact ⟨_, rfl, _, rfl, far (by omega)⟩
    have h2 := of_decide_eq_false e2
    have ok : 0 ≤ dI mm ∧ dI mm ≤ 60 := by omega
    have ef1 : f1 mm d0 = (timesR (fun d => den u1 (r.put x (a := k) d)) 0 (dI mm).toNat d0).bind fun e => .ok 1 e := by
      rw [hf1]
      exact if_pos ok
    refine ⟨_, rfl, _, _, _, _, rfl, rfl, SqT.of (bt7.tup _ _ hp), atI_zero, rfl, _, rfl, itT (by decide +kernel) ?_⟩
    refine ⟨_, rfl, _, _, _, _, rfl, rfl, SqT.of hpp7, atI_one, ?_⟩
    refine ⟨_, rfl, _, _, _, _, rfl, rfl, SqT.of hpq, atI_zero, rfl, _, rfl, itT rfl ?_⟩
    obtain ⟨d', kvs', ee, hd5, nd5, ek5⟩ := l.en.mono bt7 l.cm
    obtain rfl : d = d' := V.ref.inj ee
    have ekl5 := ek5.len
    refine ⟨_, rfl, _, rfl, _, rfl, d, kvs', rfl, hd5, fun g3 hg3 => ?_⟩
    have k3' : Kp H7 (upd H7 g3 (.lst (kvs'.map (·.2)))) := Kp.new hg3
    have na3 : g3 ≠ a := fun zz => by
      rw [← zz, hg3] at e7
      cases e7
    refine ⟨a, g3, n7, (dI mm).toNat, _, by rw [Int.toNat_of_nonneg ok.1]; rfl, k3' _ _ e7, upd_same, na3, fun y hy => ?_, by rw [List.length_map]; omega, by omega, fun n8 H8 h8 b8 e8 => ⟨_, rfl, itB (fun e => ?_) (fun e => ?_)⟩⟩
    · obtain ⟨pr, hpr, rfl⟩ := List.mem_map.mp hy
      exact (ek5.wt hpr).mono k3'
    · exact ⟨_, rfl, _, rfl, by show 4 ≤ sizeLine; decide, fun pz hpz => long H8 n8 pz ((bt7.trans k3'.but).trans b8) e8 hpz⟩
    have le8 : n8 ≤ 20000 := by
      have := of_decide_eq_false e
      omega
    have b78 : But a H7 H8 := k3'.but.trans b8
    have g7 : H7 g = some (.lst []) := b7.old _ _ ga hg6
    have g8 : H8 g = some (.lst []) := b78.old _ _ ga g7
    have h8' : n7 + ((dI mm).toNat : Int) ≤ n8 := h8
    refine ⟨_, rfl, _, _, _, _, rfl, rfl, SqT.of (b78.tup _ _ hpq), atI_zero, rfl, _, rfl, itT rfl ⟨_, rfl, dI mm, rfl, by omega, by omega, for_range (lo := 0) (n := (dI mm).toNat)
      (fun i σ H' => (∃ tb v9 v10 v11, σ = [some (.ref p), some qv, some (.ref d), some uv, some (.ref a), some (.ref pp), some (.ref g), some (.ref tb), some (.int (dI mm)), v9, v10, v11] ∧
        ∃ (acc : List V) (cv : V) (dd : D k) (n' : Nat) (ni : Int), But a H H' ∧ H' a = some (.lst [.int ni]) ∧ ni ≤ 20000 ∧ n7 + (n' : Int) ≤ ni ∧ H' g = some (.lst acc) ∧ acc.length = i ∧ H' pp = some (.tup [.str "is", .int (dI mm)]) ∧
          H' tb = some (.tup [.str "is", cv]) ∧ RepW (fun z => c z ∨ z = g) H' k cv dd ∧ Fit k dd ∧ TimesAt (fun d => den u1 (r.put x (a := k) d)) (dI mm).toNat d0 i dd n'))
      ⟨pq, none, none, none, rfl, [], cv, d0, 0, n8, bt7.trans b78, e8, le8, by omega, g8, rfl, b78.tup _ _ hpp7, b78.tup _ _ hpq, rcv.mono (b78.lk (.inl l.cm)), fd0, TimesAt.zero⟩ ?_ ?_⟩⟩
    · rintro i σ H' hi ⟨tb, v9, v10, v11, rfl, acc, cv, dd, n', ni, bt, hai, lei, gei, hgl, lacc, hpp', htb, rcv, fc, ta⟩
      refine ⟨_, rfl, _, _, _, _, rfl, rfl, SqT.of (bt.tup _ _ hp), atI_zero, rfl, _, rfl, itT (by decide +kernel) ?_⟩
      refine ⟨_, rfl, _, _, _, _, rfl, rfl, SqT.of htb, atI_one, ?_⟩
      refine ⟨_, rfl, p, _, rfl, .inr (SqT.of (bt.tup _ _ hp)), _, _, rfl, rfl, ?_⟩
      refine ⟨_, rfl, _, rfl, _, _, _, _, rfl, rfl, SqT.of (bt.tup _ _ hp), atI_last [_, _, _, _] _, _, rfl, _, rfl, cat_one (i := 2) (l.pa.mono bt.tk) (by omega) fun pv6 H6 k6 ip6 => ?_⟩
      obtain ⟨d', kvs6, ee, hd6, nd6, ek6⟩ := ((l.en.more hgH).mono bt (.inl l.cm)).kp k6
      obtain rfl : d = d' := V.ref.inj ee
      have ekl6 := ek6.len
      refine ⟨_, rfl, _, rfl, _, _, _, _, rfl, rfl, SqT.of ((bt.trans k6.but).tup _ _ hp), atI_one, _, rfl, d, kvs6, x, cv, rfl, hd6, by omega, fun g2 H7 k7 ng hg2 => ?_⟩
      refine ⟨_, rfl, _, rfl, cat_one (((l.ta.mono bt.tk).mono k6.tk).mono k7.tk) (by omega) fun uv8 H8 k8 it8 => ⟨_, rfl, ?_⟩⟩
      have k68 := (k6.trans k7).trans k8
      have b08 := bt.trans k68.but
      have hgl8 := k68 _ _ hgl
      have dep1 := t1.dep_k
      have av6 : Av (fun z => c z ∨ z = g) H6 := (l.av.but (bt.trans k6.but) (nota (k6 _ _ hai))).more (NoT.of (k6 _ _ hgl) (fun _ z => nomatch z))
      refine ⟨(fun z => c z ∨ z = g), a, k, u1, G.put x k, r.put x dd, x2, pv6, .ref g2, uv8, pl ++ [2], tu ++ [0 + (i : Int)], b + 1, ni, rfl, trivial, ?_, fun v H9 n9 b9 e9 lr9 => ?_⟩
      · exact { ca := k68 _ _ hai, cm := .inl l.cm, av := (l.av.but b08 (nota (k68 _ _ hai))).more (NoT.of hgl8 (fun _ z => nomatch z)), tr := r2.mono b08.tk, ht := by omega, dp := by omega, sc := l.sc.2.2, fe := l.fe.put x fc,
                en := ⟨g2, _, rfl, k8 _ _ hg2, av6.new ng, (ek6.put x (rcv.mono k6.lk) (by omega) fc).mono (k7.trans k8).lk⟩, bn := by omega, pa := (ip6.mono k7.tk).mono k8.tk, ta := it8,
                pn := by rw [List.length_append]; show pl.length + 1 + _ ≤ _; omega, tn := by rw [List.length_append]; show tu.length + 1 + _ ≤ _; omega }
      rw [Int.sub_zero] at lr9
      have bt9 := b08.trans b9
      rcases lr9.ways with ⟨pz, s9, rr, rfl, hpz, nis, give⟩ | ⟨i3, d3, pz, z, ed3, le9, ge9, rfl, hpz, rz⟩
      · refine ⟨_, rfl, _, _, _, _, rfl, rfl, SqT.of hpz, atI_zero, rfl, _, rfl, itT (not_is nis) ⟨_, rfl, q _ _ n9 bt9 e9 ?_⟩⟩
        exact give c _ pl tu _ (fun i4 wd aa bb er => ⟨i1 + (i2 + (n' + i4)), 2 :: aa, (i : Int) :: bb, by rw [eq3, ef1, ta.stop hi er]; rfl, by rw [List.append_assoc]; rfl, by rw [List.append_assoc, Int.zero_add]; rfl, by rw [Int.natCast_add, Int.natCast_add, Int.natCast_add]; omega⟩)
      · refine ⟨_, rfl, _, _, _, _, rfl, rfl, SqT.of hpz, atI_zero, rfl, _, rfl, itF rfl ?_⟩
        have hgl9 : H9 g = some (.lst acc) := b9.old _ _ ga hgl8
        refine ⟨_, rfl, .inl ⟨rfl, _, SqL.of hgl9⟩, _, rfl, _, _, _, _, rfl, rfl, SqT.of hpz, atI_one, g, acc, z, rfl, rfl, hgl9, line_lt (by omega), ?_⟩
        have lk : Lk (fun z => c z ∨ z = g) H9 (upd H9 g (.lst (acc ++ [z]))) := Lk.at (.inr rfl) (NoT.of hgl9 (fun _ z => nomatch z))
        have hpp9 := b9.tup _ _ (k68 _ _ hpp')
        exact ⟨pz, _, _, _, rfl, acc ++ [z], z, d3, n' + i3, n9, bt9.put hgH, by rw [upd_ne (Ne.symm ga)]; exact e9, le9, by rw [Int.natCast_add]; omega, upd_same, by rw [List.length_append, lacc]; rfl, lk.tup _ _ hpp9, lk.tup _ _ hpz, rz.mono lk, den_fit u1 l.sc.2.2 (l.fe.put x fc) ed3, ta.ok hi ed3⟩
    · rintro σ H' ⟨tb, v9, v10, v11, rfl, acc, cv, dd, n', ni, bt, hai, lei, gei, hgl, lacc, hpp', htb, rcv, fc, ta⟩
      have efin := ta.fin
      have eq4 : den (.times x t0 t1 u1) r = .ok (i1 + (i2 + (n' + 1))) dd := by
        rw [eq3, ef1, efin]
        rfl
      refine ⟨_, rfl, _, _, _, _, rfl, rfl, SqT.of (bt.tup _ _ hp), atI_zero, rfl, _, rfl, itF (by decide +kernel) ?_⟩
      refine ⟨_, rfl, q _ _ ni bt hai (.inr ⟨lei, ?_, ?_⟩)⟩
      · rw [eq4]
        show nn - 1 + ((i1 + (i2 + (n' + 1)) : Nat) : Int) ≤ ni
        omega
      · rw [eq4]
        exact ⟨tb, cv, rfl, htb, rcv.less⟩
end
end Br
/-! The law's drawing: cells, kinds, numbers, sizes. -/
namespace Br
open PySem L2
open PySem.Spec PyProof.Rows
/-- the state of the drawing -/
def StAt (K : PySem.W.Frag) (sc : Addr) (H : Hp) (s : Addr) (at_ nm : Nat) : Prop := ∃ (kvs : List (Key × V)) (cells : List Int), H s = some (.dK kvs) ∧ kvs.length ≤ 3 ∧ valV kvs (Sum.inr "script") = some (.ref sc) ∧ valV kvs (Sum.inr "at") = some (.int (at_ : Int)) ∧
  valV kvs (Sum.inr "names") = some (.int (nm : Int)) ∧ SqL K H sc (cells.map V.int)
theorem SqL.but {K : PySem.W.Frag} {H H' : Hp} {s a : Addr} {xs : List V} {kvs : List (Key × V)} (q : SqL K H a xs) (b : But s H H') (e : H s = some (.dK kvs)) : SqL K H' a xs := by
  rcases q with q | q
  · rcases q with q | ⟨o, q⟩
    · exact .inl (.inl (b.old _ _ (fun z => by rw [z, e] at q; cases q) q))
    · exact .inl (.inr ⟨o, b.old _ _ (fun z => by rw [z, e] at q; cases q) q⟩)
  · exact .inr q
theorem SqL.kp {K : PySem.W.Frag} {H H' : Hp} {a : Addr} {xs : List V} (q : SqL K H a xs) (b : Kp H H') : SqL K H' a xs := by
  rcases q with q | q
  · rcases q with q | ⟨o, q⟩
    · exact .inl (.inl (b _ _ q))
    · exact .inl (.inr ⟨o, b _ _ q⟩)
  · exact .inr q
theorem StAt.kp {K : PySem.W.Frag} {sc : Addr} {H H' : Hp} {s : Addr} {n m : Nat} (h : StAt K sc H s n m) (k : Kp H H') : StAt K sc H' s n m := by
  obtain ⟨kvs, cells, h1, h2, h3, h4, h5, h6⟩ := h
  exact ⟨kvs, cells, k _ _ h1, h2, h3, h4, h5, SqL.kp h6 k⟩
theorem StAt.not {K : PySem.W.Frag} {sc : Addr} {H : Hp} {s : Addr} {n m : Nat} (h : StAt K sc H s n m) : NoT H s := by
  obtain ⟨kvs, cells, h1, _⟩ := h
  exact NoT.of h1 (fun _ z => nomatch z)
theorem putK_len_eq {kvs : List (Key × V)} {k : Key} {v x : V} (h : valV kvs k = some x) : (putK kvs k v).length = kvs.length := by
  unfold putK
  have a : (kvs.any fun kv => decide (kv.1 = k)) = true := by rw [valV_any, h]; rfl
  rw [if_pos a, List.length_map]
/-- the state's at or names is set -/
theorem StAt.set {K : PySem.W.Frag} {H : Hp} {s : Addr} {n m : Nat} {kvs : List (Key × V)} {sc : Addr} {cells : List Int} (h1 : H s = some (.dK kvs)) (h2 : kvs.length ≤ 3) (h3 : valV kvs (Sum.inr "script") = some (.ref sc)) (h4 : valV kvs (Sum.inr "at") = some (.int (n : Int)))
    (h5 : valV kvs (Sum.inr "names") = some (.int (m : Int))) (h6 : SqL K H sc (cells.map V.int)) : (∀ n' : Nat, StAt K sc (upd H s (.dK (putK kvs (Sum.inr "at") (.int (n' : Int))))) s n' m) ∧ (∀ m' : Nat, StAt K sc (upd H s (.dK (putK kvs (Sum.inr "names") (.int (m' : Int))))) s n m') := by
  have b : ∀ o, But s H (upd H s o) := fun o => But.at (NoT.of h1 (fun _ z => nomatch z))
  refine ⟨fun n' => ⟨_, cells, upd_same, by rw [putK_len_eq h4]; exact h2, ?_, ?_, ?_, SqL.but h6 (b _) h1⟩, fun m' => ⟨_, cells, upd_same, by rw [putK_len_eq h5]; exact h2, ?_, ?_, ?_, SqL.but h6 (b _) h1⟩⟩
  · rw [valV_put, if_neg (by decide +kernel)]
    exact h3
  · rw [valV_put, if_pos rfl]
  · rw [valV_put, if_neg (by decide +kernel)]
    exact h5
  · rw [valV_put, if_neg (by decide +kernel)]
    exact h3
  · rw [valV_put, if_neg (by decide +kernel)]
    exact h4
  · rw [valV_put, if_pos rfl]
def spCellL (K : PySem.W.Frag) (sc : Addr) : Sp := fun vs H Q _ => ∃ s n m, vs = [.ref s] ∧ StAt K sc H s n m ∧ ∀ z H', But s H H' → StAt K sc H' s (n + 1) m → Q (.int z) H'
def spKind (n : Nat) : Sp := fun vs H Q _ => ∃ (z : Int) (m : Nat), vs = [.int z, .int (m : Int)] ∧ m < n ∧ ∀ k v H', Kp H H' → KindAt H' v k → k.depth ≤ m + 1 → Q v H'
def spDepth (n : Nat) : Sp := fun vs H Q _ => ∃ k v, vs = [v] ∧ KindAt H v k ∧ k.depth ≤ n ∧ ∀ H', Kp H H' → Q (.int (k.depth : Int)) H'
def spNumber : Sp := fun vs H Q _ => ∃ z : Int, vs = [.int z] ∧ ∀ (y : Int) H', Kp H H' → 0 ≤ y → y ≤ bnd → Q (.int y) H'
def spStart : Sp := fun vs H Q _ => ∃ k t p hd cs, vs = [.ref p] ∧ H p = some (.tup (hd ++ cs)) ∧ HdAt (t : T k) hd ∧ KidsAt H cs t.kids ∧ ∀ H', Kp H H' → Q (.int (hd.length : Int)) H'
def spMany (n : Nat) : Sp := fun vs H Q _ => ∃ k t v, vs = [v] ∧ TreeAt H v (t : T k) ∧ t.ht ≤ n ∧ ∀ H', Kp H H' → Q (.int (t.size : Int)) H'
def kkids : Kd → List Kd
  | .num => []
  | .truth => []
  | .pair a b => [a, b]
  | .row a => [a]
theorem KindAt.view {H : Hp} {v : V} {k : Kd} (h : KindAt H v k) : ∃ p s cs, v = .ref p ∧ H p = some (.tup (.str s :: cs)) ∧ Paired (fun v k => KindAt H v k) cs (kkids k) := by
  cases k with
  | num => obtain ⟨p, e, z⟩ := h; exact ⟨p, _, [], e, z, .nil⟩
  | truth => obtain ⟨p, e, z⟩ := h; exact ⟨p, _, [], e, z, .nil⟩
  | pair a b => obtain ⟨p, x, y, e, z, r1, r2⟩ := h; exact ⟨p, _, [x, y], e, z, .cons r1 (.cons r2 .nil)⟩
  | row a => obtain ⟨p, x, e, z, r1⟩ := h; exact ⟨p, _, [x], e, z, .cons r1 .nil⟩
theorem kids_three {k : Kd} (t : T k) : t.kids.length ≤ 3 := by cases t <;> simp [T.kids]
theorem kdep {k k' : Kd} (h : k' ∈ kkids k) : k'.depth + 1 ≤ k.depth := by
  cases k <;> simp only [kkids, List.mem_cons, List.not_mem_nil, or_false] at h
  case pair => rcases h with rfl | rfl <;> simp only [Kd.depth] <;> omega
  case row =>
    subst h
    simp only [Kd.depth]
    omega
theorem kdep_max {k : Kd} {m : Int} (hm : m ∈ (0 : Int) :: (kkids k).map fun j => (j.depth : Int)) (hle : ∀ y ∈ (0 : Int) :: (kkids k).map fun j => (j.depth : Int), y ≤ m) : 1 + m = (k.depth : Int) := by
  cases k with
  | num => simp [kkids] at hm; subst hm; rfl
  | truth => simp [kkids] at hm; subst hm; rfl
  | row a =>
    simp [kkids] at hm hle
    have : (Kd.row a).depth = 1 + a.depth := rfl
    omega
  | pair a b =>
    simp [kkids] at hm hle
    have : (Kd.pair a b).depth = 1 + max a.depth b.depth := rfl
    omega
theorem atI_int {ns : List Int} {j : Int} (h0 : 0 ≤ j) (h1 : j < ns.length) : ∃ z ∈ ns, atI (ns.map V.int) j = some (.int z) := by
  have hl : j.toNat < ns.length := by omega
  refine ⟨ns[j.toNat], List.getElem_mem hl, ?_⟩
  have z := atI_nat (xs := ns.map V.int) (j := j.toNat) (v := .int ns[j.toNat]) (by rw [List.getElem?_map, List.getElem?_eq_getElem hl]; rfl)
  rw [show ((j.toNat : Nat) : Int) = j by omega] at z
  exact z
theorem cutV_app (hd cs : List V) : cutV (hd ++ cs) (some ((hd.length : Nat) : Int)) none = cs := by
  unfold cutV
  rw [HT.sIx_nat, HT.sIx_none, List.length_append, Nat.min_eq_left (by omega), Nat.add_sub_cancel_left, List.drop_left]
  exact List.take_length
theorem sIx_app {hd cs : List V} (h : hd ≠ []) : ¬ (HT.sIx (hd ++ cs).length 0 (some ((hd.length : Nat) : Int)) = 0 ∧ HT.sIx (hd ++ cs).length (hd ++ cs).length none = (hd ++ cs).length) := fun z => by
  have := z.1
  rw [HT.sIx_nat, List.length_append] at this
  have l : hd.length ≠ 0 := fun e => h (List.length_eq_zero_iff.mp e)
  omega
section
variable {P : Program} {w : World} {K : PySem.W.Frag} {mg : Str → Option Value} {base : Heap} {aC aB f sc : Addr} {fd : FuncData}
theorem dget {H : Hp} {s : Addr} {kvs : List (Key × V)} {x : Str} {v : V} (h : H s = some (.dK kvs)) (e : valV kvs (Sum.inr x) = some v) : DGet H s (.str x) (some v) := by
  have := DGet.k (k := Sum.inr x) h
  rw [e] at this
  exact this
theorem fn_law_cell (T : Tp K mg aC aB) (F : At K mg "_law_cell" s_law_cell p_law_cell f fd) : Fn P w K mg base 1 "_law_cell" (spCellL K sc) := by
  refine fn_by F sc_law_cell ?_ (fun cdv A outer s0 H vs Q E hr h => ?_)
  · rintro vs H Q E ⟨s, n, m, rfl, _⟩
    rfl
  obtain ⟨s, n, m, rfl, ⟨kvs, cells, h1, h2, h3, h4, h5, h6⟩, q⟩ := h
  refine ⟨_, (pss_cons (ps_dput (hu_of hr) (pv 0) (pe_str) (pe_op op_add (pe_dget (hu_of hr) (pv 0) (pe_str) (fun _ _ => rfl)) (pe_int)) rfl)
  (pss_one (ps_ret (pe_ifExp (pt_cmpR op_le (pe_dget (hu_of hr) (pv 0) (pe_str) (fun _ _ => rfl)) (pe_callB (k_len K rfl) (by rfl) T.len (by decide +kernel) (pa_cons (pe_dget (hu_of hr) (pv 0) (pe_str) (fun _ _ => rfl)) pa_nil)) (nomark _)) (pe_ix (k_ixl K rfl) (pe_dget (hu_of hr) (pv 0) (pe_str) (fun _ _ => rfl)) (pe_op op_sub (pe_dget (hu_of hr) (pv 0) (pe_str) (fun _ _ => rfl)) (pe_int)) (fun _ _ => rfl)) (pe_int))))), ?_⟩
  have st := (StAt.set h1 h2 h3 h4 h5 h6).1 (n + 1)
  have bt : But s H (upd H s (.dK (putK kvs (Sum.inr "at") (.int ((n + 1 : Nat) : Int))))) := But.at (NoT.of h1 (fun _ z => nomatch z))
  have v3 : valV (putK kvs (Sum.inr "at") (.int ((n + 1 : Nat) : Int))) (Sum.inr "script") = some (.ref sc) := by
    rw [valV_put, if_neg (by decide +kernel)]
    exact h3
  have v4 : valV (putK kvs (Sum.inr "at") (.int ((n + 1 : Nat) : Int))) (Sum.inr "at") = some (.int ((n + 1 : Nat) : Int)) := by rw [valV_put, if_pos rfl]
  have h6' := SqL.but h6 bt h1
  refine ⟨_, rfl, s, _, rfl, dget h1 h4, _, _, rfl, rfl, _, rfl, s, _, rfl, DPut.k (k := Sum.inr "at") h1 (line_lt (by omega)), ?_⟩
  refine ⟨_, rfl, s, _, rfl, dget upd_same v4, _, rfl, s, _, rfl, dget upd_same v3, sc, _, rfl, .inl h6', _, _, rfl, rfl, _, rfl, itB (fun e => ?_) (fun e => ?_)⟩
  · have e1 := of_decide_eq_true e
    rw [List.length_map] at e1
    have hl : n < cells.length := by omega
    refine ⟨_, rfl, s, _, rfl, dget upd_same v3, _, rfl, s, _, rfl, dget upd_same v4, _, _, rfl, rfl, sc, _, _, .int cells[n], rfl, rfl, h6', ?_, q _ _ bt st⟩
    have z := atI_nat (xs := cells.map V.int) (j := n) (v := .int cells[n]) (by rw [List.getElem?_map, List.getElem?_eq_getElem hl]; rfl)
    rw [show (((n + 1 : Nat) : Int) - 1) = (n : Int) by omega]
    exact z
  · exact q 0 _ bt st
theorem fn_law_depth (T : Tp K mg aC aB) (F : At K mg "_law_depth" s_law_depth p_law_depth f fd) : ∀ n, Fn P w K mg base n "_law_depth" (spDepth n) → Fn P w K mg base (n + 1) "_law_depth" (spDepth (n + 1)) := by
  intro n c_law_depth
  refine fn_by F sc_law_depth ?_ (fun cdv A outer s H vs Q E hr h => ?_)
  · rintro vs H Q E ⟨k, v, rfl, _⟩
    rfl
  obtain ⟨k, v, rfl, hk, hd, q⟩ := h
  obtain ⟨p, sg, cs, rfl, hp, kk⟩ := hk.view
  refine ⟨_, (pss_one (ps_ret (pe_op op_add (pe_int) (pe_callB (k_max K rfl rfl) (by rfl) T.max (by decide +kernel) (pa_cons (pe_op op_cat (pe_lst (pa_cons (pe_int) pa_nil)) (pe_lc (own := [("part", 1)]) rfl sc_law_depth.nd (k_pit K rfl (pe_slice (k_slt K rfl) (pv 0) (po_some (pe_int)) po_none)) (blkOk_by (own := [("part", 1)]) (by rfl)) (fun _ _ _ _ _ => (pg_name (i := 1) sc_law_depth.nd rfl (by first | exact Or.inl rfl | exact Or.inr rfl))) (fun _ _ _ _ _ => pts_nil) (fun _ _ _ _ _ => (pe_fn c_law_depth hr (by omega) (by rfl) (pa_cons (pv 1) pa_nil))))) pa_nil))))), ?_⟩
  refine ⟨by show 1 ≤ sizeLine; decide, fun l hl => ?_⟩
  have k1 : Kp H (upd H l (.lst [.int 0])) := Kp.new hl
  have lk : (kkids k).length ≤ 2 := by cases k <;> simp [kkids]
  refine ⟨_, rfl, _, rfl, p, _, rfl, SqT.of (k1 _ _ hp), fun z => absurd z (sIx_one _ _), fun _ g hg => ?_⟩
  have k2 := k1.trans (Kp.new (o := .tup (cutV (.str sg :: cs) (some 1) none)) hg)
  have hg2 : upd (upd H l (.lst [.int 0])) g (.tup (cutV (.str sg :: cs) (some 1) none)) g = some (.tup cs) := by rw [upd_same, cutV_one]
  refine ⟨g, rfl, ⟨_, SqT.of hg2⟩, fun D hD => lc_tup (K := K) (a := g) (xs := cs) (fun i H' => Kp H H' ∧ H' g = some (.tup cs) ∧ H' l = some (.lst [.int 0]) ∧ H' D = some (.lst ((((kkids k).take i).map fun j => (j.depth : Int)).map V.int)))
    ⟨k2.trans (Kp.new hD), Kp.new hD _ _ hg2, Kp.new hD _ _ (Kp.new hg _ _ upd_same), upd_same⟩ (fun i H' _ pv => SqT.of pv.2.1) ?_ ?_⟩
  · rintro i y H' hi ⟨kp, hgc, hlc, hDc⟩
    obtain ⟨j, hj, rj⟩ := Paired.at kk hi
    have dj := kdep (List.mem_of_getElem? hj)
    have ij : i < (kkids k).length := (List.getElem?_eq_some_iff.mp hj).1
    refine ⟨rfl, itY <| itT rfl ⟨_, rfl, j, y, rfl, rj.mono kp.tk, by omega, fun H2 k3 => ⟨_, k3 _ _ hDc, line_lt (by rw [List.length_map, List.length_map, List.length_take]; omega), (kp.trans k3).put (k2.free hD), ?_, ?_, ?_⟩⟩⟩
    · rw [upd_ne (fun z => by rw [← z, hg2] at hD; cases hD)]
      exact k3 _ _ hgc
    · rw [upd_ne (fun z => by rw [← z, Kp.new hg _ _ upd_same] at hD; cases hD)]
      exact k3 _ _ hlc
    · rw [upd_same, take_more hj, List.map_append, List.map_append]
      rfl
  · rintro H' ⟨kp, hgc, hlc, hDc⟩
    rw [Paired.len kk, List.take_length] at hDc
    refine ⟨l, D, _, _, rfl, rfl, hlc, hDc, line_le (by rw [List.length_map, List.length_map]; show 1 + _ ≤ _; omega), fun g3 hg3 => ?_⟩
    have e3 : upd H' g3 (.lst ([.int 0] ++ ((kkids k).map fun j => (j.depth : Int)).map V.int)) g3 = some (.lst (((0 : Int) :: (kkids k).map fun j => (j.depth : Int)).map V.int)) := upd_same
    refine ⟨g3, _, rfl, SqL.of e3, Nat.succ_pos _, fun m hm hle => ⟨_, _, rfl, rfl, ?_⟩⟩
    have e := kdep_max hm hle
    show Q (.int (1 + m)) _
    rw [e]
    exact q _ (kp.trans (Kp.new hg3))
theorem fn_law_number (T : Tp K mg aC aB) (F : At K mg "_law_number" s_law_number p_law_number f fd) : Fn P w K mg base 1 "_law_number" spNumber := by
  refine fn_by F sc_law_number ?_ (fun cdv A outer s H vs Q E hr h => ?_)
  · rintro vs H Q E ⟨z, rfl, _⟩
    rfl
  obtain ⟨z, rfl, q⟩ := h
  refine ⟨_, (pss_cons (ps_set (i := 1) sc_law_number.nd rfl (by first | exact Or.inl rfl | exact Or.inr rfl) (pe_lst (pa_cons (pe_int) (pa_cons (pe_int) (pa_cons (pe_int) (pa_cons (pe_int) (pa_cons (pe_int) (pa_cons (pe_int) (pa_cons (pe_int) (pa_cons (pe_int) (pa_cons (pe_int) (pa_cons (pe_int) (pa_cons (pe_int) (pa_cons (pe_int) (pa_cons (pe_int) (pa_cons (pe_int) (pa_cons (pe_int) (pa_cons (pe_int) (pa_cons (pe_op op_pow (pe_int) (pe_int)) (pa_cons (pe_op op_sub (pe_op op_pow (pe_int) (pe_int)) (pe_int)) pa_nil))))))))))))))))))))
  (pss_cons (ps_set (i := 1) sc_law_number.nd rfl (by first | exact Or.inl rfl | exact Or.inr rfl) (pe_op op_cat (pv 1) (pe_lst (pa_cons (pe_op op_mul (pe_int) (pe_op op_pow (pe_int) (pe_int))) (pa_cons (pe_op op_pow (pe_int) (pe_int)) pa_nil)))))
  (pss_one (ps_ret (pe_ix (k_ixl K rfl) (pv 1) (pe_ifExp (pt_cmpR op_gt (pe_op op_mod (pe_op op_fdiv (pv 0) (pe_int)) (pe_int)) (pe_int) (nomark _)) (pe_op op_mod (pv 0) (pe_int)) (pe_op op_mod (pe_op op_fdiv (pv 0) (pe_int)) (pe_int))) (fun _ _ => rfl)))))), ?_⟩
  have cp : ∀ j : Int, 0 ≤ j → j ≤ 18 → CPow 10 j := fun j h0 h1 => ⟨h0, by omega, by decide⟩
  refine ⟨_, _, rfl, rfl, cpow18, _, _, rfl, rfl, cpow18, _, _, rfl, rfl, by show 18 ≤ sizeLine; decide, fun l hl => ?_⟩
  refine ⟨_, rfl, _, _, rfl, rfl, cp 17 (by decide) (by decide), _, _, rfl, rfl, .inl ⟨by decide, by decide⟩, _, _, rfl, rfl, cp 9 (by decide) (by decide), by show 2 ≤ sizeLine; decide, fun l2 hl2 => ⟨l, l2, _, _, rfl, rfl, Kp.new hl2 _ _ upd_same, upd_same, by decide, fun l3 hl3 => ?_⟩⟩
  obtain ⟨ns, e, len, hb⟩ : ∃ ns : List Int, ([V.int 0, .int 1, .int 2, .int 3, .int 1, .int 2, .int 5, .int 4, .int 3, .int 2, .int 7, .int 1, .int 60, .int 61, .int 200, .int 201, .int ((10 : Int) ^ (18 : Int).toNat), .int ((10 : Int) ^ (18 : Int).toNat - 1)] ++ [.int (9 * (10 : Int) ^ (17 : Int).toNat), .int ((10 : Int) ^ (9 : Int).toNat)]) = ns.map V.int ∧ ns.length = 20 ∧ ∀ z ∈ ns, 0 ≤ z ∧ z ≤ bnd :=
    ⟨[0, 1, 2, 3, 1, 2, 5, 4, 3, 2, 7, 1, 60, 61, 200, 201, (10 : Int) ^ (18 : Int).toNat, (10 : Int) ^ (18 : Int).toNat - 1, 9 * (10 : Int) ^ (17 : Int).toNat, (10 : Int) ^ (9 : Int).toNat], rfl, rfl, by decide⟩
  have K3 := ((Kp.new (o := .lst _) hl).trans (Kp.new (o := .lst _) hl2)).trans (Kp.new (o := .lst (ns.map V.int)) hl3)
  rw [← e] at K3
  have fin : ∀ j : Int, 0 ≤ j → j < 20 → ∃ v, atI (ns.map V.int) j = some v ∧ Q v _ := fun j h0 h1 => by
    obtain ⟨y, hy, ey⟩ := atI_int (ns := ns) h0 (by omega)
    exact ⟨_, ey, q y _ K3 (hb y hy).1 (hb y hy).2⟩
  refine ⟨_, rfl, _, rfl, _, _, rfl, rfl, ⟨by decide, by decide⟩, _, _, rfl, rfl, (by show (0 : Int) < 4; decide), _, _, rfl, rfl, _, rfl, itB (fun e1 => ?_) (fun e1 => ?_)⟩
  · obtain ⟨v, ev, qv⟩ := fin (z % 12) (by omega) (by omega)
    rw [← e] at ev
    exact ⟨_, rfl, _, _, rfl, rfl, (by show (0 : Int) < 12; decide), l3, _, _, v, rfl, rfl, SqL.of upd_same, ev, qv⟩
  · obtain ⟨v, ev, qv⟩ := fin (z / 48 % 20) (by omega) (by omega)
    rw [← e] at ev
    exact ⟨_, rfl, _, _, rfl, rfl, ⟨by decide, by decide⟩, _, _, rfl, rfl, (by show (0 : Int) < 20; decide), l3, _, _, v, rfl, rfl, SqL.of upd_same, ev, qv⟩
theorem fn_law_start (T : Tp K mg aC aB) (F : At K mg "_law_start" s_law_start p_law_start f fd) : Fn P w K mg base 1 "_law_start" spStart := by
  refine fn_by F sc_law_start ?_ (fun cdv A outer s H vs Q E hr h => ?_)
  · rintro vs H Q E ⟨k, t, p, hd, cs, rfl, _⟩
    rfl
  obtain ⟨k, t, p, hd, cs, rfl, hp, hh, kk, q⟩ := h
  refine ⟨_, (pss_cons (ps_if (pt_cmpR (k_in K rfl) (pe_ix (k_ixt K rfl) (pv 0) (pe_int) (fun _ _ => rfl)) (pe_tup (pa_cons (pe_str) (pa_cons (pe_str) (pa_cons (pe_str) pa_nil)))) rfl) (pss_one (ps_ret (pe_callB (k_len K rfl) (by rfl) T.len (by decide +kernel) (pa_cons (pv 0) pa_nil)))) pss_nil)
  (pss_one (ps_ret (pe_op op_add (pe_int) (pe_callTy call_int1 (by rfl) T.int (by decide +kernel) (pa_cons (pe_cmpR (k_in K rfl) (pe_ix (k_ixt K rfl) (pv 0) (pe_int) (fun _ _ => rfl)) (pe_tup (pa_cons (pe_str) (pa_cons (pe_str) (pa_cons (pe_str) pa_nil)))) rfl) pa_nil)))))), ?_⟩
  cases hh with
  | num n =>
    cases kk
    exact ⟨_, rfl, _, _, _, _, rfl, rfl, SqT.of hp, atI_zero, by show 3 ≤ sizeLine; decide, fun g hg => ⟨g, _, rfl, .inr (SqT.of upd_same), rfl, rfl, _, rfl, itT (by decide +kernel) ⟨_, rfl, p, _, rfl, .inr (SqT.of (Kp.new hg _ _ hp)), q _ (Kp.new hg)⟩⟩⟩
  | name k x =>
    cases kk
    exact ⟨_, rfl, _, _, _, _, rfl, rfl, SqT.of hp, atI_zero, by show 3 ≤ sizeLine; decide, fun g hg => ⟨g, _, rfl, .inr (SqT.of upd_same), rfl, rfl, _, rfl, itT (by decide +kernel) ⟨_, rfl, p, _, rfl, .inr (SqT.of (Kp.new hg _ _ hp)), q _ (Kp.new hg)⟩⟩⟩
  | none a z =>
    cases kk
    exact ⟨_, rfl, _, _, _, _, rfl, rfl, SqT.of hp, atI_zero, by show 3 ≤ sizeLine; decide, fun g hg => ⟨g, _, rfl, .inr (SqT.of upd_same), rfl, rfl, _, rfl, itT (by decide +kernel) ⟨_, rfl, p, _, rfl, .inr (SqT.of (Kp.new hg _ _ hp)), q _ (Kp.new hg)⟩⟩⟩
  | plain hs nn nb =>
    refine ⟨_, rfl, _, _, _, _, rfl, rfl, SqT.of hp, atI_zero, by show 3 ≤ sizeLine; decide, fun g hg => ⟨g, _, rfl, .inr (SqT.of upd_same), rfl, rfl, _, rfl, itF hs.1 ?_⟩⟩
    have k1 := Kp.new (o := .tup [.str "num", .str "name", .str "none"]) hg
    refine ⟨_, rfl, _, _, _, _, rfl, rfl, SqT.of (k1 _ _ hp), atI_zero, by show 3 ≤ sizeLine; decide, fun g2 hg2 => ⟨g2, _, rfl, .inr (SqT.of upd_same), rfl, rfl, .inr ⟨false, ?_, _, _, rfl, rfl, q _ (k1.trans (Kp.new hg2))⟩⟩⟩
    exact congrArg (fun b => [V.bl b]) hs.2
  | lt x t u =>
    refine ⟨_, rfl, _, _, _, _, rfl, rfl, SqT.of hp, atI_zero, by show 3 ≤ sizeLine; decide, fun g hg => ⟨g, _, rfl, .inr (SqT.of upd_same), rfl, rfl, _, rfl, itF (by decide +kernel) ?_⟩⟩
    have k1 := Kp.new (o := .tup [.str "num", .str "name", .str "none"]) hg
    refine ⟨_, rfl, _, _, _, _, rfl, rfl, SqT.of (k1 _ _ hp), atI_zero, by show 3 ≤ sizeLine; decide, fun g2 hg2 => ⟨g2, _, rfl, .inr (SqT.of upd_same), rfl, rfl, .inr ⟨true, rfl, _, _, rfl, rfl, q _ (k1.trans (Kp.new hg2))⟩⟩⟩
  | each x t u =>
    refine ⟨_, rfl, _, _, _, _, rfl, rfl, SqT.of hp, atI_zero, by show 3 ≤ sizeLine; decide, fun g hg => ⟨g, _, rfl, .inr (SqT.of upd_same), rfl, rfl, _, rfl, itF (by decide +kernel) ?_⟩⟩
    have k1 := Kp.new (o := .tup [.str "num", .str "name", .str "none"]) hg
    refine ⟨_, rfl, _, _, _, _, rfl, rfl, SqT.of (k1 _ _ hp), atI_zero, by show 3 ≤ sizeLine; decide, fun g2 hg2 => ⟨g2, _, rfl, .inr (SqT.of upd_same), rfl, rfl, .inr ⟨true, rfl, _, _, rfl, rfl, q _ (k1.trans (Kp.new hg2))⟩⟩⟩
  | times x n t u =>
    refine ⟨_, rfl, _, _, _, _, rfl, rfl, SqT.of hp, atI_zero, by show 3 ≤ sizeLine; decide, fun g hg => ⟨g, _, rfl, .inr (SqT.of upd_same), rfl, rfl, _, rfl, itF (by decide +kernel) ?_⟩⟩
    have k1 := Kp.new (o := .tup [.str "num", .str "name", .str "none"]) hg
    refine ⟨_, rfl, _, _, _, _, rfl, rfl, SqT.of (k1 _ _ hp), atI_zero, by show 3 ≤ sizeLine; decide, fun g2 hg2 => ⟨g2, _, rfl, .inr (SqT.of upd_same), rfl, rfl, .inr ⟨true, rfl, _, _, rfl, rfl, q _ (k1.trans (Kp.new hg2))⟩⟩⟩
theorem HdAt.ne {k : Kd} {t : T k} {hd : List V} (h : HdAt t hd) : hd ≠ [] := by cases h <;> simp
theorem fn_law_many (T : Tp K mg aC aB) (F : At K mg "_law_many" s_law_many p_law_many f fd) (c_law_start : Fn P w K mg base 1 "_law_start" spStart) : ∀ n, Fn P w K mg base (n + 1) "_law_many" (spMany n) := by
  intro n
  induction n with
  | zero =>
    refine fn_by F sc_law_many ?_ (fun cdv A outer s H vs Q E hr h => ?_)
    · rintro vs H Q E ⟨k, t, v, rfl, _⟩
      rfl
    obtain ⟨k, t, v, rfl, ht, hn, _⟩ := h
    exact absurd hn (by have := t.ht_pos; omega)
  | succ n c_law_many =>
  refine fn_by F sc_law_many ?_ (fun cdv A outer s H vs Q E hr h => ?_)
  · rintro vs H Q E ⟨k, t, v, rfl, _⟩
    rfl
  obtain ⟨k, t, v, rfl, ht, hn, q⟩ := h
  obtain ⟨p, hd, cs, rfl, hp, hh, kk⟩ := ht.view
  refine ⟨_, (pss_one (ps_ret (pe_op op_add (pe_int) (pe_callB (k_sum K rfl rfl) (by rfl) T.sum (by decide +kernel) (pa_cons (pe_lc (own := [("part", 1)]) rfl sc_law_many.nd (k_pit K rfl (pe_slice (k_slt K rfl) (pv 0) (po_some (pe_fn c_law_start hr (by omega) (by rfl) (pa_cons (pv 0) pa_nil))) po_none)) (blkOk_by (own := [("part", 1)]) (by rfl)) (fun _ _ _ _ _ => (pg_name (i := 1) sc_law_many.nd rfl (by first | exact Or.inl rfl | exact Or.inr rfl))) (fun _ _ _ _ _ => pts_nil) (fun _ _ _ _ _ => (pe_fn c_law_many hr (by omega) (by rfl) (pa_cons (pv 1) pa_nil)))) pa_nil))))), ?_⟩
  have lk3 := kids_three t
  refine ⟨_, rfl, _, rfl, k, t, p, hd, cs, rfl, hp, hh, kk, fun H1 k1 => ⟨_, rfl, p, _, rfl, SqT.of (k1 _ _ hp), fun z => absurd z (sIx_app hh.ne), fun _ g hg => ?_⟩⟩
  have hg2 : upd H1 g (.tup (cutV (hd ++ cs) (some ((hd.length : Nat) : Int)) none)) g = some (.tup cs) := by rw [upd_same, cutV_app]
  have k2 := k1.trans (Kp.new (o := .tup (cutV (hd ++ cs) (some ((hd.length : Nat) : Int)) none)) hg)
  refine ⟨g, rfl, ⟨_, SqT.of hg2⟩, fun D hD => lc_tup (K := K) (a := g) (xs := cs) (fun i H' => Kp H H' ∧ H' g = some (.tup cs) ∧ H' D = some (.lst (((t.kids.take i).map fun s => (s.2.size : Int)).map V.int)))
    ⟨k2.trans (Kp.new hD), Kp.new hD _ _ hg2, upd_same⟩ (fun i H' _ pv => SqT.of pv.2.1) ?_ ?_⟩
  · rintro i y H' hi ⟨kp, hgc, hDc⟩
    obtain ⟨j, hj, rj⟩ := Paired.at kk hi
    have dj := kid_ht (List.mem_of_getElem? hj)
    have ij : i < t.kids.length := (List.getElem?_eq_some_iff.mp hj).1
    refine ⟨rfl, itY <| itT rfl ⟨_, rfl, j.1, j.2, y, rfl, rj.mono kp.tk, by omega, fun H2 k3 => ⟨_, k3 _ _ hDc, line_lt (by rw [List.length_map, List.length_map, List.length_take]; omega), (kp.trans k3).put (k2.free hD), ?_, ?_⟩⟩⟩
    · rw [upd_ne (fun z => by rw [← z, hg2] at hD; cases hD)]
      exact k3 _ _ hgc
    · rw [upd_same, take_more hj, List.map_append, List.map_append]
      rfl
  · rintro H' ⟨kp, hgc, hDc⟩
    rw [Paired.len kk, List.take_length] at hDc
    refine ⟨D, _, rfl, SqL.of hDc, _, _, rfl, rfl, ?_⟩
    have e1 : 1 + (t.kids.map fun s => (s.2.size : Int)).sum = (t.size : Int) := by
      rw [← ksz_all t]
      have e2 : ∀ l : List TT2, (l.map fun s => (s.2.size : Int)).sum = ((ksz l : Nat) : Int) := by
        intro l
        induction l with
        | nil => rfl
        | cons a l ih =>
          rw [List.map_cons, List.sum_cons, ih]
          unfold ksz
          rw [List.map_cons, List.sum_cons]
          omega
      rw [e2]
      omega
    show Q (.int (1 + _)) _
    rw [e1]
    exact q _ kp
theorem fn_law_kind (T : Tp K mg aC aB) (F : At K mg "_law_kind" s_law_kind p_law_kind f fd) : ∀ n, Fn P w K mg base (n + 1) "_law_kind" (spKind n) := by
  intro n
  induction n with
  | zero =>
    refine fn_by F sc_law_kind ?_ (fun cdv A outer s H vs Q E hr h => ?_)
    · rintro vs H Q E ⟨z, m, rfl, _⟩
      rfl
    obtain ⟨z, m, rfl, hm, _⟩ := h
    exact absurd hm (Nat.not_lt_zero _)
  | succ n c_law_kind =>
  refine fn_by F sc_law_kind ?_ (fun cdv A outer s H vs Q E hr h => ?_)
  · rintro vs H Q E ⟨z, m, rfl, _⟩
    rfl
  obtain ⟨z, m, rfl, hm, q⟩ := h
  refine ⟨_, (pss_cons (ps_set (i := 2) sc_law_kind.nd rfl (by first | exact Or.inl rfl | exact Or.inr rfl) (pe_op op_mod (pv 0) (pe_int)))
  (pss_cons (ps_if (pw_or (pt_cmpR op_eq (pv 1) (pe_int) (nomark _)) (pw_or1 (pt_cmpR op_lt (pv 2) (pe_int) (nomark _)))).pt (pss_one (ps_ret (pe_ix (k_ixl K rfl) (pe_lst (pa_cons (pe_tup (pa_cons (pe_str) pa_nil)) (pa_cons (pe_tup (pa_cons (pe_str) pa_nil)) pa_nil))) (pe_op op_mod (pv 0) (pe_int)) (fun _ _ => rfl)))) pss_nil)
  (pss_cons (ps_if (pt_cmpR op_eq (pv 2) (pe_int) (nomark _)) (pss_one (ps_ret (pe_tup (pa_cons (pe_str) (pa_cons (pe_fn c_law_kind hr (by omega) (by rfl) (pa_cons (pe_op op_fdiv (pv 0) (pe_int)) (pa_cons (pe_op op_sub (pv 1) (pe_int)) pa_nil))) (pa_cons (pe_fn c_law_kind hr (by omega) (by rfl) (pa_cons (pe_op op_fdiv (pv 0) (pe_int)) (pa_cons (pe_op op_sub (pv 1) (pe_int)) pa_nil))) pa_nil)))))) pss_nil)
  (pss_one (ps_ret (pe_tup (pa_cons (pe_str) (pa_cons (pe_fn c_law_kind hr (by omega) (by rfl) (pa_cons (pe_op op_fdiv (pv 0) (pe_int)) (pa_cons (pe_op op_sub (pv 1) (pe_int)) pa_nil))) pa_nil)))))))), ?_⟩
  have retc : ∀ a, H a = none → ∀ b, (upd H a (.tup [.str "num"])) b = none → ∀ l, (upd (upd H a (.tup [.str "num"])) b (.tup [.str "truth"])) l = none →
      ∃ v, atI [V.ref a, V.ref b] (z % 2) = some v ∧ Q v (upd (upd (upd H a (.tup [.str "num"])) b (.tup [.str "truth"])) l (.lst [.ref a, .ref b])) := by
    intro a ha b hb l hl
    have k1 := ((Kp.new (o := .tup [.str "num"]) ha).trans (Kp.new (o := .tup [.str "truth"]) hb)).trans (Kp.new (o := .lst [V.ref a, V.ref b]) hl)
    rcases Int.emod_two_eq z with e | e
    · rw [e]
      exact ⟨_, atI_zero, q .num _ _ k1 ⟨a, rfl, Kp.new hl _ _ (Kp.new hb _ _ upd_same)⟩ (Nat.le_add_left 1 m)⟩
    · rw [e]
      exact ⟨_, atI_one, q .truth _ _ k1 ⟨b, rfl, Kp.new hl _ _ upd_same⟩ (Nat.le_add_left 1 m)⟩
  refine ⟨_, rfl, _, _, rfl, rfl, (by show (0 : Int) < 6; decide), ?_⟩
  refine ⟨_, rfl, rfl, _, rfl, itB (fun e => itT rfl ?_) (fun e => ⟨_, rfl, _, _, rfl, rfl, _, rfl, itB (fun e2 => ?_) (fun e2 => ?_)⟩)⟩
  · refine ⟨by show 1 ≤ sizeLine; decide, fun a ha => ⟨by show 1 ≤ sizeLine; decide, fun b hb => ⟨by show 2 ≤ sizeLine; decide, fun l hl => ?_⟩⟩⟩
    obtain ⟨v, ev, qv⟩ := retc a ha b hb l hl
    exact ⟨_, rfl, _, _, rfl, rfl, (by show (0 : Int) < 2; decide), l, _, _, v, rfl, rfl, SqL.of upd_same, ev, qv⟩
  · refine ⟨by show 1 ≤ sizeLine; decide, fun a ha => ⟨by show 1 ≤ sizeLine; decide, fun b hb => ⟨by show 2 ≤ sizeLine; decide, fun l hl => ?_⟩⟩⟩
    obtain ⟨v, ev, qv⟩ := retc a ha b hb l hl
    exact ⟨_, rfl, _, _, rfl, rfl, (by show (0 : Int) < 2; decide), l, _, _, v, rfl, rfl, SqL.of upd_same, ev, qv⟩
  have m0 : m ≠ 0 := fun zz => by
    subst zz
    exact absurd e (by decide)
  obtain ⟨m', rfl⟩ := Nat.exists_eq_succ_of_ne_zero m0
  have em : ((m'.succ : Nat) : Int) - 1 = (m' : Int) := by omega
  refine ⟨_, rfl, rfl, _, rfl, itB (fun e3 => ?_) (fun e3 => ?_)⟩
  · refine ⟨_, rfl, _, _, rfl, rfl, ⟨by decide, by decide⟩, _, rfl, _, _, rfl, rfl, _, m', by show [V.int _, V.int (((m'.succ : Nat) : Int) - 1)] = _; rw [em], by omega, fun k1 v1 H1 kp1 r1 d1 => ?_⟩
    refine ⟨_, rfl, _, _, rfl, rfl, ⟨by decide, by decide⟩, _, rfl, _, _, rfl, rfl, _, m', by show [V.int _, V.int (((m'.succ : Nat) : Int) - 1)] = _; rw [em], by omega, fun k2 v2 H2 kp2 r2 d2 => ?_⟩
    refine ⟨by show 3 ≤ sizeLine; decide, fun a ha => q (.pair k1 k2) _ _ ((kp1.trans kp2).trans (Kp.new ha)) ⟨a, _, _, rfl, upd_same, r1.mono (kp2.trans (Kp.new ha)).tk, r2.mono (Kp.new ha).tk⟩ ?_⟩
    show 1 + max k1.depth k2.depth ≤ _
    omega
  · refine ⟨_, rfl, _, _, rfl, rfl, ⟨by decide, by decide⟩, _, rfl, _, _, rfl, rfl, _, m', by show [V.int _, V.int (((m'.succ : Nat) : Int) - 1)] = _; rw [em], by omega, fun k1 v1 H1 kp1 r1 d1 => ?_⟩
    refine ⟨by show 2 ≤ sizeLine; decide, fun a ha => q (.row k1) _ _ (kp1.trans (Kp.new ha)) ⟨a, _, rfl, upd_same, r1.mono (Kp.new ha).tk⟩ ?_⟩
    show 1 + k1.depth ≤ _
    omega
end
end Br
/-! The law's drawing: leaves. -/
namespace Br
open PySem L2
open PySem.Spec PyProof.Rows
theorem seqI {t u : TS} {D : Ends} {σ : L2.St} {H : Hp} (I : L2.St → Hp → Prop) (h1 : ∀ N : L2.St → Hp → Prop, (∀ σ H, I σ H → N σ H) → t { D with nx := N } σ H) (h2 : ∀ σ H, I σ H → u D σ H) : tSeq t u D σ H := h1 _ h2
/-- a kind as data -/
def kdat : Kd → PyData
  | .num => .tuple [.str "num"]
  | .truth => .tuple [.str "truth"]
  | .pair a b => .tuple [.str "pair", kdat a, kdat b]
  | .row a => .tuple [.str "row", kdat a]
theorem KindAt.dp {K : PySem.W.Frag} {H : Hp} : ∀ {k : Kd} {v : V}, KindAt H v k → Dp K H v (kdat k) := by
  intro k
  induction k with
  | num =>
    rintro v ⟨p, rfl, h⟩
    exact .tup (SqT.of h) (.cons (.str _) .nil)
  | truth =>
    rintro v ⟨p, rfl, h⟩
    exact .tup (SqT.of h) (.cons (.str _) .nil)
  | pair a b iha ihb =>
    rintro v ⟨p, x, y, rfl, h, r1, r2⟩
    exact .tup (SqT.of h) (.cons (.str _) (.cons (iha r1) (.cons (ihb r2) .nil)))
  | row a ih =>
    rintro v ⟨p, x, rfl, h, r1⟩
    exact .tup (SqT.of h) (.cons (.str _) (.cons (ih r1) .nil))
theorem kdat_can : ∀ k : Kd, (kdat k).canLay0 = true := by
  have hs : ∀ s ∈ (["num", "truth", "pair", "row"] : List Str), (PyData.str s).canLay0 = true := by decide +kernel
  have h1 := hs "num" (by simp)
  have h2 := hs "truth" (by simp)
  have h3 := hs "pair" (by simp)
  have h4 := hs "row" (by simp)
  intro k
  induction k with
  | num =>
    show ((PyData.str "num").canLay0 && true) = true
    rw [h1]
    rfl
  | truth =>
    show ((PyData.str "truth").canLay0 && true) = true
    rw [h2]
    rfl
  | pair a b iha ihb =>
    show ((PyData.str "pair").canLay0 && ((kdat a).canLay0 && ((kdat b).canLay0 && true))) = true
    rw [h3, iha, ihb]
    rfl
  | row a ih =>
    show ((PyData.str "row").canLay0 && ((kdat a).canLay0 && true)) = true
    rw [h4, ih]
    rfl
theorem kdat_depth : ∀ k : Kd, (kdat k).depth ≤ k.depth := by
  intro k
  induction k with
  | num => exact Nat.le_refl _
  | truth => exact Nat.le_refl _
  | pair a b iha ihb =>
    show max 0 (max (kdat a).depth (max (kdat b).depth 0)) + 1 ≤ 1 + max a.depth b.depth
    omega
  | row a ih =>
    show max 0 (max (kdat a).depth 0) + 1 ≤ 1 + a.depth
    omega
theorem kdat_shaped {k : Kd} (h : k.depth ≤ 60) : SeqAt.shaped (kdat k) = true := by
  unfold SeqAt.shaped
  have := kdat_depth k
  rw [kdat_can, decide_eq_true (show (kdat k).depth ≤ 64 by omega)]
  rfl
theorem kdat_eqv : ∀ a b : Kd, PyData.eqv (kdat a) (kdat b) = decide (a = b) := by
  have ne : ∀ s ∈ (["num", "truth", "pair", "row"] : List Str), ∀ t ∈ (["num", "truth", "pair", "row"] : List Str), (s == t) = decide (s = t) := fun s _ t _ => by
    by_cases e : s = t
    · subst e; simp
    · rw [decide_eq_false e]; exact beq_eq_false_iff_ne.mpr e
  have nt : (("num" : Str) == "truth") = false := by decide +kernel
  have np : (("num" : Str) == "pair") = false := by decide +kernel
  have nr : (("num" : Str) == "row") = false := by decide +kernel
  have tn : (("truth" : Str) == "num") = false := by decide +kernel
  have tp : (("truth" : Str) == "pair") = false := by decide +kernel
  have tr : (("truth" : Str) == "row") = false := by decide +kernel
  have pn : (("pair" : Str) == "num") = false := by decide +kernel
  have pt : (("pair" : Str) == "truth") = false := by decide +kernel
  have pr : (("pair" : Str) == "row") = false := by decide +kernel
  have rn : (("row" : Str) == "num") = false := by decide +kernel
  have rt : (("row" : Str) == "truth") = false := by decide +kernel
  have rp : (("row" : Str) == "pair") = false := by decide +kernel
  intro a
  induction a with
  | num =>
    intro b
    cases b with
    | num => show ((("num" : Str) == "num") && true) = _; rw [beq_self_eq_true]; rfl
    | truth => show ((("num" : Str) == "truth") && true) = _; rw [nt]; rfl
    | pair c d => show ((("num" : Str) == "pair") && PyData.eqvAll [] [kdat c, kdat d]) = _; rw [np]; rfl
    | row c => show ((("num" : Str) == "row") && PyData.eqvAll [] [kdat c]) = _; rw [nr]; rfl
  | truth =>
    intro b
    cases b with
    | num => show ((("truth" : Str) == "num") && true) = _; rw [tn]; rfl
    | truth => show ((("truth" : Str) == "truth") && true) = _; rw [beq_self_eq_true]; rfl
    | pair c d => show ((("truth" : Str) == "pair") && PyData.eqvAll [] [kdat c, kdat d]) = _; rw [tp]; rfl
    | row c => show ((("truth" : Str) == "row") && PyData.eqvAll [] [kdat c]) = _; rw [tr]; rfl
  | pair a1 a2 ih1 ih2 =>
    intro b
    cases b with
    | num => show ((("pair" : Str) == "num") && PyData.eqvAll [kdat a1, kdat a2] []) = _; rw [pn]; rfl
    | truth => show ((("pair" : Str) == "truth") && PyData.eqvAll [kdat a1, kdat a2] []) = _; rw [pt]; rfl
    | row c => show ((("pair" : Str) == "row") && PyData.eqvAll [kdat a1, kdat a2] [kdat c]) = _; rw [pr]; rfl
    | pair c d =>
      show ((("pair" : Str) == "pair") && (PyData.eqv (kdat a1) (kdat c) && (PyData.eqv (kdat a2) (kdat d) && true))) = _
      rw [beq_self_eq_true, ih1, ih2, Bool.true_and, Bool.and_true, ← Bool.decide_and]
      exact decide_eq_decide.mpr (by simp)
  | row a1 ih1 =>
    intro b
    cases b with
    | num => show ((("row" : Str) == "num") && PyData.eqvAll [kdat a1] []) = _; rw [rn]; rfl
    | truth => show ((("row" : Str) == "truth") && PyData.eqvAll [kdat a1] []) = _; rw [rt]; rfl
    | pair c d => show ((("row" : Str) == "pair") && PyData.eqvAll [kdat a1] [kdat c, kdat d]) = _; rw [rp]; rfl
    | row c =>
      show ((("row" : Str) == "row") && (PyData.eqv (kdat a1) (kdat c) && true)) = _
      rw [beq_self_eq_true, ih1, Bool.true_and, Bool.and_true]
      exact decide_eq_decide.mpr (by simp)
/-- x == y of kinds -/
theorem kind_eq {K : PySem.W.Frag} {H : Hp} {x y : V} {a b : Kd} {Q : VK} (h1 : KindAt H x a) (h2 : KindAt H y b) (l1 : a.depth ≤ 60) (l2 : b.depth ≤ 60) (q : Q (.bl (decide (a = b))) H) : rEqD K x y H Q :=
  ⟨kdat a, kdat b, h1.dp, h2.dp, kdat_shaped l1, kdat_shaped l2, by rw [kdat_eqv]; exact q⟩
/-- the names with their kinds -/
def NamesAt (H : Hp) (v : V) (L : List (Str × Kd)) : Prop := ∃ a es, v = .ref a ∧ H a = some (.lst es) ∧ Paired (fun v (e : Str × Kd) => ∃ p kv, v = .ref p ∧ H p = some (.tup [.str e.1, kv]) ∧ KindAt H kv e.2) es L
theorem NamesAt.but {H H' : Hp} {s : Addr} {v : V} {L : List (Str × Kd)} (h : NamesAt H v L) (b : But s H H') (hs : ∀ xs, H s ≠ some (.lst xs)) : NamesAt H' v L := by
  obtain ⟨a, es, e, ha, pr⟩ := h
  exact ⟨a, es, e, b.old _ _ (fun z => hs es (by rw [← z]; exact ha)) ha, Paired.mapP pr fun _ _ ⟨p, kv, e1, e2, e3⟩ => ⟨p, kv, e1, b.tup _ _ e2, e3.mono b.tk⟩⟩
theorem NamesAt.kp {H H' : Hp} {v : V} {L : List (Str × Kd)} (h : NamesAt H v L) (b : Kp H H') : NamesAt H' v L := by
  obtain ⟨a, es, e, ha, pr⟩ := h
  exact ⟨a, es, e, b _ _ ha, Paired.mapP pr fun _ _ ⟨p, kv, e1, e2, e3⟩ => ⟨p, kv, e1, b _ _ e2, e3.mono b.tk⟩⟩
def spLeaf (n : Nat) : Sp := fun vs H Q _ => ∃ (k : Kd) (kv nv : V) (L : List (Str × Kd)) (G : Ctx) (z : Int), vs = [kv, nv, .int z] ∧ KindAt H kv k ∧ k.depth ≤ n ∧ k.depth ≤ 6 ∧ NamesAt H nv L ∧ L.length ≤ 1000 ∧ (∀ e ∈ L, e.2.depth ≤ 6 ∧ G e.1 = some e.2) ∧
  ∀ (t : T k) v H', Kp H H' → TreeAt H' v t → Sc G t → t.ht ≤ k.depth → t.dep ≤ k.depth → t.size + 1 ≤ 2 ^ k.depth → Q v H'
theorem atI_mod {xs : List V} (z : Int) (h : 0 < xs.length) : ∃ v ∈ xs, atI xs (z % ((xs.length : Nat) : Int)) = some v := by
  have h0 : 0 ≤ z % ((xs.length : Nat) : Int) := Int.emod_nonneg _ (by omega)
  have h1 : z % ((xs.length : Nat) : Int) < ((xs.length : Nat) : Int) := Int.emod_lt_of_pos _ (by omega)
  have hl : (z % ((xs.length : Nat) : Int)).toNat < xs.length := by omega
  refine ⟨xs[(z % ((xs.length : Nat) : Int)).toNat], List.getElem_mem hl, ?_⟩
  have e := atI_nat (List.getElem?_eq_getElem hl)
  rw [show (((z % ((xs.length : Nat) : Int)).toNat : Nat) : Int) = z % ((xs.length : Nat) : Int) by omega] at e
  exact e
section
variable {P : Program} {w : World} {K : PySem.W.Frag} {mg : Str → Option Value} {base : Heap} {aC aB f : Addr} {fd : FuncData}
theorem fn_law_leaf (T : Tp K mg aC aB) (F : At K mg "_law_leaf" s_law_leaf p_law_leaf f fd) (c_law_number : Fn P w K mg base 1 "_law_number" spNumber) : ∀ n, Fn P w K mg base (n + 1) "_law_leaf" (spLeaf n) := by
  intro n
  induction n with
  | zero =>
    refine fn_by F sc_law_leaf ?_ (fun cdv A outer s H vs Q E hr h => ?_)
    · rintro vs H Q E ⟨k, kv, nv, L, G, z, rfl, _⟩
      rfl
    obtain ⟨k, kv, nv, L, G, z, rfl, hk, hn, _⟩ := h
    exact absurd hn (by have : 1 ≤ k.depth := by { cases k <;> simp only [Kd.depth] <;> omega }; omega)
  | succ n c_law_leaf =>
  refine fn_by F sc_law_leaf ?_ (fun cdv A outer s H vs Q E hr h => ?_)
  · rintro vs H Q E ⟨k, kv, nv, L, G, z, rfl, _⟩
    rfl
  obtain ⟨k, kv, nv, L, G, z, rfl, hk, hn, h6, ⟨na, es, rfl, hna, pr⟩, hL, good, q⟩ := h
  have nm0 : NamesAt H (.ref na) L := ⟨na, es, rfl, hna, pr⟩
  refine ⟨_, (pss_cons (ps_setLc (i := 3) (own := [("name", 5), ("one", 4)]) rfl sc_law_leaf.nd rfl rfl (sw_true rfl rfl rfl (by decide +kernel)) (k_pil K rfl (pv 1)) (blkOk_by (own := [("name", 5), ("one", 4)]) (by rfl)) (fun _ _ _ _ _ => (k_gtup K rfl (n := 2) rfl (pgs_cons (pg_name (i := 5) sc_law_leaf.nd rfl (by first | exact Or.inl rfl | exact Or.inr rfl)) (pgs_cons (pg_name (i := 4) sc_law_leaf.nd rfl (by first | exact Or.inl rfl | exact Or.inr rfl)) pgs_nil)))) (fun _ _ _ _ _ => (pts_one (pt_cmpR (k_eqD K rfl hr) (pv 4) (pv 0) (nomark _)))) (fun _ _ _ _ _ => (pv 5)))
  (pss_cons (ps_if (pw_and (pt_cmpR op_gt (pe_callB (k_len K rfl) (by rfl) T.len (by decide +kernel) (pa_cons (pv 3) pa_nil)) (pe_int) (nomark _)) (pw_and1 (pt_cmpR op_gt (pe_op op_mod (pv 2) (pe_int)) (pe_int) (nomark _)))).pt (pss_one (ps_ret (pe_tup (pa_cons (pe_str) (pa_cons (pe_ix (k_ixl K rfl) (pv 3) (pe_op op_mod (pe_op op_fdiv (pv 2) (pe_int)) (pe_callB (k_len K rfl) (by rfl) T.len (by decide +kernel) (pa_cons (pv 3) pa_nil))) (fun _ _ => rfl)) pa_nil))))) pss_nil)
  (pss_cons (ps_if (pt_cmpR op_eq (pe_ix (k_ixt K rfl) (pv 0) (pe_int) (fun _ _ => rfl)) (pe_str) (nomark _)) (pss_one (ps_ret (pe_tup (pa_cons (pe_str) (pa_cons (pe_fn c_law_number hr (by omega) (by rfl) (pa_cons (pe_op op_fdiv (pv 2) (pe_int)) pa_nil)) pa_nil))))) pss_nil)
  (pss_cons (ps_if (pt_cmpR op_eq (pe_ix (k_ixt K rfl) (pv 0) (pe_int) (fun _ _ => rfl)) (pe_str) (nomark _)) (pss_one (ps_ret (pe_tup (pa_cons (pe_ix (k_ixl K rfl) (pe_lst (pa_cons (pe_str) (pa_cons (pe_str) pa_nil))) (pe_op op_mod (pe_op op_fdiv (pv 2) (pe_int)) (pe_int)) (fun _ _ => rfl)) pa_nil)))) pss_nil)
  (pss_cons (ps_if (pt_cmpR op_eq (pe_ix (k_ixt K rfl) (pv 0) (pe_int) (fun _ _ => rfl)) (pe_str) (nomark _)) (pss_cons (ps_set (i := 4) sc_law_leaf.nd rfl (by first | exact Or.inl rfl | exact Or.inr rfl) (pe_fn c_law_leaf hr (by omega) (by rfl) (pa_cons (pe_ix (k_ixt K rfl) (pv 0) (pe_int) (fun _ _ => rfl)) (pa_cons (pv 1) (pa_cons (pe_op op_fdiv (pv 2) (pe_int)) pa_nil)))))
  (pss_one (ps_ret (pe_tup (pa_cons (pe_str) (pa_cons (pv 4) (pa_cons (pe_fn c_law_leaf hr (by omega) (by rfl) (pa_cons (pe_ix (k_ixt K rfl) (pv 0) (pe_int) (fun _ _ => rfl)) (pa_cons (pv 1) (pa_cons (pe_op op_fdiv (pv 2) (pe_int)) pa_nil)))) pa_nil))))))) pss_nil)
  (pss_cons (ps_if (pt_cmpR op_eq (pe_op op_mod (pe_op op_fdiv (pv 2) (pe_int)) (pe_int)) (pe_int) (nomark _)) (pss_one (ps_ret (pe_tup (pa_cons (pe_str) (pa_cons (pe_ix (k_ixt K rfl) (pv 0) (pe_int) (fun _ _ => rfl)) pa_nil))))) pss_nil)
  (pss_one (ps_ret (pe_tup (pa_cons (pe_str) (pa_cons (pe_fn c_law_leaf hr (by omega) (by rfl) (pa_cons (pe_ix (k_ixt K rfl) (pv 0) (pe_int) (fun _ _ => rfl)) (pa_cons (pv 1) (pa_cons (pe_op op_fdiv (pv 2) (pe_int)) pa_nil)))) pa_nil))))))))))), ?_⟩
  have les : es.length ≤ 1000 := by rw [Paired.len pr]; exact hL
  refine ⟨_, rfl, na, rfl, ⟨_, SqL.of hna⟩, fun g hg => lc_list (K := K) (a := na) (xs := es) (fun i H' => ∃ l : List Str, Kp H H' ∧ H' g = some (.lst (l.map V.str)) ∧ (∀ x ∈ l, G x = some k) ∧ l.length ≤ i)
    ⟨[], Kp.new hg, upd_same, fun x hx => absurd hx (by simp), Nat.le_refl _⟩ (fun i H' _ pv => ?_) ?_ ?_⟩
  · obtain ⟨l, kp, _⟩ := pv
    exact SqL.of (kp _ _ hna)
  · rintro i y H' hi ⟨l, kp, hl, gl, ll⟩
    obtain ⟨e, he, p, kv2, rfl, hp, hk2⟩ := Paired.at pr hi
    obtain ⟨e6, eG⟩ := good e (List.mem_of_getElem? he)
    have li : i < es.length := (List.getElem?_eq_some_iff.mp hi).1
    refine ⟨p, _, rfl, SqT.of (kp _ _ hp), rfl, _, _, rfl, _, _, rfl, rfl, rfl, ?_⟩
    refine ⟨_, rfl, _, rfl, kind_eq (hk2.mono kp.tk) (hk.mono kp.tk) (by omega) (by omega) ⟨_, rfl, itB (fun ee => ?_) (fun ee => ?_)⟩⟩
    · have ek := of_decide_eq_true ee
      refine ⟨_, rfl, _, hl, line_lt (by rw [List.length_map]; omega), l ++ [e.1], kp.put hg, by rw [upd_same, List.map_append]; rfl, fun x hx => ?_, by rw [List.length_append]; show l.length + 1 ≤ _; omega⟩
      rcases List.mem_append.mp hx with hx | hx
      · exact gl x hx
      · rw [List.mem_singleton.mp hx, eG, ek]
    · exact ⟨l, kp, hl, gl, by omega⟩
  rintro H1 ⟨l, kp, hl, gl, ll⟩
  have nm1 := nm0.kp kp
  unfold gName
  dsimp only
  refine seqI (fun σ H' => σ = [some kv, some (.ref na), some (.int z), some (.ref g), none, none] ∧ H' = H1) (fun N hN => ?_) ?_
  · refine ⟨_, rfl, g, _, rfl, .inl (SqL.of hl), _, _, rfl, rfl, _, rfl, itB (fun e => ?_) (fun e => itF rfl (hN _ _ ⟨rfl, rfl⟩))⟩
    refine ⟨_, rfl, _, _, rfl, rfl, (by show (0 : Int) < 4; decide), _, _, rfl, rfl, _, rfl, itB (fun e2 => ?_) (fun e2 => hN _ _ ⟨rfl, rfl⟩)⟩
    have pos : 0 < (l.map V.str).length := by
      have := of_decide_eq_true e
      omega
    obtain ⟨v, hv, ev⟩ := atI_mod (xs := l.map V.str) (z / 4) pos
    obtain ⟨x, hx, rfl⟩ := List.mem_map.mp hv
    refine ⟨_, rfl, _, rfl, _, _, rfl, rfl, ⟨by decide, by decide⟩, _, rfl, g, _, rfl, .inl (SqL.of hl), _, _, rfl, rfl, ?_, g, _, _, _, rfl, rfl, SqL.of hl, ev, by show 2 ≤ sizeLine; decide, fun pp hpp => q (.name k x) _ _ (kp.trans (Kp.new hpp)) ⟨pp, rfl, upd_same⟩ (gl x hx) ?_ ?_ ?_⟩
    · show (0 : Int) < (((l.map V.str).length : Nat) : Int)
      omega
    · show 1 ≤ k.depth
      cases k <;> simp only [Kd.depth] <;> omega
    · exact Nat.le_refl _
    · have : 1 ≤ k.depth := by cases k <;> simp only [Kd.depth] <;> omega
      have h2 : 2 ^ 1 ≤ 2 ^ k.depth := Nat.pow_le_pow_right (by decide) this
      show 1 + 1 ≤ 2 ^ k.depth
      omega
  rintro σ H' ⟨rfl, rfl⟩
  cases k with
  | num =>
    obtain ⟨p, rfl, hp⟩ := hk
    refine ⟨_, rfl, _, _, _, _, rfl, rfl, SqT.of (kp _ _ hp), atI_zero, rfl, _, rfl, itT (by decide +kernel) ?_⟩
    refine ⟨_, rfl, _, _, rfl, rfl, ⟨by decide, by decide⟩, _, rfl, fun y H2 k2 y0 y1 => ⟨by show 2 ≤ sizeLine; decide, fun pp hpp => q (.num y) _ _ ((kp.trans k2).trans (Kp.new hpp)) ⟨pp, rfl, upd_same⟩ ⟨y0, y1⟩ (Nat.le_refl _) (Nat.le_refl _) (Nat.le_refl _)⟩⟩
  | truth =>
    obtain ⟨p, rfl, hp⟩ := hk
    refine ⟨_, rfl, _, _, _, _, rfl, rfl, SqT.of (kp _ _ hp), atI_zero, rfl, _, rfl, itF (by decide +kernel) ?_⟩
    refine ⟨_, rfl, _, _, _, _, rfl, rfl, SqT.of (kp _ _ hp), atI_zero, rfl, _, rfl, itT (by decide +kernel) ?_⟩
    refine ⟨by show 2 ≤ sizeLine; decide, fun g2 hg2 => ?_⟩
    have k2 := kp.trans (Kp.new (o := .lst [.str "yes", .str "no"]) hg2)
    refine ⟨_, rfl, _, _, rfl, rfl, ⟨by decide, by decide⟩, _, _, rfl, rfl, (by show (0 : Int) < 2; decide), ?_⟩
    rcases Int.emod_two_eq (z / 4) with e | e
    · refine ⟨g2, _, _, .str "yes", rfl, rfl, SqL.of upd_same, by rw [e]; exact atI_zero, by show 1 ≤ sizeLine; decide, fun pp hpp => q .yes _ _ (k2.trans (Kp.new hpp)) ⟨pp, rfl, upd_same⟩ trivial (Nat.le_refl _) (Nat.le_refl _) (Nat.le_refl _)⟩
    · refine ⟨g2, _, _, .str "no", rfl, rfl, SqL.of upd_same, by rw [e]; exact atI_one, by show 1 ≤ sizeLine; decide, fun pp hpp => q .no _ _ (k2.trans (Kp.new hpp)) ⟨pp, rfl, upd_same⟩ trivial (Nat.le_refl _) (Nat.le_refl _) (Nat.le_refl _)⟩
  | pair a b =>
    obtain ⟨p, x, y, rfl, hp, r1, r2⟩ := hk
    have hn' : 1 + max a.depth b.depth ≤ n + 1 := hn
    have h6' : 1 + max a.depth b.depth ≤ 6 := h6
    refine ⟨_, rfl, _, _, _, _, rfl, rfl, SqT.of (kp _ _ hp), atI_zero, rfl, _, rfl, itF (by decide +kernel) ?_⟩
    refine ⟨_, rfl, _, _, _, _, rfl, rfl, SqT.of (kp _ _ hp), atI_zero, rfl, _, rfl, itF (by decide +kernel) ?_⟩
    refine ⟨_, rfl, _, _, _, _, rfl, rfl, SqT.of (kp _ _ hp), atI_zero, rfl, _, rfl, itT (by decide +kernel) ?_⟩
    refine ⟨_, rfl, _, _, _, _, rfl, rfl, SqT.of (kp _ _ hp), atI_one, _, rfl, _, rfl, _, _, rfl, rfl, ⟨by decide, by decide⟩, a, x, .ref na, L, G, _, rfl, r1.mono kp.tk, by omega, by omega, nm1, hL, good, fun t1 v1 H2 k2 tr1 sc1 ht1 dp1 sz1 => ?_⟩
    have kp2 := kp.trans k2
    refine ⟨_, rfl, _, rfl, _, _, _, _, rfl, rfl, SqT.of (kp2 _ _ hp), atI_two, _, rfl, _, rfl, _, _, rfl, rfl, ⟨by decide, by decide⟩, b, y, .ref na, L, G, _, rfl, r2.mono kp2.tk, by omega, by omega, nm1.kp k2, hL, good, fun t2 v2 H3 k3 tr2 sc2 ht2 dp2 sz2 => ?_⟩
    refine ⟨by show 3 ≤ sizeLine; decide, fun pp hpp => q (.op2 (.pair a b) t1 t2) _ _ ((kp2.trans k3).trans (Kp.new hpp)) ⟨pp, _, _, rfl, upd_same, tr1.mono (k3.trans (Kp.new hpp)).tk, tr2.mono (Kp.new hpp).tk⟩ ⟨sc1, sc2⟩ ?_ ?_ ?_⟩
    · show max t1.ht t2.ht + 1 ≤ 1 + max a.depth b.depth
      omega
    · show max (1 + max a.depth b.depth) (max t1.dep t2.dep) ≤ 1 + max a.depth b.depth
      omega
    · have m1 : 2 ^ a.depth ≤ 2 ^ max a.depth b.depth := Nat.pow_le_pow_right (by decide) (Nat.le_max_left _ _)
      have m2 : 2 ^ b.depth ≤ 2 ^ max a.depth b.depth := Nat.pow_le_pow_right (by decide) (Nat.le_max_right _ _)
      show 1 + (t1.size + t2.size) + 1 ≤ 2 ^ (1 + max a.depth b.depth)
      rw [Nat.pow_add, Nat.pow_one]
      omega
  | row a =>
    obtain ⟨p, x, rfl, hp, r1⟩ := hk
    have hn' : 1 + a.depth ≤ n + 1 := hn
    have h6' : 1 + a.depth ≤ 6 := h6
    refine ⟨_, rfl, _, _, _, _, rfl, rfl, SqT.of (kp _ _ hp), atI_zero, rfl, _, rfl, itF (by decide +kernel) ?_⟩
    refine ⟨_, rfl, _, _, _, _, rfl, rfl, SqT.of (kp _ _ hp), atI_zero, rfl, _, rfl, itF (by decide +kernel) ?_⟩
    refine ⟨_, rfl, _, _, _, _, rfl, rfl, SqT.of (kp _ _ hp), atI_zero, rfl, _, rfl, itF (by decide +kernel) ?_⟩
    refine ⟨_, rfl, _, _, rfl, rfl, ⟨by decide, by decide⟩, _, _, rfl, rfl, (by show (0 : Int) < 2; decide), rfl, _, rfl, itB (fun e => ?_) (fun e => ?_)⟩
    · refine ⟨_, rfl, _, _, _, _, rfl, rfl, SqT.of (kp _ _ hp), atI_one, by show 2 ≤ sizeLine; decide, fun pp hpp => q (.none a) _ _ (kp.trans (Kp.new hpp)) ⟨pp, _, rfl, upd_same⟩ trivial ?_ (Nat.le_refl _) ?_⟩
      · show 1 ≤ 1 + a.depth
        omega
      · have h2 : 2 ^ 1 ≤ 2 ^ (1 + a.depth) := Nat.pow_le_pow_right (by decide) (by omega)
        exact h2
    · refine ⟨_, rfl, _, _, _, _, rfl, rfl, SqT.of (kp _ _ hp), atI_one, _, rfl, _, rfl, _, _, rfl, rfl, ⟨by decide, by decide⟩, a, x, .ref na, L, G, _, rfl, r1.mono kp.tk, by omega, by omega, nm1, hL, good, fun t1 v1 H2 k2 tr1 sc1 ht1 dp1 sz1 => ?_⟩
      refine ⟨by show 2 ≤ sizeLine; decide, fun pp hpp => q (.op1 (.one a) t1) _ _ ((kp.trans k2).trans (Kp.new hpp)) ⟨pp, _, rfl, upd_same, tr1.mono (Kp.new hpp).tk⟩ sc1 ?_ ?_ ?_⟩
      · show t1.ht + 1 ≤ 1 + a.depth
        omega
      · show max (1 + a.depth) t1.dep ≤ 1 + a.depth
        omega
      · have m1 : 1 ≤ 2 ^ a.depth := Nat.one_le_two_pow
        show 1 + t1.size + 1 ≤ 2 ^ (1 + a.depth)
        rw [Nat.pow_add, Nat.pow_one]
        omega
end
end Br
/-! The law's drawing: signs. -/
namespace Br
open PySem L2
open PySem.Spec PyProof.Rows
/-- a sign for the kind, and the kinds of its parts -/
inductive OpFor (H : Hp) : Kd → Str → List V → Prop where
  | o1 {a b : Kd} (o : O1 a b) {v : V} (h : KindAt H v a) (d : a.depth ≤ 5) : OpFor H b o.str [v]
  | o2 {a b k : Kd} (o : O2 a b k) {v w : V} (h : KindAt H v a) (h2 : KindAt H w b) (d : a.depth ≤ 5) (d2 : b.depth ≤ 5) : OpFor H k o.str [v, w]
theorem OpFor.mono {H H' : Hp} {k : Kd} {s : Str} {vs : List V} (t : Tk H H') (o : OpFor H k s vs) : OpFor H' k s vs := by
  cases o with
  | o1 o h d => exact .o1 o (h.mono t) d
  | o2 o h h2 d d2 => exact .o2 o (h.mono t) (h2.mono t) d d2
/-- an entry of the signs, its list apart from c -/
def SgAt (c : Addr → Prop) (H : Hp) (e : V) (k : Kd) : Prop := ∃ p s q vs, e = .ref p ∧ H p = some (.tup [.str s, .ref q]) ∧ H q = some (.lst vs) ∧ ¬ c q ∧ OpFor H k s vs
theorem SgAt.kp {c c' : Addr → Prop} {H H' : Hp} {e : V} {k : Kd} (h : SgAt c H e k) (kp : Kp H H') (hg : ∀ a, c' a → c a ∨ H a = none) : SgAt c' H' e k := by
  obtain ⟨p, s, q, vs, e1, e2, e3, e4, e5⟩ := h
  refine ⟨p, s, q, vs, e1, kp _ _ e2, kp _ _ e3, fun z => ?_, e5.mono kp.tk⟩
  rcases hg q z with w | w
  · exact e4 w
  · rw [e3] at w
    cases w
theorem SgAt.kp1 {c : Addr → Prop} {H H' : Hp} {e : V} {k : Kd} (h : SgAt c H e k) (kp : Kp H H') : SgAt c H' e k := h.kp kp fun _ z => .inl z
theorem SgAt.kpn {f g : Addr} {H H' : Hp} {e : V} {k : Kd} (h : SgAt (· = f) H e k) (kp : Kp H H') (hg : H g = none) : SgAt (· = g) H' e k := h.kp kp fun a z => .inr (by rw [show a = g from z]; exact hg)
/-- a list of those is changed -/
theorem SgAt.put {c : Addr → Prop} {f : Addr} {H : Hp} {e : V} {k : Kd} {o : HO} {xs : List V} (h : SgAt c H e k) (hc : c f) (hf : H f = some (.lst xs)) : SgAt c (upd H f o) e k := by
  obtain ⟨p, s, q, vs, e1, e2, e3, e4, e5⟩ := h
  have tk : Tk H (upd H f o) := fun a ys z => by
    rw [upd_ne (fun w => by rw [w, hf] at z; cases z)]
    exact z
  exact ⟨p, s, q, vs, e1, tk _ _ e2, by rw [upd_ne (fun z => e4 (by rw [z]; exact hc))]; exact e3, e4, e5.mono tk⟩
theorem ln0 : 0 ≤ sizeLine := by decide
theorem ln1 : 1 ≤ sizeLine := by decide
theorem ln2 : 2 ≤ sizeLine := by decide
theorem ln3 : 3 ≤ sizeLine := by decide
theorem ln6 : 6 ≤ sizeLine := by decide
theorem sg_newc {H : Hp} {l p : Addr} {c : Addr → Prop} {s : Str} {vs : List V} {k : Kd} (hf : ∀ a, c a → ∃ o, H a = some o) (o : OpFor H k s vs) (hl : H l = none) (hp : upd H l (.lst vs) p = none) :
    SgAt c (upd (upd H l (.lst vs)) p (.tup [.str s, .ref l])) (.ref p) k ∧ Kp H (upd (upd H l (.lst vs)) p (.tup [.str s, .ref l])) := by
  have k2 := (Kp.new (o := .lst vs) hl).trans (Kp.new (o := .tup [.str s, .ref l]) hp)
  refine ⟨⟨p, s, l, vs, rfl, upd_same, Kp.new hp _ _ upd_same, fun z => ?_, o.mono k2.tk⟩, k2⟩
  obtain ⟨o', ho⟩ := hf l z
  rw [ho] at hl
  cases hl
theorem sg_new {H : Hp} {l p f : Addr} {s : Str} {vs : List V} {k : Kd} (hf : ∃ o, H f = some o) (o : OpFor H k s vs) (hl : H l = none) (hp : upd H l (.lst vs) p = none) :
    SgAt (· = f) (upd (upd H l (.lst vs)) p (.tup [.str s, .ref l])) (.ref p) k ∧ Kp H (upd (upd H l (.lst vs)) p (.tup [.str s, .ref l])) := sg_newc (fun a z => by rw [show a = f from z]; exact hf) o hl hp
def kname : Kd → Str
  | .num => "num"
  | .truth => "truth"
  | .pair _ _ => "pair"
  | .row _ => "row"
theorem KindAt.name {H : Hp} {v : V} {k : Kd} (h : KindAt H v k) : ∃ p cs, v = .ref p ∧ H p = some (.tup (.str (kname k) :: cs)) := by
  cases k with
  | num => obtain ⟨p, e, z⟩ := h; exact ⟨p, [], e, z⟩
  | truth => obtain ⟨p, e, z⟩ := h; exact ⟨p, [], e, z⟩
  | pair a b => obtain ⟨p, x, y, e, z, r1, r2⟩ := h; exact ⟨p, [x, y], e, z⟩
  | row a => obtain ⟨p, x, e, z, r1⟩ := h; exact ⟨p, [x], e, z⟩
theorem is_pair {k : Kd} (h : decide (V.str (kname k) = V.str "pair") = true) : ∃ a b, k = .pair a b := by
  cases k with
  | pair a b => exact ⟨a, b, rfl⟩
  | num => exact absurd h (by simp only [kname]; decide +kernel)
  | truth => exact absurd h (by simp only [kname]; decide +kernel)
  | row a => exact absurd (show decide (V.str "row" = V.str "pair") = true from h) (by decide +kernel)
theorem is_row {k : Kd} (h : decide (V.str (kname k) = V.str "row") = true) : ∃ a, k = .row a := by
  cases k with
  | row a => exact ⟨a, rfl⟩
  | num => exact absurd h (by simp only [kname]; decide +kernel)
  | truth => exact absurd h (by simp only [kname]; decide +kernel)
  | pair a b => exact absurd (show decide (V.str "pair" = V.str "row") = true from h) (by decide +kernel)
theorem no_pair {a b : Kd} : ¬ decide (V.str (kname (.pair a b)) = V.str "pair") = false := by
  show ¬ decide (V.str "pair" = V.str "pair") = false
  decide +kernel
theorem no_row {a : Kd} : ¬ decide (V.str (kname (.row a)) = V.str "row") = false := by
  show ¬ decide (V.str "row" = V.str "row") = false
  decide +kernel
def spSigns : Sp := fun vs H Q _ => ∃ k j kv jv, vs = [kv, jv] ∧ KindAt H kv k ∧ KindAt H jv j ∧ k.depth ≤ 5 ∧ j.depth ≤ 2 ∧
  ∀ f xs H', Kp H H' → H' f = some (.lst xs) → (∀ e ∈ xs, SgAt (fun _ => False) H' e k) → xs ≠ [] → xs.length ≤ 100 → Q (.ref f) H'
/-- the state between the statements of _law_signs -/
def SI (H0 : Hp) (k : Kd) (kv jv : V) (np sp : Addr) (need : Prop) (bd : Nat) (σ : L2.St) (H : Hp) : Prop := ∃ f v5 xs, σ = [some kv, some jv, some (.ref np), some (.ref sp), some (.ref f), v5] ∧ Kp H0 H ∧ H0 f = none ∧ H f = some (.lst xs) ∧ (∀ e ∈ xs, SgAt (· = f) H e k) ∧ (need → xs ≠ []) ∧ xs.length ≤ bd
/-- found = found + [..] -/
theorem sg_cat {H0 H1 : Hp} {f l : Addr} {xs es : List V} {k : Kd} {kv jv : V} {np sp : Addr} {need' : Prop} {bd bd' : Nat} {N : L2.St → Hp → Prop} {v5 : Option V} (hN : ∀ σ H, SI H0 k kv jv np sp need' bd' σ H → N σ H) (K0 : Kp H0 H1) (hf : H1 f = some (.lst xs)) (hx : ∀ e ∈ xs, SgAt (· = f) H1 e k) (he : ∀ e ∈ es, SgAt (· = f) H1 e k)
    (lx : xs.length ≤ bd) (hne : need' → xs ++ es ≠ []) (hbd : bd + es.length ≤ bd') (hb : bd' ≤ 90) (hl : upd H1 l (.lst es) l = some (.lst es)) (hln : H1 l = none) :
    ∃ l' b' xs' zs', V.ref f = .ref l' ∧ V.ref l = .ref b' ∧ upd H1 l (.lst es) l' = some (.lst xs') ∧ upd H1 l (.lst es) b' = some (.lst zs') ∧ xs'.length + zs'.length ≤ sizeLine ∧ ∀ g, upd H1 l (.lst es) g = none → N [some kv, some jv, some (.ref np), some (.ref sp), some (.ref g), v5] (upd (upd H1 l (.lst es)) g (.lst (xs' ++ zs'))) := by
  refine ⟨f, l, xs, es, rfl, rfl, Kp.new hln _ _ hf, hl, line_le (by omega), fun g hg => hN _ _ ?_⟩
  have k2 := (Kp.new (o := .lst es) hln).trans (Kp.new (o := .lst (xs ++ es)) hg)
  have ng : H1 g = none := Kp.free (Kp.new hln) hg
  refine ⟨g, v5, xs ++ es, rfl, K0.trans k2, Kp.free K0 ng, upd_same, fun e h => ?_, hne, by rw [List.length_append]; omega⟩
  rcases List.mem_append.mp h with h | h
  · exact (hx e h).kpn k2 ng
  · exact (he e h).kpn k2 ng
theorem seqG {t u : TS} {D : Ends} {σ : L2.St} {H : Hp} {i : Nat} {v : V} (h : tSeq t u D (σ.set i (some v)) H) : gName i v σ H (fun σ' H' => tSeq t u D σ' H') := h
theorem arith (s : V) (h : s ∈ ([.str "add", .str "sub", .str "mul", .str "div", .str "rest", .str "add"] : List V)) : ∃ o : O2 .num .num .num, s = .str o.str := by
  simp only [List.mem_cons, List.not_mem_nil, or_false] at h
  rcases h with h | h | h | h | h | h
  · exact ⟨.add, h⟩
  · exact ⟨.sub, h⟩
  · exact ⟨.mul, h⟩
  · exact ⟨.div, h⟩
  · exact ⟨.rest, h⟩
  · exact ⟨.add, h⟩
section
variable {P : Program} {w : World} {K : PySem.W.Frag} {mg : Str → Option Value} {base : Heap} {aC aB f : Addr} {fd : FuncData}
set_option maxHeartbeats 2000000 in
theorem fn_law_signs (T : Tp K mg aC aB) (F : At K mg "_law_signs" s_law_signs p_law_signs f fd) (c_law_depth : Fn P w K mg base 6 "_law_depth" (spDepth 6)) : Fn P w K mg base 7 "_law_signs" spSigns := by
  refine fn_by F sc_law_signs ?_ (fun cdv A outer s H vs Q E hr h => ?_)
  · rintro vs H Q E ⟨k, j, kv, jv, rfl, _⟩
    rfl
  obtain ⟨k, j, kv, jv, rfl, hk, hj, dk, dj, q⟩ := h
  refine ⟨_, (pss_cons (ps_set (i := 2) sc_law_signs.nd rfl (by first | exact Or.inl rfl | exact Or.inr rfl) (pe_tup (pa_cons (pe_str) pa_nil)))
  (pss_cons (ps_set (i := 3) sc_law_signs.nd rfl (by first | exact Or.inl rfl | exact Or.inr rfl) (pe_tup (pa_cons (pe_str) (pa_cons (pv 2) pa_nil))))
  (pss_cons (ps_set (i := 4) sc_law_signs.nd rfl (by first | exact Or.inl rfl | exact Or.inr rfl) (pe_lst pa_nil))
  (pss_cons (ps_if (pt_cmpR op_lt (pe_fn c_law_depth hr (by omega) (by rfl) (pa_cons (pv 0) pa_nil)) (pe_int) (nomark _)) (pss_cons (ps_set (i := 4) sc_law_signs.nd rfl (by first | exact Or.inl rfl | exact Or.inr rfl) (pe_lst (pa_cons (pe_tup (pa_cons (pe_str) (pa_cons (pe_lst (pa_cons (pe_tup (pa_cons (pe_str) (pa_cons (pv 0) pa_nil))) (pa_cons (pv 2) pa_nil))) pa_nil))) (pa_cons (pe_tup (pa_cons (pe_str) (pa_cons (pe_lst (pa_cons (pe_tup (pa_cons (pe_str) (pa_cons (pv 0) (pa_cons (pv 1) pa_nil)))) pa_nil)) pa_nil))) pa_nil))))
  (pss_one (ps_expr (k_bm K rfl PySem.F.plainAttrs_list PySem.F.slot_list_append PySem.F.type_list_append mt_append (pv 4) (pa_cons (pe_tup (pa_cons (pe_str) (pa_cons (pe_lst (pa_cons (pe_tup (pa_cons (pe_str) (pa_cons (pv 1) (pa_cons (pv 0) pa_nil)))) pa_nil)) pa_nil))) pa_nil))))) pss_nil)
  (pss_cons (ps_if (pt_cmpR (k_eqD K rfl hr) (pv 0) (pv 2) (nomark _)) (pss_cons (ps_set (i := 4) sc_law_signs.nd rfl (by first | exact Or.inl rfl | exact Or.inr rfl) (pe_op op_cat (pv 4) (pe_lc (own := [("sign", 5)]) rfl sc_law_signs.nd (k_pil K rfl (pe_lst (pa_cons (pe_str) (pa_cons (pe_str) (pa_cons (pe_str) (pa_cons (pe_str) (pa_cons (pe_str) (pa_cons (pe_str) pa_nil)))))))) (blkOk_by (own := [("sign", 5)]) (by rfl)) (fun _ _ _ _ _ => (pg_name (i := 5) sc_law_signs.nd rfl (by first | exact Or.inl rfl | exact Or.inr rfl))) (fun _ _ _ _ _ => pts_nil) (fun _ _ _ _ _ => (pe_tup (pa_cons (pv 5) (pa_cons (pe_lst (pa_cons (pv 2) (pa_cons (pv 2) pa_nil))) pa_nil)))))))
  (pss_one (ps_set (i := 4) sc_law_signs.nd rfl (by first | exact Or.inl rfl | exact Or.inr rfl) (pe_op op_cat (pv 4) (pe_lst (pa_cons (pe_tup (pa_cons (pe_str) (pa_cons (pe_lst (pa_cons (pv 3) pa_nil)) pa_nil))) (pa_cons (pe_tup (pa_cons (pe_str) (pa_cons (pe_lst (pa_cons (pv 3) pa_nil)) pa_nil))) (pa_cons (pe_tup (pa_cons (pe_str) (pa_cons (pe_lst (pa_cons (pe_tup (pa_cons (pe_str) (pa_cons (pv 1) pa_nil))) pa_nil)) pa_nil))) pa_nil)))))))) pss_nil)
  (pss_cons (ps_if (pt_cmpR (k_eqD K rfl hr) (pv 0) (pe_tup (pa_cons (pe_str) pa_nil)) (nomark _)) (pss_cons (ps_set (i := 4) sc_law_signs.nd rfl (by first | exact Or.inl rfl | exact Or.inr rfl) (pe_op op_cat (pv 4) (pe_lst (pa_cons (pe_tup (pa_cons (pe_str) (pa_cons (pe_lst (pa_cons (pv 0) pa_nil)) pa_nil))) (pa_cons (pe_tup (pa_cons (pe_str) (pa_cons (pe_lst (pa_cons (pv 0) (pa_cons (pv 0) pa_nil))) pa_nil))) (pa_cons (pe_tup (pa_cons (pe_str) (pa_cons (pe_lst (pa_cons (pv 0) (pa_cons (pv 0) pa_nil))) pa_nil))) pa_nil))))))
  (pss_one (ps_set (i := 4) sc_law_signs.nd rfl (by first | exact Or.inl rfl | exact Or.inr rfl) (pe_op op_cat (pv 4) (pe_lst (pa_cons (pe_tup (pa_cons (pe_str) (pa_cons (pe_lst (pa_cons (pv 2) (pa_cons (pv 2) pa_nil))) pa_nil))) (pa_cons (pe_tup (pa_cons (pe_str) (pa_cons (pe_lst (pa_cons (pv 2) (pa_cons (pv 2) pa_nil))) pa_nil))) pa_nil))))))) pss_nil)
  (pss_cons (ps_if (pt_cmpR op_eq (pe_ix (k_ixt K rfl) (pv 0) (pe_int) (fun _ _ => rfl)) (pe_str) (nomark _)) (pss_one (ps_set (i := 4) sc_law_signs.nd rfl (by first | exact Or.inl rfl | exact Or.inr rfl) (pe_op op_cat (pv 4) (pe_op op_rep (pe_lst (pa_cons (pe_tup (pa_cons (pe_str) (pa_cons (pe_callTy (k_listOf K rfl) (by rfl) T.list (by decide +kernel) (pa_cons (pe_slice (k_slt K rfl) (pv 0) (po_some (pe_int)) po_none) pa_nil)) pa_nil))) pa_nil)) (pe_int))))) pss_nil)
  (pss_cons (ps_if (pt_cmpR op_eq (pe_ix (k_ixt K rfl) (pv 0) (pe_int) (fun _ _ => rfl)) (pe_str) (nomark _)) (pss_one (ps_set (i := 4) sc_law_signs.nd rfl (by first | exact Or.inl rfl | exact Or.inr rfl) (pe_op op_cat (pv 4) (pe_lst (pa_cons (pe_tup (pa_cons (pe_str) (pa_cons (pe_lst (pa_cons (pe_ix (k_ixt K rfl) (pv 0) (pe_int) (fun _ _ => rfl)) pa_nil)) pa_nil))) (pa_cons (pe_tup (pa_cons (pe_str) (pa_cons (pe_lst (pa_cons (pv 0) (pa_cons (pv 0) pa_nil))) pa_nil))) (pa_cons (pe_tup (pa_cons (pe_str) (pa_cons (pe_lst (pa_cons (pv 0) (pa_cons (pe_tup (pa_cons (pe_str) (pa_cons (pe_tup (pa_cons (pe_str) pa_nil)) pa_nil))) pa_nil))) pa_nil))) pa_nil))))))) pss_nil)
  (pss_cons (ps_if (pw_and (pt_cmpR op_eq (pe_ix (k_ixt K rfl) (pv 0) (pe_int) (fun _ _ => rfl)) (pe_str) (nomark _)) (pw_and1 (pt_cmpR op_lt (pe_fn c_law_depth hr (by omega) (by rfl) (pa_cons (pv 0) pa_nil)) (pe_int) (nomark _)))).pt (pss_one (ps_expr (k_bm K rfl PySem.F.plainAttrs_list PySem.F.slot_list_append PySem.F.type_list_append mt_append (pv 4) (pa_cons (pe_tup (pa_cons (pe_str) (pa_cons (pe_lst (pa_cons (pe_tup (pa_cons (pe_str) (pa_cons (pv 0) pa_nil))) pa_nil)) pa_nil))) pa_nil)))) pss_nil)
  (pss_cons (ps_if (pt_cmpR (k_eqD K rfl hr) (pv 0) (pv 3) (nomark _)) (pss_one (ps_set (i := 4) sc_law_signs.nd rfl (by first | exact Or.inl rfl | exact Or.inr rfl) (pe_op op_cat (pv 4) (pe_lst (pa_cons (pe_tup (pa_cons (pe_str) (pa_cons (pe_lst (pa_cons (pv 3) pa_nil)) pa_nil))) (pa_cons (pe_tup (pa_cons (pe_str) (pa_cons (pe_lst (pa_cons (pv 2) pa_nil)) pa_nil))) (pa_cons (pe_tup (pa_cons (pe_str) (pa_cons (pe_lst (pa_cons (pv 2) pa_nil)) pa_nil))) pa_nil))))))) pss_nil)
  (pss_cons (ps_if (pw_and (pt_cmpR op_eq (pe_ix (k_ixt K rfl) (pv 0) (pe_int) (fun _ _ => rfl)) (pe_str) (nomark _)) (pw_and1 (pt_cmpR op_eq (pe_ix (k_ixt K rfl) (pe_ix (k_ixt K rfl) (pv 0) (pe_int) (fun _ _ => rfl)) (pe_int) (fun _ _ => rfl)) (pe_str) (nomark _)))).pt (pss_one (ps_set (i := 4) sc_law_signs.nd rfl (by first | exact Or.inl rfl | exact Or.inr rfl) (pe_op op_cat (pv 4) (pe_lst (pa_cons (pe_tup (pa_cons (pe_str) (pa_cons (pe_lst (pa_cons (pe_ix (k_ixt K rfl) (pv 0) (pe_int) (fun _ _ => rfl)) (pa_cons (pv 3) pa_nil))) pa_nil))) (pa_cons (pe_tup (pa_cons (pe_str) (pa_cons (pe_lst (pa_cons (pe_ix (k_ixt K rfl) (pv 0) (pe_int) (fun _ _ => rfl)) (pa_cons (pv 3) pa_nil))) pa_nil))) pa_nil)))))) pss_nil)
  (pss_one (ps_ret (pv 4)))))))))))))), ?_⟩
  refine ⟨ln1, fun np hnp => ⟨_, rfl, ln2, fun sp hsp => ⟨ln0, fun f0 hf0 => ?_⟩⟩⟩
  have k1 := (Kp.new (o := .tup [.str "num"]) hnp).trans (Kp.new (o := .tup [.str "row", .ref np]) hsp)
  have np0 : upd (upd H np (.tup [.str "num"])) sp (.tup [.str "row", .ref np]) np = some (.tup [.str "num"]) := Kp.new hsp _ _ upd_same
  have sp0 : upd (upd H np (.tup [.str "num"])) sp (.tup [.str "row", .ref np]) sp = some (.tup [.str "row", .ref np]) := upd_same
  generalize upd (upd H np (.tup [.str "num"])) sp (.tup [.str "row", .ref np]) = H0 at k1 hf0 np0 sp0 ⊢
  have hn0 : KindAt H0 (.ref np) .num := ⟨np, rfl, np0⟩
  have hs0 : KindAt H0 (.ref sp) (.row .num) := ⟨sp, _, rfl, sp0, hn0⟩
  have hk0 := hk.mono k1.tk
  have hj0 := hj.mono k1.tk
  have dn : Kd.num.depth ≤ 5 := by decide
  have dt : Kd.truth.depth ≤ 5 := by decide
  have ds : (Kd.row .num).depth ≤ 5 := by decide
  have drt : (Kd.row .truth).depth ≤ 5 := by decide
  unfold gName
  dsimp only
  have hf1 : upd H0 f0 (.lst []) f0 = some (.lst []) := upd_same
  have K00 : Kp H0 (upd H0 f0 (.lst [])) := Kp.new hf0
  refine seqI (SI H0 k kv jv np sp (False) 3) (fun N hN => ?_) ?_
  · refine ⟨_, rfl, k, kv, rfl, hk0.mono K00.tk, by omega, fun H1 kq => ⟨_, _, rfl, rfl, _, rfl, itB (fun e => ?_) (fun e => hN _ _ ⟨f0, none, [], rfl, K00.trans kq, hf0, kq _ _ hf1, fun e h => absurd h (by simp), fun z => z.elim, Nat.zero_le _⟩)⟩⟩
    have lt : k.depth < 5 := by
      have := of_decide_eq_true e
      omega
    have K0 := K00.trans kq
    have f := f0
    have hf := kq _ _ hf1
    have hk1 := hk0.mono K0.tk
    have hj1 := hj0.mono K0.tk
    have hn1 := hn0.mono K0.tk
    have hs1 := hs0.mono K0.tk
    have dr : (Kd.row k).depth ≤ 5 := by show 1 + k.depth ≤ 5; omega
    have dp1 : (Kd.pair k j).depth ≤ 5 := by show 1 + max k.depth j.depth ≤ 5; omega
    have dp2 : (Kd.pair j k).depth ≤ 5 := by show 1 + max j.depth k.depth ≤ 5; omega
    refine ⟨_, rfl, ln2, fun a0 ha0 => ?_⟩
    have C0 := Kp.new (o := .tup [.str "row", kv]) ha0
    have rk0 : KindAt _ (.ref a0) (.row k) := ⟨a0, _, rfl, upd_same, hk1.mono ((Kp.refl : Kp H1 H1).trans C0).tk⟩
    refine ⟨_, rfl, ln2, fun l0 hl0 => ⟨ln2, fun p0 hp0 => ?_⟩⟩
    obtain ⟨sg0, ks0⟩ := sg_new ⟨_, ((Kp.refl : Kp H1 H1).trans C0) _ _ hf⟩ (.o2 (.pick k) rk0 (hn1.mono ((Kp.refl : Kp H1 H1).trans C0).tk) dr dn) hl0 hp0
    have E0 := C0.trans ks0
    have KB0 := (Kp.refl : Kp H1 H1).trans E0
    refine ⟨_, rfl, _, rfl, ln3, fun a1 ha1 => ?_⟩
    have C1 := Kp.new (o := .tup [.str "pair", kv, jv]) ha1
    have rk1 : KindAt _ (.ref a1) (.pair k j) := ⟨a1, _, _, rfl, upd_same, hk1.mono (KB0.trans C1).tk, hj1.mono (KB0.trans C1).tk⟩
    refine ⟨ln1, fun l1 hl1 => ⟨ln2, fun p1 hp1 => ?_⟩⟩
    obtain ⟨sg1, ks1⟩ := sg_new ⟨_, (KB0.trans C1) _ _ hf⟩ (.o1 (.first k j) rk1 dp1) hl1 hp1
    have E1 := C1.trans ks1
    have KB1 := KB0.trans E1
    refine ⟨ln2, fun g hg => ?_⟩
    have kg := Kp.new (o := .lst [.ref p0, .ref p1]) hg
    have sgA := sg0.kpn (E1.trans kg) (Kp.free E1 hg)
    have sgB := sg1.kpn kg hg
    have KG := KB1.trans kg
    refine ⟨_, rfl, .inl ⟨rfl, _, SqL.of upd_same⟩, ?_⟩
    refine ⟨_, rfl, _, rfl, ln3, fun a9 ha9 => ?_⟩
    have C9 := Kp.new (o := .tup [.str "pair", jv, kv]) ha9
    have rk9 : KindAt _ (.ref a9) (.pair j k) := ⟨a9, _, _, rfl, upd_same, hj1.mono (KG.trans C9).tk, hk1.mono (KG.trans C9).tk⟩
    refine ⟨ln1, fun l9 hl9 => ⟨ln2, fun p9 hp9 => ?_⟩⟩
    obtain ⟨sgC, ks9⟩ := sg_new (f := g) ⟨_, C9 _ _ upd_same⟩ (.o1 (.second j k) rk9 dp2) hl9 hp9
    have hg9 := ks9 _ _ (C9 g _ upd_same)
    refine ⟨g, _, _, rfl, rfl, hg9, line_lt (by show 2 ≤ 1000000; decide), ?_⟩
    refine hN _ _ ⟨g, none, [.ref p0, .ref p1, .ref p9], rfl, (((K0.trans KB1).trans kg).trans (C9.trans ks9)).put (Kp.free (K0.trans KB1) hg), Kp.free (K0.trans KB1) hg, upd_same, fun e h => ?_, fun _ => by simp, Nat.le_refl 3⟩
    simp only [List.mem_cons, List.not_mem_nil, or_false] at h
    rcases h with rfl | rfl | rfl
    · exact (sgA.kp1 (C9.trans ks9)).put rfl hg9
    · exact (sgB.kp1 (C9.trans ks9)).put rfl hg9
    · exact sgC.put rfl hg9
  rintro σ H1 ⟨f, v5, xs, rfl, K0, nf, hf, hx, hne, lx⟩
  have hk1 := hk0.mono K0.tk
  have hj1 := hj0.mono K0.tk
  have hn1 := hn0.mono K0.tk
  have hs1 := hs0.mono K0.tk
  refine seqI (SI H0 k kv jv np sp (k = .num) 12) (fun N hN => ?_) ?_
  · refine ⟨_, rfl, _, rfl, kind_eq hk1 hn1 (by omega) (by decide) ⟨_, rfl, itB (fun e => ?_) (fun e => hN _ _ ⟨f, v5, xs, rfl, K0, nf, hf, hx, fun z => absurd z (of_decide_eq_false e), by omega⟩)⟩⟩
    have ek := of_decide_eq_true e
    refine seqI (fun σ H' => ∃ f xs, σ = [some kv, some jv, some (.ref np), some (.ref sp), some (.ref f), v5] ∧ Kp H0 H' ∧ H0 f = none ∧ H' f = some (.lst xs) ∧ (∀ e ∈ xs, SgAt (· = f) H' e k) ∧ xs.length ≤ 9) (fun N hN => ?_) ?_
    · refine ⟨_, rfl, ln6, fun ll hll => ⟨ll, rfl, ⟨_, SqL.of upd_same⟩, fun D hD => lc_list (K := K) (g := gName 5) (a := ll) (xs := [.str "add", .str "sub", .str "mul", .str "div", .str "rest", .str "add"]) (fun i H2 => ∃ acc, Kp (upd H1 ll (.lst [.str "add", .str "sub", .str "mul", .str "div", .str "rest", .str "add"])) H2 ∧ H2 D = some (.lst acc) ∧ (∀ e ∈ acc, SgAt (fun a => a = f ∨ a = D) H2 e k) ∧ acc.length = i)
        ⟨[], Kp.new hD, upd_same, fun e h => absurd h (by simp), rfl⟩ (fun i H2 _ pv => ?_) ?_ ?_⟩⟩
      · obtain ⟨acc, kp, _⟩ := pv
        exact SqL.of (kp _ _ upd_same)
      · rintro i y H2 hi ⟨acc, kp, hDc, ha, la⟩
        obtain ⟨o, rfl⟩ := arith y (List.mem_of_getElem? hi)
        have k12 : Kp H1 H2 := (Kp.new hll).trans kp
        have li : i < 6 := (List.getElem?_eq_some_iff.mp hi).1
        refine ⟨rfl, itY <| itT rfl ⟨_, rfl, _, rfl, _, rfl, ln2, fun l1 hl1 => ⟨ln2, fun p1 hp1 => ?_⟩⟩⟩
        have oo : OpFor H2 k o.str [.ref np, .ref np] := by rw [ek]; exact .o2 o (hn1.mono k12.tk) (hn1.mono k12.tk) dn dn
        have nDf : D ≠ f := fun z => by rw [z, Kp.new hll _ _ hf] at hD; cases hD
        obtain ⟨s1, ks1⟩ := sg_newc (c := fun a => a = f ∨ a = D) (fun a z => by rcases z with rfl | rfl; exact ⟨_, k12 _ _ hf⟩; exact ⟨_, hDc⟩) oo hl1 hp1
        have hD3 := ks1 _ _ hDc
        refine ⟨_, hD3, line_lt (by omega), acc ++ [.ref p1], (kp.trans ks1).put hD, upd_same, fun e h => ?_, by rw [List.length_append, la]; rfl⟩
        rcases List.mem_append.mp h with h | h
        · exact ((ha e h).kp1 ks1).put (.inr rfl) hD3
        · rw [List.mem_singleton.mp h]
          exact s1.put (.inr rfl) hD3
      · rintro H2 ⟨acc, kp, hDc, ha, la⟩
        have k12 : Kp H1 H2 := (Kp.new hll).trans kp
        have la6 : acc.length = 6 := la
        refine ⟨f, D, xs, acc, rfl, rfl, k12 _ _ hf, hDc, line_le (by omega), fun g hg => hN _ _ ⟨g, xs ++ acc, rfl, (K0.trans k12).trans (Kp.new hg), Kp.free (K0.trans k12) hg, upd_same, fun e h => ?_, by rw [List.length_append]; omega⟩⟩
        rcases List.mem_append.mp h with h | h
        · exact (hx e h).kpn (k12.trans (Kp.new hg)) (Kp.free k12 hg)
        · exact ((ha e h).kp (c' := (· = f)) Kp.refl (fun a z => .inl (.inl z))).kpn (Kp.new hg) hg
    rintro σ H1 ⟨f, xs, rfl, K0, nf, hf, hx, lx⟩
    have hk1 := hk0.mono K0.tk
    have hj1 := hj0.mono K0.tk
    have hn1 := hn0.mono K0.tk
    have hs1 := hs0.mono K0.tk
    subst ek
    have drj : (Kd.row j).depth ≤ 5 := by show 1 + j.depth ≤ 5; omega
    refine ⟨_, rfl, _, rfl, ln1, fun l2 hl2 => ⟨ln2, fun p2 hp2 => ?_⟩⟩
    obtain ⟨sg2, ks2⟩ := sg_new ⟨_, (Kp.refl : Kp H1 H1) _ _ hf⟩ (.o1 .sum (hs1.mono (Kp.refl : Kp H1 H1).tk) ds) hl2 hp2
    have E2 := ks2
    have KB2 := (Kp.refl : Kp H1 H1).trans E2
    refine ⟨_, rfl, ln1, fun l3 hl3 => ⟨ln2, fun p3 hp3 => ?_⟩⟩
    obtain ⟨sg3, ks3⟩ := sg_new ⟨_, KB2 _ _ hf⟩ (.o1 .most (hs1.mono KB2.tk) ds) hl3 hp3
    have E3 := ks3
    have KB3 := KB2.trans E3
    refine ⟨_, rfl, ln2, fun a4 ha4 => ?_⟩
    have C4 := Kp.new (o := .tup [.str "row", jv]) ha4
    have rk4 : KindAt _ (.ref a4) (.row j) := ⟨a4, _, rfl, upd_same, hj1.mono (KB3.trans C4).tk⟩
    refine ⟨ln1, fun l4 hl4 => ⟨ln2, fun p4 hp4 => ?_⟩⟩
    obtain ⟨sg4, ks4⟩ := sg_new ⟨_, (KB3.trans C4) _ _ hf⟩ (.o1 (.long j) rk4 drj) hl4 hp4
    have E4 := C4.trans ks4
    have KB4 := KB3.trans E4
    exact ⟨ln3, fun lz hlz => sg_cat (es := [.ref p2, .ref p3, .ref p4]) hN (K0.trans KB4) (KB4 _ _ hf) (fun e h => (hx e h).kp1 KB4) (fun e h => by
        simp only [List.mem_cons, List.not_mem_nil, or_false] at h
        rcases h with rfl | rfl | rfl
        · exact sg2.kp1 (E3.trans E4)
        · exact sg3.kp1 E4
        · exact sg4) lx (by intro _; simp) (by show 9 + 3 ≤ 12; decide) (by decide) upd_same hlz⟩
  rintro σ H1 ⟨f, v5, xs, rfl, K0, nf, hf, hx, hne, lx⟩
  have hk1 := hk0.mono K0.tk
  have hj1 := hj0.mono K0.tk
  have hn1 := hn0.mono K0.tk
  have hs1 := hs0.mono K0.tk
  refine seqI (SI H0 k kv jv np sp (k = .num ∨ k = .truth) 17) (fun N hN => ?_) ?_
  · refine ⟨_, rfl, ln1, fun tq htq => ?_⟩
    have CT := Kp.new (o := .tup [.str "truth"]) htq
    have hf2 := CT _ _ hf
    have ht1 : KindAt (upd H1 tq (.tup [.str "truth"])) (.ref tq) .truth := ⟨tq, rfl, upd_same⟩
    refine kind_eq (hk1.mono CT.tk) ht1 (by omega) (by decide) ⟨_, rfl, itB (fun e => ?_) (fun e => hN _ _ ⟨f, v5, xs, rfl, K0.trans CT, nf, hf2, fun e h => (hx e h).kp1 CT, fun z => z.elim hne (fun z => absurd z (of_decide_eq_false e)), by omega⟩)⟩
    have ek := of_decide_eq_true e
    subst ek
    have K1t := K0.trans CT
    refine seqI (SI H0 .truth kv jv np sp True 15) (fun N hN => ?_) ?_
    · obtain ⟨Hb, hHb⟩ : ∃ Hb, Hb = upd H1 tq (.tup [.str "truth"]) := ⟨_, rfl⟩
      rw [← hHb] at CT hf2 ht1 K1t ⊢
      have hx := fun e h => (hx e h).kp1 CT
      have K0 := K1t
      have hf := hf2
      have hk1 := hk0.mono K0.tk
      have hj1 := hj0.mono K0.tk
      have hn1 := hn0.mono K0.tk
      have hs1 := hs0.mono K0.tk
      refine ⟨_, rfl, _, rfl, ln1, fun l5 hl5 => ⟨ln2, fun p5 hp5 => ?_⟩⟩
      obtain ⟨sg5, ks5⟩ := sg_new ⟨_, (Kp.refl : Kp Hb Hb) _ _ hf⟩ (.o1 .not (hk1.mono (Kp.refl : Kp Hb Hb).tk) dt) hl5 hp5
      have E5 := ks5
      have KB5 := (Kp.refl : Kp Hb Hb).trans E5
      refine ⟨_, rfl, _, rfl, ln2, fun l6 hl6 => ⟨ln2, fun p6 hp6 => ?_⟩⟩
      obtain ⟨sg6, ks6⟩ := sg_new ⟨_, KB5 _ _ hf⟩ (.o2 .both (hk1.mono KB5.tk) (hk1.mono KB5.tk) dt dt) hl6 hp6
      have E6 := ks6
      have KB6 := KB5.trans E6
      refine ⟨_, rfl, _, rfl, ln2, fun l7 hl7 => ⟨ln2, fun p7 hp7 => ?_⟩⟩
      obtain ⟨sg7, ks7⟩ := sg_new ⟨_, KB6 _ _ hf⟩ (.o2 .sameT (hk1.mono KB6.tk) (hk1.mono KB6.tk) dt dt) hl7 hp7
      have E7 := ks7
      have KB7 := KB6.trans E7
      exact ⟨ln3, fun lz hlz => sg_cat (es := [.ref p5, .ref p6, .ref p7]) hN (K0.trans KB7) (KB7 _ _ hf) (fun e h => (hx e h).kp1 KB7) (fun e h => by
          simp only [List.mem_cons, List.not_mem_nil, or_false] at h
          rcases h with rfl | rfl | rfl
          · exact sg5.kp1 (E6.trans E7)
          · exact sg6.kp1 E7
          · exact sg7) lx (by intro _; simp) (by show 12 + 3 ≤ 15; decide) (by decide) upd_same hlz⟩
    rintro σ H1 ⟨f, v5, xs, rfl, K0, nf, hf, hx, hne, lx⟩
    have hk1 := hk0.mono K0.tk
    have hj1 := hj0.mono K0.tk
    have hn1 := hn0.mono K0.tk
    have hs1 := hs0.mono K0.tk
    refine ⟨_, rfl, _, rfl, _, rfl, ln2, fun l8 hl8 => ⟨ln2, fun p8 hp8 => ?_⟩⟩
    obtain ⟨sg8, ks8⟩ := sg_new ⟨_, (Kp.refl : Kp H1 H1) _ _ hf⟩ (.o2 .sameN (hn1.mono (Kp.refl : Kp H1 H1).tk) (hn1.mono (Kp.refl : Kp H1 H1).tk) dn dn) hl8 hp8
    have E8 := ks8
    have KB8 := (Kp.refl : Kp H1 H1).trans E8
    refine ⟨_, rfl, _, rfl, ln2, fun l9 hl9 => ⟨ln2, fun p9 hp9 => ?_⟩⟩
    obtain ⟨sg9, ks9⟩ := sg_new ⟨_, KB8 _ _ hf⟩ (.o2 .less (hn1.mono KB8.tk) (hn1.mono KB8.tk) dn dn) hl9 hp9
    have E9 := ks9
    have KB9 := KB8.trans E9
    exact ⟨ln2, fun lz hlz => sg_cat (es := [.ref p8, .ref p9]) hN (K0.trans KB9) (KB9 _ _ hf) (fun e h => (hx e h).kp1 KB9) (fun e h => by
        simp only [List.mem_cons, List.not_mem_nil, or_false] at h
        rcases h with rfl | rfl
        · exact sg8.kp1 E9
        · exact sg9) lx (by intro _; simp) (by show 15 + 2 ≤ 17; decide) (by decide) upd_same hlz⟩
  rintro σ H1 ⟨f, v5, xs, rfl, K0, nf, hf, hx, hne, lx⟩
  have hk1 := hk0.mono K0.tk
  have hj1 := hj0.mono K0.tk
  have hn1 := hn0.mono K0.tk
  have hs1 := hs0.mono K0.tk
  refine seqI (SI H0 k kv jv np sp ((k = .num ∨ k = .truth) ∨ ∃ a b, k = .pair a b) 20) (fun N hN => ?_) ?_
  · obtain ⟨kp, kcs, ekv, hkp⟩ := hk1.name
    have ekv2 := ekv
    subst ekv
    refine ⟨_, rfl, _, _, _, _, rfl, rfl, SqT.of hkp, atI_zero, rfl, _, rfl, itB (fun e => ?_) (fun e => hN _ _ ⟨f, v5, xs, rfl, K0, nf, hf, hx, fun z => z.elim hne (fun ⟨a, b, z⟩ => by subst z; exact absurd e no_pair), by omega⟩)⟩
    obtain ⟨a, b, rfl⟩ := is_pair e
    obtain ⟨kp2, x1, x2, e2, hkp2, r1, r2⟩ := id hk1
    obtain rfl := V.ref.inj e2
    have da : a.depth ≤ 5 := by have z : 1 + max a.depth b.depth ≤ 5 := dk; omega
    have db : b.depth ≤ 5 := by have z : 1 + max a.depth b.depth ≤ 5 := dk; omega
    refine ⟨_, rfl, _, rfl, _, rfl, kp, _, rfl, SqT.of hkp2, fun z => absurd z (sIx_one _ _), fun _ g hg => ?_⟩
    rw [cutV_one]
    have Cg := Kp.new (o := .tup [x1, x2]) hg
    refine ⟨g, [x1, x2], rfl, .inr (SqT.of upd_same), fun l hl => ⟨ln2, fun p hp => ?_⟩⟩
    obtain ⟨s1, ks1⟩ := sg_new ⟨_, Cg _ _ hf⟩ (.o2 (.pair a b) (r1.mono Cg.tk) (r2.mono Cg.tk) da db) hl hp
    have KS := Cg.trans ks1
    refine ⟨ln1, fun l2 hl2 => ⟨l2, 3, _, rfl, rfl, upd_same, by decide, by decide, by show 1 * 3 ≤ sizeLine; decide, fun l3 hl3 => ?_⟩⟩
    have k3 := (Kp.new (o := .lst [.ref p]) hl2).trans (Kp.new (o := .lst (List.replicate (3 : Int).toNat [V.ref p]).flatten) hl3)
    refine ⟨f, l3, xs, [.ref p, .ref p, .ref p], rfl, rfl, k3 _ _ (KS _ _ hf), upd_same, line_le (by show xs.length + 3 ≤ _; omega), fun g2 hg2 => hN _ _ ⟨g2, v5, _, rfl, ((K0.trans KS).trans k3).trans (Kp.new hg2), Kp.free ((K0.trans KS).trans k3) hg2, upd_same, fun e h => ?_, fun _ => by simp, by rw [List.length_append]; show xs.length + 3 ≤ 20; omega⟩⟩
    rcases List.mem_append.mp h with h | h
    · exact (hx e h).kpn ((KS.trans k3).trans (Kp.new hg2)) (Kp.free (KS.trans k3) hg2)
    · have ee : e = .ref p := by simpa using h
      rw [ee]
      exact s1.kpn (k3.trans (Kp.new hg2)) (Kp.free k3 hg2)
  rintro σ H1 ⟨f, v5, xs, rfl, K0, nf, hf, hx, hne, lx⟩
  have hk1 := hk0.mono K0.tk
  have hj1 := hj0.mono K0.tk
  have hn1 := hn0.mono K0.tk
  have hs1 := hs0.mono K0.tk
  refine seqI (SI H0 k kv jv np sp (True) 23) (fun N hN => ?_) ?_
  · obtain ⟨kp, kcs, ekv, hkp⟩ := hk1.name
    have ekv2 := ekv
    subst ekv
    refine ⟨_, rfl, _, _, _, _, rfl, rfl, SqT.of hkp, atI_zero, rfl, _, rfl, itB (fun e => ?_) (fun e => hN _ _ ⟨f, v5, xs, rfl, K0, nf, hf, hx, fun _ => hne ?_, by omega⟩)⟩
    · obtain ⟨a, rfl⟩ := is_row e
      obtain ⟨kp2, x1, e2, hp1, hx1⟩ := id hk1
      obtain rfl := V.ref.inj e2
      have da : a.depth ≤ 5 := by have z : 1 + a.depth ≤ 5 := dk; omega
      refine ⟨_, rfl, _, rfl, _, _, _, _, rfl, rfl, SqT.of ((Kp.refl : Kp H1 H1) _ _ hp1), atI_one, ln1, fun l10 hl10 => ⟨ln2, fun p10 hp10 => ?_⟩⟩
      obtain ⟨sg10, ks10⟩ := sg_new ⟨_, (Kp.refl : Kp H1 H1) _ _ hf⟩ (.o1 (.one a) (hx1.mono (Kp.refl : Kp H1 H1).tk) da) hl10 hp10
      have E10 := ks10
      have KB10 := (Kp.refl : Kp H1 H1).trans E10
      refine ⟨_, rfl, _, rfl, ln2, fun l11 hl11 => ⟨ln2, fun p11 hp11 => ?_⟩⟩
      obtain ⟨sg11, ks11⟩ := sg_new ⟨_, KB10 _ _ hf⟩ (.o2 (.join a) (hk1.mono KB10.tk) (hk1.mono KB10.tk) dk dk) hl11 hp11
      have E11 := ks11
      have KB11 := KB10.trans E11
      refine ⟨_, rfl, ln1, fun a12 ha12 => ?_⟩
      refine ⟨ln2, fun b12 hb12 => ?_⟩
      have C12 := (Kp.new (o := .tup [.str "truth"]) ha12).trans (Kp.new (o := .tup [.str "row", .ref a12]) hb12)
      have rk12 : KindAt _ (.ref b12) (.row .truth) := ⟨b12, .ref a12, rfl, upd_same, ⟨a12, rfl, Kp.new hb12 _ _ upd_same⟩⟩
      refine ⟨ln2, fun l12 hl12 => ⟨ln2, fun p12 hp12 => ?_⟩⟩
      obtain ⟨sg12, ks12⟩ := sg_new ⟨_, (KB11.trans C12) _ _ hf⟩ (.o2 (.keep a) (hk1.mono (KB11.trans C12).tk) rk12 dk drt) hl12 hp12
      have E12 := C12.trans ks12
      have KB12 := KB11.trans E12
      exact ⟨ln3, fun lz hlz => sg_cat (es := [.ref p10, .ref p11, .ref p12]) hN (K0.trans KB12) (KB12 _ _ hf) (fun e h => (hx e h).kp1 KB12) (fun e h => by
          simp only [List.mem_cons, List.not_mem_nil, or_false] at h
          rcases h with rfl | rfl | rfl
          · exact sg10.kp1 (E11.trans E12)
          · exact sg11.kp1 E12
          · exact sg12) lx (by intro _; simp) (by show 20 + 3 ≤ 23; decide) (by decide) upd_same hlz⟩
    · cases k with
      | num => exact .inl (.inl rfl)
      | truth => exact .inl (.inr rfl)
      | pair a b => exact .inr ⟨a, b, rfl⟩
      | row a => exact absurd e no_row
  rintro σ H1 ⟨f, v5, xs, rfl, K0, nf, hf, hx, hneS0, lx⟩
  have hk1 := hk0.mono K0.tk
  have hj1 := hj0.mono K0.tk
  have hn1 := hn0.mono K0.tk
  have hs1 := hs0.mono K0.tk
  refine seqI (SI H0 k kv jv np sp (True) 24) (fun N hN => ?_) ?_
  · obtain ⟨kp, kcs, ekv, hkp⟩ := hk1.name
    refine ⟨_, rfl, _, _, _, _, ekv, rfl, SqT.of hkp, atI_zero, rfl, _, rfl, itB (fun e => ?_) (fun e => itF rfl (hN _ _ ⟨f, v5, xs, rfl, K0, nf, hf, hx, hneS0, by omega⟩))⟩
    obtain ⟨a, rfl⟩ := is_row e
    refine ⟨_, rfl, .row a, kv, rfl, hk1, by omega, fun H2 k2 => ⟨_, _, rfl, rfl, _, rfl, itB (fun e2 => ?_) (fun e2 => hN _ _ ⟨f, v5, xs, rfl, K0.trans k2, nf, k2 _ _ hf, fun e h => (hx e h).kp1 k2, hneS0, by omega⟩)⟩⟩
    have lt : (Kd.row a).depth < 5 := by
      have := of_decide_eq_true e2
      omega
    have hf2 := k2 _ _ hf
    refine ⟨_, rfl, .inl ⟨rfl, _, SqL.of hf2⟩, _, rfl, ln2, fun a9 ha9 => ?_⟩
    have C9 := Kp.new (o := .tup [.str "row", kv]) ha9
    have rk9 : KindAt _ (.ref a9) (.row (.row a)) := ⟨a9, _, rfl, upd_same, hk1.mono (k2.trans C9).tk⟩
    refine ⟨ln1, fun l9 hl9 => ⟨ln2, fun p9 hp9 => ?_⟩⟩
    obtain ⟨sgC, ks9⟩ := sg_new (f := f) ⟨_, C9 _ _ hf2⟩ (.o1 (.flat a) rk9 (by show 1 + (Kd.row a).depth ≤ 5; omega)) hl9 hp9
    have hf9 := ks9 _ _ (C9 _ _ hf2)
    have K9 := (k2.trans C9).trans ks9
    refine ⟨f, _, _, rfl, rfl, hf9, line_lt (by omega), hN _ _ ⟨f, v5, xs ++ [.ref p9], rfl, (K0.trans K9).put nf, nf, upd_same, fun e h => ?_, fun _ => by simp, by rw [List.length_append]; show xs.length + 1 ≤ 24; omega⟩⟩
    rcases List.mem_append.mp h with h | h
    · exact ((hx e h).kp1 K9).put rfl hf9
    · rw [List.mem_singleton.mp h]
      exact sgC.put rfl hf9
  rintro σ H1 ⟨f, v5, xs, rfl, K0, nf, hf, hx, hneS1, lx⟩
  have hk1 := hk0.mono K0.tk
  have hj1 := hj0.mono K0.tk
  have hn1 := hn0.mono K0.tk
  have hs1 := hs0.mono K0.tk
  refine seqI (SI H0 k kv jv np sp (True) 27) (fun N hN => ?_) ?_
  · refine ⟨_, rfl, _, rfl, kind_eq hk1 hs1 (by omega) (by decide) ⟨_, rfl, itB (fun e => ?_) (fun e => hN _ _ ⟨f, v5, xs, rfl, K0, nf, hf, hx, hneS1, by omega⟩)⟩⟩
    have ek := of_decide_eq_true e
    subst ek
    refine ⟨_, rfl, _, rfl, ln1, fun l13 hl13 => ⟨ln2, fun p13 hp13 => ?_⟩⟩
    obtain ⟨sg13, ks13⟩ := sg_new ⟨_, (Kp.refl : Kp H1 H1) _ _ hf⟩ (.o1 .sums (hs1.mono (Kp.refl : Kp H1 H1).tk) ds) hl13 hp13
    have E13 := ks13
    have KB13 := (Kp.refl : Kp H1 H1).trans E13
    refine ⟨_, rfl, ln1, fun l14 hl14 => ⟨ln2, fun p14 hp14 => ?_⟩⟩
    obtain ⟨sg14, ks14⟩ := sg_new ⟨_, KB13 _ _ hf⟩ (.o1 .upto (hn1.mono KB13.tk) dn) hl14 hp14
    have E14 := ks14
    have KB14 := KB13.trans E14
    refine ⟨_, rfl, ln1, fun l15 hl15 => ⟨ln2, fun p15 hp15 => ?_⟩⟩
    obtain ⟨sg15, ks15⟩ := sg_new ⟨_, KB14 _ _ hf⟩ (.o1 .upto (hn1.mono KB14.tk) dn) hl15 hp15
    have E15 := ks15
    have KB15 := KB14.trans E15
    exact ⟨ln3, fun lz hlz => sg_cat (es := [.ref p13, .ref p14, .ref p15]) hN (K0.trans KB15) (KB15 _ _ hf) (fun e h => (hx e h).kp1 KB15) (fun e h => by
        simp only [List.mem_cons, List.not_mem_nil, or_false] at h
        rcases h with rfl | rfl | rfl
        · exact sg13.kp1 (E14.trans E15)
        · exact sg14.kp1 E15
        · exact sg15) lx (by intro _; simp) (by show 24 + 3 ≤ 27; decide) (by decide) upd_same hlz⟩
  rintro σ H1 ⟨f, v5, xs, rfl, K0, nf, hf, hx, hneS2, lx⟩
  have hk1 := hk0.mono K0.tk
  have hj1 := hj0.mono K0.tk
  have hn1 := hn0.mono K0.tk
  have hs1 := hs0.mono K0.tk
  refine seqI (SI H0 k kv jv np sp (True) 29) (fun N hN => ?_) ?_
  · obtain ⟨kp, kcs, ekv, hkp⟩ := hk1.name
    refine ⟨_, rfl, _, _, _, _, ekv, rfl, SqT.of hkp, atI_zero, rfl, _, rfl, itB (fun e => ?_) (fun e => itF rfl (hN _ _ ⟨f, v5, xs, rfl, K0, nf, hf, hx, hneS2, by omega⟩))⟩
    obtain ⟨a, rfl⟩ := is_row e
    obtain ⟨kp2, x1, e2, hp1, hx1⟩ := id hk1
    subst e2
    obtain ⟨kq, kcs2, ex1, hkq⟩ := hx1.name
    refine ⟨_, rfl, _, _, _, _, rfl, rfl, SqT.of hp1, atI_one, _, _, _, _, ex1, rfl, SqT.of hkq, atI_zero, rfl, _, rfl, itB (fun e2 => ?_) (fun e2 => hN _ _ ⟨f, v5, xs, rfl, K0, nf, hf, hx, hneS2, by omega⟩)⟩
    obtain ⟨a2, rfl⟩ := is_row e2
    have da : (Kd.row a2).depth ≤ 5 := by have z : 1 + (Kd.row a2).depth ≤ 5 := dk; omega
    refine ⟨_, rfl, _, rfl, _, _, _, _, rfl, rfl, SqT.of ((Kp.refl : Kp H1 H1) _ _ hp1), atI_one, _, rfl, ln2, fun l16 hl16 => ⟨ln2, fun p16 hp16 => ?_⟩⟩
    obtain ⟨sg16, ks16⟩ := sg_new ⟨_, (Kp.refl : Kp H1 H1) _ _ hf⟩ (.o2 (.cut a2) (hx1.mono (Kp.refl : Kp H1 H1).tk) (hs1.mono (Kp.refl : Kp H1 H1).tk) da ds) hl16 hp16
    have E16 := ks16
    have KB16 := (Kp.refl : Kp H1 H1).trans E16
    refine ⟨_, rfl, _, _, _, _, rfl, rfl, SqT.of (KB16 _ _ hp1), atI_one, _, rfl, ln2, fun l17 hl17 => ⟨ln2, fun p17 hp17 => ?_⟩⟩
    obtain ⟨sg17, ks17⟩ := sg_new ⟨_, KB16 _ _ hf⟩ (.o2 (.cut a2) (hx1.mono KB16.tk) (hs1.mono KB16.tk) da ds) hl17 hp17
    have E17 := ks17
    have KB17 := KB16.trans E17
    exact ⟨ln2, fun lz hlz => sg_cat (es := [.ref p16, .ref p17]) hN (K0.trans KB17) (KB17 _ _ hf) (fun e h => (hx e h).kp1 KB17) (fun e h => by
        simp only [List.mem_cons, List.not_mem_nil, or_false] at h
        rcases h with rfl | rfl
        · exact sg16.kp1 E17
        · exact sg17) lx (by intro _; simp) (by show 27 + 2 ≤ 29; decide) (by decide) upd_same hlz⟩
  rintro σ H1 ⟨f, v5, xs, rfl, K0, nf, hf, hx, hneS2, lx⟩
  exact ⟨_, rfl, q f xs H1 (k1.trans K0) hf (fun e h => (hx e h).kp Kp.refl (fun _ z => z.elim)) (hneS2 trivial) (by omega)⟩
end
end Br
/-! The law's drawing: names. -/
namespace Br
open PySem L2
open PySem.Spec PyProof.Rows
def plainN : List Str := ["v", "addx", "rowe", "numb", "q", "eachz"]
def lets : List Nat := ("abcdefghijklmnopqrstuvwxyz" : Str).cps.toList
def lt (i : Nat) : Nat := lets.getD i 0
def IsSfx (y : Str) (m : Nat) : Prop := ∃ b ∈ plainN, y = (b ++ (⟨#[lt (m % 26)]⟩ : Str)) ++ (⟨#[lt (m / 26 % 26)]⟩ : Str)
theorem sfx_cps (b : Str) (c d : Nat) : ((b ++ (⟨#[c]⟩ : Str)) ++ (⟨#[d]⟩ : Str)).cps.toList = b.cps.toList ++ [c] ++ [d] := by
  show ((b.cps ++ #[c]) ++ #[d]).toList = _
  simp
theorem lt_inj : ∀ i < 26, ∀ j < 26, lt i = lt j → i = j := by decide +kernel
theorem IsSfx.inj {y : Str} {m n : Nat} (h : IsSfx y m) (h2 : IsSfx y n) (hm : m < 676) (hn : n < 676) : m = n := by
  obtain ⟨b, _, e⟩ := h
  obtain ⟨b2, _, e2⟩ := h2
  have z := congrArg (fun s : Str => s.cps.toList) (e.symm.trans e2)
  simp only [sfx_cps] at z
  obtain ⟨z1, z2⟩ := List.append_inj' z rfl
  obtain ⟨z3, z4⟩ := List.append_inj' z1 rfl
  have a1 := lt_inj _ (Nat.mod_lt _ (by decide)) _ (Nat.mod_lt _ (by decide)) (List.singleton_inj.mp z2)
  have a2 := lt_inj _ (Nat.mod_lt _ (by decide)) _ (Nat.mod_lt _ (by decide)) (List.singleton_inj.mp z4)
  omega
theorem sfx_not {y : Str} {m : Nat} (h : IsSfx y m) : y ∉ plainN ∧ y ≠ "x" ∧ y ≠ "w" := by
  obtain ⟨b, hb, e⟩ := h
  have z := congrArg (fun s : Str => s.cps.toList.dropLast.dropLast) e
  simp only [sfx_cps, List.dropLast_concat] at z
  have all : ∀ p ∈ ("x" : Str) :: ("w" : Str) :: plainN, ∀ b ∈ plainN, p.cps.toList.dropLast.dropLast ≠ b.cps.toList := by decide +kernel
  refine ⟨fun hy => all y (by simp [hy]) b hb z, fun hy => all y (by simp [hy]) b hb z, fun hy => all y (by simp [hy]) b hb z⟩
def spName (K : PySem.W.Frag) (sc : Addr) : Sp := fun vs H Q _ => ∃ s nv L z n m, vs = [.ref s, nv, .int z] ∧ StAt K sc H s n m ∧ NamesAt H nv L ∧ L.length ≤ 1000 ∧
  ∀ y m' H', But s H H' → StAt K sc H' s n m' → ((m' = m ∧ y ∈ plainN ∧ y ∉ L.map (·.1)) ∨ (m' = m + 1 ∧ IsSfx y m)) → Q (.str y) H'
theorem in_strs (s : Str) (l : List Str) : inV (.str s) (l.map V.str) = decide (s ∈ l) := by
  induction l with
  | nil => simp [inV]
  | cons a l ih =>
    unfold inV at ih ⊢
    rw [List.map_cons, List.any_cons, ih]
    have e : eqV (.str a) (.str s) = (a == s) := rfl
    rw [e]
    by_cases h : a = s
    · subst h
      simp
    · have h2 : (a == s) = false := by simpa using h
      rw [h2, Bool.false_or]
      exact decide_eq_decide.mpr ⟨fun z => List.mem_cons_of_mem _ z, fun z => (List.mem_cons.mp z).resolve_left (fun q => h q.symm)⟩
theorem flat_strs (l : List Str) : (l.map V.str).all flatV = true := by
  rw [List.all_eq_true]
  intro x hx
  obtain ⟨y, _, rfl⟩ := List.mem_map.mp hx
  rfl
theorem let_at (m : Nat) : atI ("abcdefghijklmnopqrstuvwxyz" : Str).cps.toList ((m : Int) % 26) = some (lt (m % 26)) := by
  have h : m % 26 < 26 := Nat.mod_lt _ (by decide)
  have e : ((m : Int) % 26) = ((m % 26 : Nat) : Int) := by omega
  rw [e]
  refine atI_nat (xs := lets) ?_
  have l : lets.length = 26 := by decide +kernel
  unfold lt
  rw [List.getD_eq_getElem?_getD, List.getElem?_eq_getElem (by omega)]
  rfl
section
variable {P : Program} {w : World} {K : PySem.W.Frag} {mg : Str → Option Value} {base : Heap} {aC aB f sc : Addr} {fd : FuncData}
theorem fn_law_name (T : Tp K mg aC aB) (F : At K mg "_law_name" s_law_name p_law_name f fd) : Fn P w K mg base 1 "_law_name" (spName K sc) := by
  refine fn_by F sc_law_name ?_ (fun cdv A outer s0 H vs Q E hr h => ?_)
  · rintro vs H Q E ⟨s, nv, L, z, n, m, rfl, _⟩
    rfl
  obtain ⟨s, nv, L, z, n, m, rfl, st, ⟨na, es, rfl, hna, pr⟩, hL, q⟩ := h
  refine ⟨_, (pss_cons (ps_set (i := 3) sc_law_name.nd rfl (by first | exact Or.inl rfl | exact Or.inr rfl) (pe_str))
  (pss_cons (ps_set (i := 4) sc_law_name.nd rfl (by first | exact Or.inl rfl | exact Or.inr rfl) (pe_lst (pa_cons (pe_str) (pa_cons (pe_str) (pa_cons (pe_str) (pa_cons (pe_str) (pa_cons (pe_str) (pa_cons (pe_str) pa_nil))))))))
  (pss_cons (ps_setLc (i := 5) (own := [("one", 7)]) rfl sc_law_name.nd rfl rfl (sw_true rfl rfl rfl (by decide +kernel)) (k_pil K rfl (pv 4)) (blkOk_by (own := [("one", 7)]) (by rfl)) (fun _ _ _ _ _ => (pg_name (i := 7) sc_law_name.nd rfl (by first | exact Or.inl rfl | exact Or.inr rfl))) (fun _ _ _ _ _ => (pts_one (pt_cmpR (k_ni K rfl) (pv 7) (pe_lc (own := [("pair", 8)]) rfl sc_law_name.nd (k_pil K rfl (pv 1)) (blkOk_by (own := [("pair", 8)]) (by rfl)) (fun _ _ _ _ _ => (pg_name (i := 8) sc_law_name.nd rfl (by first | exact Or.inl rfl | exact Or.inr rfl))) (fun _ _ _ _ _ => pts_nil) (fun _ _ _ _ _ => (pe_ix (k_ixt K rfl) (pv 8) (pe_int) (fun _ _ => rfl)))) rfl))) (fun _ _ _ _ _ => (pv 7)))
  (pss_cons (ps_if (pw_and (pt_cmpR op_gt (pe_op op_mod (pv 2) (pe_int)) (pe_int) (nomark _)) (pw_and1 (pt_cmpR op_gt (pe_callB (k_len K rfl) (by rfl) T.len (by decide +kernel) (pa_cons (pv 5) pa_nil)) (pe_int) (nomark _)))).pt (pss_one (ps_ret (pe_ix (k_ixl K rfl) (pv 5) (pe_op op_mod (pe_op op_fdiv (pv 2) (pe_int)) (pe_callB (k_len K rfl) (by rfl) T.len (by decide +kernel) (pa_cons (pv 5) pa_nil))) (fun _ _ => rfl)))) pss_nil)
  (pss_cons (ps_set (i := 6) sc_law_name.nd rfl (by first | exact Or.inl rfl | exact Or.inr rfl) (pe_dget (hu_of hr) (pv 0) (pe_str) (fun _ _ => rfl)))
  (pss_cons (ps_dput (hu_of hr) (pv 0) (pe_str) (pe_op op_add (pv 6) (pe_int)) rfl)
  (pss_one (ps_ret (pe_op op_add_str (pe_op op_add_str (pe_ix (k_ixl K rfl) (pv 4) (pe_op op_mod (pe_op op_fdiv (pv 2) (pe_int)) (pe_int)) (fun _ _ => rfl)) (pe_ix ix_str (pv 3) (pe_op op_mod (pv 6) (pe_int)) (fun _ _ => rfl))) (pe_ix ix_str (pv 3) (pe_op op_mod (pe_op op_fdiv (pv 6) (pe_int)) (pe_int)) (fun _ _ => rfl))))))))))), ?_⟩
  have les : es.length = L.length := Paired.len pr
  refine ⟨ln6, fun sl hsl => ?_⟩
  have k1 : Kp H (upd H sl (.lst (plainN.map V.str))) := Kp.new hsl
  have hs1 : upd H sl (.lst (plainN.map V.str)) sl = some (.lst (plainN.map V.str)) := upd_same
  refine ⟨_, rfl, sl, rfl, ⟨_, SqL.of hs1⟩, fun D hD => lc_list (K := K) (g := gName 7) (a := sl) (xs := plainN.map V.str) (fun i H' => ∃ l : List Str, Kp (upd H sl (.lst (plainN.map V.str))) H' ∧ H' D = some (.lst (l.map V.str)) ∧ (∀ x ∈ l, x ∈ plainN ∧ x ∉ L.map (·.1)) ∧ l.length ≤ i)
    ⟨[], Kp.new hD, upd_same, fun x hx => absurd hx (by simp), Nat.le_refl _⟩ (fun i H' _ pv => ?_) ?_ ?_⟩
  · obtain ⟨l, kp, _⟩ := pv
    exact SqL.of (kp _ _ hs1)
  · rintro i y H' hi ⟨l, kp, hDc, hl, ll⟩
    obtain ⟨x, hx, rfl⟩ := map_get hi
    have li : i < 6 := (List.getElem?_eq_some_iff.mp hx).1
    have k2 := k1.trans kp
    refine ⟨rfl, _, rfl, _, rfl, na, rfl, ⟨_, SqL.of (k2 _ _ hna)⟩, fun D2 hD2 => lc_list (K := K) (g := gName 8) (a := na) (xs := es) (fun j H3 => Kp H' H3 ∧ H3 D2 = some (.lst (((L.map (·.1)).take j).map V.str)))
      ⟨Kp.new hD2, upd_same⟩ (fun j H3 _ pv => SqL.of ((k2.trans pv.1) _ _ hna)) ?_ ?_⟩
    · rintro j y H3 hj ⟨k3, hD3⟩
      obtain ⟨e, he, p, kv, rfl, hp, _⟩ := Paired.at pr hj
      have lj : j < es.length := (List.getElem?_eq_some_iff.mp hj).1
      have ej : (L.map (·.1))[j]? = some e.1 := by rw [List.getElem?_map, he]; rfl
      refine ⟨rfl, itY <| itT rfl ⟨_, rfl, _, _, _, _, rfl, rfl, SqT.of ((k2.trans k3) _ _ hp), atI_zero, _, hD3, line_lt (by rw [List.length_map, List.length_take, List.length_map]; omega), k3.put hD2, ?_⟩⟩
      rw [take_more ej, upd_same, List.map_append]
      rfl
    · rintro H3 ⟨k3, hD3⟩
      rw [les, ← List.length_map (as := L) (f := (·.1)), List.take_length] at hD3
      have hD4 := k3 _ _ hDc
      refine ⟨D2, _, rfl, .inl (SqL.of hD3), rfl, flat_strs _, _, rfl, ?_⟩
      refine itB (fun e => ?_) (fun e => ⟨l, kp.trans k3, hD4, hl, by omega⟩)
      have ni : x ∉ L.map (·.1) := fun z => by
        have e2 : (!inV (.str x) ((L.map (·.1)).map V.str)) = true := e
        rw [in_strs, decide_eq_true z] at e2
        cases e2
      refine ⟨_, rfl, _, hD4, line_lt (by rw [List.length_map]; omega), l ++ [x], (kp.trans k3).put hD, by rw [upd_same, List.map_append]; rfl, fun y hy => ?_, by rw [List.length_append]; show l.length + 1 ≤ _; omega⟩
      rcases List.mem_append.mp hy with hy | hy
      · exact hl y hy
      · rw [List.mem_singleton.mp hy]
        exact ⟨List.mem_of_getElem? hx, ni⟩
  rintro H1 ⟨l, kp, hl, gl, ll⟩
  have k2 := k1.trans kp
  unfold gName
  dsimp only
  refine seqI (fun σ H' => σ = [some (.ref s), some (.ref na), some (.int z), some (.str "abcdefghijklmnopqrstuvwxyz"), some (.ref sl), some (.ref D), none, none, none] ∧ H' = H1) (fun N hN => ?_) ?_
  · refine ⟨_, rfl, _, _, rfl, rfl, (by show (0 : Int) < 3; decide), _, _, rfl, rfl, _, rfl, itB (fun e => ?_) (fun e => itF rfl (hN _ _ ⟨rfl, rfl⟩))⟩
    refine ⟨_, rfl, D, _, rfl, .inl (SqL.of hl), _, _, rfl, rfl, _, rfl, itB (fun e2 => ?_) (fun e2 => hN _ _ ⟨rfl, rfl⟩)⟩
    have pos : 0 < (l.map V.str).length := by
      have := of_decide_eq_true e2
      omega
    obtain ⟨v, hv, ev⟩ := atI_mod (xs := l.map V.str) (z / 3) pos
    obtain ⟨x, hx, rfl⟩ := List.mem_map.mp hv
    exact ⟨_, rfl, _, rfl, _, _, rfl, rfl, ⟨by decide, by decide⟩, _, rfl, D, _, rfl, .inl (SqL.of hl), _, _, rfl, rfl, (by show (0 : Int) < (((l.map V.str).length : Nat) : Int); omega), D, _, _, _, rfl, rfl, SqL.of hl, ev, q x m _ k2.but (st.kp k2) (.inl ⟨rfl, gl x hx⟩)⟩
  rintro σ H' ⟨rfl, rfl⟩
  obtain ⟨kvs, cells, h1, h2, h3, h4, h5, h6⟩ := st.kp k2
  have st2 := (StAt.set h1 h2 h3 h4 h5 h6).2 (m + 1)
  have bt : But s H' (upd H' s (.dK (putK kvs (Sum.inr "names") (.int ((m + 1 : Nat) : Int))))) := But.at (NoT.of h1 (fun _ z => nomatch z))
  have hsl2 : upd H' s (.dK (putK kvs (Sum.inr "names") (.int ((m + 1 : Nat) : Int)))) sl = some (.lst (plainN.map V.str)) := bt.old _ _ (fun zz => by
    have zz2 := kp _ _ hs1
    rw [zz, h1] at zz2
    cases zz2) (kp _ _ hs1)
  refine ⟨_, rfl, s, _, rfl, dget h1 h5, ?_⟩
  refine ⟨_, rfl, _, _, rfl, rfl, _, rfl, s, _, rfl, DPut.k (k := Sum.inr "names") h1 (line_lt (by omega)), ?_⟩
  obtain ⟨v, hv, ev⟩ := atI_mod (xs := plainN.map V.str) (z / 3) (by decide)
  obtain ⟨b, hb, rfl⟩ := List.mem_map.mp hv
  have l26 : (("abcdefghijklmnopqrstuvwxyz" : Str)).length ≤ sizeLine := by decide +kernel
  have lb : ∀ b ∈ plainN, b.length ≤ 5 := by decide +kernel
  have lb' := lb b hb
  refine ⟨_, rfl, _, rfl, _, _, rfl, rfl, ⟨by decide, by decide⟩, _, _, rfl, rfl, (by show (0 : Int) < 6; decide), sl, _, _, _, rfl, rfl, SqL.of hsl2, ev, ?_⟩
  refine ⟨_, rfl, _, rfl, _, _, rfl, rfl, (by show (0 : Int) < 26; decide), _, _, _, rfl, rfl, l26, let_at m, ?_⟩
  refine ⟨b, _, rfl, rfl, line_le (by show b.length + 1 ≤ _; omega), ?_⟩
  refine ⟨_, rfl, _, rfl, _, _, rfl, rfl, ⟨by decide, by decide⟩, _, _, rfl, rfl, (by show (0 : Int) < 26; decide), _, _, _, rfl, rfl, l26, let_at (m / 26), ?_⟩
  refine ⟨_, _, rfl, rfl, line_le ?_, q _ (m + 1) _ (k2.but.trans bt) st2 (.inr ⟨rfl, b, hb, rfl⟩)⟩
  show ((b ++ (⟨#[lt (m % 26)]⟩ : Str)).cps).size + 1 ≤ _
  have e9 : (b ++ (⟨#[lt (m % 26)]⟩ : Str)).cps = b.cps ++ #[lt (m % 26)] := rfl
  rw [e9, Array.size_append]
  have e10 : b.cps.size ≤ 5 := lb'
  show b.cps.size + 1 + 1 ≤ _
  omega
end
end Br
/-! The law's drawing: binders and trees. -/
namespace Br
open PySem L2
open PySem.Spec PyProof.Rows
def ctxL (L : List (Str × Kd)) : Ctx := L.foldl (fun G e => G.put e.1 e.2) G0
theorem ctxL_snoc (L : List (Str × Kd)) (y : Str) (j : Kd) : ctxL (L ++ [(y, j)]) = (ctxL L).put y j := by
  unfold ctxL
  rw [List.foldl_append]
  rfl
structure TrIn (K : PySem.W.Frag) (sc : Addr) (H : Hp) (s : Addr) (k : Kd) (kv nv : V) (L : List (Str × Kd)) (n m : Nat) : Prop where
  st : StAt K sc H s n m
  kd : KindAt H kv k
  dk : k.depth ≤ 5
  nm : NamesAt H nv L
  good : ∀ e ∈ L, e.2.depth ≤ 6 ∧ ctxL L e.1 = some e.2
  nms : ∀ e ∈ L, e.1 = "x" ∨ e.1 ∈ plainN ∨ ∃ j, j < m ∧ IsSfx e.1 j
theorem StAt.nl {K : PySem.W.Frag} {sc : Addr} {H : Hp} {s : Addr} {n m : Nat} (h : StAt K sc H s n m) : ∀ xs, H s ≠ some (.lst xs) := fun xs z => by
  obtain ⟨kvs, cells, h1, _⟩ := h
  rw [h1] at z
  cases z
theorem TrIn.move {K : PySem.W.Frag} {sc : Addr} {H H' : Hp} {s : Addr} {k : Kd} {kv nv : V} {L : List (Str × Kd)} {n m n' m' : Nat} (a : TrIn K sc H s k kv nv L n m) (b : But s H H') (st : StAt K sc H' s n' m') (h : m ≤ m') : TrIn K sc H' s k kv nv L n' m' :=
  ⟨st, a.kd.mono b.tk, a.dk, a.nm.but b a.st.nl, a.good, fun e he => by
    rcases a.nms e he with z | z | ⟨j, z1, z2⟩
    · exact .inl z
    · exact .inr (.inl z)
    · exact .inr (.inr ⟨j, by omega, z2⟩)⟩
theorem TrIn.kind {K : PySem.W.Frag} {sc : Addr} {H : Hp} {s : Addr} {k j : Kd} {kv jv nv : V} {L : List (Str × Kd)} {n m : Nat} (a : TrIn K sc H s k kv nv L n m) (h : KindAt H jv j) (d : j.depth ≤ 5) : TrIn K sc H s j jv nv L n m := ⟨a.st, h, d, a.nm, a.good, a.nms⟩
/-- a new name -/
theorem TrIn.fresh {K : PySem.W.Frag} {sc : Addr} {H : Hp} {s : Addr} {k : Kd} {kv nv : V} {L : List (Str × Kd)} {n m m' : Nat} {y : Str} (a : TrIn K sc H s k kv nv L n m) (hm : m < 600) (h : (m' = m ∧ y ∈ plainN ∧ y ∉ L.map (·.1)) ∨ (m' = m + 1 ∧ IsSfx y m)) : y ∉ L.map (·.1) ∧ (y ∈ plainN ∨ ∃ j, j < m' ∧ IsSfx y j) := by
  rcases h with ⟨_, h1, h2⟩ | ⟨rfl, h1⟩
  · exact ⟨h2, .inl h1⟩
  · refine ⟨fun z => ?_, .inr ⟨m, Nat.lt_succ_self m, h1⟩⟩
    obtain ⟨e, he, rfl⟩ := List.mem_map.mp z
    obtain ⟨n1, n2, _⟩ := sfx_not h1
    rcases a.nms e he with z | z | ⟨j, z1, z2⟩
    · exact n2 z
    · exact n1 z
    · have := h1.inj z2 (by omega) (by omega)
      omega
theorem TrIn.more {K : PySem.W.Frag} {sc : Addr} {H H' : Hp} {s : Addr} {k j : Kd} {kv nv nv' : V} {L : List (Str × Kd)} {n m n' m' : Nat} {y : Str} (a : TrIn K sc H s k kv nv L n m) (b : But s H H') (st : StAt K sc H' s n' m') (hm : m ≤ m') (hy : y ∉ L.map (·.1)) (hy2 : y ∈ plainN ∨ ∃ j, j < m' ∧ IsSfx y j) (dj : j.depth ≤ 6)
    (h : NamesAt H' nv' (L ++ [(y, j)])) : TrIn K sc H' s k kv nv' (L ++ [(y, j)]) n' m' := by
  refine ⟨st, a.kd.mono b.tk, a.dk, h, fun e he => ?_, fun e he => ?_⟩
  · rw [ctxL_snoc]
    unfold Ctx.put
    rcases List.mem_append.mp he with he | he
    · obtain ⟨h1, h2⟩ := a.good e he
      rw [if_neg (fun z => hy (by rw [← z]; exact List.mem_map_of_mem he))]
      exact ⟨h1, h2⟩
    · obtain rfl := List.mem_singleton.mp he
      rw [if_pos rfl]
      exact ⟨dj, rfl⟩
  · rcases List.mem_append.mp he with he | he
    · rcases a.nms e he with z | z | ⟨j, z1, z2⟩
      · exact .inl z
      · exact .inr (.inl z)
      · exact .inr (.inr ⟨j, by omega, z2⟩)
    · obtain rfl := List.mem_singleton.mp he
      exact .inr hy2
theorem tree_num {H : Hp} {p : Addr} {i : Int} (h : H p = some (.tup [.str "num", .int i])) : TreeAt H (.ref p) (Br.T.num i) := by
  unfold TreeAt
  exact ⟨p, rfl, h⟩
theorem sc_num {G : Ctx} {i : Int} (h : 0 ≤ i) (h2 : i ≤ 100000) : Sc G (Br.T.num i) := by
  unfold Sc
  exact ⟨h, by show _ ≤ (10 ^ 18 : Int); omega⟩
theorem num_dep {i : Int} : (Br.T.num i).dep ≤ 5 := by
  unfold T.dep
  decide
theorem names_snoc {H : Hp} {a p l g : Addr} {es : List V} {L : List (Str × Kd)} {y : Str} {j : Kd} {jv : V} (ha : H a = some (.lst es)) (pr : Paired (fun v (e : Str × Kd) => ∃ p kv, v = .ref p ∧ H p = some (.tup [.str e.1, kv]) ∧ KindAt H kv e.2) es L) (hj : KindAt H jv j) (hp : H p = none)
    (hl : upd H p (.tup [.str y, jv]) l = none) (hg : upd (upd H p (.tup [.str y, jv])) l (.lst [.ref p]) g = none) :
    Kp H (upd (upd (upd H p (.tup [.str y, jv])) l (.lst [.ref p])) g (.lst (es ++ [.ref p]))) ∧ NamesAt (upd (upd (upd H p (.tup [.str y, jv])) l (.lst [.ref p])) g (.lst (es ++ [.ref p]))) (.ref g) (L ++ [(y, j)]) := by
  have k3 := ((Kp.new (o := .tup [.str y, jv]) hp).trans (Kp.new (o := .lst [.ref p]) hl)).trans (Kp.new (o := .lst (es ++ [.ref p])) hg)
  refine ⟨k3, g, _, rfl, upd_same, Paired.app (Paired.mapP pr fun _ _ ⟨p, kv, e1, e2, e3⟩ => ⟨p, kv, e1, k3 _ _ e2, e3.mono k3.tk⟩) (.cons ⟨p, jv, rfl, ?_, hj.mono k3.tk⟩ .nil)⟩
  exact Kp.new hg _ _ (Kp.new hl _ _ upd_same)
def spTree (K : PySem.W.Frag) (sc : Addr) (b : Nat) : Sp := fun vs H Q _ => ∃ (s : Addr) (k : Kd) (kv nv : V) (L : List (Str × Kd)) (n m left : Nat), vs = [.ref s, kv, nv, .int (left : Int)] ∧ left < b ∧ TrIn K sc H s k kv nv L n m ∧ m ≤ n + 3 ∧ L.length + left ≤ 900 ∧
  ∀ (t : T k) v H' n' m', But s H H' → StAt K sc H' s n' m' → n ≤ n' → m ≤ m' → m' ≤ n' + 3 → TreeAt H' v t → Sc (ctxL L) t → t.ht ≤ left + 6 → t.dep ≤ 5 → Q v H'
def spBinder (K : PySem.W.Frag) (sc : Addr) (b : Nat) : Sp := fun vs H Q _ => ∃ (s : Addr) (k : Kd) (kv nv : V) (L : List (Str × Kd)) (n m left : Nat) (z : Int) (j : Kd) (jv : V), vs = [.ref s, kv, nv, .int (left : Int), .int z, jv] ∧ left < b ∧ TrIn K sc H s k kv nv L n m ∧ m + 1 ≤ n + 3 ∧ n ≤ 60 ∧ L.length + left ≤ 899 ∧ KindAt H jv j ∧ j.depth ≤ 2 ∧
  ∀ (t : T k) v H' n' m', But s H H' → StAt K sc H' s n' m' → n ≤ n' → m ≤ m' → m' ≤ n' + 3 → TreeAt H' v t → Sc (ctxL L) t → t.ht ≤ left + 7 → t.dep ≤ 5 → Q v H'
theorem ifI {c : TT} {t u : TS} {D : Ends} {σ : L2.St} {H : Hp} (I : Bool → Hp → Prop) (hc : ∀ C : Bool → Hp → Prop, (∀ b H', I b H' → C b H') → c σ H C) (ht : ∀ H', I true H' → t D σ H') (hu : ∀ H', I false H' → u D σ H') : tIfS c t u D σ H :=
  hc _ fun b H' i => by
    cases b with
    | false => exact itF rfl (hu H' i)
    | true => exact itT rfl (ht H' i)
theorem up_of {H : Hp} {k : Kd} {s : Str} {vs : List V} (o : OpFor H k s vs) (e : s = "upto") : k = .row .num := by
  subst e
  generalize hs : ("upto" : Str) = s at o
  cases o with
  | o1 o h d =>
    cases o with
    | upto => rfl
    | sums => rfl
    | not => exact absurd hs (by simp only [O1.str]; decide +kernel)
    | first _ _ => exact absurd hs (by simp only [O1.str]; decide +kernel)
    | second _ _ => exact absurd hs (by simp only [O1.str]; decide +kernel)
    | one _ => exact absurd hs (by simp only [O1.str]; decide +kernel)
    | long _ => exact absurd hs (by simp only [O1.str]; decide +kernel)
    | sum => exact absurd hs (by simp only [O1.str]; decide +kernel)
    | most => exact absurd hs (by simp only [O1.str]; decide +kernel)
    | flat _ => exact absurd hs (by simp only [O1.str]; decide +kernel)
  | o2 o h h2 d d2 => exact absurd hs (o2_in o (fun s => ¬ ("upto" : Str) = s) (by decide +kernel))
section
variable {P : Program} {w : World} {K : PySem.W.Frag} {mg : Str → Option Value} {base : Heap} {aC aB f sc : Addr} {fd : FuncData}
set_option maxHeartbeats 2000000 in
theorem fn_law_binder (T : Tp K mg aC aB) (F : At K mg "_law_binder" s_law_binder p_law_binder f fd) {b k0 : Nat} (hk0 : 10 ≤ k0) (c_law_name : Fn P w K mg base 1 "_law_name" (spName K sc)) (c_law_tree : Fn P w K mg base k0 "_law_tree" (spTree K sc b)) : Fn P w K mg base (k0 + 1) "_law_binder" (spBinder K sc b) := by
  refine fn_by F sc_law_binder ?_ (fun cdv A outer s0 H vs Q E hr h => ?_)
  · rintro vs H Q E ⟨s, k, kv, nv, L, n, m, left, z, j, jv, rfl, _⟩
    rfl
  obtain ⟨s, k, kv, nv, L, n, m, left, z, j, jv, rfl, hlt, a, hmn, hn, hL, hj, dj, q⟩ := h
  refine ⟨_, (pss_cons (ps_set (i := 6) sc_law_binder.nd rfl (by first | exact Or.inl rfl | exact Or.inr rfl) (pe_fn c_law_name hr (by omega) (by rfl) (pa_cons (pv 0) (pa_cons (pv 2) (pa_cons (pe_op op_fdiv (pv 4) (pe_int)) pa_nil)))))
  (pss_cons (ps_if (pt_cmpR op_eq (pe_op op_mod (pv 4) (pe_int)) (pe_int) (nomark _)) (pss_cons (ps_set (i := 7) sc_law_binder.nd rfl (by first | exact Or.inl rfl | exact Or.inr rfl) (pe_fn c_law_tree hr (by omega) (by rfl) (pa_cons (pv 0) (pa_cons (pe_tup (pa_cons (pe_str) pa_nil)) (pa_cons (pv 2) (pa_cons (pv 3) pa_nil))))))
  (pss_cons (ps_set (i := 8) sc_law_binder.nd rfl (by first | exact Or.inl rfl | exact Or.inr rfl) (pe_fn c_law_tree hr (by omega) (by rfl) (pa_cons (pv 0) (pa_cons (pv 1) (pa_cons (pv 2) (pa_cons (pv 3) pa_nil))))))
  (pss_one (ps_ret (pe_tup (pa_cons (pe_str) (pa_cons (pv 7) (pa_cons (pv 8) (pa_cons (pe_fn c_law_tree hr (by omega) (by rfl) (pa_cons (pv 0) (pa_cons (pv 1) (pa_cons (pv 2) (pa_cons (pv 3) pa_nil))))) pa_nil))))))))) pss_nil)
  (pss_cons (ps_if (pt_cmpR op_eq (pe_op op_mod (pv 4) (pe_int)) (pe_int) (nomark _)) (pss_cons (ps_set (i := 8) sc_law_binder.nd rfl (by first | exact Or.inl rfl | exact Or.inr rfl) (pe_fn c_law_tree hr (by omega) (by rfl) (pa_cons (pv 0) (pa_cons (pv 5) (pa_cons (pv 2) (pa_cons (pv 3) pa_nil))))))
  (pss_one (ps_ret (pe_tup (pa_cons (pe_str) (pa_cons (pv 6) (pa_cons (pv 8) (pa_cons (pe_fn c_law_tree hr (by omega) (by rfl) (pa_cons (pv 0) (pa_cons (pv 1) (pa_cons (pe_op op_cat (pv 2) (pe_lst (pa_cons (pe_tup (pa_cons (pv 6) (pa_cons (pv 5) pa_nil))) pa_nil))) (pa_cons (pv 3) pa_nil))))) pa_nil)))))))) pss_nil)
  (pss_cons (ps_if (pw_and (pt_cmpR op_eq (pe_ix (k_ixt K rfl) (pv 1) (pe_int) (fun _ _ => rfl)) (pe_str) (nomark _)) (pw_and1 (pt_cmpR op_gt (pe_op op_mod (pe_op op_fdiv (pv 4) (pe_int)) (pe_int)) (pe_int) (nomark _)))).pt (pss_cons (ps_set (i := 8) sc_law_binder.nd rfl (by first | exact Or.inl rfl | exact Or.inr rfl) (pe_fn c_law_tree hr (by omega) (by rfl) (pa_cons (pv 0) (pa_cons (pe_tup (pa_cons (pe_str) (pa_cons (pv 5) pa_nil))) (pa_cons (pv 2) (pa_cons (pv 3) pa_nil))))))
  (pss_one (ps_ret (pe_tup (pa_cons (pe_str) (pa_cons (pv 6) (pa_cons (pv 8) (pa_cons (pe_fn c_law_tree hr (by omega) (by rfl) (pa_cons (pv 0) (pa_cons (pe_ix (k_ixt K rfl) (pv 1) (pe_int) (fun _ _ => rfl)) (pa_cons (pe_op op_cat (pv 2) (pe_lst (pa_cons (pe_tup (pa_cons (pv 6) (pa_cons (pv 5) pa_nil))) pa_nil))) (pa_cons (pv 3) pa_nil))))) pa_nil)))))))) pss_nil)
  (pss_cons (ps_set (i := 9) sc_law_binder.nd rfl (by first | exact Or.inl rfl | exact Or.inr rfl) (pe_tup (pa_cons (pe_str) (pa_cons (pe_op op_mod (pe_op op_fdiv (pv 4) (pe_int)) (pe_int)) pa_nil))))
  (pss_cons (ps_if (pt_cmpR op_eq (pe_op op_mod (pe_op op_fdiv (pv 4) (pe_int)) (pe_int)) (pe_int) (nomark _)) (pss_one (ps_set (i := 9) sc_law_binder.nd rfl (by first | exact Or.inl rfl | exact Or.inr rfl) (pe_fn c_law_tree hr (by omega) (by rfl) (pa_cons (pv 0) (pa_cons (pe_tup (pa_cons (pe_str) pa_nil)) (pa_cons (pv 2) (pa_cons (pe_callB (call_min2 rfl) (by rfl) T.min (by decide +kernel) (pa_cons (pe_int) (pa_cons (pv 3) pa_nil))) pa_nil))))))) pss_nil)
  (pss_cons (ps_set (i := 8) sc_law_binder.nd rfl (by first | exact Or.inl rfl | exact Or.inr rfl) (pe_fn c_law_tree hr (by omega) (by rfl) (pa_cons (pv 0) (pa_cons (pv 1) (pa_cons (pv 2) (pa_cons (pv 3) pa_nil))))))
  (pss_one (ps_ret (pe_tup (pa_cons (pe_str) (pa_cons (pv 6) (pa_cons (pv 9) (pa_cons (pv 8) (pa_cons (pe_fn c_law_tree hr (by omega) (by rfl) (pa_cons (pv 0) (pa_cons (pv 1) (pa_cons (pe_op op_cat (pv 2) (pe_lst (pa_cons (pe_tup (pa_cons (pv 6) (pa_cons (pv 1) pa_nil))) pa_nil))) (pa_cons (pv 3) pa_nil))))) pa_nil))))))))))))))), ?_⟩
  have dk := a.dk
  refine ⟨_, rfl, _, rfl, _, rfl, _, _, rfl, rfl, ⟨by decide, by decide⟩, s, nv, L, _, n, m, rfl, a.st, a.nm, by omega, fun y m1 H1 b1 st1 hy => ?_⟩
  have m1' : m ≤ m1 ∧ m1 ≤ m + 1 := by rcases hy with ⟨e, _⟩ | ⟨e, _⟩ <;> omega
  obtain ⟨fy1, fy2⟩ := a.fresh (by omega) hy
  have a1 := a.move b1 st1 m1'.1
  have hj1 := hj.mono b1.tk
  refine ⟨_, rfl, _, _, rfl, rfl, (by show (0 : Int) < 7; decide), rfl, _, rfl, itB (fun e => ?_) (fun e => ?_)⟩
  · -- if
    refine ⟨_, rfl, ln1, fun tq htq => ?_⟩
    have kt := Kp.new (o := .tup [.str "truth"]) htq
    have at_ := (a1.move kt.but (a1.st.kp kt) (Nat.le_refl _)).kind (jv := .ref tq) (j := .truth) ⟨tq, rfl, upd_same⟩ (by decide)
    refine ⟨_, rfl, _, rfl, s, .truth, .ref tq, nv, L, n, m1, left, rfl, hlt, at_, by omega, by omega, fun t0 v0 H2 n2 m2 b2 st2 hn2 hm2 hmn2 tr0 sc0 ht0 dp0 => ?_⟩
    have b02 := kt.but.trans b2 (c := s)
    have a2 := a1.move b02 st2 hm2
    refine ⟨_, rfl, _, rfl, _, rfl, _, rfl, s, k, kv, nv, L, n2, m2, left, rfl, hlt, a2, hmn2, by omega, fun t1 v1 H3 n3 m3 b3 st3 hn3 hm3 hmn3 tr1 sc1 ht1 dp1 => ?_⟩
    have a3 := a2.move b3 st3 hm3
    refine ⟨_, rfl, _, rfl, _, rfl, _, rfl, _, rfl, _, rfl, s, k, kv, nv, L, n3, m3, left, rfl, hlt, a3, hmn3, by omega, fun t2 v2 H4 n4 m4 b4 st4 hn4 hm4 hmn4 tr2 sc2 ht2 dp2 => ?_⟩
    refine ⟨by show 4 ≤ sizeLine; decide, fun pp hpp => q (.ite t0 t1 t2) _ _ n4 m4 ((((b1.trans b02).trans b3).trans b4).trans (Kp.new hpp).but) (st4.kp (Kp.new hpp)) (by omega) (by omega) hmn4 ⟨pp, _, _, _, rfl, upd_same, ((tr0.mono b3.tk).mono b4.tk).mono (Kp.new hpp).tk, (tr1.mono b4.tk).mono (Kp.new hpp).tk, tr2.mono (Kp.new hpp).tk⟩ ⟨sc0, sc1, sc2⟩ ?_ ?_⟩
    · show max t0.ht (max t1.ht t2.ht) + 1 ≤ left + 7
      omega
    · show max k.depth (max t0.dep (max t1.dep t2.dep)) ≤ 5
      omega
  refine ⟨_, rfl, _, _, rfl, rfl, (by show (0 : Int) < 7; decide), rfl, _, rfl, itB (fun e => ?_) (fun e => ?_)⟩
  · -- let
    refine ⟨_, rfl, _, rfl, _, rfl, _, rfl, s, j, jv, nv, L, n, m1, left, rfl, hlt, a1.kind hj1 (by omega), by omega, by omega, fun t0 v0 H2 n2 m2 b2 st2 hn2 hm2 hmn2 tr0 sc0 ht0 dp0 => ?_⟩
    have a2 := a1.move b2 st2 hm2
    obtain ⟨na, es, rfl, hna, pr⟩ := a2.nm
    have les : es.length ≤ 899 := by rw [Paired.len pr]; omega
    refine ⟨_, rfl, _, rfl, _, rfl, _, rfl, _, rfl, _, rfl, _, rfl, ln2, fun p hp => ⟨ln1, fun l hl => ⟨na, l, es, [.ref p], rfl, rfl, Kp.new hl _ _ (Kp.new hp _ _ hna), upd_same, line_le (by show es.length + 1 ≤ _; omega), fun g hg => ?_⟩⟩⟩
    obtain ⟨kg, ng⟩ := names_snoc (y := y) (L := L) hna pr (hj1.mono b2.tk) hp hl hg
    have ag := a2.more kg.but (a2.st.kp kg) (Nat.le_refl _) fy1 (by rcases fy2 with z | ⟨i, z1, z2⟩; exact .inl z; exact .inr ⟨i, by omega, z2⟩) (by omega) ng
    refine ⟨_, rfl, s, k, kv, .ref g, L ++ [(y, j)], n2, m2, left, rfl, hlt, ag, hmn2, by rw [List.length_append]; show L.length + 1 + left ≤ 900; omega, fun t1 v1 H3 n3 m3 b3 st3 hn3 hm3 hmn3 tr1 sc1 ht1 dp1 => ?_⟩
    rw [ctxL_snoc] at sc1
    refine ⟨by show 4 ≤ sizeLine; decide, fun pp hpp => q (.lt y t0 t1) _ _ n3 m3 ((((b1.trans b2).trans kg.but).trans b3).trans (Kp.new hpp).but) (st3.kp (Kp.new hpp)) (by omega) (by omega) hmn3 ⟨pp, _, _, rfl, upd_same, ((tr0.mono kg.tk).mono b3.tk).mono (Kp.new hpp).tk, tr1.mono (Kp.new hpp).tk⟩ ⟨sc0, sc1⟩ ?_ ?_⟩
    · show max t0.ht t1.ht + 1 ≤ left + 7
      omega
    · show max k.depth (max t0.dep t1.dep) ≤ 5
      omega
  refine seqI (fun σ H' => σ = [some (.ref s), some kv, some nv, some (.int (left : Int)), some (.int z), some jv, some (.str y), none, none, none] ∧ H1 = H') (fun N hN => hN _ _ ⟨rfl, rfl⟩) ?_
  rintro σ H' ⟨rfl, rfl⟩
  refine seqI (fun σ H' => σ = [some (.ref s), some kv, some nv, some (.int (left : Int)), some (.int z), some jv, some (.str y), none, none, none] ∧ H1 = H') (fun N hN => ?_) ?_
  · obtain ⟨kp, kcs, ekv, hkp⟩ := a1.kd.name
    refine ⟨_, rfl, _, _, _, _, ekv, rfl, SqT.of hkp, atI_zero, rfl, _, rfl, itB (fun e2 => ?_) (fun e2 => itF rfl (hN _ _ ⟨rfl, rfl⟩))⟩
    refine ⟨_, rfl, _, _, rfl, rfl, ⟨by decide, by decide⟩, _, _, rfl, rfl, (by show (0 : Int) < 4; decide), _, _, rfl, rfl, _, rfl, itB (fun e3 => ?_) (fun e3 => hN _ _ ⟨rfl, rfl⟩)⟩
    -- each
    obtain ⟨kb, rfl⟩ := is_row e2
    have dkb : 1 + kb.depth ≤ 5 := dk
    refine ⟨_, rfl, _, rfl, ln2, fun rq hrq => ?_⟩
    have kt := Kp.new (o := .tup [.str "row", jv]) hrq
    have at_ := (a1.move kt.but (a1.st.kp kt) (Nat.le_refl _)).kind (jv := .ref rq) (j := .row j) ⟨rq, jv, rfl, upd_same, hj1.mono kt.tk⟩ (by show 1 + j.depth ≤ 5; omega)
    refine ⟨_, rfl, _, rfl, s, .row j, .ref rq, nv, L, n, m1, left, rfl, hlt, at_, by omega, by omega, fun t0 v0 H2 n2 m2 b2 st2 hn2 hm2 hmn2 tr0 sc0 ht0 dp0 => ?_⟩
    have b02 := kt.but.trans b2 (c := s)
    have a2 := a1.move b02 st2 hm2
    obtain ⟨kp2, bv, e5, hkp2, hbv⟩ := a2.kd
    refine ⟨_, rfl, _, rfl, _, rfl, _, rfl, _, _, _, _, e5, rfl, SqT.of hkp2, atI_one, ?_⟩
    have a2b := a2.kind (jv := bv) (j := kb) hbv (by omega)
    obtain ⟨na, es, rfl, hna, pr⟩ := a2b.nm
    have les : es.length ≤ 899 := by rw [Paired.len pr]; omega
    refine ⟨_, rfl, _, rfl, _, rfl, ln2, fun p hp => ⟨ln1, fun l hl => ⟨na, l, es, [.ref p], rfl, rfl, Kp.new hl _ _ (Kp.new hp _ _ hna), upd_same, line_le (by show es.length + 1 ≤ _; omega), fun g hg => ?_⟩⟩⟩
    obtain ⟨kg, ng⟩ := names_snoc (y := y) (L := L) hna pr (hj1.mono b02.tk) hp hl hg
    have ag := a2b.more kg.but (a2b.st.kp kg) (Nat.le_refl _) fy1 (by rcases fy2 with z | ⟨i, z1, z2⟩; exact .inl z; exact .inr ⟨i, by omega, z2⟩) (by omega) ng
    refine ⟨_, rfl, s, kb, bv, .ref g, L ++ [(y, j)], n2, m2, left, rfl, hlt, ag, hmn2, by rw [List.length_append]; show L.length + 1 + left ≤ 900; omega, fun t1 v1 H3 n3 m3 b3 st3 hn3 hm3 hmn3 tr1 sc1 ht1 dp1 => ?_⟩
    rw [ctxL_snoc] at sc1
    refine ⟨by show 4 ≤ sizeLine; decide, fun pp hpp => q (.each y t0 t1) _ _ n3 m3 ((((b1.trans b02).trans kg.but).trans b3).trans (Kp.new hpp).but) (st3.kp (Kp.new hpp)) (by omega) (by omega) hmn3 ⟨pp, _, _, rfl, upd_same, ((tr0.mono kg.tk).mono b3.tk).mono (Kp.new hpp).tk, tr1.mono (Kp.new hpp).tk⟩ ⟨sc0, sc1⟩ ?_ ?_⟩
    · show max t0.ht t1.ht + 1 ≤ left + 7
      omega
    · show max (1 + kb.depth) (max t0.dep t1.dep) ≤ 5
      omega
  rintro σ H' ⟨rfl, rfl⟩
  -- times
  refine ⟨_, rfl, _, _, rfl, rfl, ⟨by decide, by decide⟩, _, _, rfl, rfl, (by show (0 : Int) < 4; decide), ln2, fun mq hmq => ?_⟩
  have km := Kp.new (o := .tup [.str "num", .int (z / 28 % 4)]) hmq
  unfold gName
  dsimp only
  refine seqI (fun σ H' => ∃ (v : V) (n2 m2 : Nat) (tn : Br.T .num), σ = [some (.ref s), some kv, some nv, some (.int (left : Int)), some (.int z), some jv, some (.str y), none, none, some v] ∧ But s H1 H' ∧ StAt K sc H' s n2 m2 ∧ n ≤ n2 ∧ m1 ≤ m2 ∧ m2 ≤ n2 + 3 ∧ TreeAt H' v tn ∧ Sc (ctxL L) tn ∧ tn.ht ≤ left + 6 ∧ tn.dep ≤ 5) (fun N hN => ?_) ?_
  · refine ⟨_, rfl, _, _, rfl, rfl, ⟨by decide, by decide⟩, _, _, rfl, rfl, (by show (0 : Int) < 4; decide), rfl, _, rfl, itB (fun e2 => ?_) (fun e2 => ?_)⟩
    · refine ⟨_, rfl, ln1, fun tq htq => ?_⟩
      have kt := km.trans (Kp.new (o := .tup [.str "num"]) htq)
      have at_ := (a1.move kt.but (a1.st.kp kt) (Nat.le_refl _)).kind (jv := .ref tq) (j := .num) ⟨tq, rfl, upd_same⟩ (by decide)
      refine ⟨_, rfl, _, rfl, _, _, rfl, ?_⟩
      have e3 : (if (left : Int) < 1 then (left : Int) else 1) = ((min 1 left : Nat) : Int) := by
        split <;> omega
      rw [e3]
      refine ⟨s, .num, .ref tq, nv, L, n, m1, min 1 left, rfl, by omega, at_, by omega, by omega, fun t0 v0 H2 n2 m2 b2 st2 hn2 hm2 hmn2 tr0 sc0 ht0 dp0 => ?_⟩
      exact hN _ _ ⟨v0, n2, m2, t0, rfl, kt.but.trans b2, st2, hn2, hm2, hmn2, tr0, sc0, by omega, dp0⟩
    · exact hN _ _ ⟨.ref mq, n, m1, .num (z / 28 % 4), rfl, km.but, a1.st.kp km, Nat.le_refl _, Nat.le_refl _, by omega, tree_num upd_same, sc_num (by omega) (by omega), by show 1 ≤ left + 6; omega, num_dep⟩
  rintro σ H2 ⟨v0, n2, m2, t0, rfl, b02, st2, hn2, hm2, hmn2, tr0, sc0, ht0, dp0⟩
  have a2 := a1.move b02 st2 hm2
  refine ⟨_, rfl, _, rfl, _, rfl, _, rfl, s, k, kv, nv, L, n2, m2, left, rfl, hlt, a2, hmn2, by omega, fun t1 v1 H3 n3 m3 b3 st3 hn3 hm3 hmn3 tr1 sc1 ht1 dp1 => ?_⟩
  have a3 := a2.move b3 st3 hm3
  obtain ⟨na, es, rfl, hna, pr⟩ := a3.nm
  have les : es.length ≤ 899 := by rw [Paired.len pr]; omega
  refine ⟨_, rfl, _, rfl, _, rfl, _, rfl, _, rfl, _, rfl, _, rfl, _, rfl, ln2, fun p hp => ⟨ln1, fun l hl => ⟨na, l, es, [.ref p], rfl, rfl, Kp.new hl _ _ (Kp.new hp _ _ hna), upd_same, line_le (by show es.length + 1 ≤ _; omega), fun g hg => ?_⟩⟩⟩
  obtain ⟨kg, ng⟩ := names_snoc (y := y) (L := L) hna pr a3.kd hp hl hg
  have ag := a3.more kg.but (a3.st.kp kg) (Nat.le_refl _) fy1 (by rcases fy2 with z | ⟨i, z1, z2⟩; exact .inl z; exact .inr ⟨i, by omega, z2⟩) (by omega) ng
  refine ⟨_, rfl, s, k, kv, .ref g, L ++ [(y, k)], n3, m3, left, rfl, hlt, ag, hmn3, by rw [List.length_append]; show L.length + 1 + left ≤ 900; omega, fun t2 v2 H4 n4 m4 b4 st4 hn4 hm4 hmn4 tr2 sc2 ht2 dp2 => ?_⟩
  rw [ctxL_snoc] at sc2
  refine ⟨by show 5 ≤ sizeLine; decide, fun pp hpp => q (.times y t0 t1 t2) _ _ n4 m4 (((((b1.trans b02).trans b3).trans kg.but).trans b4).trans (Kp.new hpp).but) (st4.kp (Kp.new hpp)) (by omega) (by omega) hmn4 ⟨pp, _, _, _, rfl, upd_same, (((tr0.mono b3.tk).mono kg.tk).mono b4.tk).mono (Kp.new hpp).tk, ((tr1.mono kg.tk).mono b4.tk).mono (Kp.new hpp).tk, tr2.mono (Kp.new hpp).tk⟩ ⟨sc0, sc1, sc2⟩ ?_ ?_⟩
  · show max t0.ht (max t1.ht t2.ht) + 1 ≤ left + 7
    omega
  · show max k.depth (max t0.dep (max t1.dep t2.dep)) ≤ 5
    omega
end
end Br
/-! The law's drawing: trees. -/
namespace Br
open PySem L2
open PySem.Spec PyProof.Rows
def TG (G : Ctx) (h : Nat) (H : Hp) (c : V) (k : Kd) : Prop := ∃ t : Br.T k, TreeAt H c t ∧ Sc G t ∧ t.ht ≤ h ∧ t.dep ≤ 5
theorem TG.mono {G : Ctx} {h : Nat} {H H' : Hp} {c : V} {k : Kd} (m : Tk H H') (t : TG G h H c k) : TG G h H' c k := by
  obtain ⟨t, h1, h2⟩ := t
  exact ⟨t, h1.mono m, h2⟩
theorem OpFor.build {H : Hp} {k : Kd} {s : Str} {vs : List V} (o : OpFor H k s vs) (dk : k.depth ≤ 5) : ∃ ks : List Kd, Paired (fun v j => KindAt H v j ∧ j.depth ≤ 5) vs ks ∧ vs.length ≤ 2 ∧
    ∀ (G : Ctx) (h : Nat) (H' : Hp) (p : Addr) (cs : List V), Paired (TG G h H') cs ks → H' p = some (.tup (.str s :: cs)) → TG G (h + 1) H' (.ref p) k := by
  cases o with
  | @o1 a b o v h d =>
    refine ⟨[a], .cons ⟨h, d⟩ .nil, by show 1 ≤ 2; omega, fun G hh H' p cs pr hp => ?_⟩
    cases pr with
    | cons x pr =>
      cases pr with
      | nil =>
        obtain ⟨t, x1, x2, x3, x4⟩ := x
        refine ⟨.op1 o t, ⟨p, _, rfl, hp, x1⟩, x2, ?_, ?_⟩
        · show t.ht + 1 ≤ hh + 1
          omega
        · show max k.depth t.dep ≤ 5
          omega
  | @o2 a b c o v w h h2 d d2 =>
    refine ⟨[a, b], .cons ⟨h, d⟩ (.cons ⟨h2, d2⟩ .nil), by show 2 ≤ 2; omega, fun G hh H' p cs pr hp => ?_⟩
    cases pr with
    | cons x pr =>
      cases pr with
      | cons y pr =>
        cases pr with
        | nil =>
          obtain ⟨t, x1, x2, x3, x4⟩ := x
          obtain ⟨u, y1, y2, y3, y4⟩ := y
          refine ⟨.op2 o t u, ⟨p, _, _, rfl, hp, x1, y1⟩, ⟨x2, y2⟩, ?_, ?_⟩
          · show max t.ht u.ht + 1 ≤ hh + 1
            omega
          · show max k.depth (max t.dep u.dep) ≤ 5
            omega
theorem ifS {c : TT} {t u r : TS} {D : Ends} {σ : L2.St} {H : Hp} (I : Bool → Hp → Prop) (hc : ∀ C : Bool → Hp → Prop, (∀ b H', I b H' → C b H') → c σ H C) (ht : ∀ H', I true H' → t { D with nx := r D } σ H') (hu : ∀ H', I false H' → u { D with nx := r D } σ H') : tSeq (tIfS c t u) r D σ H := ifI I hc ht hu
theorem cat1 {K : PySem.W.Frag} {H : Hp} {a : Addr} {xs : List V} {v : V} {Q : VK} (h : H a = some (.tup xs)) (hx : xs ≠ []) (hl : xs.length ≤ 1000) (q : ∀ b H', Kp H H' → H' b = some (.tup (xs ++ [v])) → Q (.ref b) H') :
    1 ≤ sizeLine ∧ ∀ p, H p = none → rCatA K (.ref a) (.ref p) (upd H p (.tup [v])) Q := by
  refine ⟨by decide, fun p hp => ?_⟩
  have ha' := Kp.new (o := .tup [v]) hp _ _ h
  exact ⟨a, p, _, _, rfl, rfl, SqT.of ha', SqT.of upd_same, line_le (by show xs.length + 1 ≤ _; omega), fun e => absurd e hx, fun _ e => absurd e (by simp), fun _ _ b hb => q _ _ ((Kp.new hp).trans (Kp.new hb)) upd_same⟩
section
variable {P : Program} {w : World} {K : PySem.W.Frag} {mg : Str → Option Value} {base : Heap} {aC aB f sc : Addr} {fd : FuncData}
set_option maxHeartbeats 2000000 in
theorem fn_law_tree (T : Tp K mg aC aB) (F : At K mg "_law_tree" s_law_tree p_law_tree f fd) {b k0 : Nat} (hk0 : 10 ≤ k0) (c_law_cell : Fn P w K mg base 1 "_law_cell" (spCellL K sc)) (c_law_leaf : Fn P w K mg base 7 "_law_leaf" (spLeaf 6))
    (c_law_kind : Fn P w K mg base 3 "_law_kind" (spKind 2)) (c_law_signs : Fn P w K mg base 7 "_law_signs" spSigns) (c_law_number : Fn P w K mg base 1 "_law_number" spNumber) (c_law_binder : Fn P w K mg base k0 "_law_binder" (spBinder K sc b)) (c_law_tree : Fn P w K mg base k0 "_law_tree" (spTree K sc b)) :
    Fn P w K mg base (k0 + 1) "_law_tree" (spTree K sc (b + 1)) := by
  refine fn_by F sc_law_tree ?_ (fun cdv A outer s0 H vs Q E hr h => ?_)
  · rintro vs H Q E ⟨s, k, kv, nv, L, n, m, left, rfl, _⟩
    rfl
  obtain ⟨s, k, kv, nv, L, n, m, left, rfl, hlt, a, hmn, hL, q⟩ := h
  refine ⟨_, (pss_cons (ps_set (i := 4) sc_law_tree.nd rfl (by first | exact Or.inl rfl | exact Or.inr rfl) (pe_fn c_law_cell hr (by omega) (by rfl) (pa_cons (pv 0) pa_nil)))
  (pss_cons (ps_if (pw_or (pt_cmpR op_eq (pv 3) (pe_int) (nomark _)) (pw_or (pt_cmpR op_eq (pe_op op_mod (pv 4) (pe_int)) (pe_int) (nomark _)) (pw_or1 (pt_cmpR op_gt (pe_dget (hu_of hr) (pv 0) (pe_str) (fun _ _ => rfl)) (pe_int) (nomark _))))).pt (pss_one (ps_ret (pe_fn c_law_leaf hr (by omega) (by rfl) (pa_cons (pv 1) (pa_cons (pv 2) (pa_cons (pe_op op_fdiv (pv 4) (pe_int)) pa_nil)))))) pss_nil)
  (pss_cons (ps_set (i := 5) sc_law_tree.nd rfl (by first | exact Or.inl rfl | exact Or.inr rfl) (pe_op op_fdiv (pv 4) (pe_int)))
  (pss_cons (ps_set (i := 6) sc_law_tree.nd rfl (by first | exact Or.inl rfl | exact Or.inr rfl) (pe_fn c_law_kind hr (by omega) (by rfl) (pa_cons (pe_op op_mod (pe_op op_fdiv (pv 5) (pe_int)) (pe_int)) (pa_cons (pe_int) pa_nil))))
  (pss_cons (ps_if (pw_or (pt_cmpR op_lt (pe_op op_mod (pv 5) (pe_int)) (pe_int) (nomark _)) (pw_or (pw_and (pt_cmpR op_lt (pe_op op_mod (pv 5) (pe_int)) (pe_int) (nomark _)) (pw_and1 (pt_cmpR op_eq (pe_ix (k_ixt K rfl) (pv 1) (pe_int) (fun _ _ => rfl)) (pe_str) (nomark _)))).pt (pw_or1 (pw_and (pt_cmpR op_eq (pe_op op_mod (pv 5) (pe_int)) (pe_int) (nomark _)) (pw_and1 (pt_cmpR op_eq (pe_op op_mod (pe_op op_fdiv (pv 5) (pe_int)) (pe_int)) (pe_int) (nomark _)))).pt))).pt (pss_one (ps_ret (pe_fn c_law_binder hr (by omega) (by rfl) (pa_cons (pv 0) (pa_cons (pv 1) (pa_cons (pv 2) (pa_cons (pe_op op_sub (pv 3) (pe_int)) (pa_cons (pv 5) (pa_cons (pv 6) pa_nil))))))))) pss_nil)
  (pss_cons (ps_set (i := 7) sc_law_tree.nd rfl (by first | exact Or.inl rfl | exact Or.inr rfl) (pe_fn c_law_signs hr (by omega) (by rfl) (pa_cons (pv 1) (pa_cons (pv 6) pa_nil))))
  (pss_cons (ps_asg (pe_ix (k_ixl K rfl) (pv 7) (pe_op op_mod (pe_op op_fdiv (pv 5) (pe_int)) (pe_callB (k_len K rfl) (by rfl) T.len (by decide +kernel) (pa_cons (pv 7) pa_nil))) (fun _ _ => rfl)) (k_gtup K rfl (n := 2) rfl (pgs_cons (pg_name (i := 8) sc_law_tree.nd rfl (by first | exact Or.inl rfl | exact Or.inr rfl)) (pgs_cons (pg_name (i := 9) sc_law_tree.nd rfl (by first | exact Or.inl rfl | exact Or.inr rfl)) pgs_nil))))
  (pss_cons (ps_if (pw_and (pt_cmpR op_eq (pv 8) (pe_str) (nomark _)) (pw_and1 (pt_cmpR op_gt (pe_op op_mod (pe_op op_fdiv (pv 5) (pe_int)) (pe_int)) (pe_int) (nomark _)))).pt (pss_one (ps_ret (pe_tup (pa_cons (pv 8) (pa_cons (pe_tup (pa_cons (pe_str) (pa_cons (pe_fn c_law_number hr (by omega) (by rfl) (pa_cons (pe_op op_fdiv (pv 5) (pe_int)) pa_nil)) pa_nil))) pa_nil))))) pss_nil)
  (pss_cons (ps_set (i := 10) sc_law_tree.nd rfl (by first | exact Or.inl rfl | exact Or.inr rfl) (pe_tup (pa_cons (pv 8) pa_nil)))
  (pss_cons (ps_for PassesOwn.never rfl (k_pil K rfl (pv 9)) (pg_name (i := 11) sc_law_tree.nd rfl (by first | exact Or.inl rfl | exact Or.inr rfl)) (pss_one (ps_set (i := 10) sc_law_tree.nd rfl (by first | exact Or.inl rfl | exact Or.inr rfl) (pe_op (k_cat K rfl) (pv 10) (pe_tup (pa_cons (pe_fn c_law_tree hr (by omega) (by rfl) (pa_cons (pv 0) (pa_cons (pv 11) (pa_cons (pv 2) (pa_cons (pe_op op_sub (pv 3) (pe_int)) pa_nil))))) pa_nil))))))
  (pss_one (ps_ret (pv 10))))))))))))), ?_⟩
  have dk := a.dk
  refine ⟨_, rfl, s, n, m, rfl, a.st, fun z H1 b1 st1 => ?_⟩
  have a1 := a.move b1 st1 (Nat.le_refl _)
  unfold gName
  dsimp only
  refine ifS (fun b H' => H1 = H' ∧ (b = false → 1 ≤ left ∧ n + 1 ≤ 60)) (fun C hC => ?_) ?_ ?_
  · refine ⟨_, rfl, rfl, _, rfl, itB (fun e => hC _ _ ⟨rfl, nofun⟩) (fun e => ?_)⟩
    refine ⟨_, rfl, _, _, rfl, rfl, (by show (0 : Int) < 9; decide), rfl, _, rfl, itB (fun e2 => hC _ _ ⟨rfl, nofun⟩) (fun e2 => ?_)⟩
    obtain ⟨kvs, cells, h1, h2, h3, h4, h5, h6⟩ := a1.st
    refine ⟨_, rfl, s, _, rfl, dget h1 h4, _, _, rfl, rfl, _, rfl, hC _ _ ⟨rfl, fun e3 => ?_⟩⟩
    have e4 := of_decide_eq_false e3
    have e5 : left ≠ 0 := fun zz => by
      subst zz
      exact absurd e (by decide)
    constructor
    · omega
    · omega
  · rintro H' ⟨rfl, _⟩
    refine ⟨_, rfl, _, rfl, _, rfl, _, _, rfl, rfl, ⟨by decide, by decide⟩, k, kv, nv, L, ctxL L, _, rfl, a1.kd, by omega, by omega, a1.nm, by omega, a1.good, fun t v H2 k2 tr sc ht dp _ => ?_⟩
    exact q t v H2 (n + 1) m (b1.trans k2.but) (st1.kp k2) (by omega) (Nat.le_refl _) (by omega) tr sc (by omega) (by omega)
  rintro H' ⟨rfl, hb⟩
  obtain ⟨hl1, hn60⟩ := hb rfl
  obtain ⟨l, rfl⟩ : ∃ l, left = l + 1 := ⟨left - 1, by omega⟩
  have el : (((l + 1 : Nat) : Int) - 1) = (l : Int) := by omega
  obtain ⟨kp, kcs, ekv, hkp⟩ := a1.kd.name
  refine ⟨_, rfl, _, _, rfl, rfl, ⟨by decide, by decide⟩, _, rfl, _, _, rfl, rfl, ⟨by decide, by decide⟩, _, _, rfl, rfl, (by show (0 : Int) < 216; decide), _, 1, rfl, by omega, fun j jv H2 k2 hj dj => ?_⟩
  have a2 := a1.move k2.but (st1.kp k2) (Nat.le_refl _)
  dsimp only
  refine ifS (fun b H' => H2 = H') (fun C hC => ?_) ?_ ?_
  · refine ⟨_, rfl, _, _, rfl, rfl, (by show (0 : Int) < 7; decide), _, _, rfl, rfl, _, rfl, itB (fun e => hC _ _ rfl) (fun e => ⟨_, rfl, _, _, rfl, rfl, (by show (0 : Int) < 7; decide), _, _, rfl, rfl, _, rfl, itB (fun e2 => ⟨_, rfl, _, _, _, _, ekv, rfl, SqT.of (k2 _ _ hkp), atI_zero, rfl, _, rfl, itB (fun e3 => hC _ _ rfl) (fun e3 => ?_)⟩) (fun e2 => itF rfl ?_)⟩)⟩
    all_goals exact ⟨_, rfl, _, _, rfl, rfl, (by show (0 : Int) < 7; decide), rfl, _, rfl, itB (fun e4 => ⟨_, rfl, _, _, rfl, rfl, ⟨by decide, by decide⟩, _, _, rfl, rfl, (by show (0 : Int) < 2; decide), rfl, _, rfl, hC _ _ rfl⟩) (fun e4 => hC _ _ rfl)⟩
  · rintro H' rfl
    refine ⟨_, rfl, _, rfl, _, rfl, _, rfl, _, _, rfl, rfl, _, rfl, _, rfl, s, k, kv, nv, L, n + 1, m, l, z / 9, j, jv, by show [_, _, _, V.int (((l + 1 : Nat) : Int) - 1), _, _] = _; rw [el], by omega, a2, by omega, hn60, by omega, hj, dj, fun t v H3 n3 m3 b3 st3 hn3 hm3 hmn3 tr sc ht dp => ?_⟩
    exact q t v H3 n3 m3 ((b1.trans k2.but).trans b3) st3 (by omega) (by omega) hmn3 tr sc (by omega) dp
  rintro H' rfl
  refine ⟨_, rfl, _, rfl, k, j, kv, jv, rfl, a2.kd, hj, dk, dj, fun fl xs H3 k3 hfl hxs hne hlen => ?_⟩
  have hpos : 0 < xs.length := List.length_pos_iff.mpr hne
  obtain ⟨en, hen, hat⟩ := atI_mod (z / 9 / 7) hpos
  obtain ⟨ep, sg, qd, vs', rfl, hep, hqd, _, op⟩ := hxs en hen
  have a3 := a2.move k3.but (a2.st.kp k3) (Nat.le_refl _)
  refine ⟨_, rfl, _, rfl, _, _, rfl, rfl, ⟨by decide, by decide⟩, _, rfl, fl, _, rfl, .inl (SqL.of hfl), _, _, rfl, rfl, (by show (0 : Int) < ((xs.length : Nat) : Int); omega), fl, _, _, _, rfl, rfl, SqL.of hfl, hat, ep, _, rfl, SqT.of hep, rfl, _, _, rfl, _, _, rfl, rfl, ?_⟩
  dsimp only
  refine seqI (fun σ H' => H3 = H' ∧ σ = [some (.ref s), some kv, some nv, some (.int ((l + 1 : Nat) : Int)), some (.int z), some (.int (z / 9)), some jv, some (.ref fl), some (.str sg), some (.ref qd), none, none]) (fun N hN => ?_) ?_
  · refine ifI (fun b H' => H3 = H' ∧ (b = true → sg = "upto")) (fun C hC => ?_) ?_ ?_
    · refine ⟨_, rfl, rfl, _, rfl, itB (fun e => ⟨_, rfl, _, _, rfl, rfl, ⟨by decide, by decide⟩, _, _, rfl, rfl, (by show (0 : Int) < 3; decide), _, _, rfl, rfl, _, rfl, hC _ _ ⟨rfl, fun _ => ?_⟩⟩) (fun e => hC _ _ ⟨rfl, nofun⟩)⟩
      have e2 := of_decide_eq_true e
      injection e2
    · rintro H' ⟨rfl, hu⟩
      have hu2 := hu rfl
      subst hu2
      obtain rfl := up_of op rfl
      refine ⟨_, rfl, _, rfl, _, _, rfl, rfl, ⟨by decide, by decide⟩, _, rfl, fun y H4 k4 y0 y1 => ⟨by show 2 ≤ sizeLine; decide, fun p2 hp2 => ⟨by show 2 ≤ sizeLine; decide, fun pp hpp => ?_⟩⟩⟩
      have k5 := (k4.trans (Kp.new (o := .tup [.str "num", .int y]) hp2)).trans (Kp.new (o := .tup [.str "upto", .ref p2]) hpp)
      refine q (.op1 .upto (.num y)) _ _ (n + 1) m (((b1.trans k2.but).trans k3.but).trans k5.but) (a3.st.kp k5) (by omega) (Nat.le_refl _) (by omega) ⟨pp, _, rfl, upd_same, tree_num (Kp.new hpp _ _ upd_same)⟩ (show Sc (ctxL L) (Br.T.num y) from by unfold Sc; exact ⟨y0, y1⟩) ?_ ?_
      · show 1 + 1 ≤ l + 1 + 6
        omega
      · show max (Kd.row .num).depth (Br.T.num y).dep ≤ 5
        have := num_dep (i := y)
        omega
    · rintro H' ⟨rfl, _⟩
      exact hN _ _ ⟨rfl, rfl⟩
  rintro σ H' ⟨rfl, rfl⟩
  obtain ⟨ks, prk, lvs, build⟩ := op.build dk
  refine ⟨_, rfl, ln1, fun mp hmp => ?_⟩
  have km := Kp.new (o := .tup [.str sg]) hmp
  have qs : qd ≠ s := fun zz => by
    rw [zz] at hqd
    exact a3.st.nl _ hqd
  have nl3 := a3.st.nl
  refine ⟨_, rfl, qd, rfl, ⟨_, SqL.of (km _ _ hqd)⟩, for_list (K := K) (g := gName 11) (tb := tAsg (tOp (rCatA K) (tVar 10) (tTup (tCons (tCall (spTree K sc b) [] E0 (tCons (tVar 0) (tCons (tVar 11) (tCons (tVar 2) (tCons (tOp (rI0 fun i j => V.int (i - j)) (tVar 3) (tC (V.int 1))) tNil))))) tNil))) (gName 10)) (D := { nx := tRet (tVar 10) { nx := fun x H' => Q V.non H', rt := Q }, rt := Q }) (a := qd) (xs := vs') (fun i σ H' => ∃ (n' m' : Nat) (mp : Addr) (cs : List V) (v11 : Option V), σ = [some (.ref s), some kv, some nv, some (.int ((l + 1 : Nat) : Int)), some (.int z), some (.int (z / 9)), some jv, some (.ref fl), some (.str sg), some (.ref qd), some (.ref mp), v11] ∧ But s H3 H' ∧ StAt K sc H' s n' m' ∧ n + 1 ≤ n' ∧ m ≤ m' ∧ m' ≤ n' + 3 ∧ H' mp = some (.tup (.str sg :: cs)) ∧ Paired (TG (ctxL L) (l + 6) H') cs (ks.take i))
    ⟨n + 1, m, mp, [], none, rfl, km.but, a3.st.kp km, Nat.le_refl _, Nat.le_refl _, by omega, upd_same, .nil⟩ (fun i σ H' _ pw => ?_) ?_ ?_⟩
  · obtain ⟨_, _, _, _, _, _, b4, _⟩ := pw
    exact SqL.of (b4.old _ _ qs hqd)
  · rintro i x σ H4 hi ⟨n4, m4, mp4, cs, v11, rfl, b4, st4, hn4, hm4, hmn4, hmp4, pr4⟩
    obtain ⟨kk, hkk, hkx, dkk⟩ := Paired.at prk hi
    have a4 := (a3.move b4 st4 hm4).kind (hkx.mono b4.tk) dkk
    have lcs : cs.length ≤ 2 := by
      have z1 := Paired.len pr4
      have z2 := Paired.len prk
      rw [List.length_take] at z1
      omega
    refine ⟨_, rfl, _, rfl, _, rfl, _, rfl, _, rfl, _, _, rfl, rfl, s, kk, x, nv, L, n4, m4, l, by show [_, _, _, V.int (((l + 1 : Nat) : Int) - 1)] = _; rw [el], by omega, a4, hmn4, by omega, fun t v H5 n5 m5 b5 st5 hn5 hm5 hmn5 tr sc ht dp => ?_⟩
    refine cat1 (b5.tup _ _ hmp4) (by simp) (by show cs.length + 1 ≤ 1000; omega) fun b H6 k6 hb => ?_
    refine ⟨n5, m5, b, cs ++ [v], _, rfl, (b4.trans b5).trans k6.but, st5.kp k6, by omega, by omega, hmn5, hb, ?_⟩
    rw [take_more hkk]
    exact Paired.app (Paired.mapP pr4 fun _ _ g => g.mono (b5.trans k6.but).tk) (.cons ⟨t, tr.mono k6.tk, sc, ht, dp⟩ .nil)
  · rintro σ H4 ⟨n4, m4, mp4, cs, v11, rfl, b4, st4, hn4, hm4, hmn4, hmp4, pr4⟩
    rw [Paired.len prk, List.take_length] at pr4
    obtain ⟨t, tr, sc, ht, dp⟩ := build (ctxL L) (l + 6) H4 mp4 cs pr4 hmp4
    exact ⟨_, rfl, q t _ H4 n4 m4 (((b1.trans k2.but).trans k3.but).trans b4) st4 (by omega) hm4 hmn4 tr sc (by omega) dp⟩
end
end Br
/-! The law's drawing: all trees, worths. -/
namespace Br
open PySem L2
open PySem.Spec PyProof.Rows
section
variable {P : Program} {w : World} {K : PySem.W.Frag} {mg : Str → Option Value} {base : Heap} {aC aB f f2 sc : Addr} {fd fd2 : FuncData}
theorem fn_void {x : Str} {st : Stmt} {ps : List Str} {k : Nat} {sp : Sp} (F : At K mg x st ps f fd) (hv : ∀ vs H Q E, ¬ sp vs H Q E) : Fn P w K mg base k x sp :=
  ⟨f, fd, ps, ⟨fun vs H Q E h => (hv vs H Q E h).elim, fun _ _ _ H _ _ vs Q E _ _ _ _ h => (hv vs H Q E h).elim⟩, F.mgf, F.fn.kp, F.bd⟩
theorem Fn.up {x : Str} {j k : Nat} {sp : Sp} (F : Fn P w K mg base j x sp) (h : j ≤ k) : Fn P w K mg base k x sp := by
  obtain ⟨f, fd, ps, a, b⟩ := F
  exact ⟨f, fd, ps, a.mono h, b⟩
theorem depth_pos : ∀ (k : Kd), 1 ≤ k.depth := fun k => by
  cases k with
  | num => exact Nat.le_refl 1
  | truth => exact Nat.le_refl 1
  | pair a b => show 1 ≤ 1 + _; omega
  | row a => show 1 ≤ 1 + _; omega
theorem all_depth (T : Tp K mg aC aB) (F : At K mg "_law_depth" s_law_depth p_law_depth f fd) : ∀ n, Fn P w K mg base n "_law_depth" (spDepth n)
  | 0 => fn_void F fun vs H Q E ⟨k, v, _, _, h, _⟩ => by
    have := depth_pos k
    omega
  | n + 1 => fn_law_depth T F n (all_depth T F n)
theorem all_tree (T : Tp K mg aC aB) (F : At K mg "_law_tree" s_law_tree p_law_tree f fd) (F2 : At K mg "_law_binder" s_law_binder p_law_binder f2 fd2) (c_law_cell : Fn P w K mg base 1 "_law_cell" (spCellL K sc)) (c_law_leaf : Fn P w K mg base 7 "_law_leaf" (spLeaf 6))
    (c_law_kind : Fn P w K mg base 3 "_law_kind" (spKind 2)) (c_law_signs : Fn P w K mg base 7 "_law_signs" spSigns) (c_law_number : Fn P w K mg base 1 "_law_number" spNumber) (c_law_name : Fn P w K mg base 1 "_law_name" (spName K sc)) : ∀ b, Fn P w K mg base (10 + 2 * b) "_law_tree" (spTree K sc b)
  | 0 => fn_void F fun vs H Q E ⟨_, _, _, _, _, _, _, _, _, h, _⟩ => Nat.not_lt_zero _ h
  | b + 1 => by
    have c := all_tree T F F2 c_law_cell c_law_leaf c_law_kind c_law_signs c_law_number c_law_name b
    have e := fn_law_binder T F2 (by omega) c_law_name c
    have r := fn_law_tree T F (by omega) c_law_cell c_law_leaf c_law_kind c_law_signs c_law_number e (c.up (Nat.le_succ _))
    exact r
theorem StAt.ne {H : Hp} {s p : Addr} {n m : Nat} (h : StAt K sc H s n m) (hp : H p = none) : ¬ p = s := fun e => by
  obtain ⟨kvs, cells, h1, _⟩ := h
  rw [e, h1] at hp
  cases hp
theorem sign_at (z : Int) : ∃ sg : Int, atI [V.int 1, V.int (-1)] (z % 2) = some (.int sg) ∧ (sg = 1 ∨ sg = -1) := by
  rcases Int.emod_two_eq z with e | e
  · rw [e]
    exact ⟨1, atI_zero, .inl rfl⟩
  · rw [e]
    exact ⟨-1, atI_one, .inr rfl⟩
theorem three_at (x : Int) : ∃ c : Int, atI [V.int 1, V.int 3, V.int 5] (if (if x < 2 then x else 2) > 0 then (if x < 2 then x else 2) else 0) = some (.int c) ∧ 0 < c ∧ c ≤ 5 := by
  by_cases h : x < 2
  · rw [if_pos h]
    by_cases h2 : x > 0
    · rw [if_pos h2]
      obtain rfl : x = 1 := by omega
      exact ⟨3, atI_one, by decide, by decide⟩
    · rw [if_neg h2]
      exact ⟨1, atI_zero, by decide, by decide⟩
  · rw [if_neg h, if_pos (by decide)]
    exact ⟨5, atI_two, by decide, by decide⟩
theorem StAt.other {H H0 : Hp} {s g : Addr} {n m n0 m0 : Nat} {o : HO} (h0 : StAt K sc H0 s n0 m0) (hg : H0 g = none) (h : StAt K sc H s n m) : StAt K sc (upd H g o) s n m := by
  have ns := h0.ne hg
  obtain ⟨_, cells0, _, _, _, _, _, q0⟩ := h0
  obtain ⟨kvs, cells, h1, h2, h3, h4, h5, h6⟩ := h
  have e1 : upd H g o s = H s := upd_ne (fun z => ns z.symm)
  rcases q0 with q0 | q0
  · have n2 : g ≠ sc := fun z => by
      rw [z] at hg
      rcases q0 with q0 | ⟨_, q0⟩ <;> (rw [hg] at q0; cases q0)
    have e2 : upd H g o sc = H sc := upd_ne (fun z => n2 z.symm)
    refine ⟨kvs, cells, by rw [e1]; exact h1, h2, h3, h4, h5, ?_⟩
    rcases h6 with h6 | h6
    · rcases h6 with h6 | ⟨ob, h6⟩
      · exact .inl (.inl (by rw [e2]; exact h6))
      · exact .inl (.inr ⟨ob, by rw [e2]; exact h6⟩)
    · exact .inr h6
  · exact ⟨kvs, cells0, by rw [e1]; exact h1, h2, h3, h4, h5, .inr q0⟩
def spWorthL (K : PySem.W.Frag) (sc : Addr) (n : Nat) : Sp := fun vs H Q _ => ∃ (c : Addr → Prop) (s : Addr) (k : Kd) (kv : V) (left : Int) (u m : Nat), vs = [.ref s, kv, .int left] ∧ c s ∧ Av c H ∧ StAt K sc H s u m ∧ KindAt H kv k ∧ k.depth ≤ n ∧
  ∀ (d : D k) v H' u', But s H H' → StAt K sc H' s u' m → u ≤ u' → RepW c H' k v d → Fit k d → Q v H'
theorem fn_law_worth (T : Tp K mg aC aB) (F : At K mg "_law_worth" s_law_worth p_law_worth f fd) (c_law_cell : Fn P w K mg base 1 "_law_cell" (spCellL K sc)) (c_law_number : Fn P w K mg base 1 "_law_number" spNumber) : ∀ n, Fn P w K mg base (n + 1) "_law_worth" (spWorthL K sc n) → Fn P w K mg base (n + 2) "_law_worth" (spWorthL K sc (n + 1)) := by
  intro n c_law_worth
  refine fn_by F sc_law_worth ?_ (fun cdv A outer s0 H vs Q E hr h => ?_)
  · rintro vs H Q E ⟨c, s, k, kv, left, u, m, rfl, _⟩
    rfl
  obtain ⟨c, s, k, kv, left, u, m, rfl, cs, av, st, hk, hd, q⟩ := h
  refine ⟨_, (pss_cons (ps_set (i := 3) sc_law_worth.nd rfl (by first | exact Or.inl rfl | exact Or.inr rfl) (pe_fn c_law_cell hr (by omega) (by rfl) (pa_cons (pv 0) pa_nil)))
  (pss_cons (ps_if (pt_cmpR op_eq (pe_ix (k_ixt K rfl) (pv 1) (pe_int) (fun _ _ => rfl)) (pe_str) (nomark _)) (pss_one (ps_ret (pe_op op_mul (pe_fn c_law_number hr (by omega) (by rfl) (pa_cons (pe_op op_fdiv (pv 3) (pe_int)) pa_nil)) (pe_ix (k_ixl K rfl) (pe_lst (pa_cons (pe_int) (pa_cons (pe_un un_neg (pe_int)) pa_nil))) (pe_op op_mod (pv 3) (pe_int)) (fun _ _ => rfl))))) pss_nil)
  (pss_cons (ps_if (pt_cmpR op_eq (pe_ix (k_ixt K rfl) (pv 1) (pe_int) (fun _ _ => rfl)) (pe_str) (nomark _)) (pss_one (ps_ret (pe_cmpR op_eq (pe_op op_mod (pv 3) (pe_int)) (pe_int) (nomark _)))) pss_nil)
  (pss_cons (ps_if (pt_cmpR op_eq (pe_ix (k_ixt K rfl) (pv 1) (pe_int) (fun _ _ => rfl)) (pe_str) (nomark _)) (pss_one (ps_ret (pe_tup (pa_cons (pe_fn c_law_worth hr (by omega) (by rfl) (pa_cons (pv 0) (pa_cons (pe_ix (k_ixt K rfl) (pv 1) (pe_int) (fun _ _ => rfl)) (pa_cons (pv 2) pa_nil)))) (pa_cons (pe_fn c_law_worth hr (by omega) (by rfl) (pa_cons (pv 0) (pa_cons (pe_ix (k_ixt K rfl) (pv 1) (pe_int) (fun _ _ => rfl)) (pa_cons (pv 2) pa_nil)))) pa_nil))))) pss_nil)
  (pss_one (ps_ret (pe_lc (own := [("k", 4)]) rfl sc_law_worth.nd (pi_range1 (by rfl) T.range (pa_cons (pe_op op_mod (pv 3) (pe_ix (k_ixl K rfl) (pe_lst (pa_cons (pe_int) (pa_cons (pe_int) (pa_cons (pe_int) pa_nil)))) (pe_callB (call_max2 rfl) (by rfl) T.max (by decide +kernel) (pa_cons (pe_int) (pa_cons (pe_callB (call_min2 rfl) (by rfl) T.min (by decide +kernel) (pa_cons (pe_int) (pa_cons (pv 2) pa_nil))) pa_nil))) (fun _ _ => rfl))) pa_nil)) (blkOk_by (own := [("k", 4)]) (by rfl)) (fun _ _ _ _ _ => (pg_name (i := 4) sc_law_worth.nd rfl (by first | exact Or.inl rfl | exact Or.inr rfl))) (fun _ _ _ _ _ => pts_nil) (fun _ _ _ _ _ => (pe_fn c_law_worth hr (by omega) (by rfl) (pa_cons (pv 0) (pa_cons (pe_ix (k_ixt K rfl) (pv 1) (pe_int) (fun _ _ => rfl)) (pa_cons (pe_op op_sub (pv 2) (pe_int)) pa_nil)))))))))))), ?_⟩
  refine ⟨_, rfl, s, u, m, rfl, st, fun z H1 b1 st1 => ?_⟩
  have nl1 := st1.nl
  have av1 := av.but b1 st1.not
  cases k with
  | num =>
    obtain ⟨p, rfl, hp⟩ := hk.mono b1.tk
    refine ⟨_, rfl, _, _, _, _, rfl, rfl, SqT.of hp, atI_zero, rfl, _, rfl, itT (by decide +kernel) ?_⟩
    refine ⟨_, rfl, _, _, rfl, rfl, ⟨by decide, by decide⟩, _, rfl, fun y H2 k2 y0 y1 => ?_⟩
    refine ⟨_, rfl, ln2, fun l hl => ?_⟩
    obtain ⟨sg, hsg, e⟩ := sign_at z
    refine ⟨_, rfl, _, _, rfl, rfl, (by show (0 : Int) < 2; decide), l, _, _, _, rfl, rfl, SqL.of upd_same, hsg, _, _, rfl, rfl, .inr ?_, ?_⟩
    · rcases e with rfl | rfl <;> exact ⟨by decide, by decide⟩
    · refine q (y * sg : Int) _ _ _ (b1.trans (k2.trans (Kp.new hl)).but) (st1.kp (k2.trans (Kp.new hl))) (by omega) rfl ?_
      show -bnd ≤ y * sg ∧ y * sg ≤ bnd
      rcases e with rfl | rfl <;> omega
  | truth =>
    obtain ⟨p, rfl, hp⟩ := hk.mono b1.tk
    refine ⟨_, rfl, _, _, _, _, rfl, rfl, SqT.of hp, atI_zero, rfl, _, rfl, itF (by decide +kernel) ?_⟩
    refine ⟨_, rfl, _, _, _, _, rfl, rfl, SqT.of hp, atI_zero, rfl, _, rfl, itT (by decide +kernel) ?_⟩
    refine ⟨_, rfl, _, _, rfl, rfl, (by show (0 : Int) < 2; decide), rfl, ?_⟩
    exact q _ _ _ _ b1 st1 (by omega) rfl trivial
  | pair a b =>
    obtain ⟨p, x, y, rfl, hp, hx, hy⟩ := hk.mono b1.tk
    refine ⟨_, rfl, _, _, _, _, rfl, rfl, SqT.of hp, atI_zero, rfl, _, rfl, itF (by decide +kernel) ?_⟩
    refine ⟨_, rfl, _, _, _, _, rfl, rfl, SqT.of hp, atI_zero, rfl, _, rfl, itF (by decide +kernel) ?_⟩
    refine ⟨_, rfl, _, _, _, _, rfl, rfl, SqT.of hp, atI_zero, rfl, _, rfl, itT (by decide +kernel) ?_⟩
    have hd2 : 1 + max a.depth b.depth ≤ n + 1 := hd
    refine ⟨_, rfl, _, rfl, _, _, _, _, rfl, rfl, SqT.of hp, atI_one, _, rfl, c, s, a, x, left, _, m, rfl, cs, av1, st1, hx, by omega, fun d1 v1 H2 u2 b2 st2 hu2 r1 f1 => ?_⟩
    have av2 := av1.but b2 st2.not
    refine ⟨_, rfl, _, rfl, _, _, _, _, rfl, rfl, SqT.of (b2.tup _ _ hp), atI_two, _, rfl, c, s, b, y, left, _, m, rfl, cs, av2, st2, hy.mono b2.tk, by omega, fun d2 v2 H3 u3 b3 st3 hu3 r2 f2 => ?_⟩
    have av3 := av2.but b3 st3.not
    exact ⟨ln2, fun pp hpp => q (d1, d2) _ _ _ (((b1.trans b2).trans b3).trans (Kp.new hpp).but) (st3.kp (Kp.new hpp)) (by omega) ⟨pp, v1, v2, rfl, upd_same, av3.new hpp, (r1.mono (b3.lk cs)).mono (Kp.new hpp).lk, r2.mono (Kp.new hpp).lk⟩ ⟨f1, f2⟩⟩
  | row a =>
    obtain ⟨p, x, rfl, hp, hx⟩ := hk.mono b1.tk
    have hd2 : 1 + a.depth ≤ n + 1 := hd
    refine ⟨_, rfl, _, _, _, _, rfl, rfl, SqT.of hp, atI_zero, rfl, _, rfl, itF (by decide +kernel) ?_⟩
    refine ⟨_, rfl, _, _, _, _, rfl, rfl, SqT.of hp, atI_zero, rfl, _, rfl, itF (by decide +kernel) ?_⟩
    refine ⟨_, rfl, _, _, _, _, rfl, rfl, SqT.of hp, atI_zero, rfl, _, rfl, itF (by decide +kernel) ?_⟩
    refine ⟨_, rfl, ln3, fun l hl => ?_⟩
    obtain ⟨cn, hcn, e, e5⟩ := three_at left
    obtain ⟨N, hN, hN5⟩ : ∃ N : Nat, z % cn = (N : Int) ∧ N ≤ 5 := by
      have z1 := Int.emod_nonneg z (show cn ≠ 0 by omega)
      have z2 := Int.emod_lt_of_pos z e
      exact ⟨(z % cn).toNat, by omega, by omega⟩
    have kl : Kp H1 (upd H1 l (.lst [.int 1, .int 3, .int 5])) := Kp.new hl
    have stl := st1.kp kl
    have avl := av1.kp kl
    refine ⟨_, rfl, _, _, rfl, _, _, rfl, l, _, _, _, rfl, rfl, SqL.of upd_same, hcn, _, _, rfl, rfl, e, (N : Int), by show [V.int (z % cn)] = _; rw [hN], by omega, by omega, fun g hg => lc_range (lo := 0) (n := N) (fun i H' => ∃ (acc : List V) (ds : List (D a)) (u' : Nat), But s (upd H1 l (.lst [.int 1, .int 3, .int 5])) H' ∧ StAt K sc H' s u' m ∧ u + 1 ≤ u' ∧ H' g = some (.lst acc) ∧ Paired (RepW (fun x => c x ∨ x = g) H' a) acc ds ∧ ds.length = i ∧ ∀ x ∈ ds, Fit a x)
      ⟨[], [], _, (Kp.new hg).but, stl.kp (Kp.new hg), Nat.le_refl _, upd_same, .nil, rfl, fun x hx => absurd hx (by simp)⟩ ?_ ?_⟩
    · rintro i H' hi ⟨acc, ds, u', b', st', hu', hacc, pa, ld, fa⟩
      have gs : g ≠ s := stl.ne hg
      have av' := (avl.but b' st'.not).more (NoT.of hacc (fun _ z => nomatch z))
      refine ⟨rfl, itY <| itT rfl ⟨_, rfl, _, rfl, _, _, _, _, rfl, rfl, SqT.of ((kl.but.trans b').tup _ _ hp), atI_one, _, rfl, _, _, rfl, rfl, (fun x => c x ∨ x = g), s, a, x, _, u', m, rfl, .inl cs, av', st', hx.mono (kl.but.trans b').tk, by omega, fun d v H5 u5 b5 st5 hu5 r5 f5 => ⟨acc, b5.old _ _ gs hacc, line_lt ?_, acc ++ [v], ds ++ [d], u5, (b'.trans b5).put hg, StAt.other stl hg st5, by omega, upd_same, ?_, ?_, ?_⟩⟩⟩
      · have := Paired.len pa
        omega
      · have hl5 : Lk (fun x => c x ∨ x = g) H5 (upd H5 g (.lst (acc ++ [v]))) := Lk.at (.inr rfl) (NoT.of (b5.old _ _ gs hacc) (fun _ z => nomatch z))
        exact Paired.app (Paired.mapP pa fun _ _ r => (r.mono (b5.lk (.inl cs))).mono hl5) (.cons (r5.mono hl5) .nil)
      · rw [List.length_append, ld]
        rfl
      · intro y hy
        rcases List.mem_append.mp hy with hy | hy
        · exact fa y hy
        · rw [List.mem_singleton.mp hy]
          exact f5
    · rintro H' ⟨acc, ds, u', b', st', hu', hacc, pa, ld, fa⟩
      exact q ds _ _ _ (b1.trans (kl.but.trans b')) st' (by omega) ⟨g, acc, rfl, hacc, avl.new hg, Paired.mapP pa fun _ _ r => r.less⟩ ⟨by show ds.length ≤ 200; omega, fa⟩
end
end Br
/-! The law's drawing: programs. -/
namespace Br
open PySem L2
open PySem.Spec PyProof.Rows
def heK (e : HE) : Str × Kd := (e.x, e.k)
def HeadK (H : Hp) (v : V) (e : Str × Kd) : Prop := ∃ p kv, v = .ref p ∧ H p = some (.tup [.str e.1, kv]) ∧ KindAt H kv e.2
def spProg (K : PySem.W.Frag) : Sp := fun vs H Q _ => ∃ (sc s : Addr) (u : Nat), vs = [.ref s, .int 0] ∧ StAt K sc H s u 0 ∧
  ∀ r H' pg wl hv tv kv hs ws (es : List HE) (k : Kd) u' m', But s H H' → StAt K sc H' s u' m' → m' ≤ u' + 3 → H' r = some (.tup [.ref pg, .ref wl, kv]) → H' pg = some (.tup [.ref hv, tv]) → H' hv = some (.tup hs) → H' wl = some (.lst ws) →
    Paired (HeadK H') hs (es.map heK) → Paired (fun v (e : HE) => RepW (fun _ => False) H' e.k v e.d) ws es → (∀ e ∈ es, e.k.depth ≤ 4 ∧ Fit e.k e.d) → es.length ≤ 3 → KindAt H' kv k → k.depth ≤ 4 →
    (∀ e ∈ es.map heK, ctxL (es.map heK) e.1 = some e.2) → (∀ e ∈ es.map heK, e.1 ∈ plainN ∨ ∃ j, j < m' ∧ IsSfx e.1 j) → Q (.ref r) H'
section
variable {P : Program} {w : World} {K : PySem.W.Frag} {mg : Str → Option Value} {base : Heap} {aC aB f : Addr} {fd : FuncData}
set_option maxHeartbeats 2000000 in
theorem fn_law_program (T : Tp K mg aC aB) (F : At K mg "_law_program" s_law_program p_law_program f fd) {k0 : Nat} (hk0 : 12 ≤ k0) (c_law_cell : ∀ sc, Fn P w K mg base 1 "_law_cell" (spCellL K sc)) (c_law_leaf : Fn P w K mg base 7 "_law_leaf" (spLeaf 6)) (c_law_many : Fn P w K mg base 7 "_law_many" (spMany 6))
    (c_law_kind : Fn P w K mg base 5 "_law_kind" (spKind 4)) (c_law_name : ∀ sc, Fn P w K mg base 1 "_law_name" (spName K sc)) (c_law_tree : ∀ sc, Fn P w K mg base k0 "_law_tree" (spTree K sc 1)) (c_law_worth : ∀ sc, Fn P w K mg base 6 "_law_worth" (spWorthL K sc 5)) :
    Fn P w K mg base (k0 + 1) "_law_program" (spProg K) := by
  refine fn_by F sc_law_program ?_ (fun cdv A outer s0 H vs Q E hr h => ?_)
  · rintro vs H Q E ⟨sc, s, u, rfl, _⟩
    rfl
  obtain ⟨sc, s, u, rfl, st, q⟩ := h
  have c_law_cell := c_law_cell sc
  have c_law_name := c_law_name sc
  have c_law_tree := c_law_tree sc
  have c_law_worth := c_law_worth sc
  refine ⟨_, (pss_cons (ps_set (i := 2) sc_law_program.nd rfl (by first | exact Or.inl rfl | exact Or.inr rfl) (pe_fn c_law_cell hr (by omega) (by rfl) (pa_cons (pv 0) pa_nil)))
  (pss_cons (ps_set (i := 3) sc_law_program.nd rfl (by first | exact Or.inl rfl | exact Or.inr rfl) (pe_lst pa_nil))
  (pss_cons (ps_for PassesOwn.never rfl (pi_range1 (by rfl) T.range (pa_cons (pe_op op_mod (pv 2) (pe_int)) pa_nil)) (pg_name (i := 4) sc_law_program.nd rfl (by first | exact Or.inl rfl | exact Or.inr rfl)) (pss_cons (ps_set (i := 5) sc_law_program.nd rfl (by first | exact Or.inl rfl | exact Or.inr rfl) (pe_fn c_law_kind hr (by omega) (by rfl) (pa_cons (pe_op op_mod (pe_op op_fdiv (pv 2) (pe_op op_add (pe_int) (pe_op op_mul (pe_int) (pv 4)))) (pe_int)) (pa_cons (pe_int) pa_nil))))
  (pss_one (ps_expr (k_bm K rfl PySem.F.plainAttrs_list PySem.F.slot_list_append PySem.F.type_list_append mt_append (pv 3) (pa_cons (pe_tup (pa_cons (pe_fn c_law_name hr (by omega) (by rfl) (pa_cons (pv 0) (pa_cons (pv 3) (pa_cons (pe_op op_add (pe_op op_fdiv (pv 2) (pe_int)) (pv 4)) pa_nil)))) (pa_cons (pv 5) pa_nil))) pa_nil))))))
  (pss_cons (ps_set (i := 5) sc_law_program.nd rfl (by first | exact Or.inl rfl | exact Or.inr rfl) (pe_fn c_law_kind hr (by omega) (by rfl) (pa_cons (pe_op op_fdiv (pv 2) (pe_int)) (pa_cons (pe_int) pa_nil))))
  (pss_cons (ps_setLc (i := 6) (own := [("name", 8), ("one", 9)]) rfl sc_law_program.nd rfl rfl (sw_true rfl rfl rfl (by decide +kernel)) (k_pil K rfl (pv 3)) (blkOk_by (own := [("name", 8), ("one", 9)]) (by rfl)) (fun _ _ _ _ _ => (k_gtup K rfl (n := 2) rfl (pgs_cons (pg_name (i := 8) sc_law_program.nd rfl (by first | exact Or.inl rfl | exact Or.inr rfl)) (pgs_cons (pg_name (i := 9) sc_law_program.nd rfl (by first | exact Or.inl rfl | exact Or.inr rfl)) pgs_nil)))) (fun _ _ _ _ _ => pts_nil) (fun _ _ _ _ _ => (pe_fn c_law_worth hr (by omega) (by rfl) (pa_cons (pv 0) (pa_cons (pv 9) (pa_cons (pe_int) pa_nil))))))
  (pss_cons (ps_set (i := 7) sc_law_program.nd rfl (by first | exact Or.inl rfl | exact Or.inr rfl) (pe_fn c_law_tree hr (by omega) (by rfl) (pa_cons (pv 0) (pa_cons (pv 5) (pa_cons (pv 3) (pa_cons (pv 1) pa_nil))))))
  (pss_cons (ps_if (pt_cmpR op_gt (pe_fn c_law_many hr (by omega) (by rfl) (pa_cons (pv 7) pa_nil)) (pe_int) (nomark _)) (pss_one (ps_set (i := 7) sc_law_program.nd rfl (by first | exact Or.inl rfl | exact Or.inr rfl) (pe_fn c_law_leaf hr (by omega) (by rfl) (pa_cons (pv 5) (pa_cons (pv 3) (pa_cons (pv 2) pa_nil)))))) pss_nil)
  (pss_one (ps_ret (pe_tup (pa_cons (pe_tup (pa_cons (pe_callTy (k_tupOf K rfl) (by rfl) T.tuple (by decide +kernel) (pa_cons (pv 3) pa_nil)) (pa_cons (pv 7) pa_nil))) (pa_cons (pv 6) (pa_cons (pv 5) pa_nil))))))))))))), ?_⟩
  refine ⟨_, rfl, s, u, 0, rfl, st, fun z H1 b1 st1 => ?_⟩
  refine ⟨by show 0 ≤ sizeLine; decide, fun g hg => ?_⟩
  have gs : ¬ g = s := st1.ne hg
  obtain ⟨N, hN, hN5⟩ : ∃ N : Nat, z % 4 = (N : Int) ∧ N ≤ 3 := ⟨(z % 4).toNat, by omega, by omega⟩
  refine ⟨_, rfl, _, _, rfl, rfl, (by show (0 : Int) < 4; decide), (N : Int), by show [V.int (z % 4)] = _; rw [hN], by omega, by omega, for_range (lo := 0) (n := N) (fun i σ H' => ∃ (v4 v5 : Option V) (L : List (Str × Kd)) (es : List V) (m' : Nat), σ = [some (.ref s), some (.int 0), some (.int z), some (.ref g), v4, v5, none, none, none, none] ∧ But s H1 H' ∧ StAt K sc H' s (u + 1) m' ∧ m' ≤ i ∧ H' g = some (.lst es) ∧ Paired (HeadK H') es L ∧ L.length = i ∧ (∀ e ∈ L, e.2.depth ≤ 4 ∧ ctxL L e.1 = some e.2) ∧ (∀ e ∈ L, e.1 ∈ plainN ∨ ∃ j, j < m' ∧ IsSfx e.1 j))
    ⟨none, none, [], [], 0, rfl, (Kp.new hg).but, st1.kp (Kp.new hg), Nat.le_refl _, upd_same, .nil, rfl, fun _ hx => absurd hx (by simp), fun _ hx => absurd hx (by simp)⟩ ?_ ?_⟩
  · rintro i σ H2 hi ⟨v4, v5, L, es, m', rfl, b2, st2, hm2, hes, pr, lL, good, nms⟩
    refine ⟨_, rfl, _, rfl, _, _, rfl, rfl, .inl ⟨by decide, by decide⟩, _, _, rfl, rfl, _, _, rfl, rfl, ?_, _, _, rfl, rfl, (by show (0 : Int) < 46656; decide), _, 3, rfl, by omega, fun k kv H3 k3 hk dk => ?_⟩
    · refine ⟨?_, ?_⟩
      · show (0 : Int) < 4 + 9 * (0 + (i : Int))
        omega
      · show 4 + 9 * (0 + (i : Int)) < 1073741824
        omega
    have g3 := k3 _ _ hes
    refine ⟨_, rfl, .inl ⟨rfl, _, SqL.of g3⟩, ?_⟩
    refine ⟨_, rfl, _, rfl, _, rfl, _, _, rfl, rfl, ⟨by decide, by decide⟩, _, rfl, _, _, rfl, rfl, s, .ref g, L, _, u + 1, m', rfl, st2.kp k3, ⟨g, es, rfl, g3, Paired.mapP pr fun _ _ ⟨p, kv, e1, e2, e3⟩ => ⟨p, kv, e1, k3 _ _ e2, e3.mono k3.tk⟩⟩, by omega, fun y m4 H4 b4 st4 hy => ?_⟩
    have b34 := (k3.but (c := s)).trans b4
    have g4 := b4.old _ _ gs g3
    refine ⟨_, rfl, ln2, fun p hp => ⟨g, es, _, rfl, rfl, Kp.new hp _ _ g4, line_lt (by have := Paired.len pr; omega), ?_⟩⟩
    have gp : ¬ g = p := fun z => by
      rw [z] at g4
      rw [hp] at g4
      cases g4
    have hpp : upd (upd H4 p (.tup [.str y, kv])) g (.lst (es ++ [.ref p])) p = some (.tup [.str y, kv]) := by
      rw [upd_ne (fun z => gp z.symm)]
      exact upd_same
    have bg : But g (upd H4 p (.tup [.str y, kv])) (upd (upd H4 p (.tup [.str y, kv])) g (.lst (es ++ [.ref p]))) := But.at (NoT.of (Kp.new hp _ _ g4) (fun _ z => nomatch z))
    have tk : Tk H2 (upd (upd H4 p (.tup [.str y, kv])) g (.lst (es ++ [.ref p]))) := fun a xs e => bg.tup _ _ (Kp.new hp _ _ (b34.tup _ _ e))
    have tk3 : Tk H3 (upd (upd H4 p (.tup [.str y, kv])) g (.lst (es ++ [.ref p]))) := fun a xs e => bg.tup _ _ (Kp.new hp _ _ (b4.tup _ _ e))
    have fr : y ∉ L.map (·.1) ∧ (y ∈ plainN ∨ ∃ j, j < m4 ∧ IsSfx y j) := by
      rcases hy with ⟨_, h1, h2⟩ | ⟨rfl, h1⟩
      · exact ⟨h2, .inl h1⟩
      · refine ⟨fun z => ?_, .inr ⟨m', Nat.lt_succ_self m', h1⟩⟩
        obtain ⟨e, he, rfl⟩ := List.mem_map.mp z
        obtain ⟨n1, n2, _⟩ := sfx_not h1
        rcases nms e he with z | ⟨j, z1, z2⟩
        · exact n1 z
        · have := h1.inj z2 (by omega) (by omega)
          omega
    have m4' : m' ≤ m4 ∧ m4 ≤ m' + 1 := by rcases hy with ⟨e, _⟩ | ⟨e, _⟩ <;> omega
    refine ⟨_, _, L ++ [(y, k)], es ++ [.ref p], m4, rfl, (((b2.trans b34).trans (Kp.new hp).but).put (o := .lst (es ++ [.ref p])) hg), StAt.other st1 hg (st4.kp (Kp.new hp)), by omega, upd_same, ?_, by rw [List.length_append, lL]; rfl, ?_, ?_⟩
    · exact Paired.app (Paired.mapP pr fun _ _ ⟨p, kv, e1, e2, e3⟩ => ⟨p, kv, e1, tk _ _ e2, e3.mono tk⟩) (.cons ⟨p, kv, rfl, hpp, hk.mono tk3⟩ .nil)
    · intro e he
      rw [ctxL_snoc]
      unfold Ctx.put
      rcases List.mem_append.mp he with he | he
      · obtain ⟨h1, h2⟩ := good e he
        rw [if_neg (fun z => fr.1 (by rw [← z]; exact List.mem_map_of_mem he))]
        exact ⟨h1, h2⟩
      · obtain rfl := List.mem_singleton.mp he
        rw [if_pos rfl]
        exact ⟨dk, rfl⟩
    · intro e he
      rcases List.mem_append.mp he with he | he
      · rcases nms e he with z | ⟨j, z1, z2⟩
        · exact .inl z
        · exact .inr ⟨j, by omega, z2⟩
      · obtain rfl := List.mem_singleton.mp he
        exact fr.2
  · rintro σ H2 ⟨v4, v5, L, es, m', rfl, b2, st2, hm2, hes, pr, lL, good, nms⟩
    refine ⟨_, rfl, _, _, rfl, rfl, ⟨by decide, by decide⟩, _, 3, rfl, by omega, fun k kv H3 k3 hk dk => ?_⟩
    have st3 := st2.kp k3
    have b3 := b2.trans (k3.but (c := s))
    have g3 := k3 _ _ hes
    have tk23 : Tk H2 H3 := k3.tk
    have pr3 : Paired (HeadK H3) es L := Paired.mapP pr fun _ _ ⟨p, kv, e1, e2, e3⟩ => ⟨p, kv, e1, k3 _ _ e2, e3.mono k3.tk⟩
    have les := Paired.len pr
    refine ⟨_, rfl, g, rfl, ⟨_, SqL.of g3⟩, fun d hd => lc_list (K := K) (a := g) (xs := es) (fun i H' => ∃ (acc : List V) (ds : List HE) (u' : Nat), But s H3 H' ∧ StAt K sc H' s u' m' ∧ u + 1 ≤ u' ∧ H' d = some (.lst acc) ∧ Paired (fun v (e : HE) => RepW (fun x => x = s ∨ x = d) H' e.k v e.d) acc ds ∧ ds.map heK = L.take i ∧ ∀ e ∈ ds, Fit e.k e.d)
      ⟨[], [], _, (Kp.new hd).but, st3.kp (Kp.new hd), Nat.le_refl _, upd_same, .nil, rfl, fun _ hx => absurd hx (by simp)⟩ (fun i H' _ pw => ?_) ?_ ?_⟩
    · obtain ⟨_, _, _, b4, _⟩ := pw
      exact SqL.of (b4.old _ _ gs g3)
    · rintro i x H' hi ⟨acc, ds, u', b4, st4, hu4, hacc, pa, ed, fa⟩
      obtain ⟨e, he, p, kv2, rfl, hp, hk2⟩ := Paired.at pr3 hi
      have li : i < es.length := (List.getElem?_eq_some_iff.mp hi).1
      have ds_ : ¬ d = s := st3.ne hd
      have ld : acc.length ≤ 3 := by
        have z1 := Paired.len pa
        have z2 := congrArg List.length ed
        rw [List.length_map, List.length_take] at z2
        omega
      have av' : Av (fun x => x = s ∨ x = d) H' := fun a ha => by
        rcases ha with rfl | rfl
        · exact st4.not
        · exact NoT.of hacc (fun _ z => nomatch z)
      refine ⟨p, _, rfl, SqT.of (b4.tup _ _ hp), rfl, _, _, rfl, _, _, rfl, rfl, rfl, itY <| itT rfl ⟨_, rfl, _, rfl, (fun x => x = s ∨ x = d), s, e.2, kv2, 2, u', m', rfl, .inl rfl, av', st4, hk2.mono b4.tk, by have := (good e (List.mem_of_getElem? he)).1; omega, fun dd v H5 u5 b5 st5 hu5 r5 f5 => ⟨acc, b5.old _ _ ds_ hacc, line_lt (by omega), acc ++ [v], ds ++ [⟨e.1, e.2, dd⟩], u5, (b4.trans b5).put hd, StAt.other st3 hd st5, by omega, upd_same, ?_, ?_, ?_⟩⟩⟩
      · have hl5 : Lk (fun x => x = s ∨ x = d) H5 (upd H5 d (.lst (acc ++ [v]))) := Lk.at (.inr rfl) (NoT.of (b5.old _ _ ds_ hacc) (fun _ z => nomatch z))
        exact Paired.app (Paired.mapP pa fun _ _ r => (r.mono (b5.lk (.inl rfl))).mono hl5) (.cons (r5.mono hl5) .nil)
      · rw [List.map_append, ed, take_more he]
        rfl
      · intro y hy
        rcases List.mem_append.mp hy with hy | hy
        · exact fa y hy
        · rw [List.mem_singleton.mp hy]
          exact f5
    · rintro H4 ⟨acc, ds, u4, b4, st4, hu4, hacc, pa, ed, fa⟩
      rw [les, List.take_length] at ed
      have pr4 : Paired (HeadK H4) es L := Paired.mapP pr3 fun _ _ ⟨p, kv, e1, e2, e3⟩ => ⟨p, kv, e1, b4.tup _ _ e2, e3.mono b4.tk⟩
      have g4 := b4.old _ _ gs g3
      have hk4 := hk.mono b4.tk
      have a4 : TrIn K sc H4 s k kv (.ref g) L u4 m' := ⟨st4, hk4, by omega, ⟨g, es, rfl, g4, pr4⟩, fun e he => ⟨by have := (good e he).1; omega, (good e he).2⟩, fun e he => .inr (nms e he)⟩
      refine ⟨_, rfl, _, rfl, _, rfl, _, rfl, s, k, kv, .ref g, L, u4, m', 0, rfl, by omega, a4, by omega, by omega, fun t tv H5 u5 m5 b5 st5 hu5 hm5 hmu5 tr sc_ ht dp => ?_⟩
      have a5 := a4.move b5 st5 hm5
      have g5 := b5.old _ _ gs g4
      have d5 := b5.old _ _ (st3.ne hd) hacc
      unfold gName
      dsimp only
      refine seqI (fun σ H' => ∃ v7, σ = [some (.ref s), some (.int 0), some (.int z), some (.ref g), v4, some kv, some (.ref d), some v7, none, none] ∧ Kp H5 H') (fun N hN => ?_) ?_
      · refine ⟨_, rfl, k, t, tv, rfl, tr, by omega, fun H6 k6 => ⟨_, _, rfl, rfl, _, rfl, itB (fun e => ?_) (fun e => hN _ _ ⟨_, rfl, k6⟩)⟩⟩
        have a6 := a5.move k6.but (a5.st.kp k6) (Nat.le_refl _)
        exact ⟨_, rfl, _, rfl, _, rfl, k, kv, .ref g, L, ctxL L, z, rfl, a6.kd, by omega, by omega, a6.nm, by omega, a6.good, fun t2 v2 H7 k7 _ _ _ _ _ => hN _ _ ⟨_, rfl, k6.trans k7⟩⟩
      rintro σ H6 ⟨v7, rfl, k6⟩
      refine ⟨_, rfl, g, es, rfl, .inl ⟨SqL.of (k6 _ _ g5), fun l hl => ⟨_, rfl, ln2, fun pg hpg => ⟨_, rfl, _, rfl, ln3, fun r hr' => ?_⟩⟩⟩⟩
      have k7 := ((Kp.new (o := .tup es) hl).trans (Kp.new (o := .tup [.ref l, v7]) hpg)).trans (Kp.new (o := .tup [.ref pg, .ref d, kv]) hr')
      have k67 := k6.trans k7
      have b45 := (b4.trans b5).trans k67.but
      subst ed
      refine q r _ pg d l v7 kv es acc ds k u5 m5 (b1.trans (b3.trans b45)) (st5.kp k67) hmu5 upd_same (Kp.new hr' _ _ upd_same) (Kp.new hr' _ _ (Kp.new hpg _ _ upd_same)) (k67 _ _ d5) ?_ ?_ ?_ ?_ ((a5.kd).mono k67.tk) dk (fun e he => (good e he).2) (fun e he => ?_)
      · exact Paired.mapP pr4 fun _ _ ⟨p, kv, e1, e2, e3⟩ => ⟨p, kv, e1, k67 _ _ (b5.tup _ _ e2), (e3.mono b5.tk).mono k67.tk⟩
      · exact Paired.mapP pa fun _ _ r => ((r.recast (c' := fun x => x = s) (fun a e => .inl (.inl e))).mono (c := fun x => x = s) ((b5.trans k67.but).lk (c := fun x => x = s) rfl)).recast fun _ e => e.elim
      · intro e he
        exact ⟨(good (heK e) (List.mem_map_of_mem he)).1, fa e he⟩
      · rw [List.length_map] at lL
        omega
      · rcases nms e he with z | ⟨j, z1, z2⟩
        · exact .inl z
        · exact .inr ⟨j, by omega, z2⟩
end
end Br
/-! The law: what is moved. -/
namespace Br
open PySem L2
open PySem.Spec PyProof.Rows
theorem cat_ints {K : PySem.W.Frag} {H : Hp} {x y : V} {l m : List Int} {Q : VK} (hx : IntsAt H x l) (hy : IntsAt H y m) (hl : l.length + m.length ≤ 10000) (q : ∀ v H', Kp H H' → IntsAt H' v (l ++ m) → Q v H') : rCatA K x y H Q := by
  obtain ⟨a, rfl, ha⟩ := hx
  obtain ⟨b, rfl, hb⟩ := hy
  refine ⟨a, b, _, _, rfl, rfl, SqT.of ha, SqT.of hb, line_le (by rw [List.length_map, List.length_map]; omega), fun e => ?_, fun _ e => ?_, fun _ _ p hp => ?_⟩
  · obtain rfl := List.map_eq_nil_iff.mp e
    exact q _ _ Kp.refl ⟨b, rfl, hb⟩
  · obtain rfl := List.map_eq_nil_iff.mp e
    exact q _ _ Kp.refl ⟨a, rfl, by rw [List.append_nil]; exact ha⟩
  · exact q _ _ (Kp.new hp) ⟨p, rfl, by rw [upd_same, List.map_append]⟩
def Short {α : Type} : Res α → Prop
  | .ok _ _ => True
  | .stop _ _ p q => p.length ≤ 900 ∧ q.length ≤ 900
def spMoved : Sp := fun vs H Q _ => ∃ (c : Addr → Prop) (k : Kd) (r : Res (D k)) (i : Int) (qs : List Int) (v tv : V), vs = [v, .int i, tv] ∧ ToldAt c H v [] [] r ∧ IntsAt H tv qs ∧ qs.length ≤ 10 ∧ Short r ∧ ∀ v' H', Kp H H' → ToldAt c H' v' [] [] (r.pre i qs) → Q v' H'
section
variable {P : Program} {w : World} {K : PySem.W.Frag} {mg : Str → Option Value} {base : Heap} {aC aB f : Addr} {fd : FuncData}
theorem fn_law_moved (T : Tp K mg aC aB) (F : At K mg "_law_moved" s_law_moved p_law_moved f fd) : Fn P w K mg base 1 "_law_moved" spMoved := by
  refine fn_by F sc_law_moved ?_ (fun cdv A outer s0 H vs Q E hr h => ?_)
  · rintro vs H Q E ⟨c, k, r, i, qs, v, tv, rfl, _⟩
    rfl
  obtain ⟨c, k, r, i, qs, v, tv, rfl, tl, it, lq, sh, q⟩ := h
  refine ⟨_, (pss_cons (ps_if (pt_cmpR op_eq (pe_ix (k_ixt K rfl) (pv 0) (pe_int) (fun _ _ => rfl)) (pe_str) (nomark _)) (pss_one (ps_ret (pv 0))) pss_nil)
  (pss_one (ps_ret (pe_tup (pa_cons (pe_str) (pa_cons (pe_ix (k_ixt K rfl) (pv 0) (pe_int) (fun _ _ => rfl)) (pa_cons (pe_op (k_cat K rfl) (pe_tup (pa_cons (pv 1) pa_nil)) (pe_ix (k_ixt K rfl) (pv 0) (pe_int) (fun _ _ => rfl))) (pa_cons (pe_op (k_cat K rfl) (pv 2) (pe_ix (k_ixt K rfl) (pv 0) (pe_int) (fun _ _ => rfl))) pa_nil)))))))), ?_⟩
  cases r with
  | ok n d =>
    obtain ⟨p, x, rfl, hp, rw_⟩ := tl
    exact ⟨_, rfl, _, _, _, _, rfl, rfl, SqT.of hp, atI_zero, rfl, _, rfl, itT rfl ⟨_, rfl, q _ _ Kp.refl ⟨p, x, rfl, hp, rw_⟩⟩⟩
  | stop n wd pp qq =>
    obtain ⟨p, x, y, rfl, hp, ix, iy⟩ := tl
    obtain ⟨s1, s2⟩ := sh
    refine ⟨_, rfl, _, _, _, _, rfl, rfl, SqT.of hp, atI_zero, rfl, _, rfl, itF (by decide +kernel) ?_⟩
    refine ⟨_, rfl, _, _, _, _, rfl, rfl, SqT.of hp, atI_one, _, rfl, ln1, fun a ha => ?_⟩
    have k1 := Kp.new (o := .tup [.int i]) ha
    refine ⟨_, rfl, _, _, _, _, rfl, rfl, SqT.of (k1 _ _ hp), atI_two, cat_ints (l := [i]) (m := pp) ⟨a, rfl, upd_same⟩ (ix.mono k1.tk) (by show 1 + pp.length ≤ _; omega) fun v2 H2 k2 i2 => ?_⟩
    refine ⟨_, rfl, _, rfl, _, _, _, _, rfl, rfl, SqT.of (k2 _ _ (k1 _ _ hp)), atI_nat (j := 3) rfl, cat_ints (l := qs) (m := qq) ((it.mono k1.tk).mono k2.tk) ((iy.mono k1.tk).mono k2.tk) (by omega) fun v3 H3 k3 i3 => ?_⟩
    refine ⟨by show 4 ≤ sizeLine; decide, fun b hb => q _ _ (((k1.trans k2).trans k3).trans (Kp.new hb)) ⟨b, _, _, rfl, upd_same, (i2.mono k3.tk).mono (Kp.new hb).tk, i3.mono (Kp.new hb).tk⟩⟩
end
end Br
/-! The law: what is alike. -/
namespace Br
open PySem L2
open PySem.Spec PyProof.Rows
def Alk (H : Hp) : Nat → V → V → Prop
  | 0, _, _ => False
  | n + 1, v, w => (∃ i, v = .int i ∧ w = .int i) ∨ (∃ b, v = .bl b ∧ w = .bl b) ∨ (∃ s, v = .str s ∧ w = .str s) ∨
    (∃ a b xs ys, v = .ref a ∧ w = .ref b ∧ H a = some (.tup xs) ∧ H b = some (.tup ys) ∧ xs.length ≤ 2000 ∧ Paired (Alk H n) xs ys) ∨
    (∃ a b xs ys, v = .ref a ∧ w = .ref b ∧ H a = some (.lst xs) ∧ H b = some (.lst ys) ∧ xs.length ≤ 2000 ∧ Paired (Alk H n) xs ys)
theorem Alk.kp {H H' : Hp} (k : Kp H H') : ∀ {n : Nat} {v w : V}, Alk H n v w → Alk H' n v w
  | 0, _, _, h => h
  | n + 1, v, w, h => by
    rcases h with h | h | h | ⟨a, b, xs, ys, e1, e2, h1, h2, hl, pr⟩ | ⟨a, b, xs, ys, e1, e2, h1, h2, hl, pr⟩
    · exact .inl h
    · exact .inr (.inl h)
    · exact .inr (.inr (.inl h))
    · exact .inr (.inr (.inr (.inl ⟨a, b, xs, ys, e1, e2, k _ _ h1, k _ _ h2, hl, Paired.mapP pr fun _ _ r => r.kp k⟩)))
    · exact .inr (.inr (.inr (.inr ⟨a, b, xs, ys, e1, e2, k _ _ h1, k _ _ h2, hl, Paired.mapP pr fun _ _ r => r.kp k⟩)))
theorem any2 {K : PySem.W.Frag} {t : Value} {b1 b2 : Bool} (h1 : PySem.W.kitOne K t (.type "tuple") = some b1) (h2 : PySem.W.kitOne K t (.type "list") = some b2) : PySem.W.kitAny K t [.type "tuple", .type "list"] = some (b1 || b2) := by
  refine kitAny_cons h1 (fun e => kitAny_cons h2 (fun e2 => ?_) (fun e2 => ?_)) (fun e => ?_)
  · rw [e, e2]
    rfl
  · rw [e2, Bool.or_true]
  · rw [e]
    rfl
theorem isk {K : PySem.W.Frag} {a b : String} {r : Bool} (h : kitB a b = some r) : PySem.W.kitOne K (.type a) (.type b) = some r := kit_ty h
def spAlike (n : Nat) : Sp := fun vs H Q _ => ∃ v w, vs = [v, w] ∧ Alk H n v w ∧ ∀ H', Kp H H' → Q (.bl true) H'
section
variable {P : Program} {w : World} {K : PySem.W.Frag} {mg : Str → Option Value} {base : Heap} {aC aB f : Addr} {fd : FuncData}
theorem fn_law_alike (T : Tp K mg aC aB) (F : At K mg "_law_alike" s_law_alike p_law_alike f fd) : ∀ n, Fn P w K mg base n "_law_alike" (spAlike n) → Fn P w K mg base (n + 1) "_law_alike" (spAlike (n + 1)) := by
  intro n c_law_alike
  refine fn_by F sc_law_alike ?_ (fun cdv A outer s0 H vs Q E hr h => ?_)
  · rintro vs H Q E ⟨v, w, rfl, _⟩
    rfl
  obtain ⟨v, w, rfl, al, q⟩ := h
  refine ⟨_, (pss_cons (ps_if (pt_val (pe_callB (k_isiT K rfl) (by rfl) T.isinstance (by decide +kernel) (pa_cons (pv 1) (pa_cons (pe_tup (pa_cons (pe_ty (n := "tuple") (by rfl) T.tuple (by decide +kernel)) (pa_cons (pe_ty (n := "list") (by rfl) T.list (by decide +kernel)) pa_nil))) pa_nil)))) (pss_cons (ps_if (pw_or (pt_cmpR op_ne (pe_callB (k_isi K rfl) (by rfl) T.isinstance (by decide +kernel) (pa_cons (pv 1) (pa_cons (pe_ty (n := "tuple") (by rfl) T.tuple (by decide +kernel)) pa_nil))) (pe_callB (k_isi K rfl) (by rfl) T.isinstance (by decide +kernel) (pa_cons (pv 0) (pa_cons (pe_ty (n := "tuple") (by rfl) T.tuple (by decide +kernel)) pa_nil))) (nomark _)) (pw_or1 (pt_cmpR op_ne (pe_callB (k_isi K rfl) (by rfl) T.isinstance (by decide +kernel) (pa_cons (pv 1) (pa_cons (pe_ty (n := "list") (by rfl) T.list (by decide +kernel)) pa_nil))) (pe_callB (k_isi K rfl) (by rfl) T.isinstance (by decide +kernel) (pa_cons (pv 0) (pa_cons (pe_ty (n := "list") (by rfl) T.list (by decide +kernel)) pa_nil))) (nomark _)))).pt (pss_one (ps_ret pe_bl)) pss_nil)
  (pss_one (ps_ret (pe_and (pe_cmpR op_eq (pe_callB (k_len K rfl) (by rfl) T.len (by decide +kernel) (pa_cons (pv 0) pa_nil)) (pe_callB (k_len K rfl) (by rfl) T.len (by decide +kernel) (pa_cons (pv 1) pa_nil)) (nomark _)) (pe_one (pe_callB (k_all K rfl rfl) (by rfl) T.all (by decide +kernel) (pa_cons (pe_lc (own := [("one", 2), ("other", 3)]) rfl sc_law_alike.nd (k_zipA K rfl (by rfl) T.zip (pa_cons (pv 0) (pa_cons (pv 1) pa_nil))) (blkOk_by (own := [("one", 2), ("other", 3)]) (by rfl)) (fun _ _ _ _ _ => (k_gtup K rfl (n := 2) rfl (pgs_cons (pg_name (i := 2) sc_law_alike.nd rfl (by first | exact Or.inl rfl | exact Or.inr rfl)) (pgs_cons (pg_name (i := 3) sc_law_alike.nd rfl (by first | exact Or.inl rfl | exact Or.inr rfl)) pgs_nil)))) (fun _ _ _ _ _ => pts_nil) (fun _ _ _ _ _ => (pe_fn c_law_alike hr (by omega) (by rfl) (pa_cons (pv 2) (pa_cons (pv 3) pa_nil))))) pa_nil))))))) pss_nil)
  (pss_cons (ps_if (pw_or (pt_val (pe_callB (k_isi K rfl) (by rfl) T.isinstance (by decide +kernel) (pa_cons (pv 1) (pa_cons (pe_ty (n := "bool") (by rfl) T.bool (by decide +kernel)) pa_nil)))) (pw_or1 (pt_val (pe_callB (k_isi K rfl) (by rfl) T.isinstance (by decide +kernel) (pa_cons (pv 0) (pa_cons (pe_ty (n := "bool") (by rfl) T.bool (by decide +kernel)) pa_nil)))))).pt (pss_one (ps_ret (pe_and (pe_callB (k_isi K rfl) (by rfl) T.isinstance (by decide +kernel) (pa_cons (pv 1) (pa_cons (pe_ty (n := "bool") (by rfl) T.bool (by decide +kernel)) pa_nil))) (pe_and (pe_callB (k_isi K rfl) (by rfl) T.isinstance (by decide +kernel) (pa_cons (pv 0) (pa_cons (pe_ty (n := "bool") (by rfl) T.bool (by decide +kernel)) pa_nil))) (pe_one (pe_cmpR op_eq (pv 0) (pv 1) (nomark _))))))) pss_nil)
  (pss_cons (ps_if (pt_val (pe_callB (k_isi K rfl) (by rfl) T.isinstance (by decide +kernel) (pa_cons (pv 1) (pa_cons (pe_ty (n := "int") (by rfl) T.int (by decide +kernel)) pa_nil)))) (pss_one (ps_ret (pe_and (pe_callB (k_isi K rfl) (by rfl) T.isinstance (by decide +kernel) (pa_cons (pv 0) (pa_cons (pe_ty (n := "int") (by rfl) T.int (by decide +kernel)) pa_nil))) (pe_one (pe_cmpR op_eq (pv 0) (pv 1) (nomark _)))))) pss_nil)
  (pss_cons (ps_if (pt_cmpR op_isN (pv 1) (pe_non) (nomark _)) (pss_one (ps_ret (pe_cmpR op_isN (pv 0) (pe_non) (nomark _)))) pss_nil)
  (pss_one (ps_ret (pe_and (pe_callB (k_isi K rfl) (by rfl) T.isinstance (by decide +kernel) (pa_cons (pv 0) (pa_cons (pe_ty (n := "str") (by rfl) T.str (by decide +kernel)) pa_nil))) (pe_one (pe_cmpR op_eq (pv 0) (pv 1) (nomark _)))))))))), ?_⟩
  rcases al with ⟨i, rfl, rfl⟩ | ⟨b, rfl, rfl⟩ | ⟨s, rfl, rfl⟩ | ⟨a, b, xs, ys, rfl, rfl, h1, h2, hl, pr⟩ | ⟨a, b, xs, ys, rfl, rfl, h1, h2, hl, pr⟩
  · refine ⟨_, rfl, ln2, fun p hp => ⟨_, p, _, _, _, _, rfl, upd_same, .cons (.ty "tuple") (.cons (.ty "list") .nil), .base (.int _), any2 (isk (r := false) (by decide +kernel)) (isk (r := false) (by decide +kernel)), _, rfl, itF rfl ?_⟩⟩
    refine ⟨_, rfl, _, _, _, _, _, rfl, .ty "bool", .base (.int _), isk (r := false) (by decide +kernel), _, rfl, itF rfl ⟨_, rfl, _, _, _, _, _, rfl, .ty "bool", .base (.int _), isk (r := false) (by decide +kernel), _, rfl, itF rfl ?_⟩⟩
    refine ⟨_, rfl, _, _, _, _, _, rfl, .ty "int", .base (.int _), is_ii K, _, rfl, itT rfl ?_⟩
    refine ⟨_, rfl, _, _, _, _, _, rfl, .ty "int", .base (.int _), is_ii K, _, rfl, itT rfl ⟨_, rfl, _, rfl, rfl, ?_⟩⟩
    rw [decide_eq_true rfl]
    exact q _ (Kp.new hp)
  · refine ⟨_, rfl, ln2, fun p hp => ⟨_, p, _, _, _, _, rfl, upd_same, .cons (.ty "tuple") (.cons (.ty "list") .nil), .base (.bl _), any2 (isk (r := false) (by decide +kernel)) (isk (r := false) (by decide +kernel)), _, rfl, itF rfl ?_⟩⟩
    refine ⟨_, rfl, _, _, _, _, _, rfl, .ty "bool", .base (.bl _), isk (r := true) (by decide +kernel), _, rfl, itT rfl (itT rfl ?_)⟩
    refine ⟨_, rfl, _, _, _, _, _, rfl, .ty "bool", .base (.bl _), isk (r := true) (by decide +kernel), _, rfl, itT rfl ⟨_, rfl, _, _, _, _, _, rfl, .ty "bool", .base (.bl _), isk (r := true) (by decide +kernel), _, rfl, itT rfl ⟨_, rfl, _, rfl, rfl, ?_⟩⟩⟩
    rw [decide_eq_true rfl]
    exact q _ (Kp.new hp)
  · refine ⟨_, rfl, ln2, fun p hp => ⟨_, p, _, _, _, _, rfl, upd_same, .cons (.ty "tuple") (.cons (.ty "list") .nil), .base (.str _), any2 (isk (r := false) (by decide +kernel)) (isk (r := false) (by decide +kernel)), _, rfl, itF rfl ?_⟩⟩
    refine ⟨_, rfl, _, _, _, _, _, rfl, .ty "bool", .base (.str _), isk (r := false) (by decide +kernel), _, rfl, itF rfl ⟨_, rfl, _, _, _, _, _, rfl, .ty "bool", .base (.str _), isk (r := false) (by decide +kernel), _, rfl, itF rfl ?_⟩⟩
    refine ⟨_, rfl, _, _, _, _, _, rfl, .ty "int", .base (.str _), isk (r := false) (by decide +kernel), _, rfl, itF rfl ?_⟩
    refine ⟨_, rfl, rfl, _, rfl, itF (decide_eq_false (by intro z; cases z)) ?_⟩
    refine ⟨_, rfl, _, _, _, _, _, rfl, .ty "str", .base (.str _), isk (r := true) (by decide +kernel), _, rfl, itT rfl ⟨_, rfl, _, rfl, rfl, ?_⟩⟩
    rw [decide_eq_true rfl]
    exact q _ (Kp.new hp)
  · have ll := Paired.len pr
    refine ⟨_, rfl, ln2, fun p hp => ⟨_, p, _, _, _, _, rfl, upd_same, .cons (.ty "tuple") (.cons (.ty "list") .nil), .base (.tup (Kp.new hp _ _ h2)), any2 (isk (r := true) (by decide +kernel)) (isk (r := false) (by decide +kernel)), _, rfl, itT rfl ?_⟩⟩
    have k1 := Kp.new (o := .tup [.ty "tuple", .ty "list"]) hp
    have g1 := k1 _ _ h1
    have g2 := k1 _ _ h2
    refine ⟨_, rfl, _, _, _, _, _, rfl, .ty "tuple", .base (.tup g2), isk (r := true) (by decide +kernel), _, rfl, _, _, _, _, _, rfl, .ty "tuple", .base (.tup g1), isk (r := true) (by decide +kernel), rfl, _, rfl, itF rfl ?_⟩
    refine ⟨_, rfl, _, _, _, _, _, rfl, .ty "list", .base (.tup g2), isk (r := false) (by decide +kernel), _, rfl, _, _, _, _, _, rfl, .ty "list", .base (.tup g1), isk (r := false) (by decide +kernel), rfl, _, rfl, itF rfl ?_⟩
    refine ⟨_, rfl, a, _, rfl, .inr (SqT.of g1), _, rfl, b, _, rfl, .inr (SqT.of g2), rfl, _, rfl, itT (decide_eq_true (by rw [ll])) ?_⟩
    refine ⟨_, rfl, _, rfl, a, b, xs, ys, rfl, .inr ⟨SqT.of g1, SqT.of g2, fun g hg => lc_zipT (K := K) (a := a) (b := b) (xs := xs) (ys := ys) ll (fun i H' => ∃ bs : List Bool, Kp (upd H p (.tup [.ty "tuple", .ty "list"])) H' ∧ H' g = some (.lst (bs.map V.bl)) ∧ bs.length = i ∧ bs.all id = true)
      ⟨[], Kp.new hg, upd_same, rfl, rfl⟩ (fun i H' _ pw => ?_) ?_ ?_⟩⟩
    · obtain ⟨_, kp, _⟩ := pw
      exact ⟨SqT.of (kp _ _ g1), SqT.of (kp _ _ g2)⟩
    · rintro i x y t H' hx hy ⟨bs, kp, hbs, lb, ab⟩ ht
      have li : i < xs.length := (List.getElem?_eq_some_iff.mp hx).1
      obtain ⟨y2, hy2, al⟩ := Paired.at pr hx
      obtain rfl : y2 = y := Option.some.inj (hy2.symm.trans hy)
      have kt := kp.trans (Kp.new (o := .tup [x, y2]) ht)
      have gt := Kp.new (o := .tup [x, y2]) ht _ _ hbs
      refine ⟨t, _, rfl, SqT.of upd_same, rfl, _, _, rfl, _, _, rfl, rfl, rfl, itY <| itT rfl ⟨_, rfl, _, rfl, x, y2, rfl, (al.kp k1).kp kt, fun H5 k5 => ⟨bs.map V.bl, k5 _ _ gt, line_lt (by rw [List.length_map]; omega), bs ++ [true], (kt.trans k5).put hg, by rw [upd_same, List.map_append]; rfl, by rw [List.length_append, lb]; rfl, by rw [List.all_append, ab]; rfl⟩⟩⟩
    · rintro H' ⟨bs, kp, hbs, lb, ab⟩
      refine ⟨g, bs, rfl, SqL.of hbs, ?_⟩
      rw [ab]
      exact q _ (k1.trans kp)
  · have ll := Paired.len pr
    refine ⟨_, rfl, ln2, fun p hp => ⟨_, p, _, _, _, _, rfl, upd_same, .cons (.ty "tuple") (.cons (.ty "list") .nil), .base (.lst (Kp.new hp _ _ h2)), any2 (isk (r := false) (by decide +kernel)) (isk (r := true) (by decide +kernel)), _, rfl, itT rfl ?_⟩⟩
    have k1 := Kp.new (o := .tup [.ty "tuple", .ty "list"]) hp
    have g1 := k1 _ _ h1
    have g2 := k1 _ _ h2
    refine ⟨_, rfl, _, _, _, _, _, rfl, .ty "tuple", .base (.lst g2), isk (r := false) (by decide +kernel), _, rfl, _, _, _, _, _, rfl, .ty "tuple", .base (.lst g1), isk (r := false) (by decide +kernel), rfl, _, rfl, itF rfl ?_⟩
    refine ⟨_, rfl, _, _, _, _, _, rfl, .ty "list", .base (.lst g2), isk (r := true) (by decide +kernel), _, rfl, _, _, _, _, _, rfl, .ty "list", .base (.lst g1), isk (r := true) (by decide +kernel), rfl, _, rfl, itF rfl ?_⟩
    refine ⟨_, rfl, a, _, rfl, .inl (SqL.of g1), _, rfl, b, _, rfl, .inl (SqL.of g2), rfl, _, rfl, itT (decide_eq_true (by rw [ll])) ?_⟩
    refine ⟨_, rfl, _, rfl, a, b, xs, ys, rfl, .inl ⟨SqL.of g1, SqL.of g2, fun g hg => lc_zipL (K := K) (a := a) (b := b) (xs := xs) (ys := ys) ll (fun i H' => ∃ bs : List Bool, Kp (upd H p (.tup [.ty "tuple", .ty "list"])) H' ∧ H' g = some (.lst (bs.map V.bl)) ∧ bs.length = i ∧ bs.all id = true)
      ⟨[], Kp.new hg, upd_same, rfl, rfl⟩ (fun i H' _ pw => ?_) ?_ ?_⟩⟩
    · obtain ⟨_, kp, _⟩ := pw
      exact ⟨SqL.of (kp _ _ g1), SqL.of (kp _ _ g2)⟩
    · rintro i x y t H' hx hy ⟨bs, kp, hbs, lb, ab⟩ ht
      have li : i < xs.length := (List.getElem?_eq_some_iff.mp hx).1
      obtain ⟨y2, hy2, al⟩ := Paired.at pr hx
      obtain rfl : y2 = y := Option.some.inj (hy2.symm.trans hy)
      have kt := kp.trans (Kp.new (o := .tup [x, y2]) ht)
      have gt := Kp.new (o := .tup [x, y2]) ht _ _ hbs
      refine ⟨t, _, rfl, SqT.of upd_same, rfl, _, _, rfl, _, _, rfl, rfl, rfl, itY <| itT rfl ⟨_, rfl, _, rfl, x, y2, rfl, (al.kp k1).kp kt, fun H5 k5 => ⟨bs.map V.bl, k5 _ _ gt, line_lt (by rw [List.length_map]; omega), bs ++ [true], (kt.trans k5).put hg, by rw [upd_same, List.map_append]; rfl, by rw [List.length_append, lb]; rfl, by rw [List.all_append, ab]; rfl⟩⟩⟩
    · rintro H' ⟨bs, kp, hbs, lb, ab⟩
      refine ⟨g, bs, rfl, SqL.of hbs, ?_⟩
      rw [ab]
      exact q _ (k1.trans kp)
end
end Br
/-! The law: each by each, times by times. -/
namespace Br
open PySem L2
open PySem.Spec PyProof.Rows
def Sh {α : Type} (h : Nat) : Res α → Prop
  | .ok _ _ => True
  | .stop _ _ p q => p.length ≤ h ∧ q.length ≤ h
section
variable {α β : Type}
theorem Sh.up {h h' : Nat} {r : Res α} (s : Sh h r) (l : h ≤ h') : Sh h' r := by
  cases r with
  | ok n a => trivial
  | stop n w p q =>
    obtain ⟨a, b⟩ := s
    exact ⟨Nat.le_trans a l, Nat.le_trans b l⟩
theorem Sh.pre {h : Nat} {r : Res α} (s : Sh h r) (i : Int) {qs : List Int} (l : qs.length ≤ 1) : Sh (h + 1) (r.pre i qs) := by
  cases r with
  | ok n a => trivial
  | stop n w p q =>
    obtain ⟨a, b⟩ := s
    refine ⟨Nat.succ_le_succ a, ?_⟩
    rw [List.length_append]
    omega
theorem Sh.plus {h : Nat} {r : Res α} (s : Sh h r) (m : Nat) : Sh h (r.plus m) := by
  cases r with
  | ok n a => trivial
  | stop n w p q => exact s
theorem Sh.bind {h : Nat} {r : Res α} {f : α → Res β} (s : Sh h r) (s2 : ∀ a, Sh h (f a)) : Sh h (r.bind f) := by
  cases r with
  | ok n a => exact (s2 a).plus n
  | stop n w p q => exact s
theorem Sh.fin (h : Nat) (e : Except Wd α) : Sh h (Res.fin e) := by
  cases e with
  | ok a => trivial
  | error w => exact ⟨Nat.zero_le _, Nat.zero_le _⟩
theorem Sh.each {h : Nat} {f : α → Res β} (s : ∀ a, Sh h (f a)) : ∀ (l : List α) (i : Int), Sh (h + 1) (eachR f i l)
  | [], _ => trivial
  | d :: l, i => ((s d).pre 1 (qs := [i]) (Nat.le_refl 1)).bind fun _ => (Sh.each s l (i + 1)).bind fun _ => trivial
theorem Sh.times {h : Nat} {f : α → Res α} (s : ∀ a, Sh h (f a)) : ∀ (n : Nat) (i : Int) (d : α), Sh (h + 1) (timesR f i n d)
  | 0, _, _ => trivial
  | n + 1, i, d => ((s d).pre 2 (qs := [i]) (Nat.le_refl 1)).bind fun e => Sh.times s n (i + 1) e
end
theorem den_sh : ∀ {k : Kd} (t : Br.T k) (r : Env), Sh t.ht (den t r) := by
  intro k t
  induction t with
  | num n => exact fun r => trivial
  | yes => exact fun r => trivial
  | no => exact fun r => trivial
  | name k x => exact fun r => trivial
  | none a => exact fun r => trivial
  | op1 o t ih => exact fun r => ((ih r).pre 0 (Nat.zero_le _)).bind fun d => Sh.fin _ _
  | op2 o t u ih1 ih2 =>
    intro r
    have a : t.ht + 1 ≤ (T.op2 o t u).ht := by show _ ≤ max t.ht u.ht + 1; omega
    have b : u.ht + 1 ≤ (T.op2 o t u).ht := by show _ ≤ max t.ht u.ht + 1; omega
    exact (((ih1 r).pre 0 (Nat.zero_le _)).up a).bind fun d => (((ih2 r).pre 1 (Nat.zero_le _)).up b).bind fun e => Sh.fin _ _
  | lt x t u ih1 ih2 =>
    intro r
    have a : t.ht + 1 ≤ (T.lt x t u).ht := by show _ ≤ max t.ht u.ht + 1; omega
    have b : u.ht + 1 ≤ (T.lt x t u).ht := by show _ ≤ max t.ht u.ht + 1; omega
    exact (((ih1 r).pre 0 (Nat.zero_le _)).up a).bind fun d => ((ih2 _).pre 1 (Nat.zero_le _)).up b
  | ite c t u ih0 ih1 ih2 =>
    intro r
    have a : c.ht + 1 ≤ (T.ite c t u).ht := by show _ ≤ max c.ht (max t.ht u.ht) + 1; omega
    have b : t.ht + 1 ≤ (T.ite c t u).ht := by show _ ≤ max c.ht (max t.ht u.ht) + 1; omega
    have b2 : u.ht + 1 ≤ (T.ite c t u).ht := by show _ ≤ max c.ht (max t.ht u.ht) + 1; omega
    refine (((ih0 r).pre 0 (Nat.zero_le _)).up a).bind fun d => Sh.bind ?_ fun e => trivial
    cases (dB d) with
    | true => exact ((ih1 r).pre 1 (Nat.zero_le _)).up b
    | false => exact ((ih2 r).pre 2 (Nat.zero_le _)).up b2
  | each x t u ih1 ih2 =>
    intro r
    have a : t.ht + 1 ≤ (T.each x t u).ht := by show _ ≤ max t.ht u.ht + 1; omega
    have b : u.ht + 1 ≤ (T.each x t u).ht := by show _ ≤ max t.ht u.ht + 1; omega
    exact (((ih1 r).pre 0 (Nat.zero_le _)).up a).bind fun d => ((Sh.each (fun e => ih2 _) _ _).up b).bind fun m => trivial
  | times x n t u ih0 ih1 ih2 =>
    intro r
    have a : n.ht + 1 ≤ (T.times x n t u).ht := by show _ ≤ max n.ht (max t.ht u.ht) + 1; omega
    have b : t.ht + 1 ≤ (T.times x n t u).ht := by show _ ≤ max n.ht (max t.ht u.ht) + 1; omega
    have b2 : u.ht + 1 ≤ (T.times x n t u).ht := by show _ ≤ max n.ht (max t.ht u.ht) + 1; omega
    refine (((ih0 r).pre 0 (Nat.zero_le _)).up a).bind fun m => (((ih1 r).pre 1 (Nat.zero_le _)).up b).bind fun d => ?_
    split
    · exact ((Sh.times (fun e => ih2 _) _ _ _).up b2).bind fun e => trivial
    · exact ⟨Nat.zero_le _, Nat.zero_le _⟩
end Br
/-! The plain law: readings by the names in scope alone; worths alike. -/
namespace Br
open PySem L2
open PySem.Spec PyProof.Rows
/-- the names in scope stand for the same -/
def AgE (G : Ctx) (r r' : Env) : Prop := ∀ x k, G x = some k → r k x = r' k x
theorem AgE.put {G : Ctx} {r r' : Env} (h : AgE G r r') (x : Str) {a : Kd} (d : D a) : AgE (G.put x a) (r.put x d) (r'.put x d) := fun y k e => by
  unfold Ctx.put at e
  by_cases c : y = x
  · rw [if_pos c] at e
    cases e
    subst c
    rw [Env.put_same, Env.put_same]
  · rw [if_neg c] at e
    rw [Env.put_ne r d c, Env.put_ne r' d c]
    exact h y k e
theorem den_congr : ∀ {k : Kd} (t : Br.T k) {G : Ctx} {r r' : Env}, Sc G t → AgE G r r' → den t r = den t r' := by
  intro k t
  induction t with
  | num m => intro G r r' hs h; rfl
  | yes => intro G r r' hs h; rfl
  | no => intro G r r' hs h; rfl
  | name k x =>
    intro G r r' hs h
    show Res.ok 0 (r k x) = Res.ok 0 (r' k x)
    rw [h x k hs]
  | none a => intro G r r' hs h; rfl
  | op1 o t ih =>
    intro G r r' hs h
    show ((den t r).pre 0 []).bind (fun d => Res.fin (sem1 o d)) = ((den t r').pre 0 []).bind (fun d => Res.fin (sem1 o d))
    rw [ih (show Sc G t from hs) h]
  | op2 o t u ih1 ih2 =>
    intro G r r' hs h
    show ((den t r).pre 0 []).bind (fun d => ((den u r).pre 1 []).bind fun e => Res.fin (sem2 o d e)) = ((den t r').pre 0 []).bind (fun d => ((den u r').pre 1 []).bind fun e => Res.fin (sem2 o d e))
    rw [ih1 hs.1 h, ih2 hs.2 h]
  | lt x t u ih1 ih2 =>
    intro G r r' hs h
    show ((den t r).pre 0 []).bind (fun d => (den u (r.put x d)).pre 1 []) = ((den t r').pre 0 []).bind (fun d => (den u (r'.put x d)).pre 1 [])
    rw [ih1 hs.1 h]
    congr 1
    funext d
    rw [ih2 hs.2 (h.put x d)]
  | ite c t u ih0 ih1 ih2 =>
    intro G r r' hs h
    show ((den c r).pre 0 []).bind (fun b => (match (dB b) with
      | true => (den t r).pre 1 []
      | false => (den u r).pre 2 []).bind fun d => Res.ok 1 d) = ((den c r').pre 0 []).bind (fun b => (match (dB b) with
      | true => (den t r').pre 1 []
      | false => (den u r').pre 2 []).bind fun d => Res.ok 1 d)
    rw [ih0 hs.1 h, ih1 hs.2.1 h, ih2 hs.2.2 h]
  | each x t u ih1 ih2 =>
    intro G r r' hs h
    show ((den t r).pre 0 []).bind (fun l => (eachR (fun d => den u (r.put x d)) 0 (dL l)).bind fun m => Res.ok 1 m) = ((den t r').pre 0 []).bind (fun l => (eachR (fun d => den u (r'.put x d)) 0 (dL l)).bind fun m => Res.ok 1 m)
    rw [ih1 hs.1 h, show (fun d => den u (r.put x d)) = (fun d => den u (r'.put x d)) from funext fun d => ih2 hs.2 (h.put x d)]
  | times x n t u ih0 ih1 ih2 =>
    rename_i k
    intro G r r' hs h
    show ((den n r).pre 0 []).bind (fun m => ((den t r).pre 1 []).bind fun d => if 0 ≤ (dI m) ∧ (dI m) ≤ 60 then (timesR (fun d => den u (r.put x (a := k) d)) 0 (dI m).toNat d).bind fun e => Res.ok 1 e else Res.stop 0 .far [] []) =
      ((den n r').pre 0 []).bind (fun m => ((den t r').pre 1 []).bind fun d => if 0 ≤ (dI m) ∧ (dI m) ≤ 60 then (timesR (fun d => den u (r'.put x (a := k) d)) 0 (dI m).toNat d).bind fun e => Res.ok 1 e else Res.stop 0 .far [] [])
    rw [ih0 hs.1 h, ih1 hs.2.1 h, show (fun d => den u (r.put x (a := k) d)) = (fun d => den u (r'.put x (a := k) d)) from funext fun d => ih2 hs.2.2 (h.put x d)]
namespace Res
variable {α β : Type}
/-- what is told, without the count -/
def z : Res α → Res α
  | .ok _ a => .ok 0 a
  | .stop _ w p q => .stop 0 w p q
theorem z_plus (n : Nat) (r : Res α) : (r.plus n).z = r.z := by cases r <;> rfl
theorem z_one (r : Res α) : (r.bind fun d => Res.ok 1 d).z = r.z := by cases r <;> rfl
theorem cnt_one (r : Res α) : r.cnt ≤ (r.bind fun d => Res.ok 1 d).cnt := by
  cases r with
  | ok n a => show n ≤ n + 1; omega
  | stop n w p q => exact Nat.le_refl _
theorem z_pre (i : Int) (qs : List Int) (r : Res α) : (r.pre i qs).z = r.z.pre i qs := by cases r <;> rfl
end Res
theorem ToldAt.z {c : Addr → Prop} {H : Hp} {k : Kd} {v : V} {pl tu : List Int} {r r' : Res (D k)} (e : r.z = r'.z) (h : ToldAt c H v pl tu r) : ToldAt c H v pl tu r' := by
  cases r with
  | ok n d =>
    cases r' with
    | ok m d' => cases e; exact h
    | stop m w p q => cases e
  | stop n w p q =>
    cases r' with
    | ok m d' => cases e
    | stop m w p q => cases e; exact h
theorem Paired.both {α β γ : Type} {R : α → γ → Prop} {S : β → γ → Prop} {T' : α → β → Prop} : ∀ {xs : List α} {ys : List β} {l : List γ}, (∀ a b c, c ∈ l → R a c → S b c → T' a b) → Paired R xs l → Paired S ys l → Paired T' xs ys
  | _, _, _, _, .nil, .nil => .nil
  | _, _, _, h, .cons r p, .cons s q => .cons (h _ _ _ List.mem_cons_self r s) (Paired.both (fun a b c hc => h a b c (List.mem_cons_of_mem _ hc)) p q)
theorem RepW.alk {c c' : Addr → Prop} {H : Hp} : ∀ {k : Kd} {n : Nat} {v v' : V} {d : D k}, k.depth ≤ n → Fit k d → RepW c H k v d → RepW c' H k v' d → Alk H n v v' := by
  intro k
  induction k with
  | num =>
    intro n v v' d hn hf r r'
    obtain ⟨m, rfl⟩ : ∃ m, n = m + 1 := ⟨n - 1, by have : 1 ≤ n := hn; omega⟩
    exact .inl ⟨_, r, r'⟩
  | truth =>
    intro n v v' d hn hf r r'
    obtain ⟨m, rfl⟩ : ∃ m, n = m + 1 := ⟨n - 1, by have : 1 ≤ n := hn; omega⟩
    exact .inr (.inl ⟨_, r, r'⟩)
  | pair a b iha ihb =>
    intro n v v' d hn hf r r'
    have hn' : 1 + max a.depth b.depth ≤ n := hn
    obtain ⟨m, rfl⟩ : ∃ m, n = m + 1 := ⟨n - 1, by omega⟩
    obtain ⟨q, x, y, e, hq, _, r1, r2⟩ := r
    obtain ⟨q', x', y', e', hq', _, r1', r2'⟩ := r'
    exact .inr (.inr (.inr (.inl ⟨q, q', _, _, e, e', hq, hq', by show 2 ≤ 2000; decide, .cons (iha (by omega) hf.1 r1 r1') (.cons (ihb (by omega) hf.2 r2 r2') .nil)⟩)))
  | row a ih =>
    intro n v v' d hn hf r r'
    have hn' : 1 + a.depth ≤ n := hn
    obtain ⟨m, rfl⟩ : ∃ m, n = m + 1 := ⟨n - 1, by omega⟩
    obtain ⟨q, xs, e, hq, _, r1⟩ := r
    obtain ⟨q', xs', e', hq', _, r1'⟩ := r'
    refine .inr (.inr (.inr (.inr ⟨q, q', _, _, e, e', hq, hq', ?_, Paired.both (fun x y z hz s s' => ih (by omega) (hf.2 z hz) s s') r1 r1'⟩)))
    have l1 := Paired.len r1
    have l2 : (dL d).length ≤ 200 := hf.1
    omega
theorem Alk.str {H : Hp} {n : Nat} {s : Str} : Alk H (n + 1) (.str s) (.str s) := .inr (.inr (.inl ⟨s, rfl, rfl⟩))
theorem alk_ints {H : Hp} {n : Nat} : ∀ (l : List Int), Paired (Alk H (n + 1)) (l.map V.int) (l.map V.int)
  | [] => .nil
  | i :: l => .cons (.inl ⟨i, rfl, rfl⟩) (alk_ints l)
theorem IntsAt.alk {H : Hp} {n : Nat} {x y : V} {l : List Int} (hl : l.length ≤ 2000) (h : IntsAt H x l) (h' : IntsAt H y l) : Alk H (n + 2) x y := by
  obtain ⟨a, rfl, ha⟩ := h
  obtain ⟨b, rfl, hb⟩ := h'
  exact .inr (.inr (.inr (.inl ⟨a, b, _, _, rfl, rfl, ha, hb, by rw [List.length_map]; exact hl, alk_ints l⟩)))
theorem ToldAt.alk {c c' : Addr → Prop} {H : Hp} {k : Kd} {v v' : V} {r : Res (D k)} {n h : Nat} (hn : k.depth ≤ n) (h2 : 2 ≤ n) (hh : h ≤ 900) (hf : ∀ i d, r = .ok i d → Fit k d) (sh : Sh h r) (a : ToldAt c H v [] [] r) (b : ToldAt c' H v' [] [] r) : Alk H (n + 1) v v' := by
  obtain ⟨m, rfl⟩ : ∃ m, n = m + 2 := ⟨n - 2, by omega⟩
  cases r with
  | ok i d =>
    obtain ⟨p, x, rfl, hp, rx⟩ := a
    obtain ⟨p', x', rfl, hp', rx'⟩ := b
    exact .inr (.inr (.inr (.inl ⟨p, p', _, _, rfl, rfl, hp, hp', by show 2 ≤ 2000; decide, .cons Alk.str (.cons (rx.alk hn (hf i d rfl) rx') .nil)⟩)))
  | stop i w pp qq =>
    obtain ⟨p, x, y, rfl, hp, ix, iy⟩ := a
    obtain ⟨p', x', y', rfl, hp', ix', iy'⟩ := b
    obtain ⟨s1, s2⟩ := sh
    exact .inr (.inr (.inr (.inl ⟨p, p', _, _, rfl, rfl, hp, hp', by show 4 ≤ 2000; decide, .cons Alk.str (.cons Alk.str (.cons (ix.alk (by show pp.length ≤ 2000; omega) ix') (.cons (iy.alk (by show qq.length ≤ 2000; omega) iy') .nil)))⟩)))
theorem Sh.short {α : Type} {h : Nat} {r : Res α} (hh : h ≤ 900) (s : Sh h r) : Short r := by
  cases r with
  | ok n a => trivial
  | stop n w p q => exact ⟨by have := s.1; omega, by have := s.2; omega⟩
theorem Sh.z {α : Type} {h : Nat} {r r' : Res α} (e : r.z = r'.z) (s : Sh h r) : Sh h r' := by
  cases r with
  | ok n a =>
    cases r' with
    | ok m b => trivial
    | stop m w p q => cases e
  | stop n w p q =>
    cases r' with
    | ok m b => cases e
    | stop m w p q => cases e; exact s
/-- the tree by each of the numbers -/
def eachX {k : Kd} (t : Br.T k) (r : Env) (ns : List Int) : Res (List (D k)) := eachR (α := Int) (fun d => den t (r.put "x" (a := .num) d)) 0 ns
def timesX (t : Br.T .num) (r : Env) (m : Nat) (i : Int) : Res Int := timesR (α := Int) (fun d => den t (r.put "x" (a := .num) d)) 0 m i
/-- lists told behind one another -/
theorem cat_tup {K : PySem.W.Frag} {H : Hp} {a b : Addr} {xs ys : List V} {Q : VK} (ha : H a = some (.tup xs)) (hb : H b = some (.tup ys)) (hl : xs.length + ys.length ≤ 1000) (q : ∀ p H', Kp H H' → H' p = some (.tup (xs ++ ys)) → Q (.ref p) H') : rCatA K (.ref a) (.ref b) H Q := by
  refine ⟨a, b, _, _, rfl, rfl, SqT.of ha, SqT.of hb, line_le (by omega), fun e => ?_, fun _ e => ?_, fun _ _ p hp => ?_⟩
  · subst e
    exact q _ _ Kp.refl hb
  · subst e
    exact q _ _ Kp.refl (by rw [List.append_nil]; exact ha)
  · exact q _ _ (Kp.new hp) upd_same
/-- a program's heads and worths -/
structure PIn (c : Addr → Prop) (H : Hp) (hv wl : Addr) (hs ws : List V) (es : List HE) : Prop where
  hd : H hv = some (.tup hs)
  wl : H wl = some (.lst ws)
  ph : Paired (HeadAt H) hs es
  pw : Paired (fun v (e : HE) => RepW c H e.k v e.d) ws es
  ft : ∀ e ∈ es, e.k.depth ≤ 6 ∧ Fit e.k e.d
  ln : es.length ≤ 8
section
variable {c : Addr → Prop} {H H' : Hp} {hv wl hv' wl' g : Addr} {hs ws : List V} {es : List HE}
theorem PIn.kp (p : PIn c H hv wl hs ws es) (k : Kp H H') : PIn c H' hv wl hs ws es :=
  ⟨k _ _ p.hd, k _ _ p.wl, Paired.mapP p.ph fun _ _ ⟨a, z, e1, e2⟩ => ⟨a, z, e1, k _ _ e2⟩, Paired.mapP p.pw fun _ _ r => r.mono k.lk, p.ft, p.ln⟩
theorem PIn.more (p : PIn c H hv wl hs ws es) (hg : H g = none) : PIn (fun a => c a ∨ a = g) H hv wl hs ws es :=
  ⟨p.hd, p.wl, p.ph, Paired.mapP p.pw fun _ _ r => r.more hg, p.ft, p.ln⟩
/-- but one list that is avoided, all stands -/
theorem PIn.but {m : Addr} (p : PIn c H hv wl hs ws es) (b : But m H H') (cm : c m) (nw : wl ≠ m) : PIn c H' hv wl hs ws es :=
  ⟨b.tup _ _ p.hd, b.old _ _ nw p.wl, Paired.mapP p.ph fun _ _ ⟨a, z, e1, e2⟩ => ⟨a, z, e1, b.tup _ _ e2⟩, Paired.mapP p.pw fun _ _ r => r.mono (b.lk cm), p.ft, p.ln⟩
theorem PIn.snoc {x : Str} {k : Kd} {d : D k} {a : Addr} {z v : V} (p : PIn c H hv wl hs ws es) (kp : Kp H H') (h1 : H' hv' = some (.tup (hs ++ [.ref a]))) (h2 : H' a = some (.tup [.str x, z])) (h3 : H' wl' = some (.lst (ws ++ [v]))) (rv : RepW c H' k v d) (hk : k.depth ≤ 6) (hf : Fit k d) (hl : es.length ≤ 7) :
    PIn c H' hv' wl' (hs ++ [.ref a]) (ws ++ [v]) (es ++ [⟨x, k, d⟩]) := by
  have p' := p.kp kp
  refine ⟨h1, h3, Paired.app p'.ph (.cons ⟨a, z, rfl, h2⟩ .nil), Paired.app p'.pw (.cons rv .nil), fun e he => ?_, by rw [List.length_append]; show es.length + 1 ≤ 8; omega⟩
  rcases List.mem_append.mp he with he | he
  · exact p.ft e he
  · rw [List.mem_singleton.mp he]
    exact ⟨hk, hf⟩
end
end Br
/-! The law: each by each, times by times. -/
namespace Br
open PySem L2
open PySem.Spec PyProof.Rows
def spEach (n : Nat) : Sp := fun vs H Q _ => ∃ (c : Addr → Prop) (hv wl nl : Addr) (tv : V) (hs ws : List V) (es : List HE) (k : Kd) (t : Br.T k) (ns : List Int), vs = [.ref hv, tv, .ref wl, .ref nl] ∧ Av c H ∧ PIn c H hv wl hs ws es ∧ es.length ≤ 7 ∧ H nl = some (.lst (ns.map V.int)) ∧ ns.length ≤ 100 ∧ (∀ i ∈ ns, -bnd ≤ i ∧ i ≤ bnd) ∧
  TreeAt H tv t ∧ t.ht ≤ n ∧ t.size ≤ 1000 ∧ t.dep ≤ 6 ∧ Sc ((ctxF G0 es).put "x" .num) t ∧ (eachX t (envF r0 es) ns).cnt ≤ 16000000 ∧
  ∀ v H', Kp H H' → ToldAt c H' (k := .row k) v [] [] (eachX t (envF r0 es) ns) → Q v H'
def spTimes (n : Nat) : Sp := fun vs H Q _ => ∃ (c : Addr → Prop) (hv wl : Addr) (tv : V) (hs ws : List V) (es : List HE) (t : Br.T .num) (m : Nat) (i : Int), vs = [.ref hv, tv, .ref wl, .int i, .int (m : Int)] ∧ Av c H ∧ PIn c H hv wl hs ws es ∧ es.length ≤ 7 ∧ (-bnd ≤ i ∧ i ≤ bnd) ∧ m ≤ 60 ∧
  TreeAt H tv t ∧ t.ht ≤ n ∧ t.size ≤ 1000 ∧ t.dep ≤ 6 ∧ Sc ((ctxF G0 es).put "x" .num) t ∧ (timesX t (envF r0 es) m i).cnt ≤ 16000000 ∧
  ∀ v H', Kp H H' → ToldAt c H' (k := .num) v [] [] (timesX t (envF r0 es) m i) → Q v H'
section
variable {P : Program} {w : World} {K : PySem.W.Frag} {mg : Str → Option Value} {base : Heap} {aC aB f : Addr} {fd : FuncData}
set_option maxHeartbeats 2000000 in
theorem fn_law_each (T : Tp K mg aC aB) (F : At K mg "_law_each" s_law_each p_law_each f fd) {n k0 : Nat} (hk0 : 1 ≤ k0) (hn : n ≤ 900) (c_read : Fn P w K mg base k0 "read" (spRead n)) (c_law_moved : Fn P w K mg base 1 "_law_moved" spMoved) :
    Fn P w K mg base (k0 + 1) "_law_each" (spEach n) := by
  refine fn_by F sc_law_each ?_ (fun cdv A outer s0 H vs Q E hr h => ?_)
  · rintro vs H Q E ⟨c, hv, wl, nl, tv, hs, ws, es, k, t, ns, rfl, _⟩
    rfl
  obtain ⟨c, hv, wl, nl, tv, hs, ws, es, k, t, ns, rfl, av, pin, hes, hnl, lns, fns, tr, ht, sz, dp, sc, cn, q⟩ := h
  refine ⟨_, (pss_cons (ps_set (i := 4) sc_law_each.nd rfl (by first | exact Or.inl rfl | exact Or.inr rfl) (pe_lst pa_nil))
  (pss_cons (ps_for PassesOwn.never rfl (pi_range1 (by rfl) T.range (pa_cons (pe_callB (k_len K rfl) (by rfl) T.len (by decide +kernel) (pa_cons (pv 3) pa_nil)) pa_nil)) (pg_name (i := 5) sc_law_each.nd rfl (by first | exact Or.inl rfl | exact Or.inr rfl)) (pss_cons (ps_set (i := 6) sc_law_each.nd rfl (by first | exact Or.inl rfl | exact Or.inr rfl) (pe_fn c_read hr (by omega) (by rfl) (pa_cons (pe_tup (pa_cons (pe_op (k_cat K rfl) (pv 0) (pe_tup (pa_cons (pe_tup (pa_cons (pe_str) (pa_cons (pe_tup (pa_cons (pe_str) pa_nil)) pa_nil))) pa_nil))) (pa_cons (pv 1) pa_nil))) (pa_cons (pe_op op_cat (pv 2) (pe_lst (pa_cons (pe_ix (k_ixl K rfl) (pv 3) (pv 5) (fun _ _ => rfl)) pa_nil))) pa_nil))))
  (pss_cons (ps_if (pt_cmpR op_eq (pe_ix (k_ixt K rfl) (pv 6) (pe_int) (fun _ _ => rfl)) (pe_str) (nomark _)) (pss_one (ps_ret (pe_fn c_law_moved hr (by omega) (by rfl) (pa_cons (pv 6) (pa_cons (pe_int) (pa_cons (pe_tup (pa_cons (pv 5) pa_nil)) pa_nil)))))) pss_nil)
  (pss_one (ps_expr (k_bm K rfl PySem.F.plainAttrs_list PySem.F.slot_list_append PySem.F.type_list_append mt_append (pv 4) (pa_cons (pe_ix (k_ixt K rfl) (pv 6) (pe_int) (fun _ _ => rfl)) pa_nil)))))))
  (pss_one (ps_ret (pe_tup (pa_cons (pe_str) (pa_cons (pv 4) pa_nil))))))), ?_⟩
  refine ⟨ln0, fun g hg => ?_⟩
  have kg := Kp.new (o := .lst []) hg
  have ll : (ns.map V.int).length = ns.length := List.length_map _
  have lhs := Paired.len pin.ph
  have lws := Paired.len pin.pw
  refine ⟨_, rfl, nl, _, rfl, .inl (SqL.of (kg _ _ hnl)), (((ns.map V.int).length : Nat) : Int), rfl, by omega, by omega, for_range (lo := 0) (n := (ns.map V.int).length)
    (fun i σ H' => ∃ (v5 v6 : Option V) (acc : List V) (ms : List (D k)) (n' : Nat), σ = [some (.ref hv), some tv, some (.ref wl), some (.ref nl), some (.ref g), v5, v6] ∧ Kp H H' ∧ H' g = some (.lst acc) ∧ Paired (RepW (fun a => c a ∨ a = g) H' k) acc ms ∧
      EachAt (α := Int) (fun d => den t ((envF r0 es).put "x" (a := .num) d)) ns i ms n' ∧ acc.length = i)
    ⟨none, none, [], [], 0, rfl, kg, upd_same, .nil, EachAt.zero, rfl⟩ ?_ ?_⟩
  · rintro i σ H2 hi ⟨v5, v6, acc, ms, n', rfl, k2, hg2, pa, ea, la⟩
    obtain ⟨z, hz⟩ : ∃ z, ns[i]? = some z := ⟨ns[i]'(by omega), List.getElem?_eq_getElem (by omega)⟩
    have fz := fns z (List.mem_of_getElem? hz)
    have cnz := ea.cnt hz
    have cn' : (eachR (α := Int) (fun d => den t ((envF r0 es).put "x" (a := .num) d)) 0 ns).cnt ≤ 16000000 := cn
    refine ⟨_, rfl, ln1, fun a1 h1 => ⟨ln2, fun a2 h2 => ⟨ln1, fun a3 h3 => ?_⟩⟩⟩
    have k3 := ((Kp.new (o := .tup [.str "num"]) h1).trans (Kp.new (o := .tup [.str "x", .ref a1]) h2)).trans (Kp.new (o := .tup [.ref a2]) h3)
    have e2 := Kp.new (o := .tup [.ref a2]) h3 a2 _ upd_same
    refine cat_tup (k3 _ _ (k2 _ _ pin.hd)) upd_same (by show hs.length + 1 ≤ 1000; omega) fun hv' H4 k4 hh4 => ?_
    refine ⟨_, rfl, ln2, fun p hp => ?_⟩
    have k5 := Kp.new (o := .tup [.ref hv', tv]) hp
    have k25 := (k3.trans k4).trans k5
    refine ⟨_, rfl, _, rfl, _, rfl, _, _, _, V.int z, rfl, rfl, SqL.of (k25 _ _ (k2 _ _ hnl)), by rw [Int.zero_add]; exact atI_nat (by rw [List.getElem?_map, hz]; rfl), ln1, fun b hb => ?_⟩
    have k6 := Kp.new (o := .lst [.int z]) hb
    refine ⟨wl, b, ws, [.int z], rfl, rfl, (k25.trans k6) _ _ (k2 _ _ pin.wl), upd_same, line_le (by show ws.length + 1 ≤ _; omega), fun qq hq => ?_⟩
    have k7 := Kp.new (o := .lst (ws ++ [.int z])) hq
    have k27 := (k25.trans k6).trans k7
    have pin7 := ((pin.more hg).kp k2).snoc (x := "x") (k := .num) (d := z) (hv' := hv') (wl' := qq) (a := a2) (z := .ref a1) (v := .int z) k27 ((k5.trans (k6.trans k7)) _ _ hh4) ((k4.trans (k5.trans (k6.trans k7))) _ _ e2) upd_same rfl (by decide) fz hes
    have av7 : Av (fun a => c a ∨ a = g) _ := (av.kp (k2.trans k27)).more (NoT.of (k27 _ _ hg2) (fun _ z => nomatch z))
    refine ⟨_, p, qq, hv', tv, _, _, _, k, t, rfl, av7, (k6.trans k7) _ _ upd_same, pin7.hd, pin7.wl, pin7.ph, pin7.pw, pin7.ft, Nat.le_trans pin7.ln (by decide), tr.mono (k2.trans k27).tk, ht, sz, dp, ?_, ?_, fun v H8 k8 tl => ?_⟩
    · rw [ctxF_app]
      exact sc
    · rw [envF_app]
      show (den t ((envF r0 es).put "x" (a := .num) z)).cnt ≤ _
      omega
    have tl' : ToldAt (fun a => c a ∨ a = g) H8 v [] [] (den t ((envF r0 es).put "x" (a := .num) z)) := by
      rw [envF_app] at tl
      exact tl
    have k28 := k27.trans k8
    cases hd : den t ((envF r0 es).put "x" (a := .num) z) with
    | ok i1 d =>
      rw [hd] at tl'
      obtain ⟨pp, x, rfl, hpp, rx⟩ := tl'
      have hg8 := k28 _ _ hg2
      refine ⟨_, rfl, _, _, _, _, rfl, rfl, SqT.of hpp, atI_zero, rfl, _, rfl, itF (by decide +kernel) ?_⟩
      refine ⟨_, rfl, .inl ⟨rfl, _, SqL.of hg8⟩, _, rfl, _, _, _, _, rfl, rfl, SqT.of hpp, atI_one, g, acc, x, rfl, rfl, hg8, line_lt (by omega), ?_⟩
      have lk : Lk (fun a => c a ∨ a = g) H8 (upd H8 g (.lst (acc ++ [x]))) := Lk.at (.inr rfl) (NoT.of hg8 (fun _ z => nomatch z))
      exact ⟨_, _, acc ++ [x], ms ++ [d], n' + i1, rfl, (k2.trans k28).put hg, upd_same, Paired.app (Paired.mapP pa fun _ _ r => (r.mono k28.lk).mono lk) (.cons (rx.mono lk) .nil), ea.ok hz hd, by rw [List.length_append, la]; rfl⟩
    | stop i1 wd p1 q1 =>
      rw [hd] at tl'
      obtain ⟨pp, x, y, rfl, hpp, ix, iy⟩ := id tl'
      have shd := den_sh t ((envF r0 es).put "x" (a := .num) z)
      rw [hd] at shd
      refine ⟨_, rfl, _, _, _, _, rfl, rfl, SqT.of hpp, atI_zero, rfl, _, rfl, itT (by decide +kernel) ?_⟩
      refine ⟨_, rfl, _, rfl, ln1, fun a4 h4 => ⟨(fun a => c a ∨ a = g), k, .stop i1 wd p1 q1, 1, [0 + (i : Int)], _, _, rfl, tl'.mono (Kp.new h4).lk, ⟨a4, rfl, upd_same⟩, by show 1 ≤ 10; decide, (shd.up ht).short hn, fun v9 H9 k9 t9 => q v9 H9 (((k2.trans k28).trans (Kp.new h4)).trans k9) ?_⟩⟩
      rw [show eachX t (envF r0 es) ns = _ from ea.stop hz hd]
      rw [Int.zero_add] at t9
      exact t9
  · rintro σ H2 ⟨v5, v6, acc, ms, n', rfl, k2, hg2, pa, ea, la⟩
    rw [ll] at ea
    refine ⟨_, rfl, ln2, fun pz hpz => q _ _ (k2.trans (Kp.new hpz)) ?_⟩
    rw [show eachX t (envF r0 es) ns = _ from ea.fin]
    exact ⟨pz, .ref g, rfl, upd_same, g, acc, rfl, Kp.new hpz _ _ hg2, av.new hg, Paired.mapP pa fun _ _ r => (r.mono (Kp.new hpz).lk).less⟩
set_option maxHeartbeats 2000000 in
theorem fn_law_times (T : Tp K mg aC aB) (F : At K mg "_law_times" s_law_times p_law_times f fd) {n k0 : Nat} (hk0 : 1 ≤ k0) (hn : n ≤ 900) (c_read : Fn P w K mg base k0 "read" (spRead n)) (c_law_moved : Fn P w K mg base 1 "_law_moved" spMoved) :
    Fn P w K mg base (k0 + 1) "_law_times" (spTimes n) := by
  refine fn_by F sc_law_times ?_ (fun cdv A outer s0 H vs Q E hr h => ?_)
  · rintro vs H Q E ⟨c, hv, wl, tv, hs, ws, es, t, m, i, rfl, _⟩
    rfl
  obtain ⟨c, hv, wl, tv, hs, ws, es, t, m, i0, rfl, av, pin, hes, fi, hm, tr, ht, sz, dp, sc, cn, q⟩ := h
  refine ⟨_, (pss_cons (ps_set (i := 5) sc_law_times.nd rfl (by first | exact Or.inl rfl | exact Or.inr rfl) (pv 3))
  (pss_cons (ps_for PassesOwn.never rfl (pi_range1 (by rfl) T.range (pa_cons (pv 4) pa_nil)) (pg_name (i := 6) sc_law_times.nd rfl (by first | exact Or.inl rfl | exact Or.inr rfl)) (pss_cons (ps_set (i := 7) sc_law_times.nd rfl (by first | exact Or.inl rfl | exact Or.inr rfl) (pe_fn c_read hr (by omega) (by rfl) (pa_cons (pe_tup (pa_cons (pe_op (k_cat K rfl) (pv 0) (pe_tup (pa_cons (pe_tup (pa_cons (pe_str) (pa_cons (pe_tup (pa_cons (pe_str) pa_nil)) pa_nil))) pa_nil))) (pa_cons (pv 1) pa_nil))) (pa_cons (pe_op op_cat (pv 2) (pe_lst (pa_cons (pv 5) pa_nil))) pa_nil))))
  (pss_cons (ps_if (pt_cmpR op_eq (pe_ix (k_ixt K rfl) (pv 7) (pe_int) (fun _ _ => rfl)) (pe_str) (nomark _)) (pss_one (ps_ret (pe_fn c_law_moved hr (by omega) (by rfl) (pa_cons (pv 7) (pa_cons (pe_int) (pa_cons (pe_tup (pa_cons (pv 6) pa_nil)) pa_nil)))))) pss_nil)
  (pss_one (ps_set (i := 5) sc_law_times.nd rfl (by first | exact Or.inl rfl | exact Or.inr rfl) (pe_ix (k_ixt K rfl) (pv 7) (pe_int) (fun _ _ => rfl)))))))
  (pss_one (ps_ret (pe_tup (pa_cons (pe_str) (pa_cons (pv 5) pa_nil))))))), ?_⟩
  have lhs := Paired.len pin.ph
  have lws := Paired.len pin.pw
  have fe : FitE (ctxF G0 es) (envF r0 es) := FitE.fold FitE.nil fun e he => (pin.ft e he).2
  refine ⟨_, rfl, _, rfl, (m : Int), rfl, by omega, by omega, for_range (lo := 0) (n := m)
    (fun i σ H' => ∃ (v6 v7 : Option V) (d : Int) (n' : Nat), σ = [some (.ref hv), some tv, some (.ref wl), some (.int i0), some (.int (m : Int)), some (.int d), v6, v7] ∧ Kp H H' ∧ (-bnd ≤ d ∧ d ≤ bnd) ∧
      TimesAt (α := Int) (fun d => den t ((envF r0 es).put "x" (a := .num) d)) m i0 i d n')
    ⟨none, none, i0, 0, rfl, Kp.refl, fi, TimesAt.zero⟩ ?_ ?_⟩
  · rintro i σ H2 hi ⟨v6, v7, z, n', rfl, k2, fz, ea⟩
    have cnz : n' + (den t ((envF r0 es).put "x" (a := .num) z)).cnt ≤ (timesR (α := Int) (fun d => den t ((envF r0 es).put "x" (a := .num) d)) 0 m i0).cnt := ea.cnt hi
    have cn' : (timesR (α := Int) (fun d => den t ((envF r0 es).put "x" (a := .num) d)) 0 m i0).cnt ≤ 16000000 := cn
    refine ⟨_, rfl, ln1, fun a1 h1 => ⟨ln2, fun a2 h2 => ⟨ln1, fun a3 h3 => ?_⟩⟩⟩
    have k3 := ((Kp.new (o := .tup [.str "num"]) h1).trans (Kp.new (o := .tup [.str "x", .ref a1]) h2)).trans (Kp.new (o := .tup [.ref a2]) h3)
    have e2 := Kp.new (o := .tup [.ref a2]) h3 a2 _ upd_same
    refine cat_tup (k3 _ _ (k2 _ _ pin.hd)) upd_same (by show hs.length + 1 ≤ 1000; omega) fun hv' H4 k4 hh4 => ?_
    refine ⟨_, rfl, ln2, fun p hp => ?_⟩
    have k5 := Kp.new (o := .tup [.ref hv', tv]) hp
    have k25 := (k3.trans k4).trans k5
    refine ⟨_, rfl, _, rfl, ln1, fun b hb => ?_⟩
    have k6 := Kp.new (o := .lst [.int z]) hb
    refine ⟨wl, b, ws, [.int z], rfl, rfl, (k25.trans k6) _ _ (k2 _ _ pin.wl), upd_same, line_le (by show ws.length + 1 ≤ _; omega), fun qq hq => ?_⟩
    have k7 := Kp.new (o := .lst (ws ++ [.int z])) hq
    have k27 := (k25.trans k6).trans k7
    have pin7 := (pin.kp k2).snoc (x := "x") (k := .num) (d := z) (hv' := hv') (wl' := qq) (a := a2) (z := .ref a1) (v := .int z) k27 ((k5.trans (k6.trans k7)) _ _ hh4) ((k4.trans (k5.trans (k6.trans k7))) _ _ e2) upd_same rfl (by decide) fz hes
    have av7 := av.kp (k2.trans k27)
    refine ⟨_, p, qq, hv', tv, _, _, _, .num, t, rfl, av7, (k6.trans k7) _ _ upd_same, pin7.hd, pin7.wl, pin7.ph, pin7.pw, pin7.ft, Nat.le_trans pin7.ln (by decide), tr.mono (k2.trans k27).tk, ht, sz, dp, ?_, ?_, fun v H8 k8 tl => ?_⟩
    · rw [ctxF_app]
      exact sc
    · rw [envF_app]
      show (den t ((envF r0 es).put "x" (a := .num) z)).cnt ≤ _
      omega
    have tl' : ToldAt c H8 v [] [] (den t ((envF r0 es).put "x" (a := .num) z)) := by
      rw [envF_app] at tl
      exact tl
    have k28 := k27.trans k8
    cases hd : den t ((envF r0 es).put "x" (a := .num) z) with
    | ok i1 d =>
      rw [hd] at tl'
      obtain ⟨pp, x, rfl, hpp, rx⟩ := tl'
      have ex : x = .int (dI d) := rx
      subst ex
      refine ⟨_, rfl, _, _, _, _, rfl, rfl, SqT.of hpp, atI_zero, rfl, _, rfl, itF (by decide +kernel) ?_⟩
      refine ⟨_, rfl, _, _, _, _, rfl, rfl, SqT.of hpp, atI_one, ?_⟩
      exact ⟨_, _, d, n' + i1, rfl, k2.trans k28, den_fit t sc (fe.put "x" (a := .num) fz) hd, ea.ok hi hd⟩
    | stop i1 wd p1 q1 =>
      rw [hd] at tl'
      obtain ⟨pp, x, y, rfl, hpp, ix, iy⟩ := id tl'
      have shd := den_sh t ((envF r0 es).put "x" (a := .num) z)
      rw [hd] at shd
      refine ⟨_, rfl, _, _, _, _, rfl, rfl, SqT.of hpp, atI_zero, rfl, _, rfl, itT (by decide +kernel) ?_⟩
      refine ⟨_, rfl, _, rfl, ln1, fun a4 h4 => ⟨c, .num, .stop i1 wd p1 q1, 2, [0 + (i : Int)], _, _, rfl, tl'.mono (Kp.new h4).lk, ⟨a4, rfl, upd_same⟩, by show 1 ≤ 10; decide, (shd.up ht).short hn, fun v9 H9 k9 t9 => q v9 H9 (((k2.trans k28).trans (Kp.new h4)).trans k9) ?_⟩⟩
      rw [show timesX t (envF r0 es) m i0 = _ from ea.stop hi hd]
      rw [Int.zero_add] at t9
      exact t9
  · rintro σ H2 ⟨v6, v7, z, n', rfl, k2, fz, ea⟩
    refine ⟨_, rfl, ln2, fun pz hpz => q _ _ (k2.trans (Kp.new hpz)) ?_⟩
    rw [show timesX t (envF r0 es) m i0 = _ from ea.fin]
    exact ⟨pz, _, rfl, upd_same, rfl⟩
end
end Br
/-! The plain law: what the shots come to; the drawn program. -/
namespace Br
open PySem L2
open PySem.Spec PyProof.Rows
theorem ctxL_from : ∀ (es : List HE) (G : Ctx), (es.map heK).foldl (fun G e => G.put e.1 e.2) G = ctxF G es
  | [], _ => rfl
  | e :: l, G => ctxL_from l (G.put e.x e.k)
theorem ctxL_ctxF (es : List HE) : ctxL (es.map heK) = ctxF G0 es := ctxL_from es G0
theorem ctxF_none {y : Str} : ∀ (es : List HE) (G : Ctx), G y = none → (∀ e ∈ es, e.x ≠ y) → ctxF G es y = none
  | [], _, h, _ => h
  | e :: l, G, h, n => ctxF_none l (G.put e.x e.k) (by
    unfold Ctx.put
    rw [if_neg (fun z => n e List.mem_cons_self z.symm)]
    exact h) fun a ha => n a (List.mem_cons_of_mem _ ha)
theorem le_w {G : Ctx} {j : Kd} (hw : G "w" = none) : G.le (G.put "w" j) := fun y k e => by
  unfold Ctx.put
  by_cases c : y = "w"
  · rw [c, hw] at e
    cases e
  · rw [if_neg c]
    exact e
theorem scope_w {G : Ctx} {j k : Kd} {t : Br.T k} (hw : G "w" = none) (sc : Sc (G.put "x" .num) t) : Sc ((G.put "w" j).put "x" .num) t := sc.mono ((le_w hw).put "x" .num)
theorem age_w {G : Ctx} {r : Env} (hw : G "w" = none) (ns : List Int) : AgE G (r.put "w" (a := .row .num) ns) r := fun y k e => by
  refine Env.put_ne r _ fun c => ?_
  rw [c, hw] at e
  cases e
theorem eachX_w {G : Ctx} {r : Env} {k : Kd} {t : Br.T k} (hw : G "w" = none) (sc : Sc (G.put "x" .num) t) (ns ms : List Int) : eachX t (r.put "w" (a := .row .num) ns) ms = eachX t r ms := by
  unfold eachX
  rw [show (fun d : Int => den t ((r.put "w" (a := .row .num) ns).put "x" (a := .num) d)) = (fun d : Int => den t (r.put "x" (a := .num) d)) from funext fun d => den_congr t sc ((age_w hw ns).put "x" (a := .num) d)]
abbrev eachT {k : Kd} (t : Br.T k) : Br.T (.row k) := .each (a := .num) "x" (.name (.row .num) "w") t
abbrev letT {k : Kd} (b : Int) (t : Br.T k) : Br.T k := .lt (a := .num) "x" (.num b) t
abbrev timesT (m b : Int) (t : Br.T .num) : Br.T .num := .times "x" (.num m) (.num b) t
theorem Res.z_of {α : Type} {d r : Res α} {n : Nat} (h : d = (r.bind fun m => .ok 1 m).plus n) : d.z = r.z := by
  rw [h, Res.z_plus]
  exact Res.z_one _
theorem Res.cnt_of {α : Type} {d r : Res α} {n : Nat} (h : d = (r.bind fun m => .ok 1 m).plus n) : r.cnt ≤ d.cnt := by
  rw [h, Res.cnt_plus]
  have := Res.cnt_one r
  omega
theorem den_eachT {k : Kd} (t : Br.T k) (r : Env) (ns : List Int) : den (eachT t) (r.put "w" (a := .row .num) ns) = ((eachX t (r.put "w" (a := .row .num) ns) ns).bind fun m => .ok 1 m).plus 0 := by
  show ((Res.ok 0 ((r.put "w" (a := .row .num) ns) (.row .num) "w")).bind fun l => (eachR (fun d => den t ((r.put "w" (a := .row .num) ns).put "x" d)) 0 (dL l)).bind fun m => Res.ok 1 m) = _
  exact congrArg (fun l : D (.row .num) => ((Res.ok 0 l).bind fun l => (eachR (fun d => den t ((r.put "w" (a := .row .num) ns).put "x" d)) 0 (dL l)).bind fun m => Res.ok 1 m)) (Env.put_same r "w" (a := .row .num) ns)
theorem each_z {G : Ctx} {r : Env} {k : Kd} {t : Br.T k} (hw : G "w" = none) (sc : Sc (G.put "x" .num) t) (ns : List Int) : (den (eachT t) (r.put "w" (a := .row .num) ns)).z = (eachX t r ns).z :=
  (Res.z_of (α := List (D k)) (den_eachT t r ns)).trans (congrArg Res.z (eachX_w hw sc ns ns))
theorem each_cnt {G : Ctx} {r : Env} {k : Kd} {t : Br.T k} (hw : G "w" = none) (sc : Sc (G.put "x" .num) t) (ns : List Int) : (eachX t r ns).cnt ≤ (den (eachT t) (r.put "w" (a := .row .num) ns)).cnt :=
  Nat.le_trans (Nat.le_of_eq (congrArg Res.cnt (eachX_w hw sc ns ns).symm)) (Res.cnt_of (α := List (D k)) (den_eachT t r ns))
theorem den_letT {k : Kd} (t : Br.T k) (r : Env) (b : Int) : den (letT b t) r = ((den t (r.put "x" (a := .num) b)).pre 1 []).plus 1 := rfl
theorem den_timesT (t : Br.T .num) (r : Env) {m : Int} (b : Int) (h : 0 ≤ m ∧ m ≤ 60) : den (timesT m b t) r = (((timesX t r m.toNat b).bind fun e => .ok 1 e).plus 1).plus 1 := by
  have e : den (timesT m b t) r = ((if 0 ≤ m ∧ m ≤ 60 then (timesX t r m.toNat b).bind fun e => .ok 1 e else .stop 0 .far [] []).plus 1).plus 1 := rfl
  rw [e, if_pos h]
theorem Res.z_of2 {α : Type} {d r : Res α} {n n' : Nat} (h : d = ((r.bind fun m => .ok 1 m).plus n).plus n') : d.z = r.z := by
  rw [h, Res.z_plus, Res.z_plus]
  exact Res.z_one _
theorem Res.cnt_of2 {α : Type} {d r : Res α} {n n' : Nat} (h : d = ((r.bind fun m => .ok 1 m).plus n).plus n') : r.cnt ≤ d.cnt := by
  rw [h, Res.cnt_plus, Res.cnt_plus]
  have := Res.cnt_one r
  omega
theorem times_z (t : Br.T .num) (r : Env) {m : Int} (b : Int) (h : 0 ≤ m ∧ m ≤ 60) : (den (timesT m b t) r).z = (timesX t r m.toNat b).z := Res.z_of2 (α := Int) (den_timesT t r b h)
theorem times_cnt (t : Br.T .num) (r : Env) {m : Int} (b : Int) (h : 0 ≤ m ∧ m ≤ 60) : (timesX t r m.toNat b).cnt ≤ (den (timesT m b t) r).cnt := Res.cnt_of2 (α := Int) (den_timesT t r b h)
abbrev testT (b : Int) : Br.T .truth := .op2 .less (.num b) (.num 2)
abbrev eitherT (b : Int) (t : Br.T (.row .num)) : Br.T (.row .num) := .ite (testT b) (letT b t) (.none .num)
theorem den_either (b : Int) (t : Br.T (.row .num)) (r : Env) : den (eitherT b t) r = (((match decide (b < 2) with
    | true => (den (letT b t) r).pre 1 []
    | false => (Res.ok (α := D (.row .num)) 1 ([] : List Int)).pre 2 []).bind fun d => .ok 1 d).plus ((1 + 1) + 1)) := by
  have e : den (eitherT b t) r = ((((Res.ok 1 (b : Int)).pre 0 []).bind fun d => ((Res.ok 1 (2 : Int)).pre 1 []).bind fun e => Res.fin (.ok (decide (d < e)))).pre 0 []).bind fun c => (match c with
    | true => (den (letT b t) r).pre 1 []
    | false => (Res.ok (α := D (.row .num)) 1 ([] : List Int)).pre 2 []).bind fun d => .ok 1 d := rfl
  rw [e]
  rfl
theorem either_yes {b : Int} (h : b < 2) (t : Br.T (.row .num)) (r : Env) : (den (eitherT b t) r).z = (((den t (r.put "x" (a := .num) b)).pre 1 []).pre 1 []).z := by
  rw [den_either, Res.z_plus, decide_eq_true h]
  show (((den (letT b t) r).pre 1 []).bind fun d => Res.ok 1 d).z = _
  rw [Res.z_one, Res.z_pre, den_letT, Res.z_plus, ← Res.z_pre]
theorem either_no {b : Int} (h : ¬ b < 2) (t : Br.T (.row .num)) (r : Env) : (den (eitherT b t) r).z = .ok 0 ([] : List Int) := by
  rw [den_either, Res.z_plus, decide_eq_false h]
  rfl
theorem either_cnt (b : Int) (t : Br.T (.row .num)) (r : Env) : (den (eitherT b t) r).cnt ≤ (den (letT b t) r).cnt + 5 := by
  rw [den_either, Res.cnt_plus]
  cases decide (b < 2) with
  | true =>
    show (1 + 1) + 1 + (((den (letT b t) r).pre 1 []).bind fun d => Res.ok 1 d).cnt ≤ _
    cases den (letT b t) r with
    | ok n d => show (1 + 1) + 1 + (n + 1) ≤ n + 5; omega
    | stop n w p q => show (1 + 1) + 1 + n ≤ n + 5; omega
  | false => show (1 + 1) + 1 + (1 + 1) ≤ _; omega
/-- the shots: each, let, and the times of a tree of numbers -/
def turnT : (k : Kd) → Br.T k → Int → Int → List TT2
  | .num, t, m, b => [⟨.num, timesT m b t⟩]
  | _, _, _, _ => []
def shotsT (k : Kd) (t : Br.T k) (m b : Int) : List TT2 := ⟨.row k, eachT t⟩ :: ⟨k, letT b t⟩ :: turnT k t m b
theorem sc_eachT {G : Ctx} {k : Kd} {t : Br.T k} (hw : G "w" = none) (sc : Sc (G.put "x" .num) t) : Sc (G.put "w" (.row .num)) (eachT t) := by
  refine ⟨?_, scope_w hw sc⟩
  show (G.put "w" (.row .num)) "w" = some (.row .num)
  unfold Ctx.put
  rw [if_pos rfl]
theorem sc_letT {G : Ctx} {k : Kd} {t : Br.T k} {b : Int} (hb : 0 ≤ b ∧ b ≤ 100000) (sc : Sc (G.put "x" .num) t) : Sc G (letT b t) := ⟨sc_num hb.1 hb.2, sc⟩
theorem sc_timesT {G : Ctx} {t : Br.T .num} {m b : Int} (hm : 0 ≤ m ∧ m ≤ 100000) (hb : 0 ≤ b ∧ b ≤ 100000) (sc : Sc (G.put "x" .num) t) : Sc G (timesT m b t) := ⟨sc_num hm.1 hm.2, sc_num hb.1 hb.2, sc⟩
theorem sc_eitherT {G : Ctx} {t : Br.T (.row .num)} {b : Int} (hb : 0 ≤ b ∧ b ≤ 100000) (sc : Sc (G.put "x" .num) t) : Sc G (eitherT b t) := ⟨⟨sc_num hb.1 hb.2, sc_num (by decide) (by decide)⟩, sc_letT hb sc, trivial⟩
theorem Paired.unmap {α β γ : Type} {R : α → γ → Prop} {f : β → γ} : ∀ {xs : List α} {l : List β}, Paired R xs (l.map f) → Paired (fun x e => R x (f e)) xs l
  | [], [], _ => .nil
  | [], _ :: _, h => nomatch h
  | _ :: _, [], h => nomatch h
  | _ :: _, _ :: _, .cons r p => .cons r (Paired.unmap p)
theorem EnvK.merge {c : Addr → Prop} {H : Hp} : ∀ {es : List HE} {ys : List V} {kvs : List (Key × V)} {G : Ctx} {r : Env} {n : Nat}, EnvK c H kvs G r n → Paired (fun v (e : HE) => RepW c H e.k v e.d) ys es → (∀ e ∈ es, e.k.depth ≤ 6 ∧ Fit e.k e.d) →
    EnvK c H (mergeK kvs ((es.map fun e => e.x).zipWith (fun k y => ((Sum.inr k : Key), y)) ys)) (ctxF G es) (envF r es) (n + es.length)
  | [], _, _, _, _, _, ek, .nil, _ => ek
  | e :: es, y :: ys, kvs, G, r, n, ek, .cons ry p, ft => by
    have h := EnvK.merge (es := es) (ek.put e.x ry (ft e List.mem_cons_self).1 (ft e List.mem_cons_self).2) p fun a ha => ft a (List.mem_cons_of_mem _ ha)
    rw [show n + (e :: es).length = n + 1 + es.length by rw [List.length_cons]; omega]
    exact h
/-- but one dict, all stands -/
theorem But.lkD {c : Addr → Prop} {s : Addr} {H H' : Hp} {kvs : List (Key × V)} (b : But s H H') (e : H s = some (.dK kvs)) : Lk c H H' := ⟨fun a xs _ h => b.old a _ (fun z => by rw [z, e] at h; cases h) h, b.tup⟩
theorem PIn.butD {c : Addr → Prop} {s : Addr} {H H' : Hp} {kvs : List (Key × V)} {hv wl : Addr} {hs ws : List V} {es : List HE} (p : PIn c H hv wl hs ws es) (b : But s H H') (e : H s = some (.dK kvs)) : PIn c H' hv wl hs ws es :=
  ⟨b.tup _ _ p.hd, (b.lkD (c := fun _ => False) e).lst _ _ (fun z => z) p.wl, Paired.mapP p.ph fun _ _ ⟨a, z, e1, e2⟩ => ⟨a, z, e1, b.tup _ _ e2⟩, Paired.mapP p.pw fun _ _ r => r.mono (b.lkD e), p.ft, p.ln⟩
theorem StAt.dict {K : PySem.W.Frag} {sc : Addr} {H : Hp} {s : Addr} {n m : Nat} (h : StAt K sc H s n m) : ∃ kvs, H s = some (.dK kvs) := by
  obtain ⟨kvs, cells, h1, _⟩ := h
  exact ⟨kvs, h1⟩
abbrev noA : Addr → Prop := fun _ => False
theorem av_no {H : Hp} : Av noA H := fun a h => h.elim
/-- what was drawn -/
structure Drawn (H : Hp) (hv wl : Addr) (hs ws : List V) (es : List HE) (k : Kd) (kv tv : V) (t : Br.T k) : Prop where
  pin : PIn noA H hv wl hs ws es
  les : es.length ≤ 3
  nx : ∀ e ∈ es, e.x ≠ "x" ∧ e.x ≠ "w"
  kd : KindAt H kv k
  dk : k.depth ≤ 4
  tr : TreeAt H tv t
  ht : t.ht ≤ 11
  dp : t.dep ≤ 5
  sz : t.size ≤ 180
  sc : Sc ((ctxF G0 es).put "x" .num) t
theorem Drawn.kp {H H' : Hp} {hv wl : Addr} {hs ws : List V} {es : List HE} {k : Kd} {kv tv : V} {t : Br.T k} (d : Drawn H hv wl hs ws es k kv tv t) (h : Kp H H') : Drawn H' hv wl hs ws es k kv tv t :=
  ⟨d.pin.kp h, d.les, d.nx, d.kd.mono h.tk, d.dk, d.tr.mono h.tk, d.ht, d.dp, d.sz, d.sc⟩
theorem Drawn.now {H : Hp} {hv wl : Addr} {hs ws : List V} {es : List HE} {k : Kd} {kv tv : V} {t : Br.T k} (d : Drawn H hv wl hs ws es k kv tv t) : ctxF G0 es "w" = none := ctxF_none es G0 rfl fun e he => (d.nx e he).2
theorem nm_ne {y : Str} {m : Nat} (h : y ∈ plainN ∨ ∃ j, j < m ∧ IsSfx y j) : y ≠ "x" ∧ y ≠ "w" := by
  rcases h with h | ⟨j, _, h⟩
  · exact ⟨fun z => absurd (show ("x" : Str) ∈ plainN by rw [← z]; exact h) (by decide +kernel), fun z => absurd (show ("w" : Str) ∈ plainN by rw [← z]; exact h) (by decide +kernel)⟩
  · exact (sfx_not h).2
end Br
/-! The law. -/
namespace Br
open PySem L2
open PySem.Spec PyProof.Rows
theorem ln4 : 4 ≤ sizeLine := by decide
theorem ln5 : 5 ≤ sizeLine := by decide
theorem kind_ne {K : PySem.W.Frag} {H : Hp} {x y : V} {a b : Kd} {Q : VK} (h1 : KindAt H x a) (h2 : KindAt H y b) (l1 : a.depth ≤ 60) (l2 : b.depth ≤ 60) (q : Q (.bl (!decide (a = b))) H) : rNeD K x y H Q :=
  ⟨kdat a, kdat b, h1.dp, h2.dp, kdat_shaped l1, kdat_shaped l2, by rw [kdat_eqv]; exact q⟩
theorem spRead.of {n : Nat} {c : Addr → Prop} {H : Hp} {p wl hv : Addr} {tv : V} {hs ws : List V} {es : List HE} {k : Kd} {t : Br.T k} {Q : VK} {E : XK} (pin : PIn c H hv wl hs ws es) (av : Av c H) (hp : H p = some (.tup [.ref hv, tv])) (tr : TreeAt H tv t) (ht : t.ht ≤ n) (sz : t.size ≤ 1000) (dp : t.dep ≤ 6)
    (sc : Sc (ctxF G0 es) t) (cn : (den t (envF r0 es)).cnt ≤ 16000000) (q : ∀ v H', Kp H H' → ToldAt c H' v [] [] (den t (envF r0 es)) → Q v H') : spRead n [.ref p, .ref wl] H Q E :=
  ⟨c, p, wl, hv, tv, hs, ws, es, k, t, rfl, av, hp, pin.hd, pin.wl, pin.ph, pin.pw, pin.ft, Nat.le_trans pin.ln (by decide), tr, ht, sz, dp, sc, cn, q⟩
abbrev kS : Key := Sum.inr "script"
abbrev kA : Key := Sum.inr "at"
abbrev kN : Key := Sum.inr "names"
theorem seqGI {t u : TS} {D : Ends} {σ : L2.St} {H : Hp} {i : Nat} {v : V} (I : L2.St → Hp → Prop) (h1 : ∀ N : L2.St → Hp → Prop, (∀ σ H, I σ H → N σ H) → t { D with nx := N } (σ.set i (some v)) H) (h2 : ∀ σ H, I σ H → u D σ H) : gName i v σ H (tSeq t u D) := h1 _ h2
/-- the state as the law begins -/
theorem st_new {K : PySem.W.Frag} {H : Hp} {a s : Addr} {cells : List Int} (hs : H s = none) (hS : SqL K H a (cells.map V.int)) :
    StAt K a (upd H s (.dK (mergeK [] [(kS, V.ref a), (kA, .int 0), (kN, .int 0)]))) s 0 0 := by
  refine ⟨_, cells, upd_same, Nat.le_trans (length_mergeK _ _) (Nat.le_refl 3), ?_, ?_, ?_, SqL.kp hS (Kp.new hs)⟩
  · show valV (putK (putK (putK [] kS (.ref a)) kA (.int 0)) kN (.int 0)) kS = _
    rw [valV_put, if_neg (by decide +kernel), valV_put, if_neg (by decide +kernel), valV_put, if_pos rfl]
  · show valV (putK (putK (putK [] kS (.ref a)) kA (.int 0)) kN (.int 0)) kA = _
    rw [valV_put, if_neg (by decide +kernel), valV_put, if_pos rfl]
    rfl
  · show valV (putK (putK (putK [] kS (.ref a)) kA (.int 0)) kN (.int 0)) kN = _
    rw [valV_put, if_pos rfl]
    rfl
theorem LRes.two {c : Addr → Prop} {H : Hp} {k : Kd} {v : V} {r : Res (D k)} {n' : Int} (l : LRes c H v [] [] r (0 - 0) n') :
    ∃ p s0 rest, v = .ref p ∧ H p = some (.tup (.str s0 :: rest)) ∧ (s0 = "long" ∨ (decide (V.str s0 = V.str "long") = false ∧ r.cnt ≤ 20000)) := by
  rcases l with ⟨p, rest, rfl, hp⟩ | ⟨h1, h2, h3⟩
  · exact ⟨p, _, rest, rfl, hp, .inl rfl⟩
  · cases r with
    | ok i d =>
      obtain ⟨p, x, rfl, hp, _⟩ := h3
      exact ⟨p, _, _, rfl, hp, .inr ⟨by decide +kernel, by omega⟩⟩
    | stop i w p q =>
      obtain ⟨p, x, y, rfl, hp, _⟩ := h3
      exact ⟨p, _, _, rfl, hp, .inr ⟨by decide +kernel, by omega⟩⟩
def spLaw (K : PySem.W.Frag) : Sp := fun vs H Q _ => ∃ (a : Addr) (ns : List Int), vs = [.ref a] ∧ SqL K H a (ns.map V.int) ∧ ns.length ≤ 63 ∧ ∀ H', Q (.bl true) H'
section
variable {P : Program} {w : World} {K : PySem.W.Frag} {mg : Str → Option Value} {base : Heap} {aC aB f : Addr} {fd : FuncData}
set_option maxHeartbeats 8000000 in
theorem fn_law (T : Tp K mg aC aB) (F : At K mg "law" s_law p_law f fd) {k0 : Nat} (hk0 : 10 ≤ k0) (c_law_cell : ∀ sc, Fn P w K mg base 1 "_law_cell" (spCellL K sc)) (c_law_program : Fn P w K mg base k0 "_law_program" (spProg K)) (c_law_tree : ∀ sc, Fn P w K mg base k0 "_law_tree" (spTree K sc 6))
    (c_law_many : Fn P w K mg base k0 "_law_many" (spMany 11)) (c_law_leaf : Fn P w K mg base 7 "_law_leaf" (spLeaf 6)) (c_law_number : Fn P w K mg base 1 "_law_number" spNumber) (c_law_read : Fn P w K mg base k0 "_law_read" (spLR anyT 0 12)) (c_read : Fn P w K mg base k0 "read" (spRead 14))
    (c_law_alike : Fn P w K mg base 6 "_law_alike" (spAlike 6)) (c_law_each : Fn P w K mg base k0 "_law_each" (spEach 11)) (c_law_times : Fn P w K mg base k0 "_law_times" (spTimes 11)) (c_law_moved : Fn P w K mg base 1 "_law_moved" spMoved) :
    FnOk P w K mg base CX0 (k0 + 1) f fd p_law (spLaw K) := by
  refine F.fn.ok sc_law ?_ (fun cdv A outer s0 H vs Q E hr h => ?_)
  · rintro vs H Q E ⟨a, ns, rfl, _⟩
    rfl
  obtain ⟨a, cells, rfl, hS, h63, q⟩ := h
  have c_law_cell := c_law_cell a
  have c_law_tree := c_law_tree a
  refine ⟨_, (pss_cons (ps_set (i := 1) sc_law.nd rfl (by first | exact Or.inl rfl | exact Or.inr rfl) (pe_disp (pps_cons (pe_str) (pv 0) (pps_cons (pe_str) (pe_int) (pps_cons (pe_str) (pe_int) pps_nil))) (by rfl) (by rfl) (fun z => by cases z) (by decide)))
  (pss_cons (ps_set (i := 2) sc_law.nd rfl (by first | exact Or.inl rfl | exact Or.inr rfl) (pe_fn c_law_cell hr (by omega) (by rfl) (pa_cons (pv 1) pa_nil)))
  (pss_cons (ps_asg (pe_fn c_law_program hr (by omega) (by rfl) (pa_cons (pv 1) (pa_cons (pe_int) pa_nil))) (k_gtup K rfl (n := 3) rfl (pgs_cons (pg_name (i := 3) sc_law.nd rfl (by first | exact Or.inl rfl | exact Or.inr rfl)) (pgs_cons (pg_name (i := 4) sc_law.nd rfl (by first | exact Or.inl rfl | exact Or.inr rfl)) (pgs_cons (pg_name (i := 5) sc_law.nd rfl (by first | exact Or.inl rfl | exact Or.inr rfl)) pgs_nil)))))
  (pss_cons (ps_set (i := 6) sc_law.nd rfl (by first | exact Or.inl rfl | exact Or.inr rfl) (pe_ix (k_ixt K rfl) (pv 3) (pe_int) (fun _ _ => rfl)))
  (pss_cons (ps_if (pt_cmpR op_gt (pe_op op_mod (pv 2) (pe_int)) (pe_int) (nomark _)) (pss_one (ps_set (i := 5) sc_law.nd rfl (by first | exact Or.inl rfl | exact Or.inr rfl) (pe_tup (pa_cons (pe_str) pa_nil)))) pss_nil)
  (pss_cons (ps_set (i := 7) sc_law.nd rfl (by first | exact Or.inl rfl | exact Or.inr rfl) (pe_fn c_law_tree hr (by omega) (by rfl) (pa_cons (pv 1) (pa_cons (pv 5) (pa_cons (pe_op op_cat (pe_callTy (k_listOf K rfl) (by rfl) T.list (by decide +kernel) (pa_cons (pv 6) pa_nil)) (pe_lst (pa_cons (pe_tup (pa_cons (pe_str) (pa_cons (pe_tup (pa_cons (pe_str) pa_nil)) pa_nil))) pa_nil))) (pa_cons (pe_int) pa_nil))))))
  (pss_cons (ps_if (pt_cmpR op_gt (pe_fn c_law_many hr (by omega) (by rfl) (pa_cons (pv 7) pa_nil)) (pe_int) (nomark _)) (pss_one (ps_set (i := 7) sc_law.nd rfl (by first | exact Or.inl rfl | exact Or.inr rfl) (pe_fn c_law_leaf hr (by omega) (by rfl) (pa_cons (pv 5) (pa_cons (pe_lst (pa_cons (pe_tup (pa_cons (pe_str) (pa_cons (pe_tup (pa_cons (pe_str) pa_nil)) pa_nil))) pa_nil)) (pa_cons (pv 2) pa_nil)))))) pss_nil)
  (pss_cons (ps_setLc (i := 8) (own := [("k", 19)]) rfl sc_law.nd rfl rfl (sw_true rfl rfl rfl (by decide +kernel)) (pi_range1 (by rfl) T.range (pa_cons (pe_op op_mod (pe_op op_fdiv (pv 2) (pe_int)) (pe_int)) pa_nil)) (blkOk_by (own := [("k", 19)]) (by rfl)) (fun _ _ _ _ _ => (pg_name (i := 19) sc_law.nd rfl (by first | exact Or.inl rfl | exact Or.inr rfl))) (fun _ _ _ _ _ => pts_nil) (fun _ _ _ _ _ => (pe_op op_mul (pe_fn c_law_number hr (by omega) (by rfl) (pa_cons (pe_op op_fdiv (pv 2) (pe_op op_add (pv 19) (pe_int))) pa_nil)) (pe_ix (k_ixl K rfl) (pe_lst (pa_cons (pe_int) (pa_cons (pe_un un_neg (pe_int)) pa_nil))) (pe_op op_mod (pe_op op_fdiv (pe_op op_add (pv 2) (pv 19)) (pe_int)) (pe_int)) (fun _ _ => rfl)))))
  (pss_cons (ps_set (i := 9) sc_law.nd rfl (by first | exact Or.inl rfl | exact Or.inr rfl) (pe_dictZip K rfl rfl (by rfl) T.zip (by rfl) T.dict (pa_cons (pe_op op_cat (pe_lc (own := [("head", 20)]) rfl sc_law.nd (k_pit K rfl (pv 6)) (blkOk_by (own := [("head", 20)]) (by rfl)) (fun _ _ _ _ _ => (pg_name (i := 20) sc_law.nd rfl (by first | exact Or.inl rfl | exact Or.inr rfl))) (fun _ _ _ _ _ => pts_nil) (fun _ _ _ _ _ => (pe_ix (k_ixt K rfl) (pv 20) (pe_int) (fun _ _ => rfl)))) (pe_lst (pa_cons (pe_str) pa_nil))) (pa_cons (pe_op op_cat (pv 4) (pe_lst (pa_cons (pv 8) pa_nil))) pa_nil))))
  (pss_cons (ps_set (i := 10) sc_law.nd rfl (by first | exact Or.inl rfl | exact Or.inr rfl) (pe_tup (pa_cons (pe_str) (pa_cons (pe_op op_mod (pv 2) (pe_int)) pa_nil))))
  (pss_cons (ps_set (i := 11) sc_law.nd rfl (by first | exact Or.inl rfl | exact Or.inr rfl) (pe_tup (pa_cons (pe_str) (pa_cons (pe_str) (pa_cons (pe_tup (pa_cons (pe_str) (pa_cons (pe_op op_mod (pe_op op_fdiv (pv 2) (pe_int)) (pe_int)) pa_nil))) (pa_cons (pv 10) (pa_cons (pv 7) pa_nil)))))))
  (pss_cons (ps_set (i := 12) sc_law.nd rfl (by first | exact Or.inl rfl | exact Or.inr rfl) (pe_op op_cat (pe_lst (pa_cons (pe_tup (pa_cons (pe_str) (pa_cons (pe_str) (pa_cons (pe_tup (pa_cons (pe_str) (pa_cons (pe_str) pa_nil))) (pa_cons (pv 7) pa_nil))))) (pa_cons (pe_tup (pa_cons (pe_str) (pa_cons (pe_str) (pa_cons (pv 10) (pa_cons (pv 7) pa_nil))))) pa_nil))) (pe_op op_rep (pe_lst (pa_cons (pv 11) pa_nil)) (pe_callTy call_int1 (by rfl) T.int (by decide +kernel) (pa_cons (pe_cmpR (k_eqD K rfl hr) (pv 5) (pe_tup (pa_cons (pe_str) pa_nil)) (nomark _)) pa_nil)))))
  (pss_cons (ps_if (pt_cmpR op_gt (pe_callB (k_len K rfl) (by rfl) T.len (by decide +kernel) (pa_cons (pe_lc (own := [("one", 21)]) rfl sc_law.nd (k_pil K rfl (pv 12)) (blkOk_by (own := [("one", 21)]) (by rfl)) (fun _ _ _ _ _ => (pg_name (i := 21) sc_law.nd rfl (by first | exact Or.inl rfl | exact Or.inr rfl))) (fun _ _ _ _ _ => (pts_one (pt_cmpR op_eq (pe_ix (k_ixs K rfl) (pe_fn c_law_read hr (by omega) (by rfl) (pa_cons (pv 21) (pa_cons (pe_tup pa_nil) (pa_cons (pv 9) (pa_cons (pe_tup pa_nil) (pa_cons (pe_lst (pa_cons (pe_int) pa_nil)) pa_nil)))))) (pe_int) (fun _ _ => rfl)) (pe_str) (nomark _)))) (fun _ _ _ _ _ => (pv 21))) pa_nil)) (pe_int) (nomark _)) (pss_one (ps_ret pe_bl)) pss_nil)
  (pss_cons (ps_set (i := 13) sc_law.nd rfl (by first | exact Or.inl rfl | exact Or.inr rfl) (pe_tup (pa_cons (pe_str) (pa_cons (pe_tup (pa_cons (pe_str) (pa_cons (pe_tup (pa_cons (pe_str) pa_nil)) pa_nil))) pa_nil))))
  (pss_cons (ps_set (i := 14) sc_law.nd rfl (by first | exact Or.inl rfl | exact Or.inr rfl) (pe_fn c_read hr (by omega) (by rfl) (pa_cons (pe_tup (pa_cons (pe_op (k_cat K rfl) (pv 6) (pe_tup (pa_cons (pv 13) pa_nil))) (pa_cons (pe_ix (k_ixl K rfl) (pv 12) (pe_int) (fun _ _ => rfl)) pa_nil))) (pa_cons (pe_op op_cat (pv 4) (pe_lst (pa_cons (pv 8) pa_nil))) pa_nil))))
  (pss_cons (ps_if (pt_not (pt_val (pe_fn c_law_alike hr (by omega) (by rfl) (pa_cons (pv 14) (pa_cons (pe_fn c_law_each hr (by omega) (by rfl) (pa_cons (pv 6) (pa_cons (pv 7) (pa_cons (pv 4) (pa_cons (pv 8) pa_nil))))) pa_nil))))) (pss_one (ps_ret pe_bl)) pss_nil)
  (pss_cons (ps_set (i := 15) sc_law.nd rfl (by first | exact Or.inl rfl | exact Or.inr rfl) (pe_fn c_read hr (by omega) (by rfl) (pa_cons (pe_tup (pa_cons (pe_op (k_cat K rfl) (pv 6) (pe_tup (pa_cons (pe_tup (pa_cons (pe_str) (pa_cons (pe_tup (pa_cons (pe_str) pa_nil)) pa_nil))) pa_nil))) (pa_cons (pv 7) pa_nil))) (pa_cons (pe_op op_cat (pv 4) (pe_lst (pa_cons (pe_op op_mod (pv 2) (pe_int)) pa_nil))) pa_nil))))
  (pss_cons (ps_if (pt_not (pt_val (pe_fn c_law_alike hr (by omega) (by rfl) (pa_cons (pe_fn c_read hr (by omega) (by rfl) (pa_cons (pe_tup (pa_cons (pv 6) (pa_cons (pe_tup (pa_cons (pe_str) (pa_cons (pe_str) (pa_cons (pv 10) (pa_cons (pv 7) pa_nil))))) pa_nil))) (pa_cons (pv 4) pa_nil))) (pa_cons (pe_fn c_law_moved hr (by omega) (by rfl) (pa_cons (pv 15) (pa_cons (pe_int) (pa_cons (pe_tup pa_nil) pa_nil)))) pa_nil))))) (pss_one (ps_ret pe_bl)) pss_nil)
  (pss_cons (ps_set (i := 16) sc_law.nd rfl (by first | exact Or.inl rfl | exact Or.inr rfl) (pe_tup (pa_cons (pe_str) (pa_cons (pv 10) (pa_cons (pe_tup (pa_cons (pe_str) (pa_cons (pe_int) pa_nil))) pa_nil)))))
  (pss_cons (ps_set (i := 17) sc_law.nd rfl (by first | exact Or.inl rfl | exact Or.inr rfl) (pe_tup (pa_cons (pe_str) (pa_cons (pv 16) (pa_cons (pe_tup (pa_cons (pe_str) (pa_cons (pe_str) (pa_cons (pv 10) (pa_cons (pv 7) pa_nil))))) (pa_cons (pe_tup (pa_cons (pe_str) (pa_cons (pe_tup (pa_cons (pe_str) pa_nil)) pa_nil))) pa_nil))))))
  (pss_cons (ps_set (i := 18) sc_law.nd rfl (by first | exact Or.inl rfl | exact Or.inr rfl) (pe_ifExp (pt_cmpR op_gt (pe_op op_mod (pv 2) (pe_int)) (pe_int) (nomark _)) (pe_tup (pa_cons (pe_str) (pa_cons (pe_lst pa_nil) pa_nil))) (pe_fn c_law_moved hr (by omega) (by rfl) (pa_cons (pe_fn c_law_moved hr (by omega) (by rfl) (pa_cons (pv 15) (pa_cons (pe_int) (pa_cons (pe_tup pa_nil) pa_nil)))) (pa_cons (pe_int) (pa_cons (pe_tup pa_nil) pa_nil))))))
  (pss_cons (ps_if (pw_and (pt_cmpR (k_eqD K rfl hr) (pv 5) (pe_tup (pa_cons (pe_str) (pa_cons (pe_tup (pa_cons (pe_str) pa_nil)) pa_nil))) (nomark _)) (pw_and1 (pt_not (pt_val (pe_fn c_law_alike hr (by omega) (by rfl) (pa_cons (pe_fn c_read hr (by omega) (by rfl) (pa_cons (pe_tup (pa_cons (pv 6) (pa_cons (pv 17) pa_nil))) (pa_cons (pv 4) pa_nil))) (pa_cons (pv 18) pa_nil))))))).pt (pss_one (ps_ret pe_bl)) pss_nil)
  (pss_cons (ps_if (pt_cmpR (k_neD K rfl hr) (pv 5) (pe_tup (pa_cons (pe_str) pa_nil)) (nomark _)) (pss_one (ps_ret pe_bl)) pss_nil)
  (pss_cons (ps_set (i := 14) sc_law.nd rfl (by first | exact Or.inl rfl | exact Or.inr rfl) (pe_fn c_read hr (by omega) (by rfl) (pa_cons (pe_tup (pa_cons (pv 6) (pa_cons (pv 11) pa_nil))) (pa_cons (pv 4) pa_nil))))
  (pss_one (ps_ret (pe_fn c_law_alike hr (by omega) (by rfl) (pa_cons (pv 14) (pa_cons (pe_fn c_law_times hr (by omega) (by rfl) (pa_cons (pv 6) (pa_cons (pv 7) (pa_cons (pv 4) (pa_cons (pe_op op_mod (pv 2) (pe_int)) (pa_cons (pe_op op_mod (pe_op op_fdiv (pv 2) (pe_int)) (pe_int)) pa_nil)))))) pa_nil))))))))))))))))))))))))))))), ?_⟩
  refine fun s hs0 => ⟨_, rfl, upd_same, [(kS, .ref a), (kA, .int 0), (kN, .int 0)], rfl, by show 3 ≤ 15; decide, ?_⟩
  rw [upd_upd]
  refine ⟨_, rfl, s, 0, 0, rfl, st_new hs0 hS, fun z H1 b1 st1 => ?_⟩
  refine ⟨_, rfl, a, s, 1, rfl, st1, fun r H2 pg wl hv tv0 kv0 hs ws es k00 u m b2 st2 hm2 hr2 hpg hhv hwl ph pw ft les hkk dk0 gd nm => ?_⟩
  refine ⟨r, _, rfl, SqT.of hr2, rfl, _, _, rfl, _, _, rfl, _, _, rfl, rfl, ?_⟩
  refine ⟨_, rfl, _, _, _, _, rfl, rfl, SqT.of hpg, atI_zero, ?_⟩
  have lhs : hs.length = es.length := by
    have := Paired.len ph
    rw [List.length_map] at this
    exact this
  have lws := Paired.len pw
  try dsimp only
  refine seqGI (fun σ H' => ∃ (kv : V) (k : Kd), σ = [some (.ref a), some (.ref s), some (.int z), some (.ref pg), some (.ref wl), some (kv), some (.ref hv), none, none, none, none, none, none, none, none, none, none, none, none, none, none, none] ∧ Kp H2 H' ∧ KindAt H' kv k ∧ k.depth ≤ 4) (fun N hN => ?_) ?_
  · exact ⟨_, rfl, _, _, rfl, rfl, (by show (0 : Int) < 3; decide), _, _, rfl, rfl, _, rfl, itB (fun e => ⟨ln1, fun p hp => hN _ _ ⟨.ref p, .num, rfl, Kp.new hp, ⟨p, rfl, upd_same⟩, by decide⟩⟩) (fun e => hN _ _ ⟨kv0, k00, rfl, Kp.refl, hkk, dk0⟩)⟩
  rintro σ H3 ⟨kv, k, rfl, k3, hk, dk⟩
  -- the tree
  refine ⟨_, rfl, _, rfl, _, rfl, hv, hs, rfl, .inr (SqT.of (k3 _ _ hhv)), fun l hl => ⟨ln1, fun a1 h1 => ⟨ln2, fun a2 h2 => ⟨ln1, fun a3 h3 => ?_⟩⟩⟩⟩
  have k4 := ((Kp.new (o := .lst hs) hl).trans (Kp.new (o := .tup [.str "num"]) h1)).trans ((Kp.new (o := .tup [.str "x", .ref a1]) h2).trans (Kp.new (o := .lst [.ref a2]) h3))
  have hl4 := ((Kp.new (o := .tup [.str "num"]) h1).trans ((Kp.new (o := .tup [.str "x", .ref a1]) h2).trans (Kp.new (o := .lst [.ref a2]) h3))) l _ upd_same
  have ha1 := ((Kp.new (o := .tup [.str "x", .ref a1]) h2).trans (Kp.new (o := .lst [.ref a2]) h3)) a1 _ upd_same
  have ha2 := (Kp.new (o := .lst [.ref a2]) h3) a2 _ upd_same
  refine ⟨l, a3, hs, [.ref a2], rfl, rfl, hl4, upd_same, line_le (by show hs.length + 1 ≤ _; omega), fun nl0 hnl0 => ?_⟩
  have k5 := Kp.new (o := .lst (hs ++ [.ref a2])) hnl0
  have k35 := k3.trans (k4.trans k5)
  have st5 := st2.kp k35
  obtain ⟨skv, hsd⟩ := st5.dict
  refine ⟨s, k, kv, .ref nl0, es.map heK ++ [(("x" : Str), Kd.num)], u, m, 5, rfl, by decide, ⟨st5, hk.mono (k4.trans k5).tk, by omega, ?_, ?_, ?_⟩, hm2, ?_, fun t tv H6 u6 m6 b6 st6 _ _ _ tr sc ht dp => ?_⟩
  · refine ⟨nl0, _, rfl, upd_same, Paired.app (Paired.mapP ph fun _ _ ⟨p, kv, e1, e2, e3⟩ => ⟨p, kv, e1, k35 _ _ e2, e3.mono k35.tk⟩) (.cons ⟨a2, .ref a1, rfl, k5 _ _ ha2, ⟨a1, rfl, k5 _ _ ha1⟩⟩ .nil)⟩
  · intro e he
    rw [ctxL_snoc]
    unfold Ctx.put
    rcases List.mem_append.mp he with he | he
    · rw [if_neg (nm_ne (nm e he)).1]
      obtain ⟨e0, he0, rfl⟩ := List.mem_map.mp he
      exact ⟨by have := (ft e0 he0).1; show e0.k.depth ≤ 6; omega, gd _ he⟩
    · rw [List.mem_singleton.mp he, if_pos rfl]
      exact ⟨by decide, rfl⟩
  · intro e he
    rcases List.mem_append.mp he with he | he
    · exact .inr (nm e he)
    · rw [List.mem_singleton.mp he]
      exact .inl rfl
  · rw [List.length_append, List.length_map]
    show es.length + 1 + 5 ≤ 900
    omega
  have pin2 : PIn noA H2 hv wl hs ws es := ⟨hhv, hwl, Paired.mapP (Paired.unmap ph) fun _ _ ⟨p, kv, e1, e2, e3⟩ => ⟨p, kv, e1, e2⟩, pw, fun e he => ⟨by have := (ft e he).1; omega, (ft e he).2⟩, by omega⟩
  have pin6 := (pin2.kp k35).butD b6 hsd
  have nx : ∀ e ∈ es, e.x ≠ "x" ∧ e.x ≠ "w" := fun e he => nm_ne (nm (heK e) (List.mem_map_of_mem he))
  have hk6 := (hk.mono (k4.trans k5).tk).mono b6.tk
  have sc6 : Sc ((ctxF G0 es).put "x" .num) t := by
    rw [ctxL_snoc, ctxL_ctxF] at sc
    exact sc
  try dsimp only
  refine seqGI (fun σ H' => ∃ (tv : V) (t : Br.T k), σ = [some (.ref a), some (.ref s), some (.int z), some (.ref pg), some (.ref wl), some (kv), some (.ref hv), some (tv), none, none, none, none, none, none, none, none, none, none, none, none, none, none] ∧ Drawn H' hv wl hs ws es k kv tv t) (fun N hN => ?_) ?_
  · refine ⟨_, rfl, k, t, tv, rfl, tr, ht, fun H7 k7 => ⟨_, _, rfl, rfl, _, rfl, itB (fun e => ?_) (fun e => hN _ _ ⟨tv, t, rfl, ?_⟩)⟩⟩
    · refine ⟨_, rfl, ln1, fun a1 h1 => ⟨ln2, fun a2 h2 => ⟨ln1, fun a3 h3 => ⟨_, rfl, k, kv, .ref a3, [(("x" : Str), Kd.num)], (ctxF G0 es).put "x" .num, z, rfl, ?_, by omega, by omega, ?_, by decide, ?_, fun t2 v2 H8 k8 tr2 sc2 ht2 dp2 sz2 => hN _ _ ⟨v2, t2, rfl, ?_⟩⟩⟩⟩⟩
      · exact hk6.mono (k7.trans ((Kp.new h1).trans ((Kp.new h2).trans (Kp.new h3)))).tk
      · exact ⟨a3, _, rfl, upd_same, .cons ⟨a2, .ref a1, rfl, Kp.new h3 _ _ upd_same, ⟨a1, rfl, ((Kp.new h2).trans (Kp.new h3)) _ _ upd_same⟩⟩ .nil⟩
      · intro e he
        rw [List.mem_singleton.mp he]
        refine ⟨by decide, ?_⟩
        show (ctxF G0 es).put "x" .num "x" = some .num
        unfold Ctx.put
        rw [if_pos rfl]
      · have k68 := k7.trans (((Kp.new h1).trans ((Kp.new h2).trans (Kp.new h3))).trans k8)
        have pw2 : 2 ^ k.depth ≤ 2 ^ 4 := Nat.pow_le_pow_right (by decide) dk
        exact ⟨pin6.kp k68, les, nx, hk6.mono k68.tk, dk, tr2, by omega, by omega, by omega, sc2⟩
    · have sz := of_decide_eq_false e
      exact ⟨pin6.kp k7, les, nx, hk6.mono k7.tk, dk, tr.mono k7.tk, ht, dp, by omega, sc6⟩
  clear hk dk hkk dk0 tr sc ht dp sc6 hk6 pin6 pin2
  rintro σ H4 ⟨tv, t, rfl, d4⟩
  -- the numbers
  obtain ⟨N, hN, hN5⟩ : ∃ N : Nat, z / 7 % 6 = (N : Int) ∧ N ≤ 5 := ⟨(z / 7 % 6).toNat, by omega, by omega⟩
  refine ⟨_, rfl, _, _, rfl, rfl, ⟨by decide, by decide⟩, _, _, rfl, rfl, (by show (0 : Int) < 6; decide), (N : Int), by show [V.int (z / 7 % 6)] = _; rw [hN], by omega, by omega, fun nl hnl => lc_range (lo := 0) (n := N) (fun i H' => ∃ ns : List Int, Kp H4 H' ∧ H' nl = some (.lst (ns.map V.int)) ∧ ns.length = i ∧ ∀ x ∈ ns, -bnd ≤ x ∧ x ≤ bnd)
    ⟨[], Kp.new hnl, upd_same, rfl, fun x hx => absurd hx (by simp)⟩ ?_ ?_⟩
  · rintro i H' hi ⟨ns, kp, hns, ln, fn⟩
    obtain ⟨sg, hsg, esg⟩ := sign_at ((z + (0 + (i : Int))) / 3)
    refine ⟨rfl, itY <| itT rfl ?_⟩
    refine ⟨_, rfl, _, rfl, _, _, rfl, rfl, _, _, rfl, rfl, ⟨?_, ?_⟩, _, rfl, fun y H5 k5 y0 y1 => ?_⟩
    · show (0 : Int) < 0 + (i : Int) + 5
      omega
    · show 0 + (i : Int) + 5 < 1073741824
      omega
    refine ⟨_, rfl, ln2, fun l hl => ⟨_, rfl, _, rfl, _, _, rfl, rfl, _, _, rfl, rfl, ⟨by decide, by decide⟩, _, _, rfl, rfl, (by show (0 : Int) < 2; decide), l, _, _, _, rfl, rfl, SqL.of upd_same, hsg, _, _, rfl, rfl, .inr ?_, ?_⟩⟩
    · rcases esg with rfl | rfl <;> exact ⟨by decide, by decide⟩
    · have k6 := k5.trans (Kp.new (o := .lst [.int 1, .int (-1)]) hl)
      refine ⟨ns.map V.int, k6 _ _ hns, line_lt (by rw [List.length_map]; omega), ns ++ [y * sg], (kp.trans k6).put hnl, by rw [upd_same, List.map_append]; rfl, by rw [List.length_append, ln]; rfl, fun x hx => ?_⟩
      rcases List.mem_append.mp hx with hx | hx
      · exact fn x hx
      · rw [List.mem_singleton.mp hx]
        show -bnd ≤ y * sg ∧ y * sg ≤ bnd
        rcases esg with rfl | rfl <;> omega
  rintro H5 ⟨ns, k45, hns, lns, fns⟩
  have d5 := d4.kp k45
  clear d4
  -- the names
  obtain ⟨we, hwe⟩ : ∃ we : HE, we = ⟨"w", .row .num, ns⟩ := ⟨_, rfl⟩
  have rwe : ∀ {H' : Hp}, Kp H5 H' → RepW noA H' we.k (.ref nl) we.d := fun k => by
    rw [hwe]
    exact RepW.of_ints (k _ _ hns) (fun z => z)
  have fit_w : Fit (.row .num) ns := ⟨by show ns.length ≤ 200; omega, fun x hx => fns x hx⟩
  try dsimp only
  refine seqGI (fun σ H' => ∃ dn : Addr, σ = [some (.ref a), some (.ref s), some (.int z), some (.ref pg), some (.ref wl), some (kv), some (.ref hv), some (tv), some (.ref nl), some (.ref dn), none, none, none, none, none, none, none, none, none, none, none, none] ∧ Kp H5 H' ∧ EnvAt noA H' (.ref dn) ((ctxF G0 es).put "w" (.row .num)) ((envF r0 es).put "w" (a := .row .num) ns) (0 + (es ++ [we]).length)) (fun N hN => ?_) ?_
  · refine ⟨_, rfl, hv, rfl, ⟨_, SqT.of d5.pin.hd⟩, fun g hg => lc_tup (K := K) (a := hv) (xs := hs) (fun i H' => Kp H5 H' ∧ H' g = some (.lst ((es.take i).map fun e => V.str e.x)))
      ⟨Kp.new hg, upd_same⟩ (fun i H' _ pw => SqT.of (pw.1 _ _ d5.pin.hd)) ?_ ?_⟩
    · rintro i x H' hi ⟨kp, hg'⟩
      obtain ⟨e, he, p, w0, rfl, hp⟩ := Paired.at d5.pin.ph hi
      refine ⟨rfl, itY <| itT rfl ⟨_, rfl, _, _, _, _, rfl, rfl, SqT.of (kp _ _ hp), atI_zero, _, hg', line_lt ?_, kp.put hg, ?_⟩⟩
      · rw [List.length_map, List.length_take]
        omega
      · rw [upd_same, take_more he, List.map_append]
        rfl
    · rintro H6 ⟨k6, hg6⟩
      rw [lhs, List.take_length] at hg6
      refine ⟨ln1, fun b1 hb1 => ⟨g, b1, _, [.str "w"], rfl, rfl, Kp.new hb1 _ _ hg6, upd_same, line_le (by rw [List.length_map]; show es.length + 1 ≤ _; omega), fun ks hks => ?_⟩⟩
      have k7 := k6.trans ((Kp.new (o := .lst [.str "w"]) hb1).trans (Kp.new (o := .lst ((es.map fun e => V.str e.x) ++ [.str "w"])) hks))
      refine ⟨_, rfl, _, rfl, ln1, fun b2 hb2 => ⟨wl, b2, ws, [.ref nl], rfl, rfl, (k7.trans (Kp.new hb2)) _ _ d5.pin.wl, upd_same, line_le (by show ws.length + 1 ≤ _; omega), fun ys hys => ?_⟩⟩
      have k8 := (Kp.new (o := .lst [.ref nl]) hb2).trans (Kp.new (o := .lst (ws ++ [.ref nl])) hys)
      have k58 := k7.trans k8
      refine ⟨ks, ys, (es ++ [we]).map (fun e => e.x), ws ++ [.ref nl], rfl, SqL.of ?_, SqL.of upd_same, by rw [List.length_map, List.length_append, List.length_append, lws]; rfl, fun dn hdn => hN _ _ ⟨dn, rfl, k58.trans (Kp.new hdn), dn, _, rfl, upd_same, fun z => z, ?_⟩⟩
      · rw [k8 _ _ upd_same, hwe, List.map_append, List.map_append, List.map_map]
        rfl
      · have kk := k58.trans (Kp.new (o := .dK (mergeK [] (((es ++ [we]).map (fun e => e.x)).zipWith (fun k y => ((Sum.inr k : Key), y)) (ws ++ [.ref nl])))) hdn)
        have pin8 := d5.pin.kp kk
        have ek := EnvK.merge (c := noA) (kvs := []) (G := G0) (r := r0) (n := 0) (es := es ++ [we]) (ys := ws ++ [.ref nl]) ⟨Nat.le_refl _, fun x k h => (nomatch h), fun p hp => absurd hp (by simp)⟩
          (Paired.app pin8.pw (.cons (rwe kk) .nil)) (fun e he => by
            rcases List.mem_append.mp he with he | he
            · exact d5.pin.ft e he
            · rw [List.mem_singleton.mp he, hwe]
              exact ⟨by show (2 : Nat) ≤ 6; decide, fit_w⟩)
        rw [ctxF_app, envF_app] at ek
        rw [hwe] at ek ⊢
        exact ek
  rintro σ H6 ⟨dn, rfl, k56, en⟩
  have d6 := d5.kp k56
  have hns6 := k56 _ _ hns
  have lwe : 0 + (es ++ [we]).length ≤ 10 := by
    rw [List.length_append]
    show 0 + (es.length + 1) ≤ 10
    omega
  clear d5 hns
  -- begin, turning
  obtain ⟨b, hb, b0, b4⟩ : ∃ b : Int, b = z % 5 ∧ 0 ≤ b ∧ b ≤ 4 := ⟨_, rfl, by omega, by omega⟩
  obtain ⟨M, hM, M3⟩ : ∃ M : Nat, z / 5 % 4 = (M : Int) ∧ M ≤ 3 := ⟨(z / 5 % 4).toNat, by omega, by omega⟩
  refine ⟨_, rfl, _, _, rfl, rfl, (by show (0 : Int) < 5; decide), ln2, fun bg hbg => ?_⟩
  dsimp only
  rw [← hb]
  refine ⟨_, rfl, _, _, rfl, rfl, ⟨by decide, by decide⟩, _, _, rfl, rfl, (by show (0 : Int) < 4; decide), ln2, fun mn hmn => ?_⟩
  dsimp only
  rw [hM]
  refine ⟨_, rfl, _, rfl, ln5, fun tn htn => ?_⟩
  have k67 := (Kp.new (o := .tup [.str "num", .int b]) hbg).trans ((Kp.new (o := .tup [.str "num", .int (M : Int)]) hmn).trans (Kp.new (o := .tup [.str "times", .str "x", .ref mn, .ref bg, tv]) htn))
  obtain ⟨H7, hH7⟩ : ∃ H7, H7 = upd (upd (upd H6 bg (.tup [.str "num", .int b])) mn (.tup [.str "num", .int (M : Int)])) tn (.tup [.str "times", .str "x", .ref mn, .ref bg, tv]) := ⟨_, rfl⟩
  rw [← hH7] at k67 ⊢
  have hbg7 : H7 bg = some (.tup [.str "num", .int b]) := by rw [hH7]; exact ((Kp.new hmn).trans (Kp.new htn)) _ _ upd_same
  have hmn7 : H7 mn = some (.tup [.str "num", .int (M : Int)]) := by rw [hH7]; exact Kp.new htn _ _ upd_same
  have htn7 : H7 tn = some (.tup [.str "times", .str "x", .ref mn, .ref bg, tv]) := by rw [hH7]; exact upd_same
  clear hH7 htn hmn hbg
  have d7 := d6.kp k67
  have hns7 := k67 _ _ hns6
  have en7 := en.kp k67
  clear d6 hns6 en
  have tbg : ∀ {H' : Hp}, Kp H7 H' → TreeAt H' (.ref bg) (Br.T.num b) := fun k => tree_num (k _ _ hbg7)
  have tmn : ∀ {H' : Hp}, Kp H7 H' → TreeAt H' (.ref mn) (Br.T.num (M : Int)) := fun k => tree_num (k _ _ hmn7)
  -- the shots
  try dsimp only
  refine seqGI (fun σ H' => ∃ (sl ea lt : Addr) (xs : List V), σ = [some (.ref a), some (.ref s), some (.int z), some (.ref pg), some (.ref wl), some (kv), some (.ref hv), some (tv), some (.ref nl), some (.ref dn), some (.ref bg), some (.ref tn), some (.ref sl), none, none, none, none, none, none, none, none, none] ∧ Kp H7 H' ∧ H' sl = some (.lst (.ref ea :: .ref lt :: xs)) ∧ Paired (fun v (s : TT2) => TreeAt H' v s.2) (.ref ea :: .ref lt :: xs) (shotsT k t (M : Int) b)) (fun N hN => ?_) ?_
  · refine ⟨ln2, fun nw hnw => ⟨_, rfl, ln4, fun ea hea => ⟨_, rfl, _, rfl, ln4, fun lt hlt => ⟨ln2, fun l1 hl1 => ⟨_, rfl, ln1, fun l2 hl2 => ⟨_, rfl, ln1, fun nk hnk => ?_⟩⟩⟩⟩⟩⟩
    have j1 := Kp.new (o := .tup [.str "name", .str "w"]) hnw
    have j2 := Kp.new (o := .tup [.str "each", .str "x", .ref nw, tv]) hea
    have j3 := Kp.new (o := .tup [.str "let", .str "x", .ref bg, tv]) hlt
    have j4 := Kp.new (o := .lst [.ref ea, .ref lt]) hl1
    have j5 := Kp.new (o := .lst [.ref tn]) hl2
    have j6 := Kp.new (o := .tup [.str "num"]) hnk
    have j46 := j4.trans (j5.trans j6)
    have j16 := (j1.trans (j2.trans j3)).trans j46
    have tea : ∀ {H' : Hp}, Kp (upd (upd (upd (upd (upd (upd H7 nw (.tup [.str "name", .str "w"])) ea (.tup [.str "each", .str "x", .ref nw, tv])) lt (.tup [.str "let", .str "x", .ref bg, tv])) l1 (.lst [.ref ea, .ref lt])) l2 (.lst [.ref tn])) nk (.tup [.str "num"])) H' → TreeAt H' (.ref ea) (eachT t) := fun k => ⟨ea, .ref nw, tv, rfl, k _ _ ((j3.trans j46) _ _ upd_same), ⟨nw, rfl, k _ _ (((j2.trans j3).trans j46) _ _ upd_same)⟩, d7.tr.mono (j16.trans k).tk⟩
    have tlt : ∀ {H' : Hp}, Kp (upd (upd (upd (upd (upd (upd H7 nw (.tup [.str "name", .str "w"])) ea (.tup [.str "each", .str "x", .ref nw, tv])) lt (.tup [.str "let", .str "x", .ref bg, tv])) l1 (.lst [.ref ea, .ref lt])) l2 (.lst [.ref tn])) nk (.tup [.str "num"])) H' → TreeAt H' (.ref lt) (letT b t) := fun k => ⟨lt, .ref bg, tv, rfl, k _ _ (j46 _ _ upd_same), tbg (j16.trans k), d7.tr.mono (j16.trans k).tk⟩
    refine kind_eq (d7.kd.mono j16.tk) (b := .num) ⟨nk, rfl, upd_same⟩ (by have := d7.dk; omega) (by decide) ?_
    obtain ⟨bb, hbb⟩ : ∃ bb, decide (k = Kd.num) = bb := ⟨_, rfl⟩
    rw [hbb]
    cases bb with
    | true =>
      have e := of_decide_eq_true hbb
      subst e
      refine .inr ⟨true, rfl, l2, _, _, rfl, rfl, j6 _ _ upd_same, by decide, by decide, by show 1 ≤ sizeLine; exact ln1, fun rp hrp => ⟨l1, rp, [.ref ea, .ref lt], [.ref tn], rfl, rfl, ((j5.trans j6).trans (Kp.new hrp)) _ _ upd_same, upd_same, ln3, fun sl hsl => hN _ _ ⟨sl, ea, lt, [.ref tn], rfl, j16.trans ((Kp.new hrp).trans (Kp.new hsl)), upd_same, ?_⟩⟩⟩
      have kk := (Kp.new (o := .lst (List.replicate (if true = true then (1 : Int) else 0).toNat [V.ref tn]).flatten) hrp).trans (Kp.new (o := .lst ([.ref ea, .ref lt] ++ [.ref tn])) hsl)
      exact .cons (tea kk) (.cons (tlt kk) (.cons ⟨tn, .ref mn, .ref bg, tv, rfl, (j16.trans kk) _ _ htn7, tmn (j16.trans kk), tbg (j16.trans kk), d7.tr.mono (j16.trans kk).tk⟩ .nil))
    | false =>
      have e := of_decide_eq_false hbb
      refine .inr ⟨false, rfl, l2, _, _, rfl, rfl, j6 _ _ upd_same, by decide, by decide, by show 0 ≤ sizeLine; exact ln0, fun rp hrp => ⟨l1, rp, [.ref ea, .ref lt], [], rfl, rfl, ((j5.trans j6).trans (Kp.new hrp)) _ _ upd_same, upd_same, ln2, fun sl hsl => hN _ _ ⟨sl, ea, lt, [], rfl, j16.trans ((Kp.new hrp).trans (Kp.new hsl)), upd_same, ?_⟩⟩⟩
      have kk := (Kp.new (o := .lst (List.replicate (if false = true then (1 : Int) else 0).toNat [V.ref tn]).flatten) hrp).trans (Kp.new (o := .lst ([.ref ea, .ref lt] ++ [])) hsl)
      have nt : turnT k t (M : Int) b = [] := by
        cases k with
        | num => exact absurd rfl e
        | truth => rfl
        | pair a b => rfl
        | row a => rfl
      unfold shotsT
      rw [nt]
      exact .cons (tea kk) (.cons (tlt kk) .nil)
  rintro σ H8 ⟨sl, ea, lt, xs, rfl, k78, hsl, prs⟩
  have d8 := d7.kp k78
  have hns8 := k78 _ _ hns7
  have en8 := en7.kp k78
  have hw := d8.now
  have good : ∀ s ∈ shotsT k t (M : Int) b, Sc ((ctxF G0 es).put "w" (.row .num)) s.2 ∧ s.2.ht ≤ 12 ∧ s.2.dep ≤ 6 := by
    have h1 := d8.ht
    have h2 := d8.dp
    have h3 := d8.dk
    have h4 := t.ht_pos
    have scw := scope_w (j := .row .num) hw d8.sc
    intro s hs
    unfold shotsT at hs
    rcases List.mem_cons.mp hs with rfl | hs
    · refine ⟨sc_eachT hw d8.sc, ?_, ?_⟩
      · show max 1 t.ht + 1 ≤ 12
        omega
      · show max (1 + k.depth) (max 2 t.dep) ≤ 6
        omega
    rcases List.mem_cons.mp hs with rfl | hs
    · refine ⟨sc_letT (by omega) scw, ?_, ?_⟩
      · show max 1 t.ht + 1 ≤ 12
        omega
      · show max k.depth (max 1 t.dep) ≤ 6
        omega
    cases k with
    | num =>
      rw [List.mem_singleton.mp hs]
      refine ⟨sc_timesT (by omega) (by omega) scw, ?_, ?_⟩
      · show max 1 (max 1 t.ht) + 1 ≤ 12
        omega
      · show max 1 (max 1 (max 1 t.dep)) ≤ 6
        omega
    | truth => exact absurd hs (by simp [turnT])
    | pair a b => exact absurd hs (by simp [turnT])
    | row a => exact absurd hs (by simp [turnT])
  have fe : FitE (ctxF G0 es) (envF r0 es) := FitE.fold FitE.nil fun e he => (d8.pin.ft e he).2
  have few := fe.put "w" (a := .row .num) fit_w
  -- are they too long
  refine ⟨_, rfl, sl, rfl, ⟨_, SqL.of hsl⟩, fun g hg => lc_list (K := K) (a := sl) (xs := .ref ea :: .ref lt :: xs) (fun i H' => ∃ acc : List V, Kp H8 H' ∧ H' g = some (.lst acc) ∧ acc.length ≤ i ∧ (acc = [] → ∀ s ∈ (shotsT k t (M : Int) b).take i, (den s.2 ((envF r0 es).put "w" (a := .row .num) ns)).cnt ≤ 20000))
    ⟨[], Kp.new hg, upd_same, Nat.le_refl _, fun _ s hs => absurd hs (by simp)⟩ (fun i H' _ pw => ?_) ?_ ?_⟩
  · obtain ⟨acc, kp, _⟩ := pw
    exact SqL.of (kp _ _ hsl)
  · rintro i x H' hi ⟨acc, kp, hacc, lacc, all⟩
    obtain ⟨sh, hsh, trs⟩ := Paired.at prs hi
    obtain ⟨g1, g2, g3⟩ := good sh (List.mem_of_getElem? hsh)
    have li : i < (shotsT k t (M : Int) b).length := (List.getElem?_eq_some_iff.mp hsh).1
    have lsh : (shotsT k t (M : Int) b).length ≤ 3 := by
      cases k <;> exact Nat.le_of_ble_eq_true rfl
    refine ⟨rfl, _, rfl, ln0, fun e1 he1 => ⟨_, rfl, ln0, fun e2 he2 => ⟨ln1, fun cl hcl => ?_⟩⟩⟩
    have kc2 := (Kp.new (o := .tup []) he1).trans (Kp.new (o := .tup []) he2)
    have kc3 := Kp.new (o := .lst [.int 0]) hcl
    have hclH : H' cl = none := kc2.free hcl
    refine ⟨(fun a => noA a ∨ a = cl), cl, sh.1, sh.2, (ctxF G0 es).put "w" (.row .num), (envF r0 es).put "w" (a := .row .num) ns, x, .ref e1, .ref dn, .ref e2, [], [], 0 + (es ++ [we]).length, 0, rfl, trivial, ?_, fun v H9 n9 b9 h9 lr => ?_⟩
    · exact { ca := upd_same, cm := .inr rfl, av := av_no.more (NoT.of upd_same (fun _ z => nomatch z)), tr := trs.mono ((kp.trans kc2).trans kc3).tk, ht := g2, dp := g3, sc := g1, fe := few, en := (((en8.kp kp).kp kc2).more hcl).kp kc3, bn := by omega,
              pa := ⟨e1, rfl, ((Kp.new he2).trans kc3) _ _ upd_same⟩, ta := ⟨e2, rfl, kc3 _ _ upd_same⟩, pn := by show 0 + _ ≤ 1000; omega, tn := by show 0 + _ ≤ 1000; omega }
    have k9 : Kp H' H9 := Kp.of_new (kc2.trans kc3) hclH b9
    obtain ⟨p, s0, rest, rfl, hp, way⟩ := lr.two
    rcases way with rfl | ⟨no, cnt⟩
    · refine .inr (.inl ⟨p, _, _, _, rfl, rfl, SqT.of hp, atI_zero, rfl, _, rfl, itT (by decide +kernel) ⟨_, rfl, acc, k9 _ _ hacc, line_lt (by omega), acc ++ [x], (kp.trans k9).put hg, upd_same, by rw [List.length_append]; show acc.length + 1 ≤ i + 1; omega, fun e => absurd e (by simp)⟩⟩)
    · refine .inr (.inl ⟨p, _, _, _, rfl, rfl, SqT.of hp, atI_zero, rfl, _, rfl, itF no ⟨acc, kp.trans k9, k9 _ _ hacc, by omega, fun e s hs => ?_⟩⟩)
      rw [take_more hsh] at hs
      rcases List.mem_append.mp hs with hs | hs
      · exact all e s hs
      · rw [List.mem_singleton.mp hs]
        exact cnt
  rintro H9 ⟨acc, k89, hacc, lacc, all⟩
  refine ⟨g, acc, rfl, .inl (SqL.of hacc), _, _, rfl, rfl, _, rfl, itB (fun e => q _) (fun e => ?_)⟩
  have acc0 : acc = [] := by
    have := of_decide_eq_false e
    cases acc with
    | nil => rfl
    | cons x l => exact absurd (show (((x :: l).length : Nat) : Int) > 0 by rw [List.length_cons]; omega) this
  have all9 := all acc0
  rw [Paired.len prs, List.take_length] at all9
  clear all acc0 hacc lacc
  have d9 := d8.kp k89
  have hns9 := k89 _ _ hns8
  have k79 := k78.trans k89
  have cE : (den (eachT t) ((envF r0 es).put "w" (a := .row .num) ns)).cnt ≤ 20000 := all9 _ List.mem_cons_self
  have scL : Sc (ctxF G0 es) (letT b t) := sc_letT (by omega) d9.sc
  have cL : (den (letT b t) (envF r0 es)).cnt ≤ 20000 := by
    rw [← den_congr (letT b t) scL (age_w hw ns)]
    exact all9 _ (List.mem_cons_of_mem _ List.mem_cons_self)
  have htea : TreeAt H8 (.ref ea) (eachT t) := by
    cases prs with
    | cons x _ => exact x
  have hsl9 := k89 _ _ hsl
  have h11 := d9.ht
  have h12 := d9.dp
  have h13 := d9.dk
  have h14 := d9.sz
  have h15 := t.ht_pos
  have h16 := d9.les
  -- row, told
  refine ⟨ln1, fun a1 h1 => ⟨ln2, fun a2 h2 => ⟨ln2, fun rw hrw => ?_⟩⟩⟩
  have k10 := (Kp.new (o := .tup [.str "num"]) h1).trans ((Kp.new (o := .tup [.str "row", .ref a1]) h2).trans (Kp.new (o := .tup [.str "w", .ref a2]) hrw))
  refine ⟨_, rfl, _, rfl, ln1, fun a3 h3 => cat_tup ((k10.trans (Kp.new h3)) _ _ d9.pin.hd) upd_same (by show hs.length + 1 ≤ 1000; omega) fun hv' H11 k11 hh11 => ?_⟩
  have k12 := (Kp.new (o := .tup [.ref rw]) h3).trans k11
  refine ⟨_, rfl, _, _, _, _, rfl, rfl, SqL.of ((k10.trans k12) _ _ hsl9), atI_zero, ln2, fun p hp => ⟨_, rfl, _, rfl, ln1, fun b2 hb2 => ⟨wl, b2, ws, [.ref nl], rfl, rfl, ?_, upd_same, line_le (by show ws.length + 1 ≤ _; omega), fun qq hqq => ?_⟩⟩⟩
  · exact ((k10.trans k12).trans ((Kp.new hp).trans (Kp.new hb2))) _ _ d9.pin.wl
  have k13 := (Kp.new (o := .tup [.ref hv', .ref ea]) hp).trans ((Kp.new (o := .lst [.ref nl]) hb2).trans (Kp.new (o := .lst (ws ++ [.ref nl])) hqq))
  have k913 := (k10.trans k12).trans k13
  have pinw := d9.pin.snoc (x := "w") (k := .row .num) (d := ns) (hv' := hv') (wl' := qq) (a := rw) (z := .ref a2) (v := .ref nl) k913 (k13 _ _ hh11) ((k12.trans k13) _ _ upd_same) upd_same (RepW.of_ints (k913 _ _ hns9) (fun z => z)) (by decide) fit_w (by omega)
  show spRead 14 [V.ref _, V.ref _] _ _ E0
  refine spRead.of (t := eachT t) pinw av_no (((Kp.new hb2).trans (Kp.new hqq)) _ _ upd_same) (htea.mono (k89.trans k913).tk) ?_ ?_ ?_ ?_ ?_ fun v14 H14 k14 t14 => ?_
  · show max 1 t.ht + 1 ≤ 14
    omega
  · show 1 + (1 + t.size) ≤ 1000
    omega
  · show max (1 + k.depth) (max 2 t.dep) ≤ 6
    omega
  · rw [ctxF_app]
    exact sc_eachT hw d9.sc
  · rw [envF_app]
    exact Nat.le_trans cE (by decide)
  rw [envF_app] at t14
  have t14' : ToldAt noA H14 v14 [] [] (den (eachT t) ((envF r0 es).put "w" (a := .row .num) ns)) := t14
  clear t14
  have k914 := k913.trans k14
  have d14 := d9.kp k914
  have ec := each_cnt (r := envF r0 es) hw d9.sc ns
  -- each by each
  refine ⟨_, rfl, _, rfl, _, rfl, _, rfl, _, rfl, ?_⟩
  refine ⟨noA, hv, wl, nl, tv, hs, ws, es, k, t, ns, rfl, av_no, d14.pin, by omega, k914 _ _ hns9, by omega, fns, d14.tr, d14.ht, by omega, by omega, d14.sc, by omega, fun v15 H15 k15 t15 => ?_⟩
  have r15 : ToldAt noA H15 v15 [] [] (den (eachT t) ((envF r0 es).put "w" (a := .row .num) ns)) := t15.z (k := .row k) (each_z hw d9.sc ns).symm
  have she := (den_sh (eachT t) ((envF r0 es).put "w" (a := .row .num) ns)).up (show (eachT t).ht ≤ 12 by show max 1 t.ht + 1 ≤ 12; omega)
  refine ⟨v14, v15, rfl, (t14'.mono k15.lk).alk (n := 5) (by show 1 + k.depth ≤ 5; omega) (by decide) (by decide) (fun i d e => den_fit (eachT t) (sc_eachT hw d9.sc) few e) she r15, fun H16 k16 => ⟨_, rfl, itF rfl ?_⟩⟩
  have k916 := (k914.trans k15).trans k16
  have d16 := d9.kp k916
  -- alone
  refine ⟨_, rfl, ln1, fun a4 h4 => ⟨ln2, fun a5 h5 => ⟨ln1, fun a6 h6 => ?_⟩⟩⟩
  have k17 := (Kp.new (o := .tup [.str "num"]) h4).trans ((Kp.new (o := .tup [.str "x", .ref a4]) h5).trans (Kp.new (o := .tup [.ref a5]) h6))
  refine cat_tup (k17 _ _ d16.pin.hd) upd_same (by show hs.length + 1 ≤ 1000; omega) fun hv2 H18 k18 hh18 => ⟨_, rfl, ln2, fun p2 hp2 => ?_⟩
  refine ⟨_, rfl, _, rfl, _, _, rfl, rfl, (by show (0 : Int) < 5; decide), ?_⟩
  dsimp only
  rw [← hb]
  refine ⟨ln1, fun b3 hb3 => ⟨wl, b3, ws, [.int b], rfl, rfl, ?_, upd_same, line_le (by show ws.length + 1 ≤ _; omega), fun q2 hq2 => ?_⟩⟩
  · exact ((k17.trans k18).trans ((Kp.new hp2).trans (Kp.new hb3))) _ _ d16.pin.wl
  have k19 := (Kp.new (o := .tup [.ref hv2, tv]) hp2).trans ((Kp.new (o := .lst [.int b]) hb3).trans (Kp.new (o := .lst (ws ++ [.int b])) hq2))
  have k1619 := (k17.trans k18).trans k19
  have fb : -bnd ≤ b ∧ b ≤ bnd := ⟨by show (-(10 ^ 18) : Int) ≤ b; omega, by show b ≤ (10 ^ 18 : Int); omega⟩
  have pinx := d16.pin.snoc (x := "x") (k := .num) (d := b) (hv' := hv2) (wl' := q2) (a := a5) (z := .ref a4) (v := .int b) k1619 (k19 _ _ hh18) (((Kp.new h6).trans (k18.trans k19)) _ _ upd_same) upd_same rfl (by decide) fb (by omega)
  show spRead 14 [V.ref _, V.ref _] _ _ E0
  refine spRead.of (t := t) pinx av_no (((Kp.new hb3).trans (Kp.new hq2)) _ _ upd_same) (d16.tr.mono k1619.tk) (by omega) (by omega) (by omega) ?_ ?_ fun v15' H20 k20 t20 => ?_
  · rw [ctxF_app]
    exact d16.sc
  · rw [envF_app]
    have e : (den (letT b t) (envF r0 es)).cnt = 1 + (den t ((envF r0 es).put "x" (a := .num) b)).cnt := by rw [den_letT, Res.cnt_plus, Res.cnt_pre]
    show (den t ((envF r0 es).put "x" (a := .num) b)).cnt ≤ _
    omega
  rw [envF_app] at t20
  have t20' : ToldAt noA H20 v15' [] [] (den t ((envF r0 es).put "x" (a := .num) b)) := t20
  clear t20
  have k920 := (k916.trans k1619).trans k20
  have d20 := d9.kp k920
  have k720 := k79.trans k920
  have sh0 := (den_sh t ((envF r0 es).put "x" (a := .num) b)).up h11
  -- the let
  refine ⟨_, rfl, _, rfl, _, rfl, ln4, fun l3 hl3 => ⟨ln2, fun p3 hp3 => ⟨_, rfl, ?_⟩⟩⟩
  have k21 := (Kp.new (o := .tup [.str "let", .str "x", .ref bg, tv]) hl3).trans (Kp.new (o := .tup [.ref hv, .ref l3]) hp3)
  show spRead 14 [V.ref _, V.ref _] _ _ E0
  refine spRead.of (t := letT b t) (d20.pin.kp k21) av_no upd_same ⟨l3, .ref bg, tv, rfl, Kp.new hp3 _ _ upd_same, tbg (k720.trans k21), d20.tr.mono k21.tk⟩ ?_ ?_ ?_ scL (Nat.le_trans cL (by decide)) fun v22 H22 k22 t22 => ?_
  · show max 1 t.ht + 1 ≤ 14
    omega
  · show 1 + (1 + t.size) ≤ 1000
    omega
  · show max k.depth (max 1 t.dep) ≤ 6
    omega
  have k2022 := k21.trans k22
  refine ⟨_, rfl, ln0, fun e3 he3 => ⟨noA, k, _, 1, [], v15', .ref e3, rfl, (t20'.mono k2022.lk).mono (Kp.new he3).lk, ⟨e3, rfl, upd_same⟩, by decide, sh0.short (by decide), fun v23 H23 k23 t23 => ?_⟩⟩
  have zl : (den (letT b t) (envF r0 es)).z = ((den t ((envF r0 es).put "x" (a := .num) b)).pre 1 []).z := by rw [den_letT, Res.z_plus]
  have shl := (den_sh (letT b t) (envF r0 es)).up (show (letT b t).ht ≤ 12 by show max 1 t.ht + 1 ≤ 12; omega)
  have k2223 := (Kp.new (o := .tup []) he3).trans k23
  refine ⟨v22, v23, rfl, (t22.mono k2223.lk).alk (n := 5) (by omega) (by decide) (by decide) (fun i d e => den_fit (letT b t) scL fe e) shl (t23.z zl.symm), fun H24 k24 => ⟨_, rfl, itF rfl ?_⟩⟩
  have k2024 := (k2022.trans k2223).trans k24
  have k924 := k920.trans k2024
  have d24 := d9.kp k924
  have k724 := k79.trans k924
  have t24 := t20'.mono k2024.lk
  -- test, either
  refine ⟨_, rfl, ln2, fun n2 hn2 => ⟨ln3, fun ts hts => ?_⟩⟩
  refine ⟨_, rfl, _, rfl, _, rfl, ln4, fun l4 hl4' => ⟨ln1, fun n3 hn3 => ⟨ln2, fun nn hnn => ⟨ln4, fun ei hei => ?_⟩⟩⟩⟩
  have m1 := Kp.new (o := .tup [.str "num", .int 2]) hn2
  have m2 := Kp.new (o := .tup [.str "less", .ref bg, .ref n2]) hts
  have m3 := Kp.new (o := .tup [.str "let", .str "x", .ref bg, tv]) hl4'
  have m4 := Kp.new (o := .tup [.str "num"]) hn3
  have m5 := Kp.new (o := .tup [.str "none", .ref n3]) hnn
  have m6 := Kp.new (o := .tup [.str "if", .ref ts, .ref l4, .ref nn]) hei
  have m26 := m2.trans (m3.trans (m4.trans (m5.trans m6)))
  have m36 := m3.trans (m4.trans (m5.trans m6))
  have m16 := m1.trans m26
  obtain ⟨H25, hH25⟩ : ∃ H25, H25 = upd (upd (upd (upd (upd (upd H24 n2 (.tup [.str "num", .int 2])) ts (.tup [.str "less", .ref bg, .ref n2])) l4 (.tup [.str "let", .str "x", .ref bg, tv])) n3 (.tup [.str "num"])) nn (.tup [.str "none", .ref n3])) ei (.tup [.str "if", .ref ts, .ref l4, .ref nn]) := ⟨_, rfl⟩
  have e25 : H25 n2 = some (.tup [.str "num", .int 2]) ∧ H25 ts = some (.tup [.str "less", .ref bg, .ref n2]) ∧ H25 l4 = some (.tup [.str "let", .str "x", .ref bg, tv]) ∧ H25 nn = some (.tup [.str "none", .ref n3]) ∧ H25 ei = some (.tup [.str "if", .ref ts, .ref l4, .ref nn]) := by
    rw [hH25]
    exact ⟨m26 _ _ upd_same, m36 _ _ upd_same, (m4.trans (m5.trans m6)) _ _ upd_same, m6 _ _ upd_same, upd_same⟩
  rw [← hH25] at m16 ⊢
  clear m1 m2 m3 m4 m5 m6 m26 m36 hH25 hn2 hts hl4' hn3 hnn hei
  obtain ⟨f1, f2, f3, f4, f5⟩ := e25
  have k725 := k724.trans m16
  have d25 := d24.kp m16
  have t25 := t24.mono m16.lk
  -- other
  try dsimp only
  refine seqGI (fun σ H' => ∃ v18 : V, σ = [some (.ref a), some (.ref s), some (.int z), some (.ref pg), some (.ref wl), some (kv), some (.ref hv), some (tv), some (.ref nl), some (.ref dn), some (.ref bg), some (.ref tn), some (.ref sl), some (.ref rw), some (v14), some (v15'), some (.ref ts), some (.ref ei), some (v18), none, none, none] ∧ Kp H25 H' ∧ (¬ b < 2 → ∃ p el, v18 = .ref p ∧ H' p = some (.tup [.str "is", .ref el]) ∧ H' el = some (.lst [])) ∧ (b < 2 → ToldAt noA H' v18 [] [] (((den t ((envF r0 es).put "x" (a := .num) b)).pre 1 []).pre 1 []))) (fun N hN => ?_) ?_
  · refine ⟨_, rfl, _, _, rfl, rfl, (by show (0 : Int) < 5; decide), ?_⟩
    dsimp only
    rw [← hb]
    refine ⟨_, _, rfl, rfl, _, rfl, itB (fun e => ⟨ln0, fun el hel => ⟨ln2, fun op hop => hN _ _ ⟨.ref op, rfl, (Kp.new hel).trans (Kp.new hop), fun _ => ⟨op, el, rfl, upd_same, Kp.new hop _ _ upd_same⟩, fun h => ?_⟩⟩⟩) (fun e => ?_)⟩
    · have := of_decide_eq_true e
      omega
    · have e' := of_decide_eq_false e
      refine ⟨_, rfl, ln0, fun e4 he4 => ⟨noA, k, _, 1, [], v15', .ref e4, rfl, t25.mono (Kp.new he4).lk, ⟨e4, rfl, upd_same⟩, by decide, sh0.short (by decide), fun v26 H26 k26 t26 => ?_⟩⟩
      refine ⟨ln0, fun e5 he5 => ⟨noA, k, _, 1, [], v26, .ref e5, rfl, t26.mono (Kp.new he5).lk, ⟨e5, rfl, upd_same⟩, by decide, (sh0.pre 1 (qs := []) (Nat.zero_le _)).short (by decide), fun v27 H27 k27 t27 => hN _ _ ⟨v27, rfl, ((Kp.new he4).trans k26).trans ((Kp.new he5).trans k27), fun h => ?_, fun _ => t27⟩⟩⟩
      omega
  rintro σ H26 ⟨v18, rfl, k26, o1, o2⟩
  have k726 := k725.trans k26
  have d26 := d25.kp k26
  -- the if
  refine ifS (fun b H' => b = false ∧ Kp H26 H') (fun C hC => ?_) (fun H' h => absurd h.1 (by decide)) ?_
  · refine ⟨_, rfl, ln1, fun n1 h1 => ⟨ln2, fun n8 h2 => kind_eq (d26.kd.mono ((Kp.new h1).trans (Kp.new h2)).tk) (b := .row .num) ⟨n8, .ref n1, rfl, upd_same, ⟨n1, rfl, Kp.new h2 _ _ upd_same⟩⟩ (by omega) (by decide) ⟨_, rfl, itB (fun e => ?_) (fun e => hC _ _ ⟨rfl, (Kp.new h1).trans (Kp.new h2)⟩)⟩⟩⟩
    have kn := (Kp.new (o := .tup [.str "num"]) h1).trans (Kp.new (o := .tup [.str "row", .ref n1]) h2)
    have e' := of_decide_eq_true e
    subst e'
    refine ⟨_, rfl, _, rfl, ln2, fun p4 hp4 => ⟨_, rfl, ?_⟩⟩
    have kn2 := kn.trans (Kp.new (o := .tup [.ref hv, .ref ei]) hp4)
    have kk := k26.trans kn2
    have scE : Sc (ctxF G0 es) (eitherT b t) := sc_eitherT (by omega) d26.sc
    show spRead 14 [V.ref _, V.ref _] _ _ E0
    refine spRead.of (t := eitherT b t) (d26.pin.kp kn2) av_no upd_same ⟨ei, .ref ts, .ref l4, .ref nn, rfl, kk _ _ f5, ⟨ts, .ref bg, .ref n2, rfl, kk _ _ f2, tbg (k726.trans kn2), tree_num (kk _ _ f1)⟩, ⟨l4, .ref bg, tv, rfl, kk _ _ f3, tbg (k726.trans kn2), d26.tr.mono kn2.tk⟩, ⟨nn, .ref n3, rfl, kk _ _ f4⟩⟩ ?_ ?_ ?_ scE ?_ fun v28 H28 k28 t28 => ?_
    · show max (max 1 1 + 1) (max (max 1 t.ht + 1) 1) + 1 ≤ 14
      omega
    · show 1 + ((1 + (1 + 1)) + ((1 + (1 + t.size)) + 1)) ≤ 1000
      omega
    · show max 2 (max (max 1 (max 1 1)) (max (max 2 (max 1 t.dep)) 2)) ≤ 6
      omega
    · have := either_cnt b t (envF r0 es)
      omega
    refine ⟨_, rfl, v28, v18, rfl, ?_, fun H29 k29 => ⟨_, rfl, hC _ _ ⟨rfl, (kn2.trans k28).trans k29⟩⟩⟩
    have shE := (den_sh (eitherT b t) (envF r0 es)).up (show (eitherT b t).ht ≤ 13 by show max (max 1 1 + 1) (max (max 1 t.ht + 1) 1) + 1 ≤ 13; omega)
    refine t28.alk (c' := noA) (n := 5) (by omega) (by decide) (by decide) (fun i d e => den_fit (eitherT b t) scE fe e) shE ?_
    have ko := kn2.trans k28
    by_cases b2 : b < 2
    · exact ((o2 b2).mono ko.lk).z (either_yes b2 t _).symm
    · obtain ⟨p, el, rfl, g1, g2⟩ := o1 b2
      have g3 : ToldAt noA H28 (k := .row .num) (.ref p) [] [] (.ok 0 ([] : List Int)) := ⟨p, .ref el, rfl, ko _ _ g1, el, [], rfl, ko _ _ g2, fun z => z, .nil⟩
      exact ToldAt.z (k := .row .num) (r := .ok 0 ([] : List Int)) (either_no b2 t (envF r0 es)).symm g3
  rintro H29 ⟨-, k29⟩
  have k729 := k726.trans k29
  have d29 := d26.kp k29
  -- the times
  refine ⟨_, rfl, ln1, fun n4 hn4 => kind_ne (d29.kd.mono (Kp.new hn4).tk) (b := .num) ⟨n4, rfl, upd_same⟩ (by omega) (by decide) ⟨_, rfl, itB (fun e => q _) (fun e => ?_)⟩⟩
  have e' : k = .num := by
    cases hdec : decide (k = Kd.num) with
    | true => exact of_decide_eq_true hdec
    | false => rw [hdec] at e; cases e
  subst e'
  have d30 := d29.kp (Kp.new (o := .tup [.str "num"]) hn4)
  have k730 := k729.trans (Kp.new (o := .tup [.str "num"]) hn4)
  have hMz : (M : Int).toNat = M := Int.toNat_natCast M
  have M60 : 0 ≤ (M : Int) ∧ (M : Int) ≤ 60 := ⟨by omega, by omega⟩
  have scT : Sc (ctxF G0 es) (timesT (M : Int) b t) := sc_timesT (by omega) (by omega) d30.sc
  have cT : (den (timesT (M : Int) b t) (envF r0 es)).cnt ≤ 20000 := by
    rw [← den_congr (timesT (M : Int) b t) scT (age_w hw ns)]
    exact all9 _ (List.mem_cons_of_mem _ (List.mem_cons_of_mem _ List.mem_cons_self))
  refine ⟨_, rfl, _, rfl, ln2, fun p5 hp5 => ⟨_, rfl, ?_⟩⟩
  have k31 := Kp.new (o := .tup [.ref hv, .ref tn]) hp5
  have k731 := k730.trans k31
  show spRead 14 [V.ref _, V.ref _] _ _ E0
  refine spRead.of (t := timesT (M : Int) b t) (d30.pin.kp k31) av_no upd_same ⟨tn, .ref mn, .ref bg, tv, rfl, k731 _ _ htn7, tmn k731, tbg k731, d30.tr.mono k31.tk⟩ ?_ ?_ ?_ scT (Nat.le_trans cT (by decide)) fun v32 H32 k32 t32 => ?_
  · show max 1 (max 1 t.ht) + 1 ≤ 14
    omega
  · show 1 + (1 + (1 + t.size)) ≤ 1000
    omega
  · show max 1 (max 1 (max 1 t.dep)) ≤ 6
    omega
  have d32 := d30.kp (k31.trans k32)
  have tc := times_cnt t (envF r0 es) b M60
  rw [hMz] at tc
  refine ⟨_, rfl, _, rfl, _, rfl, _, rfl, _, rfl, _, _, rfl, rfl, (by show (0 : Int) < 5; decide), _, rfl, _, _, rfl, rfl, ⟨by decide, by decide⟩, _, _, rfl, rfl, (by show (0 : Int) < 4; decide), ?_⟩
  dsimp only
  rw [← hb, hM]
  refine ⟨noA, hv, wl, tv, hs, ws, es, t, M, b, rfl, av_no, d32.pin, by omega, fb, by omega, d32.tr, d32.ht, by omega, by omega, d32.sc, by omega, fun v33 H33 k33 t33 => ?_⟩
  have zt := times_z t (envF r0 es) b M60
  rw [hMz] at zt
  have r33 : ToldAt noA H33 v33 [] [] (den (timesT (M : Int) b t) (envF r0 es)) := t33.z (k := .num) zt.symm
  have sht := (den_sh (timesT (M : Int) b t) (envF r0 es)).up (show (timesT (M : Int) b t).ht ≤ 12 by show max 1 (max 1 t.ht) + 1 ≤ 12; omega)
  exact ⟨v32, v33, rfl, (t32.mono k33.lk).alk (n := 5) (by decide) (by decide) (by decide) (fun i d e => den_fit (timesT (M : Int) b t) scT fe e) sht r33, fun H34 k34 => q _⟩
end
end Br
/-! All defs together. -/
namespace Br
open PySem L2
open PySem.Spec PyProof.Rows
/-- where the defs stand -/
structure Tops (K : PySem.W.Frag) (mg : Str → Option Value) (C : Addr) : Prop where
  is_great : ∃ f fd, At K mg "is_great" s_is_great p_is_great f fd
  numbered : ∃ f fd, At K mg "numbered" s_numbered p_numbered f fd
  divided : ∃ f fd, At K mg "divided" s_divided p_divided f fd
  reckoned : ∃ f fd, At K mg "reckoned" s_reckoned p_reckoned f fd
  beginnings : ∃ f fd, At K mg "beginnings" s_beginnings p_beginnings f fd
  summed : ∃ f fd, At K mg "summed" s_summed p_summed f fd
  greatest : ∃ f fd, At K mg "greatest" s_greatest p_greatest f fd
  counted : ∃ f fd, At K mg "counted" s_counted p_counted f fd
  bounded : ∃ f fd, At K mg "bounded" s_bounded p_bounded f fd
  behind : ∃ f fd, At K mg "behind" s_behind p_behind f fd
  picked : ∃ f fd, At K mg "picked" s_picked p_picked f fd
  kept : ∃ f fd, At K mg "kept" s_kept p_kept f fd
  cut : ∃ f fd, At K mg "cut" s_cut p_cut f fd
  done_one : ∃ f fd, At K mg "done_one" s_done_one p_done_one f fd
  done_two : ∃ f fd, At K mg "done_two" s_done_two p_done_two f fd
  done_once : ∃ f fd, At K mg "done_once" s_done_once p_done_once f fd
  turns_word : ∃ f fd, At K mg "turns_word" s_turns_word p_turns_word f fd
  parts : ∃ f fd, At K mg "parts" s_parts p_parts f fd
  binding : ∃ f fd, At K mg "binding" s_binding p_binding f fd
  names_in : ∃ f fd, At K mg "names_in" s_names_in p_names_in f fd
  free_names : ∃ f fd, At K mg "free_names" s_free_names p_free_names f fd
  size : ∃ f fd, At K mg "size" s_size p_size f fd
  copied : ∃ f fd, At K mg "copied" s_copied p_copied f fd
  sizes_of : ∃ f fd, At K mg "sizes_of" s_sizes_of p_sizes_of f fd
  width_of : ∃ f fd, At K mg "width_of" s_width_of p_width_of f fd
  R_note : ∃ f fd, MAt K C "note" "Reading.note" s_R_note p_R_note f fd
  R_worth : ∃ f fd, MAt K C "worth" "Reading.worth" s_R_worth p_R_worth f fd
  R_arm : ∃ f fd, MAt K C "arm" "Reading.arm" s_R_arm p_R_arm f fd
  R_things : ∃ f fd, MAt K C "things" "Reading.things" s_R_things p_R_things f fd
  R_turned : ∃ f fd, MAt K C "turned" "Reading.turned" s_R_turned p_R_turned f fd
  named : ∃ f fd, At K mg "named" s_named p_named f fd
  read : ∃ f fd, At K mg "read" s_read p_read f fd
  law_alike : ∃ f fd, At K mg "_law_alike" s_law_alike p_law_alike f fd
  law_cell : ∃ f fd, At K mg "_law_cell" s_law_cell p_law_cell f fd
  law_name : ∃ f fd, At K mg "_law_name" s_law_name p_law_name f fd
  law_kind : ∃ f fd, At K mg "_law_kind" s_law_kind p_law_kind f fd
  law_depth : ∃ f fd, At K mg "_law_depth" s_law_depth p_law_depth f fd
  law_number : ∃ f fd, At K mg "_law_number" s_law_number p_law_number f fd
  law_leaf : ∃ f fd, At K mg "_law_leaf" s_law_leaf p_law_leaf f fd
  law_signs : ∃ f fd, At K mg "_law_signs" s_law_signs p_law_signs f fd
  law_binder : ∃ f fd, At K mg "_law_binder" s_law_binder p_law_binder f fd
  law_tree : ∃ f fd, At K mg "_law_tree" s_law_tree p_law_tree f fd
  law_start : ∃ f fd, At K mg "_law_start" s_law_start p_law_start f fd
  law_many : ∃ f fd, At K mg "_law_many" s_law_many p_law_many f fd
  law_worth : ∃ f fd, At K mg "_law_worth" s_law_worth p_law_worth f fd
  law_program : ∃ f fd, At K mg "_law_program" s_law_program p_law_program f fd
  law_reckoned : ∃ f fd, At K mg "_law_reckoned" s_law_reckoned p_law_reckoned f fd
  law_of_row : ∃ f fd, At K mg "_law_of_row" s_law_of_row p_law_of_row f fd
  law_of_two : ∃ f fd, At K mg "_law_of_two" s_law_of_two p_law_of_two f fd
  law_once : ∃ f fd, At K mg "_law_once" s_law_once p_law_once f fd
  law_size : ∃ f fd, At K mg "_law_size" s_law_size p_law_size f fd
  law_cost : ∃ f fd, At K mg "_law_cost" s_law_cost p_law_cost f fd
  law_with : ∃ f fd, At K mg "_law_with" s_law_with p_law_with f fd
  law_loop : ∃ f fd, At K mg "_law_loop" s_law_loop p_law_loop f fd
  law_read : ∃ f fd, At K mg "_law_read" s_law_read p_law_read f fd
  law_moved : ∃ f fd, At K mg "_law_moved" s_law_moved p_law_moved f fd
  law_each : ∃ f fd, At K mg "_law_each" s_law_each p_law_each f fd
  law_times : ∃ f fd, At K mg "_law_times" s_law_times p_law_times f fd
section
variable {P : Program} {w : World} {K : PySem.W.Frag} {mg : Str → Option Value} {base : Heap} {aC aB f f2 C CS : Addr} {fd fd2 : FuncData}
theorem all_size (T : Tp K mg aC aB) (F : At K mg "size" s_size p_size f fd) : ∀ n, Fn P w K mg base n "size" (spSize n)
  | 0 => fn_void F fun vs H Q E ⟨v, _, h, _⟩ => h
  | n + 1 => fn_size T F n (all_size T F n)
theorem all_copied (T : Tp K mg aC aB) (F : At K mg "copied" s_copied p_copied f fd) : ∀ n, Fn P w K mg base n "copied" (spCopied n)
  | 0 => fn_void F fun vs H Q E ⟨c, k, v, d, _, _, h, _⟩ => by
    have := depth_pos k
    omega
  | n + 1 => fn_copied T F n (all_copied T F n)
theorem all_lsize (T : Tp K mg aC aB) (F : At K mg "_law_size" s_law_size p_law_size f fd) : ∀ n, Fn P w K mg base n "_law_size" (spSize n)
  | 0 => fn_void F fun vs H Q E ⟨v, _, h, _⟩ => h
  | n + 1 => fn_law_size T F n (all_lsize T F n)
theorem all_alike (T : Tp K mg aC aB) (F : At K mg "_law_alike" s_law_alike p_law_alike f fd) : ∀ n, Fn P w K mg base n "_law_alike" (spAlike n)
  | 0 => fn_void F fun vs H Q E ⟨v, w, _, h, _⟩ => h
  | n + 1 => fn_law_alike T F n (all_alike T F n)
theorem all_lworth {sc : Addr} (T : Tp K mg aC aB) (F : At K mg "_law_worth" s_law_worth p_law_worth f fd) (c_law_cell : Fn P w K mg base 1 "_law_cell" (spCellL K sc)) (c_law_number : Fn P w K mg base 1 "_law_number" spNumber) : ∀ n, Fn P w K mg base (n + 1) "_law_worth" (spWorthL K sc n)
  | 0 => fn_void F fun vs H Q E ⟨c, s, k, kv, left, u, m, _, _, _, _, _, h, _⟩ => by
    have := depth_pos k
    omega
  | n + 1 => fn_law_worth T F c_law_cell c_law_number n (all_lworth T F c_law_cell c_law_number n)
theorem all_lread (T : Tp K mg aC aB) (F : At K mg "_law_read" s_law_read p_law_read f fd) (F2 : At K mg "_law_loop" s_law_loop p_law_loop f2 fd2) (c_law_cost : Fn P w K mg base 7 "_law_cost" spCost) (c_law_once : Fn P w K mg base 2 "_law_once" spLOnce) (c_law_with : Fn P w K mg base 1 "_law_with" spWith) :
    ∀ n, Fn P w K mg base (10 + 2 * n) "_law_read" (spLR anyT 0 n)
  | 0 => fn_void F fun vs H Q E ⟨c, a, k, t, G, r, tv, pv, dv, uv, pl, tu, b, nn, _, _, l, _⟩ => by
    have h1 := t.ht_pos
    have h2 := l.ht
    omega
  | n + 1 => by
    have c := all_lread T F F2 c_law_cost c_law_once c_law_with n
    have e := fn_law_loop T F2 (by omega) c_law_cost c_law_with c
    have r := fn_law_read T F (by omega) c_law_cost c_law_once e (c.up (Nat.le_succ _))
    exact r
theorem law_ok (T : Tp K mg aC aB) (R : RX P w K mg base C CS) (A : Tops K mg C) (F : At K mg "law" s_law p_law f fd) : FnOk P w K mg base CX0 61 f fd p_law (spLaw K) := by
  obtain ⟨f_is_great, d_is_great, A_is_great⟩ := A.is_great
  obtain ⟨f_numbered, d_numbered, A_numbered⟩ := A.numbered
  obtain ⟨f_divided, d_divided, A_divided⟩ := A.divided
  obtain ⟨f_reckoned, d_reckoned, A_reckoned⟩ := A.reckoned
  obtain ⟨f_beginnings, d_beginnings, A_beginnings⟩ := A.beginnings
  obtain ⟨f_summed, d_summed, A_summed⟩ := A.summed
  obtain ⟨f_greatest, d_greatest, A_greatest⟩ := A.greatest
  obtain ⟨f_counted, d_counted, A_counted⟩ := A.counted
  obtain ⟨f_bounded, d_bounded, A_bounded⟩ := A.bounded
  obtain ⟨f_behind, d_behind, A_behind⟩ := A.behind
  obtain ⟨f_picked, d_picked, A_picked⟩ := A.picked
  obtain ⟨f_kept, d_kept, A_kept⟩ := A.kept
  obtain ⟨f_cut, d_cut, A_cut⟩ := A.cut
  obtain ⟨f_done_one, d_done_one, A_done_one⟩ := A.done_one
  obtain ⟨f_done_two, d_done_two, A_done_two⟩ := A.done_two
  obtain ⟨f_done_once, d_done_once, A_done_once⟩ := A.done_once
  obtain ⟨f_turns_word, d_turns_word, A_turns_word⟩ := A.turns_word
  obtain ⟨f_parts, d_parts, A_parts⟩ := A.parts
  obtain ⟨f_binding, d_binding, A_binding⟩ := A.binding
  obtain ⟨f_names_in, d_names_in, A_names_in⟩ := A.names_in
  obtain ⟨f_free_names, d_free_names, A_free_names⟩ := A.free_names
  obtain ⟨f_size, d_size, A_size⟩ := A.size
  obtain ⟨f_copied, d_copied, A_copied⟩ := A.copied
  obtain ⟨f_sizes_of, d_sizes_of, A_sizes_of⟩ := A.sizes_of
  obtain ⟨f_width_of, d_width_of, A_width_of⟩ := A.width_of
  obtain ⟨f_named, d_named, A_named⟩ := A.named
  obtain ⟨f_read, d_read, A_read⟩ := A.read
  obtain ⟨f_law_alike, d_law_alike, A_law_alike⟩ := A.law_alike
  obtain ⟨f_law_cell, d_law_cell, A_law_cell⟩ := A.law_cell
  obtain ⟨f_law_name, d_law_name, A_law_name⟩ := A.law_name
  obtain ⟨f_law_kind, d_law_kind, A_law_kind⟩ := A.law_kind
  obtain ⟨f_law_depth, d_law_depth, A_law_depth⟩ := A.law_depth
  obtain ⟨f_law_number, d_law_number, A_law_number⟩ := A.law_number
  obtain ⟨f_law_leaf, d_law_leaf, A_law_leaf⟩ := A.law_leaf
  obtain ⟨f_law_signs, d_law_signs, A_law_signs⟩ := A.law_signs
  obtain ⟨f_law_binder, d_law_binder, A_law_binder⟩ := A.law_binder
  obtain ⟨f_law_tree, d_law_tree, A_law_tree⟩ := A.law_tree
  obtain ⟨f_law_start, d_law_start, A_law_start⟩ := A.law_start
  obtain ⟨f_law_many, d_law_many, A_law_many⟩ := A.law_many
  obtain ⟨f_law_worth, d_law_worth, A_law_worth⟩ := A.law_worth
  obtain ⟨f_law_program, d_law_program, A_law_program⟩ := A.law_program
  obtain ⟨f_law_reckoned, d_law_reckoned, A_law_reckoned⟩ := A.law_reckoned
  obtain ⟨f_law_of_row, d_law_of_row, A_law_of_row⟩ := A.law_of_row
  obtain ⟨f_law_of_two, d_law_of_two, A_law_of_two⟩ := A.law_of_two
  obtain ⟨f_law_once, d_law_once, A_law_once⟩ := A.law_once
  obtain ⟨f_law_size, d_law_size, A_law_size⟩ := A.law_size
  obtain ⟨f_law_cost, d_law_cost, A_law_cost⟩ := A.law_cost
  obtain ⟨f_law_with, d_law_with, A_law_with⟩ := A.law_with
  obtain ⟨f_law_loop, d_law_loop, A_law_loop⟩ := A.law_loop
  obtain ⟨f_law_read, d_law_read, A_law_read⟩ := A.law_read
  obtain ⟨f_law_moved, d_law_moved, A_law_moved⟩ := A.law_moved
  obtain ⟨f_law_each, d_law_each, A_law_each⟩ := A.law_each
  obtain ⟨f_law_times, d_law_times, A_law_times⟩ := A.law_times
  obtain ⟨f_R_note, d_R_note, A_R_note⟩ := A.R_note
  obtain ⟨f_R_worth, d_R_worth, A_R_worth⟩ := A.R_worth
  obtain ⟨f_R_arm, d_R_arm, A_R_arm⟩ := A.R_arm
  obtain ⟨f_R_things, d_R_things, A_R_things⟩ := A.R_things
  obtain ⟨f_R_turned, d_R_turned, A_R_turned⟩ := A.R_turned
  have c_is_great := fn_is_great (P := P) (w := w) (base := base) T A_is_great
  have c_numbered := fn_numbered (P := P) (w := w) (base := base) T A_numbered c_is_great
  have c_divided := fn_divided (P := P) (w := w) (base := base) T A_divided
  have c_reckoned := fn_reckoned (P := P) (w := w) (base := base) T A_reckoned c_numbered c_divided
  have c_beginnings := fn_beginnings (P := P) (w := w) (base := base) T A_beginnings c_is_great
  have c_summed := fn_summed (P := P) (w := w) (base := base) T A_summed c_beginnings
  have c_greatest := fn_greatest (P := P) (w := w) (base := base) T A_greatest
  have c_counted := fn_counted (P := P) (w := w) (base := base) T A_counted
  have c_bounded := fn_bounded (P := P) (w := w) (base := base) T A_bounded
  have c_turns_word := fn_turns_word (P := P) (w := w) (base := base) T A_turns_word
  have c_behind := fn_behind (P := P) (w := w) (base := base) T A_behind c_bounded
  have c_picked := fn_picked (P := P) (w := w) (base := base) T A_picked
  have c_kept := fn_kept (P := P) (w := w) (base := base) T A_kept
  have c_cut := fn_cut (P := P) (w := w) (base := base) T A_cut
  have c_done_one := fn_done_one (P := P) (w := w) (base := base) T A_done_one c_counted c_greatest c_behind c_summed
  have c_done_two := fn_done_two (P := P) (w := w) (base := base) T A_done_two c_picked c_bounded c_kept c_cut c_reckoned
  have c_done_once := fn_done_once (P := P) (w := w) (base := base) T A_done_once c_done_one c_done_two
  have c_parts := fn_parts (P := P) (w := w) (base := base) T A_parts
  have c_binding := fn_binding (P := P) (w := w) (base := base) T A_binding
  have c_names_in := fn_names_in (P := P) (w := w) (base := base) T A_names_in c_parts c_binding
  have c_free_names := fun n => fn_free_names (P := P) (w := w) (base := base) T A_free_names n (c_names_in n)
  have c_size := all_size (P := P) (w := w) (base := base) T A_size 6
  have c_sizes_of := fn_sizes_of (P := P) (w := w) (base := base) T A_sizes_of c_size
  have c_copied := all_copied (P := P) (w := w) (base := base) T A_copied 6
  have c_width_of := fn_width_of (P := P) (w := w) (base := base) T A_width_of c_size
  have c_note := fn_R_note (P := P) (w := w) (base := base) T R.toRT A_R_note
  have c_worth := all_worth T R A_R_worth A_R_arm A_R_things A_R_turned c_parts c_done_once c_width_of c_note c_size c_sizes_of c_turns_word c_free_names 14
  have c_named := fn_named (P := P) (w := w) (base := base) T A_named
  have c_read : Fn P w K mg base 39 "read" (spRead 14) := fn_read T R A_read (by decide) (by decide) c_named c_copied c_worth
  have c_worth11 := all_worth T R A_R_worth A_R_arm A_R_things A_R_turned c_parts c_done_once c_width_of c_note c_size c_sizes_of c_turns_word c_free_names 11
  have c_read11 : Fn P w K mg base 33 "read" (spRead 11) := fn_read T R A_read (by decide) (by decide) c_named c_copied c_worth11
  have c_law_reckoned := fn_law_reckoned (P := P) (w := w) (base := base) T A_law_reckoned
  have c_law_of_row := fn_law_of_row (P := P) (w := w) (base := base) T A_law_of_row
  have c_law_of_two := fn_law_of_two (P := P) (w := w) (base := base) T A_law_of_two
  have c_law_once := fn_law_once (P := P) (w := w) (base := base) T A_law_once c_law_reckoned c_law_of_row c_law_of_two
  have c_law_size := all_lsize (P := P) (w := w) (base := base) T A_law_size 6
  have c_law_with := fn_law_with (P := P) (w := w) (base := base) T A_law_with
  have c_law_cost := fn_law_cost (P := P) (w := w) (base := base) T A_law_cost c_law_size
  have c_law_read : Fn P w K mg base 34 "_law_read" (spLR anyT 0 12) := all_lread T A_law_read A_law_loop c_law_cost c_law_once c_law_with 12
  have c_law_cell := fun sc => fn_law_cell (P := P) (w := w) (base := base) (sc := sc) T A_law_cell
  have c_law_number := fn_law_number (P := P) (w := w) (base := base) T A_law_number
  have c_law_name := fun sc => fn_law_name (P := P) (w := w) (base := base) (sc := sc) T A_law_name
  have c_law_depth := all_depth (P := P) (w := w) (base := base) T A_law_depth 6
  have c_law_signs := fn_law_signs (P := P) (w := w) (base := base) T A_law_signs c_law_depth
  have c_law_start := fn_law_start (P := P) (w := w) (base := base) T A_law_start
  have c_law_many := fn_law_many (P := P) (w := w) (base := base) T A_law_many c_law_start
  have c_law_kind := fn_law_kind (P := P) (w := w) (base := base) T A_law_kind
  have c_law_leaf := fn_law_leaf (P := P) (w := w) (base := base) T A_law_leaf c_law_number
  have c_law_tree := fun sc b => all_tree (P := P) (w := w) (base := base) (sc := sc) T A_law_tree A_law_binder (c_law_cell sc) (c_law_leaf 6) (c_law_kind 2) c_law_signs c_law_number (c_law_name sc) b
  have c_law_worth := fun sc => all_lworth (P := P) (w := w) (base := base) (sc := sc) T A_law_worth (c_law_cell sc) c_law_number 5
  have c_law_program : Fn P w K mg base 13 "_law_program" (spProg K) := fn_law_program T A_law_program (by decide) c_law_cell (c_law_leaf 6) (c_law_many 6) (c_law_kind 4) c_law_name (fun sc => c_law_tree sc 1) c_law_worth
  have c_law_moved := fn_law_moved (P := P) (w := w) (base := base) T A_law_moved
  have c_law_alike := all_alike (P := P) (w := w) (base := base) T A_law_alike 6
  have c_law_each : Fn P w K mg base 34 "_law_each" (spEach 11) := fn_law_each T A_law_each (by decide) (by decide) c_read11 c_law_moved
  have c_law_times : Fn P w K mg base 34 "_law_times" (spTimes 11) := fn_law_times T A_law_times (by decide) (by decide) c_read11 c_law_moved
  exact fn_law T F (k0 := 60) (by decide) c_law_cell (c_law_program.up (by decide)) (fun sc => (c_law_tree sc 6).up (by decide)) ((c_law_many 11).up (by decide)) (c_law_leaf 6) c_law_number (c_law_read.up (by decide)) (c_read.up (by decide)) c_law_alike (c_law_each.up (by decide)) (c_law_times.up (by decide)) c_law_moved
end
end Br
/-! What the top has written, and the law's head. -/
namespace Br
open PySem L2
open PySem.Spec PyProof.Rows
/-- a def of the module -/
structure DF (K : PySem.W.Frag) (x : Str) (st : Stmt) (f : Addr) : Prop where
  a : PySem.W.nsIn K mainGlobals x = some (some (.ref f))
  l : ∃ oc od fd sl, K.lookup f = some ⟨oc, od, .func fd, sl⟩ ∧ ∃ kV dc pm an cd ct, fd = PySem.W.fnOf x x (defArgs st) (defBody st) (defScope st) .none kV dc pm an cd ct ∧ PySem.W.codeIn K cd x = true
  k : PySem.W.keepIn K (.ref f) = true
/-- a def of a class -/
structure MF (K : PySem.W.Frag) (C : Addr) (m x : Str) (st : Stmt) (f : Addr) : Prop where
  a : PySem.W.findIn K (.ref C) m = some (some (.ref f))
  i : PySem.W.isFn K (.ref f) = true
  l : ∃ oc od fd sl, K.lookup f = some ⟨oc, od, .func fd, sl⟩ ∧ ∃ kV dc pm an cd ct, fd = PySem.W.fnOf m x (defArgs st) (defBody st) (defScope st) .none kV dc pm an cd ct ∧ PySem.W.codeIn K cd x = true
  k : PySem.W.keepIn K (.ref f) = true
section
variable {K : PySem.W.Frag} {h : Heap} {mg : Str → Option Value} {x m : Str} {st : Stmt} {f C : Addr} {ps : List Str}
theorem DF.at (d : DF K x st f) (X : K.In h) (G : h.Ns mainGlobals mg) (b : ∀ (kV doc pm : Value) (an : Option Addr) (cdv ct : Value) (us : List Value), us.length = ps.length → bindArgs (PySem.W.fnOf x x (defArgs st) (defBody st) (defScope st) .none kV doc pm an cdv ct) ⟨us, []⟩ = pure (ps.zip us)) :
    ∃ f fd, At K mg x st ps f fd := by
  obtain ⟨a, ⟨oc, od, fd, sl, l, kV, dc, pm, an, cd, ct, rfl, c⟩, k⟩ := d
  have F := fun_mk (st := st) l c k
  exact ⟨f, _, F, PySem.W.mg_of X G a, F.binds b⟩
theorem MF.fn (d : MF K C m x st f) (b : ∀ (kV doc pm : Value) (an : Option Addr) (cdv ct : Value) (us : List Value), us.length = ps.length → bindArgs (PySem.W.fnOf m x (defArgs st) (defBody st) (defScope st) .none kV doc pm an cdv ct) ⟨us, []⟩ = pure (ps.zip us)) :
    ∃ fd, Fun K m x st f fd ∧ Binds K fd ps [] := by
  obtain ⟨a, i, ⟨oc, od, fd, sl, l, kV, dc, pm, an, cd, ct, rfl, c⟩, k⟩ := d
  have F := fun_mk (st := st) l c k
  exact ⟨_, F, F.binds b⟩
theorem MF.at (d : MF K C m x st f) (b : ∀ (kV doc pm : Value) (an : Option Addr) (cdv ct : Value) (us : List Value), us.length = ps.length → bindArgs (PySem.W.fnOf m x (defArgs st) (defBody st) (defScope st) .none kV doc pm an cdv ct) ⟨us, []⟩ = pure (ps.zip us)) :
    ∃ f fd, MAt K C m x st ps f fd := by
  obtain ⟨fd, F, b⟩ := d.fn b
  exact ⟨f, fd, F, ⟨d.a, d.i, d.k⟩, b⟩
end
theorem sub_self {K : PySem.W.Frag} {S : Addr} (h1 : PySem.W.subIn K (.ref S) (.type "BaseException") = some true) (h2 : PySem.W.isClsIn K S = true) (h3 : PySem.W.typeIn K (.ref S) = some (.type "type")) (h4 : PySem.W.subIn K (.ref S) (.ref S) = some true) :
    PySem.W.exmOne K (.ref S) (.ref S) = some true := by
  have e : PySem.W.kitCls K (.ref S) (.ref S) = some true := by
    have h2' : (PySem.W.clsIn K S).isSome = true := h2
    show (if ((PySem.W.clsIn K S).isSome && PySem.W.typeIn K (.ref S) == some (.type "type")) = true then PySem.W.subIn K (.ref S) (.ref S) else none) = _
    simp [h2', h3, h4]
  unfold PySem.W.exmOne
  simp [h1, e]
set_option maxHeartbeats 4000000 in
theorem all_mk {l : PySem.W.OpenLaw} {w : World} {K : PySem.W.Frag} {h : Heap} {mg : Str → Option Value} {fa C CS aC aB fS f_law f_is_great f_numbered f_divided f_reckoned f_beginnings f_summed f_greatest f_counted f_bounded f_behind f_picked f_kept f_cut f_done_one f_done_two f_done_once f_turns_word f_parts f_binding f_names_in f_free_names f_size f_copied f_sizes_of f_width_of f_named f_read f_law_alike f_law_cell f_law_name f_law_kind f_law_depth f_law_number f_law_leaf f_law_signs f_law_binder f_law_tree f_law_start f_law_many f_law_worth f_law_program f_law_reckoned f_law_of_row f_law_of_two f_law_once f_law_size f_law_cost f_law_with f_law_loop f_law_read f_law_moved f_law_each f_law_times f_R_note f_R_worth f_R_arm f_R_things f_R_turned f_R_init : Addr} {t1 t2 t3 q1 q2 q3 q4 q5 q6 : Tok} {odC odB : Option Addr} {nC nB : Nat} {slC slB : Array (Option Value)}
    {nm q : Str} {N : Addr} {bs : List Value} {sn : List Str} {sub : List Value} {ab : Bool} {col : Option Bool} {dd : Option Addr} {m0 m1 m2 m3 m5 : Option Value} (X : K.In h) (G : h.Ns mainGlobals mg) (hfa : mg "law" = some (.ref fa))
    (b_len : PySem.W.nsIn K mainGlobals "len" = some none)
    (b_isinstance : PySem.W.nsIn K mainGlobals "isinstance" = some none)
    (b_int : PySem.W.nsIn K mainGlobals "int" = some none)
    (b_bool : PySem.W.nsIn K mainGlobals "bool" = some none)
    (b_str : PySem.W.nsIn K mainGlobals "str" = some none)
    (b_list : PySem.W.nsIn K mainGlobals "list" = some none)
    (b_tuple : PySem.W.nsIn K mainGlobals "tuple" = some none)
    (b_max : PySem.W.nsIn K mainGlobals "max" = some none)
    (b_min : PySem.W.nsIn K mainGlobals "min" = some none)
    (b_sum : PySem.W.nsIn K mainGlobals "sum" = some none)
    (b_sorted : PySem.W.nsIn K mainGlobals "sorted" = some none)
    (b_set : PySem.W.nsIn K mainGlobals "set" = some none)
    (b_enumerate : PySem.W.nsIn K mainGlobals "enumerate" = some none)
    (b_zip : PySem.W.nsIn K mainGlobals "zip" = some none)
    (b_range : PySem.W.nsIn K mainGlobals "range" = some none)
    (b_dict : PySem.W.nsIn K mainGlobals "dict" = some none)
    (b_all : PySem.W.nsIn K mainGlobals "all" = some none)
    (b_abs : PySem.W.nsIn K mainGlobals "abs" = some none)
    (b_valueError : PySem.W.nsIn K mainGlobals "ValueError" = some none)
    (n_great : PySem.W.nsIn K mainGlobals "GREATEST" = some (some (.int 1000000000000000000 t1)))
    (n_things : PySem.W.nsIn K mainGlobals "MOST_THINGS" = some (some (.int 200 t2)))
    (n_turns : PySem.W.nsIn K mainGlobals "MOST_TURNS" = some (some (.int 60 t3)))
    (n_vV : PySem.W.findCls K (.type "ValueError") (.type "type") "__init__" = some (.val (.builtin "ValueError.__init__")))
    (n_aC : PySem.W.nsIn K mainGlobals "CARRIERS" = some (some (.ref aC)))
    (n_aB : PySem.W.nsIn K mainGlobals "BINDERS" = some (some (.ref aB)))
    (n_lC : K.lookup aC = some ⟨.type "tuple", odC, .seq #[.str "num" q1, .str "name" q2, .str "none" q3] nC, slC⟩)
    (n_lB : K.lookup aB = some ⟨.type "tuple", odB, .seq #[.str "let" q4, .str "each" q5, .str "times" q6] nB, slB⟩)
    (r_C : PySem.W.nsIn K mainGlobals "Reading" = some (some (.ref C)))
    (r_S : PySem.W.nsIn K mainGlobals "Stopped" = some (some (.ref CS)))
    (r_pg : PySem.W.plainGet K C Str.empty = true)
    (r_hd : PySem.W.hasDictIn K C = true)
    (r_po : PySem.W.plainOver K C = true)
    (r_sa : PySem.W.findIn K (.ref C) "__setattr__" = some (some (.builtin "object.__setattr__")))
    (r_mk : PySem.W.makesIn K C = true)
    (r_kc : PySem.W.keepIn K (.ref C) = true)
    (r_nM : PySem.W.findIn K (.ref C) "met" = some none)
    (s_x : K.lookup CS = some (excClassObj nm q CS N bs [.type "ValueError", .type "Exception", .type "BaseException", .type "object"] true sn sub ab col dd m0 m1 m2 m3 m5 "ValueError.__new__"))
    (s_sa : PySem.W.findIn K (.ref CS) "__setattr__" = some (some (.builtin "object.__setattr__")))
    (s_ga : PySem.W.findIn K (.ref CS) "__getattribute__" = some (some (.builtin "BaseException.__getattribute__")))
    (s_gg : PySem.W.findIn K (.ref CS) "__getattr__" = some none)
    (s_nW : PySem.W.findIn K (.ref CS) "word" = some none)
    (s_nP : PySem.W.findIn K (.ref CS) "place" = some none)
    (s_nT : PySem.W.findIn K (.ref CS) "turns" = some none)
    (s_ex : PySem.W.subIn K (.ref CS) (.type "BaseException") = some true)
    (s_ty : PySem.W.typeIn K (.ref CS) = some (.type "type"))
    (s_kc : PySem.W.keepIn K (.ref CS) = true)
    (s_hd : PySem.W.hasDictIn K CS = true)
    (s_ic : PySem.W.isClsIn K CS = true)
    (s_su : PySem.W.subIn K (.ref CS) (.ref CS) = some true)
    (d_is_great : DF K "is_great" s_is_great f_is_great)
    (d_numbered : DF K "numbered" s_numbered f_numbered)
    (d_divided : DF K "divided" s_divided f_divided)
    (d_reckoned : DF K "reckoned" s_reckoned f_reckoned)
    (d_beginnings : DF K "beginnings" s_beginnings f_beginnings)
    (d_summed : DF K "summed" s_summed f_summed)
    (d_greatest : DF K "greatest" s_greatest f_greatest)
    (d_counted : DF K "counted" s_counted f_counted)
    (d_bounded : DF K "bounded" s_bounded f_bounded)
    (d_behind : DF K "behind" s_behind f_behind)
    (d_picked : DF K "picked" s_picked f_picked)
    (d_kept : DF K "kept" s_kept f_kept)
    (d_cut : DF K "cut" s_cut f_cut)
    (d_done_one : DF K "done_one" s_done_one f_done_one)
    (d_done_two : DF K "done_two" s_done_two f_done_two)
    (d_done_once : DF K "done_once" s_done_once f_done_once)
    (d_turns_word : DF K "turns_word" s_turns_word f_turns_word)
    (d_parts : DF K "parts" s_parts f_parts)
    (d_binding : DF K "binding" s_binding f_binding)
    (d_names_in : DF K "names_in" s_names_in f_names_in)
    (d_free_names : DF K "free_names" s_free_names f_free_names)
    (d_size : DF K "size" s_size f_size)
    (d_copied : DF K "copied" s_copied f_copied)
    (d_sizes_of : DF K "sizes_of" s_sizes_of f_sizes_of)
    (d_width_of : DF K "width_of" s_width_of f_width_of)
    (d_named : DF K "named" s_named f_named)
    (d_read : DF K "read" s_read f_read)
    (d_law_alike : DF K "_law_alike" s_law_alike f_law_alike)
    (d_law_cell : DF K "_law_cell" s_law_cell f_law_cell)
    (d_law_name : DF K "_law_name" s_law_name f_law_name)
    (d_law_kind : DF K "_law_kind" s_law_kind f_law_kind)
    (d_law_depth : DF K "_law_depth" s_law_depth f_law_depth)
    (d_law_number : DF K "_law_number" s_law_number f_law_number)
    (d_law_leaf : DF K "_law_leaf" s_law_leaf f_law_leaf)
    (d_law_signs : DF K "_law_signs" s_law_signs f_law_signs)
    (d_law_binder : DF K "_law_binder" s_law_binder f_law_binder)
    (d_law_tree : DF K "_law_tree" s_law_tree f_law_tree)
    (d_law_start : DF K "_law_start" s_law_start f_law_start)
    (d_law_many : DF K "_law_many" s_law_many f_law_many)
    (d_law_worth : DF K "_law_worth" s_law_worth f_law_worth)
    (d_law_program : DF K "_law_program" s_law_program f_law_program)
    (d_law_reckoned : DF K "_law_reckoned" s_law_reckoned f_law_reckoned)
    (d_law_of_row : DF K "_law_of_row" s_law_of_row f_law_of_row)
    (d_law_of_two : DF K "_law_of_two" s_law_of_two f_law_of_two)
    (d_law_once : DF K "_law_once" s_law_once f_law_once)
    (d_law_size : DF K "_law_size" s_law_size f_law_size)
    (d_law_cost : DF K "_law_cost" s_law_cost f_law_cost)
    (d_law_with : DF K "_law_with" s_law_with f_law_with)
    (d_law_loop : DF K "_law_loop" s_law_loop f_law_loop)
    (d_law_read : DF K "_law_read" s_law_read f_law_read)
    (d_law_moved : DF K "_law_moved" s_law_moved f_law_moved)
    (d_law_each : DF K "_law_each" s_law_each f_law_each)
    (d_law_times : DF K "_law_times" s_law_times f_law_times)
    (d_law : DF K "law" s_law f_law)
    (e_R_init : MF K C "__init__" "Reading.__init__" s_R_init f_R_init)
    (e_R_note : MF K C "note" "Reading.note" s_R_note f_R_note)
    (e_R_worth : MF K C "worth" "Reading.worth" s_R_worth f_R_worth)
    (e_R_arm : MF K C "arm" "Reading.arm" s_R_arm f_R_arm)
    (e_R_things : MF K C "things" "Reading.things" s_R_things f_R_things)
    (e_R_turned : MF K C "turned" "Reading.turned" s_R_turned f_R_turned)
    (e_S_init : MF K CS "__init__" "Stopped.__init__" s_S_init fS)
    (s_ti : PySem.W.typeIn K (.ref fS) = some (.type "function"))
    : ∃ fd : FuncData, (∀ (s : Shared) (v : Value), BindsTo s fd ⟨[v], []⟩ [("script", v)]) ∧ ∀ base : Heap, K.In base → base.Ns mainGlobals mg → FnOk l.prog w K mg base CX0 61 fa fd ["script"] (spLaw K) := by
  have T : Tp K mg aC aB := {
    len := PySem.W.mg_none_of X G b_len
    isinstance := PySem.W.mg_none_of X G b_isinstance
    int := PySem.W.mg_none_of X G b_int
    bool := PySem.W.mg_none_of X G b_bool
    str := PySem.W.mg_none_of X G b_str
    list := PySem.W.mg_none_of X G b_list
    tuple := PySem.W.mg_none_of X G b_tuple
    max := PySem.W.mg_none_of X G b_max
    min := PySem.W.mg_none_of X G b_min
    sum := PySem.W.mg_none_of X G b_sum
    sorted := PySem.W.mg_none_of X G b_sorted
    set := PySem.W.mg_none_of X G b_set
    enumerate := PySem.W.mg_none_of X G b_enumerate
    zip := PySem.W.mg_none_of X G b_zip
    range := PySem.W.mg_none_of X G b_range
    dict := PySem.W.mg_none_of X G b_dict
    all := PySem.W.mg_none_of X G b_all
    abs := PySem.W.mg_none_of X G b_abs
    valueError := PySem.W.mg_none_of X G b_valueError
    great := ⟨_, PySem.W.mg_of X G n_great, ⟨t1, rfl⟩⟩
    things := ⟨_, PySem.W.mg_of X G n_things, ⟨t2, rfl⟩⟩
    turns := ⟨_, PySem.W.mg_of X G n_turns, ⟨t3, rfl⟩⟩
    vV := n_vV
    carriers := ⟨_, PySem.W.mg_of X G n_aC, rfl⟩
    binders := ⟨_, PySem.W.mg_of X G n_aB, rfl⟩
    carry := fun H => .inr ⟨_, _, _, n_lC, rfl, rfl, by show 3 ≤ sizeLine; decide, .cons ⟨q1, rfl⟩ (.cons ⟨q2, rfl⟩ (.cons ⟨q3, rfl⟩ .nil))⟩
    bind := fun H => .inr ⟨_, _, _, n_lB, rfl, rfl, by show 3 ≤ sizeLine; decide, .cons ⟨q4, rfl⟩ (.cons ⟨q5, rfl⟩ (.cons ⟨q6, rfl⟩ .nil))⟩ }
  have RT : RT K mg C CS := { cl := ⟨r_pg, r_hd, r_po, r_sa⟩, nM := r_nM, gR := PySem.W.mg_of X G r_C, gS := PySem.W.mg_of X G r_S, oS := ⟨⟨nm, q, N, bs, _, sn, sub, ab, col, dd, m0, m1, m2, m3, m5, s_x, by decide +kernel⟩, s_sa, s_ex, s_ty, s_kc⟩, xS := ⟨s_ga, s_gg, s_ex, s_hd⟩, nW := s_nW, nP := s_nP, nT := s_nT, te := sub_self s_ex s_ic s_ty s_su }
  have A : Tops K mg C := {
    is_great := d_is_great.at X G fun _ _ _ _ _ _ us hl => match us, hl with | [_], _ => rfl
    numbered := d_numbered.at X G fun _ _ _ _ _ _ us hl => match us, hl with | [_], _ => rfl
    divided := d_divided.at X G fun _ _ _ _ _ _ us hl => match us, hl with | [_, _, _], _ => rfl
    reckoned := d_reckoned.at X G fun _ _ _ _ _ _ us hl => match us, hl with | [_, _, _], _ => rfl
    beginnings := d_beginnings.at X G fun _ _ _ _ _ _ us hl => match us, hl with | [_], _ => rfl
    summed := d_summed.at X G fun _ _ _ _ _ _ us hl => match us, hl with | [_, _], _ => rfl
    greatest := d_greatest.at X G fun _ _ _ _ _ _ us hl => match us, hl with | [_], _ => rfl
    counted := d_counted.at X G fun _ _ _ _ _ _ us hl => match us, hl with | [_], _ => rfl
    bounded := d_bounded.at X G fun _ _ _ _ _ _ us hl => match us, hl with | [_], _ => rfl
    behind := d_behind.at X G fun _ _ _ _ _ _ us hl => match us, hl with | [_], _ => rfl
    picked := d_picked.at X G fun _ _ _ _ _ _ us hl => match us, hl with | [_, _], _ => rfl
    kept := d_kept.at X G fun _ _ _ _ _ _ us hl => match us, hl with | [_, _], _ => rfl
    cut := d_cut.at X G fun _ _ _ _ _ _ us hl => match us, hl with | [_, _], _ => rfl
    done_one := d_done_one.at X G fun _ _ _ _ _ _ us hl => match us, hl with | [_, _], _ => rfl
    done_two := d_done_two.at X G fun _ _ _ _ _ _ us hl => match us, hl with | [_, _, _], _ => rfl
    done_once := d_done_once.at X G fun _ _ _ _ _ _ us hl => match us, hl with | [_, _], _ => rfl
    turns_word := d_turns_word.at X G fun _ _ _ _ _ _ us hl => match us, hl with | [_], _ => rfl
    parts := d_parts.at X G fun _ _ _ _ _ _ us hl => match us, hl with | [_], _ => rfl
    binding := d_binding.at X G fun _ _ _ _ _ _ us hl => match us, hl with | [_], _ => rfl
    names_in := d_names_in.at X G fun _ _ _ _ _ _ us hl => match us, hl with | [_], _ => rfl
    free_names := d_free_names.at X G fun _ _ _ _ _ _ us hl => match us, hl with | [_], _ => rfl
    size := d_size.at X G fun _ _ _ _ _ _ us hl => match us, hl with | [_], _ => rfl
    copied := d_copied.at X G fun _ _ _ _ _ _ us hl => match us, hl with | [_], _ => rfl
    sizes_of := d_sizes_of.at X G fun _ _ _ _ _ _ us hl => match us, hl with | [_, _], _ => rfl
    width_of := d_width_of.at X G fun _ _ _ _ _ _ us hl => match us, hl with | [_, _, _], _ => rfl
    named := d_named.at X G fun _ _ _ _ _ _ us hl => match us, hl with | [_, _], _ => rfl
    read := d_read.at X G fun _ _ _ _ _ _ us hl => match us, hl with | [_, _], _ => rfl
    law_alike := d_law_alike.at X G fun _ _ _ _ _ _ us hl => match us, hl with | [_, _], _ => rfl
    law_cell := d_law_cell.at X G fun _ _ _ _ _ _ us hl => match us, hl with | [_], _ => rfl
    law_name := d_law_name.at X G fun _ _ _ _ _ _ us hl => match us, hl with | [_, _, _], _ => rfl
    law_kind := d_law_kind.at X G fun _ _ _ _ _ _ us hl => match us, hl with | [_, _], _ => rfl
    law_depth := d_law_depth.at X G fun _ _ _ _ _ _ us hl => match us, hl with | [_], _ => rfl
    law_number := d_law_number.at X G fun _ _ _ _ _ _ us hl => match us, hl with | [_], _ => rfl
    law_leaf := d_law_leaf.at X G fun _ _ _ _ _ _ us hl => match us, hl with | [_, _, _], _ => rfl
    law_signs := d_law_signs.at X G fun _ _ _ _ _ _ us hl => match us, hl with | [_, _], _ => rfl
    law_binder := d_law_binder.at X G fun _ _ _ _ _ _ us hl => match us, hl with | [_, _, _, _, _, _], _ => rfl
    law_tree := d_law_tree.at X G fun _ _ _ _ _ _ us hl => match us, hl with | [_, _, _, _], _ => rfl
    law_start := d_law_start.at X G fun _ _ _ _ _ _ us hl => match us, hl with | [_], _ => rfl
    law_many := d_law_many.at X G fun _ _ _ _ _ _ us hl => match us, hl with | [_], _ => rfl
    law_worth := d_law_worth.at X G fun _ _ _ _ _ _ us hl => match us, hl with | [_, _, _], _ => rfl
    law_program := d_law_program.at X G fun _ _ _ _ _ _ us hl => match us, hl with | [_, _], _ => rfl
    law_reckoned := d_law_reckoned.at X G fun _ _ _ _ _ _ us hl => match us, hl with | [_, _, _], _ => rfl
    law_of_row := d_law_of_row.at X G fun _ _ _ _ _ _ us hl => match us, hl with | [_, _], _ => rfl
    law_of_two := d_law_of_two.at X G fun _ _ _ _ _ _ us hl => match us, hl with | [_, _, _], _ => rfl
    law_once := d_law_once.at X G fun _ _ _ _ _ _ us hl => match us, hl with | [_, _], _ => rfl
    law_size := d_law_size.at X G fun _ _ _ _ _ _ us hl => match us, hl with | [_], _ => rfl
    law_cost := d_law_cost.at X G fun _ _ _ _ _ _ us hl => match us, hl with | [_, _, _], _ => rfl
    law_with := d_law_with.at X G fun _ _ _ _ _ _ us hl => match us, hl with | [_, _, _], _ => rfl
    law_loop := d_law_loop.at X G fun _ _ _ _ _ _ us hl => match us, hl with | [_, _, _, _, _], _ => rfl
    law_read := d_law_read.at X G fun _ _ _ _ _ _ us hl => match us, hl with | [_, _, _, _, _], _ => rfl
    law_moved := d_law_moved.at X G fun _ _ _ _ _ _ us hl => match us, hl with | [_, _, _], _ => rfl
    law_each := d_law_each.at X G fun _ _ _ _ _ _ us hl => match us, hl with | [_, _, _, _], _ => rfl
    law_times := d_law_times.at X G fun _ _ _ _ _ _ us hl => match us, hl with | [_, _, _, _, _], _ => rfl
    R_note := e_R_note.at fun _ _ _ _ _ _ us hl => match us, hl with | [_, _, _, _], _ => rfl
    R_worth := e_R_worth.at fun _ _ _ _ _ _ us hl => match us, hl with | [_, _, _, _, _, _], _ => rfl
    R_arm := e_R_arm.at fun _ _ _ _ _ _ us hl => match us, hl with | [_, _, _, _, _, _], _ => rfl
    R_things := e_R_things.at fun _ _ _ _ _ _ us hl => match us, hl with | [_, _, _, _, _, _], _ => rfl
    R_turned := e_R_turned.at fun _ _ _ _ _ _ us hl => match us, hl with | [_, _, _, _, _, _], _ => rfl
  }
  obtain ⟨dS, FS, bS⟩ := e_S_init.fn (ps := p_S_init) fun _ _ _ _ _ _ us hl => match us, hl with | [_, _, _, _], _ => rfl
  obtain ⟨dR, FR, bR⟩ := e_R_init.fn (ps := p_R_init) fun _ _ _ _ _ _ us hl => match us, hl with | [_], _ => rfl
  obtain ⟨a, ⟨oc, od, fd, sl, lk, kV, dc, pm, an, cd, ct, rfl, c⟩, k⟩ := d_law
  have e := hfa.symm.trans (PySem.W.mg_of X G a)
  cases e
  have FL := fun_mk (st := s_law) lk c k
  have bL : Binds K _ p_law [] := FL.binds fun _ _ _ _ _ _ us hl => match us, hl with | [_], _ => rfl
  refine ⟨PySem.W.fnOf "law" "law" (defArgs s_law) (defBody s_law) (defScope s_law) .none kV dc pm an cd ct, fun s v => .of_eq rfl, fun base _ _ => ?_⟩
  exact law_ok (aC := aC) (aB := aB) T { toRT := RT, pS := ⟨fS, dS, fn_S_init T RT FS, e_S_init.a, s_ti, bS⟩, pR := ⟨f_R_init, dR, fn_R_init T RT FR, ⟨r_mk, e_R_init.a, e_R_init.i, r_kc⟩, bR⟩ } A ⟨FL, PySem.W.mg_of X G a, bL⟩
theorem walk {l : PySem.W.OpenLaw} {q : Program} {loose : List Str} {XP : (Str → Option Value) → Heap → Prop} {YP : World → Heap → Prop} {d : DefRec} {K : Params → PySem.W.Frag} (hn : l.most = some 63) (hdf : d.params.defaults = [])
    (hY : ∀ (w : World) (h : Heap), YP w h → (K w.params).In h)
    (F : ∀ (w : World) (mg : Str → Option Value) (fa : Addr) (h : Heap), (K w.params).In h → h.Ns mainGlobals mg → mg d.name = some (.ref fa) →
      ∃ fd : FuncData, (∀ (s : Shared) (u : Value), BindsTo s fd ⟨[u], []⟩ [("script", u)]) ∧ ∀ base : Heap, (K w.params).In base → base.Ns mainGlobals mg → FnOk l.prog w (K w.params) mg base CX0 61 fa fd ["script"] (spLaw (K w.params))) :
    PySem.W.WalkO q loose XP YP l.row.toRowW d [] (fun f vs => PySem.call f vs) :=
  L2.walk_of (n := 63) (k := 61) (x := "script") (CX := fun _ => CX0) (sp := fun w => spLaw (K w.params)) hn (by decide) hdf ⟨rfl, by decide, by decide⟩ hY F (fun _ _ a ns hl _ hS => ⟨a, ns, rfl, hS, hl, fun _ => rfl⟩) fun _ _ _ _ _ z => z
end Br
open PySem PySem.W PyProof.Rows
set_option maxRecDepth 100000 in
set_option maxHeartbeats 0 in
theorem PySem.Challenge.cw_broadrow_k20_whole_reading_by_parts_holds : PySem.Challenge.rw_broadrow_k20_whole_reading_by_parts.Holds := by
  w_on; o_law; k_head; (case hw => w_witness2)
  k_fill
  refine Br.walk (l := PySem.Challenge.rw_broadrow_k20_whole_reading_by_parts) rfl rfl (fun w h Y => PySem.W.kIn_of Y) ?F
  case F =>
    intro w mg fa h KX G hmg
    refine' Br.all_mk KX G hmg ?b_len ?b_isinstance ?b_int ?b_bool ?b_str ?b_list ?b_tuple ?b_max ?b_min ?b_sum ?b_sorted ?b_set ?b_enumerate ?b_zip ?b_range ?b_dict ?b_all ?b_abs ?b_valueError ?n_great ?n_things ?n_turns ?n_vV ?n_aC ?n_aB ?n_lC ?n_lB ?r_C ?r_S ?r_pg ?r_hd ?r_po ?r_sa ?r_mk ?r_kc ?r_nM ?s_x ?s_sa ?s_ga ?s_gg ?s_nW ?s_nP ?s_nT ?s_ex ?s_ty ?s_kc ?s_hd ?s_ic ?s_su ?d_is_great ?d_numbered ?d_divided ?d_reckoned ?d_beginnings ?d_summed ?d_greatest ?d_counted ?d_bounded ?d_behind ?d_picked ?d_kept ?d_cut ?d_done_one ?d_done_two ?d_done_once ?d_turns_word ?d_parts ?d_binding ?d_names_in ?d_free_names ?d_size ?d_copied ?d_sizes_of ?d_width_of ?d_named ?d_read ?d_law_alike ?d_law_cell ?d_law_name ?d_law_kind ?d_law_depth ?d_law_number ?d_law_leaf ?d_law_signs ?d_law_binder ?d_law_tree ?d_law_start ?d_law_many ?d_law_worth ?d_law_program ?d_law_reckoned ?d_law_of_row ?d_law_of_two ?d_law_once ?d_law_size ?d_law_cost ?d_law_with ?d_law_loop ?d_law_read ?d_law_moved ?d_law_each ?d_law_times ?d_law ?e_R_init ?e_R_note ?e_R_worth ?e_R_arm ?e_R_things ?e_R_turned ?e_S_init ?s_ti
    (case b_len => k_is)
    (case b_isinstance => k_is)
    (case b_int => k_is)
    (case b_bool => k_is)
    (case b_str => k_is)
    (case b_list => k_is)
    (case b_tuple => k_is)
    (case b_max => k_is)
    (case b_min => k_is)
    (case b_sum => k_is)
    (case b_sorted => k_is)
    (case b_set => k_is)
    (case b_enumerate => k_is)
    (case b_zip => k_is)
    (case b_range => k_is)
    (case b_dict => k_is)
    (case b_all => k_is)
    (case b_abs => k_is)
    (case b_valueError => k_is)
    (case n_great => k_is)
    (case n_things => k_is)
    (case n_turns => k_is)
    (case n_vV => k_is)
    (case n_aC => k_is)
    (case n_aB => k_is)
    (case n_lC => first | k_is | (refine' Eq.trans ?pp ?qq; (case pp => k_is); (case qq => rfl)) | (refine' Eq.trans ?pq ?qp; (case pq => k_is); (case qp => rfl)) | k_is)
    (case n_lB => first | k_is | (refine' Eq.trans ?pp ?qq; (case pp => k_is); (case qq => rfl)) | (refine' Eq.trans ?pq ?qp; (case pq => k_is); (case qp => rfl)) | k_is)
    (case r_C => k_is)
    (case r_S => k_is)
    (case r_pg => k_is)
    (case r_hd => k_is)
    (case r_po => k_is)
    (case r_sa => k_is)
    (case r_mk => k_is)
    (case r_kc => k_is)
    (case r_nM => k_is)
    (case s_x => first | k_is | (refine' Eq.trans ?pp ?qq; (case pp => k_is); (case qq => rfl)) | (refine' Eq.trans ?pq ?qp; (case pq => k_is); (case qp => rfl)) | k_is)
    (case s_sa => k_is)
    (case s_ga => k_is)
    (case s_gg => k_is)
    (case s_nW => k_is)
    (case s_nP => k_is)
    (case s_nT => k_is)
    (case s_ex => k_is)
    (case s_ty => k_is)
    (case s_kc => k_is)
    (case s_hd => k_is)
    (case s_ic => k_is)
    (case s_su => first | rfl | k_is)
    (case d_is_great => refine' ⟨?a, ⟨_, _, _, _, ?l, ⟨_, _, _, _, _, _, ?e, ?c⟩⟩, ?k⟩; (case a => k_is); (case l => first | k_is | (refine' Eq.trans ?pp ?qq; (case pp => k_is); (case qq => rfl)) | (refine' Eq.trans ?pq ?qp; (case pq => k_is); (case qp => rfl)) | k_is); (case e => rfl); (case c => k_is); (case k => k_is))
    (case d_numbered => refine' ⟨?a, ⟨_, _, _, _, ?l, ⟨_, _, _, _, _, _, ?e, ?c⟩⟩, ?k⟩; (case a => k_is); (case l => first | k_is | (refine' Eq.trans ?pp ?qq; (case pp => k_is); (case qq => rfl)) | (refine' Eq.trans ?pq ?qp; (case pq => k_is); (case qp => rfl)) | k_is); (case e => rfl); (case c => k_is); (case k => k_is))
    (case d_divided => refine' ⟨?a, ⟨_, _, _, _, ?l, ⟨_, _, _, _, _, _, ?e, ?c⟩⟩, ?k⟩; (case a => k_is); (case l => first | k_is | (refine' Eq.trans ?pp ?qq; (case pp => k_is); (case qq => rfl)) | (refine' Eq.trans ?pq ?qp; (case pq => k_is); (case qp => rfl)) | k_is); (case e => rfl); (case c => k_is); (case k => k_is))
    (case d_reckoned => refine' ⟨?a, ⟨_, _, _, _, ?l, ⟨_, _, _, _, _, _, ?e, ?c⟩⟩, ?k⟩; (case a => k_is); (case l => first | k_is | (refine' Eq.trans ?pp ?qq; (case pp => k_is); (case qq => rfl)) | (refine' Eq.trans ?pq ?qp; (case pq => k_is); (case qp => rfl)) | k_is); (case e => rfl); (case c => k_is); (case k => k_is))
    (case d_beginnings => refine' ⟨?a, ⟨_, _, _, _, ?l, ⟨_, _, _, _, _, _, ?e, ?c⟩⟩, ?k⟩; (case a => k_is); (case l => first | k_is | (refine' Eq.trans ?pp ?qq; (case pp => k_is); (case qq => rfl)) | (refine' Eq.trans ?pq ?qp; (case pq => k_is); (case qp => rfl)) | k_is); (case e => rfl); (case c => k_is); (case k => k_is))
    (case d_summed => refine' ⟨?a, ⟨_, _, _, _, ?l, ⟨_, _, _, _, _, _, ?e, ?c⟩⟩, ?k⟩; (case a => k_is); (case l => first | k_is | (refine' Eq.trans ?pp ?qq; (case pp => k_is); (case qq => rfl)) | (refine' Eq.trans ?pq ?qp; (case pq => k_is); (case qp => rfl)) | k_is); (case e => rfl); (case c => k_is); (case k => k_is))
    (case d_greatest => refine' ⟨?a, ⟨_, _, _, _, ?l, ⟨_, _, _, _, _, _, ?e, ?c⟩⟩, ?k⟩; (case a => k_is); (case l => first | k_is | (refine' Eq.trans ?pp ?qq; (case pp => k_is); (case qq => rfl)) | (refine' Eq.trans ?pq ?qp; (case pq => k_is); (case qp => rfl)) | k_is); (case e => rfl); (case c => k_is); (case k => k_is))
    (case d_counted => refine' ⟨?a, ⟨_, _, _, _, ?l, ⟨_, _, _, _, _, _, ?e, ?c⟩⟩, ?k⟩; (case a => k_is); (case l => first | k_is | (refine' Eq.trans ?pp ?qq; (case pp => k_is); (case qq => rfl)) | (refine' Eq.trans ?pq ?qp; (case pq => k_is); (case qp => rfl)) | k_is); (case e => rfl); (case c => k_is); (case k => k_is))
    (case d_bounded => refine' ⟨?a, ⟨_, _, _, _, ?l, ⟨_, _, _, _, _, _, ?e, ?c⟩⟩, ?k⟩; (case a => k_is); (case l => first | k_is | (refine' Eq.trans ?pp ?qq; (case pp => k_is); (case qq => rfl)) | (refine' Eq.trans ?pq ?qp; (case pq => k_is); (case qp => rfl)) | k_is); (case e => rfl); (case c => k_is); (case k => k_is))
    (case d_behind => refine' ⟨?a, ⟨_, _, _, _, ?l, ⟨_, _, _, _, _, _, ?e, ?c⟩⟩, ?k⟩; (case a => k_is); (case l => first | k_is | (refine' Eq.trans ?pp ?qq; (case pp => k_is); (case qq => rfl)) | (refine' Eq.trans ?pq ?qp; (case pq => k_is); (case qp => rfl)) | k_is); (case e => rfl); (case c => k_is); (case k => k_is))
    (case d_picked => refine' ⟨?a, ⟨_, _, _, _, ?l, ⟨_, _, _, _, _, _, ?e, ?c⟩⟩, ?k⟩; (case a => k_is); (case l => first | k_is | (refine' Eq.trans ?pp ?qq; (case pp => k_is); (case qq => rfl)) | (refine' Eq.trans ?pq ?qp; (case pq => k_is); (case qp => rfl)) | k_is); (case e => rfl); (case c => k_is); (case k => k_is))
    (case d_kept => refine' ⟨?a, ⟨_, _, _, _, ?l, ⟨_, _, _, _, _, _, ?e, ?c⟩⟩, ?k⟩; (case a => k_is); (case l => first | k_is | (refine' Eq.trans ?pp ?qq; (case pp => k_is); (case qq => rfl)) | (refine' Eq.trans ?pq ?qp; (case pq => k_is); (case qp => rfl)) | k_is); (case e => rfl); (case c => k_is); (case k => k_is))
    (case d_cut => refine' ⟨?a, ⟨_, _, _, _, ?l, ⟨_, _, _, _, _, _, ?e, ?c⟩⟩, ?k⟩; (case a => k_is); (case l => first | k_is | (refine' Eq.trans ?pp ?qq; (case pp => k_is); (case qq => rfl)) | (refine' Eq.trans ?pq ?qp; (case pq => k_is); (case qp => rfl)) | k_is); (case e => rfl); (case c => k_is); (case k => k_is))
    (case d_done_one => refine' ⟨?a, ⟨_, _, _, _, ?l, ⟨_, _, _, _, _, _, ?e, ?c⟩⟩, ?k⟩; (case a => k_is); (case l => first | k_is | (refine' Eq.trans ?pp ?qq; (case pp => k_is); (case qq => rfl)) | (refine' Eq.trans ?pq ?qp; (case pq => k_is); (case qp => rfl)) | k_is); (case e => rfl); (case c => k_is); (case k => k_is))
    (case d_done_two => refine' ⟨?a, ⟨_, _, _, _, ?l, ⟨_, _, _, _, _, _, ?e, ?c⟩⟩, ?k⟩; (case a => k_is); (case l => first | k_is | (refine' Eq.trans ?pp ?qq; (case pp => k_is); (case qq => rfl)) | (refine' Eq.trans ?pq ?qp; (case pq => k_is); (case qp => rfl)) | k_is); (case e => rfl); (case c => k_is); (case k => k_is))
    (case d_done_once => refine' ⟨?a, ⟨_, _, _, _, ?l, ⟨_, _, _, _, _, _, ?e, ?c⟩⟩, ?k⟩; (case a => k_is); (case l => first | k_is | (refine' Eq.trans ?pp ?qq; (case pp => k_is); (case qq => rfl)) | (refine' Eq.trans ?pq ?qp; (case pq => k_is); (case qp => rfl)) | k_is); (case e => rfl); (case c => k_is); (case k => k_is))
    (case d_turns_word => refine' ⟨?a, ⟨_, _, _, _, ?l, ⟨_, _, _, _, _, _, ?e, ?c⟩⟩, ?k⟩; (case a => k_is); (case l => first | k_is | (refine' Eq.trans ?pp ?qq; (case pp => k_is); (case qq => rfl)) | (refine' Eq.trans ?pq ?qp; (case pq => k_is); (case qp => rfl)) | k_is); (case e => rfl); (case c => k_is); (case k => k_is))
    (case d_parts => refine' ⟨?a, ⟨_, _, _, _, ?l, ⟨_, _, _, _, _, _, ?e, ?c⟩⟩, ?k⟩; (case a => k_is); (case l => first | k_is | (refine' Eq.trans ?pp ?qq; (case pp => k_is); (case qq => rfl)) | (refine' Eq.trans ?pq ?qp; (case pq => k_is); (case qp => rfl)) | k_is); (case e => rfl); (case c => k_is); (case k => k_is))
    (case d_binding => refine' ⟨?a, ⟨_, _, _, _, ?l, ⟨_, _, _, _, _, _, ?e, ?c⟩⟩, ?k⟩; (case a => k_is); (case l => first | k_is | (refine' Eq.trans ?pp ?qq; (case pp => k_is); (case qq => rfl)) | (refine' Eq.trans ?pq ?qp; (case pq => k_is); (case qp => rfl)) | k_is); (case e => rfl); (case c => k_is); (case k => k_is))
    (case d_names_in => refine' ⟨?a, ⟨_, _, _, _, ?l, ⟨_, _, _, _, _, _, ?e, ?c⟩⟩, ?k⟩; (case a => k_is); (case l => first | k_is | (refine' Eq.trans ?pp ?qq; (case pp => k_is); (case qq => rfl)) | (refine' Eq.trans ?pq ?qp; (case pq => k_is); (case qp => rfl)) | k_is); (case e => rfl); (case c => k_is); (case k => k_is))
    (case d_free_names => refine' ⟨?a, ⟨_, _, _, _, ?l, ⟨_, _, _, _, _, _, ?e, ?c⟩⟩, ?k⟩; (case a => k_is); (case l => first | k_is | (refine' Eq.trans ?pp ?qq; (case pp => k_is); (case qq => rfl)) | (refine' Eq.trans ?pq ?qp; (case pq => k_is); (case qp => rfl)) | k_is); (case e => rfl); (case c => k_is); (case k => k_is))
    (case d_size => refine' ⟨?a, ⟨_, _, _, _, ?l, ⟨_, _, _, _, _, _, ?e, ?c⟩⟩, ?k⟩; (case a => k_is); (case l => first | k_is | (refine' Eq.trans ?pp ?qq; (case pp => k_is); (case qq => rfl)) | (refine' Eq.trans ?pq ?qp; (case pq => k_is); (case qp => rfl)) | k_is); (case e => rfl); (case c => k_is); (case k => k_is))
    (case d_copied => refine' ⟨?a, ⟨_, _, _, _, ?l, ⟨_, _, _, _, _, _, ?e, ?c⟩⟩, ?k⟩; (case a => k_is); (case l => first | k_is | (refine' Eq.trans ?pp ?qq; (case pp => k_is); (case qq => rfl)) | (refine' Eq.trans ?pq ?qp; (case pq => k_is); (case qp => rfl)) | k_is); (case e => rfl); (case c => k_is); (case k => k_is))
    (case d_sizes_of => refine' ⟨?a, ⟨_, _, _, _, ?l, ⟨_, _, _, _, _, _, ?e, ?c⟩⟩, ?k⟩; (case a => k_is); (case l => first | k_is | (refine' Eq.trans ?pp ?qq; (case pp => k_is); (case qq => rfl)) | (refine' Eq.trans ?pq ?qp; (case pq => k_is); (case qp => rfl)) | k_is); (case e => rfl); (case c => k_is); (case k => k_is))
    (case d_width_of => refine' ⟨?a, ⟨_, _, _, _, ?l, ⟨_, _, _, _, _, _, ?e, ?c⟩⟩, ?k⟩; (case a => k_is); (case l => first | k_is | (refine' Eq.trans ?pp ?qq; (case pp => k_is); (case qq => rfl)) | (refine' Eq.trans ?pq ?qp; (case pq => k_is); (case qp => rfl)) | k_is); (case e => rfl); (case c => k_is); (case k => k_is))
    (case d_named => refine' ⟨?a, ⟨_, _, _, _, ?l, ⟨_, _, _, _, _, _, ?e, ?c⟩⟩, ?k⟩; (case a => k_is); (case l => first | k_is | (refine' Eq.trans ?pp ?qq; (case pp => k_is); (case qq => rfl)) | (refine' Eq.trans ?pq ?qp; (case pq => k_is); (case qp => rfl)) | k_is); (case e => rfl); (case c => k_is); (case k => k_is))
    (case d_read => refine' ⟨?a, ⟨_, _, _, _, ?l, ⟨_, _, _, _, _, _, ?e, ?c⟩⟩, ?k⟩; (case a => k_is); (case l => first | k_is | (refine' Eq.trans ?pp ?qq; (case pp => k_is); (case qq => rfl)) | (refine' Eq.trans ?pq ?qp; (case pq => k_is); (case qp => rfl)) | k_is); (case e => rfl); (case c => k_is); (case k => k_is))
    (case d_law_alike => refine' ⟨?a, ⟨_, _, _, _, ?l, ⟨_, _, _, _, _, _, ?e, ?c⟩⟩, ?k⟩; (case a => k_is); (case l => first | k_is | (refine' Eq.trans ?pp ?qq; (case pp => k_is); (case qq => rfl)) | (refine' Eq.trans ?pq ?qp; (case pq => k_is); (case qp => rfl)) | k_is); (case e => rfl); (case c => k_is); (case k => k_is))
    (case d_law_cell => refine' ⟨?a, ⟨_, _, _, _, ?l, ⟨_, _, _, _, _, _, ?e, ?c⟩⟩, ?k⟩; (case a => k_is); (case l => first | k_is | (refine' Eq.trans ?pp ?qq; (case pp => k_is); (case qq => rfl)) | (refine' Eq.trans ?pq ?qp; (case pq => k_is); (case qp => rfl)) | k_is); (case e => rfl); (case c => k_is); (case k => k_is))
    (case d_law_name => refine' ⟨?a, ⟨_, _, _, _, ?l, ⟨_, _, _, _, _, _, ?e, ?c⟩⟩, ?k⟩; (case a => k_is); (case l => first | k_is | (refine' Eq.trans ?pp ?qq; (case pp => k_is); (case qq => rfl)) | (refine' Eq.trans ?pq ?qp; (case pq => k_is); (case qp => rfl)) | k_is); (case e => rfl); (case c => k_is); (case k => k_is))
    (case d_law_kind => refine' ⟨?a, ⟨_, _, _, _, ?l, ⟨_, _, _, _, _, _, ?e, ?c⟩⟩, ?k⟩; (case a => k_is); (case l => first | k_is | (refine' Eq.trans ?pp ?qq; (case pp => k_is); (case qq => rfl)) | (refine' Eq.trans ?pq ?qp; (case pq => k_is); (case qp => rfl)) | k_is); (case e => rfl); (case c => k_is); (case k => k_is))
    (case d_law_depth => refine' ⟨?a, ⟨_, _, _, _, ?l, ⟨_, _, _, _, _, _, ?e, ?c⟩⟩, ?k⟩; (case a => k_is); (case l => first | k_is | (refine' Eq.trans ?pp ?qq; (case pp => k_is); (case qq => rfl)) | (refine' Eq.trans ?pq ?qp; (case pq => k_is); (case qp => rfl)) | k_is); (case e => rfl); (case c => k_is); (case k => k_is))
    (case d_law_number => refine' ⟨?a, ⟨_, _, _, _, ?l, ⟨_, _, _, _, _, _, ?e, ?c⟩⟩, ?k⟩; (case a => k_is); (case l => first | k_is | (refine' Eq.trans ?pp ?qq; (case pp => k_is); (case qq => rfl)) | (refine' Eq.trans ?pq ?qp; (case pq => k_is); (case qp => rfl)) | k_is); (case e => rfl); (case c => k_is); (case k => k_is))
    (case d_law_leaf => refine' ⟨?a, ⟨_, _, _, _, ?l, ⟨_, _, _, _, _, _, ?e, ?c⟩⟩, ?k⟩; (case a => k_is); (case l => first | k_is | (refine' Eq.trans ?pp ?qq; (case pp => k_is); (case qq => rfl)) | (refine' Eq.trans ?pq ?qp; (case pq => k_is); (case qp => rfl)) | k_is); (case e => rfl); (case c => k_is); (case k => k_is))
    (case d_law_signs => refine' ⟨?a, ⟨_, _, _, _, ?l, ⟨_, _, _, _, _, _, ?e, ?c⟩⟩, ?k⟩; (case a => k_is); (case l => first | k_is | (refine' Eq.trans ?pp ?qq; (case pp => k_is); (case qq => rfl)) | (refine' Eq.trans ?pq ?qp; (case pq => k_is); (case qp => rfl)) | k_is); (case e => rfl); (case c => k_is); (case k => k_is))
    (case d_law_binder => refine' ⟨?a, ⟨_, _, _, _, ?l, ⟨_, _, _, _, _, _, ?e, ?c⟩⟩, ?k⟩; (case a => k_is); (case l => first | k_is | (refine' Eq.trans ?pp ?qq; (case pp => k_is); (case qq => rfl)) | (refine' Eq.trans ?pq ?qp; (case pq => k_is); (case qp => rfl)) | k_is); (case e => rfl); (case c => k_is); (case k => k_is))
    (case d_law_tree => refine' ⟨?a, ⟨_, _, _, _, ?l, ⟨_, _, _, _, _, _, ?e, ?c⟩⟩, ?k⟩; (case a => k_is); (case l => first | k_is | (refine' Eq.trans ?pp ?qq; (case pp => k_is); (case qq => rfl)) | (refine' Eq.trans ?pq ?qp; (case pq => k_is); (case qp => rfl)) | k_is); (case e => rfl); (case c => k_is); (case k => k_is))
    (case d_law_start => refine' ⟨?a, ⟨_, _, _, _, ?l, ⟨_, _, _, _, _, _, ?e, ?c⟩⟩, ?k⟩; (case a => k_is); (case l => first | k_is | (refine' Eq.trans ?pp ?qq; (case pp => k_is); (case qq => rfl)) | (refine' Eq.trans ?pq ?qp; (case pq => k_is); (case qp => rfl)) | k_is); (case e => rfl); (case c => k_is); (case k => k_is))
    (case d_law_many => refine' ⟨?a, ⟨_, _, _, _, ?l, ⟨_, _, _, _, _, _, ?e, ?c⟩⟩, ?k⟩; (case a => k_is); (case l => first | k_is | (refine' Eq.trans ?pp ?qq; (case pp => k_is); (case qq => rfl)) | (refine' Eq.trans ?pq ?qp; (case pq => k_is); (case qp => rfl)) | k_is); (case e => rfl); (case c => k_is); (case k => k_is))
    (case d_law_worth => refine' ⟨?a, ⟨_, _, _, _, ?l, ⟨_, _, _, _, _, _, ?e, ?c⟩⟩, ?k⟩; (case a => k_is); (case l => first | k_is | (refine' Eq.trans ?pp ?qq; (case pp => k_is); (case qq => rfl)) | (refine' Eq.trans ?pq ?qp; (case pq => k_is); (case qp => rfl)) | k_is); (case e => rfl); (case c => k_is); (case k => k_is))
    (case d_law_program => refine' ⟨?a, ⟨_, _, _, _, ?l, ⟨_, _, _, _, _, _, ?e, ?c⟩⟩, ?k⟩; (case a => k_is); (case l => first | k_is | (refine' Eq.trans ?pp ?qq; (case pp => k_is); (case qq => rfl)) | (refine' Eq.trans ?pq ?qp; (case pq => k_is); (case qp => rfl)) | k_is); (case e => rfl); (case c => k_is); (case k => k_is))
    (case d_law_reckoned => refine' ⟨?a, ⟨_, _, _, _, ?l, ⟨_, _, _, _, _, _, ?e, ?c⟩⟩, ?k⟩; (case a => k_is); (case l => first | k_is | (refine' Eq.trans ?pp ?qq; (case pp => k_is); (case qq => rfl)) | (refine' Eq.trans ?pq ?qp; (case pq => k_is); (case qp => rfl)) | k_is); (case e => rfl); (case c => k_is); (case k => k_is))
    (case d_law_of_row => refine' ⟨?a, ⟨_, _, _, _, ?l, ⟨_, _, _, _, _, _, ?e, ?c⟩⟩, ?k⟩; (case a => k_is); (case l => first | k_is | (refine' Eq.trans ?pp ?qq; (case pp => k_is); (case qq => rfl)) | (refine' Eq.trans ?pq ?qp; (case pq => k_is); (case qp => rfl)) | k_is); (case e => rfl); (case c => k_is); (case k => k_is))
    (case d_law_of_two => refine' ⟨?a, ⟨_, _, _, _, ?l, ⟨_, _, _, _, _, _, ?e, ?c⟩⟩, ?k⟩; (case a => k_is); (case l => first | k_is | (refine' Eq.trans ?pp ?qq; (case pp => k_is); (case qq => rfl)) | (refine' Eq.trans ?pq ?qp; (case pq => k_is); (case qp => rfl)) | k_is); (case e => rfl); (case c => k_is); (case k => k_is))
    (case d_law_once => refine' ⟨?a, ⟨_, _, _, _, ?l, ⟨_, _, _, _, _, _, ?e, ?c⟩⟩, ?k⟩; (case a => k_is); (case l => first | k_is | (refine' Eq.trans ?pp ?qq; (case pp => k_is); (case qq => rfl)) | (refine' Eq.trans ?pq ?qp; (case pq => k_is); (case qp => rfl)) | k_is); (case e => rfl); (case c => k_is); (case k => k_is))
    (case d_law_size => refine' ⟨?a, ⟨_, _, _, _, ?l, ⟨_, _, _, _, _, _, ?e, ?c⟩⟩, ?k⟩; (case a => k_is); (case l => first | k_is | (refine' Eq.trans ?pp ?qq; (case pp => k_is); (case qq => rfl)) | (refine' Eq.trans ?pq ?qp; (case pq => k_is); (case qp => rfl)) | k_is); (case e => rfl); (case c => k_is); (case k => k_is))
    (case d_law_cost => refine' ⟨?a, ⟨_, _, _, _, ?l, ⟨_, _, _, _, _, _, ?e, ?c⟩⟩, ?k⟩; (case a => k_is); (case l => first | k_is | (refine' Eq.trans ?pp ?qq; (case pp => k_is); (case qq => rfl)) | (refine' Eq.trans ?pq ?qp; (case pq => k_is); (case qp => rfl)) | k_is); (case e => rfl); (case c => k_is); (case k => k_is))
    (case d_law_with => refine' ⟨?a, ⟨_, _, _, _, ?l, ⟨_, _, _, _, _, _, ?e, ?c⟩⟩, ?k⟩; (case a => k_is); (case l => first | k_is | (refine' Eq.trans ?pp ?qq; (case pp => k_is); (case qq => rfl)) | (refine' Eq.trans ?pq ?qp; (case pq => k_is); (case qp => rfl)) | k_is); (case e => rfl); (case c => k_is); (case k => k_is))
    (case d_law_loop => refine' ⟨?a, ⟨_, _, _, _, ?l, ⟨_, _, _, _, _, _, ?e, ?c⟩⟩, ?k⟩; (case a => k_is); (case l => first | k_is | (refine' Eq.trans ?pp ?qq; (case pp => k_is); (case qq => rfl)) | (refine' Eq.trans ?pq ?qp; (case pq => k_is); (case qp => rfl)) | k_is); (case e => rfl); (case c => k_is); (case k => k_is))
    (case d_law_read => refine' ⟨?a, ⟨_, _, _, _, ?l, ⟨_, _, _, _, _, _, ?e, ?c⟩⟩, ?k⟩; (case a => k_is); (case l => first | k_is | (refine' Eq.trans ?pp ?qq; (case pp => k_is); (case qq => rfl)) | (refine' Eq.trans ?pq ?qp; (case pq => k_is); (case qp => rfl)) | k_is); (case e => rfl); (case c => k_is); (case k => k_is))
    (case d_law_moved => refine' ⟨?a, ⟨_, _, _, _, ?l, ⟨_, _, _, _, _, _, ?e, ?c⟩⟩, ?k⟩; (case a => k_is); (case l => first | k_is | (refine' Eq.trans ?pp ?qq; (case pp => k_is); (case qq => rfl)) | (refine' Eq.trans ?pq ?qp; (case pq => k_is); (case qp => rfl)) | k_is); (case e => rfl); (case c => k_is); (case k => k_is))
    (case d_law_each => refine' ⟨?a, ⟨_, _, _, _, ?l, ⟨_, _, _, _, _, _, ?e, ?c⟩⟩, ?k⟩; (case a => k_is); (case l => first | k_is | (refine' Eq.trans ?pp ?qq; (case pp => k_is); (case qq => rfl)) | (refine' Eq.trans ?pq ?qp; (case pq => k_is); (case qp => rfl)) | k_is); (case e => rfl); (case c => k_is); (case k => k_is))
    (case d_law_times => refine' ⟨?a, ⟨_, _, _, _, ?l, ⟨_, _, _, _, _, _, ?e, ?c⟩⟩, ?k⟩; (case a => k_is); (case l => first | k_is | (refine' Eq.trans ?pp ?qq; (case pp => k_is); (case qq => rfl)) | (refine' Eq.trans ?pq ?qp; (case pq => k_is); (case qp => rfl)) | k_is); (case e => rfl); (case c => k_is); (case k => k_is))
    (case d_law => refine' ⟨?a, ⟨_, _, _, _, ?l, ⟨_, _, _, _, _, _, ?e, ?c⟩⟩, ?k⟩; (case a => k_is); (case l => first | k_is | (refine' Eq.trans ?pp ?qq; (case pp => k_is); (case qq => rfl)) | (refine' Eq.trans ?pq ?qp; (case pq => k_is); (case qp => rfl)) | k_is); (case e => rfl); (case c => k_is); (case k => k_is))
    (case e_R_init => refine' ⟨?a, ?i, ⟨_, _, _, _, ?l, ⟨_, _, _, _, _, _, ?e, ?c⟩⟩, ?k⟩; (case a => k_is); (case i => k_is); (case l => first | k_is | (refine' Eq.trans ?pp ?qq; (case pp => k_is); (case qq => rfl)) | (refine' Eq.trans ?pq ?qp; (case pq => k_is); (case qp => rfl)) | k_is); (case e => rfl); (case c => k_is); (case k => k_is))
    (case e_R_note => refine' ⟨?a, ?i, ⟨_, _, _, _, ?l, ⟨_, _, _, _, _, _, ?e, ?c⟩⟩, ?k⟩; (case a => k_is); (case i => k_is); (case l => first | k_is | (refine' Eq.trans ?pp ?qq; (case pp => k_is); (case qq => rfl)) | (refine' Eq.trans ?pq ?qp; (case pq => k_is); (case qp => rfl)) | k_is); (case e => rfl); (case c => k_is); (case k => k_is))
    (case e_R_worth => refine' ⟨?a, ?i, ⟨_, _, _, _, ?l, ⟨_, _, _, _, _, _, ?e, ?c⟩⟩, ?k⟩; (case a => k_is); (case i => k_is); (case l => first | k_is | (refine' Eq.trans ?pp ?qq; (case pp => k_is); (case qq => rfl)) | (refine' Eq.trans ?pq ?qp; (case pq => k_is); (case qp => rfl)) | k_is); (case e => rfl); (case c => k_is); (case k => k_is))
    (case e_R_arm => refine' ⟨?a, ?i, ⟨_, _, _, _, ?l, ⟨_, _, _, _, _, _, ?e, ?c⟩⟩, ?k⟩; (case a => k_is); (case i => k_is); (case l => first | k_is | (refine' Eq.trans ?pp ?qq; (case pp => k_is); (case qq => rfl)) | (refine' Eq.trans ?pq ?qp; (case pq => k_is); (case qp => rfl)) | k_is); (case e => rfl); (case c => k_is); (case k => k_is))
    (case e_R_things => refine' ⟨?a, ?i, ⟨_, _, _, _, ?l, ⟨_, _, _, _, _, _, ?e, ?c⟩⟩, ?k⟩; (case a => k_is); (case i => k_is); (case l => first | k_is | (refine' Eq.trans ?pp ?qq; (case pp => k_is); (case qq => rfl)) | (refine' Eq.trans ?pq ?qp; (case pq => k_is); (case qp => rfl)) | k_is); (case e => rfl); (case c => k_is); (case k => k_is))
    (case e_R_turned => refine' ⟨?a, ?i, ⟨_, _, _, _, ?l, ⟨_, _, _, _, _, _, ?e, ?c⟩⟩, ?k⟩; (case a => k_is); (case i => k_is); (case l => first | k_is | (refine' Eq.trans ?pp ?qq; (case pp => k_is); (case qq => rfl)) | (refine' Eq.trans ?pq ?qp; (case pq => k_is); (case qp => rfl)) | k_is); (case e => rfl); (case c => k_is); (case k => k_is))
    (case e_S_init => refine' ⟨?a, ?i, ⟨_, _, _, _, ?l, ⟨_, _, _, _, _, _, ?e, ?c⟩⟩, ?k⟩; (case a => k_is); (case i => k_is); (case l => first | k_is | (refine' Eq.trans ?pp ?qq; (case pp => k_is); (case qq => rfl)) | (refine' Eq.trans ?pq ?qp; (case pq => k_is); (case qp => rfl)) | k_is); (case e => rfl); (case c => k_is); (case k => k_is))
    (case s_ti => k_is)
