import PyProof.Rows.All
import Wide.All
import OpenK.AllK
import Wide.FinOn
import KE.KStateDown
import Lean
import HandS.ForMost
import HandS.Property
import HandS.Defaults
import HandS.MakeKwOnly
import HandS.Star
import HandS.More
import HandS.IsInst
import HandS.Small
import HandS.Style
import HandS.TupAny
import HandS.TupMul
import HandS.Deep
import HandS.Flow
import HandS.Walk
import HandS.Conv
import HandS.NoneIn
import HandS.HeadHook1
import HandS.HeadHook2
import HandS.Head0
import HandS.Head1
import HandS.Head2
import KE.GoesEnum
import KE.KUnpackStar
import HandS.SlotsOwn
import KE.KeyNested
import KE.KDictKeyed
import KE.KDictCopyH
import KE.KDictSum
import KE.SortData
import KE.KDictWalk
import KE.DataCmp
import KE.KMinKey
import PyProof.MinMaxWalk
import HandS.SortKw
import PyProof.ReprRoads
import PyProof.ReprLen
import PyProof.ReprText
import PyProof.CallFns
import HandS.TupSets
import HandS.SetBool
import HandS.Ends
import HandS.HeadEnd
import PySem.Challenge.RW_struckring_k43_whole_faults_by_plan
section
set_option Elab.async false
set_option linter.all false
set_option maxRecDepth 100000
set_option maxHeartbeats 4000000
/-! struckring, the walk: the text by places, the facts of the top -/
namespace Wk
open PySem PySem.Spec PyProof.Rows L2
abbrev ga := He.ga
abbrev ma := He.ma
def top (i : Nat) : Stmt := PySem.Challenge.pw_struckring_k43_whole_faults_by_plan.main.body.getD i (.Pass ⟨0, 0, 0, 0⟩)
/-- a property's getter: class, name, qualified name, parameters, body, scope -/
structure PrD where
  cls : Str
  nm : Str
  qual : Str
  params : Arguments
  body : List Stmt
  scope : Scope
/-- the property object, its getter -/
def pObj (K : PySem.W.Frag) (c f : Str) : Addr := match PySem.W.findIn K (.ref (ga K c)) f with
  | some (some (.ref p)) => p
  | _ => 0
def pFun (K : PySem.W.Frag) (c f : Str) : Addr := match PySem.W.recIn K (pObj K c f) "property" with
  | some (.ref g :: _) => g
  | _ => 0
structure PrOk (K : PySem.W.Frag) (d : PrD) : Prop where
  pr : PropOf K (ga K d.cls) d.nm (pObj K d.cls d.nm) (pFun K d.cls d.nm)
  fn : ∃ fd, FunD K d.nm d.qual d.params d.body d.scope [] [] (pFun K d.cls d.nm) fd
abbrev s_is_integer : Stmt := top 11
abbrev s_is_word : Stmt := top 12
abbrev s_is_index : Stmt := top 20
abbrev s_is_fault : Stmt := top 21
abbrev s_copy_of_address : Stmt := top 22
abbrev s_affected_by : Stmt := top 23
abbrev s_operator_value : Stmt := top 26
abbrev s_store_at : Stmt := top 29
abbrev s_is_whole : Stmt := top 30
abbrev s_stores_of : Stmt := top 31
abbrev s_held : Stmt := top 32
abbrev s_reading : Stmt := top 33
abbrev s_Machine_init : Stmt := inClass (top 36) 0
abbrev s_Machine_memory : Stmt := inClass (top 36) 1
abbrev s_Machine_executed : Stmt := inClass (top 36) 3
abbrev s_Machine_fault_count : Stmt := inClass (top 36) 4
abbrev s_Machine_reading : Stmt := inClass (top 36) 6
abbrev s_Machine_row : Stmt := inClass (top 36) 7
abbrev s_Machine_execute_next : Stmt := inClass (top 36) 10
abbrev s_Machine_execute : Stmt := inClass (top 36) 11
abbrev s_Machine_run : Stmt := inClass (top 36) 12
abbrev s_Machine_changes_anything : Stmt := inClass (top 36) 14
abbrev s_Machine_note : Stmt := inClass (top 36) 15
abbrev s_Machine_suffer : Stmt := inClass (top 36) 16
abbrev s_Machine_strike : Stmt := inClass (top 36) 17
abbrev s_is_number_below : Stmt := top 43
abbrev s_is_register : Stmt := top 44
abbrev s_many_sources : Stmt := top 45
abbrev s_is_recipe_row : Stmt := top 46
abbrev s_is_recipe : Stmt := top 47
abbrev s_is_recipes : Stmt := top 48
abbrev s_is_number : Stmt := top 63
abbrev s_store_addresses : Stmt := top 65
abbrev s_counting_rows : Stmt := top 66
abbrev s_placed_row : Stmt := top 67
abbrev s_choosing_rows : Stmt := top 68
abbrev s_piece_p : Stmt := top 69
abbrev s_vote_rows : Stmt := top 70
abbrev s_piece_q : Stmt := top 71
abbrev s_Ring_init : Stmt := inClass (top 72) 1
abbrev s_Ring_faults : Stmt := inClass (top 72) 3
abbrev s_Ring_copies : Stmt := inClass (top 72) 4
abbrev s_Ring_size : Stmt := inClass (top 72) 5
abbrev s_Ring_rows : Stmt := inClass (top 72) 6
abbrev s_Ring_words : Stmt := inClass (top 72) 8
abbrev s_Ring_len : Stmt := inClass (top 72) 9
abbrev s_Ring_piece_at : Stmt := inClass (top 72) 15
abbrev s_Ring_first_memory : Stmt := inClass (top 72) 17
abbrev s__law_deck : Stmt := top 75
abbrev s__law_draw : Stmt := top 76
abbrev s__law_pick : Stmt := top 77
abbrev s__law_recipe : Stmt := top 78
abbrev s__law_counter : Stmt := top 79
abbrev s__law_value : Stmt := top 80
abbrev s__law_next : Stmt := top 81
abbrev s__law_states : Stmt := top 82
abbrev s__law_lengths : Stmt := top 83
abbrev s__law_held : Stmt := top 84
abbrev s__law_only_states : Stmt := top 85
abbrev s__law_is_final : Stmt := top 86
abbrev s__law_ran_to : Stmt := top 87
abbrev s__law_look_row : Stmt := top 88
abbrev s__law_wrong : Stmt := top 89
abbrev s__law_in_look : Stmt := top 90
abbrev s__law_in_marks : Stmt := top 91
abbrev s__law_half_done : Stmt := top 92
abbrev s__law_entry : Stmt := top 93
abbrev s__law_in_register : Stmt := top 94
abbrev s__law_planned : Stmt := top 95
abbrev s__law_plan_right : Stmt := top 96
abbrev s_law : Stmt := top 97
/-! the names by slot -/
theorem sc_is_integer : FnScope ["thing"] ["thing"] (defScope s_is_integer) := ⟨rfl, rfl, rfl, by decide +kernel, rfl, by decide +kernel, by decide +kernel⟩
theorem sc_is_word : FnScope ["thing"] ["thing"] (defScope s_is_word) := ⟨rfl, rfl, rfl, by decide +kernel, rfl, by decide +kernel, by decide +kernel⟩
theorem sc_is_index : FnScope ["value", "count"] ["value", "count"] (defScope s_is_index) := ⟨rfl, rfl, rfl, by decide +kernel, rfl, by decide +kernel, by decide +kernel⟩
theorem sc_is_fault : FnScope ["ring", "thing"] ["ring", "thing"] (defScope s_is_fault) := ⟨rfl, rfl, rfl, by decide +kernel, rfl, by decide +kernel, by decide +kernel⟩
theorem sc_copy_of_address : FnScope ["ring", "address"] ["ring", "address"] (defScope s_copy_of_address) := ⟨rfl, rfl, rfl, by decide +kernel, rfl, by decide +kernel, by decide +kernel⟩
theorem sc_affected_by : FnScope ["ring", "row", "fault", "piece", "copy", "index"] ["ring", "row", "fault"] (defScope s_affected_by) := ⟨rfl, rfl, rfl, by decide +kernel, rfl, by decide +kernel, by decide +kernel⟩
theorem sc_operator_value : FnScope ["operator", "one", "other"] ["operator", "one", "other"] (defScope s_operator_value) := ⟨rfl, rfl, rfl, by decide +kernel, rfl, by decide +kernel, by decide +kernel⟩
theorem sc_store_at : FnScope ["memory", "address", "length", "words"] ["memory", "address", "length"] (defScope s_store_at) := ⟨rfl, rfl, rfl, by decide +kernel, rfl, by decide +kernel, by decide +kernel⟩
theorem sc_is_whole : FnScope ["store"] ["store"] (defScope s_is_whole) := ⟨rfl, rfl, rfl, by decide +kernel, rfl, by decide +kernel, by decide +kernel⟩
theorem sc_stores_of : FnScope ["ring", "memory", "copy", "length", "first"] ["ring", "memory", "copy"] (defScope s_stores_of) := ⟨rfl, rfl, rfl, by decide +kernel, rfl, by decide +kernel, by decide +kernel⟩
theorem sc_held : FnScope ["ring", "memory", "copy", "whole", "store", "count", "state", "last"] ["ring", "memory", "copy"] (defScope s_held) := ⟨rfl, rfl, rfl, by decide +kernel, rfl, by decide +kernel, by decide +kernel⟩
theorem sc_reading : FnScope ["ring", "memory", "copies_by_pair", "copy", "pair", "copies"] ["ring", "memory"] (defScope s_reading) := ⟨rfl, rfl, rfl, by decide +kernel, rfl, by decide +kernel, by decide +kernel⟩
theorem sc_Machine_init : FnScope ["self", "ring", "first"] ["self", "ring", "first"] (defScope s_Machine_init) := ⟨rfl, rfl, rfl, by decide +kernel, rfl, by decide +kernel, by decide +kernel⟩
theorem sc_Machine_memory : FnScope ["self"] ["self"] (defScope s_Machine_memory) := ⟨rfl, rfl, rfl, by decide +kernel, rfl, by decide +kernel, by decide +kernel⟩
theorem sc_Machine_executed : FnScope ["self"] ["self"] (defScope s_Machine_executed) := ⟨rfl, rfl, rfl, by decide +kernel, rfl, by decide +kernel, by decide +kernel⟩
theorem sc_Machine_fault_count : FnScope ["self"] ["self"] (defScope s_Machine_fault_count) := ⟨rfl, rfl, rfl, by decide +kernel, rfl, by decide +kernel, by decide +kernel⟩
theorem sc_Machine_reading : FnScope ["self"] ["self"] (defScope s_Machine_reading) := ⟨rfl, rfl, rfl, by decide +kernel, rfl, by decide +kernel, by decide +kernel⟩
theorem sc_Machine_row : FnScope ["self"] ["self"] (defScope s_Machine_row) := ⟨rfl, rfl, rfl, by decide +kernel, rfl, by decide +kernel, by decide +kernel⟩
theorem sc_Machine_execute_next : FnScope ["self"] ["self"] (defScope s_Machine_execute_next) := ⟨rfl, rfl, rfl, by decide +kernel, rfl, by decide +kernel, by decide +kernel⟩
theorem sc_Machine_execute : FnScope ["self", "row", "word", "target", "registers", "memory", "start", "other", "count"] ["self", "row"] (defScope s_Machine_execute) := ⟨rfl, rfl, rfl, by decide +kernel, rfl, by decide +kernel, by decide +kernel⟩
theorem sc_Machine_run : FnScope ["self", "many", "turn"] ["self", "many"] (defScope s_Machine_run) := ⟨rfl, rfl, rfl, by decide +kernel, rfl, by decide +kernel, by decide +kernel⟩
theorem sc_Machine_changes_anything : FnScope ["self", "fault"] ["self", "fault"] (defScope s_Machine_changes_anything) := ⟨rfl, rfl, rfl, by decide +kernel, rfl, by decide +kernel, by decide +kernel⟩
theorem sc_Machine_note : FnScope ["self", "fault", "copy"] ["self", "fault"] (defScope s_Machine_note) := ⟨rfl, rfl, rfl, by decide +kernel, rfl, by decide +kernel, by decide +kernel⟩
theorem sc_Machine_suffer : FnScope ["self", "fault"] ["self", "fault"] (defScope s_Machine_suffer) := ⟨rfl, rfl, rfl, by decide +kernel, rfl, by decide +kernel, by decide +kernel⟩
theorem sc_Machine_strike : FnScope ["self", "faults", "fault"] ["self", "faults"] (defScope s_Machine_strike) := ⟨rfl, rfl, rfl, by decide +kernel, rfl, by decide +kernel, by decide +kernel⟩
theorem sc_is_number_below : FnScope ["thing", "bound"] ["thing", "bound"] (defScope s_is_number_below) := ⟨rfl, rfl, rfl, by decide +kernel, rfl, by decide +kernel, by decide +kernel⟩
theorem sc_is_register : FnScope ["thing"] ["thing"] (defScope s_is_register) := ⟨rfl, rfl, rfl, by decide +kernel, rfl, by decide +kernel, by decide +kernel⟩
theorem sc_many_sources : FnScope ["word"] ["word"] (defScope s_many_sources) := ⟨rfl, rfl, rfl, by decide +kernel, rfl, by decide +kernel, by decide +kernel⟩
theorem sc_is_recipe_row : FnScope ["thing", "size", "known", "word", "goal", "others", "one"] ["thing", "size", "known"] (defScope s_is_recipe_row) := ⟨rfl, rfl, rfl, by decide +kernel, rfl, by decide +kernel, by decide +kernel⟩
theorem sc_is_recipe : FnScope ["thing", "size", "rows", "result", "known", "row"] ["thing", "size"] (defScope s_is_recipe) := ⟨rfl, rfl, rfl, by decide +kernel, rfl, by decide +kernel, by decide +kernel⟩
theorem sc_is_recipes : FnScope ["thing", "one"] ["thing"] (defScope s_is_recipes) := ⟨rfl, rfl, rfl, by decide +kernel, rfl, by decide +kernel, by decide +kernel⟩
theorem sc_is_number : FnScope ["value", "least", "most"] ["value", "least", "most"] (defScope s_is_number) := ⟨rfl, rfl, rfl, by decide +kernel, rfl, by decide +kernel, by decide +kernel⟩
theorem sc_store_addresses : FnScope ["size", "copy", "length", "first"] ["size", "copy"] (defScope s_store_addresses) := ⟨rfl, rfl, rfl, by decide +kernel, rfl, by decide +kernel, by decide +kernel⟩
theorem sc_counting_rows : FnScope ["old", "address", "rows"] ["old", "address"] (defScope s_counting_rows) := ⟨rfl, rfl, rfl, by decide +kernel, rfl, by decide +kernel, by decide +kernel⟩
theorem sc_placed_row : FnScope ["row", "old"] ["row", "old"] (defScope s_placed_row) := ⟨rfl, rfl, rfl, by decide +kernel, rfl, by decide +kernel, by decide +kernel⟩
theorem sc_choosing_rows : FnScope ["index", "old", "new", "result", "rows"] ["index", "old", "new", "result"] (defScope s_choosing_rows) := ⟨rfl, rfl, rfl, by decide +kernel, rfl, by decide +kernel, by decide +kernel⟩
theorem sc_piece_p : FnScope ["recipes", "copy", "size", "old", "new", "rows", "index", "steps", "result", "row"] ["recipes", "copy"] (defScope s_piece_p) := ⟨rfl, rfl, rfl, by decide +kernel, rfl, by decide +kernel, by decide +kernel⟩
theorem sc_vote_rows : FnScope ["news", "faults", "length", "look", "best", "source", "rows", "new"] ["news", "faults", "length", "look", "best", "source"] (defScope s_vote_rows) := ⟨rfl, rfl, rfl, by decide +kernel, rfl, by decide +kernel, by decide +kernel⟩
theorem sc_piece_q : FnScope ["size", "faults", "copies", "copy", "old", "look", "best", "length", "news", "rows", "source", "store", "other"] ["size", "faults", "copies", "copy"] (defScope s_piece_q) := ⟨rfl, rfl, rfl, by decide +kernel, rfl, by decide +kernel, by decide +kernel⟩
theorem sc_Ring_init : FnScope ["self", "recipes", "faults", "copies", "pieces", "votes", "copy", "piece", "row"] ["self", "recipes", "faults", "copies"] (defScope s_Ring_init) := ⟨rfl, rfl, rfl, by decide +kernel, rfl, by decide +kernel, by decide +kernel⟩
theorem sc_Ring_faults : FnScope ["self"] ["self"] (defScope s_Ring_faults) := ⟨rfl, rfl, rfl, by decide +kernel, rfl, by decide +kernel, by decide +kernel⟩
theorem sc_Ring_copies : FnScope ["self"] ["self"] (defScope s_Ring_copies) := ⟨rfl, rfl, rfl, by decide +kernel, rfl, by decide +kernel, by decide +kernel⟩
theorem sc_Ring_size : FnScope ["self"] ["self"] (defScope s_Ring_size) := ⟨rfl, rfl, rfl, by decide +kernel, rfl, by decide +kernel, by decide +kernel⟩
theorem sc_Ring_rows : FnScope ["self"] ["self"] (defScope s_Ring_rows) := ⟨rfl, rfl, rfl, by decide +kernel, rfl, by decide +kernel, by decide +kernel⟩
theorem sc_Ring_words : FnScope ["self"] ["self"] (defScope s_Ring_words) := ⟨rfl, rfl, rfl, by decide +kernel, rfl, by decide +kernel, by decide +kernel⟩
theorem sc_Ring_len : FnScope ["self"] ["self"] (defScope s_Ring_len) := ⟨rfl, rfl, rfl, by decide +kernel, rfl, by decide +kernel, by decide +kernel⟩
theorem sc_Ring_piece_at : FnScope ["self", "row", "length_p", "length_q", "behind"] ["self", "row"] (defScope s_Ring_piece_at) := ⟨rfl, rfl, rfl, by decide +kernel, rfl, by decide +kernel, by decide +kernel⟩
theorem sc_Ring_first_memory : FnScope ["self", "state"] ["self", "state"] (defScope s_Ring_first_memory) := ⟨rfl, rfl, rfl, by decide +kernel, rfl, by decide +kernel, by decide +kernel⟩
theorem sc__law_deck : FnScope ["_law_script", "_law_numbers", "_law_mixed", "_law_number"] ["_law_script"] (defScope s__law_deck) := ⟨rfl, rfl, rfl, by decide +kernel, rfl, by decide +kernel, by decide +kernel⟩
theorem sc__law_draw : FnScope ["_law_deck_here", "_law_limit", "_law_turn", "_law_number"] ["_law_deck_here", "_law_limit"] (defScope s__law_draw) := ⟨rfl, rfl, rfl, by decide +kernel, rfl, by decide +kernel, by decide +kernel⟩
theorem sc__law_pick : FnScope ["_law_deck_here", "_law_items"] ["_law_deck_here", "_law_items"] (defScope s__law_pick) := ⟨rfl, rfl, rfl, by decide +kernel, rfl, by decide +kernel, by decide +kernel⟩
theorem sc__law_recipe : FnScope ["_law_deck_here", "_law_n", "_law_rows", "_law_known", "_law_k", "_law_way", "_law_to", "_law_one", "_law_other", "_law_third"] ["_law_deck_here", "_law_n"] (defScope s__law_recipe) := ⟨rfl, rfl, rfl, by decide +kernel, rfl, by decide +kernel, by decide +kernel⟩
theorem sc__law_counter : FnScope ["_law_deck_here", "_law_steps", "_law_n", "_law_done", "_law_one", "_law_other", "_law_more", "_law_found", "_law_k"] ["_law_deck_here", "_law_steps"] (defScope s__law_counter) := ⟨rfl, rfl, rfl, by decide +kernel, rfl, by decide +kernel, by decide +kernel⟩
theorem sc__law_value : FnScope ["_law_word", "_law_one", "_law_other"] ["_law_word", "_law_one", "_law_other"] (defScope s__law_value) := ⟨rfl, rfl, rfl, by decide +kernel, rfl, by decide +kernel, by decide +kernel⟩
theorem sc__law_next : FnScope ["_law_recipes", "_law_state", "_law_found", "_law_rows", "_law_result", "_law_registers", "_law_row", "_law_word", "_law_to"] ["_law_recipes", "_law_state"] (defScope s__law_next) := ⟨rfl, rfl, rfl, by decide +kernel, rfl, by decide +kernel, by decide +kernel⟩
theorem sc__law_states : FnScope ["_law_recipes", "_law_state", "_law_found"] ["_law_recipes", "_law_state"] (defScope s__law_states) := ⟨rfl, rfl, rfl, by decide +kernel, rfl, by decide +kernel, by decide +kernel⟩
theorem sc__law_lengths : FnScope ["_law_recipes", "_law_count", "_law_first", "_law_rows", "_law_result"] ["_law_recipes", "_law_count"] (defScope s__law_lengths) := ⟨rfl, rfl, rfl, by decide +kernel, rfl, by decide +kernel, by decide +kernel⟩
theorem sc__law_held : FnScope ["_law_memory", "_law_size", "_law_count", "_law_counts", "_law_copy", "_law_pairs_here", "_law_at", "_law_pair"] ["_law_memory", "_law_size", "_law_count"] (defScope s__law_held) := ⟨rfl, rfl, rfl, by decide +kernel, rfl, by decide +kernel, by decide +kernel⟩
theorem sc__law_only_states : FnScope ["_law_machine", "_law_recipes", "_law_states_here", "_law_e", "_law_count", "_law_counts", "_law_found", "_law_wrong_here", "_law_pair"] ["_law_machine", "_law_recipes", "_law_states_here", "_law_e", "_law_count"] (defScope s__law_only_states) := ⟨rfl, rfl, rfl, by decide +kernel, rfl, by decide +kernel, by decide +kernel⟩
theorem sc__law_is_final : FnScope ["_law_machine", "_law_states_here"] ["_law_machine", "_law_states_here"] (defScope s__law_is_final) := ⟨rfl, rfl, rfl, by decide +kernel, rfl, by decide +kernel, by decide +kernel⟩
theorem sc__law_ran_to : FnScope ["_law_machine", "_law_row", "_law_total", "_law_rounds"] ["_law_machine", "_law_row", "_law_total", "_law_rounds"] (defScope s__law_ran_to) := ⟨rfl, rfl, rfl, by decide +kernel, rfl, by decide +kernel, by decide +kernel⟩
theorem sc__law_look_row : FnScope ["_law_deck_here", "_law_lengths_here", "_law_count", "_law_first", "_law_second", "_law_copy", "_law_s", "_law_inner"] ["_law_deck_here", "_law_lengths_here", "_law_count"] (defScope s__law_look_row) := ⟨rfl, rfl, rfl, by decide +kernel, rfl, by decide +kernel, by decide +kernel⟩
theorem sc__law_wrong : FnScope ["_law_deck_here", "_law_memory", "_law_at", "_law_value_here"] ["_law_deck_here", "_law_memory", "_law_at"] (defScope s__law_wrong) := ⟨rfl, rfl, rfl, by decide +kernel, rfl, by decide +kernel, by decide +kernel⟩
theorem sc__law_in_look : FnScope ["_law_deck_here", "_law_machine", "_law_lengths_here", "_law_size", "_law_count", "_law_row", "_law_copy", "_law_s", "_law_store", "_law_at"] ["_law_deck_here", "_law_machine", "_law_lengths_here", "_law_size", "_law_count"] (defScope s__law_in_look) := ⟨rfl, rfl, rfl, by decide +kernel, rfl, by decide +kernel, by decide +kernel⟩
theorem sc__law_in_marks : FnScope ["_law_deck_here", "_law_machine", "_law_lengths_here", "_law_size", "_law_count", "_law_at"] ["_law_deck_here", "_law_machine", "_law_lengths_here", "_law_size", "_law_count"] (defScope s__law_in_marks) := ⟨rfl, rfl, rfl, by decide +kernel, rfl, by decide +kernel, by decide +kernel⟩
theorem sc__law_half_done : FnScope ["_law_deck_here", "_law_machine", "_law_lengths_here", "_law_size", "_law_count", "_law_copy", "_law_row"] ["_law_deck_here", "_law_machine", "_law_lengths_here", "_law_size", "_law_count"] (defScope s__law_half_done) := ⟨rfl, rfl, rfl, by decide +kernel, rfl, by decide +kernel, by decide +kernel⟩
theorem sc__law_entry : FnScope ["_law_deck_here", "_law_machine", "_law_lengths_here", "_law_size", "_law_count", "_law_row", "_law_copy", "_law_s"] ["_law_deck_here", "_law_machine", "_law_lengths_here", "_law_size", "_law_count"] (defScope s__law_entry) := ⟨rfl, rfl, rfl, by decide +kernel, rfl, by decide +kernel, by decide +kernel⟩
theorem sc__law_in_register : FnScope ["_law_deck_here", "_law_machine", "_law_lengths_here", "_law_size", "_law_count", "_law_row", "_law_copy", "_law_s"] ["_law_deck_here", "_law_machine", "_law_lengths_here", "_law_size", "_law_count"] (defScope s__law_in_register) := ⟨rfl, rfl, rfl, by decide +kernel, rfl, by decide +kernel, by decide +kernel⟩
theorem sc__law_planned : FnScope ["_law_deck_here", "_law_plan", "_law_machine", "_law_kit", "_law_lengths_here", "_law_size", "_law_count"] ["_law_deck_here", "_law_plan", "_law_machine", "_law_kit"] (defScope s__law_planned) := ⟨rfl, rfl, rfl, by decide +kernel, rfl, by decide +kernel, by decide +kernel⟩
theorem sc__law_plan_right : FnScope ["_law_deck_here", "_law_e", "_law_count", "_law_recipes", "_law_begin", "_law_states_here", "_law_lengths_here", "_law_machine", "_law_total", "_law_bound", "_law_plan", "_law_turn", "_law_fault"] ["_law_deck_here", "_law_e", "_law_count"] (defScope s__law_plan_right) := ⟨rfl, rfl, rfl, by decide +kernel, rfl, by decide +kernel, by decide +kernel⟩
theorem sc_law : FnScope ["_law_script", "_law_deck_here", "_law_turn"] ["_law_script"] (defScope s_law) := ⟨rfl, rfl, rfl, by decide +kernel, rfl, by decide +kernel, by decide +kernel⟩
/-! what is looked at -/
def fa0 : List He.Fa := [.glo "is_integer", .glo "is_word", .glo "is_index", .glo "is_fault", .glo "copy_of_address", .glo "affected_by", .glo "operator_value", .glo "store_at", .glo "is_whole", .glo "stores_of", .glo "held", .glo "reading"]
def fa1 : List He.Fa := [.glo "is_number_below", .glo "is_register", .glo "many_sources", .glo "is_recipe_row", .glo "is_recipe", .glo "is_recipes", .glo "is_number", .glo "store_addresses", .glo "counting_rows", .glo "placed_row", .glo "choosing_rows", .glo "piece_p"]
def fa2 : List He.Fa := [.glo "vote_rows", .glo "piece_q", .glo "_law_deck", .glo "_law_draw", .glo "_law_pick", .glo "_law_recipe", .glo "_law_counter", .glo "_law_value", .glo "_law_next", .glo "_law_states", .glo "_law_lengths", .glo "_law_held"]
def fa3 : List He.Fa := [.glo "_law_only_states", .glo "_law_is_final", .glo "_law_ran_to", .glo "_law_look_row", .glo "_law_wrong", .glo "_law_in_look", .glo "_law_in_marks", .glo "_law_half_done", .glo "_law_entry", .glo "_law_in_register", .glo "_law_planned", .glo "_law_plan_right"]
def fa4 : List He.Fa := [.glo "law", .glo "reading_reading", .glo "Machine", .glo "Ring", .glo "OPERATORS", .free "len", .free "range", .free "tuple", .free "list", .free "isinstance", .free "all", .free "int"]
def fa5 : List He.Fa := [.free "sorted", .free "max", .free "min", .free "sum", .free "enumerate", .free "repr", .free "bool", .free "str", .int "GREATEST_WORD" 999999, .int "STORES_faults" 4, .int "PARTS" 3, .int "ROW_PARTS" 2]
def fa6 : List He.Fa := [.int "SIZE_OF_WORDS" 1000000, .int "STORES_reading" 4, .int "RECIPE_REGISTERS" 24, .int "RECIPE_PARTS" 2, .int "INVALID" 999999, .int "MOST_FAULTS" 3, .int "MOST_COPIES" 16, .int "STORES_rings" 4, .str "WORD" "word", .str "REGISTER" "register", .str "ROW" "row", .str "SET" "set"]
def fa7 : List He.Fa := [.str "LOAD" "load", .str "CHOOSE" "choose", .cls "Machine", .noat "Machine" "ring_executed", .noat "Machine" "rows_listed", .noat "Machine" "memory_words", .noat "Machine" "register_words", .noat "Machine" "next_row", .noat "Machine" "rows_done", .noat "Machine" "faults_done", .noat "Machine" "copies_affected", .meth "Machine" "execute_next"]
def fa8 : List He.Fa := [.meth "Machine" "execute", .meth "Machine" "run", .meth "Machine" "changes_anything", .meth "Machine" "note", .meth "Machine" "suffer", .meth "Machine" "strike", .mkr "Machine", .cls "Ring", .noat "Ring" "recipes_given", .noat "Ring" "faults_withstood", .noat "Ring" "copy_count", .noat "Ring" "piece_lengths"]
def fa9 : List He.Fa := [.noat "Ring" "row_list", .meth "Ring" "__len__", .meth "Ring" "piece_at", .meth "Ring" "first_memory", .mkr "Ring"]
def faL : List He.Fa := fa0 ++ (fa1 ++ (fa2 ++ (fa3 ++ (fa4 ++ (fa5 ++ (fa6 ++ (fa7 ++ (fa8 ++ (fa9)))))))))
def d_is_integer : He.DefD := ⟨("is_integer", none), "is_integer", "is_integer", defArgs s_is_integer, defBody s_is_integer, defScope s_is_integer, [], []⟩
def d_is_word : He.DefD := ⟨("is_word", none), "is_word", "is_word", defArgs s_is_word, defBody s_is_word, defScope s_is_word, [], []⟩
def d_is_index : He.DefD := ⟨("is_index", none), "is_index", "is_index", defArgs s_is_index, defBody s_is_index, defScope s_is_index, [], []⟩
def d_is_fault : He.DefD := ⟨("is_fault", none), "is_fault", "is_fault", defArgs s_is_fault, defBody s_is_fault, defScope s_is_fault, [], []⟩
def d_copy_of_address : He.DefD := ⟨("copy_of_address", none), "copy_of_address", "copy_of_address", defArgs s_copy_of_address, defBody s_copy_of_address, defScope s_copy_of_address, [], []⟩
def d_affected_by : He.DefD := ⟨("affected_by", none), "affected_by", "affected_by", defArgs s_affected_by, defBody s_affected_by, defScope s_affected_by, [], []⟩
def d_operator_value : He.DefD := ⟨("operator_value", none), "operator_value", "operator_value", defArgs s_operator_value, defBody s_operator_value, defScope s_operator_value, [], []⟩
def d_store_at : He.DefD := ⟨("store_at", none), "store_at", "store_at", defArgs s_store_at, defBody s_store_at, defScope s_store_at, [], []⟩
def d_is_whole : He.DefD := ⟨("is_whole", none), "is_whole", "is_whole", defArgs s_is_whole, defBody s_is_whole, defScope s_is_whole, [], []⟩
def d_stores_of : He.DefD := ⟨("stores_of", none), "stores_of", "stores_of", defArgs s_stores_of, defBody s_stores_of, defScope s_stores_of, [], []⟩
def d_held : He.DefD := ⟨("held", none), "held", "held", defArgs s_held, defBody s_held, defScope s_held, [], []⟩
def d_reading : He.DefD := ⟨("reading", none), "reading", "reading", defArgs s_reading, defBody s_reading, defScope s_reading, [], []⟩
def d_Machine_init : He.DefD := ⟨("Machine", some "__init__"), "__init__", "Machine.__init__", defArgs s_Machine_init, defBody s_Machine_init, defScope s_Machine_init, [], []⟩
def d_Machine_execute_next : He.DefD := ⟨("Machine", some "execute_next"), "execute_next", "Machine.execute_next", defArgs s_Machine_execute_next, defBody s_Machine_execute_next, defScope s_Machine_execute_next, [], []⟩
def d_Machine_execute : He.DefD := ⟨("Machine", some "execute"), "execute", "Machine.execute", defArgs s_Machine_execute, defBody s_Machine_execute, defScope s_Machine_execute, [], []⟩
def d_Machine_run : He.DefD := ⟨("Machine", some "run"), "run", "Machine.run", defArgs s_Machine_run, defBody s_Machine_run, defScope s_Machine_run, [], []⟩
def d_Machine_changes_anything : He.DefD := ⟨("Machine", some "changes_anything"), "changes_anything", "Machine.changes_anything", defArgs s_Machine_changes_anything, defBody s_Machine_changes_anything, defScope s_Machine_changes_anything, [], []⟩
def d_Machine_note : He.DefD := ⟨("Machine", some "note"), "note", "Machine.note", defArgs s_Machine_note, defBody s_Machine_note, defScope s_Machine_note, [], []⟩
def d_Machine_suffer : He.DefD := ⟨("Machine", some "suffer"), "suffer", "Machine.suffer", defArgs s_Machine_suffer, defBody s_Machine_suffer, defScope s_Machine_suffer, [], []⟩
def d_Machine_strike : He.DefD := ⟨("Machine", some "strike"), "strike", "Machine.strike", defArgs s_Machine_strike, defBody s_Machine_strike, defScope s_Machine_strike, [], []⟩
def d_is_number_below : He.DefD := ⟨("is_number_below", none), "is_number_below", "is_number_below", defArgs s_is_number_below, defBody s_is_number_below, defScope s_is_number_below, [], []⟩
def d_is_register : He.DefD := ⟨("is_register", none), "is_register", "is_register", defArgs s_is_register, defBody s_is_register, defScope s_is_register, [], []⟩
def d_many_sources : He.DefD := ⟨("many_sources", none), "many_sources", "many_sources", defArgs s_many_sources, defBody s_many_sources, defScope s_many_sources, [], []⟩
def d_is_recipe_row : He.DefD := ⟨("is_recipe_row", none), "is_recipe_row", "is_recipe_row", defArgs s_is_recipe_row, defBody s_is_recipe_row, defScope s_is_recipe_row, [], []⟩
def d_is_recipe : He.DefD := ⟨("is_recipe", none), "is_recipe", "is_recipe", defArgs s_is_recipe, defBody s_is_recipe, defScope s_is_recipe, [], []⟩
def d_is_recipes : He.DefD := ⟨("is_recipes", none), "is_recipes", "is_recipes", defArgs s_is_recipes, defBody s_is_recipes, defScope s_is_recipes, [], []⟩
def d_is_number : He.DefD := ⟨("is_number", none), "is_number", "is_number", defArgs s_is_number, defBody s_is_number, defScope s_is_number, [], []⟩
def d_store_addresses : He.DefD := ⟨("store_addresses", none), "store_addresses", "store_addresses", defArgs s_store_addresses, defBody s_store_addresses, defScope s_store_addresses, [], []⟩
def d_counting_rows : He.DefD := ⟨("counting_rows", none), "counting_rows", "counting_rows", defArgs s_counting_rows, defBody s_counting_rows, defScope s_counting_rows, [], []⟩
def d_placed_row : He.DefD := ⟨("placed_row", none), "placed_row", "placed_row", defArgs s_placed_row, defBody s_placed_row, defScope s_placed_row, [], []⟩
def d_choosing_rows : He.DefD := ⟨("choosing_rows", none), "choosing_rows", "choosing_rows", defArgs s_choosing_rows, defBody s_choosing_rows, defScope s_choosing_rows, [], []⟩
def d_piece_p : He.DefD := ⟨("piece_p", none), "piece_p", "piece_p", defArgs s_piece_p, defBody s_piece_p, defScope s_piece_p, [], []⟩
def d_vote_rows : He.DefD := ⟨("vote_rows", none), "vote_rows", "vote_rows", defArgs s_vote_rows, defBody s_vote_rows, defScope s_vote_rows, [], []⟩
def d_piece_q : He.DefD := ⟨("piece_q", none), "piece_q", "piece_q", defArgs s_piece_q, defBody s_piece_q, defScope s_piece_q, [], []⟩
def d_Ring_init : He.DefD := ⟨("Ring", some "__init__"), "__init__", "Ring.__init__", defArgs s_Ring_init, defBody s_Ring_init, defScope s_Ring_init, [], [("faults", .int 1), ("copies", .non)]⟩
def d_Ring_len : He.DefD := ⟨("Ring", some "__len__"), "__len__", "Ring.__len__", defArgs s_Ring_len, defBody s_Ring_len, defScope s_Ring_len, [], []⟩
def d_Ring_piece_at : He.DefD := ⟨("Ring", some "piece_at"), "piece_at", "Ring.piece_at", defArgs s_Ring_piece_at, defBody s_Ring_piece_at, defScope s_Ring_piece_at, [], []⟩
def d_Ring_first_memory : He.DefD := ⟨("Ring", some "first_memory"), "first_memory", "Ring.first_memory", defArgs s_Ring_first_memory, defBody s_Ring_first_memory, defScope s_Ring_first_memory, [], []⟩
def d__law_deck : He.DefD := ⟨("_law_deck", none), "_law_deck", "_law_deck", defArgs s__law_deck, defBody s__law_deck, defScope s__law_deck, [], []⟩
def d__law_draw : He.DefD := ⟨("_law_draw", none), "_law_draw", "_law_draw", defArgs s__law_draw, defBody s__law_draw, defScope s__law_draw, [], []⟩
def d__law_pick : He.DefD := ⟨("_law_pick", none), "_law_pick", "_law_pick", defArgs s__law_pick, defBody s__law_pick, defScope s__law_pick, [], []⟩
def d__law_recipe : He.DefD := ⟨("_law_recipe", none), "_law_recipe", "_law_recipe", defArgs s__law_recipe, defBody s__law_recipe, defScope s__law_recipe, [], []⟩
def d__law_counter : He.DefD := ⟨("_law_counter", none), "_law_counter", "_law_counter", defArgs s__law_counter, defBody s__law_counter, defScope s__law_counter, [], []⟩
def d__law_value : He.DefD := ⟨("_law_value", none), "_law_value", "_law_value", defArgs s__law_value, defBody s__law_value, defScope s__law_value, [], []⟩
def d__law_next : He.DefD := ⟨("_law_next", none), "_law_next", "_law_next", defArgs s__law_next, defBody s__law_next, defScope s__law_next, [], []⟩
def d__law_states : He.DefD := ⟨("_law_states", none), "_law_states", "_law_states", defArgs s__law_states, defBody s__law_states, defScope s__law_states, [], []⟩
def d__law_lengths : He.DefD := ⟨("_law_lengths", none), "_law_lengths", "_law_lengths", defArgs s__law_lengths, defBody s__law_lengths, defScope s__law_lengths, [], []⟩
def d__law_held : He.DefD := ⟨("_law_held", none), "_law_held", "_law_held", defArgs s__law_held, defBody s__law_held, defScope s__law_held, [], []⟩
def d__law_only_states : He.DefD := ⟨("_law_only_states", none), "_law_only_states", "_law_only_states", defArgs s__law_only_states, defBody s__law_only_states, defScope s__law_only_states, [], []⟩
def d__law_is_final : He.DefD := ⟨("_law_is_final", none), "_law_is_final", "_law_is_final", defArgs s__law_is_final, defBody s__law_is_final, defScope s__law_is_final, [], []⟩
def d__law_ran_to : He.DefD := ⟨("_law_ran_to", none), "_law_ran_to", "_law_ran_to", defArgs s__law_ran_to, defBody s__law_ran_to, defScope s__law_ran_to, [], []⟩
def d__law_look_row : He.DefD := ⟨("_law_look_row", none), "_law_look_row", "_law_look_row", defArgs s__law_look_row, defBody s__law_look_row, defScope s__law_look_row, [], []⟩
def d__law_wrong : He.DefD := ⟨("_law_wrong", none), "_law_wrong", "_law_wrong", defArgs s__law_wrong, defBody s__law_wrong, defScope s__law_wrong, [], []⟩
def d__law_in_look : He.DefD := ⟨("_law_in_look", none), "_law_in_look", "_law_in_look", defArgs s__law_in_look, defBody s__law_in_look, defScope s__law_in_look, [], []⟩
def d__law_in_marks : He.DefD := ⟨("_law_in_marks", none), "_law_in_marks", "_law_in_marks", defArgs s__law_in_marks, defBody s__law_in_marks, defScope s__law_in_marks, [], []⟩
def d__law_half_done : He.DefD := ⟨("_law_half_done", none), "_law_half_done", "_law_half_done", defArgs s__law_half_done, defBody s__law_half_done, defScope s__law_half_done, [], []⟩
def d__law_entry : He.DefD := ⟨("_law_entry", none), "_law_entry", "_law_entry", defArgs s__law_entry, defBody s__law_entry, defScope s__law_entry, [], []⟩
def d__law_in_register : He.DefD := ⟨("_law_in_register", none), "_law_in_register", "_law_in_register", defArgs s__law_in_register, defBody s__law_in_register, defScope s__law_in_register, [], []⟩
def d__law_planned : He.DefD := ⟨("_law_planned", none), "_law_planned", "_law_planned", defArgs s__law_planned, defBody s__law_planned, defScope s__law_planned, [], []⟩
def d__law_plan_right : He.DefD := ⟨("_law_plan_right", none), "_law_plan_right", "_law_plan_right", defArgs s__law_plan_right, defBody s__law_plan_right, defScope s__law_plan_right, [], []⟩
def d_law : He.DefD := ⟨("law", none), "law", "law", defArgs s_law, defBody s_law, defScope s_law, [], []⟩
def d_reading_reading : He.DefD := ⟨("reading_reading", none), "reading", "reading", defArgs s_reading, defBody s_reading, defScope s_reading, [], []⟩
def fn0 : List He.DefD := [d_is_integer, d_is_word, d_is_index, d_is_fault, d_copy_of_address, d_affected_by, d_operator_value, d_store_at, d_is_whole, d_stores_of, d_held, d_reading]
def fn1 : List He.DefD := [d_Machine_init, d_Machine_execute_next, d_Machine_execute, d_Machine_run, d_Machine_changes_anything, d_Machine_note, d_Machine_suffer, d_Machine_strike, d_is_number_below, d_is_register, d_many_sources, d_is_recipe_row]
def fn2 : List He.DefD := [d_is_recipe, d_is_recipes, d_is_number, d_store_addresses, d_counting_rows, d_placed_row, d_choosing_rows, d_piece_p, d_vote_rows, d_piece_q, d_Ring_init, d_Ring_len]
def fn3 : List He.DefD := [d_Ring_piece_at, d_Ring_first_memory, d__law_deck, d__law_draw, d__law_pick, d__law_recipe, d__law_counter, d__law_value, d__law_next, d__law_states, d__law_lengths, d__law_held]
def fn4 : List He.DefD := [d__law_only_states, d__law_is_final, d__law_ran_to, d__law_look_row, d__law_wrong, d__law_in_look, d__law_in_marks, d__law_half_done, d__law_entry, d__law_in_register, d__law_planned, d__law_plan_right]
def fn5 : List He.DefD := [d_law, d_reading_reading]
def fnL : List He.DefD := fn0 ++ (fn1 ++ (fn2 ++ (fn3 ++ (fn4 ++ (fn5)))))
def p_Machine_memory : PrD := ⟨"Machine", "memory", "Machine.memory", defArgs s_Machine_memory, defBody s_Machine_memory, defScope s_Machine_memory⟩
def p_Machine_executed : PrD := ⟨"Machine", "executed", "Machine.executed", defArgs s_Machine_executed, defBody s_Machine_executed, defScope s_Machine_executed⟩
def p_Machine_fault_count : PrD := ⟨"Machine", "fault_count", "Machine.fault_count", defArgs s_Machine_fault_count, defBody s_Machine_fault_count, defScope s_Machine_fault_count⟩
def p_Machine_reading : PrD := ⟨"Machine", "reading", "Machine.reading", defArgs s_Machine_reading, defBody s_Machine_reading, defScope s_Machine_reading⟩
def p_Machine_row : PrD := ⟨"Machine", "row", "Machine.row", defArgs s_Machine_row, defBody s_Machine_row, defScope s_Machine_row⟩
def p_Ring_faults : PrD := ⟨"Ring", "faults", "Ring.faults", defArgs s_Ring_faults, defBody s_Ring_faults, defScope s_Ring_faults⟩
def p_Ring_copies : PrD := ⟨"Ring", "copies", "Ring.copies", defArgs s_Ring_copies, defBody s_Ring_copies, defScope s_Ring_copies⟩
def p_Ring_size : PrD := ⟨"Ring", "size", "Ring.size", defArgs s_Ring_size, defBody s_Ring_size, defScope s_Ring_size⟩
def p_Ring_rows : PrD := ⟨"Ring", "rows", "Ring.rows", defArgs s_Ring_rows, defBody s_Ring_rows, defScope s_Ring_rows⟩
def p_Ring_words : PrD := ⟨"Ring", "words", "Ring.words", defArgs s_Ring_words, defBody s_Ring_words, defScope s_Ring_words⟩
def prL : List PrD := [p_Machine_memory, p_Machine_executed, p_Machine_fault_count, p_Machine_reading, p_Machine_row, p_Ring_faults, p_Ring_copies, p_Ring_size, p_Ring_rows, p_Ring_words]
/-- what is known of the program behind its top -/
structure Fx (K : PySem.W.Frag) (mg : Str → Option Value) : Prop where
  fact : ∀ (i : Nat) {f : He.Fa}, faL[i]? = some f → f.ok K = true
  defs : ∀ (i : Nat) {d : He.DefD}, fnL[i]? = some d → ∃ fd, FunD K d.name d.qual d.params d.body d.scope (d.dvs K) (d.kws K) (He.fAd K d.at_) fd
  props : ∀ (i : Nat) {d : PrD}, prL[i]? = some d → PrOk K d
  ops : SqT K (fun _ => none) (ga K "OPERATORS") [.str "add", .str "sub", .str "mul", .str "div", .str "mod", .str "less", .str "same"]
  regs : ∃ u, Con K (ga K "Ring") "REGISTERS" (.int 32) u
  len : PySem.W.findIn K (.ref (ga K "Ring")) "__len__" = some (some (.ref (ma K (ga K "Ring") "__len__")))
  ne : ga K "Machine" ≠ ga K "Ring"
  h : ∃ h, K.In h ∧ h.Ns mainGlobals mg
section
variable {K : PySem.W.Frag} {mg : Str → Option Value}
theorem Fx.g_is_integer (F : Fx K mg) : mg "is_integer" = some (.ref (ga K "is_integer")) := by
  obtain ⟨h, X, G⟩ := F.h
  exact He.glo_ok X G (F.fact 0 (f := .glo "is_integer") rfl)
theorem Fx.g_is_word (F : Fx K mg) : mg "is_word" = some (.ref (ga K "is_word")) := by
  obtain ⟨h, X, G⟩ := F.h
  exact He.glo_ok X G (F.fact 1 (f := .glo "is_word") rfl)
theorem Fx.g_is_index (F : Fx K mg) : mg "is_index" = some (.ref (ga K "is_index")) := by
  obtain ⟨h, X, G⟩ := F.h
  exact He.glo_ok X G (F.fact 2 (f := .glo "is_index") rfl)
theorem Fx.g_is_fault (F : Fx K mg) : mg "is_fault" = some (.ref (ga K "is_fault")) := by
  obtain ⟨h, X, G⟩ := F.h
  exact He.glo_ok X G (F.fact 3 (f := .glo "is_fault") rfl)
theorem Fx.g_copy_of_address (F : Fx K mg) : mg "copy_of_address" = some (.ref (ga K "copy_of_address")) := by
  obtain ⟨h, X, G⟩ := F.h
  exact He.glo_ok X G (F.fact 4 (f := .glo "copy_of_address") rfl)
theorem Fx.g_affected_by (F : Fx K mg) : mg "affected_by" = some (.ref (ga K "affected_by")) := by
  obtain ⟨h, X, G⟩ := F.h
  exact He.glo_ok X G (F.fact 5 (f := .glo "affected_by") rfl)
theorem Fx.g_operator_value (F : Fx K mg) : mg "operator_value" = some (.ref (ga K "operator_value")) := by
  obtain ⟨h, X, G⟩ := F.h
  exact He.glo_ok X G (F.fact 6 (f := .glo "operator_value") rfl)
theorem Fx.g_store_at (F : Fx K mg) : mg "store_at" = some (.ref (ga K "store_at")) := by
  obtain ⟨h, X, G⟩ := F.h
  exact He.glo_ok X G (F.fact 7 (f := .glo "store_at") rfl)
theorem Fx.g_is_whole (F : Fx K mg) : mg "is_whole" = some (.ref (ga K "is_whole")) := by
  obtain ⟨h, X, G⟩ := F.h
  exact He.glo_ok X G (F.fact 8 (f := .glo "is_whole") rfl)
theorem Fx.g_stores_of (F : Fx K mg) : mg "stores_of" = some (.ref (ga K "stores_of")) := by
  obtain ⟨h, X, G⟩ := F.h
  exact He.glo_ok X G (F.fact 9 (f := .glo "stores_of") rfl)
theorem Fx.g_held (F : Fx K mg) : mg "held" = some (.ref (ga K "held")) := by
  obtain ⟨h, X, G⟩ := F.h
  exact He.glo_ok X G (F.fact 10 (f := .glo "held") rfl)
theorem Fx.g_reading (F : Fx K mg) : mg "reading" = some (.ref (ga K "reading")) := by
  obtain ⟨h, X, G⟩ := F.h
  exact He.glo_ok X G (F.fact 11 (f := .glo "reading") rfl)
theorem Fx.g_is_number_below (F : Fx K mg) : mg "is_number_below" = some (.ref (ga K "is_number_below")) := by
  obtain ⟨h, X, G⟩ := F.h
  exact He.glo_ok X G (F.fact 12 (f := .glo "is_number_below") rfl)
theorem Fx.g_is_register (F : Fx K mg) : mg "is_register" = some (.ref (ga K "is_register")) := by
  obtain ⟨h, X, G⟩ := F.h
  exact He.glo_ok X G (F.fact 13 (f := .glo "is_register") rfl)
theorem Fx.g_many_sources (F : Fx K mg) : mg "many_sources" = some (.ref (ga K "many_sources")) := by
  obtain ⟨h, X, G⟩ := F.h
  exact He.glo_ok X G (F.fact 14 (f := .glo "many_sources") rfl)
theorem Fx.g_is_recipe_row (F : Fx K mg) : mg "is_recipe_row" = some (.ref (ga K "is_recipe_row")) := by
  obtain ⟨h, X, G⟩ := F.h
  exact He.glo_ok X G (F.fact 15 (f := .glo "is_recipe_row") rfl)
theorem Fx.g_is_recipe (F : Fx K mg) : mg "is_recipe" = some (.ref (ga K "is_recipe")) := by
  obtain ⟨h, X, G⟩ := F.h
  exact He.glo_ok X G (F.fact 16 (f := .glo "is_recipe") rfl)
theorem Fx.g_is_recipes (F : Fx K mg) : mg "is_recipes" = some (.ref (ga K "is_recipes")) := by
  obtain ⟨h, X, G⟩ := F.h
  exact He.glo_ok X G (F.fact 17 (f := .glo "is_recipes") rfl)
theorem Fx.g_is_number (F : Fx K mg) : mg "is_number" = some (.ref (ga K "is_number")) := by
  obtain ⟨h, X, G⟩ := F.h
  exact He.glo_ok X G (F.fact 18 (f := .glo "is_number") rfl)
theorem Fx.g_store_addresses (F : Fx K mg) : mg "store_addresses" = some (.ref (ga K "store_addresses")) := by
  obtain ⟨h, X, G⟩ := F.h
  exact He.glo_ok X G (F.fact 19 (f := .glo "store_addresses") rfl)
theorem Fx.g_counting_rows (F : Fx K mg) : mg "counting_rows" = some (.ref (ga K "counting_rows")) := by
  obtain ⟨h, X, G⟩ := F.h
  exact He.glo_ok X G (F.fact 20 (f := .glo "counting_rows") rfl)
theorem Fx.g_placed_row (F : Fx K mg) : mg "placed_row" = some (.ref (ga K "placed_row")) := by
  obtain ⟨h, X, G⟩ := F.h
  exact He.glo_ok X G (F.fact 21 (f := .glo "placed_row") rfl)
theorem Fx.g_choosing_rows (F : Fx K mg) : mg "choosing_rows" = some (.ref (ga K "choosing_rows")) := by
  obtain ⟨h, X, G⟩ := F.h
  exact He.glo_ok X G (F.fact 22 (f := .glo "choosing_rows") rfl)
theorem Fx.g_piece_p (F : Fx K mg) : mg "piece_p" = some (.ref (ga K "piece_p")) := by
  obtain ⟨h, X, G⟩ := F.h
  exact He.glo_ok X G (F.fact 23 (f := .glo "piece_p") rfl)
theorem Fx.g_vote_rows (F : Fx K mg) : mg "vote_rows" = some (.ref (ga K "vote_rows")) := by
  obtain ⟨h, X, G⟩ := F.h
  exact He.glo_ok X G (F.fact 24 (f := .glo "vote_rows") rfl)
theorem Fx.g_piece_q (F : Fx K mg) : mg "piece_q" = some (.ref (ga K "piece_q")) := by
  obtain ⟨h, X, G⟩ := F.h
  exact He.glo_ok X G (F.fact 25 (f := .glo "piece_q") rfl)
theorem Fx.g__law_deck (F : Fx K mg) : mg "_law_deck" = some (.ref (ga K "_law_deck")) := by
  obtain ⟨h, X, G⟩ := F.h
  exact He.glo_ok X G (F.fact 26 (f := .glo "_law_deck") rfl)
theorem Fx.g__law_draw (F : Fx K mg) : mg "_law_draw" = some (.ref (ga K "_law_draw")) := by
  obtain ⟨h, X, G⟩ := F.h
  exact He.glo_ok X G (F.fact 27 (f := .glo "_law_draw") rfl)
theorem Fx.g__law_pick (F : Fx K mg) : mg "_law_pick" = some (.ref (ga K "_law_pick")) := by
  obtain ⟨h, X, G⟩ := F.h
  exact He.glo_ok X G (F.fact 28 (f := .glo "_law_pick") rfl)
theorem Fx.g__law_recipe (F : Fx K mg) : mg "_law_recipe" = some (.ref (ga K "_law_recipe")) := by
  obtain ⟨h, X, G⟩ := F.h
  exact He.glo_ok X G (F.fact 29 (f := .glo "_law_recipe") rfl)
theorem Fx.g__law_counter (F : Fx K mg) : mg "_law_counter" = some (.ref (ga K "_law_counter")) := by
  obtain ⟨h, X, G⟩ := F.h
  exact He.glo_ok X G (F.fact 30 (f := .glo "_law_counter") rfl)
theorem Fx.g__law_value (F : Fx K mg) : mg "_law_value" = some (.ref (ga K "_law_value")) := by
  obtain ⟨h, X, G⟩ := F.h
  exact He.glo_ok X G (F.fact 31 (f := .glo "_law_value") rfl)
theorem Fx.g__law_next (F : Fx K mg) : mg "_law_next" = some (.ref (ga K "_law_next")) := by
  obtain ⟨h, X, G⟩ := F.h
  exact He.glo_ok X G (F.fact 32 (f := .glo "_law_next") rfl)
theorem Fx.g__law_states (F : Fx K mg) : mg "_law_states" = some (.ref (ga K "_law_states")) := by
  obtain ⟨h, X, G⟩ := F.h
  exact He.glo_ok X G (F.fact 33 (f := .glo "_law_states") rfl)
theorem Fx.g__law_lengths (F : Fx K mg) : mg "_law_lengths" = some (.ref (ga K "_law_lengths")) := by
  obtain ⟨h, X, G⟩ := F.h
  exact He.glo_ok X G (F.fact 34 (f := .glo "_law_lengths") rfl)
theorem Fx.g__law_held (F : Fx K mg) : mg "_law_held" = some (.ref (ga K "_law_held")) := by
  obtain ⟨h, X, G⟩ := F.h
  exact He.glo_ok X G (F.fact 35 (f := .glo "_law_held") rfl)
theorem Fx.g__law_only_states (F : Fx K mg) : mg "_law_only_states" = some (.ref (ga K "_law_only_states")) := by
  obtain ⟨h, X, G⟩ := F.h
  exact He.glo_ok X G (F.fact 36 (f := .glo "_law_only_states") rfl)
theorem Fx.g__law_is_final (F : Fx K mg) : mg "_law_is_final" = some (.ref (ga K "_law_is_final")) := by
  obtain ⟨h, X, G⟩ := F.h
  exact He.glo_ok X G (F.fact 37 (f := .glo "_law_is_final") rfl)
theorem Fx.g__law_ran_to (F : Fx K mg) : mg "_law_ran_to" = some (.ref (ga K "_law_ran_to")) := by
  obtain ⟨h, X, G⟩ := F.h
  exact He.glo_ok X G (F.fact 38 (f := .glo "_law_ran_to") rfl)
theorem Fx.g__law_look_row (F : Fx K mg) : mg "_law_look_row" = some (.ref (ga K "_law_look_row")) := by
  obtain ⟨h, X, G⟩ := F.h
  exact He.glo_ok X G (F.fact 39 (f := .glo "_law_look_row") rfl)
theorem Fx.g__law_wrong (F : Fx K mg) : mg "_law_wrong" = some (.ref (ga K "_law_wrong")) := by
  obtain ⟨h, X, G⟩ := F.h
  exact He.glo_ok X G (F.fact 40 (f := .glo "_law_wrong") rfl)
theorem Fx.g__law_in_look (F : Fx K mg) : mg "_law_in_look" = some (.ref (ga K "_law_in_look")) := by
  obtain ⟨h, X, G⟩ := F.h
  exact He.glo_ok X G (F.fact 41 (f := .glo "_law_in_look") rfl)
theorem Fx.g__law_in_marks (F : Fx K mg) : mg "_law_in_marks" = some (.ref (ga K "_law_in_marks")) := by
  obtain ⟨h, X, G⟩ := F.h
  exact He.glo_ok X G (F.fact 42 (f := .glo "_law_in_marks") rfl)
theorem Fx.g__law_half_done (F : Fx K mg) : mg "_law_half_done" = some (.ref (ga K "_law_half_done")) := by
  obtain ⟨h, X, G⟩ := F.h
  exact He.glo_ok X G (F.fact 43 (f := .glo "_law_half_done") rfl)
theorem Fx.g__law_entry (F : Fx K mg) : mg "_law_entry" = some (.ref (ga K "_law_entry")) := by
  obtain ⟨h, X, G⟩ := F.h
  exact He.glo_ok X G (F.fact 44 (f := .glo "_law_entry") rfl)
theorem Fx.g__law_in_register (F : Fx K mg) : mg "_law_in_register" = some (.ref (ga K "_law_in_register")) := by
  obtain ⟨h, X, G⟩ := F.h
  exact He.glo_ok X G (F.fact 45 (f := .glo "_law_in_register") rfl)
theorem Fx.g__law_planned (F : Fx K mg) : mg "_law_planned" = some (.ref (ga K "_law_planned")) := by
  obtain ⟨h, X, G⟩ := F.h
  exact He.glo_ok X G (F.fact 46 (f := .glo "_law_planned") rfl)
theorem Fx.g__law_plan_right (F : Fx K mg) : mg "_law_plan_right" = some (.ref (ga K "_law_plan_right")) := by
  obtain ⟨h, X, G⟩ := F.h
  exact He.glo_ok X G (F.fact 47 (f := .glo "_law_plan_right") rfl)
theorem Fx.g_law (F : Fx K mg) : mg "law" = some (.ref (ga K "law")) := by
  obtain ⟨h, X, G⟩ := F.h
  exact He.glo_ok X G (F.fact 48 (f := .glo "law") rfl)
theorem Fx.g_reading_reading (F : Fx K mg) : mg "reading_reading" = some (.ref (ga K "reading_reading")) := by
  obtain ⟨h, X, G⟩ := F.h
  exact He.glo_ok X G (F.fact 49 (f := .glo "reading_reading") rfl)
theorem Fx.g_Machine (F : Fx K mg) : mg "Machine" = some (.ref (ga K "Machine")) := by
  obtain ⟨h, X, G⟩ := F.h
  exact He.glo_ok X G (F.fact 50 (f := .glo "Machine") rfl)
theorem Fx.g_Ring (F : Fx K mg) : mg "Ring" = some (.ref (ga K "Ring")) := by
  obtain ⟨h, X, G⟩ := F.h
  exact He.glo_ok X G (F.fact 51 (f := .glo "Ring") rfl)
theorem Fx.g_OPERATORS (F : Fx K mg) : mg "OPERATORS" = some (.ref (ga K "OPERATORS")) := by
  obtain ⟨h, X, G⟩ := F.h
  exact He.glo_ok X G (F.fact 52 (f := .glo "OPERATORS") rfl)
theorem Fx.b_len (F : Fx K mg) : mg "len" = none := by
  obtain ⟨h, X, G⟩ := F.h
  exact He.free_ok X G (F.fact 53 (f := .free "len") rfl)
theorem Fx.b_range (F : Fx K mg) : mg "range" = none := by
  obtain ⟨h, X, G⟩ := F.h
  exact He.free_ok X G (F.fact 54 (f := .free "range") rfl)
theorem Fx.b_tuple (F : Fx K mg) : mg "tuple" = none := by
  obtain ⟨h, X, G⟩ := F.h
  exact He.free_ok X G (F.fact 55 (f := .free "tuple") rfl)
theorem Fx.b_list (F : Fx K mg) : mg "list" = none := by
  obtain ⟨h, X, G⟩ := F.h
  exact He.free_ok X G (F.fact 56 (f := .free "list") rfl)
theorem Fx.b_isinstance (F : Fx K mg) : mg "isinstance" = none := by
  obtain ⟨h, X, G⟩ := F.h
  exact He.free_ok X G (F.fact 57 (f := .free "isinstance") rfl)
theorem Fx.b_all (F : Fx K mg) : mg "all" = none := by
  obtain ⟨h, X, G⟩ := F.h
  exact He.free_ok X G (F.fact 58 (f := .free "all") rfl)
theorem Fx.b_int (F : Fx K mg) : mg "int" = none := by
  obtain ⟨h, X, G⟩ := F.h
  exact He.free_ok X G (F.fact 59 (f := .free "int") rfl)
theorem Fx.b_sorted (F : Fx K mg) : mg "sorted" = none := by
  obtain ⟨h, X, G⟩ := F.h
  exact He.free_ok X G (F.fact 60 (f := .free "sorted") rfl)
theorem Fx.b_max (F : Fx K mg) : mg "max" = none := by
  obtain ⟨h, X, G⟩ := F.h
  exact He.free_ok X G (F.fact 61 (f := .free "max") rfl)
theorem Fx.b_min (F : Fx K mg) : mg "min" = none := by
  obtain ⟨h, X, G⟩ := F.h
  exact He.free_ok X G (F.fact 62 (f := .free "min") rfl)
theorem Fx.b_sum (F : Fx K mg) : mg "sum" = none := by
  obtain ⟨h, X, G⟩ := F.h
  exact He.free_ok X G (F.fact 63 (f := .free "sum") rfl)
theorem Fx.b_enumerate (F : Fx K mg) : mg "enumerate" = none := by
  obtain ⟨h, X, G⟩ := F.h
  exact He.free_ok X G (F.fact 64 (f := .free "enumerate") rfl)
theorem Fx.b_repr (F : Fx K mg) : mg "repr" = none := by
  obtain ⟨h, X, G⟩ := F.h
  exact He.free_ok X G (F.fact 65 (f := .free "repr") rfl)
theorem Fx.b_bool (F : Fx K mg) : mg "bool" = none := by
  obtain ⟨h, X, G⟩ := F.h
  exact He.free_ok X G (F.fact 66 (f := .free "bool") rfl)
theorem Fx.b_str (F : Fx K mg) : mg "str" = none := by
  obtain ⟨h, X, G⟩ := F.h
  exact He.free_ok X G (F.fact 67 (f := .free "str") rfl)
theorem Fx.i_GREATEST_WORD (F : Fx K mg) : ∃ t, mg "GREATEST_WORD" = some (.int 999999 t) := by
  obtain ⟨h, X, G⟩ := F.h
  exact He.int_ok X G (F.fact 68 (f := .int "GREATEST_WORD" 999999) rfl)
theorem Fx.i_STORES_faults (F : Fx K mg) : ∃ t, mg "STORES_faults" = some (.int 4 t) := by
  obtain ⟨h, X, G⟩ := F.h
  exact He.int_ok X G (F.fact 69 (f := .int "STORES_faults" 4) rfl)
theorem Fx.i_PARTS (F : Fx K mg) : ∃ t, mg "PARTS" = some (.int 3 t) := by
  obtain ⟨h, X, G⟩ := F.h
  exact He.int_ok X G (F.fact 70 (f := .int "PARTS" 3) rfl)
theorem Fx.i_ROW_PARTS (F : Fx K mg) : ∃ t, mg "ROW_PARTS" = some (.int 2 t) := by
  obtain ⟨h, X, G⟩ := F.h
  exact He.int_ok X G (F.fact 71 (f := .int "ROW_PARTS" 2) rfl)
theorem Fx.i_SIZE_OF_WORDS (F : Fx K mg) : ∃ t, mg "SIZE_OF_WORDS" = some (.int 1000000 t) := by
  obtain ⟨h, X, G⟩ := F.h
  exact He.int_ok X G (F.fact 72 (f := .int "SIZE_OF_WORDS" 1000000) rfl)
theorem Fx.i_STORES_reading (F : Fx K mg) : ∃ t, mg "STORES_reading" = some (.int 4 t) := by
  obtain ⟨h, X, G⟩ := F.h
  exact He.int_ok X G (F.fact 73 (f := .int "STORES_reading" 4) rfl)
theorem Fx.i_RECIPE_REGISTERS (F : Fx K mg) : ∃ t, mg "RECIPE_REGISTERS" = some (.int 24 t) := by
  obtain ⟨h, X, G⟩ := F.h
  exact He.int_ok X G (F.fact 74 (f := .int "RECIPE_REGISTERS" 24) rfl)
theorem Fx.i_RECIPE_PARTS (F : Fx K mg) : ∃ t, mg "RECIPE_PARTS" = some (.int 2 t) := by
  obtain ⟨h, X, G⟩ := F.h
  exact He.int_ok X G (F.fact 75 (f := .int "RECIPE_PARTS" 2) rfl)
theorem Fx.i_INVALID (F : Fx K mg) : ∃ t, mg "INVALID" = some (.int 999999 t) := by
  obtain ⟨h, X, G⟩ := F.h
  exact He.int_ok X G (F.fact 76 (f := .int "INVALID" 999999) rfl)
theorem Fx.i_MOST_FAULTS (F : Fx K mg) : ∃ t, mg "MOST_FAULTS" = some (.int 3 t) := by
  obtain ⟨h, X, G⟩ := F.h
  exact He.int_ok X G (F.fact 77 (f := .int "MOST_FAULTS" 3) rfl)
theorem Fx.i_MOST_COPIES (F : Fx K mg) : ∃ t, mg "MOST_COPIES" = some (.int 16 t) := by
  obtain ⟨h, X, G⟩ := F.h
  exact He.int_ok X G (F.fact 78 (f := .int "MOST_COPIES" 16) rfl)
theorem Fx.i_STORES_rings (F : Fx K mg) : ∃ t, mg "STORES_rings" = some (.int 4 t) := by
  obtain ⟨h, X, G⟩ := F.h
  exact He.int_ok X G (F.fact 79 (f := .int "STORES_rings" 4) rfl)
theorem Fx.t_WORD (F : Fx K mg) : ∃ t, mg "WORD" = some (.str "word" t) := by
  obtain ⟨h, X, G⟩ := F.h
  exact He.str_ok X G (F.fact 80 (f := .str "WORD" "word") rfl)
theorem Fx.t_REGISTER (F : Fx K mg) : ∃ t, mg "REGISTER" = some (.str "register" t) := by
  obtain ⟨h, X, G⟩ := F.h
  exact He.str_ok X G (F.fact 81 (f := .str "REGISTER" "register") rfl)
theorem Fx.t_ROW (F : Fx K mg) : ∃ t, mg "ROW" = some (.str "row" t) := by
  obtain ⟨h, X, G⟩ := F.h
  exact He.str_ok X G (F.fact 82 (f := .str "ROW" "row") rfl)
theorem Fx.t_SET (F : Fx K mg) : ∃ t, mg "SET" = some (.str "set" t) := by
  obtain ⟨h, X, G⟩ := F.h
  exact He.str_ok X G (F.fact 83 (f := .str "SET" "set") rfl)
theorem Fx.t_LOAD (F : Fx K mg) : ∃ t, mg "LOAD" = some (.str "load" t) := by
  obtain ⟨h, X, G⟩ := F.h
  exact He.str_ok X G (F.fact 84 (f := .str "LOAD" "load") rfl)
theorem Fx.t_CHOOSE (F : Fx K mg) : ∃ t, mg "CHOOSE" = some (.str "choose" t) := by
  obtain ⟨h, X, G⟩ := F.h
  exact He.str_ok X G (F.fact 85 (f := .str "CHOOSE" "choose") rfl)
theorem Fx.c_Machine (F : Fx K mg) : Cls K (ga K "Machine") := He.cls_ok (F.fact 86 (f := .cls "Machine") rfl)
theorem Fx.n_ring_executed (F : Fx K mg) : NoAttr K (ga K "Machine") "ring_executed" := He.noat_ok (F.fact 87 (f := .noat "Machine" "ring_executed") rfl)
theorem Fx.n_rows_listed (F : Fx K mg) : NoAttr K (ga K "Machine") "rows_listed" := He.noat_ok (F.fact 88 (f := .noat "Machine" "rows_listed") rfl)
theorem Fx.n_memory_words (F : Fx K mg) : NoAttr K (ga K "Machine") "memory_words" := He.noat_ok (F.fact 89 (f := .noat "Machine" "memory_words") rfl)
theorem Fx.n_register_words (F : Fx K mg) : NoAttr K (ga K "Machine") "register_words" := He.noat_ok (F.fact 90 (f := .noat "Machine" "register_words") rfl)
theorem Fx.n_next_row (F : Fx K mg) : NoAttr K (ga K "Machine") "next_row" := He.noat_ok (F.fact 91 (f := .noat "Machine" "next_row") rfl)
theorem Fx.n_rows_done (F : Fx K mg) : NoAttr K (ga K "Machine") "rows_done" := He.noat_ok (F.fact 92 (f := .noat "Machine" "rows_done") rfl)
theorem Fx.n_faults_done (F : Fx K mg) : NoAttr K (ga K "Machine") "faults_done" := He.noat_ok (F.fact 93 (f := .noat "Machine" "faults_done") rfl)
theorem Fx.n_copies_affected (F : Fx K mg) : NoAttr K (ga K "Machine") "copies_affected" := He.noat_ok (F.fact 94 (f := .noat "Machine" "copies_affected") rfl)
theorem Fx.m_Machine_execute_next (F : Fx K mg) : Meth K (ga K "Machine") "execute_next" (ma K (ga K "Machine") "execute_next") := He.meth_ok (F.fact 95 (f := .meth "Machine" "execute_next") rfl)
theorem Fx.m_Machine_execute (F : Fx K mg) : Meth K (ga K "Machine") "execute" (ma K (ga K "Machine") "execute") := He.meth_ok (F.fact 96 (f := .meth "Machine" "execute") rfl)
theorem Fx.m_Machine_run (F : Fx K mg) : Meth K (ga K "Machine") "run" (ma K (ga K "Machine") "run") := He.meth_ok (F.fact 97 (f := .meth "Machine" "run") rfl)
theorem Fx.m_Machine_changes_anything (F : Fx K mg) : Meth K (ga K "Machine") "changes_anything" (ma K (ga K "Machine") "changes_anything") := He.meth_ok (F.fact 98 (f := .meth "Machine" "changes_anything") rfl)
theorem Fx.m_Machine_note (F : Fx K mg) : Meth K (ga K "Machine") "note" (ma K (ga K "Machine") "note") := He.meth_ok (F.fact 99 (f := .meth "Machine" "note") rfl)
theorem Fx.m_Machine_suffer (F : Fx K mg) : Meth K (ga K "Machine") "suffer" (ma K (ga K "Machine") "suffer") := He.meth_ok (F.fact 100 (f := .meth "Machine" "suffer") rfl)
theorem Fx.m_Machine_strike (F : Fx K mg) : Meth K (ga K "Machine") "strike" (ma K (ga K "Machine") "strike") := He.meth_ok (F.fact 101 (f := .meth "Machine" "strike") rfl)
theorem Fx.k_Machine (F : Fx K mg) : Mk K (ga K "Machine") (ma K (ga K "Machine") "__init__") := He.mkr_ok (F.fact 102 (f := .mkr "Machine") rfl)
theorem Fx.c_Ring (F : Fx K mg) : Cls K (ga K "Ring") := He.cls_ok (F.fact 103 (f := .cls "Ring") rfl)
theorem Fx.n_recipes_given (F : Fx K mg) : NoAttr K (ga K "Ring") "recipes_given" := He.noat_ok (F.fact 104 (f := .noat "Ring" "recipes_given") rfl)
theorem Fx.n_faults_withstood (F : Fx K mg) : NoAttr K (ga K "Ring") "faults_withstood" := He.noat_ok (F.fact 105 (f := .noat "Ring" "faults_withstood") rfl)
theorem Fx.n_copy_count (F : Fx K mg) : NoAttr K (ga K "Ring") "copy_count" := He.noat_ok (F.fact 106 (f := .noat "Ring" "copy_count") rfl)
theorem Fx.n_piece_lengths (F : Fx K mg) : NoAttr K (ga K "Ring") "piece_lengths" := He.noat_ok (F.fact 107 (f := .noat "Ring" "piece_lengths") rfl)
theorem Fx.n_row_list (F : Fx K mg) : NoAttr K (ga K "Ring") "row_list" := He.noat_ok (F.fact 108 (f := .noat "Ring" "row_list") rfl)
theorem Fx.m_Ring_len (F : Fx K mg) : Meth K (ga K "Ring") "__len__" (ma K (ga K "Ring") "__len__") := He.meth_ok (F.fact 109 (f := .meth "Ring" "__len__") rfl)
theorem Fx.m_Ring_piece_at (F : Fx K mg) : Meth K (ga K "Ring") "piece_at" (ma K (ga K "Ring") "piece_at") := He.meth_ok (F.fact 110 (f := .meth "Ring" "piece_at") rfl)
theorem Fx.m_Ring_first_memory (F : Fx K mg) : Meth K (ga K "Ring") "first_memory" (ma K (ga K "Ring") "first_memory") := He.meth_ok (F.fact 111 (f := .meth "Ring" "first_memory") rfl)
theorem Fx.k_Ring (F : Fx K mg) : Mk K (ga K "Ring") (ma K (ga K "Ring") "__init__") := He.mkr_ok (F.fact 112 (f := .mkr "Ring") rfl)
theorem Fx.f_is_integer (F : Fx K mg) : ∃ fd, FunD K "is_integer" "is_integer" (defArgs s_is_integer) (defBody s_is_integer) (defScope s_is_integer) [] [] (ga K "is_integer") fd := F.defs 0 (d := d_is_integer) rfl
theorem Fx.f_is_word (F : Fx K mg) : ∃ fd, FunD K "is_word" "is_word" (defArgs s_is_word) (defBody s_is_word) (defScope s_is_word) [] [] (ga K "is_word") fd := F.defs 1 (d := d_is_word) rfl
theorem Fx.f_is_index (F : Fx K mg) : ∃ fd, FunD K "is_index" "is_index" (defArgs s_is_index) (defBody s_is_index) (defScope s_is_index) [] [] (ga K "is_index") fd := F.defs 2 (d := d_is_index) rfl
theorem Fx.f_is_fault (F : Fx K mg) : ∃ fd, FunD K "is_fault" "is_fault" (defArgs s_is_fault) (defBody s_is_fault) (defScope s_is_fault) [] [] (ga K "is_fault") fd := F.defs 3 (d := d_is_fault) rfl
theorem Fx.f_copy_of_address (F : Fx K mg) : ∃ fd, FunD K "copy_of_address" "copy_of_address" (defArgs s_copy_of_address) (defBody s_copy_of_address) (defScope s_copy_of_address) [] [] (ga K "copy_of_address") fd := F.defs 4 (d := d_copy_of_address) rfl
theorem Fx.f_affected_by (F : Fx K mg) : ∃ fd, FunD K "affected_by" "affected_by" (defArgs s_affected_by) (defBody s_affected_by) (defScope s_affected_by) [] [] (ga K "affected_by") fd := F.defs 5 (d := d_affected_by) rfl
theorem Fx.f_operator_value (F : Fx K mg) : ∃ fd, FunD K "operator_value" "operator_value" (defArgs s_operator_value) (defBody s_operator_value) (defScope s_operator_value) [] [] (ga K "operator_value") fd := F.defs 6 (d := d_operator_value) rfl
theorem Fx.f_store_at (F : Fx K mg) : ∃ fd, FunD K "store_at" "store_at" (defArgs s_store_at) (defBody s_store_at) (defScope s_store_at) [] [] (ga K "store_at") fd := F.defs 7 (d := d_store_at) rfl
theorem Fx.f_is_whole (F : Fx K mg) : ∃ fd, FunD K "is_whole" "is_whole" (defArgs s_is_whole) (defBody s_is_whole) (defScope s_is_whole) [] [] (ga K "is_whole") fd := F.defs 8 (d := d_is_whole) rfl
theorem Fx.f_stores_of (F : Fx K mg) : ∃ fd, FunD K "stores_of" "stores_of" (defArgs s_stores_of) (defBody s_stores_of) (defScope s_stores_of) [] [] (ga K "stores_of") fd := F.defs 9 (d := d_stores_of) rfl
theorem Fx.f_held (F : Fx K mg) : ∃ fd, FunD K "held" "held" (defArgs s_held) (defBody s_held) (defScope s_held) [] [] (ga K "held") fd := F.defs 10 (d := d_held) rfl
theorem Fx.f_reading (F : Fx K mg) : ∃ fd, FunD K "reading" "reading" (defArgs s_reading) (defBody s_reading) (defScope s_reading) [] [] (ga K "reading") fd := F.defs 11 (d := d_reading) rfl
theorem Fx.f_Machine_init (F : Fx K mg) : ∃ fd, FunD K "__init__" "Machine.__init__" (defArgs s_Machine_init) (defBody s_Machine_init) (defScope s_Machine_init) [] [] (ma K (ga K "Machine") "__init__") fd := F.defs 12 (d := d_Machine_init) rfl
theorem Fx.f_Machine_execute_next (F : Fx K mg) : ∃ fd, FunD K "execute_next" "Machine.execute_next" (defArgs s_Machine_execute_next) (defBody s_Machine_execute_next) (defScope s_Machine_execute_next) [] [] (ma K (ga K "Machine") "execute_next") fd := F.defs 13 (d := d_Machine_execute_next) rfl
theorem Fx.f_Machine_execute (F : Fx K mg) : ∃ fd, FunD K "execute" "Machine.execute" (defArgs s_Machine_execute) (defBody s_Machine_execute) (defScope s_Machine_execute) [] [] (ma K (ga K "Machine") "execute") fd := F.defs 14 (d := d_Machine_execute) rfl
theorem Fx.f_Machine_run (F : Fx K mg) : ∃ fd, FunD K "run" "Machine.run" (defArgs s_Machine_run) (defBody s_Machine_run) (defScope s_Machine_run) [] [] (ma K (ga K "Machine") "run") fd := F.defs 15 (d := d_Machine_run) rfl
theorem Fx.f_Machine_changes_anything (F : Fx K mg) : ∃ fd, FunD K "changes_anything" "Machine.changes_anything" (defArgs s_Machine_changes_anything) (defBody s_Machine_changes_anything) (defScope s_Machine_changes_anything) [] [] (ma K (ga K "Machine") "changes_anything") fd := F.defs 16 (d := d_Machine_changes_anything) rfl
theorem Fx.f_Machine_note (F : Fx K mg) : ∃ fd, FunD K "note" "Machine.note" (defArgs s_Machine_note) (defBody s_Machine_note) (defScope s_Machine_note) [] [] (ma K (ga K "Machine") "note") fd := F.defs 17 (d := d_Machine_note) rfl
theorem Fx.f_Machine_suffer (F : Fx K mg) : ∃ fd, FunD K "suffer" "Machine.suffer" (defArgs s_Machine_suffer) (defBody s_Machine_suffer) (defScope s_Machine_suffer) [] [] (ma K (ga K "Machine") "suffer") fd := F.defs 18 (d := d_Machine_suffer) rfl
theorem Fx.f_Machine_strike (F : Fx K mg) : ∃ fd, FunD K "strike" "Machine.strike" (defArgs s_Machine_strike) (defBody s_Machine_strike) (defScope s_Machine_strike) [] [] (ma K (ga K "Machine") "strike") fd := F.defs 19 (d := d_Machine_strike) rfl
theorem Fx.f_is_number_below (F : Fx K mg) : ∃ fd, FunD K "is_number_below" "is_number_below" (defArgs s_is_number_below) (defBody s_is_number_below) (defScope s_is_number_below) [] [] (ga K "is_number_below") fd := F.defs 20 (d := d_is_number_below) rfl
theorem Fx.f_is_register (F : Fx K mg) : ∃ fd, FunD K "is_register" "is_register" (defArgs s_is_register) (defBody s_is_register) (defScope s_is_register) [] [] (ga K "is_register") fd := F.defs 21 (d := d_is_register) rfl
theorem Fx.f_many_sources (F : Fx K mg) : ∃ fd, FunD K "many_sources" "many_sources" (defArgs s_many_sources) (defBody s_many_sources) (defScope s_many_sources) [] [] (ga K "many_sources") fd := F.defs 22 (d := d_many_sources) rfl
theorem Fx.f_is_recipe_row (F : Fx K mg) : ∃ fd, FunD K "is_recipe_row" "is_recipe_row" (defArgs s_is_recipe_row) (defBody s_is_recipe_row) (defScope s_is_recipe_row) [] [] (ga K "is_recipe_row") fd := F.defs 23 (d := d_is_recipe_row) rfl
theorem Fx.f_is_recipe (F : Fx K mg) : ∃ fd, FunD K "is_recipe" "is_recipe" (defArgs s_is_recipe) (defBody s_is_recipe) (defScope s_is_recipe) [] [] (ga K "is_recipe") fd := F.defs 24 (d := d_is_recipe) rfl
theorem Fx.f_is_recipes (F : Fx K mg) : ∃ fd, FunD K "is_recipes" "is_recipes" (defArgs s_is_recipes) (defBody s_is_recipes) (defScope s_is_recipes) [] [] (ga K "is_recipes") fd := F.defs 25 (d := d_is_recipes) rfl
theorem Fx.f_is_number (F : Fx K mg) : ∃ fd, FunD K "is_number" "is_number" (defArgs s_is_number) (defBody s_is_number) (defScope s_is_number) [] [] (ga K "is_number") fd := F.defs 26 (d := d_is_number) rfl
theorem Fx.f_store_addresses (F : Fx K mg) : ∃ fd, FunD K "store_addresses" "store_addresses" (defArgs s_store_addresses) (defBody s_store_addresses) (defScope s_store_addresses) [] [] (ga K "store_addresses") fd := F.defs 27 (d := d_store_addresses) rfl
theorem Fx.f_counting_rows (F : Fx K mg) : ∃ fd, FunD K "counting_rows" "counting_rows" (defArgs s_counting_rows) (defBody s_counting_rows) (defScope s_counting_rows) [] [] (ga K "counting_rows") fd := F.defs 28 (d := d_counting_rows) rfl
theorem Fx.f_placed_row (F : Fx K mg) : ∃ fd, FunD K "placed_row" "placed_row" (defArgs s_placed_row) (defBody s_placed_row) (defScope s_placed_row) [] [] (ga K "placed_row") fd := F.defs 29 (d := d_placed_row) rfl
theorem Fx.f_choosing_rows (F : Fx K mg) : ∃ fd, FunD K "choosing_rows" "choosing_rows" (defArgs s_choosing_rows) (defBody s_choosing_rows) (defScope s_choosing_rows) [] [] (ga K "choosing_rows") fd := F.defs 30 (d := d_choosing_rows) rfl
theorem Fx.f_piece_p (F : Fx K mg) : ∃ fd, FunD K "piece_p" "piece_p" (defArgs s_piece_p) (defBody s_piece_p) (defScope s_piece_p) [] [] (ga K "piece_p") fd := F.defs 31 (d := d_piece_p) rfl
theorem Fx.f_vote_rows (F : Fx K mg) : ∃ fd, FunD K "vote_rows" "vote_rows" (defArgs s_vote_rows) (defBody s_vote_rows) (defScope s_vote_rows) [] [] (ga K "vote_rows") fd := F.defs 32 (d := d_vote_rows) rfl
theorem Fx.f_piece_q (F : Fx K mg) : ∃ fd, FunD K "piece_q" "piece_q" (defArgs s_piece_q) (defBody s_piece_q) (defScope s_piece_q) [] [] (ga K "piece_q") fd := F.defs 33 (d := d_piece_q) rfl
theorem Fx.f_Ring_init (F : Fx K mg) : ∃ fd, FunD K "__init__" "Ring.__init__" (defArgs s_Ring_init) (defBody s_Ring_init) (defScope s_Ring_init) [] ((d_Ring_init).kws K) (ma K (ga K "Ring") "__init__") fd := F.defs 34 (d := d_Ring_init) rfl
theorem Fx.f_Ring_len (F : Fx K mg) : ∃ fd, FunD K "__len__" "Ring.__len__" (defArgs s_Ring_len) (defBody s_Ring_len) (defScope s_Ring_len) [] [] (ma K (ga K "Ring") "__len__") fd := F.defs 35 (d := d_Ring_len) rfl
theorem Fx.f_Ring_piece_at (F : Fx K mg) : ∃ fd, FunD K "piece_at" "Ring.piece_at" (defArgs s_Ring_piece_at) (defBody s_Ring_piece_at) (defScope s_Ring_piece_at) [] [] (ma K (ga K "Ring") "piece_at") fd := F.defs 36 (d := d_Ring_piece_at) rfl
theorem Fx.f_Ring_first_memory (F : Fx K mg) : ∃ fd, FunD K "first_memory" "Ring.first_memory" (defArgs s_Ring_first_memory) (defBody s_Ring_first_memory) (defScope s_Ring_first_memory) [] [] (ma K (ga K "Ring") "first_memory") fd := F.defs 37 (d := d_Ring_first_memory) rfl
theorem Fx.f__law_deck (F : Fx K mg) : ∃ fd, FunD K "_law_deck" "_law_deck" (defArgs s__law_deck) (defBody s__law_deck) (defScope s__law_deck) [] [] (ga K "_law_deck") fd := F.defs 38 (d := d__law_deck) rfl
theorem Fx.f__law_draw (F : Fx K mg) : ∃ fd, FunD K "_law_draw" "_law_draw" (defArgs s__law_draw) (defBody s__law_draw) (defScope s__law_draw) [] [] (ga K "_law_draw") fd := F.defs 39 (d := d__law_draw) rfl
theorem Fx.f__law_pick (F : Fx K mg) : ∃ fd, FunD K "_law_pick" "_law_pick" (defArgs s__law_pick) (defBody s__law_pick) (defScope s__law_pick) [] [] (ga K "_law_pick") fd := F.defs 40 (d := d__law_pick) rfl
theorem Fx.f__law_recipe (F : Fx K mg) : ∃ fd, FunD K "_law_recipe" "_law_recipe" (defArgs s__law_recipe) (defBody s__law_recipe) (defScope s__law_recipe) [] [] (ga K "_law_recipe") fd := F.defs 41 (d := d__law_recipe) rfl
theorem Fx.f__law_counter (F : Fx K mg) : ∃ fd, FunD K "_law_counter" "_law_counter" (defArgs s__law_counter) (defBody s__law_counter) (defScope s__law_counter) [] [] (ga K "_law_counter") fd := F.defs 42 (d := d__law_counter) rfl
theorem Fx.f__law_value (F : Fx K mg) : ∃ fd, FunD K "_law_value" "_law_value" (defArgs s__law_value) (defBody s__law_value) (defScope s__law_value) [] [] (ga K "_law_value") fd := F.defs 43 (d := d__law_value) rfl
theorem Fx.f__law_next (F : Fx K mg) : ∃ fd, FunD K "_law_next" "_law_next" (defArgs s__law_next) (defBody s__law_next) (defScope s__law_next) [] [] (ga K "_law_next") fd := F.defs 44 (d := d__law_next) rfl
theorem Fx.f__law_states (F : Fx K mg) : ∃ fd, FunD K "_law_states" "_law_states" (defArgs s__law_states) (defBody s__law_states) (defScope s__law_states) [] [] (ga K "_law_states") fd := F.defs 45 (d := d__law_states) rfl
theorem Fx.f__law_lengths (F : Fx K mg) : ∃ fd, FunD K "_law_lengths" "_law_lengths" (defArgs s__law_lengths) (defBody s__law_lengths) (defScope s__law_lengths) [] [] (ga K "_law_lengths") fd := F.defs 46 (d := d__law_lengths) rfl
theorem Fx.f__law_held (F : Fx K mg) : ∃ fd, FunD K "_law_held" "_law_held" (defArgs s__law_held) (defBody s__law_held) (defScope s__law_held) [] [] (ga K "_law_held") fd := F.defs 47 (d := d__law_held) rfl
theorem Fx.f__law_only_states (F : Fx K mg) : ∃ fd, FunD K "_law_only_states" "_law_only_states" (defArgs s__law_only_states) (defBody s__law_only_states) (defScope s__law_only_states) [] [] (ga K "_law_only_states") fd := F.defs 48 (d := d__law_only_states) rfl
theorem Fx.f__law_is_final (F : Fx K mg) : ∃ fd, FunD K "_law_is_final" "_law_is_final" (defArgs s__law_is_final) (defBody s__law_is_final) (defScope s__law_is_final) [] [] (ga K "_law_is_final") fd := F.defs 49 (d := d__law_is_final) rfl
theorem Fx.f__law_ran_to (F : Fx K mg) : ∃ fd, FunD K "_law_ran_to" "_law_ran_to" (defArgs s__law_ran_to) (defBody s__law_ran_to) (defScope s__law_ran_to) [] [] (ga K "_law_ran_to") fd := F.defs 50 (d := d__law_ran_to) rfl
theorem Fx.f__law_look_row (F : Fx K mg) : ∃ fd, FunD K "_law_look_row" "_law_look_row" (defArgs s__law_look_row) (defBody s__law_look_row) (defScope s__law_look_row) [] [] (ga K "_law_look_row") fd := F.defs 51 (d := d__law_look_row) rfl
theorem Fx.f__law_wrong (F : Fx K mg) : ∃ fd, FunD K "_law_wrong" "_law_wrong" (defArgs s__law_wrong) (defBody s__law_wrong) (defScope s__law_wrong) [] [] (ga K "_law_wrong") fd := F.defs 52 (d := d__law_wrong) rfl
theorem Fx.f__law_in_look (F : Fx K mg) : ∃ fd, FunD K "_law_in_look" "_law_in_look" (defArgs s__law_in_look) (defBody s__law_in_look) (defScope s__law_in_look) [] [] (ga K "_law_in_look") fd := F.defs 53 (d := d__law_in_look) rfl
theorem Fx.f__law_in_marks (F : Fx K mg) : ∃ fd, FunD K "_law_in_marks" "_law_in_marks" (defArgs s__law_in_marks) (defBody s__law_in_marks) (defScope s__law_in_marks) [] [] (ga K "_law_in_marks") fd := F.defs 54 (d := d__law_in_marks) rfl
theorem Fx.f__law_half_done (F : Fx K mg) : ∃ fd, FunD K "_law_half_done" "_law_half_done" (defArgs s__law_half_done) (defBody s__law_half_done) (defScope s__law_half_done) [] [] (ga K "_law_half_done") fd := F.defs 55 (d := d__law_half_done) rfl
theorem Fx.f__law_entry (F : Fx K mg) : ∃ fd, FunD K "_law_entry" "_law_entry" (defArgs s__law_entry) (defBody s__law_entry) (defScope s__law_entry) [] [] (ga K "_law_entry") fd := F.defs 56 (d := d__law_entry) rfl
theorem Fx.f__law_in_register (F : Fx K mg) : ∃ fd, FunD K "_law_in_register" "_law_in_register" (defArgs s__law_in_register) (defBody s__law_in_register) (defScope s__law_in_register) [] [] (ga K "_law_in_register") fd := F.defs 57 (d := d__law_in_register) rfl
theorem Fx.f__law_planned (F : Fx K mg) : ∃ fd, FunD K "_law_planned" "_law_planned" (defArgs s__law_planned) (defBody s__law_planned) (defScope s__law_planned) [] [] (ga K "_law_planned") fd := F.defs 58 (d := d__law_planned) rfl
theorem Fx.f__law_plan_right (F : Fx K mg) : ∃ fd, FunD K "_law_plan_right" "_law_plan_right" (defArgs s__law_plan_right) (defBody s__law_plan_right) (defScope s__law_plan_right) [] [] (ga K "_law_plan_right") fd := F.defs 59 (d := d__law_plan_right) rfl
theorem Fx.f_law (F : Fx K mg) : ∃ fd, FunD K "law" "law" (defArgs s_law) (defBody s_law) (defScope s_law) [] [] (ga K "law") fd := F.defs 60 (d := d_law) rfl
theorem Fx.f_reading_reading (F : Fx K mg) : ∃ fd, FunD K "reading" "reading" (defArgs s_reading) (defBody s_reading) (defScope s_reading) [] [] (ga K "reading_reading") fd := F.defs 61 (d := d_reading_reading) rfl
theorem Fx.p_Machine_memory (F : Fx K mg) : PrOk K Wk.p_Machine_memory := F.props 0 (d := Wk.p_Machine_memory) rfl
theorem Fx.p_Machine_executed (F : Fx K mg) : PrOk K Wk.p_Machine_executed := F.props 1 (d := Wk.p_Machine_executed) rfl
theorem Fx.p_Machine_fault_count (F : Fx K mg) : PrOk K Wk.p_Machine_fault_count := F.props 2 (d := Wk.p_Machine_fault_count) rfl
theorem Fx.p_Machine_reading (F : Fx K mg) : PrOk K Wk.p_Machine_reading := F.props 3 (d := Wk.p_Machine_reading) rfl
theorem Fx.p_Machine_row (F : Fx K mg) : PrOk K Wk.p_Machine_row := F.props 4 (d := Wk.p_Machine_row) rfl
theorem Fx.p_Ring_faults (F : Fx K mg) : PrOk K Wk.p_Ring_faults := F.props 5 (d := Wk.p_Ring_faults) rfl
theorem Fx.p_Ring_copies (F : Fx K mg) : PrOk K Wk.p_Ring_copies := F.props 6 (d := Wk.p_Ring_copies) rfl
theorem Fx.p_Ring_size (F : Fx K mg) : PrOk K Wk.p_Ring_size := F.props 7 (d := Wk.p_Ring_size) rfl
theorem Fx.p_Ring_rows (F : Fx K mg) : PrOk K Wk.p_Ring_rows := F.props 8 (d := Wk.p_Ring_rows) rfl
theorem Fx.p_Ring_words (F : Fx K mg) : PrOk K Wk.p_Ring_words := F.props 9 (d := Wk.p_Ring_words) rfl
end
end Wk
end

section
set_option Elab.async false
set_option linter.all false
set_option maxRecDepth 100000
set_option maxHeartbeats 4000000
/-! the end: what the top leaves -/
namespace Wk
open PySem PySem.Spec PyProof.Rows L2
def prB (K : PySem.W.Frag) (d : PrD) : Bool :=
  He.eqO (PySem.W.findIn K (.ref (ga K d.cls)) d.nm) (some (some (.ref (pObj K d.cls d.nm)))) && (He.eqO (PySem.W.specialIn K (.ref (pObj K d.cls d.nm)) "__get__") (some (some (.builtin "property.__get__"))) &&
    (decide (PySem.W.takesIn K (.ref (pObj K d.cls d.nm)) = some true) && ((match PySem.W.recIn K (pObj K d.cls d.nm) "property" with
      | some (.ref _ :: _) => true
      | _ => false) && (PySem.W.keepIn K (.ref (pFun K d.cls d.nm)) && (match K.lookup (pFun K d.cls d.nm) with
        | some ⟨_, _, .func z, _⟩ => PySem.W.codeIn K z.code d.qual && He.dflB K z.defaults []
        | _ => false)))))
def prW (K : PySem.W.Frag) (d : PrD) : He.FnW := match K.lookup (pFun K d.cls d.nm) with
  | some ⟨_, _, .func z, _⟩ => some (z.name, z.qualname, z.params, z.body, z.scope, z.globals, z.closure, z.builtins)
  | _ => none
def PrD.val (d : PrD) : He.FnW := some (d.nm, d.qual, d.params, .stmts d.body, d.scope, mainGlobals, [], builtinsNs)
theorem pr_ok {K : PySem.W.Frag} {d : PrD} (e : prW K d = d.val) (c : prB K d = true) : PrOk K d := by
  obtain ⟨c1, c⟩ := He.ba c
  obtain ⟨c2, c⟩ := He.ba c
  obtain ⟨c3, c⟩ := He.ba c
  obtain ⟨c4, c⟩ := He.ba c
  obtain ⟨c5, c6⟩ := He.ba c
  refine ⟨⟨He.eqO_ok c1, He.eqO_ok c2, of_decide_eq_true c3, ?_⟩, ?_⟩
  · unfold pFun
    split at c4
    · rename_i g rest q
      exact ⟨rest, by rw [q]⟩
    · cases c4
  · unfold prW at e
    cases q : K.lookup (pFun K d.cls d.nm) with
    | none =>
      rw [q] at e
      exact nomatch (show (none : He.FnW) = some _ from e)
    | some o =>
      obtain ⟨u1, u2, dt, u3⟩ := o
      rw [q] at e c6
      cases dt with
      | func z =>
        cases z
        have e' := Option.some.inj (show some _ = some _ from e)
        simp only [Prod.mk.injEq] at e'
        obtain ⟨rfl, rfl, rfl, rfl, rfl, rfl, rfl, rfl⟩ := e'
        obtain ⟨c7, c8⟩ := He.ba c6
        exact ⟨_, ⟨_, _, _, _, _, _, _, _, _, _, rfl, q, c7, He.dflB_ok c8, .inl rfl⟩, c5⟩
      | _ => exact nomatch (show (none : He.FnW) = some _ from e)
def regB (K : PySem.W.Frag) : Bool := match PySem.W.findIn K (.ref (ga K "Ring")) "REGISTERS" with
  | some (some u) => He.relB (.int 32) u && He.eqO (PySem.W.specialIn K u "__get__") (some none)
  | _ => false
def restB (K : PySem.W.Frag) : Bool := He.tupB K "OPERATORS" [.str "add", .str "sub", .str "mul", .str "div", .str "mod", .str "less", .str "same"] && (regB K && (He.eqO (PySem.W.findIn K (.ref (ga K "Ring")) "__len__") (some (some (.ref (ma K (ga K "Ring") "__len__")))) && !Nat.beq (ga K "Machine") (ga K "Ring")))
abbrev AlH : Type := Bool × List He.FnW × List He.FnW
def obsH (K : PySem.W.Frag) : AlH := (faL.all (fun f => f.ok K) && (fnL.all (fun d => d.ok K) && (prL.all (fun d => prB K d) && restB K)), fnL.map (fun d => He.fnW K d.at_), prL.map fun d => prW K d)
def valH : AlH := (true, fnL.map He.DefD.val, prL.map PrD.val)
/-- what the objects at as name -/
def rfs (g : Addr → Option Obj) (as : List Addr) : List Addr := as.flatMap fun a => match g a with
  | some o => He.refsD o
  | none => []
def nsH (g : Addr → Option Obj) (a : Addr) : List Addr := match g a with
  | some ⟨_, _, .cls z, _⟩ => [z.ns]
  | _ => []
/-- the names' objects, what they name, what the two classes hold -/
def ways (a1 n m p a2 q : List Addr) : List Addr := mainGlobals :: (a1 ++ (n ++ (m ++ (a2 ++ (p ++ q)))))
def ways2 (g : Addr → Option Obj) (a1 n m p : List Addr) : List Addr := ways a1 n m p (rfs g a1) (rfs g p)
def ways1 (g : Addr → Option Obj) (n m : List Addr) : List Addr := ways2 g (rfs g [mainGlobals]) n m (rfs g m)
def ways0 (g : Addr → Option Obj) (n : List Addr) : List Addr := ways1 g n (rfs g n)
def lsH (g : Addr → Option Obj) : List Addr := ways0 g (nsH g (ga (He.frG g [mainGlobals]) "Machine") ++ nsH g (ga (He.frG g [mainGlobals]) "Ring"))
def seenH (g : Addr → Option Obj) : AlH := obsH (He.frG g (lsH g))
abbrev hkH : PySem.W.Hook where
  α := AlH
  obs := fun s => seenH s.heap.get?
  val := fun _ => valH
  says := fun _ h => ∃ K : PySem.W.Frag, K.In h ∧ obsH K = valH
  of := fun _ _ e => ⟨_, He.frG_in, e⟩
  keeps := fun _ _ _ ⟨K, hK, c⟩ k => ⟨K, PySem.W.Frag.In.keeps hK k, c⟩
theorem Fx.of {K : PySem.W.Frag} {mg : Str → Option Value} {h : Heap} (X : K.In h) (G : h.Ns mainGlobals mg) (c : obsH K = valH) : Fx K mg := by
  have b : (faL.all (fun f => f.ok K) && (fnL.all (fun d => d.ok K) && (prL.all (fun d => prB K d) && restB K))) = true := congrArg (fun z : AlH => z.1) c
  obtain ⟨b1, b⟩ := He.ba b
  obtain ⟨b2, b⟩ := He.ba b
  obtain ⟨b3, b⟩ := He.ba b
  obtain ⟨b4, b⟩ := He.ba b
  obtain ⟨b5, b⟩ := He.ba b
  obtain ⟨b6, b7⟩ := He.ba b
  have e2 : fnL.map (fun d => He.fnW K d.at_) = fnL.map He.DefD.val := congrArg (fun z : AlH => z.2.1) c
  have e3 : prL.map (fun d => prW K d) = prL.map PrD.val := congrArg (fun z : AlH => z.2.2) c
  refine ⟨fun i f hf => List.all_eq_true.mp b1 f (List.mem_of_getElem? hf), fun i d hd => ?_, fun i d hd => ?_, He.tupB_ok b4 _, ?_, He.eqO_ok b6, fun e => ?_, ⟨h, X, G⟩⟩
  · have e := congrArg (fun l : List He.FnW => l[i]?) e2
    simp only [List.getElem?_map, hd, Option.map_some, Option.some.injEq] at e
    exact He.DefD.funD e (List.all_eq_true.mp b2 d (List.mem_of_getElem? hd))
  · have e := congrArg (fun l : List He.FnW => l[i]?) e3
    simp only [List.getElem?_map, hd, Option.map_some, Option.some.injEq] at e
    exact pr_ok e (List.all_eq_true.mp b3 d (List.mem_of_getElem? hd))
  · unfold regB at b5
    split at b5
    · rename_i u q
      obtain ⟨r1, r2⟩ := He.ba b5
      exact ⟨u, q, He.relB_ok r1, He.eqO_ok r2, by decide⟩
    · cases b5
  · rw [e, show Nat.beq (ga K "Ring") (ga K "Ring") = true from Nat.beq_refl _] at b7
    cases b7
end Wk
end

section
set_option Elab.async false
set_option linter.all false
set_option maxRecDepth 100000
set_option maxHeartbeats 0
/-! the end: the run of the top -/
namespace WkTop
open Wk PySem PySem.W PySem.Calls PyProof.Rows
abbrev R : OpenRow := OpenLaw.row PySem.Challenge.rw_struckring_k43_whole_faults_by_plan
abbrev qv : Program := view R.prog [97]
def names1 : List PySem.Str := ["_wall", "StruckError", "BadRecipes", "BadNumber", "Unlike", "BadFault", "BadRow", "GREATEST_WORD", "OPERATORS", "is_integer", "is_word", "WORD", "REGISTER", "ROW", "STORES_faults"]
def names2 : List PySem.Str := ["PARTS", "ROW_PARTS", "is_index", "is_fault", "copy_of_address", "affected_by", "SIZE_OF_WORDS", "operator_value", "STORES_reading", "store_at", "is_whole", "stores_of", "held", "reading", "reading_reading"]
def names3 : List PySem.Str := ["Machine", "RECIPE_REGISTERS", "RECIPE_PARTS", "SET", "LOAD", "CHOOSE", "is_number_below", "is_register", "many_sources", "is_recipe_row", "is_recipe", "is_recipes", "computed_word", "next_words", "moved_row"]
def names4 : List PySem.Str := ["part_recipe", "part_recipes", "both_done", "sum_of", "INVALID", "MOST_FAULTS", "MOST_COPIES", "STORES_rings", "CHOOSE_PARTS", "LEAST_COPIES", "is_number", "enough_copies", "store_addresses", "counting_rows", "placed_row"]
def names5 : List PySem.Str := ["choosing_rows", "piece_p", "vote_rows", "piece_q", "Ring", "RowReader", "_law_deck", "_law_draw", "_law_pick", "_law_recipe", "_law_counter", "_law_value", "_law_next", "_law_states", "_law_lengths"]
def names6 : List PySem.Str := ["_law_held", "_law_only_states", "_law_is_final", "_law_ran_to", "_law_look_row", "_law_wrong", "_law_in_look", "_law_in_marks", "_law_half_done", "_law_entry", "_law_in_register", "_law_planned", "_law_plan_right"]
abbrev names : List PySem.Str := names1 ++ names2 ++ names3 ++ names4 ++ names5 ++ names6
def obR (s : SharedT) : AlH := seenH (HandSHeadRun.getT s)
theorem obR_eq (s : SharedT) : obR s = hkH.obs s.abs := by
  show seenH (HandSHeadRun.getT s) = seenH s.abs.heap.get?
  rw [show HandSHeadRun.getT s = s.abs.heap.get? from funext (HandSHeadRun.getT_eq s)]
theorem run_f (w : World) : HandSHeadRun.RunEq R qv hkH obR 8000 names (w.withFollow "special-get-raises" false) := by
  intro os
  kernel_rfl
theorem run_t (w : World) : HandSHeadRun.RunEq R qv hkH obR 8000 names (w.withFollow "special-get-raises" true) := by
  intro os
  kernel_rfl
theorem run (w : World) : HandSHeadRun.RunEq R qv hkH obR 8000 names w :=
  byRow2 "special-get-raises" (P := fun w => HandSHeadRun.RunEq R qv hkH obR 8000 names w) run_f run_t w
end WkTop
end

section
/-! struckring, the abstract machine and its pieces (own work, plain Lean) -/
set_option autoImplicit false
namespace Sk
open Classical

inductive Op where
  | add | sub | mul | div | mod | less | same
  deriving DecidableEq

def opv : Op → Int → Int → Int
  | .add, x, y => (x + y) % 1000000
  | .sub, x, y => (x - y) % 1000000
  | .mul, x, y => (x * y) % 1000000
  | .div, x, y => if y = 0 then 0 else x / y
  | .mod, x, y => if y = 0 then 0 else x % y
  | .less, x, y => if x < y then 1 else 0
  | .same, x, y => if x = y then 1 else 0

inductive Rw where
  | set (r : Nat) (v : Int)
  | load (r a : Nat)
  | store (r a : Nat)
  | op (o : Op) (r s t : Nat)
  | choose (r s t u : Nat)
  | alike (r a b m : Nat)
  | move (r a b m : Nat)

structure MS where
  mem : Nat → Int
  reg : Nat → Int

def up (f : Nat → Int) (a : Nat) (v : Int) : Nat → Int := fun x => if x = a then v else f x
theorem up_same (f : Nat → Int) (a : Nat) (v : Int) : up f a v a = v := by simp [up]
theorem up_ne (f : Nat → Int) {a x : Nat} (v : Int) (h : x ≠ a) : up f a v x = f x := by simp [up, h]

def blit (f : Nat → Int) (a b m : Nat) : Nat → Int := fun x => if b ≤ x ∧ x < b + m then f (a + (x - b)) else f x

noncomputable def exec : Rw → MS → MS
  | .set r v, s => ⟨s.mem, up s.reg r v⟩
  | .load r a, s => ⟨s.mem, up s.reg r (s.mem a)⟩
  | .store r a, s => ⟨up s.mem a (s.reg r), s.reg⟩
  | .op o r x y, s => ⟨s.mem, up s.reg r (opv o (s.reg x) (s.reg y))⟩
  | .choose r x y z, s => ⟨s.mem, up s.reg r (if s.reg x ≠ 0 then s.reg y else s.reg z)⟩
  | .alike r a b m, s => ⟨s.mem, up s.reg r (if ∀ k, k < m → s.mem (a + k) = s.mem (b + k) then 1 else 0)⟩
  | .move r a b m, s => if s.reg r ≠ 0 then ⟨blit s.mem a b m, s.reg⟩ else s

noncomputable def run : List Rw → MS → MS
  | [], s => s
  | r :: l, s => run l (exec r s)
theorem run_append (l m : List Rw) (s : MS) : run (l ++ m) s = run m (run l s) := by
  induction l generalizing s with
  | nil => rfl
  | cons r l ih => exact ih _

/-! recipes -/
/-- the rows of a recipe are right for n words, with these registers known -/
def RecRow (n : Nat) (kn : Nat → Prop) : Rw → Prop
  | .set r v => r < 24 ∧ 0 ≤ v ∧ v < 1000000
  | .load r a => r < 24 ∧ a < n
  | .op _ r x y => r < 24 ∧ kn x ∧ kn y ∧ x < 24 ∧ y < 24
  | .choose r x y z => r < 24 ∧ kn x ∧ kn y ∧ kn z ∧ x < 24 ∧ y < 24 ∧ z < 24
  | _ => False
def goal : Rw → Nat
  | .set r _ => r
  | .load r _ => r
  | .store r _ => r
  | .op _ r _ _ => r
  | .choose r _ _ _ => r
  | .alike r _ _ _ => r
  | .move r _ _ _ => r
def RecRows (n : Nat) : (Nat → Prop) → List Rw → Nat → Prop
  | kn, [], res => res < 24 ∧ kn res
  | kn, r :: l, res => RecRow n kn r ∧ RecRows n (fun x => x = goal r ∨ kn x) l res

def place (old : Nat) : Rw → Rw
  | .load r a => .load r (old + 1 + a)
  | r => r

/-- what a recipe computes from the words st -/
noncomputable def rval (rec : List Rw × Nat) (st : Nat → Int) : Int := (run rec.1 ⟨st, fun _ => 0⟩).reg rec.2

def countR (old a : Nat) : List Rw := [.load 24 old, .load 25 (old + 1), .set 26 0, .op .same 25 25 26, .op .add 24 24 25, .store 24 a]
def chooseR (k old new res : Nat) : List Rw := [.load 24 (old + 1 + k), .load 25 (old + 1), .choose 24 25 24 res, .store 24 (new + 1 + k)]
def wordR (old new k : Nat) (rec : List Rw × Nat) : List Rw := rec.1.map (place old) ++ chooseR k old new rec.2
def wordsR (old new : Nat) : Nat → List (List Rw × Nat) → List Rw
  | _, [] => []
  | k, r :: l => wordR old new k r ++ wordsR old new (k + 1) l

structure Cfg where
  n : Nat
  e : Nat
  K : Nat
  T : Nat
  recs : List (List Rw × Nat)
  S : Nat → Nat → Int

namespace Cfg
variable (C : Cfg)
def ln : Nat := C.n + 2
def Ba (i : Nat) : Nat := 4 * C.ln * i
def oldA (i : Nat) : Nat := C.Ba i
def newA (i : Nat) : Nat := C.Ba i + C.ln
def lookA (i : Nat) : Nat := C.Ba i + 2 * C.ln
def bestA (i : Nat) : Nat := C.Ba i + 3 * C.ln
def inC (i a : Nat) : Prop := C.Ba i ≤ a ∧ a < C.Ba i + 4 * C.ln
def pieceP (i : Nat) : List Rw :=
  [.set 24 999999, .store 24 (C.newA i + C.n + 1)] ++ (countR (C.oldA i) (C.newA i) ++ (wordsR (C.oldA i) (C.newA i) 0 C.recs ++ countR (C.oldA i) (C.newA i + C.n + 1)))
def voteHead (src look best : Nat) : List Rw :=
  [.load 25 look, .load 26 (look + C.ln - 1), .op .same 26 25 26, .load 27 best, .op .less 27 27 25, .set 28 0]
def voteOne (look t : Nat) : List Rw := [.alike 29 look (C.newA t) C.ln, .op .add 28 28 29]
def voteCnt (look : Nat) : Nat → List Rw
  | 0 => []
  | k + 1 => voteCnt look k ++ C.voteOne look k
def voteTail : List Rw := [.set 29 (C.e : Int), .op .less 28 29 28, .op .mul 26 26 27, .op .mul 26 26 28]
def vote (i s : Nat) : List Rw :=
  .move 24 (C.newA s) (C.lookA i) C.ln :: (C.voteHead (C.newA s) (C.lookA i) (C.bestA i) ++ (C.voteCnt (C.lookA i) C.K ++ (C.voteTail ++ [.move 26 (C.lookA i) (C.bestA i) C.ln])))
def votes (i : Nat) : Nat → List Rw
  | 0 => []
  | k + 1 => votes i k ++ C.vote i k
def pieceQ (i : Nat) : List Rw :=
  [.set 24 1, .move 24 (C.oldA i) (C.bestA i) C.ln] ++ (C.votes i C.K ++ [.move 24 (C.bestA i) (C.oldA i) C.ln])
/-- the next state -/
noncomputable def nx (st : Nat → Int) (k : Nat) : Int := if st 0 ≠ 0 then st k else rval (C.recs.getD k ([], 0)) st
structure Ok : Prop where
  n1 : 1 ≤ C.n
  len : C.recs.length = C.n
  rok : ∀ k, k < C.n → RecRows C.n (fun _ => False) (C.recs.getD k ([], 0)).1 (C.recs.getD k ([], 0)).2
  T1 : C.T < 999999
  K1 : C.K < 999999
  next : ∀ c, c < C.T → ∀ k, k < C.n → C.S (c + 1) k = C.nx (C.S c) k
  go : ∀ c, c < C.T → C.S c 0 = 0
  fin : C.S C.T 0 ≠ 0
end Cfg

theorem blk (C : Cfg) {i j : Nat} (h : i < j) : C.Ba i + 4 * C.ln ≤ C.Ba j := by
  unfold Cfg.Ba
  have h1 : 4 * C.ln * (i + 1) ≤ 4 * C.ln * j := Nat.mul_le_mul_left _ h
  rw [Nat.mul_succ] at h1
  exact h1
theorem inC_ne (C : Cfg) {i j a b : Nat} (h : i ≠ j) (ha : C.inC i a) (hb : C.inC j b) : a ≠ b := by
  unfold Cfg.inC at ha hb
  rcases Nat.lt_or_gt_of_ne h with h | h
  · have := blk C h; omega
  · have := blk C h; omega

/-- the content of a store -/
def ct (m : Nat → Int) (a : Nat) : Nat → Int := fun k => m (a + k)
def Sim (l : Nat) (f g : Nat → Int) : Prop := ∀ k, k < l → f k = g k
theorem Sim.refl (l : Nat) (f : Nat → Int) : Sim l f f := fun _ _ => rfl
theorem Sim.symm {l : Nat} {f g : Nat → Int} (h : Sim l f g) : Sim l g f := fun k hk => (h k hk).symm
theorem Sim.trans {l : Nat} {f g h : Nat → Int} (a : Sim l f g) (b : Sim l g h) : Sim l f h := fun k hk => (a k hk).trans (b k hk)

/-! counting -/
noncomputable def cnt (p : Nat → Prop) : Nat → Nat
  | 0 => 0
  | k + 1 => cnt p k + if p k then 1 else 0
theorem cnt_mono {p q : Nat → Prop} : ∀ {k : Nat}, (∀ t, t < k → p t → q t) → cnt p k ≤ cnt q k
  | 0, _ => Nat.le_refl _
  | k + 1, h => by
    have h1 := cnt_mono (k := k) (p := p) (q := q) fun t ht => h t (by omega)
    have h2 := h k (by omega)
    unfold cnt
    by_cases a : p k
    · rw [if_pos a, if_pos (h2 a)]; omega
    · rw [if_neg a]; split <;> omega
theorem cnt_congr {p q : Nat → Prop} {k : Nat} (h : ∀ t, t < k → (p t ↔ q t)) : cnt p k = cnt q k :=
  Nat.le_antisymm (cnt_mono fun t ht => (h t ht).mp) (cnt_mono fun t ht => (h t ht).mpr)
theorem cnt_le (p : Nat → Prop) : ∀ k : Nat, cnt p k ≤ k
  | 0 => Nat.le_refl _
  | k + 1 => by
    have := cnt_le p k
    unfold cnt; split <;> omega
theorem cnt_not (p : Nat → Prop) : ∀ k : Nat, cnt p k + cnt (fun t => ¬ p t) k = k
  | 0 => rfl
  | k + 1 => by
    have := cnt_not p k
    unfold cnt
    by_cases a : p k
    · rw [if_pos a, if_neg (fun h => h a)]; omega
    · rw [if_neg a, if_pos a]; omega
theorem cnt_or (p q : Nat → Prop) : ∀ k : Nat, cnt (fun t => p t ∨ q t) k ≤ cnt p k + cnt q k
  | 0 => Nat.le_refl _
  | k + 1 => by
    have := cnt_or p q k
    unfold cnt
    by_cases a : p k <;> by_cases b : q k <;> simp [a, b] <;> omega
theorem cnt_pos {p : Nat → Prop} : ∀ {k : Nat}, 0 < cnt p k → ∃ t, t < k ∧ p t
  | 0, h => absurd h (Nat.lt_irrefl _)
  | k + 1, h => by
    by_cases a : p k
    · exact ⟨k, by omega, a⟩
    · unfold cnt at h
      rw [if_neg a] at h
      obtain ⟨t, ht, hp⟩ := cnt_pos (k := k) (p := p) (by omega)
      exact ⟨t, by omega, hp⟩
/-- more of p than of q: one of p that is not of q -/
theorem cnt_lt {p q : Nat → Prop} {k : Nat} (h : cnt q k < cnt p k) : ∃ t, t < k ∧ p t ∧ ¬ q t := by
  refine Classical.byContradiction fun hn => ?_
  have : cnt p k ≤ cnt q k := cnt_mono fun t ht hp => Classical.byContradiction fun hq => hn ⟨t, ht, hp, hq⟩
  omega
theorem cnt_zero {p : Nat → Prop} {k : Nat} (h : ∀ t, t < k → ¬ p t) : cnt p k = 0 := by
  rcases Nat.eq_zero_or_pos (cnt p k) with e | e
  · exact e
  · obtain ⟨t, ht, hp⟩ := cnt_pos e
    exact absurd hp (h t ht)
theorem cnt_one {p : Nat → Prop} {a : Nat} : ∀ {k : Nat}, (∀ t, t < k → p t → t = a) → cnt p k ≤ 1
  | 0, _ => by simp [cnt]
  | k + 1, h => by
    unfold cnt
    by_cases b : p k
    · have e := h k (by omega) b
      have : cnt p k = 0 := cnt_zero fun t ht hp => by have := h t (by omega) hp; omega
      rw [this]; split <;> omega
    · rw [if_neg b]
      exact cnt_one fun t ht => h t (by omega)
/-- the pigeonhole: each of p has a number below d, more than e * d of them: more than e have the same number -/
theorem pigeon {p : Nat → Prop} {f : Nat → Nat} {e k : Nat} : ∀ {d : Nat}, (∀ t, t < k → p t → f t < d) → e * d < cnt p k → ∃ v, v < d ∧ e < cnt (fun t => p t ∧ f t = v) k
  | 0, h, hc => by
    obtain ⟨t, ht, hp⟩ := cnt_pos (p := p) (k := k) (by omega)
    exact absurd (h t ht hp) (Nat.not_lt_zero _)
  | d + 1, h, hc => by
    by_cases a : e < cnt (fun t => p t ∧ f t = d) k
    · exact ⟨d, by omega, a⟩
    · have h1 : cnt p k ≤ cnt (fun t => (p t ∧ f t = d) ∨ (p t ∧ f t < d)) k := cnt_mono fun t ht hp => by
        have := h t ht hp
        by_cases q : f t = d
        · exact .inl ⟨hp, q⟩
        · exact .inr ⟨hp, by omega⟩
      have h2 := cnt_or (fun t => p t ∧ f t = d) (fun t => p t ∧ f t < d) k
      have h3 : e * (d + 1) = e * d + e := Nat.mul_succ e d
      obtain ⟨v, hv, hv2⟩ := pigeon (p := fun t => p t ∧ f t < d) (f := f) (e := e) (k := k) (d := d) (fun t _ hp => hp.2) (by omega)
      refine ⟨v, by omega, Nat.lt_of_lt_of_le hv2 (cnt_mono fun t _ hp => ⟨hp.1.1, hp.2⟩)⟩

/-! rows under interference -/
abbrev Gh := Nat → Prop
def WP (I : Gh → MS → Gh → MS → Prop) (Sf Po : Gh → MS → Prop) : List Rw → Gh → MS → Prop
  | [], g, s => ∀ g' s', I g s g' s' → Sf g' s' ∧ Po g' s'
  | r :: l, g, s => ∀ g' s', I g s g' s' → Sf g' s' ∧ WP I Sf Po l g' (exec r s')

theorem WP.seq {I : Gh → MS → Gh → MS → Prop} {Sf Mi Po : Gh → MS → Prop} (hI : ∀ g s g' s', I g s g' s' → I g' s' g' s') {l2 : List Rw} (h2 : ∀ g s, Mi g s → WP I Sf Po l2 g s) :
    ∀ {l1 : List Rw} {g : Gh} {s : MS}, WP I Sf Mi l1 g s → WP I Sf Po (l1 ++ l2) g s
  | [], g, s, h => by
    show WP I Sf Po l2 g s
    cases l2 with
    | nil =>
      intro g' s' i
      obtain ⟨a, b⟩ := h g' s' i
      exact h2 _ _ b g' s' (hI _ _ _ _ i)
    | cons r l =>
      intro g' s' i
      obtain ⟨a, b⟩ := h g' s' i
      exact h2 _ _ b g' s' (hI _ _ _ _ i)
  | r :: l1, g, s, h => by
    intro g' s' i
    obtain ⟨a, b⟩ := h g' s' i
    exact ⟨a, WP.seq hI h2 b⟩
theorem WP.mono {I J : Gh → MS → Gh → MS → Prop} {Sf Sf' Po Po' : Gh → MS → Prop} (hI : ∀ g s g' s', J g s g' s' → I g s g' s') (hS : ∀ g s, Sf g s → Sf' g s) (hP : ∀ g s, Po g s → Po' g s) :
    ∀ {l : List Rw} {g : Gh} {s : MS}, WP I Sf Po l g s → WP J Sf' Po' l g s
  | [], _, _, h => fun g' s' i => ⟨hS _ _ (h g' s' (hI _ _ _ _ i)).1, hP _ _ (h g' s' (hI _ _ _ _ i)).2⟩
  | _ :: _, _, _, h => fun g' s' i => ⟨hS _ _ (h g' s' (hI _ _ _ _ i)).1, WP.mono hI hS hP (h g' s' (hI _ _ _ _ i)).2⟩
theorem WP.disturb {I : Gh → MS → Gh → MS → Prop} {Sf Po : Gh → MS → Prop} (ht : ∀ g s g' s' g'' s'', I g s g' s' → I g' s' g'' s'' → I g s g'' s'') {l : List Rw} {g g' : Gh} {s s' : MS} (h : WP I Sf Po l g s) (i : I g s g' s') : WP I Sf Po l g' s' := by
  cases l with
  | nil => exact fun g2 s2 i2 => h g2 s2 (ht _ _ _ _ _ _ i i2)
  | cons r l => exact fun g2 s2 i2 => h g2 s2 (ht _ _ _ _ _ _ i i2)
theorem WP.now {I : Gh → MS → Gh → MS → Prop} {Sf Po : Gh → MS → Prop} {l : List Rw} {g : Gh} {s : MS} (h : WP I Sf Po l g s) (i : I g s g s) : Sf g s := by
  cases l with
  | nil => exact (h g s i).1
  | cons r l => exact (h g s i).1

/-- what stays under interference with the piece of copy i -/
structure Intf (C : Cfg) (i : Nat) (I : Gh → MS → Gh → MS → Prop) : Prop where
  refl : ∀ g s g' s', I g s g' s' → I g' s' g' s'
  reg : ∀ g s g' s', I g s g' s' → s'.reg = s.reg
  loc : ∀ g s g' s', I g s g' s' → ∀ a, C.inC i a → s'.mem a = s.mem a
  ord : ∀ g s g' s', I g s g' s' → ∀ t, g t → g' t

/-- a row that reads only registers and words of copy i, and writes a register -/
def RegRow (C : Cfg) (i : Nat) : Rw → Prop
  | .set _ _ => True
  | .load _ a => C.inC i a
  | .op _ _ _ _ => True
  | .choose _ _ _ _ => True
  | _ => False
theorem regRow_mem {C : Cfg} {i : Nat} {r : Rw} (h : RegRow C i r) (s : MS) : (exec r s).mem = s.mem := by
  cases r <;> simp [RegRow] at h <;> rfl
theorem regRow_reg {C : Cfg} {i : Nat} {r : Rw} (h : RegRow C i r) {s s' : MS} (hm : ∀ a, C.inC i a → s'.mem a = s.mem a) (hr : s'.reg = s.reg) : (exec r s').reg = (exec r s).reg := by
  cases r <;> simp [RegRow] at h <;> simp [exec, hr]
  rw [hm _ h]
theorem run_mem {C : Cfg} {i : Nat} : ∀ {l : List Rw}, (∀ r, r ∈ l → RegRow C i r) → ∀ s : MS, (run l s).mem = s.mem
  | [], _, _ => rfl
  | r :: l, h, s => by
    show (run l (exec r s)).mem = s.mem
    rw [run_mem (fun q hq => h q (List.mem_cons_of_mem _ hq)), regRow_mem (h r (List.mem_cons_self ..))]
theorem run_reg {C : Cfg} {i : Nat} : ∀ {l : List Rw}, (∀ r, r ∈ l → RegRow C i r) → ∀ {s s' : MS}, (∀ a, C.inC i a → s'.mem a = s.mem a) → s'.reg = s.reg → (run l s').reg = (run l s).reg
  | [], _, _, _, _, hr => hr
  | r :: l, h, s, s', hm, hr => by
    have h0 := h r (List.mem_cons_self ..)
    show (run l (exec r s')).reg = (run l (exec r s)).reg
    refine run_reg (fun q hq => h q (List.mem_cons_of_mem _ hq)) (fun a ha => ?_) (regRow_reg h0 hm hr)
    rw [regRow_mem h0, regRow_mem h0, hm a ha]

/-- a stretch of rows that write registers alone -/
theorem WP.regs {C : Cfg} {i : Nat} {I : Gh → MS → Gh → MS → Prop} {Sf Po : Gh → MS → Prop} (hI : Intf C i I)
    (hSf : ∀ g s g' s', Sf g s → (∀ t, g t → g' t) → (∀ a, C.inC i a → s'.mem a = s.mem a) → Sf g' s') {l2 : List Rw} :
    ∀ {l1 : List Rw} {g : Gh} {s : MS}, (∀ r, r ∈ l1 → RegRow C i r) → Sf g s →
      (∀ g' s', (∀ t, g t → g' t) → (∀ a, C.inC i a → s'.mem a = s.mem a) → s'.reg = (run l1 s).reg → WP I Sf Po l2 g' s') → WP I Sf Po (l1 ++ l2) g s
  | [], g, s, _, _, h2 => h2 g s (fun _ h => h) (fun _ _ => rfl) rfl
  | r :: l1, g, s, h1, hs, h2 => by
    intro g' s' i1
    have h0 := h1 r (List.mem_cons_self ..)
    have hs' : Sf g' s' := hSf g s g' s' hs (hI.ord _ _ _ _ i1) (hI.loc _ _ _ _ i1)
    refine ⟨hs', WP.regs hI hSf (fun q hq => h1 q (List.mem_cons_of_mem _ hq)) (hSf g' s' g' _ hs' (fun _ h => h) (fun a _ => by rw [regRow_mem h0])) fun g2 s2 o2 m2 r2 => ?_⟩
    refine h2 g2 s2 (fun t ht => o2 t (hI.ord _ _ _ _ i1 t ht)) (fun a ha => ?_) ?_
    · rw [m2 a ha, regRow_mem h0, hI.loc _ _ _ _ i1 a ha]
    · rw [r2]
      refine run_reg (fun q hq => h1 q (List.mem_cons_of_mem _ hq)) (fun a ha => ?_) (regRow_reg h0 (hI.loc _ _ _ _ i1) (hI.reg _ _ _ _ i1))
      rw [regRow_mem h0, regRow_mem h0, hI.loc _ _ _ _ i1 a ha]
end Sk
end

section
/-! the piece P under interference -/
set_option autoImplicit false
set_option linter.unusedVariables false
namespace Sk
open Classical

theorem WP.regst {C : Cfg} {i : Nat} {I : Gh → MS → Gh → MS → Prop} {Sf Po : Gh → MS → Prop} (hI : Intf C i I)
    (hSf : ∀ g s g' s', Sf g s → (∀ t, g t → g' t) → (∀ a, C.inC i a → s'.mem a = s.mem a) → Sf g' s') {l1 l2 : List Rw} {r a : Nat} {g : Gh} {s : MS}
    (h1 : ∀ q, q ∈ l1 → RegRow C i q) (hs : Sf g s)
    (h2 : ∀ g' s', (∀ t, g t → g' t) → (∀ b, C.inC i b → s'.mem b = up s.mem a ((run l1 s).reg r) b) → WP I Sf Po l2 g' s') : WP I Sf Po (l1 ++ .store r a :: l2) g s := by
  refine WP.regs hI hSf h1 hs fun g' s' o m rr => ?_
  intro g2 s2 i2
  refine ⟨hSf g s g2 s2 hs (fun t ht => hI.ord _ _ _ _ i2 t (o t ht)) (fun b hb => by rw [hI.loc _ _ _ _ i2 b hb, m b hb]), h2 _ _ (fun t ht => hI.ord _ _ _ _ i2 t (o t ht)) fun b hb => ?_⟩
  show up s2.mem a (s2.reg r) b = _
  rw [hI.reg _ _ _ _ i2, rr]
  unfold up
  split
  · rfl
  · rw [hI.loc _ _ _ _ i2 b hb, m b hb]

theorem place_run {n old : Nat} : ∀ {rows : List Rw} {kn : Nat → Prop} {res : Nat} {s s2 : MS}, RecRows n kn rows res → (∀ a, a < n → s.mem (old + 1 + a) = s2.mem a) → (∀ x, kn x → s.reg x = s2.reg x) →
    (run (rows.map (place old)) s).reg res = (run rows s2).reg res
  | [], kn, res, s, s2, h, _, hr => hr _ h.2
  | r :: l, kn, res, s, s2, h, hm, hr => by
    obtain ⟨h1, h2⟩ := h
    show (run (l.map (place old)) (exec (place old r) s)).reg res = (run l (exec r s2)).reg res
    have key : (exec (place old r) s).mem = s.mem ∧ (exec r s2).mem = s2.mem ∧ ∀ x, (x = goal r ∨ kn x) → (exec (place old r) s).reg x = (exec r s2).reg x := by
      cases r with
      | set r v =>
        refine ⟨rfl, rfl, fun x hx => ?_⟩
        show up s.reg r v x = up s2.reg r v x
        unfold up; split
        · rfl
        · rename_i hn; rcases hx with q | q
          · exact absurd q hn
          · exact hr x q
      | load r a =>
        refine ⟨rfl, rfl, fun x hx => ?_⟩
        show up s.reg r (s.mem (old + 1 + a)) x = up s2.reg r (s2.mem a) x
        rw [hm a h1.2]
        unfold up; split
        · rfl
        · rename_i hn; rcases hx with q | q
          · exact absurd q hn
          · exact hr x q
      | op o r y z =>
        refine ⟨rfl, rfl, fun x hx => ?_⟩
        show up s.reg r (opv o (s.reg y) (s.reg z)) x = up s2.reg r (opv o (s2.reg y) (s2.reg z)) x
        rw [hr y h1.2.1, hr z h1.2.2.1]
        unfold up; split
        · rfl
        · rename_i hn; rcases hx with q | q
          · exact absurd q hn
          · exact hr x q
      | choose r y z u =>
        refine ⟨rfl, rfl, fun x hx => ?_⟩
        show up s.reg r (if s.reg y ≠ 0 then s.reg z else s.reg u) x = up s2.reg r (if s2.reg y ≠ 0 then s2.reg z else s2.reg u) x
        rw [hr y h1.2.1, hr z h1.2.2.1, hr u h1.2.2.2.1]
        unfold up; split
        · rfl
        · rename_i hn; rcases hx with q | q
          · exact absurd q hn
          · exact hr x q
      | store _ _ => exact absurd h1 (by simp [RecRow])
      | alike _ _ _ _ => exact absurd h1 (by simp [RecRow])
      | move _ _ _ _ => exact absurd h1 (by simp [RecRow])
    obtain ⟨k1, k2, k3⟩ := key
    exact place_run h2 (fun a ha => by rw [k1, k2]; exact hm a ha) k3
theorem place_regRow {C : Cfg} {i : Nat} : ∀ {rows : List Rw} {kn : Nat → Prop} {res : Nat}, RecRows C.n kn rows res → ∀ q, q ∈ rows.map (place (C.oldA i)) → RegRow C i q
  | [], _, _, _, q, hq => by simp at hq
  | r :: l, kn, res, h, q, hq => by
    obtain ⟨h1, h2⟩ := h
    rcases List.mem_cons.mp hq with e | e
    · subst e
      cases r with
      | load r a =>
        show C.inC i (C.oldA i + 1 + a)
        have := h1.2
        unfold Cfg.inC Cfg.oldA Cfg.ln; omega
      | set _ _ => trivial
      | op _ _ _ _ => trivial
      | choose _ _ _ _ => trivial
      | store _ _ => exact absurd h1 (by simp [RecRow])
      | alike _ _ _ _ => exact absurd h1 (by simp [RecRow])
      | move _ _ _ _ => exact absurd h1 (by simp [RecRow])
    · exact place_regRow h2 q e

def ct1 (st : Nat → Int) : Int := (st 0 + if st 1 = 0 then 1 else 0) % 1000000
namespace Cfg
variable (C : Cfg)
/-- what P makes of the content of an old store -/
noncomputable def Fc (st : Nat → Int) : Nat → Int := fun k => if k = 0 ∨ k = C.n + 1 then ct1 st else C.nx (fun a => st (1 + a)) (k - 1)
/-- a new store that may be read: not marked by its first count, and right if whole -/
def NOK (PN : (Nat → Int) → Prop) (f : Nat → Int) : Prop := f 0 ≠ 999999 ∧ (f 0 = f (C.n + 1) → PN f)
end Cfg

theorem rval_sim {n : Nat} {rows : List Rw} {res : Nat} : ∀ {kn : Nat → Prop} {s s2 : MS}, RecRows n kn rows res → (∀ a, a < n → s.mem a = s2.mem a) → (∀ x, kn x → s.reg x = s2.reg x) → (run rows s).reg res = (run rows s2).reg res := by
  intro kn s s2 hh hm hx
  have a1 := place_run (old := 0) (s := ⟨fun a => s.mem (a - 1), s.reg⟩) (s2 := s) hh (fun a ha => by show s.mem (0 + 1 + a - 1) = _; rw [show 0 + 1 + a - 1 = a from by omega]) (fun _ _ => rfl)
  have a2 := place_run (old := 0) (s := ⟨fun a => s.mem (a - 1), s.reg⟩) (s2 := s2) hh (fun a ha => by show s.mem (0 + 1 + a - 1) = _; rw [show 0 + 1 + a - 1 = a from by omega]; exact hm a ha) hx
  exact a1.symm.trans a2
theorem nx_sim {C : Cfg} (O : C.Ok) {f g : Nat → Int} (h : Sim C.n f g) {k : Nat} (hk : k < C.n) : C.nx f k = C.nx g k := by
  have n1 := O.n1
  unfold Cfg.nx
  rw [h 0 (by omega), h k hk]
  split
  · rfl
  · have hr := O.rok k hk
    generalize C.recs.getD k ([], 0) = rc at hr
    obtain ⟨rows, res⟩ := rc
    exact rval_sim hr (fun a ha => h a ha) (fun _ _ => rfl)
theorem Fc_sim {C : Cfg} (O : C.Ok) {f g : Nat → Int} (h : Sim C.ln f g) : Sim C.ln (C.Fc f) (C.Fc g) := by
  intro k hk
  have n1 := O.n1
  unfold Cfg.ln at hk
  unfold Cfg.Fc
  split
  · unfold ct1; rw [h 0 (by unfold Cfg.ln; omega), h 1 (by unfold Cfg.ln; omega)]
  · exact nx_sim O (fun a ha => h (1 + a) (by unfold Cfg.ln; omega)) (by omega)

theorem count_val (s : MS) (old : Nat) : (run [.load 24 old, .load 25 (old + 1), .set 26 0, .op .same 25 25 26, .op .add 24 24 25] s).reg 24 = (s.mem old + if s.mem (old + 1) = 0 then 1 else 0) % 1000000 := by
  simp [run, exec, up, opv]
theorem choose_val (s : MS) (a b res : Nat) (h : res < 24) : (run [.load 24 a, .load 25 b, .choose 24 25 24 res] s).reg 24 = if s.mem b ≠ 0 then s.mem a else s.reg res := by
  have h1 : ¬ res = 24 := by omega
  have h2 : ¬ res = 25 := by omega
  simp [run, exec, up, h1, h2]

section
variable {C : Cfg} (O : C.Ok) {i : Nat} {I : Gh → MS → Gh → MS → Prop} (hI : Intf C i I) {fl : Prop} {PN : (Nat → Int) → Prop} (hPN : ∀ f g, Sim C.ln f g → PN f → PN g) {st : Nat → Int}
include O hI hPN

/-- the safety of P: the old store stands, the new one is right if it is whole -/
def SfP (C : Cfg) (i : Nat) (fl : Prop) (PN : (Nat → Int) → Prop) (st : Nat → Int) : Gh → MS → Prop := fun _ s => (fl → C.NOK PN (ct s.mem (C.newA i))) ∧ Sim C.ln (ct s.mem (C.oldA i)) st

omit O hI hPN in
theorem sf_loc (hPN : ∀ f g, Sim C.ln f g → PN f → PN g) : ∀ g s g' s', SfP C i fl PN st g s → (∀ t, g t → g' t) → (∀ a, C.inC i a → s'.mem a = s.mem a) → SfP C i fl PN st g' s' := by
  intro g s g' s' h _ hm
  have e : ∀ k, k < C.ln → ct s'.mem (C.newA i) k = ct s.mem (C.newA i) k := fun k hk => hm _ (by unfold Cfg.inC Cfg.newA; omega)
  refine ⟨fun f => ?_, fun k hk => ?_⟩
  · obtain ⟨a, b⟩ := h.1 f
    have l0 : 0 < C.ln := by unfold Cfg.ln; omega
    have l1 : C.n + 1 < C.ln := by unfold Cfg.ln; omega
    exact ⟨by rw [e 0 l0]; exact a, fun q => hPN _ _ (fun k hk => (e k hk).symm) (b (by rw [← e 0 l0, ← e _ l1]; exact q))⟩
  · rw [← h.2 k hk]; exact hm _ (by unfold Cfg.inC Cfg.oldA; omega)

/-- in the middle of P: so many words are written -/
def MidP (C : Cfg) (i : Nat) (st : Nat → Int) (k : Nat) : MS → Prop := fun s => Sim C.ln (ct s.mem (C.oldA i)) st ∧ s.mem (C.newA i + C.n + 1) = 999999 ∧ s.mem (C.newA i) = ct1 st ∧ ∀ a, a < k → s.mem (C.newA i + 1 + a) = C.Fc st (1 + a)

omit O hI hPN in
theorem mid_sf (hc : ct1 st ≠ 999999) {k : Nat} {g : Gh} {s : MS} (h : MidP C i st k s) : SfP C i fl PN st g s := by
  refine ⟨fun _ => ⟨?_, fun q => ?_⟩, h.1⟩
  · show s.mem (C.newA i + 0) ≠ _
    rw [Nat.add_zero, h.2.2.1]; exact hc
  · have q' : s.mem (C.newA i + 0) = s.mem (C.newA i + (C.n + 1)) := q
    rw [Nat.add_zero, h.2.2.1, ← Nat.add_assoc, h.2.1] at q'
    exact absurd q' hc

theorem wp_words (hc : ct1 st ≠ 999999) {l2 : List Rw} {Po : Gh → MS → Prop} (h2 : ∀ g s, MidP C i st C.n s → WP I (SfP C i fl PN st) Po l2 g s) :
    ∀ (l : List (List Rw × Nat)) (k : Nat) (g : Gh) (s : MS), C.recs.drop k = l → MidP C i st k s → WP I (SfP C i fl PN st) Po (wordsR (C.oldA i) (C.newA i) k l ++ l2) g s
  | [], k, g, s, e, h => by
    have hk : C.n ≤ k := by rw [← O.len]; exact List.drop_eq_nil_iff.mp e
    refine h2 g s ⟨h.1, h.2.1, h.2.2.1, fun a ha => h.2.2.2 a (by omega)⟩
  | r :: l, k, g, s, e, h => by
    have hk : k < C.recs.length := by
      rcases Nat.lt_or_ge k C.recs.length with q | q
      · exact q
      · rw [List.drop_eq_nil_iff.mpr q] at e; exact nomatch e
    have hkn : k < C.n := by rw [← O.len]; exact hk
    have er : C.recs.getD k ([], 0) = r := by
      have e1 : C.recs[k]? = some r := by
        have e2 : (C.recs.drop k)[0]? = some r := by rw [e]; rfl
        rw [List.getElem?_drop, Nat.add_zero] at e2
        exact e2
      rw [List.getD_eq_getElem?_getD, e1]; rfl
    have el : C.recs.drop (k + 1) = l := by
      rw [← List.drop_drop (i := 1) (j := k), e]; rfl
    have hr := O.rok k hkn
    rw [er] at hr
    obtain ⟨rows, res⟩ := r
    have hres : res < 24 := by
      have : ∀ (rows : List Rw) (kn : Nat → Prop), RecRows C.n kn rows res → res < 24 := by
        intro rows
        induction rows with
        | nil => intro kn h; exact h.1
        | cons r l ih => intro kn h; exact ih _ h.2
      exact this _ _ hr
    show WP I _ Po ((rows.map (place (C.oldA i)) ++ chooseR k (C.oldA i) (C.newA i) res ++ wordsR (C.oldA i) (C.newA i) (k + 1) l) ++ l2) g s
    rw [show (rows.map (place (C.oldA i)) ++ chooseR k (C.oldA i) (C.newA i) res ++ wordsR (C.oldA i) (C.newA i) (k + 1) l) ++ l2
      = (rows.map (place (C.oldA i)) ++ [.load 24 (C.oldA i + 1 + k), .load 25 (C.oldA i + 1), .choose 24 25 24 res]) ++ .store 24 (C.newA i + 1 + k) :: (wordsR (C.oldA i) (C.newA i) (k + 1) l ++ l2) from by simp [chooseR]]
    have hln : C.ln = C.n + 2 := rfl
    have n1 := O.n1
    refine WP.regst hI (sf_loc hPN) (fun q hq => ?_) (mid_sf hc h) fun g' s' o m => ?_
    · rcases List.mem_append.mp hq with q1 | q1
      · exact place_regRow hr q q1
      · simp at q1
        rcases q1 with rfl | rfl | rfl
        · show C.inC i _; unfold Cfg.inC Cfg.oldA; omega
        · show C.inC i _; unfold Cfg.inC Cfg.oldA; omega
        · trivial
    · refine wp_words hc h2 l (k + 1) g' s' el ?_
      have v : (run (rows.map (place (C.oldA i)) ++ [.load 24 (C.oldA i + 1 + k), .load 25 (C.oldA i + 1), .choose 24 25 24 res]) s).reg 24 = C.Fc st (1 + k) := by
        rw [run_append, choose_val _ _ _ _ hres, run_mem (C := C) (i := i) (place_regRow hr)]
        have eo : ∀ a, a < C.ln → s.mem (C.oldA i + a) = st a := h.1
        rw [eo 1 (by omega), Nat.add_assoc, eo (1 + k) (by omega)]
        have hFc : C.Fc st (1 + k) = if st 1 ≠ 0 then st (1 + k) else rval (C.recs.getD k ([], 0)) (fun a => st (1 + a)) := by
          unfold Cfg.Fc
          rw [if_neg (by omega), show 1 + k - 1 = k from by omega]
          rfl
        rw [hFc]
        split
        · rfl
        · rw [er]
          unfold rval
          exact place_run hr (fun a ha => by rw [Nat.add_assoc]; exact eo (1 + a) (by omega)) (fun _ hf => hf.elim)
      rw [v] at m
      refine ⟨fun a ha => ?_, ?_, ?_, fun a ha => ?_⟩
      · rw [← h.1 a ha]
        show s'.mem (C.oldA i + a) = s.mem (C.oldA i + a)
        rw [m _ (by unfold Cfg.inC Cfg.oldA; omega), up_ne]
        unfold Cfg.oldA Cfg.newA; omega
      · rw [m _ (by unfold Cfg.inC Cfg.newA; omega), up_ne _ _ (by omega), h.2.1]
      · rw [m _ (by unfold Cfg.inC Cfg.newA; omega), up_ne _ _ (by omega), h.2.2.1]
      · rw [m _ (by unfold Cfg.inC Cfg.newA; omega)]
        by_cases q : a = k
        · subst q; rw [up_same]
        · rw [up_ne _ _ (by omega)]
          exact h.2.2.2 a (by omega)

/-- THE PIECE P: from a right old store it makes the new one, and whatever is whole on the way is right -/
theorem wp_P (hc : ct1 st ≠ 999999) (hF : PN (C.Fc st)) {g : Gh} {s : MS} (hs : SfP C i fl PN st g s) :
    WP I (SfP C i fl PN st) (fun _ s => Sim C.ln (ct s.mem (C.newA i)) (C.Fc st)) (C.pieceP i) g s := by
  have hln : C.ln = C.n + 2 := rfl
  have n1 := O.n1
  have cc : ∀ q, q ∈ [Rw.load 24 (C.oldA i), .load 25 (C.oldA i + 1), .set 26 0, .op .same 25 25 26, .op .add 24 24 25] → RegRow C i q := by
    intro q hq
    simp at hq
    rcases hq with rfl | rfl | rfl | rfl | rfl
    · show C.inC i _; unfold Cfg.inC Cfg.oldA; omega
    · show C.inC i _; unfold Cfg.inC Cfg.oldA; omega
    · trivial
    · trivial
    · trivial
  unfold Cfg.pieceP
  show WP I _ _ ([.set 24 999999] ++ .store 24 (C.newA i + C.n + 1) :: _) g s
  refine WP.regst hI (sf_loc hPN) (fun q hq => by simp at hq; subst hq; trivial) hs fun g1 s1 o1 m1 => ?_
  rw [show (run [.set 24 999999] s).reg 24 = 999999 from by simp [run, exec, up]] at m1
  have old1 : Sim C.ln (ct s1.mem (C.oldA i)) st := fun a ha => by
    rw [← hs.2 a ha]
    show s1.mem _ = s.mem _
    rw [m1 _ (by unfold Cfg.inC Cfg.oldA; omega), up_ne]
    unfold Cfg.oldA Cfg.newA; omega
  have mk1 : s1.mem (C.newA i + C.n + 1) = 999999 := by rw [m1 _ (by unfold Cfg.inC Cfg.newA; omega), up_same]
  have sf1 : SfP C i fl PN st g1 s1 := by
    refine ⟨fun f => ?_, old1⟩
    obtain ⟨a, b⟩ := hs.1 f
    have e0 : s1.mem (C.newA i + 0) = s.mem (C.newA i + 0) := by rw [m1 _ (by unfold Cfg.inC Cfg.newA; omega), up_ne]; omega
    refine ⟨by show s1.mem _ ≠ _; rw [e0]; exact a, fun q => ?_⟩
    have q' : s1.mem (C.newA i + 0) = s1.mem (C.newA i + (C.n + 1)) := q
    rw [e0, ← Nat.add_assoc, mk1] at q'
    exact absurd q' a
  show WP I _ _ ([Rw.load 24 (C.oldA i), .load 25 (C.oldA i + 1), .set 26 0, .op .same 25 25 26, .op .add 24 24 25] ++ .store 24 (C.newA i) :: (wordsR (C.oldA i) (C.newA i) 0 C.recs ++ countR (C.oldA i) (C.newA i + C.n + 1))) g1 s1
  refine WP.regst hI (sf_loc hPN) cc sf1 fun g2 s2 o2 m2 => ?_
  rw [count_val] at m2
  have e2 : ∀ {s : MS}, Sim C.ln (ct s.mem (C.oldA i)) st → (s.mem (C.oldA i) + if s.mem (C.oldA i + 1) = 0 then 1 else 0) % 1000000 = ct1 st := by
    intro s h
    have a0 : s.mem (C.oldA i + 0) = st 0 := h 0 (by omega)
    have a1 : s.mem (C.oldA i + 1) = st 1 := h 1 (by omega)
    unfold ct1
    rw [← a0, ← a1]; rfl
  rw [e2 old1] at m2
  refine wp_words O hI hPN hc (fun g3 s3 h3 => ?_) C.recs 0 g2 s2 rfl ⟨fun a ha => ?_, ?_, ?_, fun a ha => absurd ha (Nat.not_lt_zero _)⟩
  · show WP I _ _ ([Rw.load 24 (C.oldA i), .load 25 (C.oldA i + 1), .set 26 0, .op .same 25 25 26, .op .add 24 24 25] ++ .store 24 (C.newA i + C.n + 1) :: []) g3 s3
    refine WP.regst hI (sf_loc hPN) cc (mid_sf hc h3) fun g4 s4 o4 m4 => ?_
    rw [count_val, e2 h3.1] at m4
    have post : ∀ s' : MS, (∀ a, C.inC i a → s'.mem a = s4.mem a) → Sim C.ln (ct s'.mem (C.newA i)) (C.Fc st) ∧ Sim C.ln (ct s'.mem (C.oldA i)) st := by
      intro s' hm
      refine ⟨fun a ha => ?_, fun a ha => ?_⟩
      · show s'.mem (C.newA i + a) = _
        rw [hm _ (by unfold Cfg.inC Cfg.newA; omega), m4 _ (by unfold Cfg.inC Cfg.newA; omega)]
        by_cases q : a = C.n + 1
        · rw [q, ← Nat.add_assoc, up_same]
          unfold Cfg.Fc; rw [if_pos (.inr rfl)]
        · rw [up_ne _ _ (by omega)]
          by_cases q0 : a = 0
          · rw [q0, Nat.add_zero, h3.2.2.1]
            unfold Cfg.Fc; rw [if_pos (.inl rfl)]
          · have := h3.2.2.2 (a - 1) (by omega)
            rw [show C.newA i + 1 + (a - 1) = C.newA i + a from by omega, show 1 + (a - 1) = a from by omega] at this
            exact this
      · rw [← h3.1 a ha]
        show s'.mem (C.oldA i + a) = s3.mem _
        rw [hm _ (by unfold Cfg.inC Cfg.oldA; omega), m4 _ (by unfold Cfg.inC Cfg.oldA; omega), up_ne]
        unfold Cfg.oldA Cfg.newA; omega
    intro g5 s5 i5
    obtain ⟨p1, p2⟩ := post s5 (hI.loc _ _ _ _ i5)
    refine ⟨⟨fun _ => ⟨?_, fun _ => hPN _ _ p1.symm hF⟩, p2⟩, p1⟩
    rw [p1 0 (by omega)]
    unfold Cfg.Fc; rw [if_pos (.inl rfl)]; exact hc
  · rw [← old1 a ha]
    show s2.mem (C.oldA i + a) = s1.mem _
    rw [m2 _ (by unfold Cfg.inC Cfg.oldA; omega), up_ne]
    unfold Cfg.oldA Cfg.newA; omega
  · rw [m2 _ (by unfold Cfg.inC Cfg.newA; omega), up_ne _ _ (by omega), mk1]
  · rw [m2 _ (by unfold Cfg.inC Cfg.newA; omega), up_same]
end
end Sk
end

section
/-! the piece Q under interference -/
set_option autoImplicit false
set_option linter.unusedVariables false
set_option linter.unusedSectionVars false
namespace Sk
open Classical

theorem blit_in (f : Nat → Int) (a b m k : Nat) (h : k < m) : blit f a b m (b + k) = f (a + k) := by
  unfold blit; rw [if_pos ⟨by omega, by omega⟩, show b + k - b = k from by omega]
theorem blit_out (f : Nat → Int) (a b m x : Nat) (h : x < b ∨ b + m ≤ x) : blit f a b m x = f x := by
  unfold blit; rw [if_neg (by omega)]

/-- what is known of the others while the piece Q of copy i is executed -/
structure Vote (C : Cfg) (i : Nat) (I : Gh → MS → Gh → MS → Prop) (V : Gh → Nat → (Nat → Int) → Prop) (Lw : Gh → Nat → Prop) (N : Nat → Int) (PL : (Nat → Int) → Prop) : Prop where
  itf : Intf C i I
  sim : ∀ f g, Sim C.ln f g → PL f → PL g
  vsim : ∀ g t f h, Sim C.ln f h → V g t f → V g t h
  vord : ∀ g g' t f, (∀ t, g t → g' t) → V g t f → V g' t f
  lord : ∀ g g' t, (∀ t, g t → g' t) → Lw g' t → Lw g t
  env : ∀ g s g' s', I g s g' s' → ∀ t, t < C.K → V g' t (ct s'.mem (C.newA t)) ∧ (Lw g' t → Sim C.ln (ct s'.mem (C.newA t)) N)
  most : ∀ g s g' s', I g s g' s' → ∀ f, f 0 = f (C.n + 1) → C.e < cnt (fun t => V g' t f) C.K → PL f
  least : ∀ g s g' s', I g s g' s' → ∀ t, t < C.K → Lw g' t → C.e < cnt (Lw g') C.K
  whole : N 0 = N (C.n + 1)

def SfQ (C : Cfg) (i : Nat) (PL : (Nat → Int) → Prop) (b0 : Int) : Gh → MS → Prop := fun _ s => PL (ct s.mem (C.oldA i)) ∧ b0 ≤ s.mem (C.oldA i)
theorem sfq_loc {C : Cfg} {i : Nat} {PL : (Nat → Int) → Prop} {b0 : Int} (hs : ∀ f g, Sim C.ln f g → PL f → PL g) : ∀ g s g' s', SfQ C i PL b0 g s → (∀ t, g t → g' t) → (∀ a, C.inC i a → s'.mem a = s.mem a) → SfQ C i PL b0 g' s' := by
  intro g s g' s' h _ hm
  refine ⟨hs _ _ (fun k hk => (hm _ (by unfold Cfg.inC Cfg.oldA; omega)).symm) h.1, ?_⟩
  rw [hm _ (by unfold Cfg.inC Cfg.oldA Cfg.ln; omega)]; exact h.2

section
variable {C : Cfg} (O : C.Ok) {i : Nat} {I : Gh → MS → Gh → MS → Prop} {V : Gh → Nat → (Nat → Int) → Prop} {Lw : Gh → Nat → Prop} {N : Nat → Int} {PL : (Nat → Int) → Prop}

/-- within a vote, and between two votes -/
structure BI0 (C : Cfg) (i : Nat) (Lw : Gh → Nat → Prop) (N : Nat → Int) (PL : (Nat → Int) → Prop) (b0 : Int) (j : Nat) (g : Gh) (s : MS) : Prop where
  r24 : s.reg 24 = 1
  old : PL (ct s.mem (C.oldA i))
  oldc : b0 ≤ s.mem (C.oldA i)
  best : PL (ct s.mem (C.bestA i))
  bestc : b0 ≤ s.mem (C.bestA i)
  got : ∀ t, t < j → Lw g t → N 0 ≤ s.mem (C.bestA i)
/-- between two votes -/
structure BI (C : Cfg) (i : Nat) (Lw : Gh → Nat → Prop) (N : Nat → Int) (PL : (Nat → Int) → Prop) (b0 : Int) (j : Nat) (g : Gh) (s : MS) : Prop extends BI0 C i Lw N PL b0 j g s where
  lst : ∀ t, t + 1 = j → Lw g t → N 0 ≤ s.mem (C.lookA i)

/-- within a vote, behind the look at f -/
structure CI (C : Cfg) (i : Nat) (V : Gh → Nat → (Nat → Int) → Prop) (Lw : Gh → Nat → Prop) (N : Nat → Int) (PL : (Nat → Int) → Prop) (b0 : Int) (q : Nat) (f : Nat → Int) (j : Nat) (g : Gh) (s : MS) : Prop where
  b : BI0 C i Lw N PL b0 q g s
  look : Sim C.ln (ct s.mem (C.lookA i)) f
  r26 : s.reg 26 = if f 0 = f (C.n + 1) then 1 else 0
  r27 : s.reg 27 = if s.mem (C.bestA i) < f 0 then 1 else 0
  r28 : ∃ c : Nat, s.reg 28 = (c : Int) ∧ cnt (fun t => Lw g t ∧ Sim C.ln f N) j ≤ c ∧ c ≤ cnt (fun t => V g t f) j
  lw : Lw g q → Sim C.ln f N

theorem bi_loc (H : Vote C i I V Lw N PL) {b0 : Int} {j : Nat} {g g' : Gh} {s s' : MS} (h : BI0 C i Lw N PL b0 j g s) (o : ∀ t, g t → g' t) (hr : s'.reg 24 = s.reg 24) (hm : ∀ a, C.inC i a → s'.mem a = s.mem a) : BI0 C i Lw N PL b0 j g' s' where
  r24 := by rw [hr]; exact h.r24
  old := H.sim _ _ (fun k hk => (hm _ (by unfold Cfg.inC Cfg.oldA; omega)).symm) h.old
  oldc := by rw [hm _ (by unfold Cfg.inC Cfg.oldA Cfg.ln; omega)]; exact h.oldc
  best := H.sim _ _ (fun k hk => (hm _ (by unfold Cfg.inC Cfg.bestA; omega)).symm) h.best
  bestc := by rw [hm _ (by unfold Cfg.inC Cfg.bestA Cfg.ln; omega)]; exact h.bestc
  got := fun t ht hl => by rw [hm _ (by unfold Cfg.inC Cfg.bestA Cfg.ln; omega)]; exact h.got t ht (H.lord _ _ _ o hl)
theorem ci_loc (H : Vote C i I V Lw N PL) {b0 : Int} {q : Nat} {f : Nat → Int} {j : Nat} {g g' : Gh} {s s' : MS} (h : CI C i V Lw N PL b0 q f j g s) (o : ∀ t, g t → g' t) (hr : ∀ x, x < 29 → s'.reg x = s.reg x) (hm : ∀ a, C.inC i a → s'.mem a = s.mem a) : CI C i V Lw N PL b0 q f j g' s' where
  b := bi_loc H h.b o (hr _ (by omega)) hm
  look := fun k hk => by rw [← h.look k hk]; exact hm _ (by unfold Cfg.inC Cfg.lookA; omega)
  r26 := by rw [hr _ (by omega)]; exact h.r26
  r27 := by rw [hr _ (by omega), hm _ (by unfold Cfg.inC Cfg.bestA Cfg.ln; omega)]; exact h.r27
  r28 := by
    obtain ⟨c, h1, h2, h3⟩ := h.r28
    refine ⟨c, by rw [hr _ (by omega)]; exact h1, Nat.le_trans (cnt_mono fun t _ ht => ⟨H.lord _ _ _ o ht.1, ht.2⟩) h2, Nat.le_trans h3 (cnt_mono fun t _ ht => H.vord _ _ _ _ o ht)⟩
  lw := fun hl => h.lw (H.lord _ _ _ o hl)

theorem wp_cnt (O : C.Ok) (H : Vote C i I V Lw N PL) {b0 : Int} {Po : Gh → MS → Prop} {q : Nat} {f : Nat → Int} : ∀ (j : Nat), j ≤ C.K → ∀ (l2 : List Rw), (∀ g s, CI C i V Lw N PL b0 q f j g s → WP I (SfQ C i PL b0) Po l2 g s) →
    ∀ (g : Gh) (s : MS), CI C i V Lw N PL b0 q f 0 g s → WP I (SfQ C i PL b0) Po (C.voteCnt (C.lookA i) j ++ l2) g s
  | 0, _, l2, h2, g, s, h => h2 g s h
  | j + 1, hj, l2, h2, g, s, h => by
    show WP I _ Po ((C.voteCnt (C.lookA i) j ++ C.voteOne (C.lookA i) j) ++ l2) g s
    rw [List.append_assoc]
    refine wp_cnt O H j (by omega) _ (fun g1 s1 h1 => ?_) g s h
    show WP I _ Po (.alike 29 (C.lookA i) (C.newA j) C.ln :: .op .add 28 28 29 :: l2) g1 s1
    intro g2 s2 i2
    have h3 : CI C i V Lw N PL b0 q f j g2 s2 := ci_loc H h1 (H.itf.ord _ _ _ _ i2) (fun x _ => by rw [H.itf.reg _ _ _ _ i2]) (H.itf.loc _ _ _ _ i2)
    obtain ⟨ev, el⟩ := H.env _ _ _ _ i2 j (by omega)
    refine ⟨⟨h3.b.old, h3.b.oldc⟩, ?_⟩
    intro g4 s4 i4
    have oo := H.itf.ord _ _ _ _ i4
    have mm : ∀ a, C.inC i a → s4.mem a = s2.mem a := fun a ha => (H.itf.loc _ _ _ _ i4 a ha).trans rfl
    have rr : s4.reg = up s2.reg 29 (if ∀ k, k < C.ln → s2.mem (C.lookA i + k) = s2.mem (C.newA j + k) then 1 else 0) := (H.itf.reg _ _ _ _ i4).trans rfl
    have h4 : CI C i V Lw N PL b0 q f j g4 s4 := ci_loc H h3 oo (fun x hx => by rw [rr, up_ne _ _ (by omega)]) mm
    refine ⟨⟨h4.b.old, h4.b.oldc⟩, h2 _ _ ?_⟩
    have ea : ∀ x, x ≠ 28 → (exec (.op .add 28 28 29) s4).reg x = s4.reg x := fun x hx => up_ne s4.reg _ hx
    have bb : BI0 C i Lw N PL b0 q g4 (exec (.op .add 28 28 29) s4) := bi_loc H h4.b (fun _ h => h) (ea 24 (by omega)) (fun _ _ => rfl)
    refine ⟨bb, h4.look, (ea 26 (by omega)).trans h4.r26, (ea 27 (by omega)).trans h4.r27, ?_, h4.lw⟩
    obtain ⟨c, c1, c2, c3⟩ := h4.r28
    have cle : c ≤ j := Nat.le_trans c3 (cnt_le _ _)
    have k1 := O.K1
    show ∃ c : Nat, up s4.reg 28 ((s4.reg 28 + s4.reg 29) % 1000000) 28 = (c : Int) ∧ _
    rw [up_same, c1, rr, up_same]
    by_cases al : ∀ k, k < C.ln → s2.mem (C.lookA i + k) = s2.mem (C.newA j + k)
    · refine ⟨c + 1, by rw [if_pos al]; omega, ?_, ?_⟩
      · show cnt _ j + _ ≤ c + 1
        split <;> omega
      · show c + 1 ≤ cnt _ j + _
        have sm : Sim C.ln (ct s2.mem (C.newA j)) f := fun k hk => by
          rw [← h3.look k hk]; exact (al k hk).symm
        rw [if_pos (H.vord _ _ _ _ oo (H.vsim _ _ _ _ sm ev))]
        omega
    · refine ⟨c, by rw [if_neg al]; omega, ?_, ?_⟩
      · show cnt _ j + _ ≤ c
        rw [if_neg (fun hh => al fun k hk => ?_)]
        · omega
        · have e1 : s2.mem (C.lookA i + k) = f k := h3.look k hk
          have e2 : s2.mem (C.newA j + k) = N k := el (H.lord _ _ _ oo hh.1) k hk
          rw [e1, e2]; exact hh.2 k hk
      · show c ≤ cnt _ j + _
        omega

theorem head_regs (s : MS) (look best len : Nat) (a : Int) (h : s.reg 24 = a) : let t := run [.load 25 look, .load 26 (look + len - 1), .op .same 26 25 26, .load 27 best, .op .less 27 27 25, .set 28 0] s
    t.reg 24 = a ∧ (t.reg 26 = if s.mem look = s.mem (look + len - 1) then 1 else 0) ∧ (t.reg 27 = if s.mem best < s.mem look then 1 else 0) ∧ t.reg 28 = 0 := by
  refine ⟨?_, ?_, ?_, ?_⟩ <;> simp [run, exec, up, opv, h]
theorem tail_regs (s : MS) (e : Int) (p q : Prop) [Decidable p] [Decidable q] (c : Int) (h6 : s.reg 26 = if p then 1 else 0) (h7 : s.reg 27 = if q then 1 else 0) (h8 : s.reg 28 = c) : let t := run [.set 29 e, .op .less 28 29 28, .op .mul 26 26 27, .op .mul 26 26 28] s
    t.reg 24 = s.reg 24 ∧ t.reg 26 = if p ∧ q ∧ e < c then 1 else 0 := by
  refine ⟨by simp [run, exec, up, opv], ?_⟩
  simp [run, exec, up, opv, h6, h7, h8]
  by_cases a : p <;> by_cases b : q <;> by_cases d : e < c <;> simp [a, b, d]

theorem wp_vote (O : C.Ok) (H : Vote C i I V Lw N PL) {b0 : Int} {Po : Gh → MS → Prop} {q : Nat} (hq : q < C.K) {l2 : List Rw} (h2 : ∀ g s, BI C i Lw N PL b0 (q + 1) g s → WP I (SfQ C i PL b0) Po l2 g s) {g : Gh} {s : MS} (h : BI C i Lw N PL b0 q g s) :
    WP I (SfQ C i PL b0) Po (C.vote i q ++ l2) g s := by
  have hln : C.ln = C.n + 2 := rfl
  unfold Cfg.vote
  show WP I _ Po (.move 24 (C.newA q) (C.lookA i) C.ln :: ((C.voteHead (C.newA q) (C.lookA i) (C.bestA i) ++ (C.voteCnt (C.lookA i) C.K ++ (C.voteTail ++ [.move 26 (C.lookA i) (C.bestA i) C.ln]))) ++ l2)) g s
  intro g1 s1 i1
  have h1 : BI0 C i Lw N PL b0 q g1 s1 := bi_loc H h.toBI0 (H.itf.ord _ _ _ _ i1) (by rw [H.itf.reg _ _ _ _ i1]) (H.itf.loc _ _ _ _ i1)
  refine ⟨⟨h1.old, h1.oldc⟩, ?_⟩
  obtain ⟨ev, el⟩ := H.env _ _ _ _ i1 q hq
  have ex : exec (.move 24 (C.newA q) (C.lookA i) C.ln) s1 = ⟨blit s1.mem (C.newA q) (C.lookA i) C.ln, s1.reg⟩ := by
    show (if s1.reg 24 ≠ 0 then _ else _) = _
    rw [h1.r24, if_pos (by omega)]
  rw [ex]
  generalize hf : ct s1.mem (C.newA q) = f at ev el
  let s2 : MS := ⟨blit s1.mem (C.newA q) (C.lookA i) C.ln, s1.reg⟩
  have lk2 : Sim C.ln (ct s2.mem (C.lookA i)) f := fun k hk => by
    rw [← hf]; exact blit_in _ _ _ _ _ hk
  have ou : ∀ a, C.inC i a → (a < C.lookA i ∨ C.lookA i + C.ln ≤ a) → s2.mem a = s1.mem a := fun a _ ha => blit_out _ _ _ _ _ ha
  have b2 : BI0 C i Lw N PL b0 q g1 s2 := by
    refine ⟨h1.r24, H.sim _ _ (fun k hk => (ou _ ?_ ?_).symm) h1.old, ?_, H.sim _ _ (fun k hk => (ou _ ?_ ?_).symm) h1.best, ?_, fun t ht hl => ?_⟩
    · unfold Cfg.inC Cfg.oldA; omega
    · unfold Cfg.oldA Cfg.lookA; omega
    · rw [ou _ (by unfold Cfg.inC Cfg.oldA; omega) (by unfold Cfg.oldA Cfg.lookA; omega)]; exact h1.oldc
    · unfold Cfg.inC Cfg.bestA; omega
    · unfold Cfg.bestA Cfg.lookA; omega
    · rw [ou _ (by unfold Cfg.inC Cfg.bestA; omega) (by unfold Cfg.bestA Cfg.lookA; omega)]; exact h1.bestc
    · rw [ou _ (by unfold Cfg.inC Cfg.bestA; omega) (by unfold Cfg.bestA Cfg.lookA; omega)]; exact h1.got t ht hl
  show WP I _ Po ((C.voteHead (C.newA q) (C.lookA i) (C.bestA i) ++ (C.voteCnt (C.lookA i) C.K ++ (C.voteTail ++ [.move 26 (C.lookA i) (C.bestA i) C.ln]))) ++ l2) g1 s2
  rw [List.append_assoc]
  refine WP.regs H.itf (sfq_loc H.sim) (fun r hr => ?_) ⟨b2.old, b2.oldc⟩ fun g3 s3 o3 m3 r3 => ?_
  · simp [Cfg.voteHead] at hr
    rcases hr with rfl | rfl | rfl | rfl | rfl | rfl <;> try trivial
    · show C.inC i _; unfold Cfg.inC Cfg.lookA; omega
    · show C.inC i _; unfold Cfg.inC Cfg.lookA; omega
    · show C.inC i _; unfold Cfg.inC Cfg.bestA; omega
  obtain ⟨t1, t2, t3, t4⟩ := head_regs s2 (C.lookA i) (C.bestA i) C.ln 1 b2.r24
  have c3 : CI C i V Lw N PL b0 q f 0 g3 s3 := by
    have lk0 : s2.mem (C.lookA i) = f 0 := lk2 0 (by omega)
    have lk1 : s2.mem (C.lookA i + C.ln - 1) = f (C.n + 1) := by
      rw [show C.lookA i + C.ln - 1 = C.lookA i + (C.n + 1) from by omega]; exact lk2 (C.n + 1) (by omega)
    refine ⟨bi_loc H b2 o3 ?_ m3, fun k hk => ?_, ?_, ?_, ⟨0, ?_, Nat.le_refl _, Nat.le_refl _⟩, fun hl => el (H.lord _ _ _ o3 hl)⟩
    · rw [r3, b2.r24]; exact t1
    · rw [← lk2 k hk]; exact m3 _ (by unfold Cfg.inC Cfg.lookA; omega)
    · rw [r3, ← lk0, ← lk1]; exact t2
    · rw [r3, m3 _ (by unfold Cfg.inC Cfg.bestA; omega), ← lk0]; exact t3
    · rw [r3]; exact t4
  rw [List.append_assoc]
  refine wp_cnt O H C.K (Nat.le_refl _) _ (fun g4 s4 h4 => ?_) g3 s3 c3
  rw [List.append_assoc]
  refine WP.regs H.itf (sfq_loc H.sim) (fun r hr => ?_) ⟨h4.b.old, h4.b.oldc⟩ fun g5 s5 o5 m5 r5 => ?_
  · simp [Cfg.voteTail] at hr
    rcases hr with rfl | rfl | rfl | rfl <;> trivial
  obtain ⟨c, c1, c2, c3'⟩ := h4.r28
  obtain ⟨u1, u2⟩ := tail_regs s4 (C.e : Int) _ _ c h4.r26 h4.r27 c1
  show WP I _ Po (.move 26 (C.lookA i) (C.bestA i) C.ln :: l2) g5 s5
  intro g6 s6 i6
  have rr : s6.reg = (run C.voteTail s4).reg := by rw [H.itf.reg _ _ _ _ i6, r5]
  have mm : ∀ a, C.inC i a → s6.mem a = s4.mem a := fun a ha => by rw [H.itf.loc _ _ _ _ i6 a ha, m5 a ha]
  have oo : ∀ t, g4 t → g6 t := fun t ht => H.itf.ord _ _ _ _ i6 t (o5 t ht)
  have h6 : BI0 C i Lw N PL b0 q g6 s6 := bi_loc H h4.b oo (by rw [rr]; exact u1) mm
  have lk6 : Sim C.ln (ct s6.mem (C.lookA i)) f := fun k hk => by
    rw [← h4.look k hk]; exact mm _ (by unfold Cfg.inC Cfg.lookA; omega)
  have best6 : s6.mem (C.bestA i) = s4.mem (C.bestA i) := mm _ (by unfold Cfg.inC Cfg.bestA; omega)
  refine ⟨⟨h6.old, h6.oldc⟩, h2 _ _ ?_⟩
  have r26 : s6.reg 26 = if f 0 = f (C.n + 1) ∧ s4.mem (C.bestA i) < f 0 ∧ (C.e : Int) < (c : Int) then 1 else 0 := by rw [rr]; exact u2
  show BI C i Lw N PL b0 (q + 1) g6 (if s6.reg 26 ≠ 0 then _ else _)
  by_cases mv : f 0 = f (C.n + 1) ∧ s4.mem (C.bestA i) < f 0 ∧ (C.e : Int) < (c : Int)
  · rw [r26, if_pos mv, if_pos (by omega)]
    have hce : C.e < c := by have := mv.2.2; omega
    have ou6 : ∀ a, (a < C.bestA i ∨ C.bestA i + C.ln ≤ a) → blit s6.mem (C.lookA i) (C.bestA i) C.ln a = s6.mem a := fun a ha => blit_out _ _ _ _ _ ha
    have bs : Sim C.ln (ct (blit s6.mem (C.lookA i) (C.bestA i) C.ln) (C.bestA i)) f := fun k hk => by
      rw [← lk6 k hk]; exact blit_in _ _ _ _ _ hk
    have b00 : blit s6.mem (C.lookA i) (C.bestA i) C.ln (C.bestA i) = f 0 := bs 0 (by omega)
    have pf : PL f := H.most _ _ _ _ i6 f mv.1 (Nat.lt_of_lt_of_le hce (Nat.le_trans c3' (cnt_mono fun t _ ht => H.vord _ _ _ _ oo ht)))
    have bc := h6.bestc
    have lt := mv.2.1
    refine ⟨⟨h6.r24, H.sim _ _ (fun k hk => (ou6 _ ?_).symm) h6.old, ?_, H.sim _ _ bs.symm pf, ?_, fun t ht hl => ?_⟩, fun t ht hl => ?_⟩
    · unfold Cfg.oldA Cfg.bestA; omega
    · show b0 ≤ blit s6.mem (C.lookA i) (C.bestA i) C.ln (C.oldA i)
      rw [ou6 _ (by unfold Cfg.oldA Cfg.bestA; omega)]; exact h6.oldc
    · show b0 ≤ blit s6.mem (C.lookA i) (C.bestA i) C.ln (C.bestA i)
      rw [b00]; omega
    · show N 0 ≤ blit s6.mem (C.lookA i) (C.bestA i) C.ln (C.bestA i)
      rw [b00]
      by_cases e : t = q
      · subst e
        have := h4.lw (H.lord _ _ _ oo hl) 0 (by omega)
        omega
      · have := h6.got t (by omega) hl
        omega
    · have e : t = q := by omega
      subst e
      show N 0 ≤ blit s6.mem (C.lookA i) (C.bestA i) C.ln (C.lookA i)
      rw [ou6 _ (by unfold Cfg.lookA Cfg.bestA; omega)]
      have a1 : s6.mem (C.lookA i) = f 0 := lk6 0 (by omega)
      have a2 := h4.lw (H.lord _ _ _ oo hl) 0 (by omega)
      omega
  · rw [r26, if_neg mv, if_neg (by omega)]
    refine ⟨⟨h6.r24, h6.old, h6.oldc, h6.best, h6.bestc, fun t ht hl => ?_⟩, fun t ht hl => ?_⟩
    rotate_left
    · have e : t = q := by omega
      subst e
      have a1 : s6.mem (C.lookA i) = f 0 := lk6 0 (by omega)
      have a2 := h4.lw (H.lord _ _ _ oo hl) 0 (by omega)
      show N 0 ≤ s6.mem (C.lookA i)
      omega
    by_cases e : t = q
    · subst e
      have hl4 := H.lord _ _ _ oo hl
      have sN : Sim C.ln f N := h4.lw hl4
      have e0 : f 0 = N 0 := sN 0 (by omega)
      have e1 : f (C.n + 1) = N (C.n + 1) := sN _ (by omega)
      have many : C.e < cnt (Lw g6) C.K := H.least _ _ _ _ i6 t hq hl
      have : cnt (Lw g6) C.K ≤ cnt (fun t => Lw g4 t ∧ Sim C.ln f N) C.K := cnt_mono fun t _ ht => ⟨H.lord _ _ _ oo ht, sN⟩
      have wh := H.whole
      refine Classical.byContradiction fun hn => mv ⟨by rw [e0, e1]; exact wh, ?_, ?_⟩
      · rw [e0, ← best6]; omega
      · omega
    · exact h6.got t (by omega) hl

theorem wp_votes (O : C.Ok) (H : Vote C i I V Lw N PL) {b0 : Int} {Po : Gh → MS → Prop} : ∀ (j : Nat), j ≤ C.K → ∀ (l2 : List Rw), (∀ g s, BI C i Lw N PL b0 j g s → WP I (SfQ C i PL b0) Po l2 g s) →
    ∀ (g : Gh) (s : MS), BI C i Lw N PL b0 0 g s → WP I (SfQ C i PL b0) Po (C.votes i j ++ l2) g s
  | 0, _, l2, h2, g, s, h => h2 g s h
  | j + 1, hj, l2, h2, g, s, h => by
    show WP I _ Po ((C.votes i j ++ C.vote i j) ++ l2) g s
    rw [List.append_assoc]
    exact wp_votes O H j (by omega) _ (fun g1 s1 h1 => wp_vote O H (by omega) h2 h1) g s h

/-- THE PIECE Q -/
theorem wp_Q (O : C.Ok) (H : Vote C i I V Lw N PL) {b0 : Int} {g : Gh} {s : MS} (hs : PL (ct s.mem (C.oldA i))) (hb : b0 ≤ s.mem (C.oldA i)) :
    WP I (SfQ C i PL b0) (fun g s => ∀ t, t < C.K → Lw g t → N 0 ≤ s.mem (C.oldA i) ∧ N 0 ≤ s.mem (C.bestA i) ∧ (t + 1 = C.K → N 0 ≤ s.mem (C.lookA i))) (C.pieceQ i) g s := by
  have hln : C.ln = C.n + 2 := rfl
  unfold Cfg.pieceQ
  show WP I _ _ (.set 24 1 :: .move 24 (C.oldA i) (C.bestA i) C.ln :: (C.votes i C.K ++ [.move 24 (C.bestA i) (C.oldA i) C.ln])) g s
  have sf0 : SfQ C i PL b0 g s := ⟨hs, hb⟩
  intro g1 s1 i1
  have sf1 := sfq_loc H.sim g s g1 s1 sf0 (H.itf.ord _ _ _ _ i1) (H.itf.loc _ _ _ _ i1)
  refine ⟨sf1, ?_⟩
  intro g2 s2 i2
  have sf2 : SfQ C i PL b0 g2 s2 := sfq_loc H.sim g1 s1 g2 s2 sf1 (H.itf.ord _ _ _ _ i2) (fun a ha => (H.itf.loc _ _ _ _ i2 a ha).trans rfl)
  have r24 : s2.reg 24 = 1 := by
    rw [H.itf.reg _ _ _ _ i2]
    show up s1.reg 24 1 24 = 1
    exact up_same _ _ _
  refine ⟨sf2, wp_votes O H C.K (Nat.le_refl _) _ (fun g3 s3 h3 => ?_) g2 _ ?_⟩
  · show WP I _ _ (.move 24 (C.bestA i) (C.oldA i) C.ln :: []) g3 s3
    intro g4 s4 i4
    have h4 : BI0 C i Lw N PL b0 C.K g4 s4 := bi_loc H h3.toBI0 (H.itf.ord _ _ _ _ i4) (by rw [H.itf.reg _ _ _ _ i4]) (H.itf.loc _ _ _ _ i4)
    refine ⟨⟨h4.old, h4.oldc⟩, ?_⟩
    have ex : exec (.move 24 (C.bestA i) (C.oldA i) C.ln) s4 = ⟨blit s4.mem (C.bestA i) (C.oldA i) C.ln, s4.reg⟩ := by
      show (if s4.reg 24 ≠ 0 then _ else _) = _
      rw [h4.r24, if_pos (by omega)]
    rw [ex]
    intro g5 s5 i5
    have mm : ∀ k, k < C.ln → s5.mem (C.oldA i + k) = s4.mem (C.bestA i + k) := fun k hk => by
      rw [H.itf.loc _ _ _ _ i5 _ (by unfold Cfg.inC Cfg.oldA; omega)]
      exact blit_in _ _ _ _ _ hk
    have m0 : s5.mem (C.oldA i) = s4.mem (C.bestA i) := mm 0 (by omega)
    refine ⟨⟨H.sim _ _ (fun k hk => (mm k hk).symm) h4.best, by rw [m0]; exact h4.bestc⟩, fun t ht hl => ?_⟩
    have hl4 := H.lord _ _ _ (H.itf.ord _ _ _ _ i5) hl
    have g4' := h4.got t ht hl4
    have nb : ∀ a, C.inC i a → (a < C.oldA i ∨ C.oldA i + C.ln ≤ a) → s5.mem a = s4.mem a := fun a ha hn => by
      rw [H.itf.loc _ _ _ _ i5 _ ha]
      exact blit_out _ _ _ _ _ hn
    rw [m0, nb _ (by unfold Cfg.inC Cfg.bestA; omega) (by unfold Cfg.oldA Cfg.bestA; omega), nb _ (by unfold Cfg.inC Cfg.lookA; omega) (by unfold Cfg.oldA Cfg.lookA; omega)]
    refine ⟨g4', g4', fun e => ?_⟩
    rw [H.itf.loc _ _ _ _ i4 _ (by unfold Cfg.inC Cfg.lookA; omega)]
    exact h3.lst t e (H.lord _ _ _ (H.itf.ord _ _ _ _ i4) hl4)
  · have ex : exec (.move 24 (C.oldA i) (C.bestA i) C.ln) s2 = ⟨blit s2.mem (C.oldA i) (C.bestA i) C.ln, s2.reg⟩ := by
      show (if s2.reg 24 ≠ 0 then _ else _) = _
      rw [r24, if_pos (by omega)]
    rw [ex]
    have ou : ∀ a, (a < C.bestA i ∨ C.bestA i + C.ln ≤ a) → blit s2.mem (C.oldA i) (C.bestA i) C.ln a = s2.mem a := fun a ha => blit_out _ _ _ _ _ ha
    have b0' : blit s2.mem (C.oldA i) (C.bestA i) C.ln (C.bestA i) = s2.mem (C.oldA i) := blit_in _ _ _ _ 0 (by omega)
    refine ⟨⟨r24, H.sim _ _ (fun k hk => (ou _ ?_).symm) sf2.1, ?_, H.sim _ _ (fun k hk => (blit_in _ _ _ _ _ hk).symm) sf2.1, ?_, fun t ht => absurd ht (Nat.not_lt_zero _)⟩, fun t ht => absurd ht (Nat.succ_ne_zero _)⟩
    · unfold Cfg.oldA Cfg.bestA; omega
    · show b0 ≤ blit s2.mem (C.oldA i) (C.bestA i) C.ln (C.oldA i)
      rw [ou _ (by unfold Cfg.oldA Cfg.bestA; omega)]; exact sf2.2
    · show b0 ≤ blit s2.mem (C.oldA i) (C.bestA i) C.ln (C.bestA i)
      rw [b0']; exact sf2.2
end
end Sk
end

section
/-! what holds of the copies: the cores, the current piece, one row -/
set_option autoImplicit false
set_option linter.unusedVariables false
set_option linter.unusedSectionVars false
namespace Sk
open Classical

namespace Cfg
variable (C : Cfg)
/-- the content of a store that holds the state number c -/
def Pl (c : Nat) (f : Nat → Int) : Prop := f 0 = (c : Int) ∧ f (C.n + 1) = (c : Int) ∧ ∀ k, k < C.n → f (1 + k) = C.S c k
def PLx (X : Nat) (f : Nat → Int) : Prop := ∃ c, c ≤ C.T ∧ c ≤ X ∧ C.Pl c f
def lo (m : Nat) : Int := ((min m C.T : Nat) : Int)
def OldOK (m X : Nat) (f : Nat → Int) : Prop := C.PLx X f ∧ C.lo m ≤ f 0
def NewOK (Y : Nat) (f : Nat → Int) : Prop := C.NOK (C.PLx Y) f
end Cfg

section
variable {C : Cfg}
theorem pl_sim {c : Nat} {f g : Nat → Int} (h : Sim C.ln f g) (p : C.Pl c f) : C.Pl c g :=
  ⟨(h 0 (by unfold Cfg.ln; omega)).symm.trans p.1, (h _ (by unfold Cfg.ln; omega)).symm.trans p.2.1, fun k hk => (h _ (by unfold Cfg.ln; omega)).symm.trans (p.2.2 k hk)⟩
theorem pl_eqv {c : Nat} {f g : Nat → Int} (p : C.Pl c f) (q : C.Pl c g) : Sim C.ln f g := by
  intro k hk
  unfold Cfg.ln at hk
  by_cases e : k = 0
  · subst e; rw [p.1, q.1]
  · by_cases e2 : k = C.n + 1
    · subst e2; rw [p.2.1, q.2.1]
    · have a := p.2.2 (k - 1) (by omega)
      have b := q.2.2 (k - 1) (by omega)
      rw [show 1 + (k - 1) = k from by omega] at a b
      rw [a, b]
theorem plx_sim {X : Nat} (f g : Nat → Int) (h : Sim C.ln f g) (p : C.PLx X f) : C.PLx X g := by
  obtain ⟨c, a, b, d⟩ := p
  exact ⟨c, a, b, pl_sim h d⟩
theorem plx_mono {X Y : Nat} {f : Nat → Int} (h : X ≤ Y) (p : C.PLx X f) : C.PLx Y f := by
  obtain ⟨c, a, b, d⟩ := p
  exact ⟨c, a, by omega, d⟩
theorem old_sim {m X : Nat} {f g : Nat → Int} (h : Sim C.ln f g) (p : C.OldOK m X f) : C.OldOK m X g :=
  ⟨plx_sim _ _ h p.1, by rw [← h 0 (by unfold Cfg.ln; omega)]; exact p.2⟩
theorem new_sim {Y : Nat} {f g : Nat → Int} (h : Sim C.ln f g) (p : C.NewOK Y f) : C.NewOK Y g := by
  have h0 := h 0 (by unfold Cfg.ln; omega)
  have h1 := h (C.n + 1) (by unfold Cfg.ln; omega)
  exact ⟨by rw [← h0]; exact p.1, fun q => plx_sim _ _ h (p.2 (by rw [h0, h1]; exact q))⟩
theorem new_mono {X Y : Nat} {f : Nat → Int} (h : X ≤ Y) (p : C.NewOK X f) : C.NewOK Y f := ⟨p.1, fun q => plx_mono h (p.2 q)⟩
theorem lo_le {m : Nat} : C.lo m ≤ (C.T : Int) := by unfold Cfg.lo; omega
theorem lo_mono {m m' : Nat} (h : m ≤ m') : C.lo m ≤ C.lo m' := by unfold Cfg.lo; omega

theorem Fc_pl (O : C.Ok) {c : Nat} {f : Nat → Int} (h : C.Pl c f) (hc : c ≤ C.T) : C.Pl (min (c + 1) C.T) (C.Fc f) := by
  have n1 := O.n1
  have T1 := O.T1
  have e1 : f 1 = C.S c 0 := h.2.2 0 (by omega)
  have ct : ct1 f = ((min (c + 1) C.T : Nat) : Int) := by
    unfold ct1
    rw [h.1, e1]
    by_cases q : c < C.T
    · rw [O.go c q, if_pos rfl, show min (c + 1) C.T = c + 1 from by omega]
      omega
    · have e : c = C.T := by omega
      rw [e, if_neg O.fin, show min (C.T + 1) C.T = C.T from by omega]
      omega
  refine ⟨?_, ?_, fun k hk => ?_⟩
  · unfold Cfg.Fc; rw [if_pos (.inl rfl), ct]
  · unfold Cfg.Fc; rw [if_pos (.inr rfl), ct]
  · unfold Cfg.Fc
    rw [if_neg (by omega), show 1 + k - 1 = k from by omega]
    have hs : Sim C.n (fun a => f (1 + a)) (C.S c) := h.2.2
    rw [nx_sim O hs hk]
    by_cases q : c < C.T
    · rw [show min (c + 1) C.T = c + 1 from by omega, O.next c q k hk]
    · have e : c = C.T := by omega
      unfold Cfg.nx
      rw [e, if_pos O.fin, show min (C.T + 1) C.T = C.T from by omega]

/-! what a row of a piece may change -/
theorem exec_regRow {i : Nat} {r : Rw} (h : RegRow C i r) (s : MS) (a : Nat) : (exec r s).mem a = s.mem a := by rw [regRow_mem h]
theorem words_out (O : C.Ok) {i : Nat} : ∀ (l : List (List Rw × Nat)) (k : Nat), C.recs.drop k = l → ∀ r, r ∈ wordsR (C.oldA i) (C.newA i) k l → ∀ (s : MS) (a : Nat), (a < C.newA i ∨ C.newA i + C.ln ≤ a) → (exec r s).mem a = s.mem a
  | [], k, _, r, hr, _, _, _ => by simp [wordsR] at hr
  | rc :: l, k, e, r, hr, s, a, ha => by
    have hk : k < C.recs.length := by
      rcases Nat.lt_or_ge k C.recs.length with q | q
      · exact q
      · rw [List.drop_eq_nil_iff.mpr q] at e; exact nomatch e
    have hkn : k < C.n := by rw [← O.len]; exact hk
    have er : C.recs.getD k ([], 0) = rc := by
      have e1 : C.recs[k]? = some rc := by
        have e2 : (C.recs.drop k)[0]? = some rc := by rw [e]; rfl
        rw [List.getElem?_drop, Nat.add_zero] at e2
        exact e2
      rw [List.getD_eq_getElem?_getD, e1]; rfl
    have el : C.recs.drop (k + 1) = l := by
      rw [← List.drop_drop (i := 1) (j := k), e]; rfl
    rcases List.mem_append.mp hr with q | q
    · rcases List.mem_append.mp q with q1 | q1
      · have hrec := O.rok k hkn
        rw [er] at hrec
        exact exec_regRow (place_regRow hrec r q1) s a
      · simp [chooseR] at q1
        rcases q1 with rfl | rfl | rfl | rfl
        · rfl
        · rfl
        · rfl
        · exact up_ne _ _ (by unfold Cfg.ln at ha; omega)
    · exact words_out O l (k + 1) el r q s a ha
theorem pieceP_out (O : C.Ok) {i : Nat} {r : Rw} (hr : r ∈ C.pieceP i) (s : MS) (a : Nat) (ha : a < C.newA i ∨ C.newA i + C.ln ≤ a) : (exec r s).mem a = s.mem a := by
  have hl : C.ln = C.n + 2 := rfl
  have cr : ∀ b, b < C.ln → r ∈ countR (C.oldA i) (C.newA i + b) → (exec r s).mem a = s.mem a := by
    intro b hb h
    simp [countR] at h
    rcases h with rfl | rfl | rfl | rfl | rfl | rfl
    · rfl
    · rfl
    · rfl
    · rfl
    · rfl
    · exact up_ne _ _ (by omega)
  unfold Cfg.pieceP at hr
  rcases List.mem_append.mp hr with q | q
  · simp at q
    rcases q with rfl | rfl
    · rfl
    · exact up_ne _ _ (by omega)
  · rcases List.mem_append.mp q with q | q
    · exact cr 0 (by omega) q
    · rcases List.mem_append.mp q with q | q
      · exact words_out O C.recs 0 rfl r q s a ha
      · exact cr (C.n + 1) (by omega) q
theorem cnt_rows {look t : Nat} {r : Rw} : ∀ {k : Nat}, r ∈ C.voteCnt look k → ∃ t, r = .alike 29 look (C.newA t) C.ln ∨ r = .op .add 28 28 29
  | 0, h => by simp [Cfg.voteCnt] at h
  | k + 1, h => by
    rcases List.mem_append.mp h with q | q
    · exact cnt_rows (t := t) q
    · simp [Cfg.voteOne] at q
      exact ⟨k, q⟩
/-- the rows of a piece Q: registers alone, or one of the moves -/
def QRow (C : Cfg) (i : Nat) (r : Rw) : Prop := (∀ s : MS, (exec r s).mem = s.mem) ∨ r = .move 24 (C.oldA i) (C.bestA i) C.ln ∨ r = .move 24 (C.bestA i) (C.oldA i) C.ln ∨ r = .move 26 (C.lookA i) (C.bestA i) C.ln ∨ ∃ t, t < C.K ∧ r = .move 24 (C.newA t) (C.lookA i) C.ln
theorem vote_rows {i q : Nat} {r : Rw} (hq : q < C.K) (h : r ∈ C.vote i q) : QRow C i r := by
  unfold Cfg.vote at h
  rcases List.mem_cons.mp h with e | e
  · exact .inr (.inr (.inr (.inr ⟨q, hq, e⟩)))
  · rcases List.mem_append.mp e with e | e
    · simp [Cfg.voteHead] at e
      rcases e with rfl | rfl | rfl | rfl | rfl | rfl <;> exact .inl fun _ => rfl
    · rcases List.mem_append.mp e with e | e
      · obtain ⟨t, e | e⟩ := cnt_rows (t := 0) e
        · subst e; exact .inl fun _ => rfl
        · subst e; exact .inl fun _ => rfl
      · rcases List.mem_append.mp e with e | e
        · simp [Cfg.voteTail] at e
          rcases e with rfl | rfl | rfl | rfl <;> exact .inl fun _ => rfl
        · simp at e
          exact .inr (.inr (.inr (.inl e)))
theorem votes_rows {i : Nat} {r : Rw} : ∀ {k : Nat}, k ≤ C.K → r ∈ C.votes i k → QRow C i r
  | 0, _, h => by simp [Cfg.votes] at h
  | k + 1, hk, h => by
    rcases List.mem_append.mp h with q | q
    · exact votes_rows (by omega) q
    · exact vote_rows (by omega) q
theorem pieceQ_rows {i : Nat} {r : Rw} (h : r ∈ C.pieceQ i) : QRow C i r := by
  unfold Cfg.pieceQ at h
  rcases List.mem_append.mp h with q | q
  · simp at q
    rcases q with rfl | rfl
    · exact .inl fun _ => rfl
    · exact .inr (.inl rfl)
  · rcases List.mem_append.mp q with q | q
    · exact votes_rows (Nat.le_refl _) q
    · simp at q
      exact .inr (.inr (.inl q))
theorem exec_move (r a b m : Nat) (s : MS) (x : Nat) (h : x < b ∨ b + m ≤ x) : (exec (.move r a b m) s).mem x = s.mem x := by
  show (if s.reg r ≠ 0 then (⟨blit s.mem a b m, s.reg⟩ : MS) else s).mem x = _
  split
  · exact blit_out _ _ _ _ _ h
  · rfl
theorem pieceQ_out {i : Nat} {r : Rw} (hr : r ∈ C.pieceQ i) (s : MS) (a : Nat) (h1 : a < C.oldA i ∨ C.oldA i + C.ln ≤ a) (h2 : a < C.lookA i ∨ C.lookA i + 2 * C.ln ≤ a) : (exec r s).mem a = s.mem a := by
  rcases pieceQ_rows hr with e | rfl | rfl | rfl | ⟨t, _, rfl⟩
  · rw [e s]
  · exact exec_move _ _ _ _ _ _ (by unfold Cfg.bestA; unfold Cfg.lookA at h2; omega)
  · exact exec_move _ _ _ _ _ _ h1
  · exact exec_move _ _ _ _ _ _ (by unfold Cfg.bestA; unfold Cfg.lookA at h2; omega)
  · exact exec_move _ _ _ _ _ _ (by omega)

/-! the cores -/
structure Core (C : Cfg) (Ao An : Gh) (m X Y : Nat) (mem : Nat → Int) : Prop where
  old : ∀ i, i < C.K → ¬ Ao i → C.OldOK m X (ct mem (C.oldA i))
  new : ∀ i, i < C.K → ¬ An i → C.NewOK Y (ct mem (C.newA i))

def IP (C : Cfg) (j : Nat) : Gh → MS → Gh → MS → Prop := fun g s g' s' => s'.reg = s.reg ∧ (∀ a, C.inC j a → s'.mem a = s.mem a) ∧ (∀ t, g t → g' t)
theorem ip_intf (C : Cfg) (j : Nat) : Intf C j (IP C j) := ⟨fun _ _ _ _ _ => ⟨rfl, fun _ _ => rfl, fun _ h => h⟩, fun _ _ _ _ h => h.1, fun _ _ _ _ h => h.2.1, fun _ _ _ _ h => h.2.2⟩
theorem ip_refl (C : Cfg) (j : Nat) (g : Gh) (s : MS) : IP C j g s g s := ⟨rfl, fun _ _ => rfl, fun _ h => h⟩
theorem ip_trans (C : Cfg) (j : Nat) : ∀ g s g' s' g'' s'', IP C j g s g' s' → IP C j g' s' g'' s'' → IP C j g s g'' s'' :=
  fun _ _ _ _ _ _ h k => ⟨k.1.trans h.1, fun a ha => (k.2.1 a ha).trans (h.2.1 a ha), fun t ht => k.2.2 t (h.2.2 t ht)⟩

def WPP (C : Cfg) (An : Gh) (X j : Nat) (fl : Prop) (l : List Rw) (s : MS) : Prop :=
  ∃ st, WP (IP C j) (SfP C j fl (C.PLx (X + 1)) st) (fun _ s => Sim C.ln (ct s.mem (C.newA j)) (C.Fc st)) l An s

theorem wpp_start (O : C.Ok) {An : Gh} {m X j : Nat} {fl : Prop} {s : MS} (ho : C.OldOK m X (ct s.mem (C.oldA j))) (hn : fl → C.NewOK (X + 1) (ct s.mem (C.newA j))) : WPP C An X j fl (C.pieceP j) s := by
  obtain ⟨⟨c, c1, c2, c3⟩, _⟩ := ho
  have f := Fc_pl O c3 c1
  have T1 := O.T1
  refine ⟨ct s.mem (C.oldA j), wp_P O (ip_intf C j) (fun _ _ => plx_sim _ _) ?_ ⟨_, Nat.min_le_right _ _, ?_, f⟩ ⟨hn, Sim.refl _ _⟩⟩
  · have e : C.Fc (ct s.mem (C.oldA j)) 0 = ct1 (ct s.mem (C.oldA j)) := by
      unfold Cfg.Fc; rw [if_pos (.inl rfl)]
    rw [← e, f.1]
    omega
  · omega

structure SafeP (C : Cfg) (Ao An : Gh) (m X : Nat) (ent : Prop) (j k : Nat) (s : MS) : Prop where
  core : Core C Ao An m X (X + 1) s.mem
  cur : ent → ¬ Ao j → WPP C An X j (¬ An j) ((C.pieceP j).drop k) s
  ne : ¬ ent → An j

theorem safeP_start (O : C.Ok) {Ao An : Gh} {m X j : Nat} {s : MS} (hj : j < C.K) (h : Core C Ao An m X (X + 1) s.mem) : SafeP C Ao An m X True j 0 s :=
  ⟨h, fun _ ha => wpp_start O (h.old j hj ha) (h.new j hj), fun h => absurd trivial h⟩

/-- one row of a piece P -/
theorem stepP (O : C.Ok) {Ao An : Gh} {m X j k : Nat} {ent : Prop} {s : MS} {r : Rw} (hj : j < C.K) (hr : (C.pieceP j)[k]? = some r) (sub : ∀ t, Ao t → An t) (h : SafeP C Ao An m X ent j k s) :
    SafeP C Ao An m X ent j (k + 1) (exec r s) ∧ (∀ i, i ≠ j → ∀ a, C.inC i a → (exec r s).mem a = s.mem a) ∧ (∀ a, C.inC j a → (a < C.newA j ∨ C.newA j + C.ln ≤ a) → (exec r s).mem a = s.mem a) := by
  have mem : r ∈ C.pieceP j := List.mem_of_getElem? hr
  have dr : (C.pieceP j).drop k = r :: (C.pieceP j).drop (k + 1) := by
    obtain ⟨hk, e⟩ := List.getElem?_eq_some_iff.mp hr
    rw [← e]; exact List.drop_eq_getElem_cons hk
  have ou := pieceP_out O mem s
  have oth : ∀ i, i ≠ j → ∀ a, C.inC i a → (exec r s).mem a = s.mem a := fun i hi a ha => ou a (by
    have h1 := ha
    unfold Cfg.inC at ha
    unfold Cfg.newA
    rcases Nat.lt_or_gt_of_ne hi with q | q
    · have := blk C q; omega
    · have := blk C q; omega)
  have cur : ent → ¬ Ao j → WPP C An X j (¬ An j) ((C.pieceP j).drop (k + 1)) (exec r s) := by
    intro he ha
    obtain ⟨st, w⟩ := h.cur he ha
    rw [dr] at w
    exact ⟨st, (w An s (ip_refl C j An s)).2⟩
  refine ⟨⟨⟨fun i hi ha => ?_, fun i hi ha => ?_⟩, cur, h.ne⟩, oth, fun a _ ha => ou a ha⟩
  · refine old_sim (fun a hl => ?_) (h.core.old i hi ha)
    by_cases e : i = j
    · subst e
      exact (ou _ (by unfold Cfg.oldA Cfg.newA; omega)).symm
    · exact (oth i e _ (by unfold Cfg.inC Cfg.oldA; omega)).symm
  · by_cases e : i = j
    · subst e
      have he : ent := Classical.byContradiction fun q => ha (h.ne q)
      obtain ⟨st, w⟩ := cur he (fun q => ha (sub _ q))
      exact (w.now (ip_refl C i An _)).1 ha
    · exact new_sim (fun a hl => (oth i e _ (by unfold Cfg.inC Cfg.newA; omega)).symm) (h.core.new i hi ha)
/-- behind the last row of a piece P -/
theorem endP (O : C.Ok) {Ao An : Gh} {m X j : Nat} {ent : Prop} {s : MS} (h : SafeP C Ao An m X ent j (C.pieceP j).length s) (he : ent) (ha : ¬ Ao j) : Sim C.ln (ct s.mem (C.newA j)) (C.Fc (ct s.mem (C.oldA j))) := by
  obtain ⟨st, w⟩ := h.cur he ha
  rw [List.drop_length] at w
  obtain ⟨a, b⟩ := w An s (ip_refl C j An s)
  exact b.trans (Fc_sim O a.2).symm

/-! the piece Q, safety -/
def IQ (C : Cfg) (j X : Nat) : Gh → MS → Gh → MS → Prop := fun g s g' s' => s'.reg = s.reg ∧ (∀ a, C.inC j a → s'.mem a = s.mem a) ∧ (∀ t, g t → g' t) ∧ (∀ t, t < C.K → ¬ g' t → C.NewOK X (ct s'.mem (C.newA t))) ∧ cnt g' C.K ≤ C.e
theorem iq_intf (C : Cfg) (j X : Nat) : Intf C j (IQ C j X) := ⟨fun _ _ _ _ h => ⟨rfl, fun _ _ => rfl, fun _ h => h, h.2.2.2⟩, fun _ _ _ _ h => h.1, fun _ _ _ _ h => h.2.1, fun _ _ _ _ h => h.2.2.1⟩
theorem iq_trans (C : Cfg) (j X : Nat) : ∀ g s g' s' g'' s'', IQ C j X g s g' s' → IQ C j X g' s' g'' s'' → IQ C j X g s g'' s'' :=
  fun _ _ _ _ _ _ h k => ⟨k.1.trans h.1, fun a ha => (k.2.1 a ha).trans (h.2.1 a ha), fun t ht => k.2.2.1 t (h.2.2.1 t ht), k.2.2.2⟩
theorem iq_vote (j X : Nat) : Vote C j (IQ C j X) (fun g t f => g t ∨ (f 0 = f (C.n + 1) → C.PLx X f)) (fun _ _ => False) (fun _ => 0) (C.PLx X) where
  itf := iq_intf C j X
  sim := fun _ _ => plx_sim _ _
  vsim := fun g t f h s v => by
    rcases v with v | v
    · exact .inl v
    · refine .inr fun q => plx_sim _ _ s (v ?_)
      rw [s 0 (by unfold Cfg.ln; omega), s _ (by unfold Cfg.ln; omega)]; exact q
  vord := fun g g' t f o v => v.imp (o t) id
  lord := fun _ _ _ _ h => h
  env := fun g s g' s' i t ht => ⟨by
    by_cases q : g' t
    · exact .inl q
    · exact .inr (i.2.2.2.1 t ht q).2, fun h => h.elim⟩
  most := fun g s g' s' i f w h => by
    obtain ⟨t, ht, hv, hn⟩ := cnt_lt (Nat.lt_of_le_of_lt i.2.2.2.2 h)
    rcases hv with hv | hv
    · exact absurd hv hn
    · exact hv w
  least := fun _ _ _ _ _ _ _ h => h.elim
  whole := rfl
def WPQ (C : Cfg) (An : Gh) (m X j : Nat) (l : List Rw) (s : MS) : Prop := WP (IQ C j X) (SfQ C j (C.PLx X) (C.lo m)) (fun _ _ => True) l An s
theorem wpq_start (O : C.Ok) {An : Gh} {m X j : Nat} {s : MS} (ho : C.OldOK m X (ct s.mem (C.oldA j))) : WPQ C An m X j (C.pieceQ j) s :=
  WP.mono (fun _ _ _ _ h => h) (fun _ _ h => h) (fun _ _ _ => trivial) (wp_Q O (iq_vote j X) ho.1 ho.2)

structure SafeQ (C : Cfg) (Ao An : Gh) (m X : Nat) (j k : Nat) (s : MS) : Prop where
  core : Core C Ao An m X X s.mem
  cur : ¬ Ao j → WPQ C An m X j ((C.pieceQ j).drop k) s
theorem safeQ_start (O : C.Ok) {Ao An : Gh} {m X j : Nat} {s : MS} (hj : j < C.K) (h : Core C Ao An m X X s.mem) : SafeQ C Ao An m X j 0 s :=
  ⟨h, fun ha => wpq_start O (h.old j hj ha)⟩
theorem core_iq {Ao An : Gh} {m X j : Nat} {s : MS} (h : Core C Ao An m X X s.mem) (hc : cnt An C.K ≤ C.e) : IQ C j X An s An s := ⟨rfl, fun _ _ => rfl, fun _ h => h, h.new, hc⟩
/-- one row of a piece Q -/
theorem stepQ {Ao An : Gh} {m X j k : Nat} {s : MS} {r : Rw} (hj : j < C.K) (hr : (C.pieceQ j)[k]? = some r) (hc : cnt An C.K ≤ C.e) (h : SafeQ C Ao An m X j k s) :
    SafeQ C Ao An m X j (k + 1) (exec r s) ∧ (∀ i, i ≠ j → ∀ a, C.inC i a → (exec r s).mem a = s.mem a) ∧ (∀ i, i < C.K → ∀ a, a < C.ln → (exec r s).mem (C.newA i + a) = s.mem (C.newA i + a)) := by
  have mem : r ∈ C.pieceQ j := List.mem_of_getElem? hr
  have dr : (C.pieceQ j).drop k = r :: (C.pieceQ j).drop (k + 1) := by
    obtain ⟨hk, e⟩ := List.getElem?_eq_some_iff.mp hr
    rw [← e]; exact List.drop_eq_getElem_cons hk
  have ou := pieceQ_out mem s
  have oth : ∀ i, i ≠ j → ∀ a, C.inC i a → (exec r s).mem a = s.mem a := fun i hi a ha => by
    unfold Cfg.inC at ha
    rcases Nat.lt_or_gt_of_ne hi with q | q
    · have := blk C q; exact ou a (by unfold Cfg.oldA; omega) (by unfold Cfg.lookA; omega)
    · have := blk C q; exact ou a (by unfold Cfg.oldA; omega) (by unfold Cfg.lookA; omega)
  have nw : ∀ i, i < C.K → ∀ a, a < C.ln → (exec r s).mem (C.newA i + a) = s.mem (C.newA i + a) := fun i hi a ha => by
    by_cases e : i = j
    · subst e
      exact ou _ (by unfold Cfg.oldA Cfg.newA; omega) (by unfold Cfg.lookA Cfg.newA; omega)
    · exact oth i e _ (by unfold Cfg.inC Cfg.newA; omega)
  have hn : ∀ i, i < C.K → ¬ An i → C.NewOK X (ct (exec r s).mem (C.newA i)) := fun i hi ha => new_sim (fun a hl => (nw i hi a hl).symm) (h.core.new i hi ha)
  have cur : ¬ Ao j → WPQ C An m X j ((C.pieceQ j).drop (k + 1)) (exec r s) := by
    intro ha
    have w := h.cur ha
    rw [dr] at w
    exact (w An s (core_iq h.core hc)).2
  refine ⟨⟨⟨fun i hi ha => ?_, hn⟩, cur⟩, oth, nw⟩
  by_cases e : i = j
  · subst e
    exact (cur ha).now ⟨rfl, fun _ _ => rfl, fun _ h => h, hn, hc⟩
  · exact old_sim (fun a hl => (oth i e _ (by unfold Cfg.inC Cfg.oldA; omega)).symm) (h.core.old i hi ha)
end
end Sk
end

section
/-! rounds: the general mode and its step -/
set_option autoImplicit false
set_option linter.unusedVariables false
set_option linter.unusedSectionVars false
namespace Sk
open Classical
section
variable {C : Cfg}

/-- what is known of a pass of the pieces Q over news that stand still -/
structure PassD (C : Cfg) (nw : Nat → Nat → Int) (Xp : Nat) (hasN : Prop) (N : Nat → Int) : Prop where
  most : ∀ f, f 0 = f (C.n + 1) → C.e < cnt (fun t => Sim C.ln f (nw t)) C.K → C.PLx Xp f
  least : hasN → C.e < cnt (fun t => Sim C.ln (nw t) N) C.K
  whole : N 0 = N (C.n + 1)
def IS (C : Cfg) (j : Nat) (nw : Nat → Nat → Int) : Gh → MS → Gh → MS → Prop := fun g s g' s' => s'.reg = s.reg ∧ (∀ a, C.inC j a → s'.mem a = s.mem a) ∧ g' = g ∧ (∀ t, t < C.K → Sim C.ln (ct s'.mem (C.newA t)) (nw t))
theorem is_intf (C : Cfg) (j : Nat) (nw : Nat → Nat → Int) : Intf C j (IS C j nw) := ⟨fun _ _ _ _ h => ⟨rfl, fun _ _ => rfl, rfl, h.2.2.2⟩, fun _ _ _ _ h => h.1, fun _ _ _ _ h => h.2.1, fun _ _ _ _ h t ht => by rw [h.2.2.1]; exact ht⟩
theorem is_vote {j Xp : Nat} {nw : Nat → Nat → Int} {hasN : Prop} {N : Nat → Int} (D : PassD C nw Xp hasN N) : Vote C j (IS C j nw) (fun _ t f => Sim C.ln f (nw t)) (fun _ t => hasN ∧ Sim C.ln (nw t) N) N (C.PLx Xp) where
  itf := is_intf C j nw
  sim := fun _ _ => plx_sim _ _
  vsim := fun g t f h s v => s.symm.trans v
  vord := fun _ _ _ _ _ v => v
  lord := fun _ _ _ _ h => h
  env := fun g s g' s' i t ht => ⟨i.2.2.2 t ht, fun h => (i.2.2.2 t ht).trans h.2⟩
  most := fun g s g' s' i f w h => D.most f w h
  least := fun g s g' s' i t ht h => Nat.lt_of_lt_of_le (D.least h.1) (cnt_mono fun t _ q => ⟨h.1, q⟩)
  whole := D.whole
def WPS (C : Cfg) (An : Gh) (m Xp j : Nat) (nw : Nat → Nat → Int) (hasN : Prop) (N : Nat → Int) (l : List Rw) (s : MS) : Prop :=
  WP (IS C j nw) (SfQ C j (C.PLx Xp) (C.lo m)) (fun _ s => hasN → N 0 ≤ s.mem (C.oldA j)) l An s
theorem wps_start (O : C.Ok) {An : Gh} {m Xp j : Nat} {nw : Nat → Nat → Int} {hasN : Prop} {N : Nat → Int} (D : PassD C nw Xp hasN N) {s : MS} (ho : C.OldOK m Xp (ct s.mem (C.oldA j))) : WPS C An m Xp j nw hasN N (C.pieceQ j) s := by
  refine WP.mono (fun _ _ _ _ h => h) (fun _ _ h => h) (fun g s h hh => ?_) (wp_Q O (is_vote D) ho.1 ho.2)
  obtain ⟨t, ht, hs⟩ := cnt_pos (Nat.lt_of_le_of_lt (Nat.zero_le _) (D.least hh))
  exact (h t ht ⟨hh, hs⟩).1

structure Pass (C : Cfg) (Ao An : Gh) (m Xp Lv : Nat) (nw : Nat → Nat → Int) (hasN : Prop) (N : Nat → Int) (j k : Nat) (s : MS) : Prop where
  d : PassD C nw Xp hasN N
  low : (hasN ∧ C.lo Lv ≤ N 0) ∨ C.lo Lv ≤ C.lo m
  nws : ∀ t, t < C.K → Sim C.ln (ct s.mem (C.newA t)) (nw t)
  vis : ∀ i, i < j → ¬ Ao i → C.OldOK Lv Xp (ct s.mem (C.oldA i))
  unv : ∀ i, j < i → i < C.K → ¬ Ao i → C.PLx Xp (ct s.mem (C.oldA i))
  cur : ¬ Ao j → WPS C An m Xp j nw hasN N ((C.pieceQ j).drop k) s

/-- one row of a pass -/
theorem stepS {Ao An : Gh} {m Xp Lv : Nat} {nw : Nat → Nat → Int} {hasN : Prop} {N : Nat → Int} {j k : Nat} {s : MS} {r : Rw} (hj : j < C.K) (hr : (C.pieceQ j)[k]? = some r) (h : Pass C Ao An m Xp Lv nw hasN N j k s)
    (oth : ∀ i, i ≠ j → ∀ a, C.inC i a → (exec r s).mem a = s.mem a) (nwf : ∀ i, i < C.K → ∀ a, a < C.ln → (exec r s).mem (C.newA i + a) = s.mem (C.newA i + a)) : Pass C Ao An m Xp Lv nw hasN N j (k + 1) (exec r s) := by
  have dr : (C.pieceQ j).drop k = r :: (C.pieceQ j).drop (k + 1) := by
    obtain ⟨hk, e⟩ := List.getElem?_eq_some_iff.mp hr
    rw [← e]; exact List.drop_eq_getElem_cons hk
  refine ⟨h.d, h.low, fun t ht => Sim.trans (fun a ha => nwf t ht a ha) (h.nws t ht), fun i hi ha => old_sim (fun a hl => (oth i (by omega) _ (by unfold Cfg.inC Cfg.oldA; omega)).symm) (h.vis i hi ha),
    fun i hi hk ha => plx_sim _ _ (fun a hl => (oth i (by omega) _ (by unfold Cfg.inC Cfg.oldA; omega)).symm) (h.unv i hi hk ha), fun ha => ?_⟩
  have w := h.cur ha
  unfold WPS at w
  rw [dr] at w
  exact (w An s ⟨rfl, fun _ _ => rfl, rfl, h.nws⟩).2
/-- behind the last row of a piece Q of a pass -/
theorem endS {Ao An : Gh} {m Xp Lv : Nat} {nw : Nat → Nat → Int} {hasN : Prop} {N : Nat → Int} {j : Nat} {s : MS} (h : Pass C Ao An m Xp Lv nw hasN N j (C.pieceQ j).length s) (ha : ¬ Ao j) : C.OldOK Lv Xp (ct s.mem (C.oldA j)) := by
  have w := h.cur ha
  rw [List.drop_length] at w
  obtain ⟨a, b⟩ := w An s ⟨rfl, fun _ _ => rfl, rfl, h.nws⟩
  refine ⟨a.1, ?_⟩
  have a2 := a.2
  show C.lo Lv ≤ s.mem (C.oldA j)
  rcases h.low with l | l
  · have := b l.1
    have := l.2
    omega
  · omega

theorem agreed (hc : ∀ {An : Gh}, True) {Ao An : Gh} {m X Y : Nat} {mem : Nat → Int} (core : Core C Ao An m X Y mem) (hAn : cnt An C.K ≤ C.e) {f : Nat → Int} (w : f 0 = f (C.n + 1)) (h : C.e < cnt (fun t => Sim C.ln f (ct mem (C.newA t))) C.K) : C.PLx Y f := by
  obtain ⟨t, ht, hv, hn⟩ := cnt_lt (Nat.lt_of_le_of_lt hAn h)
  have := core.new t ht hn
  refine plx_sim _ _ hv.symm (this.2 ?_)
  rw [← hv 0 (by unfold Cfg.ln; omega), ← hv _ (by unfold Cfg.ln; omega)]; exact w

theorem pass_data (O : C.Ok) {Ao An : Gh} {m X w : Nat} {mem : Nat → Int} {clean : Prop} (core : Core C Ao An m X (X + 1) mem) (hX : X ≤ m + w) (cond : C.e * (w + 1) < cnt (fun i => ¬ Ao i) C.K) (hAn : cnt An C.K ≤ C.e)
    (fr : clean → ∀ i, i < C.K → ¬ Ao i → Sim C.ln (ct mem (C.newA i)) (C.Fc (ct mem (C.oldA i)))) :
    ∃ (Xp Lv : Nat) (hasN : Prop) (N : Nat → Int), X ≤ Xp ∧ Xp ≤ X + 1 ∧ m ≤ Lv ∧ Xp ≤ Lv + w ∧ (clean → m + 1 ≤ Lv) ∧ PassD C (fun t => ct mem (C.newA t)) Xp hasN N ∧ ((hasN ∧ C.lo Lv ≤ N 0) ∨ C.lo Lv ≤ C.lo m) := by
  by_cases hA : ∃ f : Nat → Int, f 0 = f (C.n + 1) ∧ C.e < cnt (fun t => Sim C.ln f (ct mem (C.newA t))) C.K ∧ f 0 = ((X + 1 : Nat) : Int)
  · obtain ⟨f, fw, fc, f0⟩ := hA
    obtain ⟨c, c1, c2, c3⟩ := agreed trivial core hAn fw fc
    have ec : c = X + 1 := by have := c3.1; omega
    obtain ⟨i, hi, ha⟩ := cnt_pos (Nat.lt_of_le_of_lt (Nat.zero_le _) cond)
    obtain ⟨⟨b, b1, b2, b3⟩, b4⟩ := core.old i hi ha
    have hm : m ≤ X := by
      rw [b3.1] at b4
      unfold Cfg.lo at b4
      omega
    refine ⟨X + 1, X + 1, True, f, by omega, Nat.le_refl _, by omega, by omega, fun _ => by omega, ⟨fun g gw gc => agreed trivial core hAn gw gc, fun _ => Nat.lt_of_lt_of_le fc (cnt_mono fun t _ h => h.symm), fw⟩, .inl ⟨trivial, ?_⟩⟩
    rw [f0]; unfold Cfg.lo; omega
  · have most : ∀ f : Nat → Int, f 0 = f (C.n + 1) → C.e < cnt (fun t => Sim C.ln f (ct mem (C.newA t))) C.K → C.PLx X f := by
      intro f fw fc
      obtain ⟨c, c1, c2, c3⟩ := agreed trivial core hAn fw fc
      refine ⟨c, c1, ?_, c3⟩
      rcases Nat.lt_or_ge X c with q | q
      · exact absurd ⟨f, fw, fc, by rw [c3.1]; omega⟩ hA
      · exact q
    by_cases cl : clean
    · -- the pigeonhole
      have key : ∀ i, i < C.K → ¬ Ao i → ∃ c, c ≤ C.T ∧ c ≤ X ∧ min m C.T ≤ c ∧ C.Pl c (ct mem (C.oldA i)) ∧ (mem (C.oldA i)).toNat = c := by
        intro i hi ha
        obtain ⟨⟨b, b1, b2, b3⟩, b4⟩ := core.old i hi ha
        have e0 : mem (C.oldA i) = (b : Int) := b3.1
        refine ⟨b, b1, b2, ?_, b3, by rw [e0]; omega⟩
        rw [b3.1] at b4
        unfold Cfg.lo at b4
        omega
      obtain ⟨v, hv, hc⟩ := pigeon (p := fun i => ¬ Ao i) (f := fun i => (mem (C.oldA i)).toNat - min m C.T) (e := C.e) (k := C.K) (d := w + 1) (fun i hi ha => by
        obtain ⟨c, k1, k2, k3, k4, k5⟩ := key i hi ha
        show (mem (C.oldA i)).toNat - min m C.T < w + 1
        omega) cond
      obtain ⟨i0, hi0, ha0, hv0⟩ := cnt_pos (Nat.lt_of_le_of_lt (Nat.zero_le _) hc)
      obtain ⟨c, k1, k2, k3, k4, k5⟩ := key i0 hi0 ha0
      have pn : C.Pl (min (c + 1) C.T) (ct mem (C.newA i0)) := pl_sim (fr cl i0 hi0 ha0).symm (Fc_pl O k4 k1)
      refine ⟨X, m + 1, True, ct mem (C.newA i0), Nat.le_refl _, by omega, by omega, by omega, fun _ => Nat.le_refl _, ⟨most, fun _ => Nat.lt_of_lt_of_le hc (cnt_mono fun t ht q => ?_), pn.1.trans pn.2.1.symm⟩, .inl ⟨trivial, ?_⟩⟩
      · obtain ⟨q1, q2⟩ := q
        obtain ⟨c', l1, l2, l3, l4, l5⟩ := key t ht q1
        have ec : c' = c := by omega
        subst ec
        exact pl_eqv (pl_sim (fr cl t ht q1).symm (Fc_pl O l4 l1)) pn
      · rw [pn.1]; unfold Cfg.lo; omega
    · exact ⟨X, m, False, fun _ => 0, Nat.le_refl _, by omega, Nat.le_refl _, hX, fun h => absurd h cl, ⟨most, fun h => h.elim, rfl⟩, .inr (Int.le_refl _)⟩

theorem pass_start (O : C.Ok) {Ao An : Gh} {m X w : Nat} {s : MS} {clean : Prop} (k1 : 0 < C.K) (core : Core C Ao An m X (X + 1) s.mem) (hX : X ≤ m + w) (cond : C.e * (w + 1) < cnt (fun i => ¬ Ao i) C.K) (hAn : cnt An C.K ≤ C.e)
    (fr : clean → ∀ i, i < C.K → ¬ Ao i → Sim C.ln (ct s.mem (C.newA i)) (C.Fc (ct s.mem (C.oldA i)))) :
    ∃ (Xp Lv : Nat) (hasN : Prop) (N : Nat → Int), X ≤ Xp ∧ Xp ≤ X + 1 ∧ m ≤ Lv ∧ Xp ≤ Lv + w ∧ (clean → m + 1 ≤ Lv) ∧ Pass C Ao An m Xp Lv (fun t => ct s.mem (C.newA t)) hasN N 0 0 s := by
  obtain ⟨Xp, Lv, hasN, N, h1, h2, h3, h4, h5, h6, h7⟩ := pass_data O core hX cond hAn fr
  exact ⟨Xp, Lv, hasN, N, h1, h2, h3, h4, h5, h6, h7, fun _ _ => Sim.refl _ _, fun i hi => absurd hi (Nat.not_lt_zero _), fun i _ hi ha => plx_mono h1 (core.old i hi ha).1,
    fun ha => wps_start O h6 ⟨plx_mono h1 (core.old 0 k1 ha).1, (core.old 0 k1 ha).2⟩⟩
end

/-! the ring's rows by their numbers -/
namespace Cfg
variable (C : Cfg)
def lp : Nat := (C.pieceP 0).length
def lq : Nat := (C.pieceQ 0).length
def L : Nat := C.K * C.lp + C.K * C.lq
def rowAt (p : Nat) : Option Rw := if p < C.K * C.lp then (C.pieceP (p / C.lp))[p % C.lp]? else (C.pieceQ ((p - C.K * C.lp) / C.lq))[(p - C.K * C.lp) % C.lq]?
end Cfg
section
variable {C : Cfg}
theorem words_len (o n o' n' : Nat) : ∀ (l : List (List Rw × Nat)) (k k' : Nat), (wordsR o n k l).length = (wordsR o' n' k' l).length
  | [], _, _ => rfl
  | r :: l, k, k' => by
    simp only [wordsR, wordR, List.length_append, List.length_map, words_len o n o' n' l (k + 1) (k' + 1)]
    rfl
theorem lenP (j : Nat) : (C.pieceP j).length = C.lp := by
  unfold Cfg.lp Cfg.pieceP
  simp only [List.length_append, countR, words_len (C.oldA j) (C.newA j) (C.oldA 0) (C.newA 0) C.recs 0 0]
  rfl
theorem cnt_len (a b : Nat) : ∀ k : Nat, (C.voteCnt a k).length = (C.voteCnt b k).length
  | 0 => rfl
  | k + 1 => by simp [Cfg.voteCnt, Cfg.voteOne, cnt_len a b k]
theorem votes_len (a b : Nat) : ∀ k : Nat, (C.votes a k).length = (C.votes b k).length
  | 0 => rfl
  | k + 1 => by simp [Cfg.votes, Cfg.vote, Cfg.voteHead, Cfg.voteTail, votes_len a b k, cnt_len (C.lookA a) (C.lookA b) C.K]
theorem lenQ (j : Nat) : (C.pieceQ j).length = C.lq := by
  unfold Cfg.lq Cfg.pieceQ
  simp [votes_len j 0 C.K]
theorem lp_pos : 0 < C.lp := by
  unfold Cfg.lp Cfg.pieceP
  simp [countR]
theorem lq_pos : 0 < C.lq := by
  unfold Cfg.lq Cfg.pieceQ
  simp
theorem rowAt_P {j k : Nat} (hj : j < C.K) (hk : k < C.lp) : C.rowAt (j * C.lp + k) = (C.pieceP j)[k]? := by
  have h1 : (j + 1) * C.lp ≤ C.K * C.lp := Nat.mul_le_mul_right _ hj
  rw [Nat.succ_mul] at h1
  unfold Cfg.rowAt
  rw [if_pos (by omega), Nat.mul_comm j, Nat.mul_add_div lp_pos, Nat.mul_add_mod, Nat.div_eq_of_lt hk, Nat.mod_eq_of_lt hk, Nat.add_zero]
theorem rowAt_Q {j k : Nat} (hj : j < C.K) (hk : k < C.lq) : C.rowAt (C.K * C.lp + j * C.lq + k) = (C.pieceQ j)[k]? := by
  unfold Cfg.rowAt
  rw [if_neg (by omega), show C.K * C.lp + j * C.lq + k - C.K * C.lp = C.lq * j + k from by rw [Nat.mul_comm j]; omega, Nat.mul_add_div lq_pos, Nat.mul_add_mod, Nat.div_eq_of_lt hk, Nat.mod_eq_of_lt hk, Nat.add_zero]

/-- the general mode: where the machine stands, what holds there -/
inductive GM (C : Cfg) (w f t : Nat) (Ao An : Gh) : MS → Nat → Prop
  | p {m X j k : Nat} {ent clean : Prop} {s : MS} (hj : j < C.K) (hk : k < C.lp) (sf : SafeP C Ao An m X ent j k s) (rng : X ≤ m + w)
      (tm : t ≤ (m + 2 * f) * C.L + (j * C.lp + k)) (dirty : ¬ clean → t + C.L ≤ (m + 2 * f) * C.L + (j * C.lp + k)) (ce : clean → ¬ Ao j → ent)
      (fr : clean → ∀ i, i < j → ¬ Ao i → Sim C.ln (ct s.mem (C.newA i)) (C.Fc (ct s.mem (C.oldA i)))) : GM C w f t Ao An s (j * C.lp + k)
  | s {m X Xp Lv j k : Nat} {clean hasN : Prop} {nw : Nat → Nat → Int} {N : Nat → Int} {s : MS} (hj : j < C.K) (hk : k < C.lq) (sf : SafeQ C Ao An m (X + 1) j k s) (rng : X ≤ m + w)
      (h1 : X ≤ Xp) (h2 : Xp ≤ X + 1) (h3 : m ≤ Lv) (h4 : Xp ≤ Lv + w) (h5 : clean → m + 1 ≤ Lv) (ps : Pass C Ao An m Xp Lv nw hasN N j k s)
      (tm : t ≤ (m + 2 * f) * C.L + (C.K * C.lp + j * C.lq + k)) (dirty : ¬ clean → t + C.L ≤ (m + 2 * f) * C.L + (C.K * C.lp + j * C.lq + k)) : GM C w f t Ao An s (C.K * C.lp + j * C.lq + k)
  | q {m X j k : Nat} {s : MS} (hj : j < C.K) (hk : k < C.lq) (sf : SafeQ C Ao An m X j k s) (rng : X ≤ m + w)
      (tm : t + C.L ≤ (m + 2 * f) * C.L + (C.K * C.lp + j * C.lq + k)) : GM C w f t Ao An s (C.K * C.lp + j * C.lq + k)

def nextRow (C : Cfg) (p : Nat) : Nat := if p + 1 = C.L then 0 else p + 1

theorem core_up {Ao An : Gh} {m X m' X' Y Y' : Nat} {mem : Nat → Int} (h : Core C Ao An m X Y mem) (hm : m' ≤ m) (hX : X ≤ X') (hY : Y ≤ Y') : Core C Ao An m' X' Y' mem :=
  ⟨fun i hi ha => ⟨plx_mono hX (h.old i hi ha).1, Int.le_trans (lo_mono hm) (h.old i hi ha).2⟩, fun i hi ha => new_mono hY (h.new i hi ha)⟩

theorem gm_step (O : C.Ok) {w f t : Nat} {Ao An : Gh} {s : MS} {p : Nat} {r : Rw} (sub : ∀ t, Ao t → An t) (cond : C.e * (w + 1) < cnt (fun i => ¬ Ao i) C.K) (hAn : cnt An C.K ≤ C.e)
    (h : GM C w f t Ao An s p) (hr : C.rowAt p = some r) : GM C w f (t + 1) Ao An (exec r s) (nextRow C p) := by
  have lpp : 0 < C.lp := lp_pos
  have lqp : 0 < C.lq := lq_pos
  have K1 : 0 < C.K := by
    have := cnt_le (fun i => ¬ Ao i) C.K
    omega
  have KQ : C.lq ≤ C.K * C.lq := Nat.le_mul_of_pos_left _ K1
  have eL : C.L = C.K * C.lp + C.K * C.lq := rfl
  cases h with
  | @p m X j k ent clean _ hj hk sf rng tm dirty ce fr =>
    rw [rowAt_P hj hk] at hr
    have hjl : j * C.lp + C.lp ≤ C.K * C.lp := by
      have := Nat.mul_le_mul_right C.lp (show j + 1 ≤ C.K from hj)
      rw [Nat.succ_mul] at this; exact this
    obtain ⟨sf', oth, own⟩ := stepP O hj hr sub sf
    have fr' : clean → ∀ i, i < j → ¬ Ao i → Sim C.ln (ct (exec r s).mem (C.newA i)) (C.Fc (ct (exec r s).mem (C.oldA i))) := fun cl i hi ha => by
      have a := fr cl i hi ha
      have e1 : Sim C.ln (ct (exec r s).mem (C.newA i)) (ct s.mem (C.newA i)) := fun a hl => oth i (by omega) _ (by unfold Cfg.inC Cfg.newA; omega)
      have e2 : Sim C.ln (ct s.mem (C.oldA i)) (ct (exec r s).mem (C.oldA i)) := fun a hl => (oth i (by omega) _ (by unfold Cfg.inC Cfg.oldA; omega)).symm
      exact (e1.trans a).trans (Fc_sim O e2)
    by_cases q : k + 1 < C.lp
    · have e : nextRow C (j * C.lp + k) = j * C.lp + (k + 1) := by unfold nextRow; rw [if_neg (by omega)]; omega
      rw [e]
      exact .p hj q sf' rng (by omega) (fun hc => by have := dirty hc; omega) ce fr'
    · have ek : k + 1 = C.lp := by omega
      have fr2 : clean → ∀ i, i < j + 1 → ¬ Ao i → Sim C.ln (ct (exec r s).mem (C.newA i)) (C.Fc (ct (exec r s).mem (C.oldA i))) := fun cl i hi ha => by
        by_cases e : i = j
        · subst e
          rw [ek, ← lenP i] at sf'
          exact endP O sf' (ce cl ha) ha
        · exact fr' cl i (by omega) ha
      by_cases qj : j + 1 < C.K
      · have e : nextRow C (j * C.lp + k) = (j + 1) * C.lp + 0 := by
          rw [Nat.succ_mul]
          unfold nextRow; rw [if_neg (by omega)]; omega
        have e3 : (j + 1) * C.lp = j * C.lp + C.lp := Nat.succ_mul _ _
        rw [e]
        exact .p qj lpp (safeP_start O qj sf'.core) rng (by omega) (fun hc => by have := dirty hc; omega) (fun _ _ => trivial) fr2
      · have ej : j + 1 = C.K := by omega
        have e4 : C.K * C.lp = j * C.lp + C.lp := by rw [← ej, Nat.succ_mul]
        have e : nextRow C (j * C.lp + k) = C.K * C.lp + 0 * C.lq + 0 := by
          unfold nextRow; rw [if_neg (by omega)]; omega
        obtain ⟨Xp, Lv, hasN, N, h1, h2, h3, h4, h5, ps⟩ := pass_start O K1 sf'.core rng cond hAn (clean := clean) (fun cl i hi ha => fr2 cl i (by omega) ha)
        rw [e]
        exact .s K1 lqp (safeQ_start O K1 (core_up sf'.core (Nat.le_refl _) (Nat.le_succ _) (Nat.le_refl _))) rng h1 h2 h3 h4 h5 ps (by omega) (fun hc => by have := dirty hc; omega)
  | @s m X Xp Lv j k clean hasN nw N _ hj hk sf rng h1 h2 h3 h4 h5 ps tm dirty =>
    rw [rowAt_Q hj hk] at hr
    have hjl : j * C.lq + C.lq ≤ C.K * C.lq := by
      have := Nat.mul_le_mul_right C.lq (show j + 1 ≤ C.K from hj)
      rw [Nat.succ_mul] at this; exact this
    obtain ⟨sf', oth, nwf⟩ := stepQ hj hr hAn sf
    have ps' := stepS hj hr ps oth nwf
    by_cases q : k + 1 < C.lq
    · have e : nextRow C (C.K * C.lp + j * C.lq + k) = C.K * C.lp + j * C.lq + (k + 1) := by unfold nextRow; rw [if_neg (by omega)]; omega
      rw [e]
      exact .s hj q sf' rng h1 h2 h3 h4 h5 ps' (by omega) (fun hc => by have := dirty hc; omega)
    · have ek : k + 1 = C.lq := by omega
      have vis : ∀ i, i < j + 1 → ¬ Ao i → C.OldOK Lv Xp (ct (exec r s).mem (C.oldA i)) := fun i hi ha => by
        by_cases e : i = j
        · subst e
          rw [ek, ← lenQ i] at ps'
          exact endS ps' ha
        · exact ps'.vis i (by omega) ha
      by_cases qj : j + 1 < C.K
      · have e3 : (j + 1) * C.lq = j * C.lq + C.lq := Nat.succ_mul _ _
        have e8 : (j + 1) * C.lq + C.lq ≤ C.K * C.lq := by
          have := Nat.mul_le_mul_right C.lq (show j + 1 + 1 ≤ C.K from qj)
          rw [Nat.succ_mul] at this; exact this
        have e : nextRow C (C.K * C.lp + j * C.lq + k) = C.K * C.lp + (j + 1) * C.lq + 0 := by
          unfold nextRow; rw [if_neg (by omega)]; omega
        rw [e]
        exact .s qj lqp (safeQ_start O qj sf'.core) rng h1 h2 h3 h4 h5
          ⟨ps'.d, ps'.low, ps'.nws, vis, fun i hi hk ha => ps'.unv i (by omega) hk ha, fun ha => wps_start O ps'.d ⟨ps'.unv _ (Nat.lt_succ_self _) qj ha, (sf'.core.old _ qj ha).2⟩⟩
          (by omega) (fun hc => by have := dirty hc; omega)
      · have ej : j + 1 = C.K := by omega
        have e4 : C.K * C.lq = j * C.lq + C.lq := by rw [← ej, Nat.succ_mul]
        have e : nextRow C (C.K * C.lp + j * C.lq + k) = 0 * C.lp + 0 := by
          unfold nextRow; rw [if_pos (by omega)]; omega
        rw [e]
        have e5 : (m + 2 * f) * C.L ≤ (Lv + 2 * f) * C.L := Nat.mul_le_mul_right _ (by omega)
        have core' : Core C Ao An Lv Xp (Xp + 1) (exec r s).mem := ⟨fun i hi ha => vis i (by omega) ha, fun i hi ha => new_mono (by omega) (sf'.core.new i hi ha)⟩
        refine .p (clean := True) K1 lpp (safeP_start O K1 core') h4 ?_ (fun hc => absurd trivial hc) (fun _ _ => trivial) (fun _ i hi => absurd hi (Nat.not_lt_zero _))
        by_cases cl : clean
        · have e6 : (m + 1 + 2 * f) * C.L ≤ (Lv + 2 * f) * C.L := Nat.mul_le_mul_right _ (by have := h5 cl; omega)
          have e7 : (m + 1 + 2 * f) * C.L = (m + 2 * f) * C.L + C.L := by rw [show m + 1 + 2 * f = m + 2 * f + 1 from by omega, Nat.succ_mul]
          omega
        · have := dirty cl
          omega
  | @q m X j k _ hj hk sf rng tm =>
    rw [rowAt_Q hj hk] at hr
    have hjl : j * C.lq + C.lq ≤ C.K * C.lq := by
      have := Nat.mul_le_mul_right C.lq (show j + 1 ≤ C.K from hj)
      rw [Nat.succ_mul] at this; exact this
    obtain ⟨sf', oth, nwf⟩ := stepQ hj hr hAn sf
    by_cases q : k + 1 < C.lq
    · have e : nextRow C (C.K * C.lp + j * C.lq + k) = C.K * C.lp + j * C.lq + (k + 1) := by unfold nextRow; rw [if_neg (by omega)]; omega
      rw [e]
      exact .q hj q sf' rng (by omega)
    · have ek : k + 1 = C.lq := by omega
      by_cases qj : j + 1 < C.K
      · have e3 : (j + 1) * C.lq = j * C.lq + C.lq := Nat.succ_mul _ _
        have e8 : (j + 1) * C.lq + C.lq ≤ C.K * C.lq := by
          have := Nat.mul_le_mul_right C.lq (show j + 1 + 1 ≤ C.K from qj)
          rw [Nat.succ_mul] at this; exact this
        have e : nextRow C (C.K * C.lp + j * C.lq + k) = C.K * C.lp + (j + 1) * C.lq + 0 := by
          unfold nextRow; rw [if_neg (by omega)]; omega
        rw [e]
        exact .q qj lqp (safeQ_start O qj sf'.core) rng (by omega)
      · have ej : j + 1 = C.K := by omega
        have e4 : C.K * C.lq = j * C.lq + C.lq := by rw [← ej, Nat.succ_mul]
        have e : nextRow C (C.K * C.lp + j * C.lq + k) = 0 * C.lp + 0 := by
          unfold nextRow; rw [if_pos (by omega)]; omega
        rw [e]
        exact .p (clean := True) K1 lpp (safeP_start O K1 (core_up sf'.core (Nat.le_refl _) (Nat.le_refl _) (Nat.le_succ _))) rng (by omega) (fun hc => absurd trivial hc) (fun _ _ => trivial) (fun _ i hi => absurd hi (Nat.not_lt_zero _))
end
end Sk
end

section
/-! faults in the general mode; what is read -/
set_option autoImplicit false
set_option linter.unusedVariables false
set_option linter.unusedSectionVars false
namespace Sk
open Classical
section
variable {C : Cfg}

/-- copy i holds the content f -/
def Holds (C : Cfg) (mem : Nat → Int) (i : Nat) (f : Nat → Int) : Prop :=
  (mem (C.oldA i) = mem (C.oldA i + (C.n + 1)) ∧ Sim C.ln (ct mem (C.oldA i)) f) ∨ (mem (C.newA i) = mem (C.newA i + (C.n + 1)) ∧ Sim C.ln (ct mem (C.newA i)) f)

theorem core_safe {Ao An : Gh} {m X Y : Nat} {mem : Nat → Int} (sub : ∀ t, Ao t → An t) (hAn : cnt An C.K ≤ C.e) (core : Core C Ao An m X Y mem) {f : Nat → Int} (h : C.e < cnt (fun i => Holds C mem i f) C.K) : ∃ c, c ≤ C.T ∧ C.Pl c f := by
  obtain ⟨i, hi, hh, hn⟩ := cnt_lt (Nat.lt_of_le_of_lt hAn h)
  rcases hh with ⟨w, s⟩ | ⟨w, s⟩
  · obtain ⟨⟨c, c1, _, c3⟩, _⟩ := core.old i hi (fun q => hn (sub _ q))
    exact ⟨c, c1, pl_sim s c3⟩
  · obtain ⟨c, c1, _, c3⟩ := (core.new i hi hn).2 w
    exact ⟨c, c1, pl_sim s c3⟩
theorem core_final {Ao An : Gh} {m X Y w : Nat} {mem : Nat → Int} (cond : C.e * (w + 1) < cnt (fun i => ¬ Ao i) C.K) (core : Core C Ao An m X Y mem) (hm : C.T ≤ m) {f : Nat → Int} (hf : C.Pl C.T f) : C.e < cnt (fun i => Holds C mem i f) C.K := by
  have h1 : C.e ≤ C.e * (w + 1) := Nat.le_mul_of_pos_right _ (Nat.succ_pos _)
  refine Nat.lt_of_le_of_lt h1 (Nat.lt_of_lt_of_le cond (cnt_mono fun i hi ha => ?_))
  obtain ⟨⟨c, c1, _, c3⟩, c4⟩ := core.old i hi ha
  have e : c = C.T := by
    rw [c3.1] at c4
    unfold Cfg.lo at c4
    omega
  subst e
  exact .inl ⟨c3.1.trans c3.2.1.symm, pl_eqv c3 hf⟩

theorem posP_lt {j k : Nat} (hj : j < C.K) (hk : k < C.lp) : j * C.lp + k < C.K * C.lp := by
  have := Nat.mul_le_mul_right C.lp (show j + 1 ≤ C.K from hj)
  rw [Nat.succ_mul] at this; omega
theorem posQ_lt {j k : Nat} (hj : j < C.K) (hk : k < C.lq) : C.K * C.lp + j * C.lq + k < C.L := by
  have := Nat.mul_le_mul_right C.lq (show j + 1 ≤ C.K from hj)
  rw [Nat.succ_mul] at this
  unfold Cfg.L; omega
theorem mul_up (m f L : Nat) : (m + 2 * (f + 1)) * L = (m + 2 * f) * L + L + L := by
  rw [show m + 2 * (f + 1) = m + 2 * f + 1 + 1 from by omega, Nat.succ_mul, Nat.succ_mul]

/-- what every mode gives -/
theorem gm_core {w f t : Nat} {Ao An : Gh} {s : MS} {p : Nat} (h : GM C w f t Ao An s p) : p < C.L ∧ ∃ m X Y, Core C Ao An m X Y s.mem ∧ t ≤ (m + 2 * f) * C.L + p ∧ Y ≤ m + w + 1 ∧ X ≤ Y := by
  cases h with
  | @p m X j k ent clean _ hj hk sf rng tm dirty ce fr =>
    have := posP_lt hj hk
    exact ⟨by unfold Cfg.L; omega, m, X, X + 1, sf.core, tm, by omega, by omega⟩
  | @s m X Xp Lv j k clean hasN nw N _ hj hk sf rng h1 h2 h3 h4 h5 ps tm dirty =>
    exact ⟨posQ_lt hj hk, m, X + 1, X + 1, sf.core, tm, by omega, by omega⟩
  | @q m X j k _ hj hk sf rng tm =>
    exact ⟨posQ_lt hj hk, m, X, X, sf.core, by omega, by omega, by omega⟩

theorem gm_final {w f t : Nat} {Ao An : Gh} {s : MS} {p : Nat} (h : GM C w f t Ao An s p) (cond : C.e * (w + 1) < cnt (fun i => ¬ Ao i) C.K) (hf : f ≤ C.e) (ht : (C.T + 2 * C.e) * C.L ≤ t) {g : Nat → Int} (hg : C.Pl C.T g) : C.e < cnt (fun i => Holds C s.mem i g) C.K := by
  obtain ⟨hp, m, X, Y, core, tm, _⟩ := gm_core h
  refine core_final cond core ?_ hg
  have h1 : (C.T + 2 * C.e) * C.L < (m + 2 * f + 1) * C.L := by
    have e9 : (m + 2 * f + 1) * C.L = (m + 2 * f) * C.L + C.L := Nat.succ_mul _ _
    omega
  have h2 := Nat.lt_of_mul_lt_mul_right h1
  omega

/-! the affected copy -/
/-- a fault of a word of copy c, a register in a piece of copy c, or the number of a row in a piece of copy c -/
theorem word_other {c i a : Nat} {s : MS} {v : Int} (hc : C.inC c a) (h : i ≠ c) : ∀ b, C.inC i b → up s.mem a v b = s.mem b := fun b hb => up_ne _ _ (inC_ne C h hb hc)

theorem core_sub {Ao An : Gh} {m X Y c : Nat} {mem mem' : Nat → Int} (h : Core C Ao An m X Y mem) (hm : ∀ i, i ≠ c → ∀ b, C.inC i b → mem' b = mem b) : Core C (fun t => Ao t ∨ t = c) (fun t => An t ∨ t = c) m X Y mem' := by
  refine ⟨fun i hi ha => ?_, fun i hi ha => ?_⟩
  · exact old_sim (fun a hl => (hm i (fun e => ha (.inr e)) _ (by unfold Cfg.inC Cfg.oldA; omega)).symm) (h.old i hi fun q => ha (.inl q))
  · exact new_sim (fun a hl => (hm i (fun e => ha (.inr e)) _ (by unfold Cfg.inC Cfg.newA; omega)).symm) (h.new i hi fun q => ha (.inl q))

theorem wpp_ghost {An An' : Gh} {X j : Nat} {fl fl' : Prop} {l : List Rw} {s s' : MS} (h : WPP C An X j fl l s) (hg : ∀ t, An t → An' t) (hf : fl' → fl) (hr : s'.reg = s.reg) (hm : ∀ a, C.inC j a → s'.mem a = s.mem a) : WPP C An' X j fl' l s' := by
  obtain ⟨st, w⟩ := h
  have w1 := WP.disturb (ip_trans C j) w (show IP C j An s An' s' from ⟨hr, hm, hg⟩)
  exact ⟨st, WP.mono (fun _ _ _ _ h => h) (fun _ _ h => ⟨fun q => h.1 (hf q), h.2⟩) (fun _ _ h => h) w1⟩

/-- a word of copy c changes in a piece P -/
theorem safeP_word {Ao An : Gh} {m X j k c a : Nat} {ent : Prop} {s : MS} {v : Int} (h : SafeP C Ao An m X ent j k s) (hc : C.inC c a) : SafeP C (fun t => Ao t ∨ t = c) (fun t => An t ∨ t = c) m X (ent ∧ j ≠ c) j k ⟨up s.mem a v, s.reg⟩ := by
  refine ⟨core_sub h.core fun i hi => word_other hc hi, fun he ha => ?_, fun he => ?_⟩
  · exact wpp_ghost (h.cur he.1 fun q => ha (.inl q)) (fun t ht => .inl ht) (fun q z => q (.inl z)) rfl (word_other hc he.2)
  · by_cases q : j = c
    · exact .inr q
    · exact .inl (h.ne fun z => he ⟨z, q⟩)
/-- a register changes in a piece P -/
theorem safeP_reg {Ao An : Gh} {m X j k : Nat} {ent : Prop} {s : MS} {rg : Nat → Int} (h : SafeP C Ao An m X ent j k s) : SafeP C (fun t => Ao t ∨ t = j) (fun t => An t ∨ t = j) m X False j k ⟨s.mem, rg⟩ :=
  ⟨core_sub h.core fun i hi _ _ => rfl, fun he => he.elim, fun _ => .inr rfl⟩
theorem safeQ_word {Ao An : Gh} {m X j k c a : Nat} {s : MS} {v : Int} (h : SafeQ C Ao An m X j k s) (hc : C.inC c a) (hn : cnt (fun t => An t ∨ t = c) C.K ≤ C.e) : SafeQ C (fun t => Ao t ∨ t = c) (fun t => An t ∨ t = c) m X j k ⟨up s.mem a v, s.reg⟩ := by
  have core := core_sub h.core (c := c) (mem' := up s.mem a v) fun i hi => word_other hc hi
  refine ⟨core, fun ha => ?_⟩
  exact WP.disturb (iq_trans C j X) (h.cur fun q => ha (.inl q)) (show IQ C j X An s _ _ from ⟨rfl, word_other hc fun e => ha (.inr e), fun t ht => .inl ht, core.new, hn⟩)
theorem safeQ_reg {Ao An : Gh} {m X j k : Nat} {s : MS} {rg : Nat → Int} (h : SafeQ C Ao An m X j k s) : SafeQ C (fun t => Ao t ∨ t = j) (fun t => An t ∨ t = j) m X j k ⟨s.mem, rg⟩ :=
  ⟨core_sub h.core fun i hi _ _ => rfl, fun ha => absurd (.inr rfl) ha⟩

theorem cnt_add {p : Nat → Prop} {c K : Nat} : cnt (fun t => p t ∨ t = c) K ≤ cnt p K + 1 := by
  have h1 := cnt_or p (fun t => t = c) K
  have h2 : cnt (fun t => t = c) K ≤ 1 := cnt_one (a := c) fun t _ h => h
  omega

/-- the general mode behind a fault of a word -/
theorem gm_word {w f t c a : Nat} {A : Gh} {s : MS} {p : Nat} {v : Int} (hn : cnt (fun t => A t ∨ t = c) C.K ≤ C.e) (h : GM C w f t A A s p) (hc : C.inC c a) :
    GM C (w + 1) (f + 1) t (fun t => A t ∨ t = c) (fun t => A t ∨ t = c) ⟨up s.mem a v, s.reg⟩ p := by
  cases h with
  | @p m X j k ent clean _ hj hk sf rng tm dirty ce fr =>
    have e := mul_up m f C.L
    exact .p (clean := False) hj hk (safeP_word sf hc) (by omega) (by omega) (fun _ => by omega) (fun q => q.elim) (fun q => q.elim)
  | @s m X Xp Lv j k clean hasN nw N _ hj hk sf rng h1 h2 h3 h4 h5 ps tm dirty =>
    have e := mul_up m f C.L
    exact .q (X := X + 1) hj hk (safeQ_word sf hc hn) (by omega) (by omega)
  | @q m X j k _ hj hk sf rng tm =>
    have e := mul_up m f C.L
    exact .q hj hk (safeQ_word sf hc hn) (by omega) (by omega)
/-- the copy whose piece has a row -/
def copyAt (C : Cfg) (p : Nat) : Nat := if p < C.K * C.lp then p / C.lp else (p - C.K * C.lp) / C.lq
/-- the number of a row in its piece -/
def innerAt (C : Cfg) (p : Nat) : Nat := if p < C.K * C.lp then p % C.lp else (p - C.K * C.lp) % C.lq
theorem copyAt_P {j k : Nat} (hj : j < C.K) (hk : k < C.lp) : copyAt C (j * C.lp + k) = j ∧ innerAt C (j * C.lp + k) = k := by
  have h1 := posP_lt hj hk
  unfold copyAt innerAt
  rw [if_pos h1, if_pos h1, Nat.mul_comm j, Nat.mul_add_div lp_pos, Nat.mul_add_mod, Nat.div_eq_of_lt hk, Nat.mod_eq_of_lt hk, Nat.add_zero]
  exact ⟨rfl, rfl⟩
theorem copyAt_Q {j k : Nat} (hj : j < C.K) (hk : k < C.lq) : copyAt C (C.K * C.lp + j * C.lq + k) = j ∧ innerAt C (C.K * C.lp + j * C.lq + k) = k := by
  unfold copyAt innerAt
  rw [if_neg (by omega), if_neg (by omega), show C.K * C.lp + j * C.lq + k - C.K * C.lp = C.lq * j + k from by rw [Nat.mul_comm j]; omega, Nat.mul_add_div lq_pos, Nat.mul_add_mod, Nat.div_eq_of_lt hk, Nat.mod_eq_of_lt hk, Nat.add_zero]
  exact ⟨rfl, rfl⟩
theorem gm_reg {w f t : Nat} {A : Gh} {s : MS} {p : Nat} {rg : Nat → Int} (h : GM C w f t A A s p) :
    GM C (w + 1) (f + 1) t (fun t => A t ∨ t = copyAt C p) (fun t => A t ∨ t = copyAt C p) ⟨s.mem, rg⟩ p := by
  cases h with
  | @p m X j k ent clean _ hj hk sf rng tm dirty ce fr =>
    have e := mul_up m f C.L
    rw [(copyAt_P hj hk).1]
    exact .p (clean := False) hj hk (safeP_reg sf) (by omega) (by omega) (fun _ => by omega) (fun q => q.elim) (fun q => q.elim)
  | @s m X Xp Lv j k clean hasN nw N _ hj hk sf rng h1 h2 h3 h4 h5 ps tm dirty =>
    have e := mul_up m f C.L
    rw [(copyAt_Q hj hk).1]
    exact .q (X := X + 1) hj hk (safeQ_reg sf) (by omega) (by omega)
  | @q m X j k _ hj hk sf rng tm =>
    have e := mul_up m f C.L
    rw [(copyAt_Q hj hk).1]
    exact .q hj hk (safeQ_reg sf) (by omega) (by omega)
/-- each number of a row is that of a row of a piece -/
theorem at_cases {p : Nat} (hp : p < C.L) : (∃ j k, j < C.K ∧ k < C.lp ∧ p = j * C.lp + k) ∨ (∃ j k, j < C.K ∧ k < C.lq ∧ p = C.K * C.lp + j * C.lq + k) := by
  have lpp : 0 < C.lp := lp_pos
  have lqp : 0 < C.lq := lq_pos
  by_cases q : p < C.K * C.lp
  · refine .inl ⟨p / C.lp, p % C.lp, (Nat.div_lt_iff_lt_mul lpp).mpr q, Nat.mod_lt _ lpp, ?_⟩
    rw [Nat.mul_comm]; exact (Nat.div_add_mod _ _).symm
  · have h : p - C.K * C.lp < C.K * C.lq := by unfold Cfg.L at hp; omega
    refine .inr ⟨(p - C.K * C.lp) / C.lq, (p - C.K * C.lp) % C.lq, (Nat.div_lt_iff_lt_mul lqp).mpr h, Nat.mod_lt _ lqp, ?_⟩
    have := Nat.div_add_mod (p - C.K * C.lp) C.lq
    rw [Nat.mul_comm ((p - C.K * C.lp) / C.lq)]
    omega
theorem gm_row (O : C.Ok) {w f t : Nat} {A : Gh} {s : MS} {p p' : Nat} (h : GM C w f t A A s p) (hp : p' < C.L) :
    GM C (w + 1) (f + 1) t (fun t => A t ∨ t = copyAt C p') (fun t => A t ∨ t = copyAt C p') s p' := by
  have hh : ∃ m X, Core C A A m X X s.mem ∧ X ≤ m + w + 1 ∧ t + C.L ≤ (m + 2 * (f + 1)) * C.L := by
    obtain ⟨hp0, m, X, Y, core, tm, h1, h2⟩ := gm_core h
    have e := mul_up m f C.L
    exact ⟨m, Y, core_up core (Nat.le_refl _) h2 (Nat.le_refl _), h1, by omega⟩
  obtain ⟨m, X, core, rng, tm⟩ := hh
  have core' := core_sub core (c := copyAt C p') (mem' := s.mem) fun _ _ _ _ => rfl
  rcases at_cases hp with ⟨j, k, hj, hk, e⟩ | ⟨j, k, hj, hk, e⟩
  · have ej := (copyAt_P hj hk).1
    rw [← e] at ej
    rw [ej] at core' ⊢
    rw [e]
    exact .p (clean := False) (ent := False) hj hk ⟨core_up core' (Nat.le_refl _) (Nat.le_refl _) (Nat.le_succ _), fun q => q.elim, fun _ => .inr rfl⟩ (by omega) (by omega) (fun _ => by omega) (fun q => q.elim) (fun q => q.elim)
  · have ej := (copyAt_Q hj hk).1
    rw [← e] at ej
    rw [ej] at core' ⊢
    rw [e]
    exact .q hj hk ⟨core', fun q => absurd (.inr rfl) q⟩ (by omega) (by omega)
end
end Sk
end

section
/-! one fault, three copies or more: the first mode, and where a row number may land -/
set_option autoImplicit false
set_option linter.unusedVariables false
set_option linter.unusedSectionVars false
namespace Sk
open Classical
section
variable {C : Cfg}

/-! the synchronous pass: the news of all that are not affected are N -/
def IY (C : Cfg) (j : Nat) (N : Nat → Int) : Gh → MS → Gh → MS → Prop := fun g s g' s' => s'.reg = s.reg ∧ (∀ a, C.inC j a → s'.mem a = s.mem a) ∧ (∀ t, g t → g' t) ∧ (∀ t, t < C.K → ¬ g' t → Sim C.ln (ct s'.mem (C.newA t)) N) ∧ cnt g' C.K ≤ C.e
theorem iy_trans (C : Cfg) (j : Nat) (N : Nat → Int) : ∀ g s g' s' g'' s'', IY C j N g s g' s' → IY C j N g' s' g'' s'' → IY C j N g s g'' s'' :=
  fun _ _ _ _ _ _ h k => ⟨k.1.trans h.1, fun a ha => (k.2.1 a ha).trans (h.2.1 a ha), fun t ht => k.2.2.1 t (h.2.2.1 t ht), k.2.2.2⟩
theorem iy_vote {j X : Nat} {N : Nat → Int} (hK : 2 * C.e < C.K) (hN : C.PLx X N) : Vote C j (IY C j N) (fun g t f => g t ∨ Sim C.ln f N) (fun g t => ¬ g t) N (C.PLx X) where
  itf := ⟨fun _ _ _ _ h => ⟨rfl, fun _ _ => rfl, fun _ h => h, h.2.2.2⟩, fun _ _ _ _ h => h.1, fun _ _ _ _ h => h.2.1, fun _ _ _ _ h => h.2.2.1⟩
  sim := fun _ _ => plx_sim _ _
  vsim := fun g t f h s v => v.imp id fun q => s.symm.trans q
  vord := fun g g' t f o v => v.imp (o t) id
  lord := fun g g' t o h q => h (o t q)
  env := fun g s g' s' i t ht => ⟨by
    by_cases q : g' t
    · exact .inl q
    · exact .inr (i.2.2.2.1 t ht q), fun q => i.2.2.2.1 t ht q⟩
  most := fun g s g' s' i f w h => by
    obtain ⟨t, ht, hv, hn⟩ := cnt_lt (Nat.lt_of_le_of_lt i.2.2.2.2 h)
    rcases hv with hv | hv
    · exact absurd hv hn
    · exact plx_sim _ _ hv.symm hN
  least := fun g s g' s' i t ht h => by
    have h1 := cnt_not g' C.K
    have h2 := i.2.2.2.2
    omega
  whole := by
    obtain ⟨c, _, _, h⟩ := hN
    exact h.1.trans h.2.1.symm
def none : Gh := fun _ => False
theorem cnt_none : cnt none C.K = 0 := cnt_zero fun _ _ h => h
def WPY (C : Cfg) (m X j : Nat) (N : Nat → Int) (An : Gh) (l : List Rw) (s : MS) : Prop :=
  WP (IY C j N) (SfQ C j (C.PLx X) (C.lo m)) (fun g s => ((∃ t, t < C.K ∧ ¬ g t) → N 0 ≤ s.mem (C.oldA j) ∧ N 0 ≤ s.mem (C.bestA j)) ∧ ((∃ t, t + 1 = C.K ∧ ¬ g t) → N 0 ≤ s.mem (C.lookA j))) l An s
theorem wpy_start (O : C.Ok) {m X j : Nat} {N : Nat → Int} {An : Gh} {s : MS} (hK : 2 * C.e < C.K) (hN : C.PLx X N) (ho : C.OldOK m X (ct s.mem (C.oldA j))) : WPY C m X j N An (C.pieceQ j) s := by
  refine WP.mono (fun _ _ _ _ h => h) (fun _ _ h => h) (fun g s h => ⟨fun q => ?_, fun q => ?_⟩) (wp_Q O (iy_vote hK hN) ho.1 ho.2)
  · obtain ⟨t, ht, hg⟩ := q
    obtain ⟨a, b, c⟩ := h t ht hg
    exact ⟨a, b⟩
  · obtain ⟨t, ht, hg⟩ := q
    exact (h t (by omega) hg).2.2 ht
theorem WP.mono_g {A0 : Gh} {I J : Gh → MS → Gh → MS → Prop} {Sf Sf' Po Po' : Gh → MS → Prop} (hI : ∀ s s', J A0 s A0 s' → I A0 s A0 s') (hJ : ∀ g s g' s', J g s g' s' → g' = g) (hS : ∀ s, Sf A0 s → Sf' A0 s) (hP : ∀ s, Po A0 s → Po' A0 s) :
    ∀ {l : List Rw} {s : MS}, WP I Sf Po l A0 s → WP J Sf' Po' l A0 s
  | [], s, h => fun g' s' i => by
    have e := hJ _ _ _ _ i
    subst e
    obtain ⟨a, b⟩ := h g' s' (hI _ _ i)
    exact ⟨hS _ a, hP _ b⟩
  | r :: l, s, h => fun g' s' i => by
    have e := hJ _ _ _ _ i
    subst e
    obtain ⟨a, b⟩ := h g' s' (hI _ _ i)
    exact ⟨hS _ a, WP.mono_g hI hJ hS hP b⟩

def Full (C : Cfg) (m X : Nat) (mem : Nat → Int) : Prop := ∀ i, i < C.K → C.OldOK m X (ct mem (C.lookA i)) ∧ C.OldOK m X (ct mem (C.bestA i))
theorem full_eq {m X : Nat} {mem mem' : Nat → Int} (h : Full C m X mem) (hm : ∀ i, i < C.K → ∀ a, a < C.ln → mem' (C.lookA i + a) = mem (C.lookA i + a) ∧ mem' (C.bestA i + a) = mem (C.bestA i + a)) : Full C m X mem' :=
  fun i hi => ⟨old_sim (fun a ha => ((hm i hi a ha).1).symm) (h i hi).1, old_sim (fun a ha => ((hm i hi a ha).2).symm) (h i hi).2⟩
theorem old_up {m X m' X' : Nat} {f : Nat → Int} (h : C.OldOK m X f) (hm : m' ≤ m) (hX : X ≤ X') : C.OldOK m' X' f := ⟨plx_mono hX h.1, Int.le_trans (lo_mono hm) h.2⟩

/-- the stores of a copy through a row of a piece Q, the news being right -/
theorem qrow_full {m X j : Nat} {s : MS} {r : Rw} (hj : j < C.K) (hr : QRow C j r) (ho : C.OldOK m X (ct s.mem (C.oldA j))) (hl : C.OldOK m X (ct s.mem (C.lookA j))) (hb : C.OldOK m X (ct s.mem (C.bestA j)))
    (hn : ∀ t, t < C.K → r = .move 24 (C.newA t) (C.lookA j) C.ln → C.OldOK m X (ct s.mem (C.newA t))) :
    C.OldOK m X (ct (exec r s).mem (C.oldA j)) ∧ C.OldOK m X (ct (exec r s).mem (C.lookA j)) ∧ C.OldOK m X (ct (exec r s).mem (C.bestA j)) := by
  have mv : ∀ (x a b : Nat), C.OldOK m X (ct s.mem a) → (b = C.oldA j ∨ b = C.lookA j ∨ b = C.bestA j) → r = .move x a b C.ln → C.OldOK m X (ct (exec r s).mem (C.oldA j)) ∧ C.OldOK m X (ct (exec r s).mem (C.lookA j)) ∧ C.OldOK m X (ct (exec r s).mem (C.bestA j)) := by
    intro x a b ha hb' e
    subst e
    show C.OldOK m X (ct (if s.reg x ≠ 0 then (⟨blit s.mem a b C.ln, s.reg⟩ : MS) else s).mem _) ∧ C.OldOK m X (ct (if s.reg x ≠ 0 then (⟨blit s.mem a b C.ln, s.reg⟩ : MS) else s).mem _) ∧ C.OldOK m X (ct (if s.reg x ≠ 0 then (⟨blit s.mem a b C.ln, s.reg⟩ : MS) else s).mem _)
    by_cases q : s.reg x ≠ 0
    · rw [if_pos q]
      have inn : C.OldOK m X (ct (blit s.mem a b C.ln) b) := old_sim (fun k hk => (blit_in _ _ _ _ _ hk).symm) ha
      have out : ∀ c, (∀ k, k < C.ln → c + k < b ∨ b + C.ln ≤ c + k) → C.OldOK m X (ct s.mem c) → C.OldOK m X (ct (blit s.mem a b C.ln) c) := fun c hc h => old_sim (fun k hk => (blit_out _ _ _ _ _ (hc k hk)).symm) h
      rcases hb' with e | e | e
      · subst e
        exact ⟨inn, out _ (fun k hk => by unfold Cfg.oldA Cfg.lookA; omega) hl, out _ (fun k hk => by unfold Cfg.oldA Cfg.bestA; omega) hb⟩
      · subst e
        exact ⟨out _ (fun k hk => by unfold Cfg.oldA Cfg.lookA; omega) ho, inn, out _ (fun k hk => by unfold Cfg.lookA Cfg.bestA; omega) hb⟩
      · subst e
        exact ⟨out _ (fun k hk => by unfold Cfg.oldA Cfg.bestA; omega) ho, out _ (fun k hk => by unfold Cfg.lookA Cfg.bestA; omega) hl, inn⟩
    · rw [if_neg q]
      exact ⟨ho, hl, hb⟩
  rcases hr with e | e | e | e | ⟨t, ht, e⟩
  · rw [e s]; exact ⟨ho, hl, hb⟩
  · exact mv _ _ _ ho (.inr (.inr rfl)) e
  · exact mv _ _ _ hb (.inl rfl) e
  · exact mv _ _ _ hl (.inr (.inr rfl)) e
  · exact mv _ _ _ (hn t ht e) (.inr (.inl rfl)) e

/-- before the first fault -/
inductive S0 (C : Cfg) (t : Nat) : MS → Nat → Prop
  | p {m j k : Nat} {s : MS} (hj : j < C.K) (hk : k < C.lp) (sf : SafeP C none none m m True j k s) (tm : t ≤ m * C.L + (j * C.lp + k))
      (fr : ∀ i, i < j → Sim C.ln (ct s.mem (C.newA i)) (C.Fc (ct s.mem (C.oldA i)))) (fu : Full C m m s.mem) : S0 C t s (j * C.lp + k)
  | q {m j k : Nat} {N : Nat → Int} {s : MS} (hj : j < C.K) (hk : k < C.lq) (sf : SafeQ C none none m (m + 1) j k s) (tm : t ≤ m * C.L + (C.K * C.lp + j * C.lq + k))
      (hN : C.Pl (min (m + 1) C.T) N) (nws : ∀ t, t < C.K → Sim C.ln (ct s.mem (C.newA t)) N) (vis : ∀ i, i < j → C.lo (m + 1) ≤ s.mem (C.oldA i) ∧ C.lo (m + 1) ≤ s.mem (C.bestA i) ∧ C.lo (m + 1) ≤ s.mem (C.lookA i))
      (cur : WPY C m (m + 1) j N none ((C.pieceQ j).drop k) s) (fu : Full C m (m + 1) s.mem) : S0 C t s (C.K * C.lp + j * C.lq + k)

theorem pln {m : Nat} {N : Nat → Int} (hN : C.Pl (min (m + 1) C.T) N) : C.PLx (m + 1) N := ⟨_, Nat.min_le_right _ _, Nat.min_le_left _ _, hN⟩

theorem s0_step (O : C.Ok) {t : Nat} {s : MS} {p : Nat} {r : Rw} (hK : 2 * C.e < C.K) (h : S0 C t s p) (hr : C.rowAt p = some r) : S0 C (t + 1) (exec r s) (nextRow C p) := by
  have lpp : 0 < C.lp := lp_pos
  have lqp : 0 < C.lq := lq_pos
  have K1 : 0 < C.K := by omega
  have KQ : C.lq ≤ C.K * C.lq := Nat.le_mul_of_pos_left _ K1
  have eL : C.L = C.K * C.lp + C.K * C.lq := rfl
  have c0 : cnt none C.K ≤ C.e := by rw [cnt_none]; omega
  cases h with
  | @p m j k _ hj hk sf tm fr fu =>
    rw [rowAt_P hj hk] at hr
    have hjl := posP_lt hj hk
    obtain ⟨sf', oth, own⟩ := stepP O hj hr (fun _ h => h) sf
    have fr' : ∀ i, i < j → Sim C.ln (ct (exec r s).mem (C.newA i)) (C.Fc (ct (exec r s).mem (C.oldA i))) := fun i hi => by
      have e1 : Sim C.ln (ct (exec r s).mem (C.newA i)) (ct s.mem (C.newA i)) := fun a hl => oth i (by omega) _ (by unfold Cfg.inC Cfg.newA; omega)
      have e2 : Sim C.ln (ct s.mem (C.oldA i)) (ct (exec r s).mem (C.oldA i)) := fun a hl => (oth i (by omega) _ (by unfold Cfg.inC Cfg.oldA; omega)).symm
      exact (e1.trans (fr i hi)).trans (Fc_sim O e2)
    have fu' : Full C m m (exec r s).mem := full_eq fu fun i hi a ha => by
      by_cases e : i = j
      · subst e
        exact ⟨own _ (by unfold Cfg.inC Cfg.lookA; omega) (by unfold Cfg.newA Cfg.lookA; omega), own _ (by unfold Cfg.inC Cfg.bestA; omega) (by unfold Cfg.newA Cfg.bestA; omega)⟩
      · exact ⟨oth i e _ (by unfold Cfg.inC Cfg.lookA; omega), oth i e _ (by unfold Cfg.inC Cfg.bestA; omega)⟩
    by_cases q : k + 1 < C.lp
    · have e : nextRow C (j * C.lp + k) = j * C.lp + (k + 1) := by unfold nextRow; rw [if_neg (by omega)]; omega
      rw [e]
      exact .p hj q sf' (by omega) fr' fu'
    · have ek : k + 1 = C.lp := by omega
      have fr2 : ∀ i, i < j + 1 → Sim C.ln (ct (exec r s).mem (C.newA i)) (C.Fc (ct (exec r s).mem (C.oldA i))) := fun i hi => by
        by_cases e : i = j
        · subst e
          rw [ek, ← lenP i] at sf'
          exact endP O sf' trivial id
        · exact fr' i (by omega)
      by_cases qj : j + 1 < C.K
      · have e3 : (j + 1) * C.lp = j * C.lp + C.lp := Nat.succ_mul _ _
        have e : nextRow C (j * C.lp + k) = (j + 1) * C.lp + 0 := by
          unfold nextRow; rw [if_neg (by omega)]; omega
        rw [e]
        exact .p qj lpp (safeP_start O qj sf'.core) (by omega) fr2 fu'
      · have ej : j + 1 = C.K := by omega
        have e4 : C.K * C.lp = j * C.lp + C.lp := by rw [← ej, Nat.succ_mul]
        have e : nextRow C (j * C.lp + k) = C.K * C.lp + 0 * C.lq + 0 := by
          unfold nextRow; rw [if_neg (by omega)]; omega
        have pls : ∀ i, i < C.K → C.Pl (min (m + 1) C.T) (ct (exec r s).mem (C.newA i)) := fun i hi => by
          obtain ⟨⟨c, c1, c2, c3⟩, c4⟩ := sf'.core.old i hi id
          have ec : c = min m C.T := by
            rw [c3.1] at c4
            unfold Cfg.lo at c4
            omega
          have := Fc_pl O c3 c1
          rw [show min (c + 1) C.T = min (m + 1) C.T from by omega] at this
          exact pl_sim (fr2 i (by omega)).symm this
        have core' : Core C none none m (m + 1) (m + 1) (exec r s).mem := core_up sf'.core (Nat.le_refl _) (Nat.le_succ _) (Nat.le_refl _)
        rw [e]
        exact .q (N := ct (exec r s).mem (C.newA 0)) K1 lqp (safeQ_start O K1 core') (by omega) (pls 0 K1) (fun t ht => pl_eqv (pls t ht) (pls 0 K1)) (fun i hi => absurd hi (Nat.not_lt_zero _))
          (wpy_start O hK (pln (pls 0 K1)) (core'.old 0 K1 id)) fun i hi => ⟨old_up (fu' i hi).1 (Nat.le_refl _) (Nat.le_succ _), old_up (fu' i hi).2 (Nat.le_refl _) (Nat.le_succ _)⟩
  | @q m j k N _ hj hk sf tm hN nws vis cur fu =>
    rw [rowAt_Q hj hk] at hr
    have hjl : j * C.lq + C.lq ≤ C.K * C.lq := by
      have := Nat.mul_le_mul_right C.lq (show j + 1 ≤ C.K from hj)
      rw [Nat.succ_mul] at this; exact this
    obtain ⟨sf', oth, nwf⟩ := stepQ hj hr c0 sf
    have mem : r ∈ C.pieceQ j := List.mem_of_getElem? hr
    have dr : (C.pieceQ j).drop k = r :: (C.pieceQ j).drop (k + 1) := by
      obtain ⟨hk, e⟩ := List.getElem?_eq_some_iff.mp hr
      rw [← e]; exact List.drop_eq_getElem_cons hk
    have nws' : ∀ t, t < C.K → Sim C.ln (ct (exec r s).mem (C.newA t)) N := fun t ht => Sim.trans (fun a ha => nwf t ht a ha) (nws t ht)
    have lN : C.lo (m + 1) = N 0 := by rw [hN.1]; rfl
    have iy : ∀ s' : MS, (∀ t, t < C.K → Sim C.ln (ct s'.mem (C.newA t)) N) → IY C j N none s' none s' := fun s' h => ⟨rfl, fun _ _ => rfl, fun _ h => h, fun t ht _ => h t ht, c0⟩
    have cur' : WPY C m (m + 1) j N none ((C.pieceQ j).drop (k + 1)) (exec r s) := by
      unfold WPY at cur
      rw [dr] at cur
      exact (cur none s (iy s nws)).2
    have vis' : ∀ i, i < j → C.lo (m + 1) ≤ (exec r s).mem (C.oldA i) ∧ C.lo (m + 1) ≤ (exec r s).mem (C.bestA i) ∧ C.lo (m + 1) ≤ (exec r s).mem (C.lookA i) := fun i hi => by
      have hl : 0 < C.ln := by unfold Cfg.ln; omega
      rw [oth i (by omega) _ (by unfold Cfg.inC Cfg.oldA; omega), oth i (by omega) _ (by unfold Cfg.inC Cfg.bestA; omega), oth i (by omega) _ (by unfold Cfg.inC Cfg.lookA; omega)]
      exact vis i hi
    have fu' : Full C m (m + 1) (exec r s).mem := fun i hi => by
      by_cases e : i = j
      · subst e
        have hn : ∀ t, t < C.K → C.OldOK m (m + 1) (ct s.mem (C.newA t)) := fun t ht => old_sim (nws t ht).symm ⟨pln hN, by rw [← lN]; exact lo_mono (Nat.le_succ _)⟩
        have := qrow_full hi (pieceQ_rows mem) (sf.core.old i hi id) (fu i hi).1 (fu i hi).2 (fun t ht _ => hn t ht)
        exact ⟨this.2.1, this.2.2⟩
      · exact ⟨old_sim (fun a ha => (oth i e _ (by unfold Cfg.inC Cfg.lookA; omega)).symm) (fu i hi).1, old_sim (fun a ha => (oth i e _ (by unfold Cfg.inC Cfg.bestA; omega)).symm) (fu i hi).2⟩
    by_cases q : k + 1 < C.lq
    · have e : nextRow C (C.K * C.lp + j * C.lq + k) = C.K * C.lp + j * C.lq + (k + 1) := by unfold nextRow; rw [if_neg (by omega)]; omega
      rw [e]
      exact .q hj q sf' (by omega) hN nws' vis' cur' fu'
    · have ek : k + 1 = C.lq := by omega
      have vis2 : ∀ i, i < j + 1 → C.lo (m + 1) ≤ (exec r s).mem (C.oldA i) ∧ C.lo (m + 1) ≤ (exec r s).mem (C.bestA i) ∧ C.lo (m + 1) ≤ (exec r s).mem (C.lookA i) := fun i hi => by
        by_cases e : i = j
        · subst e
          unfold WPY at cur'
          rw [ek, ← lenQ i, List.drop_length] at cur'
          obtain ⟨_, b1, b2⟩ := cur' none _ (iy _ nws')
          obtain ⟨b3, b4⟩ := b1 ⟨0, K1, id⟩
          rw [lN]
          exact ⟨b3, b4, b2 ⟨C.K - 1, by omega, id⟩⟩
        · exact vis' i (by omega)
      by_cases qj : j + 1 < C.K
      · have e3 : (j + 1) * C.lq = j * C.lq + C.lq := Nat.succ_mul _ _
        have e8 : (j + 1) * C.lq + C.lq ≤ C.K * C.lq := by
          have := Nat.mul_le_mul_right C.lq (show j + 1 + 1 ≤ C.K from qj)
          rw [Nat.succ_mul] at this; exact this
        have e : nextRow C (C.K * C.lp + j * C.lq + k) = C.K * C.lp + (j + 1) * C.lq + 0 := by
          unfold nextRow; rw [if_neg (by omega)]; omega
        rw [e]
        exact .q qj lqp (safeQ_start O qj sf'.core) (by omega) hN nws' vis2 (wpy_start O hK (pln hN) (sf'.core.old _ qj id)) fu'
      · have ej : j + 1 = C.K := by omega
        have e4 : C.K * C.lq = j * C.lq + C.lq := by rw [← ej, Nat.succ_mul]
        have e : nextRow C (C.K * C.lp + j * C.lq + k) = 0 * C.lp + 0 := by
          unfold nextRow; rw [if_pos (by omega)]; omega
        have e7 : (m + 1) * C.L = m * C.L + C.L := Nat.succ_mul _ _
        have core' : Core C none none (m + 1) (m + 1) (m + 1 + 1) (exec r s).mem :=
          ⟨fun i hi ha => ⟨(sf'.core.old i hi ha).1, (vis2 i (by omega)).1⟩, fun i hi ha => new_mono (Nat.le_succ _) (sf'.core.new i hi ha)⟩
        rw [e]
        exact .p K1 lpp (safeP_start O K1 core') (by omega) (fun i hi => absurd hi (Nat.not_lt_zero _)) fun i hi => ⟨⟨(fu' i hi).1.1, (vis2 i (by omega)).2.2⟩, ⟨(fu' i hi).2.1, (vis2 i (by omega)).2.1⟩⟩

/-- the first mode is a general one -/
theorem s0_core {t : Nat} {s : MS} {p : Nat} (h : S0 C t s p) : p < C.L ∧ ∃ m X, Core C none none m X (m + 1) s.mem ∧ X ≤ m + 1 ∧ t ≤ m * C.L + p ∧ Full C m (m + 1) s.mem := by
  cases h with
  | @p m j k _ hj hk sf tm fr fu =>
    have := posP_lt hj hk
    exact ⟨by unfold Cfg.L; omega, m, m, sf.core, by omega, tm, fun i hi => ⟨old_up (fu i hi).1 (Nat.le_refl _) (Nat.le_succ _), old_up (fu i hi).2 (Nat.le_refl _) (Nat.le_succ _)⟩⟩
  | @q m j k N _ hj hk sf tm hN nws vis cur fu =>
    exact ⟨posQ_lt hj hk, m, m + 1, sf.core, by omega, tm, fu⟩
end
end Sk
end

section
/-! one fault: from the first mode into the general one; landing within a piece Q; the theorems -/
set_option autoImplicit false
set_option linter.unusedVariables false
set_option linter.unusedSectionVars false
namespace Sk
open Classical
section
variable {C : Cfg}

/-! landing within a piece Q -/
theorem alike_reg (r a b m x : Nat) (s : MS) (h : x ≠ r) : (exec (.alike r a b m) s).reg x = s.reg x := up_ne s.reg _ h
theorem op_reg (o : Op) (r a b x : Nat) (s : MS) (h : x ≠ r) : (exec (.op o r a b) s).reg x = s.reg x := up_ne s.reg _ h
theorem two_cnt {p : Nat → Prop} {a b K : Nat} (ha : p a) (hb : p b) (h : a ≠ b) (la : a < K) (lb : b < K) : 2 ≤ cnt p K := by
  have h1 : cnt (fun t => t = a) K + cnt (fun t => t = b) K ≤ cnt p K := by
    have : ∀ k, cnt (fun t => t = a) k + cnt (fun t => t = b) k ≤ cnt p k := by
      intro k
      induction k with
      | zero => exact Nat.le_refl _
      | succ k ih =>
        unfold cnt
        by_cases e1 : k = a
        · subst e1
          rw [if_pos rfl, if_neg h, if_pos ha]; omega
        · rw [if_neg e1]
          by_cases e2 : k = b
          · subst e2
            rw [if_pos rfl, if_pos hb]; omega
          · rw [if_neg e2]
            split <;> omega
    exact this K
  have g : ∀ a k, a < k → 1 ≤ cnt (fun t => t = a) k := by
    intro a k
    induction k with
    | zero => intro h; exact absurd h (Nat.not_lt_zero _)
    | succ k ih =>
      intro h
      unfold cnt
      by_cases e : k = a
      · rw [if_pos e]; omega
      · have := ih (by omega)
        omega
  have := g a K la
  have := g b K lb
  omega

/-- behind the landing: the old and the best store are right; the look store and the own new store are right if they are whole -/
structure LW (C : Cfg) (m X j : Nat) (g : Gh) (s : MS) : Prop where
  gj : g j
  old : C.OldOK m X (ct s.mem (C.oldA j))
  best : C.OldOK m X (ct s.mem (C.bestA j))
  nw : C.NewOK X (ct s.mem (C.newA j))
  look : s.mem (C.lookA j) = s.mem (C.lookA j + (C.n + 1)) → C.PLx X (ct s.mem (C.lookA j))
/-- .. the look store is right -/
structure LQ (C : Cfg) (m X j : Nat) (g : Gh) (s : MS) : Prop where
  gj : g j
  old : C.OldOK m X (ct s.mem (C.oldA j))
  best : C.OldOK m X (ct s.mem (C.bestA j))
  nw : C.NewOK X (ct s.mem (C.newA j))
  look : C.OldOK m X (ct s.mem (C.lookA j))
theorem LQ.weak {m X j : Nat} {g : Gh} {s : MS} (h : LQ C m X j g s) : LW C m X j g s := ⟨h.gj, h.old, h.best, h.nw, fun _ => h.look.1⟩
theorem lw_loc {m X j : Nat} {g g' : Gh} {s s' : MS} (h : LW C m X j g s) (o : ∀ t, g t → g' t) (hm : ∀ a, C.inC j a → s'.mem a = s.mem a) : LW C m X j g' s' := by
  have e : ∀ a, (∀ k, k < C.ln → C.inC j (a + k)) → Sim C.ln (ct s.mem a) (ct s'.mem a) := fun a ha k hk => (hm _ (ha k hk)).symm
  have el : ∀ k, k < C.ln → s'.mem (C.lookA j + k) = s.mem (C.lookA j + k) := fun k hk => hm _ (by unfold Cfg.inC Cfg.lookA; omega)
  have el0 : s'.mem (C.lookA j) = s.mem (C.lookA j) := el 0 (by unfold Cfg.ln; omega)
  refine ⟨o _ h.gj, old_sim (e _ fun k hk => by unfold Cfg.inC Cfg.oldA; omega) h.old, old_sim (e _ fun k hk => by unfold Cfg.inC Cfg.bestA; omega) h.best, new_sim (e _ fun k hk => by unfold Cfg.inC Cfg.newA; omega) h.nw, fun q => ?_⟩
  rw [el0, el _ (by unfold Cfg.ln; omega)] at q
  exact plx_sim _ _ (e _ fun k hk => by unfold Cfg.inC Cfg.lookA; omega) (h.look q)
theorem lq_loc {m X j : Nat} {g g' : Gh} {s s' : MS} (h : LQ C m X j g s) (o : ∀ t, g t → g' t) (hm : ∀ a, C.inC j a → s'.mem a = s.mem a) : LQ C m X j g' s' := by
  have w := lw_loc h.weak o hm
  exact ⟨w.gj, w.old, w.best, w.nw, old_sim (fun k hk => (hm _ (by unfold Cfg.inC Cfg.lookA; omega)).symm) h.look⟩

/-- a stretch of rows that keep an invariant -/
theorem WP.inv {I : Gh → MS → Gh → MS → Prop} {Sf Po Q : Gh → MS → Prop} (hI : ∀ g s g' s', Q g s → I g s g' s' → Q g' s') (hS : ∀ g s, Q g s → Sf g s) {l2 : List Rw} (h2 : ∀ g s, Q g s → WP I Sf Po l2 g s) :
    ∀ {l1 : List Rw}, (∀ r, r ∈ l1 → ∀ g s, Q g s → Q g (exec r s)) → ∀ {g : Gh} {s : MS}, Q g s → WP I Sf Po (l1 ++ l2) g s
  | [], _, g, s, h => h2 g s h
  | r :: l1, h1, g, s, h => fun g' s' i =>
    have q := hI _ _ _ _ h i
    ⟨hS _ _ q, WP.inv hI hS h2 (fun r hr => h1 r (List.mem_cons_of_mem _ hr)) (h1 r (List.mem_cons_self ..) _ _ q)⟩

def lastQ (C : Cfg) (j : Nat) : List Rw := [.move 24 (C.bestA j) (C.oldA j) C.ln]
def votesF (C : Cfg) (j : Nat) : Nat → Nat → List Rw
  | _, 0 => []
  | q, d + 1 => C.vote j q ++ votesF C j (q + 1) d
theorem votes_F (j : Nat) : ∀ (d q : Nat), C.votes j q ++ votesF C j q d = C.votes j (q + d)
  | 0, q => List.append_nil _
  | d + 1, q => by
    show C.votes j q ++ (C.vote j q ++ votesF C j (q + 1) d) = _
    rw [← List.append_assoc]
    show C.votes j (q + 1) ++ _ = _
    rw [votes_F j d (q + 1), show q + 1 + d = q + (d + 1) from by omega]

section
variable {m X j : Nat}
theorem lw_sf (g : Gh) (s : MS) (h : LW C m X j g s) : SfQ C j (C.PLx X) (C.lo m) g s := h.old
theorem iq_lw (g : Gh) (s : MS) (g' : Gh) (s' : MS) (h : LW C m X j g s) (i : IQ C j X g s g' s') : LW C m X j g' s' := lw_loc h i.2.2.1 i.2.1
theorem iq_lq (g : Gh) (s : MS) (g' : Gh) (s' : MS) (h : LQ C m X j g s) (i : IQ C j X g s g' s') : LQ C m X j g' s' := lq_loc h i.2.2.1 i.2.1

/-- the last row -/
theorem wp_last {g : Gh} {s : MS} (h : LW C m X j g s) : WPQ C g m X j (lastQ C j) s := by
  intro g1 s1 i1
  have h1 := iq_lw _ _ _ _ h i1
  refine ⟨lw_sf _ _ h1, ?_⟩
  intro g2 s2 i2
  refine ⟨?_, trivial⟩
  have e : C.OldOK m X (ct (exec (.move 24 (C.bestA j) (C.oldA j) C.ln) s1).mem (C.oldA j)) := by
    show C.OldOK m X (ct (if s1.reg 24 ≠ 0 then (⟨blit s1.mem (C.bestA j) (C.oldA j) C.ln, s1.reg⟩ : MS) else s1).mem _)
    split
    · exact old_sim (fun k hk => (blit_in _ _ _ _ _ hk).symm) h1.best
    · exact h1.old
  exact old_sim (fun k hk => (i2.2.1 _ (by unfold Cfg.inC Cfg.oldA; omega)).symm) e

/-- the news are right, all but one's -/
theorem news_iq (he : C.e = 1) (hj : j < C.K) {g : Gh} {s : MS} {g' : Gh} {s' : MS} (h : LW C m X j g' s') (i : IQ C j X g s g' s') {t : Nat} (ht : t < C.K) : C.NewOK X (ct s'.mem (C.newA t)) := by
  by_cases e : t = j
  · subst e; exact h.nw
  · refine i.2.2.2.1 t ht fun q => ?_
    have := two_cnt (p := g') q h.gj e ht hj
    have := i.2.2.2.2
    omega

/-- a whole vote from the weak state -/
theorem wp_vote_w (he : C.e = 1) (hj : j < C.K) {q : Nat} (hq : q < C.K) {l2 : List Rw} (h2 : ∀ g s, LW C m X j g s → WPQ C g m X j l2 s) {g : Gh} {s : MS} (h : LW C m X j g s) : WPQ C g m X j (C.vote j q ++ l2) s := by
  have hln : C.ln = C.n + 2 := rfl
  unfold Cfg.vote
  show WP _ _ _ (.move 24 (C.newA q) (C.lookA j) C.ln :: ((C.voteHead (C.newA q) (C.lookA j) (C.bestA j) ++ (C.voteCnt (C.lookA j) C.K ++ (C.voteTail ++ [.move 26 (C.lookA j) (C.bestA j) C.ln]))) ++ l2)) g s
  intro g1 s1 i1
  have h1 := iq_lw _ _ _ _ h i1
  refine ⟨lw_sf _ _ h1, ?_⟩
  have nq := news_iq he hj h1 i1 hq
  have w2 : LW C m X j g1 (exec (.move 24 (C.newA q) (C.lookA j) C.ln) s1) := by
    show LW C m X j g1 (if s1.reg 24 ≠ 0 then (⟨blit s1.mem (C.newA q) (C.lookA j) C.ln, s1.reg⟩ : MS) else s1)
    split
    · have out : ∀ c, (∀ k, k < C.ln → c + k < C.lookA j ∨ C.lookA j + C.ln ≤ c + k) → Sim C.ln (ct s1.mem c) (ct (blit s1.mem (C.newA q) (C.lookA j) C.ln) c) := fun c hc k hk => (blit_out _ _ _ _ _ (hc k hk)).symm
      have inn : Sim C.ln (ct s1.mem (C.newA q)) (ct (blit s1.mem (C.newA q) (C.lookA j) C.ln) (C.lookA j)) := fun k hk => (blit_in _ _ _ _ _ hk).symm
      refine ⟨h1.gj, old_sim (out _ fun k hk => by unfold Cfg.oldA Cfg.lookA; omega) h1.old, old_sim (out _ fun k hk => by unfold Cfg.bestA Cfg.lookA; omega) h1.best, new_sim (out _ fun k hk => by unfold Cfg.newA Cfg.lookA; omega) h1.nw, fun w => ?_⟩
      refine plx_sim _ _ inn (nq.2 ?_)
      rw [inn 0 (by omega), inn (C.n + 1) (by omega)]
      exact w
    · exact h1
  generalize exec (.move 24 (C.newA q) (C.lookA j) C.ln) s1 = s2 at w2
  show WP _ _ _ ((C.voteHead (C.newA q) (C.lookA j) (C.bestA j) ++ (C.voteCnt (C.lookA j) C.K ++ (C.voteTail ++ [.move 26 (C.lookA j) (C.bestA j) C.ln]))) ++ l2) g1 s2
  rw [List.append_assoc]
  refine WP.regs (iq_intf C j X) (sfq_loc fun _ _ => plx_sim _ _) (fun r hr => ?_) (lw_sf _ _ w2) fun g3 s3 o3 m3 r3 => ?_
  · simp [Cfg.voteHead] at hr
    rcases hr with rfl | rfl | rfl | rfl | rfl | rfl <;> try trivial
    · show C.inC j _; unfold Cfg.inC Cfg.lookA; omega
    · show C.inC j _; unfold Cfg.inC Cfg.lookA; omega
    · show C.inC j _; unfold Cfg.inC Cfg.bestA; omega
  have w3 : LW C m X j g3 s3 := lw_loc w2 o3 m3
  obtain ⟨_, t2, t3, _⟩ := head_regs s2 (C.lookA j) (C.bestA j) C.ln _ rfl
  -- what registers 26 and 27 hold
  let Q : Gh → MS → Prop := fun g s => LW C m X j g s ∧ (s.reg 26 = if s.mem (C.lookA j) = s.mem (C.lookA j + (C.n + 1)) then 1 else 0) ∧ (s.reg 27 = if s.mem (C.bestA j) < s.mem (C.lookA j) then 1 else 0)
  have q3 : Q g3 s3 := by
    have l0 := m3 (C.lookA j) (by unfold Cfg.inC Cfg.lookA; omega)
    have l1 := m3 (C.lookA j + (C.n + 1)) (by unfold Cfg.inC Cfg.lookA; omega)
    have b0 := m3 (C.bestA j) (by unfold Cfg.inC Cfg.bestA; omega)
    refine ⟨w3, ?_, ?_⟩
    · rw [r3, l0, l1, ← show C.lookA j + C.ln - 1 = C.lookA j + (C.n + 1) from by omega]; exact t2
    · rw [r3, l0, b0]; exact t3
  have hQ : ∀ g s g' s', Q g s → (∀ t, g t → g' t) → (∀ a, C.inC j a → s'.mem a = s.mem a) → s'.reg 26 = s.reg 26 → s'.reg 27 = s.reg 27 → Q g' s' := by
    intro g s g' s' h o hm h6 h7
    refine ⟨lw_loc h.1 o hm, ?_, ?_⟩
    · rw [h6, hm (C.lookA j) (by unfold Cfg.inC Cfg.lookA; omega), hm (C.lookA j + (C.n + 1)) (by unfold Cfg.inC Cfg.lookA; omega)]; exact h.2.1
    · rw [h7, hm (C.lookA j) (by unfold Cfg.inC Cfg.lookA; omega), hm (C.bestA j) (by unfold Cfg.inC Cfg.bestA; omega)]; exact h.2.2
  rw [List.append_assoc]
  refine WP.inv (Q := Q) (fun g s g' s' h i => hQ g s g' s' h i.2.2.1 i.2.1 (by rw [i.1]) (by rw [i.1])) (fun g s h => lw_sf _ _ h.1) (fun g4 s4 q4 => ?_) (fun r hr g s h => ?_) q3
  · rw [List.append_assoc]
    refine WP.regs (iq_intf C j X) (sfq_loc fun _ _ => plx_sim _ _) (fun r hr => ?_) (lw_sf _ _ q4.1) fun g5 s5 o5 m5 r5 => ?_
    · simp [Cfg.voteTail] at hr
      rcases hr with rfl | rfl | rfl | rfl <;> trivial
    obtain ⟨_, u2⟩ := tail_regs s4 (C.e : Int) _ _ _ q4.2.1 q4.2.2 rfl
    show WP _ _ _ (.move 26 (C.lookA j) (C.bestA j) C.ln :: l2) g5 s5
    intro g6 s6 i6
    have mm : ∀ a, C.inC j a → s6.mem a = s4.mem a := fun a ha => by rw [i6.2.1 a ha, m5 a ha]
    have oo : ∀ t, g4 t → g6 t := fun t ht => i6.2.2.1 t (o5 t ht)
    have w6 : LW C m X j g6 s6 := lw_loc q4.1 oo mm
    refine ⟨lw_sf _ _ w6, h2 _ _ ?_⟩
    show LW C m X j g6 (if s6.reg 26 ≠ 0 then (⟨blit s6.mem (C.lookA j) (C.bestA j) C.ln, s6.reg⟩ : MS) else s6)
    by_cases mv : s6.reg 26 ≠ 0
    · rw [if_pos mv]
      have cnd : s4.mem (C.lookA j) = s4.mem (C.lookA j + (C.n + 1)) ∧ s4.mem (C.bestA j) < s4.mem (C.lookA j) := by
        refine Classical.byContradiction fun hn => mv ?_
        rw [i6.1, r5]
        refine u2.trans (if_neg fun hh => hn ⟨hh.1, hh.2.1⟩)
      have l0 := mm (C.lookA j) (by unfold Cfg.inC Cfg.lookA; omega)
      have l1 := mm (C.lookA j + (C.n + 1)) (by unfold Cfg.inC Cfg.lookA; omega)
      have b0 := mm (C.bestA j) (by unfold Cfg.inC Cfg.bestA; omega)
      have pl := w6.look (by rw [l0, l1]; exact cnd.1)
      have out : ∀ c, (∀ k, k < C.ln → c + k < C.bestA j ∨ C.bestA j + C.ln ≤ c + k) → Sim C.ln (ct s6.mem c) (ct (blit s6.mem (C.lookA j) (C.bestA j) C.ln) c) := fun c hc k hk => (blit_out _ _ _ _ _ (hc k hk)).symm
      have inn : Sim C.ln (ct s6.mem (C.lookA j)) (ct (blit s6.mem (C.lookA j) (C.bestA j) C.ln) (C.bestA j)) := fun k hk => (blit_in _ _ _ _ _ hk).symm
      have lk := out (C.lookA j) fun k hk => by unfold Cfg.lookA Cfg.bestA; omega
      refine ⟨w6.gj, old_sim (out _ fun k hk => by unfold Cfg.oldA Cfg.bestA; omega) w6.old, old_sim inn ⟨pl, ?_⟩, new_sim (out _ fun k hk => by unfold Cfg.newA Cfg.bestA; omega) w6.nw, fun _ => plx_sim _ _ lk pl⟩
      have b := w6.best.2
      show C.lo m ≤ s6.mem (C.lookA j)
      have b' : C.lo m ≤ s6.mem (C.bestA j) := b
      have := cnd.2
      omega
    · rw [if_neg mv]; exact w6
  · obtain ⟨t, e | e⟩ := cnt_rows (t := 0) hr
    · subst e
      exact hQ g s g _ h (fun _ h => h) (fun _ _ => rfl) (alike_reg _ _ _ _ _ _ (by decide)) (alike_reg _ _ _ _ _ _ (by decide))
    · subst e
      exact hQ g s g _ h (fun _ h => h) (fun _ _ => rfl) (op_reg _ _ _ _ _ _ (by decide)) (op_reg _ _ _ _ _ _ (by decide))
theorem wp_votesF (he : C.e = 1) (hj : j < C.K) : ∀ (d q : Nat), q + d ≤ C.K → ∀ (g : Gh) (s : MS), LW C m X j g s → WPQ C g m X j (votesF C j q d ++ lastQ C j) s
  | 0, q, _, g, s, h => wp_last h
  | d + 1, q, hq, g, s, h => by
    show WPQ C g m X j ((C.vote j q ++ votesF C j (q + 1) d) ++ lastQ C j) s
    rw [List.append_assoc]
    exact wp_vote_w he hj (by omega) (fun g s h => wp_votesF he hj d (q + 1) (by omega) g s h) h

/-- a row that keeps the strong state -/
theorem lq_row (hj : j < C.K) {r : Rw} (hr : QRow C j r) (hn : ∀ t, r ≠ .move 24 (C.newA t) (C.lookA j) C.ln) (g : Gh) (s : MS) (h : LQ C m X j g s) : LQ C m X j g (exec r s) := by
  have f := qrow_full hj hr h.old h.look h.best (fun t _ e => absurd e (hn t))
  refine ⟨h.gj, f.1, f.2.2, ?_, f.2.1⟩
  refine new_sim (fun k hk => ?_) h.nw
  have o : (exec r s).mem (C.newA j + k) = s.mem (C.newA j + k) := by
    rcases hr with e | rfl | rfl | rfl | ⟨t, _, e⟩
    · rw [e s]
    · exact exec_move _ _ _ _ _ _ (by unfold Cfg.newA Cfg.bestA; omega)
    · exact exec_move _ _ _ _ _ _ (by unfold Cfg.newA Cfg.oldA; omega)
    · exact exec_move _ _ _ _ _ _ (by unfold Cfg.newA Cfg.bestA; omega)
    · exact absurd e (hn t)
  exact o.symm
theorem vote_tail_rows {q : Nat} (hq : q < C.K) {r : Rw} (h : r ∈ (C.vote j q).drop 1) : QRow C j r ∧ ∀ t, r ≠ .move 24 (C.newA t) (C.lookA j) C.ln := by
  refine ⟨vote_rows hq (List.mem_of_mem_drop h), fun t e => ?_⟩
  subst e
  unfold Cfg.vote at h
  simp only [List.drop_one, List.tail_cons] at h
  rcases List.mem_append.mp h with h | h
  · simp [Cfg.voteHead] at h
  · rcases List.mem_append.mp h with h | h
    · obtain ⟨t, e | e⟩ := cnt_rows (t := 0) h
      · exact nomatch e
      · exact nomatch e
    · rcases List.mem_append.mp h with h | h
      · simp [Cfg.voteTail] at h
      · simp at h
theorem vote_pos (q : Nat) : 0 < (C.vote j q).length := by unfold Cfg.vote; simp
theorem wp_land_votes (he : C.e = 1) (hj : j < C.K) : ∀ (d q k : Nat), q + d ≤ C.K → k ≤ (votesF C j q d).length → ∀ (g : Gh) (s : MS), LQ C m X j g s → WPQ C g m X j ((votesF C j q d ++ lastQ C j).drop k) s
  | 0, q, k, _, hk, g, s, h => by
    have e : k = 0 := Nat.le_zero.mp hk
    subst e
    exact wp_last h.weak
  | d + 1, q, k, hq, hk, g, s, h => by
    show WPQ C g m X j (((C.vote j q ++ votesF C j (q + 1) d) ++ lastQ C j).drop k) s
    rw [List.append_assoc]
    by_cases k0 : k = 0
    · subst k0
      rw [List.drop_zero]
      exact wp_vote_w he hj (by omega) (fun g s h => wp_votesF he hj d (q + 1) (by omega) g s h) h.weak
    · by_cases kl : k ≤ (C.vote j q).length
      · rw [List.drop_append_of_le_length kl]
        refine WP.inv (Q := LQ C m X j) iq_lq (fun g s h => lw_sf _ _ h.weak) (fun g s h => wp_votesF he hj d (q + 1) (by omega) g s h.weak) (fun r hr g s h => ?_) h
        have hr1 : r ∈ (C.vote j q).drop 1 := by
          have e : (C.vote j q).drop k = ((C.vote j q).drop 1).drop (k - 1) := by rw [List.drop_drop]; congr 1; omega
          rw [e] at hr
          exact List.mem_of_mem_drop hr
        obtain ⟨a, b⟩ := vote_tail_rows (by omega) hr1
        exact lq_row hj a b g s h
      · have e : (C.vote j q ++ (votesF C j (q + 1) d ++ lastQ C j)).drop k = (votesF C j (q + 1) d ++ lastQ C j).drop (k - (C.vote j q).length) := by
          rw [List.drop_append, List.drop_eq_nil_of_le (by omega), List.nil_append]
        rw [e]
        refine wp_land_votes he hj d (q + 1) _ (by omega) ?_ g s h
        have : (votesF C j q (d + 1)).length = (C.vote j q).length + (votesF C j (q + 1) d).length := List.length_append
        omega
/-- LANDING: a row number within the piece Q of copy j -/
theorem wp_land (he : C.e = 1) (hj : j < C.K) {k : Nat} (k1 : 0 < k) (hk : k < C.lq) {g : Gh} {s : MS} (h : LQ C m X j g s) : WPQ C g m X j ((C.pieceQ j).drop k) s := by
  have e : C.pieceQ j = .set 24 1 :: .move 24 (C.oldA j) (C.bestA j) C.ln :: (votesF C j 0 C.K ++ lastQ C j) := by
    have := votes_F (C := C) j C.K 0
    rw [Nat.zero_add] at this
    unfold Cfg.pieceQ
    rw [← this]
    rfl
  have el : (C.pieceQ j).length = 2 + ((votesF C j 0 C.K).length + 1) := by
    rw [e]
    simp [lastQ]
    omega
  rw [← lenQ j, el] at hk
  rw [e]
  obtain ⟨k', rfl⟩ : ∃ k', k = k' + 1 := ⟨k - 1, by omega⟩
  rw [List.drop_succ_cons]
  cases k' with
  | zero =>
    rw [List.drop_zero]
    show WP _ _ _ ([.move 24 (C.oldA j) (C.bestA j) C.ln] ++ (votesF C j 0 C.K ++ lastQ C j)) g s
    refine WP.inv (Q := LQ C m X j) iq_lq (fun g s h => lw_sf _ _ h.weak) (fun g s h => wp_votesF he hj C.K 0 (by omega) g s h.weak) (fun r hr g s h => ?_) h
    simp at hr
    subst hr
    refine lq_row hj (.inr (.inl rfl)) (fun t e => ?_) g s h
    injection e with _ e1 e2 _
    unfold Cfg.bestA Cfg.lookA Cfg.ln at e2
    omega
  | succ k' =>
    rw [List.drop_succ_cons]
    exact wp_land_votes he hj C.K 0 k' (by omega) (by omega) g s h
end
end
end Sk
end

section
/-! the theorem: what a machine reads, whatever fails -/
set_option autoImplicit false
set_option linter.unusedVariables false
set_option linter.unusedSectionVars false
namespace Sk
open Classical
section
variable {C : Cfg}

theorem cnt_nn (p : Nat → Prop) (c : Nat) (h : ∀ t, p t → t = c) (K : Nat) : K ≤ cnt (fun t => ¬ p t) K + 1 := by
  have h1 := cnt_not p K
  have h2 : cnt p K ≤ 1 := cnt_one (a := c) fun t _ => h t
  omega
theorem one_of {c : Nat} : ∀ t, (none t ∨ t = c) → t = c := fun t h => h.elim (fun q => q.elim) id

/-- the pass behind a fault of a word or of a register of copy c -/
theorem s0_pass {m j k c : Nat} {N : Nat → Int} {s s' : MS} (he : 1 ≤ C.e) (hK : 2 * C.e < C.K) (hj : j < C.K) (hN : C.Pl (min (m + 1) C.T) N) (core : Core C none none m (m + 1) (m + 1) s.mem) (nws : ∀ t, t < C.K → Sim C.ln (ct s.mem (C.newA t)) N)
    (vis : ∀ i, i < j → C.lo (m + 1) ≤ s.mem (C.oldA i) ∧ C.lo (m + 1) ≤ s.mem (C.bestA i) ∧ C.lo (m + 1) ≤ s.mem (C.lookA i)) (cur : WPY C m (m + 1) j N none ((C.pieceQ j).drop k) s)
    (oth : ∀ i, i ≠ c → ∀ b, C.inC i b → s'.mem b = s.mem b) (hr : j ≠ c → s'.reg = s.reg) :
    Pass C (fun t => none t ∨ t = c) (fun t => none t ∨ t = c) m (m + 1) (m + 1) (fun t => ct s'.mem (C.newA t)) True N j k s' := by
  have cn : cnt (fun t => none t ∨ t = c) C.K ≤ 1 := cnt_one (a := c) fun t _ => one_of t
  have lN : C.lo (m + 1) = N 0 := by rw [hN.1]; rfl
  have hl : 0 < C.ln := by unfold Cfg.ln; omega
  have nw' : ∀ t, t < C.K → t ≠ c → Sim C.ln (ct s'.mem (C.newA t)) N := fun t ht hc => Sim.trans (fun b hb => oth t hc _ (by unfold Cfg.inC Cfg.newA; omega)) (nws t ht)
  have old' : ∀ i, i < C.K → i ≠ c → C.OldOK m (m + 1) (ct s'.mem (C.oldA i)) := fun i hi hc => old_sim (fun b hb => (oth i hc _ (by unfold Cfg.inC Cfg.oldA; omega)).symm) (core.old i hi id)
  refine ⟨⟨fun f w hf => ?_, fun _ => ?_, hN.1.trans hN.2.1.symm⟩, .inl ⟨trivial, by omega⟩, fun _ _ => Sim.refl _ _, fun i hi ha => ?_, fun i hi hk ha => (old' i hk fun e => ha (.inr e)).1, fun ha => ?_⟩
  · obtain ⟨t, ht, h1, h2⟩ := cnt_lt (Nat.lt_of_le_of_lt (Nat.le_trans cn he) hf)
    exact plx_sim _ _ (Sim.trans h1 (nw' t ht fun e => h2 (.inr e))).symm (pln hN)
  · have h1 := cnt_nn (fun t => none t ∨ t = c) c one_of C.K
    have h2 : cnt (fun t => ¬ (none t ∨ t = c)) C.K ≤ cnt (fun t => Sim C.ln (ct s'.mem (C.newA t)) N) C.K := cnt_mono fun t ht q => nw' t ht fun e => q (.inr e)
    omega
  · have hc : i ≠ c := fun e => ha (.inr e)
    refine ⟨(old' i (by omega) hc).1, ?_⟩
    show C.lo (m + 1) ≤ s'.mem (C.oldA i)
    rw [oth i hc _ (by unfold Cfg.inC Cfg.oldA; omega)]
    exact (vis i hi).1
  · have hc : j ≠ c := fun e => ha (.inr e)
    have w1 : WPY C m (m + 1) j N (fun t => none t ∨ t = c) ((C.pieceQ j).drop k) s' := WP.disturb (iy_trans C j N) cur (show IY C j N none s _ s' from ⟨hr hc, oth j hc, fun t ht => .inl ht, fun t ht q => nw' t ht fun e => q (.inr e), by omega⟩)
    refine WP.mono_g (fun s1 s2 i => ⟨i.1, i.2.1, fun _ h => h, fun t ht q => (i.2.2.2 t ht).trans (nw' t ht fun e => q (.inr e)), by omega⟩) (fun _ _ _ _ i => i.2.2.1) (fun _ h => h) (fun s1 h => ?_) w1
    intro _
    obtain ⟨t, ht, hp, hq⟩ : ∃ t, t < C.K ∧ True ∧ ¬ (none t ∨ t = c) := by
      have h1 := cnt_nn (fun t => none t ∨ t = c) c one_of C.K
      obtain ⟨t, ht, hq⟩ := cnt_pos (p := fun t => ¬ (none t ∨ t = c)) (k := C.K) (by omega)
      exact ⟨t, ht, trivial, hq⟩
    exact (h.1 ⟨t, ht, hq⟩).1
theorem s0_fresh (O : C.Ok) {j c : Nat} {s s' : MS} (fr : ∀ i, i < j → Sim C.ln (ct s.mem (C.newA i)) (C.Fc (ct s.mem (C.oldA i)))) (oth : ∀ i, i ≠ c → ∀ b, C.inC i b → s'.mem b = s.mem b) :
    ∀ i, i < j → ¬ (none i ∨ i = c) → Sim C.ln (ct s'.mem (C.newA i)) (C.Fc (ct s'.mem (C.oldA i))) := fun i hi ha => by
  have hic : i ≠ c := fun e => ha (.inr e)
  have e1 : Sim C.ln (ct s'.mem (C.newA i)) (ct s.mem (C.newA i)) := fun b hl => oth i hic _ (by unfold Cfg.inC Cfg.newA; omega)
  have e2 : Sim C.ln (ct s.mem (C.oldA i)) (ct s'.mem (C.oldA i)) := fun b hl => (oth i hic _ (by unfold Cfg.inC Cfg.oldA; omega)).symm
  exact (e1.trans (fr i hi)).trans (Fc_sim O e2)
theorem tm_one {m t p : Nat} (h : t ≤ m * C.L + p) : t ≤ (m + 2 * 1) * C.L + p ∧ t + C.L ≤ (m + 2 * 1) * C.L + p := by
  have e := mul_up m 0 C.L
  rw [Nat.mul_zero, Nat.add_zero] at e
  have e2 : (m + 2 * 1) * C.L = m * C.L + C.L + C.L := e
  omega
theorem s0_word (O : C.Ok) {t c a : Nat} {s : MS} {p : Nat} {v : Int} (he : 1 ≤ C.e) (hK : 2 * C.e < C.K) (h : S0 C t s p) (hc : C.inC c a) :
    GM C 0 1 t (fun t => none t ∨ t = c) (fun t => none t ∨ t = c) ⟨up s.mem a v, s.reg⟩ p := by
  have oth : ∀ i, i ≠ c → ∀ b, C.inC i b → up s.mem a v b = s.mem b := fun i hi => word_other hc hi
  have cn : cnt (fun t => none t ∨ t = c) C.K ≤ 1 := cnt_one (a := c) fun t _ => one_of t
  cases h with
  | @p m j k _ hj hk sf tm fr fu =>
    exact .p (clean := True) hj hk (safeP_word sf hc) (by omega) (tm_one tm).1 (fun q => absurd trivial q) (fun _ q => ⟨trivial, fun e => q (.inr e)⟩) (fun _ => s0_fresh O (s' := ⟨up s.mem a v, s.reg⟩) fr oth)
  | @q m j k N _ hj hk sf tm hN nws vis cur fu =>
    exact .s (clean := True) (X := m) hj hk (safeQ_word sf hc (by omega)) (by omega) (Nat.le_succ _) (Nat.le_refl _) (Nat.le_succ _) (by omega) (fun _ => Nat.le_refl _)
      (s0_pass he hK hj hN sf.core nws vis cur oth fun _ => rfl) (tm_one tm).1 (fun q => absurd trivial q)
theorem s0_reg (O : C.Ok) {t : Nat} {s : MS} {p : Nat} {rg : Nat → Int} (he : 1 ≤ C.e) (hK : 2 * C.e < C.K) (h : S0 C t s p) :
    GM C 0 1 t (fun t => none t ∨ t = copyAt C p) (fun t => none t ∨ t = copyAt C p) ⟨s.mem, rg⟩ p := by
  cases h with
  | @p m j k _ hj hk sf tm fr fu =>
    rw [(copyAt_P hj hk).1]
    exact .p (clean := True) hj hk (safeP_reg sf) (by omega) (tm_one tm).1 (fun q => absurd trivial q) (fun _ q => absurd (.inr rfl) q) (fun _ => s0_fresh O (s' := ⟨s.mem, rg⟩) fr fun _ _ _ _ => rfl)
  | @q m j k N _ hj hk sf tm hN nws vis cur fu =>
    rw [(copyAt_Q hj hk).1]
    exact .s (clean := True) (X := m) hj hk (safeQ_reg sf) (by omega) (Nat.le_succ _) (Nat.le_refl _) (Nat.le_succ _) (by omega) (fun _ => Nat.le_refl _)
      (s0_pass (s' := ⟨s.mem, rg⟩) he hK hj hN sf.core nws vis cur (fun _ _ _ _ => rfl) fun q => absurd rfl q) (tm_one tm).1 (fun q => absurd trivial q)
theorem s0_row (O : C.Ok) {t : Nat} {s : MS} {p p' : Nat} (he : C.e = 1) (h : S0 C t s p) (hp : p' < C.L) :
    ∃ An : Gh, cnt An C.K ≤ 1 ∧ GM C 1 1 t none An s p' := by
  obtain ⟨hp0, m, X, core0, hX, tm, fu⟩ := s0_core h
  have core : Core C none none m (m + 1) (m + 1) s.mem := core_up core0 (Nat.le_refl _) hX (Nat.le_refl _)
  have tm2 : t + C.L ≤ (m + 2 * 1) * C.L := by
    have e := mul_up m 0 C.L
    rw [Nat.mul_zero, Nat.add_zero] at e
    have e2 : (m + 2 * 1) * C.L = m * C.L + C.L + C.L := e
    omega
  rcases at_cases hp with ⟨j, k, hj, hk, e⟩ | ⟨j, k, hj, hk, e⟩
  · rw [e]
    by_cases k0 : k = 0
    · subst k0
      exact ⟨none, by rw [cnt_none]; omega, .p (clean := False) hj hk (safeP_start O hj (core_up core (Nat.le_refl _) (Nat.le_refl _) (Nat.le_succ _))) (Nat.le_refl _) (by omega) (fun _ => by omega) (fun q => q.elim) (fun q => q.elim)⟩
    · refine ⟨fun t => t = j, cnt_one (a := j) fun t _ h => h, .p (clean := False) (ent := False) (X := m + 1) hj hk ⟨⟨core.old, fun i hi ha => new_mono (Nat.le_succ _) (core.new i hi id)⟩, fun q => q.elim, fun _ => rfl⟩ (Nat.le_refl _) (by omega) (fun _ => by omega) (fun q => q.elim) (fun q => q.elim)⟩
  · rw [e]
    by_cases k0 : k = 0
    · subst k0
      exact ⟨none, by rw [cnt_none]; omega, .q (X := m + 1) hj hk (safeQ_start O hj core) (Nat.le_refl _) (by omega)⟩
    · refine ⟨fun t => t = j, cnt_one (a := j) fun t _ h => h, .q (X := m + 1) hj hk ⟨⟨core.old, fun i hi ha => core.new i hi id⟩, fun _ => wp_land he hj (by omega) hk ⟨rfl, core.old j hj id, (fu j hj).2, core.new j hj id, (fu j hj).1⟩⟩ (Nat.le_refl _) (by omega)⟩

/-! the machine's runs -/
inductive Reach (C : Cfg) (s0 : MS) : Nat → Nat → MS → Nat → Prop
  | init : Reach C s0 0 0 s0 0
  | step {f t : Nat} {s : MS} {p : Nat} {r : Rw} (h : Reach C s0 f t s p) (hr : C.rowAt p = some r) : Reach C s0 f (t + 1) (exec r s) (nextRow C p)
  | word {f t : Nat} {s : MS} {p a : Nat} {v : Int} (h : Reach C s0 f t s p) (ha : a < 4 * C.ln * C.K) : Reach C s0 (f + 1) t ⟨up s.mem a v, s.reg⟩ p
  | reg {f t : Nat} {s : MS} {p r : Nat} {v : Int} (h : Reach C s0 f t s p) : Reach C s0 (f + 1) t ⟨s.mem, up s.reg r v⟩ p
  | row {f t : Nat} {s : MS} {p p' : Nat} (h : Reach C s0 f t s p) (hp : p' < C.L) : Reach C s0 (f + 1) t s p'

theorem inC_of {a : Nat} (ha : a < 4 * C.ln * C.K) : C.inC (a / (4 * C.ln)) a := by
  have lp : 0 < 4 * C.ln := by unfold Cfg.ln; omega
  unfold Cfg.inC Cfg.Ba
  have h1 := Nat.div_add_mod a (4 * C.ln)
  have h2 := Nat.mod_lt a lp
  omega
structure Init (C : Cfg) (s0 : MS) : Prop where
  st : ∀ i, i < C.K → C.Pl 0 (ct s0.mem (C.oldA i)) ∧ C.Pl 0 (ct s0.mem (C.newA i)) ∧ C.Pl 0 (ct s0.mem (C.lookA i)) ∧ C.Pl 0 (ct s0.mem (C.bestA i))
theorem pl0_old {f : Nat → Int} (h : C.Pl 0 f) : C.OldOK 0 0 f := by
  refine ⟨⟨0, Nat.zero_le _, Nat.le_refl _, h⟩, ?_⟩
  rw [h.1]
  unfold Cfg.lo
  omega
theorem init_core {s0 : MS} (I : Init C s0) : Core C none none 0 0 (0 + 1) s0.mem := by
  refine ⟨fun i hi _ => pl0_old (I.st i hi).1, fun i hi _ => ⟨?_, fun _ => ⟨0, Nat.zero_le _, Nat.zero_le _, (I.st i hi).2.1⟩⟩⟩
  rw [(I.st i hi).2.1.1]
  omega

/-- what is promised of a machine -/
structure Good (C : Cfg) (t : Nat) (s : MS) (p : Nat) : Prop where
  row : p < C.L
  safe : ∀ f, C.e < cnt (fun i => Holds C s.mem i f) C.K → ∃ c, c ≤ C.T ∧ C.Pl c f
  final : (C.T + 2 * C.e) * C.L ≤ t → ∀ g, C.Pl C.T g → C.e < cnt (fun i => Holds C s.mem i g) C.K

theorem gm_good {w f t : Nat} {Ao An : Gh} {s : MS} {p : Nat} (h : GM C w f t Ao An s p) (sub : ∀ t, Ao t → An t) (cond : C.e * (w + 1) < cnt (fun i => ¬ Ao i) C.K) (hAn : cnt An C.K ≤ C.e) (hf : f ≤ C.e) : Good C t s p := by
  obtain ⟨hp, m, X, Y, core, _⟩ := gm_core h
  exact ⟨hp, fun g hg => core_safe sub hAn core hg, fun ht g hg => gm_final h cond hf ht hg⟩

/-- MANY COPIES: (e + 1) * (e + 1) or more -/
theorem many_gm (O : C.Ok) (hK : (C.e + 1) * (C.e + 1) ≤ C.K) {s0 : MS} (I : Init C s0) {f t : Nat} {s : MS} {p : Nat} (h : Reach C s0 f t s p) (hf : f ≤ C.e) : ∃ A : Gh, cnt A C.K ≤ f ∧ GM C f f t A A s p := by
  have cond : ∀ (f : Nat) (A : Gh), f ≤ C.e → cnt A C.K ≤ f → C.e * (f + 1) < cnt (fun i => ¬ A i) C.K := by
    intro f A hf hc
    have h1 := cnt_not A C.K
    have h2 : C.e * (f + 1) ≤ C.e * (C.e + 1) := Nat.mul_le_mul_left _ (by omega)
    have h3 : (C.e + 1) * (C.e + 1) = C.e * (C.e + 1) + (C.e + 1) := Nat.succ_mul _ _
    omega
  induction h with
  | init =>
    have K1 : 0 < C.K := by
      have h3 : (C.e + 1) * (C.e + 1) = C.e * (C.e + 1) + (C.e + 1) := Nat.succ_mul _ _
      omega
    refine ⟨none, by rw [cnt_none]; omega, ?_⟩
    have := GM.p (C := C) (w := 0) (f := 0) (t := 0) (m := 0) (X := 0) (j := 0) (k := 0) (clean := True) K1 lp_pos (safeP_start O K1 (init_core I)) (Nat.le_refl _) (by omega) (fun q => absurd trivial q) (fun _ _ => trivial) (fun _ i hi => absurd hi (Nat.not_lt_zero _))
    rw [Nat.zero_mul] at this
    exact this
  | @step f t s p r h hr ih =>
    obtain ⟨A, a, g⟩ := ih hf
    exact ⟨A, a, gm_step O (fun _ h => h) (cond _ _ hf a) (by omega) g hr⟩
  | @word f t s p a v h ha ih =>
    obtain ⟨A, c, g⟩ := ih (by omega)
    have h1 := cnt_add (p := A) (c := a / (4 * C.ln)) (K := C.K)
    exact ⟨_, by omega, gm_word (by omega) g (inC_of ha)⟩
  | @reg f t s p r v h ih =>
    obtain ⟨A, c, g⟩ := ih (by omega)
    have h1 := cnt_add (p := A) (c := copyAt C p) (K := C.K)
    exact ⟨_, by omega, gm_reg g⟩
  | @row f t s p p' h hp ih =>
    obtain ⟨A, c, g⟩ := ih (by omega)
    have h1 := cnt_add (p := A) (c := copyAt C p') (K := C.K)
    exact ⟨_, by omega, gm_row O g hp⟩
theorem many_good (O : C.Ok) (hK : (C.e + 1) * (C.e + 1) ≤ C.K) {s0 : MS} (I : Init C s0) {f t : Nat} {s : MS} {p : Nat} (h : Reach C s0 f t s p) (hf : f ≤ C.e) : Good C t s p := by
  obtain ⟨A, a, g⟩ := many_gm O hK I h hf
  refine gm_good g (fun _ h => h) ?_ (by omega) hf
  have h1 := cnt_not A C.K
  have h2 : C.e * (f + 1) ≤ C.e * (C.e + 1) := Nat.mul_le_mul_left _ (by omega)
  have h3 : (C.e + 1) * (C.e + 1) = C.e * (C.e + 1) + (C.e + 1) := Nat.succ_mul _ _
  omega

/-- ONE FAULT, three copies or more -/
theorem one_inv (O : C.Ok) (he : C.e = 1) (hK : 3 ≤ C.K) {s0 : MS} (I : Init C s0) {f t : Nat} {s : MS} {p : Nat} (h : Reach C s0 f t s p) (hf : f ≤ 1) :
    (f = 0 ∧ S0 C t s p) ∨ (f = 1 ∧ ∃ (w : Nat) (Ao An : Gh), GM C w 1 t Ao An s p ∧ (∀ t, Ao t → An t) ∧ C.e * (w + 1) < cnt (fun i => ¬ Ao i) C.K ∧ cnt An C.K ≤ C.e) := by
  have c1 : ∀ c, C.e * (0 + 1) < cnt (fun i => ¬ (none i ∨ i = c)) C.K := fun c => by
    have h1 := cnt_nn (fun t => none t ∨ t = c) c one_of C.K
    rw [he]; omega
  have c2 : ∀ c, cnt (fun i => none i ∨ i = c) C.K ≤ C.e := fun c => by
    rw [he]; exact cnt_one (a := c) fun t _ => one_of t
  have c3 : C.e * (1 + 1) < cnt (fun i => ¬ none i) C.K := by
    have h1 := cnt_not none C.K
    rw [cnt_none] at h1
    rw [he]; omega
  induction h with
  | init =>
    left
    refine ⟨rfl, ?_⟩
    have := S0.p (C := C) (t := 0) (m := 0) (j := 0) (k := 0) (s := s0) (by omega) lp_pos (safeP_start O (by omega) (init_core I)) (by omega) (fun i hi => absurd hi (Nat.not_lt_zero _)) (fun i hi => ⟨pl0_old (I.st i hi).2.2.1, pl0_old (I.st i hi).2.2.2⟩)
    rw [Nat.zero_mul] at this
    exact this
  | @step f t s p r h hr ih =>
    rcases ih hf with ⟨e, g⟩ | ⟨e, w, Ao, An, g, sub, cond, hA⟩
    · exact .inl ⟨e, s0_step O (by omega) g hr⟩
    · exact .inr ⟨e, w, Ao, An, gm_step O sub cond hA g hr, sub, cond, hA⟩
  | @word f t s p a v h ha ih =>
    rcases ih (by omega) with ⟨e, g⟩ | ⟨e, _⟩
    · exact .inr ⟨by omega, 0, _, _, s0_word O (by omega) (by omega) g (inC_of ha), fun _ h => h, c1 _, c2 _⟩
    · omega
  | @reg f t s p r v h ih =>
    rcases ih (by omega) with ⟨e, g⟩ | ⟨e, _⟩
    · exact .inr ⟨by omega, 0, _, _, s0_reg O (by omega) (by omega) g, fun _ h => h, c1 _, c2 _⟩
    · omega
  | @row f t s p p' h hp ih =>
    rcases ih (by omega) with ⟨e, g⟩ | ⟨e, _⟩
    · obtain ⟨An, hA, g'⟩ := s0_row O he g hp
      exact .inr ⟨by omega, 1, none, An, g', fun _ h => h.elim, c3, by omega⟩
    · omega
theorem one_good (O : C.Ok) (he : C.e = 1) (hK : 3 ≤ C.K) {s0 : MS} (I : Init C s0) {f t : Nat} {s : MS} {p : Nat} (h : Reach C s0 f t s p) (hf : f ≤ 1) : Good C t s p := by
  rcases one_inv O he hK I h hf with ⟨e, g⟩ | ⟨e, w, Ao, An, g, sub, cond, hA⟩
  · obtain ⟨hp, m, X, core, hX, tm, _⟩ := s0_core g
    have c0 : cnt none C.K ≤ C.e := by rw [cnt_none]; omega
    refine ⟨hp, fun f hf => core_safe (fun _ h => h) c0 core hf, fun ht g hg => core_final (w := 0) ?_ core ?_ hg⟩
    · have h1 := cnt_not none C.K
      rw [cnt_none] at h1
      rw [he]; omega
    · have h1 : (C.T + 2 * C.e) * C.L < (m + 1) * C.L := by
        have e9 : (m + 1) * C.L = m * C.L + C.L := Nat.succ_mul _ _
        omega
      have h2 := Nat.lt_of_mul_lt_mul_right h1
      omega
  · exact gm_good g sub cond hA (by omega)

/-- THE GUARANTEE -/
theorem guarantee (O : C.Ok) (hK : (C.e = 1 ∧ 3 ≤ C.K) ∨ (C.e + 1) * (C.e + 1) ≤ C.K) {s0 : MS} (I : Init C s0) {f t : Nat} {s : MS} {p : Nat} (h : Reach C s0 f t s p) (hf : f ≤ C.e) : Good C t s p := by
  rcases hK with ⟨he, h3⟩ | hK
  · exact one_good O he h3 I h (by omega)
  · exact many_good O hK I h hf
end
end Sk
end

section
set_option autoImplicit false
/-! all rows of a ring, in one list -/
namespace Sk
open Cfg
variable {C : Cfg}
theorem flat_len {α : Type} (f : Nat → List α) (m : Nat) (h : ∀ i, (f i).length = m) : ∀ n, (((List.range n).map f).flatten).length = n * m
  | 0 => by simp
  | n + 1 => by
    rw [List.range_succ, List.map_append, List.flatten_append, List.length_append, flat_len f m h n]
    simp [h, Nat.succ_mul]
theorem flat_get {α : Type} (f : Nat → List α) (m : Nat) (h : ∀ i, (f i).length = m) : ∀ n p, p < n * m → (((List.range n).map f).flatten)[p]? = (f (p / m))[p % m]?
  | 0, p, hp => by omega
  | n + 1, p, hp => by
    have m0 : 0 < m := by
      rcases Nat.eq_zero_or_pos m with e | e
      · subst e; omega
      · exact e
    rw [List.range_succ, List.map_append, List.flatten_append]
    rcases Nat.lt_or_ge p (n * m) with q | q
    · rw [List.getElem?_append_left (by rw [flat_len f m h]; exact q)]
      exact flat_get f m h n p q
    · rw [List.getElem?_append_right (by rw [flat_len f m h]; exact q), flat_len f m h]
      have e1 : p / m = n := by
        rw [Nat.succ_mul] at hp
        exact Nat.div_eq_of_lt_le q (by rw [Nat.succ_mul]; exact hp)
      have e2 : p % m = p - n * m := by
        have := Nat.div_add_mod p m
        rw [e1, Nat.mul_comm] at this
        omega
      rw [e1, e2]
      simp
def ringRows (C : Cfg) : List Rw := ((List.range C.K).map C.pieceP).flatten ++ ((List.range C.K).map C.pieceQ).flatten
theorem ring_len (C : Cfg) : (ringRows C).length = C.L := by
  rw [ringRows, List.length_append, flat_len _ C.lp lenP, flat_len _ C.lq lenQ]
  rfl
theorem ring_get {p : Nat} (hp : p < C.L) : (ringRows C)[p]? = C.rowAt p := by
  unfold ringRows Cfg.rowAt
  split <;> rename_i q
  · rw [List.getElem?_append_left (by rw [flat_len _ C.lp lenP]; exact q)]
    exact flat_get _ C.lp lenP _ _ q
  · rw [List.getElem?_append_right (by rw [flat_len _ C.lp lenP]; omega), flat_len _ C.lp lenP]
    refine flat_get _ C.lq lenQ _ _ ?_
    unfold Cfg.L at hp
    omega
end Sk
end

section
set_option autoImplicit false
/-! each row of a ring fits the machine -/
namespace Sk
open Cfg
def RowFit (N : Nat) : Rw → Prop
  | .set r v => r < 32 ∧ 0 ≤ v ∧ v < 1000000
  | .load r a => r < 32 ∧ a < N
  | .store r a => r < 32 ∧ a < N
  | .op _ r x y => r < 32 ∧ x < 32 ∧ y < 32
  | .choose r x y z => r < 32 ∧ x < 32 ∧ y < 32 ∧ z < 32
  | .alike r a b m => r < 32 ∧ a + m ≤ N ∧ b + m ≤ N
  | .move r a b m => r < 32 ∧ a + m ≤ N ∧ b + m ≤ N
theorem opv_range (o : Op) {x y : Int} (hx : 0 ≤ x ∧ x < 1000000) (hy : 0 ≤ y ∧ y < 1000000) : 0 ≤ opv o x y ∧ opv o x y < 1000000 := by
  cases o <;> simp only [opv]
  · omega
  · omega
  · omega
  · split
    · omega
    · rename_i h
      refine ⟨Int.ediv_nonneg hx.1 hy.1, Int.lt_of_le_of_lt (Int.ediv_le_self _ hx.1) hx.2⟩
  · split
    · omega
    · rename_i h
      exact ⟨Int.emod_nonneg _ h, Int.lt_trans (Int.emod_lt_of_pos _ (by omega)) hy.2⟩
  · split <;> omega
  · split <;> omega
theorem exec_range {N : Nat} {r : Rw} {s : MS} (fit : RowFit N r) (hm : ∀ k, k < N → 0 ≤ s.mem k ∧ s.mem k < 1000000) (hr : ∀ k, k < 32 → 0 ≤ s.reg k ∧ s.reg k < 1000000) :
    (∀ k, k < N → 0 ≤ (exec r s).mem k ∧ (exec r s).mem k < 1000000) ∧ ∀ k, k < 32 → 0 ≤ (exec r s).reg k ∧ (exec r s).reg k < 1000000 := by
  have upR : ∀ (f : Nat → Int) (a : Nat) (v : Int) (M : Nat), (∀ k, k < M → 0 ≤ f k ∧ f k < 1000000) → 0 ≤ v ∧ v < 1000000 → ∀ k, k < M → 0 ≤ up f a v k ∧ up f a v k < 1000000 := by
    intro f a v M h hv k hk
    unfold up
    split
    · exact hv
    · exact h k hk
  cases r with
  | set r v => exact ⟨hm, upR _ _ _ _ hr fit.2⟩
  | load r a => exact ⟨hm, upR _ _ _ _ hr (hm a fit.2)⟩
  | store r a => exact ⟨upR _ _ _ _ hm (hr r fit.1), hr⟩
  | op o r x y => exact ⟨hm, upR _ _ _ _ hr (opv_range o (hr x fit.2.1) (hr y fit.2.2))⟩
  | choose r x y z =>
    refine ⟨hm, upR _ _ _ _ hr ?_⟩
    split
    · exact hr y fit.2.2.1
    · exact hr z fit.2.2.2
  | alike r a b m =>
    refine ⟨hm, upR _ _ _ _ hr ?_⟩
    split <;> omega
  | move r a b m =>
    simp only [exec]
    split
    · refine ⟨fun k hk => ?_, hr⟩
      show 0 ≤ blit s.mem a b m k ∧ blit s.mem a b m k < 1000000
      unfold blit
      split
      · rename_i h
        have := fit.2.1
        exact hm _ (by omega)
      · exact hm k hk
    · exact ⟨hm, hr⟩
variable {C : Cfg}
theorem fit_rec {n N old : Nat} (hN : old + 1 + n ≤ N) : ∀ (l : List Rw) (kn : Nat → Prop) (res : Nat), RecRows n kn l res → ∀ r ∈ l.map (place old), RowFit N r
  | [], _, _, _, r, h => by simp at h
  | x :: l, kn, res, h, r, hr => by
    rw [List.map_cons, List.mem_cons] at hr
    rcases hr with rfl | hr
    · have h1 := h.1
      cases x with
      | set a v => exact ⟨by have := h1.1; omega, h1.2.1, h1.2.2⟩
      | load a b => exact ⟨by have := h1.1; omega, by have := h1.2; omega⟩
      | op o a b c => exact ⟨by have := h1.1; omega, by have := h1.2.2.2.1; omega, by have := h1.2.2.2.2; omega⟩
      | choose a b c d =>
        obtain ⟨q0, _, _, _, q1, q2, q3⟩ := h1
        exact ⟨by omega, by omega, by omega, by omega⟩
      | _ => exact h1.elim
    · exact fit_rec hN l _ res h.2 r hr
theorem res_lt {n : Nat} : ∀ (l : List Rw) (kn : Nat → Prop) (res : Nat), RecRows n kn l res → res < 24
  | [], _, _, h => h.1
  | _ :: l, _, res, h => res_lt l _ res h.2
theorem fit_words {n N old new : Nat} (h1 : old + 1 + n ≤ N) (h2 : new + 1 + n ≤ N) : ∀ (l : List (List Rw × Nat)) (k : Nat), k + l.length ≤ n → (∀ x ∈ l, ∃ kn, RecRows n kn x.1 x.2) → ∀ r ∈ wordsR old new k l, RowFit N r
  | [], _, _, _, r, h => by simp [wordsR] at h
  | x :: l, k, hk, hx, r, hr => by
    rw [List.length_cons] at hk
    simp only [wordsR, wordR, List.mem_append] at hr
    obtain ⟨kn, hx0⟩ := hx x List.mem_cons_self
    have hres := res_lt _ _ _ hx0
    rcases hr with (hr | hr) | hr
    · exact fit_rec h1 _ _ _ hx0 r hr
    · simp only [chooseR, List.mem_cons, List.not_mem_nil, or_false] at hr
      rcases hr with rfl | rfl | rfl | rfl
      · exact ⟨by omega, by omega⟩
      · exact ⟨by omega, by omega⟩
      · exact ⟨by omega, by omega, by omega, by omega⟩
      · exact ⟨by omega, by omega⟩
    · exact fit_words h1 h2 l (k + 1) (by omega) (fun y hy => hx y (List.mem_cons_of_mem _ hy)) r hr
theorem Ba_le {i : Nat} (hi : i < C.K) : C.Ba i + 4 * C.ln ≤ 4 * C.ln * C.K := by
  have h : 4 * C.ln * (i + 1) ≤ 4 * C.ln * C.K := Nat.mul_le_mul_left _ hi
  rw [Nat.mul_succ] at h
  exact h
structure Good1 (C : Cfg) : Prop where
  n1 : 1 ≤ C.n
  len : C.recs.length = C.n
  rec_ : ∀ x ∈ C.recs, ∃ kn, RecRows C.n kn x.1 x.2
  e6 : C.e < 1000000
theorem fit_count {N old a : Nat} (h1 : old + 1 < N) (h2 : a < N) : ∀ r ∈ countR old a, RowFit N r := by
  intro r hr
  simp only [countR, List.mem_cons, List.not_mem_nil, or_false] at hr
  rcases hr with rfl | rfl | rfl | rfl | rfl | rfl
  · exact ⟨by omega, by omega⟩
  · exact ⟨by omega, by omega⟩
  · exact ⟨by omega, by omega, by omega⟩
  · exact ⟨by omega, by omega, by omega⟩
  · exact ⟨by omega, by omega, by omega⟩
  · exact ⟨by omega, by omega⟩
theorem fit_P (G : Good1 C) {i : Nat} (hi : i < C.K) : ∀ r ∈ C.pieceP i, RowFit (4 * C.ln * C.K) r := by
  intro r hr
  have hb := Ba_le hi
  have h1 : C.ln = C.n + 2 := rfl
  have h2 : C.oldA i = C.Ba i := rfl
  have h3 : C.newA i = C.Ba i + C.ln := rfl
  have n1 := G.n1
  simp only [Cfg.pieceP, List.mem_append, List.mem_cons, List.not_mem_nil, or_false] at hr
  rcases hr with (rfl | rfl) | hr | hr | hr
  · exact ⟨by omega, by omega, by omega⟩
  · exact ⟨by omega, by omega⟩
  · exact fit_count (by omega) (by omega) r hr
  · exact fit_words (n := C.n) (by omega) (by omega) _ _ (by have := G.len; omega) G.rec_ r hr
  · exact fit_count (by omega) (by omega) r hr
theorem fit_cnt {look : Nat} (h : look + C.ln ≤ 4 * C.ln * C.K) : ∀ k, k ≤ C.K → ∀ r ∈ C.voteCnt look k, RowFit (4 * C.ln * C.K) r
  | 0, _, r, hr => by simp [Cfg.voteCnt] at hr
  | k + 1, hk, r, hr => by
    simp only [Cfg.voteCnt, List.mem_append] at hr
    rcases hr with hr | hr
    · exact fit_cnt h k (by omega) r hr
    · have hb := Ba_le (C := C) (i := k) (by omega)
      have h3 : C.newA k = C.Ba k + C.ln := rfl
      simp only [Cfg.voteOne, List.mem_cons, List.not_mem_nil, or_false] at hr
      rcases hr with rfl | rfl
      · exact ⟨by omega, by omega, by omega⟩
      · exact ⟨by omega, by omega, by omega⟩
theorem fit_vote (G : Good1 C) {i s : Nat} (hi : i < C.K) (hs : s < C.K) : ∀ r ∈ C.vote i s, RowFit (4 * C.ln * C.K) r := by
  intro r hr
  have hb := Ba_le hi
  have hbs := Ba_le hs
  have h1 : C.ln = C.n + 2 := rfl
  have h3 : C.newA s = C.Ba s + C.ln := rfl
  have h4 : C.lookA i = C.Ba i + 2 * C.ln := rfl
  have h5 : C.bestA i = C.Ba i + 3 * C.ln := rfl
  have e6 := G.e6
  simp only [Cfg.vote, Cfg.voteHead, Cfg.voteTail, List.mem_append, List.mem_cons, List.not_mem_nil, or_false] at hr
  rcases hr with rfl | (rfl | rfl | rfl | rfl | rfl | rfl) | hr | (rfl | rfl | rfl | rfl) | rfl
  · exact ⟨by omega, by omega, by omega⟩
  · exact ⟨by omega, by omega⟩
  · exact ⟨by omega, by omega⟩
  · exact ⟨by omega, by omega, by omega⟩
  · exact ⟨by omega, by omega⟩
  · exact ⟨by omega, by omega, by omega⟩
  · exact ⟨by omega, by omega, by omega⟩
  · exact fit_cnt (by omega) C.K (Nat.le_refl _) r hr
  · exact ⟨by omega, by omega, by omega⟩
  · exact ⟨by omega, by omega, by omega⟩
  · exact ⟨by omega, by omega, by omega⟩
  · exact ⟨by omega, by omega, by omega⟩
  · exact ⟨by omega, by omega, by omega⟩
theorem fit_votes (G : Good1 C) {i : Nat} (hi : i < C.K) : ∀ k, k ≤ C.K → ∀ r ∈ C.votes i k, RowFit (4 * C.ln * C.K) r
  | 0, _, r, hr => by simp [Cfg.votes] at hr
  | k + 1, hk, r, hr => by
    simp only [Cfg.votes, List.mem_append] at hr
    rcases hr with hr | hr
    · exact fit_votes G hi k (by omega) r hr
    · exact fit_vote G hi (by omega) r hr
theorem fit_Q (G : Good1 C) {i : Nat} (hi : i < C.K) : ∀ r ∈ C.pieceQ i, RowFit (4 * C.ln * C.K) r := by
  intro r hr
  have hb := Ba_le hi
  have h1 : C.ln = C.n + 2 := rfl
  have h2 : C.oldA i = C.Ba i := rfl
  have h5 : C.bestA i = C.Ba i + 3 * C.ln := rfl
  simp only [Cfg.pieceQ, List.mem_append, List.mem_cons, List.not_mem_nil, or_false] at hr
  rcases hr with (rfl | rfl) | hr | rfl
  · exact ⟨by omega, by omega, by omega⟩
  · exact ⟨by omega, by omega, by omega⟩
  · exact fit_votes G hi C.K (Nat.le_refl _) r hr
  · exact ⟨by omega, by omega, by omega⟩
theorem fit_row (G : Good1 C) {p : Nat} (hp : p < C.L) : ∃ r, C.rowAt p = some r ∧ RowFit (4 * C.ln * C.K) r := by
  have hl : p < (ringRows C).length := by rw [ring_len]; exact hp
  have e : (ringRows C)[p]? = some (ringRows C)[p] := List.getElem?_eq_getElem hl
  refine ⟨_, by rw [← ring_get hp]; exact e, ?_⟩
  have hm := List.mem_of_getElem? e
  simp only [ringRows, List.mem_append, List.mem_flatten, List.mem_map, List.mem_range] at hm
  rcases hm with ⟨l, ⟨i, hi, rfl⟩, h⟩ | ⟨l, ⟨i, hi, rfl⟩, h⟩
  · exact fit_P G hi _ h
  · exact fit_Q G hi _ h
end Sk
end

section
set_option Elab.async false
set_option linter.all false
set_option maxRecDepth 100000
set_option maxHeartbeats 4000000
/-! the walk: calls of defs by their promises -/
namespace Wk
open PySem PySem.Spec PyProof.Rows L2
/-- the module's def x keeps its promise -/
structure Dn (P : Program) (w : World) (K : PySem.W.Frag) (mg : Str → Option Value) (base : Heap) (k : Nat) (x : Str) (ps : List Str) (sp : Sp) : Prop where
  ex : ∃ f fd, mg x = some (.ref f) ∧ PySem.W.keepIn K (.ref f) = true ∧ Binds K fd ps [] ∧ FnOk P w K mg base CX0 k f fd ps sp
/-- the method m of the class C keeps its promise -/
structure Mn (P : Program) (w : World) (K : PySem.W.Frag) (mg : Str → Option Value) (base : Heap) (k : Nat) (C : Addr) (m : Str) (ps : List Str) (sp : Sp) : Prop where
  ex : ∃ f fd, Meth K C m f ∧ Binds K fd ps [] ∧ FnOk P w K mg base CX0 k f fd ps sp
/-- the property f of the class C keeps its promise -/
structure Pn (P : Program) (w : World) (K : PySem.W.Frag) (mg : Str → Option Value) (base : Heap) (k : Nat) (C : Addr) (f : Str) (sp : Sp) : Prop where
  ex : ∃ p g fd ps, PropOf K C f p g ∧ Binds K fd ps [] ∧ FnOk P w K mg base CX0 k g fd ps sp
abbrev Cb (P : Program) (w : World) (K : PySem.W.Frag) (mg : Str → Option Value) (base : Heap) (N : List Str) (qual : Str) (st : Stmt) (f : Addr) (cdv : Value) (A : Around) (outer : List Env) (s : Shared) (H : Hp) (E : XK) : Cx :=
  (cxOf CX0 P w K mg base N qual (defScope st) f cdv A outer s H E).nox
section
variable {P : Program} {w : World} {K : PySem.W.Frag} {mg : Str → Option Value} {base : Heap}
theorem fn_mk {x qual : Str} {st : Stmt} {N ps : List Str} {k : Nat} {sp : Sp} {f : Addr} (hF : ∃ fd, FunD K x qual (defArgs st) (defBody st) (defScope st) [] [] f fd) (S : FnScope N ps (defScope st))
    (hb : ∀ (kV doc pm : Value) (an : Option Addr) (cdv ct : Value) (us : List Value), us.length = ps.length → bindArgs (PySem.W.fnOf x qual (defArgs st) (defBody st) (defScope st) .none kV doc pm an cdv ct) ⟨us, []⟩ = pure (ps.zip us))
    (len : ∀ vs H Q E, sp vs H Q E → vs.length = ps.length)
    (body : ∀ (cdv : Value) (A : Around) (outer : List Env) (s : Shared) (H : Hp) (vs : List V) (Q : VK) (E : XK), Room k (A.deeper (envOfC qual (defScope st) s.heap.objs.size f cdv)) → sp vs H Q E →
      ∃ t, PSs (Cb P w K mg base N qual st f cdv A outer s H E) (defBody st) t ∧ t { nx := fun _ H' => Q .non H', rt := Q } (start N vs) H) :
    ∃ fd, PySem.W.keepIn K (.ref f) = true ∧ Binds K fd ps [] ∧ FnOk P w K mg base CX0 (k + 1) f fd ps sp := by
  obtain ⟨fd, F⟩ := hF
  refine ⟨fd, F.kp, F.bindsN hb, F.ok S len fun cdv A outer s H vs Q E hr h => ?_⟩
  obtain ⟨t, h1, h2⟩ := body cdv A outer s H vs Q E hr h
  exact ⟨t, h1.nox, h2⟩
theorem dn_mk {x : Str} {st : Stmt} {N ps : List Str} {k : Nat} {sp : Sp} (hF : ∃ fd, FunD K x x (defArgs st) (defBody st) (defScope st) [] [] (ga K x) fd) (hg : mg x = some (.ref (ga K x))) (S : FnScope N ps (defScope st))
    (hb : ∀ (kV doc pm : Value) (an : Option Addr) (cdv ct : Value) (us : List Value), us.length = ps.length → bindArgs (PySem.W.fnOf x x (defArgs st) (defBody st) (defScope st) .none kV doc pm an cdv ct) ⟨us, []⟩ = pure (ps.zip us))
    (len : ∀ vs H Q E, sp vs H Q E → vs.length = ps.length)
    (body : ∀ (cdv : Value) (A : Around) (outer : List Env) (s : Shared) (H : Hp) (vs : List V) (Q : VK) (E : XK), Room k (A.deeper (envOfC x (defScope st) s.heap.objs.size (ga K x) cdv)) → sp vs H Q E →
      ∃ t, PSs (Cb P w K mg base N x st (ga K x) cdv A outer s H E) (defBody st) t ∧ t { nx := fun _ H' => Q .non H', rt := Q } (start N vs) H) :
    Dn P w K mg base (k + 1) x ps sp := by
  obtain ⟨fd, h1, h2, h3⟩ := fn_mk hF S hb len body
  exact ⟨_, fd, hg, h1, h2, h3⟩
theorem mn_mk {x qual : Str} {st : Stmt} {N ps : List Str} {k : Nat} {sp : Sp} {C f : Addr} (hF : ∃ fd, FunD K x qual (defArgs st) (defBody st) (defScope st) [] [] f fd) (hm : Meth K C x f) (S : FnScope N ps (defScope st))
    (hb : ∀ (kV doc pm : Value) (an : Option Addr) (cdv ct : Value) (us : List Value), us.length = ps.length → bindArgs (PySem.W.fnOf x qual (defArgs st) (defBody st) (defScope st) .none kV doc pm an cdv ct) ⟨us, []⟩ = pure (ps.zip us))
    (len : ∀ vs H Q E, sp vs H Q E → vs.length = ps.length)
    (body : ∀ (cdv : Value) (A : Around) (outer : List Env) (s : Shared) (H : Hp) (vs : List V) (Q : VK) (E : XK), Room k (A.deeper (envOfC qual (defScope st) s.heap.objs.size f cdv)) → sp vs H Q E →
      ∃ t, PSs (Cb P w K mg base N qual st f cdv A outer s H E) (defBody st) t ∧ t { nx := fun _ H' => Q .non H', rt := Q } (start N vs) H) :
    Mn P w K mg base (k + 1) C x ps sp := by
  obtain ⟨fd, h1, h2, h3⟩ := fn_mk hF S hb len body
  exact ⟨_, fd, hm, h2, h3⟩
theorem pn_mk {d : PrD} {st : Stmt} {N ps : List Str} {k : Nat} {sp : Sp} (hF : PrOk K d) (e1 : d.params = defArgs st) (e2 : d.body = defBody st) (e3 : d.scope = defScope st) (S : FnScope N ps (defScope st))
    (hb : ∀ (kV doc pm : Value) (an : Option Addr) (cdv ct : Value) (us : List Value), us.length = ps.length → bindArgs (PySem.W.fnOf d.nm d.qual (defArgs st) (defBody st) (defScope st) .none kV doc pm an cdv ct) ⟨us, []⟩ = pure (ps.zip us))
    (len : ∀ vs H Q E, sp vs H Q E → vs.length = ps.length)
    (body : ∀ (cdv : Value) (A : Around) (outer : List Env) (s : Shared) (H : Hp) (vs : List V) (Q : VK) (E : XK), Room k (A.deeper (envOfC d.qual (defScope st) s.heap.objs.size (pFun K d.cls d.nm) cdv)) → sp vs H Q E →
      ∃ t, PSs (Cb P w K mg base N d.qual st (pFun K d.cls d.nm) cdv A outer s H E) (defBody st) t ∧ t { nx := fun _ H' => Q .non H', rt := Q } (start N vs) H) :
    Pn P w K mg base (k + 1) (ga K d.cls) d.nm sp := by
  have hf := hF.fn
  rw [e1, e2, e3] at hf
  obtain ⟨fd, h1, h2, h3⟩ := fn_mk hf S hb len body
  exact ⟨_, _, fd, ps, hF.pr, h2, h3⟩
end
section
variable {X : Cx} {k k' : Nat} {C : Addr} {x m f : Str} {ps : List Str} {sp : Sp} {e o : Expr} {es : List Expr} {ta : TE} {t : TA} {p pos apos : Pos}
/-- x(e, ..) -/
theorem sk_call (D : Dn X.prog X.w X.K X.mg X.base k x ps sp) (hr : Room k' X.A) (ha : PA X (e :: es) t) (hk : k ≤ k' := by decide) (hg : Gl X x := by rfl) (hdb : (x == ("__debug__" : Str)) = false := by decide)
    (he : starEach (e :: es) X.env = (false, eval e X.env) :: starEach es X.env := by rfl) (hpl : (backTo pos (starEach es X.env)).any (·.1) = false := by rfl) :
    PE X (.Call (.Name x p) (e :: es) [] pos) (tCall sp [] E0 t) := by
  obtain ⟨f, fd, h1, h2, h3, h4⟩ := D.ex
  exact pe_call h4 (hr.mono hk) hg h1 h2 h3 .nil pass0 ha hdb he hpl
/-- o.m(e, ..) -/
theorem sk_meth {pl : Sem Bool} (c : Cls X.K C) (M : Mn X.prog X.w X.K X.mg X.base k C m ps sp) (hr : Room k' X.A) (he : PE X o ta) (ha : PA X (e :: es) t) (hk : k ≤ k' := by decide)
    (hst : starEach (e :: es) X.env = (false, eval e X.env) :: starEach es X.env := by rfl) (hpl : (backTo pos (starEach es X.env)).any (·.1) = false := by rfl)
    (ht : eval (.Call (.Attribute o m apos) (e :: es) [] pos) X.env = (do
      let ov ← eval o X.env
      standAt apos.atName
      let (f, first) ← holding [ov] (getMethod ov m pl)
      callWith pos f first (backTo pos (starEach (e :: es) X.env)) (backToKw pos (keywordEach [] X.env))) := by rfl) :
    PE X (.Call (.Attribute o m apos) (e :: es) [] pos) (tMeth C m sp [] E0 ta t) := by
  obtain ⟨f, fd, h1, h2, h3⟩ := M.ex
  exact pe_meth he c h1 h3 (hr.mono hk) h2 .nil pass0 ha hst hpl ht
/-- o.m() -/
theorem sk_meth0 {pl : Sem Bool} (c : Cls X.K C) (M : Mn X.prog X.w X.K X.mg X.base k C m ps sp) (hr : Room k' X.A) (he : PE X o ta) (hk : k ≤ k' := by decide)
    (ht : eval (.Call (.Attribute o m apos) [] [] pos) X.env = (do
      let ov ← eval o X.env
      standAt apos.atName
      let (f, first) ← holding [ov] (getMethod ov m pl)
      callWith pos f first (backTo pos (starEach [] X.env)) (backToKw pos (keywordEach [] X.env))) := by rfl) :
    PE X (.Call (.Attribute o m apos) [] [] pos) (tMeth C m sp [] E0 ta tNil) := by
  obtain ⟨f, fd, h1, h2, h3⟩ := M.ex
  exact pe_meth0 he c h1 h3 (hr.mono hk) h2 .nil pass0 ht
/-- o.f, a property -/
theorem sk_prop (c : Cls X.K C) (M : Pn X.prog X.w X.K X.mg X.base k C f sp) (hr : Room k' X.A) (he : PE X o ta) (hk : k + 1 ≤ k' := by decide) (hab : attributeBase o f X.env (eval o X.env) = eval o X.env := by rfl) :
    PE X (.Attribute o f pos) (tProp C sp [] E0 ta) := by
  obtain ⟨pr, g, fd, ps, h1, h2, h3⟩ := M.ex
  exact pe_prop he c h1 h3 (hr.mono hk) h2 .nil pass0 hab
/-- a module's int, text -/
theorem sk_gi {i : Int} (h : ∃ t, X.mg x = some (.int i t)) (hg : Gl X x := by rfl) (hd : (x == ("__debug__" : Str)) = false := by decide) : PE X (.Name x pos) (tC (.int i)) := by
  obtain ⟨t, h⟩ := h
  exact pe_glob hg h ⟨t, rfl⟩ hd
theorem sk_gs {z : Str} (h : ∃ t, X.mg x = some (.str z t)) (hg : Gl X x := by rfl) (hd : (x == ("__debug__" : Str)) = false := by decide) : PE X (.Name x pos) (tC (.str z)) := by
  obtain ⟨t, h⟩ := h
  exact pe_glob hg h ⟨t, rfl⟩ hd
/-- a built-in class as a value -/
theorem sk_ty {T : String} {Tn : Str} (hT : X.mg Tn = none) (hv : bootBuiltins Tn = some (.type T)) (hgT : Gl X Tn := by rfl) (hn : Tn ≠ "__name__" := by decide) (hd : (Tn == ("__debug__" : Str)) = false := by decide) :
    PE X (.Name Tn pos) (tC (.ty T)) := pe_bltn hgT hT hv rfl hn hd
theorem bt_int : bootBuiltins "int" = some (.type "int") := by decide +kernel
theorem bt_bool : bootBuiltins "bool" = some (.type "bool") := by decide +kernel
theorem bt_str : bootBuiltins "str" = some (.type "str") := by decide +kernel
theorem bt_tuple : bootBuiltins "tuple" = some (.type "tuple") := by decide +kernel
theorem bt_list : bootBuiltins "list" = some (.type "list") := by decide +kernel
theorem bt_range : bootBuiltins "range" = some (.type "range") := by decide +kernel
theorem bt_isi : bootBuiltins "isinstance" = some (.builtin "isinstance") := by decide +kernel
theorem bt_len : bootBuiltins "len" = some (.builtin "len") := by decide +kernel
theorem bt_all : bootBuiltins "all" = some (.builtin "all") := by decide +kernel
theorem bt_sum : bootBuiltins "sum" = some (.builtin "sum") := by decide +kernel
theorem bt_max : bootBuiltins "max" = some (.builtin "max") := by decide +kernel
theorem bt_min : bootBuiltins "min" = some (.builtin "min") := by decide +kernel
theorem bt_sorted : bootBuiltins "sorted" = some (.builtin "sorted") := by decide +kernel
theorem bt_repr : bootBuiltins "repr" = some (.builtin "repr") := by decide +kernel
theorem bt_enum : bootBuiltins "enumerate" = some (.type "enumerate") := by decide +kernel
end
/-! what isinstance answers -/
section
variable {K : PySem.W.Frag}
theorem ki_ii : PySem.W.kitOne K (.type "int") (.type "int") = some true := kit_ty (by decide +kernel)
theorem ki_ib : PySem.W.kitOne K (.type "int") (.type "bool") = some false := kit_ty (by decide +kernel)
theorem ki_tt : PySem.W.kitOne K (.type "tuple") (.type "tuple") = some true := kit_ty (by decide +kernel)
theorem ki_ss : PySem.W.kitOne K (.type "str") (.type "str") = some true := kit_ty (by decide +kernel)
end
end Wk
end

section
set_option Elab.async false
set_option linter.all false
set_option maxRecDepth 100000
set_option maxHeartbeats 4000000
/-! a rule of its own: enumerate(t), t a tuple -/
namespace Wk
open PySem PySem.Spec PyProof.Rows L2
theorem enum1 {v : Value} {o : Obj} {OK : Heap → Prop} (B : Begins v o OK) :
    Meets (Builtin.«enumerate.__new__» ⟨[.type "enumerate", v], []⟩) fun _ R s => OK s.heap ∧ R (.ok (.ret (.ref (s.heap.push o).objs.size)))
      { s with heap := (s.heap.push o).push { cls := .type "enumerate", data := .fields #[.none, .bool false, .ref s.heap.objs.size, rawInt 0, .none, .none] } } := by
  refine .of_wp fun prog w A R s h => ?_
  obtain ⟨hp, g, d, tk, os⟩ := s
  obtain ⟨h1, h⟩ := h
  have sb := sub_enumerate
  have st : ∀ {A' : Around} {E Q : Value → Shared → Prop}, Q (.ref hp.objs.size) ⟨hp.push o, g, d, tk, os⟩ → wpAny (model prog w) A' (pyIter v) Q E ⟨hp, g, d, tk, os⟩ := fun q => B.iter prog w _ _ ⟨hp, g, d, tk, os⟩ _ h1 q
  wp_walk using st
  refine wpAny_stack_any fun _ => wpAny_pure ?_
  split
  · rename_i c _ _ _ _ _
    cases (c == Value.type "enumerate") <;> (wp_walk using st; exact ⟨_, rfl, h⟩)
  · wp_walk using st
    exact ⟨_, rfl, h⟩
/-- the tuple at a, each item in a new pair -/
def IteT (K : PySem.W.Frag) (a : Addr) (xs : List V) : It :=
  ⟨fun i H => SqT K H a xs ∧ i < xs.length, fun i H v H' => ∃ T x, v = .ref T ∧ H T = none ∧ H' = upd H T (.tup [.int (i : Nat), x]) ∧ xs[i]? = some x,
    fun i H => SqT K H a xs ∧ xs.length = i⟩
theorem turn_enumT {P : Program} {w : World} {K : PySem.W.Frag} {es : List Expr} {kk : Nat} {tp : Pos} (a e it : Addr) (xs : List V) (hai : a ≠ it) (hae : a ≠ e) :
    Turn P w K (.Tuple es kk tp) (IteT K a xs) [e, it] e fun i h => (∃ old, IsEnum h e it ((i : Nat) : Int) old) ∧ h.IsTupleIter it a i ∧ e ≠ it where
  mem := by simp
  obj := fun i h st b hb => by
    obtain ⟨⟨old, he⟩, ⟨o, ho, hc, hd⟩, _⟩ := st
    rcases List.mem_cons.mp hb with z | z
    · rw [z]
      exact ⟨_, he, fun v q => nomatch q⟩
    · rw [List.mem_singleton.mp z]
      exact ⟨o, ho, fun v q => by rw [hd] at q; cases q⟩
  keep := fun i h h' ⟨⟨old, he⟩, hi, hne⟩ k => ⟨⟨old, k e (by simp) _ he⟩, hi.at fun o q => k it (by simp) o q, hne⟩
  item := by
    intro X hP hw hK hc i pins s σ H E I hf ⟨⟨old, he⟩, hit, hne⟩ ⟨hq, hlx⟩
    subst hP hw hK
    obtain ⟨its, rv, p, hz⟩ := I.tuple hq
    obtain ⟨x, hx⟩ : ∃ x, xs[i]? = some x := ⟨_, List.getElem?_eq_getElem hlx⟩
    obtain ⟨u, hu, ru⟩ := rv.get hx
    have hel := Heap.lt_size he
    have hil : it < s.heap.objs.size := let ⟨_, q, _⟩ := hit; Heap.lt_size q
    have hlt : i < its.toArray.size := by
      have := (List.getElem?_eq_some_iff.mp hu).1
      simpa using this
    refine wpAny_pyNext_enum_itemD (Draws.tuple (A := X.A.in1) (I.ok.hd hc) it a hai its.toArray) he (show s.heap.IsTupleIter it a i ∧ s.heap.IsTuple a its.toArray from ⟨hit, p⟩) hlt hne (by simp [hne, hae.symm]) fun y h' tk hy ho hs hT hsz hk => ?_
    have yu : y = u := by
      have e1 : its.toArray[i]? = some y := hy
      rw [show its.toArray[i]? = its[i]? from by simp, hu] at e1
      exact (Option.some.inj e1).symm
    subst yu
    refine ⟨_, rfl, wpAny_letOwnedTupleGo_enum (s := { s with heap := h', toks := tk + 1 }) ho fun h'' he' sb => ?_⟩
    have hT2 := (sb.2 _ (Nat.ne_of_gt hel)).trans hT
    have new : ObjOk X.prog X.w (upd H s.heap.objs.size (.tup [.int (i : Nat), x])) h'' s.heap.objs.size (.tup [.int (i : Nat), x]) :=
      ⟨by show 2 ≤ sizeLine; decide, [.int i tk, y], .cons ⟨_, rfl⟩ (.cons ru .nil), _, hT2, rfl, _, rfl⟩
    have I1 : Inv X pins σ (upd H s.heap.objs.size (.tup [.int (i : Nat), x])) { s with heap := h'', toks := tk + 1 } :=
      I.turnedNew (ch := [e, it]) (fun b ob hb q => (sb.2 b fun z => hb (by simp [z])).trans (hk b ob (fun z => hb (by simp [z])) (fun z => hb (by simp [z])) q)) hf (Nat.le_refl _) new
    refine ⟨.ref s.heap.objs.size, _, I1, rfl, ⟨_, x, rfl, I.hok.fresh (Nat.le_refl _), rfl, hx⟩, ⟨⟨y, ?_⟩, hs.1.at fun o q => (sb.2 it hne.symm).trans q, hne⟩, fun b hb => ?_⟩
    · rw [show ((i + 1 : Nat) : Int) = (i : Int) + 1 from by omega]
      exact he'
    · have lt : b < s.heap.objs.size := by
        rcases List.mem_cons.mp hb with z | z
        · rw [z]; exact hel
        · rw [List.mem_singleton.mp z]; exact hil
      rw [upd_ne (Nat.ne_of_lt lt)]
      exact (hf b hb).1
  done := by
    intro X hP hw hK hc i pins s σ H E I hf ⟨⟨old, he⟩, hit, hne⟩ ⟨hq, hx⟩
    subst hP hw hK
    obtain ⟨its, rv, p, hz⟩ := I.tuple hq
    obtain ⟨f0, f1, f2, f3, f4, f5⟩ := hf it (by simp)
    have hl := rv.length
    have hn : i = its.toArray.size := by simp; omega
    refine wpAny_pyNext_enum_endD (Draws.tuple (A := X.A.in1) (I.ok.hd hc) it a hai its.toArray) he (by rw [← hn]; exact ⟨hit, p⟩) fun h' eb => ⟨rfl, I.turned (t' := s.toks) (fun b o hb q => eb b o hb q) f0 f1 f3 f4 f5⟩
  self := fun A i s Q E ⟨⟨_, he⟩, _⟩ h => wpAny_pyIter_enum he h
def iEnumT (K : PySem.W.Frag) (ta : TA) : TI := fun σ H R => ta σ H fun vs H1 => ∃ a xs, vs = [.ref a] ∧ SqT K H1 a xs ∧ R (IteT K a xs) H1
theorem begin_enumT {P : Program} {w : World} {A : Around} {E Q : Value → Shared → Prop} {s : Shared} {v : Value} {o : Obj} {OK : Heap → Prop} (B : Begins v o OK) (h1 : OK s.heap)
    (h : ∀ h', IsEnum h' (s.heap.objs.size + 1) s.heap.objs.size 0 .none → h'.get? s.heap.objs.size = some o → (∀ b u, s.heap.get? b = some u → h'.get? b = some u) → Q (.ref (s.heap.objs.size + 1)) { s with heap := h' }) :
    wpAny (model P w) A (call (.type "enumerate") [v]) Q E s := by
  have hz : (s.heap.push o).objs.size = s.heap.objs.size + 1 := Heap.size_push ..
  have he : IsEnum ((s.heap.push o).push { cls := .type "enumerate", data := .fields #[.none, .bool false, .ref s.heap.objs.size, rawInt 0, .none, .none] }) (s.heap.objs.size + 1) s.heap.objs.size 0 .none := by
    rw [← hz]
    exact Heap.get?_push_size _ rfl
  refine callType_new F.called_enumerate (by decide) (F.typeCall_enumerate_1 _) (F.newCall_enumerate_1 _) (fun obj => F.args_object_init_2 obj _) F.entry_enumerate_new (enum1 B) ⟨h1, ?_⟩
  show _ ∧ _
  rw [hz]
  exact ⟨⟨_, he, rfl⟩, h _ he (Heap.get?_push_of_some _ (Heap.get?_push_size _ B.free)) fun b u x => Heap.get?_push_of_some _ (Heap.get?_push_of_some _ x)⟩
theorem pi_enumT {X : Cx} {e : Expr} {ta : TA} {p pos tp : Pos} {es : List Expr} {kk : Nat} (hg : Gl X "enumerate") (hm : X.mg "enumerate" = none) (ha : PA X [e] ta) (hs : starEach [e] X.env = [(false, eval e X.env)] := by rfl) :
    PI X (.Tuple es kk tp) (.Call (.Name "enumerate" p) [e] [] pos) (iEnumT X.K ta) := by
  refine ⟨fun pins s σ H R I h => Call_ (ld_blt I hg hm boot_enumerate (PyProof.Rows.callWith_type1 (thn (ha.run pos pins s σ H _ I h) fun us s1 ⟨vs, H1, I1, r1, q1⟩ => ?_) hs rfl))⟩
  obtain ⟨a, xs, ex, hq, q⟩ := q1
  subst ex
  obtain ⟨u, rfl, ru⟩ := vals1 r1
  cases ru
  obtain ⟨its, rv, pt, hz⟩ := I1.tuple hq
  have al : a < s1.heap.objs.size := PyProof.Rows.IsTup.lt pt
  refine begin_enumT (begins_tuple a its.toArray) (show s1.heap.IsTuple a its.toArray from pt) fun h' he hit hk => wpAny_pyIter_enum he ?_
  have I2 : Inv X pins σ H1 { s1 with heap := h' } := I1.kept (t' := s1.toks) hk
  refine ⟨s1.heap.objs.size + 1, [s1.heap.objs.size + 1, s1.heap.objs.size], _, _, H1, rfl, I2, turn_enumT a (s1.heap.objs.size + 1) s1.heap.objs.size xs (Nat.ne_of_lt al) (Nat.ne_of_lt (Nat.lt_succ_of_lt al)), ⟨⟨.none, he⟩, ⟨_, hit, rfl, rfl⟩, Nat.succ_ne_self _⟩, fun b hb => ?_, q⟩
  have hle : s1.heap.objs.size ≤ b := by
    rcases List.mem_cons.mp hb with z | z
    · rw [z]; exact Nat.le_succ _
    · rw [List.mem_singleton.mp z]; exact Nat.le_refl _
  exact I1.fpOk hle (I1.hok.fresh hle)
theorem for_enumT {K : PySem.W.Frag} {a : Addr} {xs : List V} {g : TG} {tb : TS} {D : Ends} {σ : L2.St} {H : Hp} (Pv : Nat → L2.St → Hp → Prop) (h0 : Pv 0 σ H) (hl : ∀ i σ H, i ≤ xs.length → Pv i σ H → SqT K H a xs)
    (hs : ∀ i x σ H T, xs[i]? = some x → Pv i σ H → H T = none → g (.ref T) σ (upd H T (.tup [.int (i : Nat), x])) fun σ2 H2 => tb { D with nx := Pv (i + 1), ct := Pv (i + 1), bk := D.nx } σ2 H2) (hd : ∀ σ H, Pv xs.length σ H → D.nx σ H) :
    ∃ W : Nat → Nat → L2.St → Hp → Prop, (∃ m, W 0 m σ H) ∧ ∀ i m σ H, W i m σ H →
      ((IteT K a xs).stop i H ∧ D.nx σ H) ∨ ((IteT K a xs).go i H ∧ ∃ N : L2.St → Hp → Prop, (∀ σ' H', N σ' H' → ∃ m', m' < m ∧ W (i + 1) m' σ' H') ∧ ∀ x H', (IteT K a xs).yld i H x H' → g x σ H' fun σ2 H2 => tb { D with nx := N, ct := N, bk := D.nx } σ2 H2) := by
  refine ⟨fun i m σ H => m = xs.length - i ∧ i ≤ xs.length ∧ Pv i σ H, ⟨xs.length, by simp, Nat.zero_le _, h0⟩, ?_⟩
  rintro i m σ H ⟨rfl, hi, p⟩
  have q := hl i σ H hi p
  rcases Nat.lt_or_ge i xs.length with hlt | hge
  · refine .inr ⟨⟨q, hlt⟩, Pv (i + 1), fun σ' H' p' => ⟨xs.length - (i + 1), by omega, rfl, hlt, p'⟩, ?_⟩
    rintro _ _ ⟨T, x, rfl, hT, rfl, hx⟩
    exact hs i x σ H T hx p hT
  · obtain rfl : i = xs.length := by omega
    exact .inl ⟨⟨q, rfl⟩, hd σ H p⟩
end Wk
end

section
set_option Elab.async false
set_option linter.all false
set_option maxRecDepth 100000
set_option maxHeartbeats 4000000
/-! a rule of its own: a, b, *c = t, t a tuple -/
namespace Wk
open PySem PySem.Spec PyProof.Rows L2
section
variable {P : Program} {w : World} {A : Around} {E : Value → Shared → Prop} {s : Shared}
theorem star_last {t : Addr} {items : Array Value} {i : Nat} {Q : List Value → Shared → Prop} (ht : IsTup s.heap t items) (hh : A.handled = none) (hi : i ≤ items.size) (hz : items.size ≤ sizeLine)
    (h : ∀ (h' : Heap) (tk : Nat), (∀ b o, s.heap.get? b = some o → h'.get? b = some o) →
      Q (items.toList.take i ++ [.ref h'.objs.size]) { s with heap := h'.push { cls := .type "list", data := .seq (items.toList.drop i).toArray }, toks := tk }) :
    wpAny (model P w) A (unpackItems (.ref t) (i + 1) (some i)) Q E s := by
  have tl : t < s.heap.objs.size := PyProof.Rows.IsTup.lt ht
  have tn : t ≠ s.heap.objs.size := Nat.ne_of_lt tl
  unfold unpackItems
  refine wpAny_bind ?_
  unfold notIterableAtAll
  refine wpAny_bind (wpAny_specialOf ht.typeIs slot_tuple_iter.lookup ?_)
  refine wpAny_pure ?_
  simp only [Bool.false_eq_true, if_false]
  refine wpAny_bind (wpAny_holding (iter_tuple ht (wpAny_bind (wpAny_holding (draw_tuple tn i 0 _ _ ⟨_, Heap.get?_push_size _ rfl, rfl, rfl⟩ (ht.push _) (by omega) fun h1 it1 s1 => ?_)))))
  have ht1 : IsTup h1 t items := (ht.push _).extBut s1.extBut tn
  rw [Nat.zero_add] at it1
  have l1 := it1.typeIs (s := { s with heap := h1 })
  obtain ⟨oi, hoi, _⟩ := id it1
  have tk : (items.toList.take i).length = i := by rw [List.length_take, Array.length_toList]; omega
  have dl : (items.toList.drop i).length = items.size - i := by rw [List.length_drop, Array.length_toList]
  rw [List.drop_zero, if_neg (by omega)]
  refine wpAny_bind (wpAny_holding (PySem.W.kun_collect (s := { s with heap := h1 }) (T := "tuple_iterator") (.inr (.inr (.inr rfl))) (Walks.tuple (A := A.in1) hh s.heap.objs.size t tn items) (fun j u st => st.1.typeIs) hi ⟨it1, ht1⟩ (Heap.lt_size hoi) (PyProof.Rows.IsTup.lt ht1) (fun h2 tk2 k2 => ?_) hz))
  have kk : ∀ b o, b ≠ s.heap.objs.size → s.heap.get? b = some o → h2.get? b = some o := fun b o hb e => k2 b o hb (s1.extBut b o hb (Heap.get?_push_of_some _ e))
  have e0 : (items.toList.drop i).length - (i + 1 - 1 - i) = (items.toList.drop i).length := by omega
  have e2 : ¬ (items.toList.drop i).length < i + 1 - 1 - i := by omega
  show wpAny _ _ (if (items.toList.drop i).length < i + 1 - 1 - i then _ else _) _ _ _
  rw [if_neg e2]
  show wpAny _ _ (newList ((items.toList.drop i).take ((items.toList.drop i).length - (i + 1 - 1 - i))) >>= fun d => pure (items.toList.take i ++ [d] ++ (items.toList.drop i).drop ((items.toList.drop i).length - (i + 1 - 1 - i)))) _ _ _
  rw [e0, List.take_length, List.drop_length]
  refine wpAny_bind (wpAny_newList (wpAny_pure ?_) (by rw [dl]; omega))
  rw [List.append_nil]
  exact h h2 tk2 fun b o e => kk b o (Nat.ne_of_lt (Heap.lt_size e)) e
end
section
variable {X : Cx} {pos : Pos}
/-- (a, b, .., *c) = a tuple -/
def gStar (K : PySem.W.Frag) (n : Nat) (t : TGs) : TG := fun v σ H Q => ∃ a xs, v = .ref a ∧ SqT K H a xs ∧ n ≤ xs.length ∧ ∀ l, H l = none → t (xs.take n ++ [.ref l]) σ (upd H l (.lst (xs.drop n))) Q
theorem pgs_star {e : Expr} {es : List Expr} {t : TG} {u : TGs} {sp : Pos} (h1 : PG X e t) (h2 : PGs X es u)
    (hs : (assignEach (.Starred e sp :: es) X.env).map (·.2) = assign e X.env :: (assignEach es X.env).map (·.2) := by rfl) : PGs X (.Starred e sp :: es) (gCons t u) := by
  refine ⟨fun pins s σ H vs us Q I r ⟨v, vr, e1, h⟩ => ?_⟩
  subst e1
  cases r with
  | cons r rr =>
    rw [hs]
    exact assignInOrder_cons (thn (h1.run pins s σ H _ _ _ I r h) fun _ s1 ⟨σ1, H1, I1, q1⟩ => h2.run pins s1 σ1 H1 _ _ Q I1 rr q1)
theorem pg_star {es : List Expr} {k n : Nat} {t : TGs} (hc : X.calm = true) (h : PGs X es t) (hn : (assignEach es X.env).length = n + 1 := by rfl) (hst : (assignEach es X.env).findIdx? (·.1) = some n := by rfl) :
    PG X (.Tuple es k pos) (gStar X.K n t) := by
  refine ⟨fun pins s σ H v u Q I r ⟨a, xs, e1, hq, hl, hw⟩ => ?_⟩
  subst e1
  cases r
  obtain ⟨its, rv, ht, hz⟩ := I.tuple hq
  have hlen := rv.length
  rw [PyProof.Rows.assign_Tuple]
  refine wpAny_bind (wpAny_standAt ?_)
  unfold unpack
  rw [hn, hst]
  refine wpAny_bind (wpAny_holding (star_last ht (I.ok.hd hc) (by simp; omega) (by simp; omega) fun h' tk hk => ?_))
  have I1 : Inv X pins σ H { s with heap := h', toks := tk } := I.kept (t' := tk) hk
  have I2 := I1.laid (t' := tk) (a := h'.objs.size) (o := .lst (xs.drop n)) (h' := h'.push { cls := .type "list", data := .seq (its.toArray.toList.drop n).toArray }) (fun b o e => Heap.get?_push_of_some _ e) (Nat.le_refl _)
    ⟨by rw [List.length_drop]; omega, _, _, rv.drop n, by simpa using Heap.get?_push_size h' (o := { cls := .type "list", data := .seq (its.toArray.toList.drop n).toArray }) rfl⟩
  refine h.run pins _ σ _ (xs.take n ++ [.ref h'.objs.size]) _ Q I2 ?_ (hw _ (I1.hok.fresh (Nat.le_refl _)))
  simpa using (rv.take n).append (.cons (show RelV (.ref h'.objs.size) (.ref h'.objs.size) from rfl) .nil)
end
end Wk
end

section
set_option Elab.async false
set_option linter.all false
set_option maxRecDepth 100000
set_option maxHeartbeats 4000000
/-! a rule of its own: len(o), o an instance with __len__ -/
namespace Wk
open PySem PySem.Spec PyProof.Rows L2
section
variable {P : Program} {w : World} {A : Around} {E Q : Value → Shared → Prop} {s : Shared} {K : PySem.W.Frag} {x C f : Addr} {ox : Obj} {odd : Option Obj}
theorem len_own (X : K.In s.heap) (I : PySem.W.InstAt s.heap x ox C odd) (hs : PySem.W.findIn K (.ref C) "__len__" = some (some (.ref f))) (hf : PySem.W.isFn K (.ref f) = true)
    (h : wpAny (model P w) A.in1 (call (.ref f) [.ref x]) (fun r s1 => ∃ (n : Nat) (u : Tok), r = Value.int n u ∧ n < 4294967296 ∧ Q (.int n s1.toks) { s1 with toks := s1.toks + 1 }) E s) :
    wpAny (model P w) A (call (.builtin "len") [.ref x]) Q E s := by
  refine Calls.call_function_entry kind_len plain_len entry_len (args_len1 _) ?_
  unfold Builtin.«len»
  refine wpAny_bind (m := oneArg "len" _) (wpAny_pure ?_)
  refine wpAny_bind (m := callSpecial? (.ref x) (PySem.Str.ofString "__len__")) (PySem.W.special_fn X I hs (beq_iff_eq.mp hf) (wpAny_mono h (fun r s1 hr => ?_) fun _ _ y => y))
  obtain ⟨n, u, rfl, hn, hq⟩ := hr
  refine wpAny_bind (wpAny_holding (wpAny_pure ?_))
  refine wpAny_bind (wpAny_letGo ?_)
  show wpAny _ _ (if ((n : Nat) : Int) < 0 then _ else _) _ _ _
  rw [if_neg (by omega)]
  show wpAny _ _ (if ((n : Nat) : Int) ≥ 2 ^ 63 then _ else _) _ _ _
  rw [if_neg (by omega)]
  exact wpAny_bind (wpAny_mkInt (wpAny_pure ⟨_, rfl, hq⟩))
end
section
variable {X : Cx} {k : Nat} {g C : Addr} {fd : FuncData} {ps : List Str} {sp : Sp}
def rLenOwn (C : Addr) (sp : Sp) : List V → Hp → VK → Prop := fun xs H Q => ∃ a dx fs, xs = [V.ref a] ∧ H a = some (.ins C dx fs) ∧ sp [.ref a] H (fun z H' => ∃ n : Nat, z = .int n ∧ n < 4294967296 ∧ Q (.int n) H') E0
theorem call_lenOwn (hs : PySem.W.findIn X.K (.ref C) "__len__" = some (some (.ref g))) (hf : PySem.W.isFn X.K (.ref g) = true) (hb : Binds X.K fd ps []) (F : FnOk X.prog X.w X.K X.mg X.base CX0 k g fd ps sp) (hr : Room (k + 1) X.A) : CallR X (.builtin "len") (rLenOwn C sp) := by
  intro pins s σ H xs us Q I r h
  obtain ⟨a, dx, fs, rfl, ea, q⟩ := h
  obtain ⟨u, rfl, ru⟩ := vals1 r
  cases (show u = Value.ref a from ru)
  obtain ⟨mA, O, _⟩ := ins_get I.hok ea
  obtain ⟨od, J, _⟩ := O.look
  have F2 := F.raw hb Paired.nil
  have run := SlX.run_at (A := X.A.in1) (us := [.ref a]) (ws := [.ref a]) F2 (Room.in1 hr) I.env0.in1 pass0 I (.cons rfl .nil) q
  refine len_own I.kIn J hs hf (wpAny_mono (wpAny_call run) (fun w' s' z => ?_) fun _ _ y => y)
  obtain ⟨z', H', I', rz, n, ez, hn, qz⟩ := z
  subst ez
  obtain ⟨t, e⟩ := (show ∃ t, w' = Value.int n t from rz)
  cases e
  exact ⟨n, t, rfl, hn, .int n, H', I'.tok _, ⟨_, rfl⟩, qz⟩
end
end Wk
end

section
set_option Elab.async false
set_option linter.all false
set_option maxRecDepth 100000
set_option maxHeartbeats 4000000
/-! a rule of its own: xs[a:b] = ys -/
namespace Wk
open PySem PySem.Spec PyProof.Rows L2
/-- a slice object -/
def slO (p : Addr) (i j : Int) : HO := .ext fun h => ∃ vl vu, RelV (.int i) vl ∧ RelV (.int j) vu ∧ h.IsSliceOf p vl vu .none
def tSlO (tl th : TO) : TE := fun σ H Q => tl σ H fun l H1 => th σ H1 fun u H2 => ∃ i j, l = some i ∧ u = some j ∧ ∀ p, H2 p = none → Q (.ref p) (upd H2 p (slO p i j))
def rSetSl : TSet := fun o i v H Q => ∃ l b sl xs ys a c, o = .ref l ∧ i = .ref sl ∧ v = .ref b ∧ H l = some (.lst xs) ∧ H b = some (.lst ys) ∧ l ≠ b ∧ H sl = some (slO sl a c) ∧ 0 ≤ a ∧ a ≤ c ∧ c ≤ xs.length ∧ xs.length + ys.length ≤ sizeLine ∧ Q (upd H l (.lst (xs.take a.toNat ++ ys ++ xs.drop c.toNat)))
section
variable {X : Cx}
theorem part_rel {v : Value} {i : Int} (h : IsPart v (some i)) : RelV (.int i) v := by
  cases h with
  | int i t => exact ⟨t, rfl⟩
theorem pe_sliceO {lo hi : Expr} {tl th : TO} {p2 : Pos} (hl : PO X (some lo) tl) (hu : PO X (some hi) th) : PE X (.Slice (some lo) (some hi) none p2) (tSlO tl th) := by
  refine ⟨fun pins s σ H Q I h => ?_⟩
  refine wpAny_Slice (thn (hl.run pins s σ H _ I h) fun vl s2 ⟨l, H2, I2, pl, q2⟩ => thn (hu.run pins s2 σ H2 _ I2 q2) fun vu s3 ⟨u, H3, I3, pu, i, j, el, eu, q3⟩ => ?_)
  subst el eu
  rw [evalPart_none]
  refine wpAny_pure ?_
  have I4 := I3.laid (t' := s3.toks) (a := s3.heap.objs.size) (o := slO s3.heap.objs.size i j) (h' := s3.heap.push { cls := .type "slice", data := .fields #[vl, vu, .none] }) (fun b ob q => Heap.get?_push_of_some _ q) (Nat.le_refl _)
    ⟨⟨vl, vu, part_rel pl, part_rel pu, Heap.IsSliceOf.new ..⟩, ⟨_, Heap.get?_push_size _ rfl⟩, fun h1 h2 ⟨a, b, r1, r2, o, ho, q⟩ k => ⟨a, b, r1, r2, o, k o ho, q⟩⟩
  exact ⟨.ref s3.heap.objs.size, _, I4, rfl, q3 _ (I3.hok.fresh (Nat.le_refl _))⟩
/-- xs[a:b] = .. as a target -/
theorem pg_slc {o i : Expr} {to ti : TE} {t : TSet} {pos : Pos} (ho : PE X o to) (hi : PE X i ti) (hs : PSet X t)
    (ha : ∀ v, assign (.Subscript o i pos) X.env v = (do
      let ov ← holding [v] (eval o X.env)
      let iv ← holding [v, ov] (eval i X.env)
      standAt pos
      holding [v, ov, iv] (setItem ov iv v)
      release [iv, v, ov] []) := by intro _; rfl) : PG X (.Subscript o i pos) (gSub to ti t) := by
  refine ⟨fun pins s σ H v u Q I r h => ?_⟩
  rw [ha]
  refine wpAny_bind (wpAny_holding (thn (ho.run pins s σ H _ I h) fun ov s1 ⟨x, H1, I1, r1, q1⟩ => ?_))
  refine wpAny_bind (wpAny_holding (thn (hi.run pins s1 σ H1 _ I1 q1) fun iv s2 ⟨y, H2, I2, r2, q2⟩ => wpAny_bind (wpAny_standAt ?_)))
  refine wpAny_bind (wpAny_holding (thn (hs pins s2 σ H2 x y v ov iv u _ I2 r1 r2 r q2) fun _ s3 ⟨H3, I3, q3⟩ => ?_))
  exact wpAny_release ⟨σ, H3, I3, q3⟩
theorem set_slc : PSet X rSetSl := by
  intro pins s σ H o i v ov iv u Q I ro ri rv h
  obtain ⟨l, b, sl, xs, ys, a, c, rfl, rfl, rfl, hl, hb, hne, hs, h0, hac, hc, hz, q⟩ := h
  cases (show ov = Value.ref l from ro)
  cases (show iv = Value.ref sl from ri)
  cases (show u = Value.ref b from rv)
  obtain ⟨⟨vl, vu, r1, r2, hsl⟩, _⟩ := (show ObjOk X.prog X.w H s.heap sl (slO sl a c) from I.hok sl _ hs)
  exact set_slice I hl hb hne hsl r1 r2 h0 hac hc hz fun s' I' => ⟨_, I', q⟩
end
end Wk
end

section
set_option Elab.async false
set_option linter.all false
set_option maxRecDepth 100000
set_option maxHeartbeats 4000000
/-! the walk: what stands on the heap -/
namespace Wk
open PySem PySem.Spec PyProof.Rows L2
theorem ki_any {K : PySem.W.Frag} {H : Hp} {x : V} {n : String} {t : Value} {b : Bool} (h : TyX K H x t) (k : PySem.W.kitOne K t (.type n) = some b) {Q : VK} (q : Q (.bl b) H) : rIsi K [x, .ty n] H Q := ⟨_, _, _, _, _, rfl, .ty _, h, k, q⟩
theorem isi_ii {K : PySem.W.Frag} {i : Int} {H : Hp} {Q : VK} : rIsi K [.int i, .ty "int"] H Q = Q (.bl true) H := by
  refine propext ⟨?_, fun h => ki_any (.base (.int _)) ki_ii h⟩
  rintro ⟨x, c, t, u, b, e, k, ty, kk, q⟩
  simp only [List.cons.injEq, and_true] at e
  obtain ⟨rfl, rfl⟩ := e
  cases k
  cases ty with
  | base ty => cases ty; rw [ki_ii] at kk; cases kk; exact q
theorem isi_ib {K : PySem.W.Frag} {i : Int} {H : Hp} {Q : VK} : rIsi K [.int i, .ty "bool"] H Q = Q (.bl false) H := by
  refine propext ⟨?_, fun h => ki_any (.base (.int _)) ki_ib h⟩
  rintro ⟨x, c, t, u, b, e, k, ty, kk, q⟩
  simp only [List.cons.injEq, and_true] at e
  obtain ⟨rfl, rfl⟩ := e
  cases k
  cases ty with
  | base ty => cases ty; rw [ki_ib] at kk; cases kk; exact q
theorem isi_ss {K : PySem.W.Frag} {i : Str} {H : Hp} {Q : VK} : rIsi K [.str i, .ty "str"] H Q = Q (.bl true) H := by
  refine propext ⟨?_, fun h => ki_any (.base (.str _)) ki_ss h⟩
  rintro ⟨x, c, t, u, b, e, k, ty, kk, q⟩
  simp only [List.cons.injEq, and_true] at e
  obtain ⟨rfl, rfl⟩ := e
  cases k
  cases ty with
  | base ty => cases ty; rw [ki_ss] at kk; cases kk; exact q
theorem isi_tt {K : PySem.W.Frag} {a : Addr} {xs : List V} {H : Hp} {Q : VK} (e : H a = some (.tup xs)) (h : Q (.bl true) H) : rIsi K [.ref a, .ty "tuple"] H Q := ki_any (.base (.tup e)) ki_tt h
theorem eq_ii {i j : Int} {H : Hp} {Q : VK} : rEq (.int i) (.int j) H Q = Q (.bl (decide (i = j))) H := by
  refine propext ⟨fun h => ?_, fun h => ⟨rfl, ?_⟩⟩
  · have := h.2; simp only [V.int.injEq] at this; exact this
  · simp only [V.int.injEq]; exact h
theorem ne_ii {i j : Int} {H : Hp} {Q : VK} : rNe (.int i) (.int j) H Q = Q (.bl (!decide (i = j))) H := by
  refine propext ⟨fun h => ?_, fun h => ⟨rfl, ?_⟩⟩
  · have := h.2; simp only [V.int.injEq] at this; exact this
  · simp only [V.int.injEq]; exact h
theorem eq_ss {i j : Str} {H : Hp} {Q : VK} : rEq (.str i) (.str j) H Q = Q (.bl (decide (i = j))) H := by
  refine propext ⟨fun h => ?_, fun h => ⟨rfl, ?_⟩⟩
  · have := h.2; simp only [V.str.injEq] at this; exact this
  · simp only [V.str.injEq]; exact h
theorem ne_ss {i j : Str} {H : Hp} {Q : VK} : rNe (.str i) (.str j) H Q = Q (.bl (!decide (i = j))) H := by
  refine propext ⟨fun h => ?_, fun h => ⟨rfl, ?_⟩⟩
  · have := h.2; simp only [V.str.injEq] at this; exact this
  · simp only [V.str.injEq]; exact h
theorem cxK {CX : CXT} {P : Program} {w : World} {K : PySem.W.Frag} {mg : Str → Option Value} {base : Heap} {N : List Str} {q : Str} {sc : Scope} {f : Addr} {cd : Value} {A : Around} {outer : List Env} {s : Shared} {H : Hp} {E : XK} : (cxOf CX P w K mg base N q sc f cd A outer s H E).K = K := rfl
theorem ix_tupK {X : Cx} {K : PySem.W.Frag} (h : X.K = K := by rfl) : IxR X (rIxT K) := h ▸ ix_tup
theorem ix_listK {X : Cx} {K : PySem.W.Frag} (h : X.K = K := by rfl) : IxR X (rIxL K) := h ▸ ix_list
theorem pe_fldK {X : Cx} {K : PySem.W.Frag} {e : Expr} {f : Str} {pos : Pos} {ta : TE} (he : PE X e ta) (hb : attributeBase e f X.env (eval e X.env) = eval e X.env) (h : X.K = K := by rfl) : PE X (.Attribute e f pos) (tFld K ta f) := h ▸ pe_fld he hb
theorem pi_listK {X : Cx} {K : PySem.W.Frag} {tg l : Expr} {tl : TE} (hl : PE X l tl) (h : X.K = K := by rfl) : PI X tg l (iList K tl) := h ▸ pi_list hl
theorem pi_tupK {X : Cx} {K : PySem.W.Frag} {tg l : Expr} {tl : TE} (hl : PE X l tl) (h : X.K = K := by rfl) : PI X tg l (iTup K tl) := h ▸ pi_tup hl
theorem pg_tupK {X : Cx} {K : PySem.W.Frag} {pos : Pos} {es : List Expr} {k : Nat} {t : TGs} {n : Nat} (hc : X.calm = true) (h : PGs X es t)
    (hn : (assignEach es X.env).length = n := by rfl) (hst : (assignEach es X.env).findIdx? (·.1) = none := by rfl) (hk : X.K = K := by rfl) : PG X (.Tuple es k pos) (gTup K n t) := hk ▸ pg_tup hc h hn hst
def rLenS (K : PySem.W.Frag) : List V → Hp → VK → Prop := fun xs H Q => ∃ p ys, xs = [V.ref p] ∧ (SqL K H p ys ∨ SqT K H p ys) ∧ Q (.int ys.length) H
theorem call_lenK {X : Cx} {K : PySem.W.Frag} (h : X.K = K := by rfl) : CallR X (.builtin "len") (rLenS K) := h ▸ call_len_seq
theorem sN_load_set : (Str.ofString "load" = Str.ofString "set") = False := eq_false (by decide +kernel)
theorem sN_load_store : (Str.ofString "load" = Str.ofString "store") = False := eq_false (by decide +kernel)
theorem sN_load_add : (Str.ofString "load" = Str.ofString "add") = False := eq_false (by decide +kernel)
theorem sN_load_sub : (Str.ofString "load" = Str.ofString "sub") = False := eq_false (by decide +kernel)
theorem sN_load_mul : (Str.ofString "load" = Str.ofString "mul") = False := eq_false (by decide +kernel)
theorem sN_load_div : (Str.ofString "load" = Str.ofString "div") = False := eq_false (by decide +kernel)
theorem sN_load_mod : (Str.ofString "load" = Str.ofString "mod") = False := eq_false (by decide +kernel)
theorem sN_load_less : (Str.ofString "load" = Str.ofString "less") = False := eq_false (by decide +kernel)
theorem sN_load_same : (Str.ofString "load" = Str.ofString "same") = False := eq_false (by decide +kernel)
theorem sN_load_choose : (Str.ofString "load" = Str.ofString "choose") = False := eq_false (by decide +kernel)
theorem sN_load_alike : (Str.ofString "load" = Str.ofString "alike") = False := eq_false (by decide +kernel)
theorem sN_load_move : (Str.ofString "load" = Str.ofString "move") = False := eq_false (by decide +kernel)
theorem sN_load_word : (Str.ofString "load" = Str.ofString "word") = False := eq_false (by decide +kernel)
theorem sN_load_register : (Str.ofString "load" = Str.ofString "register") = False := eq_false (by decide +kernel)
theorem sN_load_row : (Str.ofString "load" = Str.ofString "row") = False := eq_false (by decide +kernel)
theorem sN_load_P : (Str.ofString "load" = Str.ofString "P") = False := eq_false (by decide +kernel)
theorem sN_load_Q : (Str.ofString "load" = Str.ofString "Q") = False := eq_false (by decide +kernel)
theorem sN_load_numbers : (Str.ofString "load" = Str.ofString "numbers") = False := eq_false (by decide +kernel)
theorem sN_load_mixed : (Str.ofString "load" = Str.ofString "mixed") = False := eq_false (by decide +kernel)
theorem sN_load_choices : (Str.ofString "load" = Str.ofString "choices") = False := eq_false (by decide +kernel)
theorem sN_set_load : (Str.ofString "set" = Str.ofString "load") = False := eq_false (by decide +kernel)
theorem sN_set_store : (Str.ofString "set" = Str.ofString "store") = False := eq_false (by decide +kernel)
theorem sN_set_add : (Str.ofString "set" = Str.ofString "add") = False := eq_false (by decide +kernel)
theorem sN_set_sub : (Str.ofString "set" = Str.ofString "sub") = False := eq_false (by decide +kernel)
theorem sN_set_mul : (Str.ofString "set" = Str.ofString "mul") = False := eq_false (by decide +kernel)
theorem sN_set_div : (Str.ofString "set" = Str.ofString "div") = False := eq_false (by decide +kernel)
theorem sN_set_mod : (Str.ofString "set" = Str.ofString "mod") = False := eq_false (by decide +kernel)
theorem sN_set_less : (Str.ofString "set" = Str.ofString "less") = False := eq_false (by decide +kernel)
theorem sN_set_same : (Str.ofString "set" = Str.ofString "same") = False := eq_false (by decide +kernel)
theorem sN_set_choose : (Str.ofString "set" = Str.ofString "choose") = False := eq_false (by decide +kernel)
theorem sN_set_alike : (Str.ofString "set" = Str.ofString "alike") = False := eq_false (by decide +kernel)
theorem sN_set_move : (Str.ofString "set" = Str.ofString "move") = False := eq_false (by decide +kernel)
theorem sN_set_word : (Str.ofString "set" = Str.ofString "word") = False := eq_false (by decide +kernel)
theorem sN_set_register : (Str.ofString "set" = Str.ofString "register") = False := eq_false (by decide +kernel)
theorem sN_set_row : (Str.ofString "set" = Str.ofString "row") = False := eq_false (by decide +kernel)
theorem sN_set_P : (Str.ofString "set" = Str.ofString "P") = False := eq_false (by decide +kernel)
theorem sN_set_Q : (Str.ofString "set" = Str.ofString "Q") = False := eq_false (by decide +kernel)
theorem sN_set_numbers : (Str.ofString "set" = Str.ofString "numbers") = False := eq_false (by decide +kernel)
theorem sN_set_mixed : (Str.ofString "set" = Str.ofString "mixed") = False := eq_false (by decide +kernel)
theorem sN_set_choices : (Str.ofString "set" = Str.ofString "choices") = False := eq_false (by decide +kernel)
theorem sN_store_load : (Str.ofString "store" = Str.ofString "load") = False := eq_false (by decide +kernel)
theorem sN_store_set : (Str.ofString "store" = Str.ofString "set") = False := eq_false (by decide +kernel)
theorem sN_store_add : (Str.ofString "store" = Str.ofString "add") = False := eq_false (by decide +kernel)
theorem sN_store_sub : (Str.ofString "store" = Str.ofString "sub") = False := eq_false (by decide +kernel)
theorem sN_store_mul : (Str.ofString "store" = Str.ofString "mul") = False := eq_false (by decide +kernel)
theorem sN_store_div : (Str.ofString "store" = Str.ofString "div") = False := eq_false (by decide +kernel)
theorem sN_store_mod : (Str.ofString "store" = Str.ofString "mod") = False := eq_false (by decide +kernel)
theorem sN_store_less : (Str.ofString "store" = Str.ofString "less") = False := eq_false (by decide +kernel)
theorem sN_store_same : (Str.ofString "store" = Str.ofString "same") = False := eq_false (by decide +kernel)
theorem sN_store_choose : (Str.ofString "store" = Str.ofString "choose") = False := eq_false (by decide +kernel)
theorem sN_store_alike : (Str.ofString "store" = Str.ofString "alike") = False := eq_false (by decide +kernel)
theorem sN_store_move : (Str.ofString "store" = Str.ofString "move") = False := eq_false (by decide +kernel)
theorem sN_store_word : (Str.ofString "store" = Str.ofString "word") = False := eq_false (by decide +kernel)
theorem sN_store_register : (Str.ofString "store" = Str.ofString "register") = False := eq_false (by decide +kernel)
theorem sN_store_row : (Str.ofString "store" = Str.ofString "row") = False := eq_false (by decide +kernel)
theorem sN_store_P : (Str.ofString "store" = Str.ofString "P") = False := eq_false (by decide +kernel)
theorem sN_store_Q : (Str.ofString "store" = Str.ofString "Q") = False := eq_false (by decide +kernel)
theorem sN_store_numbers : (Str.ofString "store" = Str.ofString "numbers") = False := eq_false (by decide +kernel)
theorem sN_store_mixed : (Str.ofString "store" = Str.ofString "mixed") = False := eq_false (by decide +kernel)
theorem sN_store_choices : (Str.ofString "store" = Str.ofString "choices") = False := eq_false (by decide +kernel)
theorem sN_add_load : (Str.ofString "add" = Str.ofString "load") = False := eq_false (by decide +kernel)
theorem sN_add_set : (Str.ofString "add" = Str.ofString "set") = False := eq_false (by decide +kernel)
theorem sN_add_store : (Str.ofString "add" = Str.ofString "store") = False := eq_false (by decide +kernel)
theorem sN_add_sub : (Str.ofString "add" = Str.ofString "sub") = False := eq_false (by decide +kernel)
theorem sN_add_mul : (Str.ofString "add" = Str.ofString "mul") = False := eq_false (by decide +kernel)
theorem sN_add_div : (Str.ofString "add" = Str.ofString "div") = False := eq_false (by decide +kernel)
theorem sN_add_mod : (Str.ofString "add" = Str.ofString "mod") = False := eq_false (by decide +kernel)
theorem sN_add_less : (Str.ofString "add" = Str.ofString "less") = False := eq_false (by decide +kernel)
theorem sN_add_same : (Str.ofString "add" = Str.ofString "same") = False := eq_false (by decide +kernel)
theorem sN_add_choose : (Str.ofString "add" = Str.ofString "choose") = False := eq_false (by decide +kernel)
theorem sN_add_alike : (Str.ofString "add" = Str.ofString "alike") = False := eq_false (by decide +kernel)
theorem sN_add_move : (Str.ofString "add" = Str.ofString "move") = False := eq_false (by decide +kernel)
theorem sN_add_word : (Str.ofString "add" = Str.ofString "word") = False := eq_false (by decide +kernel)
theorem sN_add_register : (Str.ofString "add" = Str.ofString "register") = False := eq_false (by decide +kernel)
theorem sN_add_row : (Str.ofString "add" = Str.ofString "row") = False := eq_false (by decide +kernel)
theorem sN_add_P : (Str.ofString "add" = Str.ofString "P") = False := eq_false (by decide +kernel)
theorem sN_add_Q : (Str.ofString "add" = Str.ofString "Q") = False := eq_false (by decide +kernel)
theorem sN_add_numbers : (Str.ofString "add" = Str.ofString "numbers") = False := eq_false (by decide +kernel)
theorem sN_add_mixed : (Str.ofString "add" = Str.ofString "mixed") = False := eq_false (by decide +kernel)
theorem sN_add_choices : (Str.ofString "add" = Str.ofString "choices") = False := eq_false (by decide +kernel)
theorem sN_sub_load : (Str.ofString "sub" = Str.ofString "load") = False := eq_false (by decide +kernel)
theorem sN_sub_set : (Str.ofString "sub" = Str.ofString "set") = False := eq_false (by decide +kernel)
theorem sN_sub_store : (Str.ofString "sub" = Str.ofString "store") = False := eq_false (by decide +kernel)
theorem sN_sub_add : (Str.ofString "sub" = Str.ofString "add") = False := eq_false (by decide +kernel)
theorem sN_sub_mul : (Str.ofString "sub" = Str.ofString "mul") = False := eq_false (by decide +kernel)
theorem sN_sub_div : (Str.ofString "sub" = Str.ofString "div") = False := eq_false (by decide +kernel)
theorem sN_sub_mod : (Str.ofString "sub" = Str.ofString "mod") = False := eq_false (by decide +kernel)
theorem sN_sub_less : (Str.ofString "sub" = Str.ofString "less") = False := eq_false (by decide +kernel)
theorem sN_sub_same : (Str.ofString "sub" = Str.ofString "same") = False := eq_false (by decide +kernel)
theorem sN_sub_choose : (Str.ofString "sub" = Str.ofString "choose") = False := eq_false (by decide +kernel)
theorem sN_sub_alike : (Str.ofString "sub" = Str.ofString "alike") = False := eq_false (by decide +kernel)
theorem sN_sub_move : (Str.ofString "sub" = Str.ofString "move") = False := eq_false (by decide +kernel)
theorem sN_sub_word : (Str.ofString "sub" = Str.ofString "word") = False := eq_false (by decide +kernel)
theorem sN_sub_register : (Str.ofString "sub" = Str.ofString "register") = False := eq_false (by decide +kernel)
theorem sN_sub_row : (Str.ofString "sub" = Str.ofString "row") = False := eq_false (by decide +kernel)
theorem sN_sub_P : (Str.ofString "sub" = Str.ofString "P") = False := eq_false (by decide +kernel)
theorem sN_sub_Q : (Str.ofString "sub" = Str.ofString "Q") = False := eq_false (by decide +kernel)
theorem sN_sub_numbers : (Str.ofString "sub" = Str.ofString "numbers") = False := eq_false (by decide +kernel)
theorem sN_sub_mixed : (Str.ofString "sub" = Str.ofString "mixed") = False := eq_false (by decide +kernel)
theorem sN_sub_choices : (Str.ofString "sub" = Str.ofString "choices") = False := eq_false (by decide +kernel)
theorem sN_mul_load : (Str.ofString "mul" = Str.ofString "load") = False := eq_false (by decide +kernel)
theorem sN_mul_set : (Str.ofString "mul" = Str.ofString "set") = False := eq_false (by decide +kernel)
theorem sN_mul_store : (Str.ofString "mul" = Str.ofString "store") = False := eq_false (by decide +kernel)
theorem sN_mul_add : (Str.ofString "mul" = Str.ofString "add") = False := eq_false (by decide +kernel)
theorem sN_mul_sub : (Str.ofString "mul" = Str.ofString "sub") = False := eq_false (by decide +kernel)
theorem sN_mul_div : (Str.ofString "mul" = Str.ofString "div") = False := eq_false (by decide +kernel)
theorem sN_mul_mod : (Str.ofString "mul" = Str.ofString "mod") = False := eq_false (by decide +kernel)
theorem sN_mul_less : (Str.ofString "mul" = Str.ofString "less") = False := eq_false (by decide +kernel)
theorem sN_mul_same : (Str.ofString "mul" = Str.ofString "same") = False := eq_false (by decide +kernel)
theorem sN_mul_choose : (Str.ofString "mul" = Str.ofString "choose") = False := eq_false (by decide +kernel)
theorem sN_mul_alike : (Str.ofString "mul" = Str.ofString "alike") = False := eq_false (by decide +kernel)
theorem sN_mul_move : (Str.ofString "mul" = Str.ofString "move") = False := eq_false (by decide +kernel)
theorem sN_mul_word : (Str.ofString "mul" = Str.ofString "word") = False := eq_false (by decide +kernel)
theorem sN_mul_register : (Str.ofString "mul" = Str.ofString "register") = False := eq_false (by decide +kernel)
theorem sN_mul_row : (Str.ofString "mul" = Str.ofString "row") = False := eq_false (by decide +kernel)
theorem sN_mul_P : (Str.ofString "mul" = Str.ofString "P") = False := eq_false (by decide +kernel)
theorem sN_mul_Q : (Str.ofString "mul" = Str.ofString "Q") = False := eq_false (by decide +kernel)
theorem sN_mul_numbers : (Str.ofString "mul" = Str.ofString "numbers") = False := eq_false (by decide +kernel)
theorem sN_mul_mixed : (Str.ofString "mul" = Str.ofString "mixed") = False := eq_false (by decide +kernel)
theorem sN_mul_choices : (Str.ofString "mul" = Str.ofString "choices") = False := eq_false (by decide +kernel)
theorem sN_div_load : (Str.ofString "div" = Str.ofString "load") = False := eq_false (by decide +kernel)
theorem sN_div_set : (Str.ofString "div" = Str.ofString "set") = False := eq_false (by decide +kernel)
theorem sN_div_store : (Str.ofString "div" = Str.ofString "store") = False := eq_false (by decide +kernel)
theorem sN_div_add : (Str.ofString "div" = Str.ofString "add") = False := eq_false (by decide +kernel)
theorem sN_div_sub : (Str.ofString "div" = Str.ofString "sub") = False := eq_false (by decide +kernel)
theorem sN_div_mul : (Str.ofString "div" = Str.ofString "mul") = False := eq_false (by decide +kernel)
theorem sN_div_mod : (Str.ofString "div" = Str.ofString "mod") = False := eq_false (by decide +kernel)
theorem sN_div_less : (Str.ofString "div" = Str.ofString "less") = False := eq_false (by decide +kernel)
theorem sN_div_same : (Str.ofString "div" = Str.ofString "same") = False := eq_false (by decide +kernel)
theorem sN_div_choose : (Str.ofString "div" = Str.ofString "choose") = False := eq_false (by decide +kernel)
theorem sN_div_alike : (Str.ofString "div" = Str.ofString "alike") = False := eq_false (by decide +kernel)
theorem sN_div_move : (Str.ofString "div" = Str.ofString "move") = False := eq_false (by decide +kernel)
theorem sN_div_word : (Str.ofString "div" = Str.ofString "word") = False := eq_false (by decide +kernel)
theorem sN_div_register : (Str.ofString "div" = Str.ofString "register") = False := eq_false (by decide +kernel)
theorem sN_div_row : (Str.ofString "div" = Str.ofString "row") = False := eq_false (by decide +kernel)
theorem sN_div_P : (Str.ofString "div" = Str.ofString "P") = False := eq_false (by decide +kernel)
theorem sN_div_Q : (Str.ofString "div" = Str.ofString "Q") = False := eq_false (by decide +kernel)
theorem sN_div_numbers : (Str.ofString "div" = Str.ofString "numbers") = False := eq_false (by decide +kernel)
theorem sN_div_mixed : (Str.ofString "div" = Str.ofString "mixed") = False := eq_false (by decide +kernel)
theorem sN_div_choices : (Str.ofString "div" = Str.ofString "choices") = False := eq_false (by decide +kernel)
theorem sN_mod_load : (Str.ofString "mod" = Str.ofString "load") = False := eq_false (by decide +kernel)
theorem sN_mod_set : (Str.ofString "mod" = Str.ofString "set") = False := eq_false (by decide +kernel)
theorem sN_mod_store : (Str.ofString "mod" = Str.ofString "store") = False := eq_false (by decide +kernel)
theorem sN_mod_add : (Str.ofString "mod" = Str.ofString "add") = False := eq_false (by decide +kernel)
theorem sN_mod_sub : (Str.ofString "mod" = Str.ofString "sub") = False := eq_false (by decide +kernel)
theorem sN_mod_mul : (Str.ofString "mod" = Str.ofString "mul") = False := eq_false (by decide +kernel)
theorem sN_mod_div : (Str.ofString "mod" = Str.ofString "div") = False := eq_false (by decide +kernel)
theorem sN_mod_less : (Str.ofString "mod" = Str.ofString "less") = False := eq_false (by decide +kernel)
theorem sN_mod_same : (Str.ofString "mod" = Str.ofString "same") = False := eq_false (by decide +kernel)
theorem sN_mod_choose : (Str.ofString "mod" = Str.ofString "choose") = False := eq_false (by decide +kernel)
theorem sN_mod_alike : (Str.ofString "mod" = Str.ofString "alike") = False := eq_false (by decide +kernel)
theorem sN_mod_move : (Str.ofString "mod" = Str.ofString "move") = False := eq_false (by decide +kernel)
theorem sN_mod_word : (Str.ofString "mod" = Str.ofString "word") = False := eq_false (by decide +kernel)
theorem sN_mod_register : (Str.ofString "mod" = Str.ofString "register") = False := eq_false (by decide +kernel)
theorem sN_mod_row : (Str.ofString "mod" = Str.ofString "row") = False := eq_false (by decide +kernel)
theorem sN_mod_P : (Str.ofString "mod" = Str.ofString "P") = False := eq_false (by decide +kernel)
theorem sN_mod_Q : (Str.ofString "mod" = Str.ofString "Q") = False := eq_false (by decide +kernel)
theorem sN_mod_numbers : (Str.ofString "mod" = Str.ofString "numbers") = False := eq_false (by decide +kernel)
theorem sN_mod_mixed : (Str.ofString "mod" = Str.ofString "mixed") = False := eq_false (by decide +kernel)
theorem sN_mod_choices : (Str.ofString "mod" = Str.ofString "choices") = False := eq_false (by decide +kernel)
theorem sN_less_load : (Str.ofString "less" = Str.ofString "load") = False := eq_false (by decide +kernel)
theorem sN_less_set : (Str.ofString "less" = Str.ofString "set") = False := eq_false (by decide +kernel)
theorem sN_less_store : (Str.ofString "less" = Str.ofString "store") = False := eq_false (by decide +kernel)
theorem sN_less_add : (Str.ofString "less" = Str.ofString "add") = False := eq_false (by decide +kernel)
theorem sN_less_sub : (Str.ofString "less" = Str.ofString "sub") = False := eq_false (by decide +kernel)
theorem sN_less_mul : (Str.ofString "less" = Str.ofString "mul") = False := eq_false (by decide +kernel)
theorem sN_less_div : (Str.ofString "less" = Str.ofString "div") = False := eq_false (by decide +kernel)
theorem sN_less_mod : (Str.ofString "less" = Str.ofString "mod") = False := eq_false (by decide +kernel)
theorem sN_less_same : (Str.ofString "less" = Str.ofString "same") = False := eq_false (by decide +kernel)
theorem sN_less_choose : (Str.ofString "less" = Str.ofString "choose") = False := eq_false (by decide +kernel)
theorem sN_less_alike : (Str.ofString "less" = Str.ofString "alike") = False := eq_false (by decide +kernel)
theorem sN_less_move : (Str.ofString "less" = Str.ofString "move") = False := eq_false (by decide +kernel)
theorem sN_less_word : (Str.ofString "less" = Str.ofString "word") = False := eq_false (by decide +kernel)
theorem sN_less_register : (Str.ofString "less" = Str.ofString "register") = False := eq_false (by decide +kernel)
theorem sN_less_row : (Str.ofString "less" = Str.ofString "row") = False := eq_false (by decide +kernel)
theorem sN_less_P : (Str.ofString "less" = Str.ofString "P") = False := eq_false (by decide +kernel)
theorem sN_less_Q : (Str.ofString "less" = Str.ofString "Q") = False := eq_false (by decide +kernel)
theorem sN_less_numbers : (Str.ofString "less" = Str.ofString "numbers") = False := eq_false (by decide +kernel)
theorem sN_less_mixed : (Str.ofString "less" = Str.ofString "mixed") = False := eq_false (by decide +kernel)
theorem sN_less_choices : (Str.ofString "less" = Str.ofString "choices") = False := eq_false (by decide +kernel)
theorem sN_same_load : (Str.ofString "same" = Str.ofString "load") = False := eq_false (by decide +kernel)
theorem sN_same_set : (Str.ofString "same" = Str.ofString "set") = False := eq_false (by decide +kernel)
theorem sN_same_store : (Str.ofString "same" = Str.ofString "store") = False := eq_false (by decide +kernel)
theorem sN_same_add : (Str.ofString "same" = Str.ofString "add") = False := eq_false (by decide +kernel)
theorem sN_same_sub : (Str.ofString "same" = Str.ofString "sub") = False := eq_false (by decide +kernel)
theorem sN_same_mul : (Str.ofString "same" = Str.ofString "mul") = False := eq_false (by decide +kernel)
theorem sN_same_div : (Str.ofString "same" = Str.ofString "div") = False := eq_false (by decide +kernel)
theorem sN_same_mod : (Str.ofString "same" = Str.ofString "mod") = False := eq_false (by decide +kernel)
theorem sN_same_less : (Str.ofString "same" = Str.ofString "less") = False := eq_false (by decide +kernel)
theorem sN_same_choose : (Str.ofString "same" = Str.ofString "choose") = False := eq_false (by decide +kernel)
theorem sN_same_alike : (Str.ofString "same" = Str.ofString "alike") = False := eq_false (by decide +kernel)
theorem sN_same_move : (Str.ofString "same" = Str.ofString "move") = False := eq_false (by decide +kernel)
theorem sN_same_word : (Str.ofString "same" = Str.ofString "word") = False := eq_false (by decide +kernel)
theorem sN_same_register : (Str.ofString "same" = Str.ofString "register") = False := eq_false (by decide +kernel)
theorem sN_same_row : (Str.ofString "same" = Str.ofString "row") = False := eq_false (by decide +kernel)
theorem sN_same_P : (Str.ofString "same" = Str.ofString "P") = False := eq_false (by decide +kernel)
theorem sN_same_Q : (Str.ofString "same" = Str.ofString "Q") = False := eq_false (by decide +kernel)
theorem sN_same_numbers : (Str.ofString "same" = Str.ofString "numbers") = False := eq_false (by decide +kernel)
theorem sN_same_mixed : (Str.ofString "same" = Str.ofString "mixed") = False := eq_false (by decide +kernel)
theorem sN_same_choices : (Str.ofString "same" = Str.ofString "choices") = False := eq_false (by decide +kernel)
theorem sN_choose_load : (Str.ofString "choose" = Str.ofString "load") = False := eq_false (by decide +kernel)
theorem sN_choose_set : (Str.ofString "choose" = Str.ofString "set") = False := eq_false (by decide +kernel)
theorem sN_choose_store : (Str.ofString "choose" = Str.ofString "store") = False := eq_false (by decide +kernel)
theorem sN_choose_add : (Str.ofString "choose" = Str.ofString "add") = False := eq_false (by decide +kernel)
theorem sN_choose_sub : (Str.ofString "choose" = Str.ofString "sub") = False := eq_false (by decide +kernel)
theorem sN_choose_mul : (Str.ofString "choose" = Str.ofString "mul") = False := eq_false (by decide +kernel)
theorem sN_choose_div : (Str.ofString "choose" = Str.ofString "div") = False := eq_false (by decide +kernel)
theorem sN_choose_mod : (Str.ofString "choose" = Str.ofString "mod") = False := eq_false (by decide +kernel)
theorem sN_choose_less : (Str.ofString "choose" = Str.ofString "less") = False := eq_false (by decide +kernel)
theorem sN_choose_same : (Str.ofString "choose" = Str.ofString "same") = False := eq_false (by decide +kernel)
theorem sN_choose_alike : (Str.ofString "choose" = Str.ofString "alike") = False := eq_false (by decide +kernel)
theorem sN_choose_move : (Str.ofString "choose" = Str.ofString "move") = False := eq_false (by decide +kernel)
theorem sN_choose_word : (Str.ofString "choose" = Str.ofString "word") = False := eq_false (by decide +kernel)
theorem sN_choose_register : (Str.ofString "choose" = Str.ofString "register") = False := eq_false (by decide +kernel)
theorem sN_choose_row : (Str.ofString "choose" = Str.ofString "row") = False := eq_false (by decide +kernel)
theorem sN_choose_P : (Str.ofString "choose" = Str.ofString "P") = False := eq_false (by decide +kernel)
theorem sN_choose_Q : (Str.ofString "choose" = Str.ofString "Q") = False := eq_false (by decide +kernel)
theorem sN_choose_numbers : (Str.ofString "choose" = Str.ofString "numbers") = False := eq_false (by decide +kernel)
theorem sN_choose_mixed : (Str.ofString "choose" = Str.ofString "mixed") = False := eq_false (by decide +kernel)
theorem sN_choose_choices : (Str.ofString "choose" = Str.ofString "choices") = False := eq_false (by decide +kernel)
theorem sN_alike_load : (Str.ofString "alike" = Str.ofString "load") = False := eq_false (by decide +kernel)
theorem sN_alike_set : (Str.ofString "alike" = Str.ofString "set") = False := eq_false (by decide +kernel)
theorem sN_alike_store : (Str.ofString "alike" = Str.ofString "store") = False := eq_false (by decide +kernel)
theorem sN_alike_add : (Str.ofString "alike" = Str.ofString "add") = False := eq_false (by decide +kernel)
theorem sN_alike_sub : (Str.ofString "alike" = Str.ofString "sub") = False := eq_false (by decide +kernel)
theorem sN_alike_mul : (Str.ofString "alike" = Str.ofString "mul") = False := eq_false (by decide +kernel)
theorem sN_alike_div : (Str.ofString "alike" = Str.ofString "div") = False := eq_false (by decide +kernel)
theorem sN_alike_mod : (Str.ofString "alike" = Str.ofString "mod") = False := eq_false (by decide +kernel)
theorem sN_alike_less : (Str.ofString "alike" = Str.ofString "less") = False := eq_false (by decide +kernel)
theorem sN_alike_same : (Str.ofString "alike" = Str.ofString "same") = False := eq_false (by decide +kernel)
theorem sN_alike_choose : (Str.ofString "alike" = Str.ofString "choose") = False := eq_false (by decide +kernel)
theorem sN_alike_move : (Str.ofString "alike" = Str.ofString "move") = False := eq_false (by decide +kernel)
theorem sN_alike_word : (Str.ofString "alike" = Str.ofString "word") = False := eq_false (by decide +kernel)
theorem sN_alike_register : (Str.ofString "alike" = Str.ofString "register") = False := eq_false (by decide +kernel)
theorem sN_alike_row : (Str.ofString "alike" = Str.ofString "row") = False := eq_false (by decide +kernel)
theorem sN_alike_P : (Str.ofString "alike" = Str.ofString "P") = False := eq_false (by decide +kernel)
theorem sN_alike_Q : (Str.ofString "alike" = Str.ofString "Q") = False := eq_false (by decide +kernel)
theorem sN_alike_numbers : (Str.ofString "alike" = Str.ofString "numbers") = False := eq_false (by decide +kernel)
theorem sN_alike_mixed : (Str.ofString "alike" = Str.ofString "mixed") = False := eq_false (by decide +kernel)
theorem sN_alike_choices : (Str.ofString "alike" = Str.ofString "choices") = False := eq_false (by decide +kernel)
theorem sN_move_load : (Str.ofString "move" = Str.ofString "load") = False := eq_false (by decide +kernel)
theorem sN_move_set : (Str.ofString "move" = Str.ofString "set") = False := eq_false (by decide +kernel)
theorem sN_move_store : (Str.ofString "move" = Str.ofString "store") = False := eq_false (by decide +kernel)
theorem sN_move_add : (Str.ofString "move" = Str.ofString "add") = False := eq_false (by decide +kernel)
theorem sN_move_sub : (Str.ofString "move" = Str.ofString "sub") = False := eq_false (by decide +kernel)
theorem sN_move_mul : (Str.ofString "move" = Str.ofString "mul") = False := eq_false (by decide +kernel)
theorem sN_move_div : (Str.ofString "move" = Str.ofString "div") = False := eq_false (by decide +kernel)
theorem sN_move_mod : (Str.ofString "move" = Str.ofString "mod") = False := eq_false (by decide +kernel)
theorem sN_move_less : (Str.ofString "move" = Str.ofString "less") = False := eq_false (by decide +kernel)
theorem sN_move_same : (Str.ofString "move" = Str.ofString "same") = False := eq_false (by decide +kernel)
theorem sN_move_choose : (Str.ofString "move" = Str.ofString "choose") = False := eq_false (by decide +kernel)
theorem sN_move_alike : (Str.ofString "move" = Str.ofString "alike") = False := eq_false (by decide +kernel)
theorem sN_move_word : (Str.ofString "move" = Str.ofString "word") = False := eq_false (by decide +kernel)
theorem sN_move_register : (Str.ofString "move" = Str.ofString "register") = False := eq_false (by decide +kernel)
theorem sN_move_row : (Str.ofString "move" = Str.ofString "row") = False := eq_false (by decide +kernel)
theorem sN_move_P : (Str.ofString "move" = Str.ofString "P") = False := eq_false (by decide +kernel)
theorem sN_move_Q : (Str.ofString "move" = Str.ofString "Q") = False := eq_false (by decide +kernel)
theorem sN_move_numbers : (Str.ofString "move" = Str.ofString "numbers") = False := eq_false (by decide +kernel)
theorem sN_move_mixed : (Str.ofString "move" = Str.ofString "mixed") = False := eq_false (by decide +kernel)
theorem sN_move_choices : (Str.ofString "move" = Str.ofString "choices") = False := eq_false (by decide +kernel)
theorem sN_word_load : (Str.ofString "word" = Str.ofString "load") = False := eq_false (by decide +kernel)
theorem sN_word_set : (Str.ofString "word" = Str.ofString "set") = False := eq_false (by decide +kernel)
theorem sN_word_store : (Str.ofString "word" = Str.ofString "store") = False := eq_false (by decide +kernel)
theorem sN_word_add : (Str.ofString "word" = Str.ofString "add") = False := eq_false (by decide +kernel)
theorem sN_word_sub : (Str.ofString "word" = Str.ofString "sub") = False := eq_false (by decide +kernel)
theorem sN_word_mul : (Str.ofString "word" = Str.ofString "mul") = False := eq_false (by decide +kernel)
theorem sN_word_div : (Str.ofString "word" = Str.ofString "div") = False := eq_false (by decide +kernel)
theorem sN_word_mod : (Str.ofString "word" = Str.ofString "mod") = False := eq_false (by decide +kernel)
theorem sN_word_less : (Str.ofString "word" = Str.ofString "less") = False := eq_false (by decide +kernel)
theorem sN_word_same : (Str.ofString "word" = Str.ofString "same") = False := eq_false (by decide +kernel)
theorem sN_word_choose : (Str.ofString "word" = Str.ofString "choose") = False := eq_false (by decide +kernel)
theorem sN_word_alike : (Str.ofString "word" = Str.ofString "alike") = False := eq_false (by decide +kernel)
theorem sN_word_move : (Str.ofString "word" = Str.ofString "move") = False := eq_false (by decide +kernel)
theorem sN_word_register : (Str.ofString "word" = Str.ofString "register") = False := eq_false (by decide +kernel)
theorem sN_word_row : (Str.ofString "word" = Str.ofString "row") = False := eq_false (by decide +kernel)
theorem sN_word_P : (Str.ofString "word" = Str.ofString "P") = False := eq_false (by decide +kernel)
theorem sN_word_Q : (Str.ofString "word" = Str.ofString "Q") = False := eq_false (by decide +kernel)
theorem sN_word_numbers : (Str.ofString "word" = Str.ofString "numbers") = False := eq_false (by decide +kernel)
theorem sN_word_mixed : (Str.ofString "word" = Str.ofString "mixed") = False := eq_false (by decide +kernel)
theorem sN_word_choices : (Str.ofString "word" = Str.ofString "choices") = False := eq_false (by decide +kernel)
theorem sN_register_load : (Str.ofString "register" = Str.ofString "load") = False := eq_false (by decide +kernel)
theorem sN_register_set : (Str.ofString "register" = Str.ofString "set") = False := eq_false (by decide +kernel)
theorem sN_register_store : (Str.ofString "register" = Str.ofString "store") = False := eq_false (by decide +kernel)
theorem sN_register_add : (Str.ofString "register" = Str.ofString "add") = False := eq_false (by decide +kernel)
theorem sN_register_sub : (Str.ofString "register" = Str.ofString "sub") = False := eq_false (by decide +kernel)
theorem sN_register_mul : (Str.ofString "register" = Str.ofString "mul") = False := eq_false (by decide +kernel)
theorem sN_register_div : (Str.ofString "register" = Str.ofString "div") = False := eq_false (by decide +kernel)
theorem sN_register_mod : (Str.ofString "register" = Str.ofString "mod") = False := eq_false (by decide +kernel)
theorem sN_register_less : (Str.ofString "register" = Str.ofString "less") = False := eq_false (by decide +kernel)
theorem sN_register_same : (Str.ofString "register" = Str.ofString "same") = False := eq_false (by decide +kernel)
theorem sN_register_choose : (Str.ofString "register" = Str.ofString "choose") = False := eq_false (by decide +kernel)
theorem sN_register_alike : (Str.ofString "register" = Str.ofString "alike") = False := eq_false (by decide +kernel)
theorem sN_register_move : (Str.ofString "register" = Str.ofString "move") = False := eq_false (by decide +kernel)
theorem sN_register_word : (Str.ofString "register" = Str.ofString "word") = False := eq_false (by decide +kernel)
theorem sN_register_row : (Str.ofString "register" = Str.ofString "row") = False := eq_false (by decide +kernel)
theorem sN_register_P : (Str.ofString "register" = Str.ofString "P") = False := eq_false (by decide +kernel)
theorem sN_register_Q : (Str.ofString "register" = Str.ofString "Q") = False := eq_false (by decide +kernel)
theorem sN_register_numbers : (Str.ofString "register" = Str.ofString "numbers") = False := eq_false (by decide +kernel)
theorem sN_register_mixed : (Str.ofString "register" = Str.ofString "mixed") = False := eq_false (by decide +kernel)
theorem sN_register_choices : (Str.ofString "register" = Str.ofString "choices") = False := eq_false (by decide +kernel)
theorem sN_row_load : (Str.ofString "row" = Str.ofString "load") = False := eq_false (by decide +kernel)
theorem sN_row_set : (Str.ofString "row" = Str.ofString "set") = False := eq_false (by decide +kernel)
theorem sN_row_store : (Str.ofString "row" = Str.ofString "store") = False := eq_false (by decide +kernel)
theorem sN_row_add : (Str.ofString "row" = Str.ofString "add") = False := eq_false (by decide +kernel)
theorem sN_row_sub : (Str.ofString "row" = Str.ofString "sub") = False := eq_false (by decide +kernel)
theorem sN_row_mul : (Str.ofString "row" = Str.ofString "mul") = False := eq_false (by decide +kernel)
theorem sN_row_div : (Str.ofString "row" = Str.ofString "div") = False := eq_false (by decide +kernel)
theorem sN_row_mod : (Str.ofString "row" = Str.ofString "mod") = False := eq_false (by decide +kernel)
theorem sN_row_less : (Str.ofString "row" = Str.ofString "less") = False := eq_false (by decide +kernel)
theorem sN_row_same : (Str.ofString "row" = Str.ofString "same") = False := eq_false (by decide +kernel)
theorem sN_row_choose : (Str.ofString "row" = Str.ofString "choose") = False := eq_false (by decide +kernel)
theorem sN_row_alike : (Str.ofString "row" = Str.ofString "alike") = False := eq_false (by decide +kernel)
theorem sN_row_move : (Str.ofString "row" = Str.ofString "move") = False := eq_false (by decide +kernel)
theorem sN_row_word : (Str.ofString "row" = Str.ofString "word") = False := eq_false (by decide +kernel)
theorem sN_row_register : (Str.ofString "row" = Str.ofString "register") = False := eq_false (by decide +kernel)
theorem sN_row_P : (Str.ofString "row" = Str.ofString "P") = False := eq_false (by decide +kernel)
theorem sN_row_Q : (Str.ofString "row" = Str.ofString "Q") = False := eq_false (by decide +kernel)
theorem sN_row_numbers : (Str.ofString "row" = Str.ofString "numbers") = False := eq_false (by decide +kernel)
theorem sN_row_mixed : (Str.ofString "row" = Str.ofString "mixed") = False := eq_false (by decide +kernel)
theorem sN_row_choices : (Str.ofString "row" = Str.ofString "choices") = False := eq_false (by decide +kernel)
theorem sN_P_load : (Str.ofString "P" = Str.ofString "load") = False := eq_false (by decide +kernel)
theorem sN_P_set : (Str.ofString "P" = Str.ofString "set") = False := eq_false (by decide +kernel)
theorem sN_P_store : (Str.ofString "P" = Str.ofString "store") = False := eq_false (by decide +kernel)
theorem sN_P_add : (Str.ofString "P" = Str.ofString "add") = False := eq_false (by decide +kernel)
theorem sN_P_sub : (Str.ofString "P" = Str.ofString "sub") = False := eq_false (by decide +kernel)
theorem sN_P_mul : (Str.ofString "P" = Str.ofString "mul") = False := eq_false (by decide +kernel)
theorem sN_P_div : (Str.ofString "P" = Str.ofString "div") = False := eq_false (by decide +kernel)
theorem sN_P_mod : (Str.ofString "P" = Str.ofString "mod") = False := eq_false (by decide +kernel)
theorem sN_P_less : (Str.ofString "P" = Str.ofString "less") = False := eq_false (by decide +kernel)
theorem sN_P_same : (Str.ofString "P" = Str.ofString "same") = False := eq_false (by decide +kernel)
theorem sN_P_choose : (Str.ofString "P" = Str.ofString "choose") = False := eq_false (by decide +kernel)
theorem sN_P_alike : (Str.ofString "P" = Str.ofString "alike") = False := eq_false (by decide +kernel)
theorem sN_P_move : (Str.ofString "P" = Str.ofString "move") = False := eq_false (by decide +kernel)
theorem sN_P_word : (Str.ofString "P" = Str.ofString "word") = False := eq_false (by decide +kernel)
theorem sN_P_register : (Str.ofString "P" = Str.ofString "register") = False := eq_false (by decide +kernel)
theorem sN_P_row : (Str.ofString "P" = Str.ofString "row") = False := eq_false (by decide +kernel)
theorem sN_P_Q : (Str.ofString "P" = Str.ofString "Q") = False := eq_false (by decide +kernel)
theorem sN_P_numbers : (Str.ofString "P" = Str.ofString "numbers") = False := eq_false (by decide +kernel)
theorem sN_P_mixed : (Str.ofString "P" = Str.ofString "mixed") = False := eq_false (by decide +kernel)
theorem sN_P_choices : (Str.ofString "P" = Str.ofString "choices") = False := eq_false (by decide +kernel)
theorem sN_Q_load : (Str.ofString "Q" = Str.ofString "load") = False := eq_false (by decide +kernel)
theorem sN_Q_set : (Str.ofString "Q" = Str.ofString "set") = False := eq_false (by decide +kernel)
theorem sN_Q_store : (Str.ofString "Q" = Str.ofString "store") = False := eq_false (by decide +kernel)
theorem sN_Q_add : (Str.ofString "Q" = Str.ofString "add") = False := eq_false (by decide +kernel)
theorem sN_Q_sub : (Str.ofString "Q" = Str.ofString "sub") = False := eq_false (by decide +kernel)
theorem sN_Q_mul : (Str.ofString "Q" = Str.ofString "mul") = False := eq_false (by decide +kernel)
theorem sN_Q_div : (Str.ofString "Q" = Str.ofString "div") = False := eq_false (by decide +kernel)
theorem sN_Q_mod : (Str.ofString "Q" = Str.ofString "mod") = False := eq_false (by decide +kernel)
theorem sN_Q_less : (Str.ofString "Q" = Str.ofString "less") = False := eq_false (by decide +kernel)
theorem sN_Q_same : (Str.ofString "Q" = Str.ofString "same") = False := eq_false (by decide +kernel)
theorem sN_Q_choose : (Str.ofString "Q" = Str.ofString "choose") = False := eq_false (by decide +kernel)
theorem sN_Q_alike : (Str.ofString "Q" = Str.ofString "alike") = False := eq_false (by decide +kernel)
theorem sN_Q_move : (Str.ofString "Q" = Str.ofString "move") = False := eq_false (by decide +kernel)
theorem sN_Q_word : (Str.ofString "Q" = Str.ofString "word") = False := eq_false (by decide +kernel)
theorem sN_Q_register : (Str.ofString "Q" = Str.ofString "register") = False := eq_false (by decide +kernel)
theorem sN_Q_row : (Str.ofString "Q" = Str.ofString "row") = False := eq_false (by decide +kernel)
theorem sN_Q_P : (Str.ofString "Q" = Str.ofString "P") = False := eq_false (by decide +kernel)
theorem sN_Q_numbers : (Str.ofString "Q" = Str.ofString "numbers") = False := eq_false (by decide +kernel)
theorem sN_Q_mixed : (Str.ofString "Q" = Str.ofString "mixed") = False := eq_false (by decide +kernel)
theorem sN_Q_choices : (Str.ofString "Q" = Str.ofString "choices") = False := eq_false (by decide +kernel)
theorem sN_numbers_load : (Str.ofString "numbers" = Str.ofString "load") = False := eq_false (by decide +kernel)
theorem sN_numbers_set : (Str.ofString "numbers" = Str.ofString "set") = False := eq_false (by decide +kernel)
theorem sN_numbers_store : (Str.ofString "numbers" = Str.ofString "store") = False := eq_false (by decide +kernel)
theorem sN_numbers_add : (Str.ofString "numbers" = Str.ofString "add") = False := eq_false (by decide +kernel)
theorem sN_numbers_sub : (Str.ofString "numbers" = Str.ofString "sub") = False := eq_false (by decide +kernel)
theorem sN_numbers_mul : (Str.ofString "numbers" = Str.ofString "mul") = False := eq_false (by decide +kernel)
theorem sN_numbers_div : (Str.ofString "numbers" = Str.ofString "div") = False := eq_false (by decide +kernel)
theorem sN_numbers_mod : (Str.ofString "numbers" = Str.ofString "mod") = False := eq_false (by decide +kernel)
theorem sN_numbers_less : (Str.ofString "numbers" = Str.ofString "less") = False := eq_false (by decide +kernel)
theorem sN_numbers_same : (Str.ofString "numbers" = Str.ofString "same") = False := eq_false (by decide +kernel)
theorem sN_numbers_choose : (Str.ofString "numbers" = Str.ofString "choose") = False := eq_false (by decide +kernel)
theorem sN_numbers_alike : (Str.ofString "numbers" = Str.ofString "alike") = False := eq_false (by decide +kernel)
theorem sN_numbers_move : (Str.ofString "numbers" = Str.ofString "move") = False := eq_false (by decide +kernel)
theorem sN_numbers_word : (Str.ofString "numbers" = Str.ofString "word") = False := eq_false (by decide +kernel)
theorem sN_numbers_register : (Str.ofString "numbers" = Str.ofString "register") = False := eq_false (by decide +kernel)
theorem sN_numbers_row : (Str.ofString "numbers" = Str.ofString "row") = False := eq_false (by decide +kernel)
theorem sN_numbers_P : (Str.ofString "numbers" = Str.ofString "P") = False := eq_false (by decide +kernel)
theorem sN_numbers_Q : (Str.ofString "numbers" = Str.ofString "Q") = False := eq_false (by decide +kernel)
theorem sN_numbers_mixed : (Str.ofString "numbers" = Str.ofString "mixed") = False := eq_false (by decide +kernel)
theorem sN_numbers_choices : (Str.ofString "numbers" = Str.ofString "choices") = False := eq_false (by decide +kernel)
theorem sN_mixed_load : (Str.ofString "mixed" = Str.ofString "load") = False := eq_false (by decide +kernel)
theorem sN_mixed_set : (Str.ofString "mixed" = Str.ofString "set") = False := eq_false (by decide +kernel)
theorem sN_mixed_store : (Str.ofString "mixed" = Str.ofString "store") = False := eq_false (by decide +kernel)
theorem sN_mixed_add : (Str.ofString "mixed" = Str.ofString "add") = False := eq_false (by decide +kernel)
theorem sN_mixed_sub : (Str.ofString "mixed" = Str.ofString "sub") = False := eq_false (by decide +kernel)
theorem sN_mixed_mul : (Str.ofString "mixed" = Str.ofString "mul") = False := eq_false (by decide +kernel)
theorem sN_mixed_div : (Str.ofString "mixed" = Str.ofString "div") = False := eq_false (by decide +kernel)
theorem sN_mixed_mod : (Str.ofString "mixed" = Str.ofString "mod") = False := eq_false (by decide +kernel)
theorem sN_mixed_less : (Str.ofString "mixed" = Str.ofString "less") = False := eq_false (by decide +kernel)
theorem sN_mixed_same : (Str.ofString "mixed" = Str.ofString "same") = False := eq_false (by decide +kernel)
theorem sN_mixed_choose : (Str.ofString "mixed" = Str.ofString "choose") = False := eq_false (by decide +kernel)
theorem sN_mixed_alike : (Str.ofString "mixed" = Str.ofString "alike") = False := eq_false (by decide +kernel)
theorem sN_mixed_move : (Str.ofString "mixed" = Str.ofString "move") = False := eq_false (by decide +kernel)
theorem sN_mixed_word : (Str.ofString "mixed" = Str.ofString "word") = False := eq_false (by decide +kernel)
theorem sN_mixed_register : (Str.ofString "mixed" = Str.ofString "register") = False := eq_false (by decide +kernel)
theorem sN_mixed_row : (Str.ofString "mixed" = Str.ofString "row") = False := eq_false (by decide +kernel)
theorem sN_mixed_P : (Str.ofString "mixed" = Str.ofString "P") = False := eq_false (by decide +kernel)
theorem sN_mixed_Q : (Str.ofString "mixed" = Str.ofString "Q") = False := eq_false (by decide +kernel)
theorem sN_mixed_numbers : (Str.ofString "mixed" = Str.ofString "numbers") = False := eq_false (by decide +kernel)
theorem sN_mixed_choices : (Str.ofString "mixed" = Str.ofString "choices") = False := eq_false (by decide +kernel)
theorem sN_choices_load : (Str.ofString "choices" = Str.ofString "load") = False := eq_false (by decide +kernel)
theorem sN_choices_set : (Str.ofString "choices" = Str.ofString "set") = False := eq_false (by decide +kernel)
theorem sN_choices_store : (Str.ofString "choices" = Str.ofString "store") = False := eq_false (by decide +kernel)
theorem sN_choices_add : (Str.ofString "choices" = Str.ofString "add") = False := eq_false (by decide +kernel)
theorem sN_choices_sub : (Str.ofString "choices" = Str.ofString "sub") = False := eq_false (by decide +kernel)
theorem sN_choices_mul : (Str.ofString "choices" = Str.ofString "mul") = False := eq_false (by decide +kernel)
theorem sN_choices_div : (Str.ofString "choices" = Str.ofString "div") = False := eq_false (by decide +kernel)
theorem sN_choices_mod : (Str.ofString "choices" = Str.ofString "mod") = False := eq_false (by decide +kernel)
theorem sN_choices_less : (Str.ofString "choices" = Str.ofString "less") = False := eq_false (by decide +kernel)
theorem sN_choices_same : (Str.ofString "choices" = Str.ofString "same") = False := eq_false (by decide +kernel)
theorem sN_choices_choose : (Str.ofString "choices" = Str.ofString "choose") = False := eq_false (by decide +kernel)
theorem sN_choices_alike : (Str.ofString "choices" = Str.ofString "alike") = False := eq_false (by decide +kernel)
theorem sN_choices_move : (Str.ofString "choices" = Str.ofString "move") = False := eq_false (by decide +kernel)
theorem sN_choices_word : (Str.ofString "choices" = Str.ofString "word") = False := eq_false (by decide +kernel)
theorem sN_choices_register : (Str.ofString "choices" = Str.ofString "register") = False := eq_false (by decide +kernel)
theorem sN_choices_row : (Str.ofString "choices" = Str.ofString "row") = False := eq_false (by decide +kernel)
theorem sN_choices_P : (Str.ofString "choices" = Str.ofString "P") = False := eq_false (by decide +kernel)
theorem sN_choices_Q : (Str.ofString "choices" = Str.ofString "Q") = False := eq_false (by decide +kernel)
theorem sN_choices_numbers : (Str.ofString "choices" = Str.ofString "numbers") = False := eq_false (by decide +kernel)
theorem sN_choices_mixed : (Str.ofString "choices" = Str.ofString "mixed") = False := eq_false (by decide +kernel)
/-- all but S stands still, tuples always -/
structure Keep (S : List Addr) (H H' : Hp) : Prop where
  t : ∀ p xs, H p = some (.tup xs) → H' p = some (.tup xs)
  o : ∀ p o, H p = some o → p ∉ S → H' p = some o
theorem Keep.refl (S : List Addr) (H : Hp) : Keep S H H := ⟨fun _ _ h => h, fun _ _ h _ => h⟩
theorem Keep.trans {S : List Addr} {H H1 H2 : Hp} (a : Keep S H H1) (b : Keep S H1 H2) : Keep S H H2 := ⟨fun _ _ h => b.t _ _ (a.t _ _ h), fun _ _ h n => b.o _ _ (a.o _ _ h n) n⟩
theorem Keep.mono {S S' : List Addr} {H H' : Hp} (a : Keep S H H') (h : ∀ p, p ∈ S → p ∈ S') : Keep S' H H' := ⟨a.t, fun _ _ e n => a.o _ _ e fun q => n (h _ q)⟩
theorem Keep.nil {S : List Addr} {H H' : Hp} (a : Keep [] H H') : Keep S H H' := a.mono fun _ h => nomatch h
theorem Keep.free {H H' : Hp} (a : Keep [] H H') {p : Addr} (h : H' p = none) : H p = none := by
  cases e : H p with
  | none => rfl
  | some o => rw [a.o _ _ e (by simp)] at h; cases h
/-- a new object -/
theorem Keep.new {S : List Addr} {H : Hp} {p : Addr} {o : HO} (h : H p = none) : Keep S H (upd H p o) := ⟨fun q xs e => by rw [upd_ne (ne_of_none e h)]; exact e, fun q u e _ => by rw [upd_ne (ne_of_none e h)]; exact e⟩
/-- a new object, changed since -/
theorem Keep.over {S : List Addr} {H H1 : Hp} {p : Addr} {o : HO} (k : Keep S H H1) (h : H p = none) : Keep S H (upd H1 p o) := ⟨fun q xs e => by rw [upd_ne (ne_of_none e h)]; exact k.t _ _ e, fun q u e n => by rw [upd_ne (ne_of_none e h)]; exact k.o _ _ e n⟩
/-- what is new was changed -/
theorem Keep.fresh {S : List Addr} {H H1 H2 : Hp} (a : Keep [] H H1) (b : Keep S H1 H2) (h : ∀ p, p ∈ S → H p = none) : Keep [] H H2 := ⟨fun _ _ e => b.t _ _ (a.t _ _ e), fun p o e _ => b.o _ _ (a.o _ _ e (by simp)) fun m => by rw [h p m] at e; cases e⟩
def tupO : HO → Bool
  | .tup _ => true
  | _ => false
/-- one of S is changed -/
theorem Keep.at {S : List Addr} {H : Hp} {p : Addr} {o u : HO} (h : H p = some o) (ht : tupO o = false) (m : p ∈ S) : Keep S H (upd H p u) := ⟨fun q xs e => by rw [upd_ne (ne_of e h (by intro z; subst z; cases ht))]; exact e, fun q v e n => by rw [upd_ne (fun z => n (by rw [z]; exact m))]; exact e⟩
/-- an object's address and its thing, item by item -/
inductive Each {α : Type} (P : Addr → α → Prop) : List V → List α → Prop
  | nil : Each P [] []
  | cons {a : Addr} {x : α} {vs : List V} {xs : List α} (h : P a x) (t : Each P vs xs) : Each P (.ref a :: vs) (x :: xs)
section
variable {α β : Type} {P Q : Addr → α → Prop}
theorem Each.len {vs : List V} {xs : List α} (h : Each P vs xs) : vs.length = xs.length := by
  induction h with
  | nil => rfl
  | cons h t ih => simp [ih]
theorem Each.mono (hpq : ∀ a x, P a x → Q a x) {vs : List V} {xs : List α} (h : Each P vs xs) : Each Q vs xs := by
  induction h with
  | nil => exact .nil
  | cons h t ih => exact .cons (hpq _ _ h) ih
theorem Each.append {vs us : List V} {xs ys : List α} (h : Each P vs xs) (k : Each P us ys) : Each P (vs ++ us) (xs ++ ys) := by
  induction h with
  | nil => exact k
  | cons h t ih => exact .cons h ih
theorem Each.one {a : Addr} {x : α} (h : P a x) : Each P [.ref a] [x] := .cons h .nil
theorem Each.get {vs : List V} {xs : List α} (h : Each P vs xs) {i : Nat} {v : V} (e : vs[i]? = some v) : ∃ a x, v = .ref a ∧ xs[i]? = some x ∧ P a x := by
  induction h generalizing i with
  | nil => simp at e
  | cons h t ih =>
    cases i with
    | zero => simp at e; exact ⟨_, _, e.symm, rfl, h⟩
    | succ i => simp at e; obtain ⟨a, x, h1, h2, h3⟩ := ih e; exact ⟨a, x, h1, by simpa using h2, h3⟩
theorem Each.get' {vs : List V} {xs : List α} (h : Each P vs xs) {i : Nat} {x : α} (e : xs[i]? = some x) : ∃ a, vs[i]? = some (.ref a) ∧ P a x := by
  induction h generalizing i with
  | nil => simp at e
  | cons h t ih =>
    cases i with
    | zero => simp at e; subst e; exact ⟨_, rfl, h⟩
    | succ i => simp at e; obtain ⟨a, h1, h2⟩ := ih e; exact ⟨a, by simpa using h1, h2⟩
theorem Each.set {vs : List V} {xs : List α} (h : Each P vs xs) (i : Nat) {a : Addr} {x : α} (p : P a x) : Each P (vs.set i (.ref a)) (xs.set i x) := by
  induction h generalizing i with
  | nil => exact .nil
  | cons h t ih =>
    cases i with
    | zero => exact .cons p t
    | succ i => exact .cons h (ih i)
theorem Each.map {f : β → α} {vs : List V} {ys : List β} (h : Each (fun a y => P a (f y)) vs ys) : Each P vs (ys.map f) := by
  induction h with
  | nil => exact .nil
  | cons h t ih => exact .cons h ih
end
def opS : Sk.Op → Str
  | .add => "add"
  | .sub => "sub"
  | .mul => "mul"
  | .div => "div"
  | .mod => "mod"
  | .less => "less"
  | .same => "same"
def rowV : Sk.Rw → List V
  | .set r v => [.str "set", .int r, .int v]
  | .load r a => [.str "load", .int r, .int a]
  | .store r a => [.str "store", .int r, .int a]
  | .op o r s t => [.str (opS o), .int r, .int s, .int t]
  | .choose r s t u => [.str "choose", .int r, .int s, .int t, .int u]
  | .alike r a b m => [.str "alike", .int r, .int a, .int b, .int m]
  | .move r a b m => [.str "move", .int r, .int a, .int b, .int m]
def RowA (H : Hp) (p : Addr) (r : Sk.Rw) : Prop := H p = some (.tup (rowV r))
def RowsT (H : Hp) (p : Addr) (rs : List Sk.Rw) : Prop := ∃ vs, H p = some (.tup vs) ∧ Each (RowA H) vs rs
def RowsL (H : Hp) (p : Addr) (rs : List Sk.Rw) : Prop := ∃ vs, H p = some (.lst vs) ∧ Each (RowA H) vs rs
abbrev Rec := List Sk.Rw × Nat
def RecA (H : Hp) (p : Addr) (r : Rec) : Prop := ∃ q, H p = some (.tup [.ref q, .int r.2]) ∧ RowsT H q r.1
def RecsA (H : Hp) (p : Addr) (rs : List Rec) : Prop := ∃ vs, H p = some (.tup vs) ∧ Each (RecA H) vs rs
def StA (H : Hp) (p : Addr) (st : List Int) : Prop := H p = some (.tup (st.map V.int))
def StsA (H : Hp) (p : Addr) (sts : List (List Int)) : Prop := ∃ vs, H p = some (.lst vs) ∧ Each (StA H) vs sts
section
variable {S : List Addr} {H H' : Hp} {p : Addr}
theorem RowA.keep {r : Sk.Rw} (h : RowA H p r) (k : Keep S H H') : RowA H' p r := k.t _ _ h
theorem RowsT.keep {r : List Sk.Rw} (h : RowsT H p r) (k : Keep S H H') : RowsT H' p r := by
  obtain ⟨vs, h1, h2⟩ := h
  exact ⟨vs, k.t _ _ h1, h2.mono fun _ _ e => RowA.keep e k⟩
theorem RecA.keep {r : Rec} (h : RecA H p r) (k : Keep S H H') : RecA H' p r := by
  obtain ⟨q, h1, h2⟩ := h
  exact ⟨q, k.t _ _ h1, h2.keep k⟩
theorem RecsA.keep {r : List Rec} (h : RecsA H p r) (k : Keep S H H') : RecsA H' p r := by
  obtain ⟨vs, h1, h2⟩ := h
  exact ⟨vs, k.t _ _ h1, h2.mono fun _ _ e => RecA.keep e k⟩
theorem StA.keep {r : List Int} (h : StA H p r) (k : Keep S H H') : StA H' p r := k.t _ _ h
theorem StsA.keep {r : List (List Int)} (h : StsA H p r) (k : Keep S H H') (n : p ∉ S) : StsA H' p r := by
  obtain ⟨vs, h1, h2⟩ := h
  exact ⟨vs, k.o _ _ h1 n, h2.mono fun _ _ e => StA.keep e k⟩
theorem RowsL.keep {r : List Sk.Rw} (h : RowsL H p r) (k : Keep S H H') (n : p ∉ S) : RowsL H' p r := by
  obtain ⟨vs, h1, h2⟩ := h
  exact ⟨vs, k.o _ _ h1 n, h2.mono fun _ _ e => RowA.keep e k⟩
end
/-- the deck: its dict at d, its list at q; m draws are left -/
def DeckA (H : Hp) (d q : Addr) (m : Nat) : Prop := ∃ (c x : Int) (ns : List Int), H d = some (.dK [(Sum.inr "numbers", .ref q), (Sum.inr "mixed", .int x), (Sum.inr "choices", .int c)]) ∧ H q = some (.lst (ns.map V.int)) ∧ ns.length ≤ 63 ∧ 0 ≤ c ∧ c + m ≤ 1152921504606846976
theorem DeckA.less {H : Hp} {d q : Addr} {m m' : Nat} (h : DeckA H d q m) (l : m' ≤ m) : DeckA H d q m' := by
  obtain ⟨c, x, ns, h1, h2, h3, h4, h5⟩ := h
  exact ⟨c, x, ns, h1, h2, h3, h4, by omega⟩
theorem DeckA.keep {H H' : Hp} {S : List Addr} {d q : Addr} {m : Nat} (h : DeckA H d q m) (k : Keep S H H') (n1 : d ∉ S) (n2 : q ∉ S) : DeckA H' d q m := by
  obtain ⟨c, x, ns, h1, h2, h3⟩ := h
  exact ⟨c, x, ns, k.o _ _ h1 n1, k.o _ _ h2 n2, h3⟩
/-! pure promises -/
def spInt : Sp := fun vs H Q _ => ∃ i, vs = [V.int i] ∧ Q (.bl true) H
def spWord : Sp := fun vs H Q _ => ∃ i : Int, vs = [V.int i] ∧ Q (.bl (decide (0 ≤ i ∧ i ≤ 999999))) H
def spIdx : Sp := fun vs H Q _ => ∃ i j : Int, vs = [V.int i, V.int j] ∧ Q (.bl (decide (0 ≤ i ∧ i < j))) H
def spReg : Sp := fun vs H Q _ => ∃ i : Int, vs = [V.int i] ∧ Q (.bl (decide (0 ≤ i ∧ i < 24))) H
def spNum : Sp := fun vs H Q _ => ∃ i j k : Int, vs = [V.int i, V.int j, V.int k] ∧ Q (.bl (decide (j ≤ i ∧ i ≤ k))) H
def spOpv : Sp := fun vs H Q _ => ∃ (o : Sk.Op) (i j : Int), vs = [V.str (opS o), V.int i, V.int j] ∧ 0 ≤ i ∧ i < 1000000 ∧ 0 ≤ j ∧ j < 1000000 ∧ Q (.int (Sk.opv o i j)) H
end Wk
end

section
set_option Elab.async false
set_option linter.all false
set_option maxRecDepth 100000
set_option maxHeartbeats 4000000
/-! the walk: numbers -/
namespace Wk
open PySem PySem.Spec PyProof.Rows L2
local macro_rules | `(tactic| trivial) => `(tactic| try simp only [spInt, spWord, spIdx, spNum, spReg, isi_ii, isi_ib, isi_ss, eq_ii, ne_ii, eq_ss, ne_ss, cxK, wipe, rLenS, rSlL, rSlT, tRevL, tDisp, tPairs, rCat, rRep, rExtend, rAdd, rSub, rSetD, rPop, rAppend, rIxL, rIxT, rSetL, tVar, tC, t2I, tB, tAnd, tOr, tNot, tAndV, tOrV, tNotV, tIf, tNext, tSeq, tDrop, tRet, tRetN, tIfS, tNever, tAsg, tPar, tOp, tUn, rI, rI0, rU, tTest, tChain, tFld, tCon, tNil, tCons, tTup, tLst, tCall, tMeth, tProp, tCB, tSl, tNoPart, tPart, tBM, tBM0, gName, gTup, gNil, gCons, gSub, sFld, L2.start, tDGet, tDIn, tDNotIn, tDNewK, tDNewT, sDPut, tDGet2, and_assoc, exists_and_left, exists_and_right, exists_eq_left', exists_eq_left, exists_eq_right, exists_eq', V.int.injEq, V.str.injEq, V.bl.injEq, V.ref.injEq, List.cons.injEq, and_true, true_and, List.append_nil, List.map_cons, List.map_nil, List.length_cons, List.length_nil, List.cons_append, List.nil_append, Nat.reduceAdd, Nat.reduceSub, List.reduceReplicate, List.getElem?_cons_succ, List.getElem?_cons_zero, List.set_cons_succ, List.set_cons_zero, Option.some.injEq, if_true, Bool.false_eq_true, if_false, decide_eq_true_eq, Bool.not_true, Bool.not_false, Bool.not_eq_true', decide_eq_false_iff_not, decide_true, decide_false, Bool.true_and, Bool.and_true, Bool.false_and, Int.reduceEq, Int.reduceLT, Int.reduceLE, Int.reduceNeg, reduceCtorEq, not_false_eq_true, not_true_eq_false])
theorem fm6 (a : Int) : a.fmod 1000000 = a % 1000000 := Int.fmod_eq_emod_of_nonneg a (by decide)
theorem fmn {y : Int} (h : 0 ≤ y) (a : Int) : a.fmod y = a % y := Int.fmod_eq_emod_of_nonneg a h
theorem fd6 {y : Int} (h : 0 ≤ y) (a : Int) : a.fdiv y = a / y := Int.fdiv_eq_ediv_of_nonneg a h
section
variable {P : Program} {w : World} {K : PySem.W.Frag} {mg : Str → Option Value} {base : Heap}
theorem D_is_integer (F : Fx K mg) : Dn P w K mg base 1 "is_integer" ["thing"] spInt := by
  refine dn_mk F.f_is_integer F.g_is_integer sc_is_integer (fun _ _ _ _ _ _ us hl => match us, hl with | [_], _ => rfl) (by rintro vs H Q E ⟨i, rfl, _⟩; rfl) ?_
  rintro cdv A outer s H vs Q E hr ⟨i, rfl, h⟩
  refine ⟨_, (pss_one (ps_ret (pe_and (pe_callB call_isi (by rfl) F.b_isinstance bt_isi (pa_cons (pv 0) (pa_cons (sk_ty F.b_int bt_int) pa_nil))) (pe_one (pe_not (pe_callB call_isi (by rfl) F.b_isinstance bt_isi (pa_cons (pv 0) (pa_cons (sk_ty F.b_bool bt_bool) pa_nil)))))))), ?_⟩
  trivial
  exact h
theorem D_is_word (F : Fx K mg) : Dn P w K mg base 2 "is_word" ["thing"] spWord := by
  refine dn_mk F.f_is_word F.g_is_word sc_is_word (fun _ _ _ _ _ _ us hl => match us, hl with | [_], _ => rfl) (by rintro vs H Q E ⟨i, rfl, _⟩; rfl) ?_
  rintro cdv A outer s H vs Q E hr ⟨i, rfl, h⟩
  refine ⟨_, (pss_one (ps_ret (pe_and (sk_call (D_is_integer F) hr (pa_cons (pv 0) pa_nil)) (pe_one (pe_chain op_le op_le pe_int (pv 0) (sk_gi F.i_GREATEST_WORD)))))), ?_⟩
  trivial
  split <;> rename_i q
  · simpa only [q, true_and] using h
  · simpa only [q, false_and, decide_false] using h
theorem D_is_index (F : Fx K mg) : Dn P w K mg base 1 "is_index" ["value", "count"] spIdx := by
  refine dn_mk F.f_is_index F.g_is_index sc_is_index (fun _ _ _ _ _ _ us hl => match us, hl with | [_, _], _ => rfl) (by rintro vs H Q E ⟨i, j, rfl, _⟩; rfl) ?_
  rintro cdv A outer s H vs Q E hr ⟨i, j, rfl, h⟩
  refine ⟨_, (pss_one (ps_ret (pe_and (pe_callB call_isi (by rfl) F.b_isinstance bt_isi (pa_cons (pv 0) (pa_cons (sk_ty F.b_int bt_int) pa_nil))) (pe_and (pe_not (pe_callB call_isi (by rfl) F.b_isinstance bt_isi (pa_cons (pv 0) (pa_cons (sk_ty F.b_bool bt_bool) pa_nil)))) (pe_one (pe_chain op_le op_lt pe_int (pv 0) (pv 1))))))), ?_⟩
  trivial
  split <;> rename_i q
  · simpa only [q, true_and] using h
  · simpa only [q, false_and, decide_false] using h
theorem D_is_number (F : Fx K mg) : Dn P w K mg base 1 "is_number" ["value", "least", "most"] spNum := by
  refine dn_mk F.f_is_number F.g_is_number sc_is_number (fun _ _ _ _ _ _ us hl => match us, hl with | [_, _, _], _ => rfl) (by rintro vs H Q E ⟨i, j, k, rfl, _⟩; rfl) ?_
  rintro cdv A outer s H vs Q E hr ⟨i, j, k, rfl, h⟩
  refine ⟨_, (pss_one (ps_ret (pe_and (pe_callB call_isi (by rfl) F.b_isinstance bt_isi (pa_cons (pv 0) (pa_cons (sk_ty F.b_int bt_int) pa_nil))) (pe_and (pe_not (pe_callB call_isi (by rfl) F.b_isinstance bt_isi (pa_cons (pv 0) (pa_cons (sk_ty F.b_bool bt_bool) pa_nil)))) (pe_one (pe_chain op_le op_le (pv 1) (pv 0) (pv 2))))))), ?_⟩
  trivial
  split <;> rename_i q
  · simpa only [q, true_and] using h
  · simpa only [q, false_and, decide_false] using h
theorem D_is_number_below (F : Fx K mg) : Dn P w K mg base 2 "is_number_below" ["thing", "bound"] spIdx := by
  refine dn_mk F.f_is_number_below F.g_is_number_below sc_is_number_below (fun _ _ _ _ _ _ us hl => match us, hl with | [_, _], _ => rfl) (by rintro vs H Q E ⟨i, j, rfl, _⟩; rfl) ?_
  rintro cdv A outer s H vs Q E hr ⟨i, j, rfl, h⟩
  refine ⟨_, (pss_one (ps_ret (pe_and (sk_call (D_is_integer F) hr (pa_cons (pv 0) pa_nil)) (pe_one (pe_chain op_le op_lt pe_int (pv 0) (pv 1)))))), ?_⟩
  trivial
  split <;> rename_i q
  · simpa only [q, true_and] using h
  · simpa only [q, false_and, decide_false] using h
theorem D_is_register (F : Fx K mg) : Dn P w K mg base 3 "is_register" ["thing"] spReg := by
  refine dn_mk F.f_is_register F.g_is_register sc_is_register (fun _ _ _ _ _ _ us hl => match us, hl with | [_], _ => rfl) (by rintro vs H Q E ⟨i, rfl, _⟩; rfl) ?_
  rintro cdv A outer s H vs Q E hr ⟨i, rfl, h⟩
  refine ⟨_, (pss_one (ps_ret (sk_call (D_is_number_below F) hr (pa_cons (pv 0) (pa_cons (sk_gi F.i_RECIPE_REGISTERS) pa_nil))))), ?_⟩
  trivial
  exact h
theorem D_operator_value (F : Fx K mg) : Dn P w K mg base 1 "operator_value" ["operator", "one", "other"] spOpv := by
  refine dn_mk F.f_operator_value F.g_operator_value sc_operator_value (fun _ _ _ _ _ _ us hl => match us, hl with | [_, _, _], _ => rfl) (by rintro vs H Q E ⟨i, j, k, rfl, _⟩; rfl) ?_
  rintro cdv A outer s H vs Q E hr ⟨o, x, y, rfl, x1, x2, y1, y2, h⟩
  refine ⟨_, (pss_cons (ps_if (pt_cmpR op_eq (pv 0) pe_str (nomark _)) (pss_one (ps_ret (pe_op op_modN (pe_op op_add (pv 1) (pv 2)) (sk_gi F.i_SIZE_OF_WORDS)))) pss_nil)
    (pss_cons (ps_if (pt_cmpR op_eq (pv 0) pe_str (nomark _)) (pss_one (ps_ret (pe_op op_modN (pe_op op_sub (pv 1) (pv 2)) (sk_gi F.i_SIZE_OF_WORDS)))) pss_nil)
    (pss_cons (ps_if (pt_cmpR op_eq (pv 0) pe_str (nomark _)) (pss_one (ps_ret (pe_op op_modN (pe_op op_mul (pv 1) (pv 2)) (sk_gi F.i_SIZE_OF_WORDS)))) pss_nil)
    (pss_cons (ps_if (pt_cmpR op_eq (pv 0) pe_str (nomark _)) (pss_one (ps_ret (pe_callTy call_int1 (by rfl) F.b_int bt_int (pa_cons (pe_cmpR op_lt (pv 1) (pv 2) (nomark _)) pa_nil)))) pss_nil)
    (pss_cons (ps_if (pt_cmpR op_eq (pv 0) pe_str (nomark _)) (pss_one (ps_ret (pe_callTy call_int1 (by rfl) F.b_int bt_int (pa_cons (pe_cmpR op_eq (pv 1) (pv 2) (nomark _)) pa_nil)))) pss_nil)
    (pss_cons (ps_if (pt_cmpR op_eq (pv 2) pe_int (nomark _)) (pss_one (ps_ret pe_int)) pss_nil)
    (pss_one (ps_ret (pe_ifExp (pt_cmpR op_eq (pv 0) pe_str (nomark _)) (pe_op op_fdivN (pv 1) (pv 2)) (pe_op op_modN (pv 1) (pv 2))))))))))), ?_⟩
  cases o <;> trivial <;> simp only [opS, sN_sub_add, sN_mul_add, sN_mul_sub, sN_less_add, sN_less_sub, sN_less_mul, sN_same_add, sN_same_sub, sN_same_mul, sN_same_less, sN_div_add, sN_div_sub, sN_div_mul, sN_div_less, sN_div_same, sN_mod_add, sN_mod_sub, sN_mod_mul, sN_mod_less, sN_mod_same, sN_mod_div, if_true, if_false]
  · exact ⟨by decide, by rw [fm6]; exact h⟩
  · exact ⟨by decide, by rw [fm6]; exact h⟩
  · refine ⟨.inl ⟨by omega, by omega⟩, by decide, by rw [fm6]; exact h⟩
  · split <;> rename_i q
    · simpa only [Sk.opv, q, if_true] using h
    · refine ⟨⟨q, by omega⟩, ?_⟩
      rw [fd6 y1]
      simpa only [Sk.opv, q, if_false] using h
  · split <;> rename_i q
    · simpa only [Sk.opv, q, if_true] using h
    · refine ⟨q, ?_⟩
      rw [fmn y1]
      simpa only [Sk.opv, q, if_false] using h
  · exact .inr h
  · exact .inr h
end
end Wk
end

section
set_option Elab.async false
set_option linter.all false
set_option maxRecDepth 100000
set_option maxHeartbeats 4000000
/-! the walk: the deck -/
namespace Wk
open PySem PySem.Spec PyProof.Rows L2
local macro_rules | `(tactic| trivial) => `(tactic| try simp only [spInt, spWord, spIdx, spNum, spReg, isi_ii, isi_ib, isi_ss, eq_ii, ne_ii, eq_ss, ne_ss, cxK, wipe, rLenS, rSlL, rSlT, tRevL, tDisp, tPairs, rCat, rRep, rExtend, rAdd, rSub, rSetD, rPop, rAppend, rIxL, rIxT, rSetL, tVar, tC, t2I, tB, tAnd, tOr, tNot, tAndV, tOrV, tNotV, tIf, tNext, tSeq, tDrop, tRet, tRetN, tIfS, tNever, tAsg, tPar, tOp, tUn, rI, rI0, rU, tTest, tChain, tFld, tCon, tNil, tCons, tTup, tLst, tCall, tMeth, tProp, tCB, tSl, tNoPart, tPart, tBM, tBM0, gName, gTup, gNil, gCons, gSub, sFld, L2.start, tDGet, tDIn, tDNotIn, tDNewK, tDNewT, sDPut, tDGet2, and_assoc, exists_and_left, exists_and_right, exists_eq_left', exists_eq_left, exists_eq_right, exists_eq', V.int.injEq, V.str.injEq, V.bl.injEq, V.ref.injEq, List.cons.injEq, and_true, true_and, List.append_nil, List.map_cons, List.map_nil, List.length_cons, List.length_nil, List.cons_append, List.nil_append, Nat.reduceAdd, Nat.reduceSub, List.reduceReplicate, List.getElem?_cons_succ, List.getElem?_cons_zero, List.set_cons_succ, List.set_cons_zero, Option.some.injEq, if_true, Bool.false_eq_true, if_false, decide_eq_true_eq, Bool.not_true, Bool.not_false, Bool.not_eq_true', decide_eq_false_iff_not, decide_true, decide_false, Bool.true_and, Bool.and_true, Bool.false_and, Int.reduceEq, Int.reduceLT, Int.reduceLE, Int.reduceNeg, reduceCtorEq, not_false_eq_true, not_true_eq_false])
def dkv (q : Addr) (x c : Int) : List (Key × V) := [(Sum.inr "numbers", .ref q), (Sum.inr "mixed", .int x), (Sum.inr "choices", .int c)]
theorem dkv_n (q : Addr) (x c : Int) : valV (dkv q x c) (Sum.inr "numbers") = some (.ref q) := by simp [valV, dkv, List.find?]
theorem dkv_m (q : Addr) (x c : Int) : valV (dkv q x c) (Sum.inr "mixed") = some (.int x) := by simp [valV, dkv, List.find?, sN_numbers_mixed]
theorem dkv_c (q : Addr) (x c : Int) : valV (dkv q x c) (Sum.inr "choices") = some (.int c) := by simp [valV, dkv, List.find?, sN_numbers_choices, sN_mixed_choices]
theorem dkv_p (q : Addr) (x c z : Int) : putK (dkv q x c) (Sum.inr "choices") (.int z) = dkv q x z := by simp [putK, dkv, sN_numbers_choices, sN_mixed_choices]
theorem dkv_merge (q : Addr) (x c : Int) : mergeK [] (dkv q x c) = dkv q x c := by simp [mergeK, dkv, putK, sN_numbers_choices, sN_mixed_choices, sN_numbers_mixed]
theorem dget_n {H : Hp} {d q : Addr} {x c : Int} (h : H d = some (.dK (dkv q x c))) : DGet H d (.str "numbers") (some (.ref q)) := by
  have := DGet.k (k := Sum.inr "numbers") h
  rw [dkv_n] at this
  exact this
theorem dget_m {H : Hp} {d q : Addr} {x c : Int} (h : H d = some (.dK (dkv q x c))) : DGet H d (.str "mixed") (some (.int x)) := by
  have := DGet.k (k := Sum.inr "mixed") h
  rw [dkv_m] at this
  exact this
theorem dget_c {H : Hp} {d q : Addr} {x c : Int} (h : H d = some (.dK (dkv q x c))) : DGet H d (.str "choices") (some (.int c)) := by
  have := DGet.k (k := Sum.inr "choices") h
  rw [dkv_c] at this
  exact this
theorem dput_c {H : Hp} {d q : Addr} {x c z : Int} (h : H d = some (.dK (dkv q x c))) : DPut H d (.str "choices") (.int z) (upd H d (.dK (dkv q x z))) := by
  have := DPut.k (k := Sum.inr "choices") (v := .int z) h (by show 3 < sizeLine; decide)
  rw [dkv_p] at this
  exact this
theorem dp_ints {K : PySem.W.Frag} {H : Hp} : ∀ ns : List Int, DpAll K H (ns.map V.int) (ns.map PyData.int)
  | [] => .nil
  | n :: ns => .cons (.int n) (dp_ints ns)
theorem sh_ints : ∀ ns : List Int, SeqAt.shaped (.list (ns.map PyData.int)) = true := fun ns => PySem.W.shaped_ints ns
theorem fmB (a : Int) {b : Int} (h : 0 < b) : 0 ≤ a.fmod b ∧ a.fmod b < b := by
  rw [Int.fmod_eq_emod_of_nonneg a (Int.le_of_lt h)]
  exact ⟨Int.emod_nonneg a (by omega), Int.emod_lt_of_pos a h⟩
theorem eqv_nil (ns : List Int) : PyData.eqv (.list (ns.map PyData.int)) (.list []) = ns.isEmpty := by
  cases ns <;> rfl
theorem ne_of_none' {H : Hp} {a b : Addr} {o : HO} (h : H a = none) (h' : H b = some o) : a ≠ b := fun e => by rw [e, h'] at h; cases h
theorem iteT' {c A B : Prop} [Decidable c] (h : c) (a : A) : if c then A else B := by rw [if_pos h]; exact a
theorem iteF' {c A B : Prop} [Decidable c] (h : ¬ c) (b : B) : if c then A else B := by rw [if_neg h]; exact b
def spDraw : Sp := fun vs H Q _ => ∃ (d q : Addr) (m : Nat) (lim : Int), vs = [V.ref d, V.int lim] ∧ DeckA H d q (m + 1) ∧ 1 ≤ lim ∧ lim < 1073741824 ∧ ∀ (n : Int) (H' : Hp), 0 ≤ n → n < lim → DeckA H' d q m → Keep [d, q] H H' → Q (.int n) H'
section
variable {P : Program} {w : World} {K : PySem.W.Frag} {mg : Str → Option Value} {base : Heap}
theorem D__law_draw (F : Fx K mg) : Dn P w K mg base 1 "_law_draw" ["_law_deck_here", "_law_limit"] spDraw := by
  refine dn_mk F.f__law_draw F.g__law_draw sc__law_draw (fun _ _ _ _ _ _ us hl => match us, hl with | [_, _], _ => rfl) (by rintro vs H Q E ⟨d, q, m, lim, rfl, _⟩; rfl) ?_
  rintro cdv A outer s H vs Q E hr ⟨d, q, m, lim, rfl, ⟨c, x, ns, hd, hq, hn, c0, cm⟩, l1, l2, h⟩
  refine ⟨_, (pss_cons (ps_set (i := 2) sc__law_draw.nd rfl (by first | exact .inl rfl | exact .inr rfl) (pe_op op_add (pe_dget (hu_of hr) (pv 0) pe_str (fun _ _ => rfl)) pe_int))
    (pss_cons (ps_asg (pe_tup (pa_cons (pv 2) (pa_cons (pe_dget (hu_of hr) (pv 0) pe_str (fun _ _ => rfl)) pa_nil))) (pg_tup (by rfl) (pgs_cons (pg_sub (pv 0) pe_str (set_dict (hu_of hr))) (pgs_cons (pg_name (i := 3) sc__law_draw.nd rfl (by first | exact .inl rfl | exact .inr rfl)) pgs_nil))))
    (pss_cons (ps_if (pt_cmpR (op_neD hr.units) (pe_dget (hu_of hr) (pv 0) pe_str (fun _ _ => rfl)) (pe_lst pa_nil) (nomark _)) (pss_cons (ps_set (i := 3) sc__law_draw.nd rfl (by first | exact .inl rfl | exact .inr rfl) (pe_bm0 PySem.F.plainAttrs_list PySem.F.slot_list_pop PySem.F.type_list_pop mt_pop (pe_dget (hu_of hr) (pv 0) pe_str (fun _ _ => rfl))))
    (pss_cons (ps_if (pt_cmpR op_ge (pv 3) (pe_op op_pow pe_int pe_int) (nomark _)) (pss_cons (ps_expr (pe_bm PySem.F.plainAttrs_list PySem.F.slot_list_append PySem.F.type_list_append mt_append (pe_dget (hu_of hr) (pv 0) pe_str (fun _ _ => rfl)) (pa_cons (pe_op op_fdivN (pv 3) (pv 1)) pa_nil)))
    (pss_one (ps_ret (pe_op op_modN (pv 3) (pv 1))))) pss_nil)
    (pss_one (ps_set (i := 3) sc__law_draw.nd rfl (by first | exact .inl rfl | exact .inr rfl) (pe_op op_add (pv 3) (pe_dget (hu_of hr) (pv 0) pe_str (fun _ _ => rfl))))))) pss_nil)
    (pss_cons (ps_set (i := 3) sc__law_draw.nd rfl (by first | exact .inl rfl | exact .inr rfl) (pe_op op_modN (pe_op op_mul (pe_op op_add (pe_op op_add (pe_op op_modN (pv 3) pe_int) (pe_op op_mul (pe_op op_mul pe_int (pv 2)) (pv 2))) pe_int) pe_int) pe_int))
    (pss_cons (ps_set (i := 3) sc__law_draw.nd rfl (by first | exact .inl rfl | exact .inr rfl) (pe_op op_modN (pe_op op_add (pe_op op_add (pe_op op_mul (pv 3) (pv 3)) (pe_op op_mul pe_int (pv 2))) pe_int) pe_int))
    (pss_one (ps_ret (pe_op op_modN (pe_op op_fdivN (pe_op op_modN (pe_op op_mul (pv 3) pe_int) pe_int) pe_int) (pv 1))))))))), ?_⟩
  trivial
  have nd : d ≠ q := ne_of hd hq (by intro z; cases z)
  refine ⟨_, dget_c hd, c, rfl, _, dget_m hd, by decide, fun p hp => ?_⟩
  have dp : d ≠ p := ne_of_none hd hp
  have qp : q ≠ p := ne_of_none hq hp
  refine ⟨_, SqT.of upd_same, rfl, _, _, rfl, _, dput_c (by rw [upd_ne dp]; exact hd), _, _, rfl, rfl, ?_⟩
  have H3d : ∀ o, upd (upd H p o) d (HO.dK (dkv q x (c + 1))) d = some (HO.dK (dkv q x (c + 1))) := fun _ => upd_same
  have H3q : ∀ o, upd (upd H p o) d (HO.dK (dkv q x (c + 1))) q = some (.lst (ns.map V.int)) := fun o => by rw [upd_ne nd.symm, upd_ne qp]; exact hq
  have K3 : ∀ o, Keep [d, q] H (upd (upd H p o) d (HO.dK (dkv q x (c + 1)))) := fun o => (Keep.new hp).trans (Keep.at (o := .dK (dkv q x c)) (by rw [upd_ne dp]; exact hd) rfl (List.mem_cons_self))
  have m1 : CMul 65551 (c + 1) := .inl ⟨by decide, by decide⟩
  have m2 : CMul (65551 * (c + 1)) (c + 1) := .inr ⟨by omega, by omega⟩
  have m3 : ∀ i : Int, CMul i 39373 := fun i => .inr ⟨by decide, by decide⟩
  have m4 : CMul 69621 (c + 1) := .inl ⟨by decide, by decide⟩
  have m5 : ∀ i : Int, CMul i 40692 := fun i => .inr ⟨by decide, by decide⟩
  have m6 : ∀ i : Int, CMul (i.fmod 2147483647) (i.fmod 2147483647) := fun i => .inl ⟨by have := (fmB i (b := 2147483647) (by decide)).1; omega, by have := (fmB i (b := 2147483647) (by decide)).2; omega⟩
  have fin : ∀ (i : Int) (H' : Hp), DeckA H' d q m → Keep [d, q] H H' → Q (.int (i.fmod lim)) H' := fun i H' h1 h2 => h _ _ (fmB i (by omega)).1 (fmB i (by omega)).2 h1 h2
  have c64 : ∀ i : Int, CDivN i 64 := fun i => ⟨by decide, by decide⟩
  have l0 : lim ≠ 0 := by omega
  generalize hH3 : upd (upd H p (HO.tup [V.int (c + 1), V.int x])) d (HO.dK (dkv q x (c + 1))) = H3 at *
  have a1 : H3 d = some (HO.dK (dkv q x (c + 1))) := by rw [← hH3]; exact upd_same
  have a2 : H3 q = some (.lst (ns.map V.int)) := by rw [← hH3]; exact H3q _
  have a3 : Keep [d, q] H H3 := by rw [← hH3]; exact K3 _
  clear H3d H3q K3 hH3
  refine ⟨_, dget_n a1, by decide, fun p2 hp2 => ?_⟩
  have dp2 : d ≠ p2 := ne_of_none a1 hp2
  have qp2 : q ≠ p2 := ne_of_none a2 hp2
  have b1 : upd H3 p2 (HO.lst []) d = some (HO.dK (dkv q x (c + 1))) := by rw [upd_ne dp2]; exact a1
  have b2 : upd H3 p2 (HO.lst []) q = some (.lst (ns.map V.int)) := by rw [upd_ne qp2]; exact a2
  have b3 : Keep [d, q] H (upd H3 p2 (HO.lst [])) := a3.trans (Keep.new hp2)
  refine ⟨.list (ns.map PyData.int), .list [], .lst (SqL.of b2) (dp_ints ns), .lst (xs := []) (SqL.of upd_same) .nil, sh_ints ns, rfl, ?_⟩
  generalize upd H3 p2 (HO.lst []) = H4 at *
  trivial
  have dk : ∀ (H' : Hp) (ms : List Int), H' d = some (HO.dK (dkv q x (c + 1))) → H' q = some (.lst (ms.map V.int)) → ms.length ≤ 63 → DeckA H' d q m := fun H' ms e1 e2 e3 => ⟨c + 1, x, ms, e1, e2, e3, by omega, by omega⟩
  rw [eqv_nil]
  have nz1 : (2147483629 : Int) ≠ 0 := by decide
  have nz2 : (2147483647 : Int) ≠ 0 := by decide
  have nz3 : (2147483587 : Int) ≠ 0 := by decide
  have nz4 : (2147483563 : Int) ≠ 0 := by decide
  cases ns with
  | nil => exact iteF' (by simp) ⟨nz1, m1, m2, m3 _, nz2, m6 _, m4, nz3, m5 _, nz4, c64 _, l0, fin _ _ (dk _ [] b1 b2 (by simp)) (b3)⟩
  | cons n0 ns0 =>
    refine iteT' (by simp) ?_
    refine ⟨_, dget_n b1, .inl ⟨rfl, _, SqL.of b2⟩, _, rfl, _, b2, ?_⟩
    obtain ⟨v, hv⟩ : ∃ v : Int, (n0 :: ns0)[(n0 :: ns0).length - 1]? = some v := ⟨_, List.getElem?_eq_getElem (by simp)⟩
    refine ⟨.int v, by rw [List.length_map, List.getElem?_map, hv]; rfl, ⟨by decide, by decide, by decide⟩, v, rfl, ?_⟩
    have e1 : ((n0 :: ns0).map V.int).dropLast = (n0 :: ns0).dropLast.map V.int := by simp [List.map_dropLast]
    rw [e1]
    have c1 : upd H4 q (.lst ((n0 :: ns0).dropLast.map V.int)) d = some (HO.dK (dkv q x (c + 1))) := by rw [upd_ne nd]; exact b1
    have c3 : Keep [d, q] H (upd H4 q (.lst ((n0 :: ns0).dropLast.map V.int))) := b3.trans (Keep.at b2 rfl (by simp))
    split
    · refine ⟨_, dget_n c1, .inl ⟨rfl, _, SqL.of upd_same⟩, _, rfl, ⟨l0, by omega⟩, _, rfl, _, upd_same, ?_, _, rfl, l0, fin _ _ ?_ ?_⟩
      · rw [List.length_map, List.length_dropLast]; exact Nat.lt_of_lt_of_le (m := 64) (by omega) (by decide)
      · rw [show [V.int (v.fdiv lim)] = [v.fdiv lim].map V.int from rfl, ← List.map_append]
        exact dk _ _ (by rw [upd_ne nd]; exact c1) upd_same (by rw [List.length_append, List.length_dropLast]; simp at hn ⊢; omega)
      · exact c3.trans (Keep.at upd_same rfl (by simp))
    · refine ⟨_, dget_m c1, v, rfl, x, rfl, nz1, m1, m2, m3 _, nz2, m6 _, m4, nz3, m5 _, nz4, c64 _, l0, fin _ _ (dk _ _ c1 upd_same (by rw [List.length_dropLast]; omega)) (c3)⟩
def spPick : Sp := fun vs H Q _ => ∃ (d q : Addr) (m : Nat) (l : Addr) (xs : List V), vs = [V.ref d, V.ref l] ∧ DeckA H d q (m + 1) ∧ H l = some (.lst xs) ∧ l ≠ q ∧ xs ≠ [] ∧ xs.length < 1000 ∧ ∀ (v : V) (H' : Hp), v ∈ xs → DeckA H' d q m → Keep [d, q] H H' → Q v H'
theorem D__law_pick (F : Fx K mg) : Dn P w K mg base 2 "_law_pick" ["_law_deck_here", "_law_items"] spPick := by
  refine dn_mk F.f__law_pick F.g__law_pick sc__law_pick (fun _ _ _ _ _ _ us hl => match us, hl with | [_, _], _ => rfl) (by rintro vs H Q E ⟨d, q, m, l, xs, rfl, _⟩; rfl) ?_
  rintro cdv A outer s H vs Q E hr ⟨d, q, m, l, xs, rfl, hd, hl, lq, x0, x1, h⟩
  refine ⟨_, (pss_one (ps_ret (pe_ix ix_list (pv 1) (sk_call (D__law_draw F) hr (pa_cons (pv 0) (pa_cons (pe_callB call_len_seq (by rfl) F.b_len bt_len (pa_cons (pv 1) pa_nil)) pa_nil))) (fun _ _ => rfl)))), ?_⟩
  trivial
  have dl : l ≠ d := by
    obtain ⟨c, x, ns, h1, h2, _⟩ := hd
    exact ne_of hl h1 (by intro z; cases z)
  have x2 : 0 < xs.length := List.length_pos_iff.mpr x0
  refine ⟨xs, .inl (SqL.of hl), d, q, m, _, rfl, hd, by omega, by omega, fun n H' n1 n2 h1 h2 => ?_⟩
  obtain ⟨k, rfl⟩ : ∃ k : Nat, n = k := ⟨n.toNat, by omega⟩
  have kl : k < xs.length := by omega
  exact ⟨xs, _, rfl, SqL.of (h2.o _ _ hl (by simp [dl, lq])), xs[k], atI_nat (List.getElem?_eq_getElem kl), h _ _ (List.getElem_mem kl) h1 h2⟩
theorem cut_int (ns : List Int) (lo hi : Option Int) : ∃ ms : List Int, cutV (ns.map V.int) lo hi = ms.map V.int ∧ ms.length ≤ ns.length := by
  refine ⟨(ns.drop (HT.sIx ns.length 0 lo)).take (HT.sIx ns.length ns.length hi - HT.sIx ns.length 0 lo), ?_, ?_⟩
  · unfold cutV
    simp only [List.length_map, List.map_take, List.map_drop]
  · rw [List.length_take, List.length_drop]
    omega
def spDeck (K : PySem.W.Frag) : Sp := fun vs H Q _ => ∃ (a : Addr) (ns : List Int), vs = [V.ref a] ∧ SqL K H a (ns.map V.int) ∧ ns.length ≤ 63 ∧ ∀ (d q : Addr) (H' : Hp), H d = none → H q = none → DeckA H' d q 1000000000 → Keep [] H H' → Q (.ref d) H'
theorem D__law_deck (F : Fx K mg) : Dn P w K mg base 1 "_law_deck" ["_law_script"] (spDeck K) := by
  refine dn_mk F.f__law_deck F.g__law_deck sc__law_deck (fun _ _ _ _ _ _ us hl => match us, hl with | [_], _ => rfl) (by rintro vs H Q E ⟨a, ns, rfl, _⟩; rfl) ?_
  rintro cdv A outer s H vs Q E hr ⟨a, ns, rfl, hl, hn, h⟩
  refine ⟨_, (pss_cons (ps_par (i := 1) (j := 2) rfl sc__law_deck.nd rfl rfl (by decide) rfl rfl (pa_cons (pe_callTy call_list_of (by rfl) F.b_list bt_list (pa_cons (pe_slice sl_list (pv 0) po_none (po_some pe_int)) pa_nil)) (pa_cons pe_int pa_nil)) (by rfl))
    (pss_cons (ps_for PassesOwn.never rfl (pi_list (pv 1)) (pg_name (i := 3) sc__law_deck.nd rfl (by first | exact .inl rfl | exact .inr rfl)) (pss_one (ps_set (i := 2) sc__law_deck.nd rfl (by first | exact .inl rfl | exact .inr rfl) (pe_op op_modN (pe_op op_add (pe_op op_add (pe_op op_mul (pv 2) pe_int) (pe_op op_modN (pv 3) pe_int)) pe_int) pe_int))))
    (pss_one (ps_ret (pe_disp (pps_cons pe_str (pe_revL (pv 1)) (pps_cons pe_str (pv 2) (pps_cons pe_str pe_int pps_nil))) (by rfl) (by rfl) (fun z => by cases z) (by decide)))))), ?_⟩
  trivial
  refine ⟨_, hl, fun p hp => ⟨_, .inl (SqL.of upd_same), fun l hl => ?_⟩⟩
  obtain ⟨ms, e1, e2⟩ := cut_int ns none (some 63)
  rw [e1] at hl ⊢
  have lp : l ≠ p := ne_of_none' hl upd_same
  have a1 : Keep [] H (upd (upd H p (.lst (ms.map V.int))) l (.lst (ms.map V.int))) := (Keep.new hp).trans (Keep.new hl)
  have a2 : upd (upd H p (.lst (ms.map V.int))) l (.lst (ms.map V.int)) l = some (.lst (ms.map V.int)) := upd_same
  have a3 : H l = none := by rw [upd_ne lp] at hl; exact hl
  generalize upd (upd H p (.lst (ms.map V.int))) l (.lst (ms.map V.int)) = H1 at *
  refine ⟨_, rfl, l, rfl, ⟨_, SqL.of a2⟩, for_list (xs := ms.map V.int) (fun i σ H' => H' = H1 ∧ ∃ (x : Int) (o : Option V), σ = [some (.ref a), some (.ref l), some (.int x), o]) ⟨rfl, _, _, rfl⟩ ?_ ?_ ?_⟩
  · rintro i σ H' _ ⟨rfl, _⟩
    exact SqL.of a2
  · rintro i x σ H' hx ⟨rfl, y, o, rfl⟩
    trivial
    obtain ⟨n, _, rfl⟩ : ∃ n : Int, n ∈ ms ∧ V.int n = x := by
      have := List.mem_of_getElem? hx
      simpa using this
    trivial
    exact ⟨.inr ⟨by decide, by decide⟩, by decide, by decide⟩
  · rintro σ H' ⟨rfl, x, o, rfl⟩
    trivial
    intro p2 hp2
    have lp2 : l ≠ p2 := ne_of_none a2 hp2
    refine ⟨_, SqL.of (by rw [upd_ne lp2]; exact a2), fun p3 hp3 => ?_⟩
    have n32 : p3 ≠ p2 := ne_of_none' hp3 upd_same
    refine ⟨by rw [upd_ne n32.symm]; exact upd_same, dkv p3 x 0, rfl, (by show 3 ≤ 15; decide), ?_⟩
    rw [dkv_merge]
    have h3 : H' p3 = none := by rw [upd_ne n32] at hp3; exact hp3
    refine h _ p3 _ (a1.free hp2) (a1.free h3) ⟨0, x, ms.reverse, upd_same, ?_, by simp; omega, by decide, by decide⟩ ?_
    · rw [upd_ne n32, upd_same, List.map_reverse]
    · exact ((a1.trans (Keep.new hp2)).trans (Keep.new hp3)).over (a1.free hp2)
end
end Wk
end

section
set_option Elab.async false
set_option linter.all false
set_option maxRecDepth 100000
set_option maxHeartbeats 4000000
/-! the walk: rows made -/
namespace Wk
open PySem PySem.Spec PyProof.Rows L2 StX
local macro_rules | `(tactic| trivial) => `(tactic| try simp only [spInt, spWord, spIdx, spNum, spReg, isi_ii, isi_ib, isi_ss, eq_ii, ne_ii, eq_ss, ne_ss, cxK, wipe, rLenS, rSlL, rSlT, tRevL, tDisp, tPairs, rCat, rRep, rExtend, rAdd, rSub, rSetD, rPop, rAppend, rIxL, rIxT, rSetL, tVar, tC, t2I, tB, tAnd, tOr, tNot, tAndV, tOrV, tNotV, tIf, tNext, tSeq, tDrop, tRet, tRetN, tIfS, tNever, tAsg, tPar, tOp, tUn, rI, rI0, rU, tTest, tChain, tFld, tCon, tNil, tCons, tTup, tLst, tCall, tMeth, tProp, tCB, tSl, tNoPart, tPart, tBM, tBM0, gName, gTup, gNil, gCons, gSub, sFld, L2.start, tDGet, tDIn, tDNotIn, tDNewK, tDNewT, sDPut, tDGet2, and_assoc, exists_and_left, exists_and_right, exists_eq_left', exists_eq_left, exists_eq_right, exists_eq', V.int.injEq, V.str.injEq, V.bl.injEq, V.ref.injEq, List.cons.injEq, and_true, true_and, List.append_nil, List.map_cons, List.map_nil, List.length_cons, List.length_nil, List.cons_append, List.nil_append, Nat.reduceAdd, Nat.reduceSub, List.reduceReplicate, List.getElem?_cons_succ, List.getElem?_cons_zero, List.set_cons_succ, List.set_cons_zero, Option.some.injEq, if_true, Bool.false_eq_true, if_false, decide_eq_true_eq, Bool.not_true, Bool.not_false, Bool.not_eq_true', decide_eq_false_iff_not, decide_true, decide_false, Bool.true_and, Bool.and_true, Bool.false_and, Int.reduceEq, Int.reduceLT, Int.reduceLE, Int.reduceNeg, reduceCtorEq, not_false_eq_true, not_true_eq_false])
theorem rd_seq {t u : TS} {D : Ends} {σ : L2.St} {H : Hp} (h : ∀ D1 : Ends, (∀ σ' H', u D σ' H' → D1.nx σ' H') → D1.rt = D.rt → t D1 σ H) : tSeq t u D σ H := h _ (fun _ _ h => h) rfl
def RowTE (te : TE) (σ : L2.St) (r : Sk.Rw) : Prop := ∀ (H : Hp) (Q : VK), (∀ p H', Keep [] H H' → H p = none → RowA H' p r → Q (.ref p) H') → te σ H Q
def RowsTA (ta : TA) (σ : L2.St) (H0 : Hp) (rs : List Sk.Rw) : Prop := ∀ (H : Hp) (Q : List V → Hp → Prop), Keep [] H0 H → (∀ vs H', Keep [] H H' → Each (RowA H') vs rs → Q vs H') → ta σ H Q
def RowsTE (te : TE) (σ : L2.St) (H0 : Hp) (rs : List Sk.Rw) : Prop := ∀ (H : Hp) (Q : VK), Keep [] H0 H → (∀ l H', Keep [] H H' → H l = none → RowsL H' l rs → Q (.ref l) H') → te σ H Q
theorem rowV_len (r : Sk.Rw) : (rowV r).length ≤ 5 := by cases r <;> simp [rowV]
theorem line5 {n : Nat} (h : n ≤ 1000000) : n ≤ sizeLine := by rw [sizeLine_eq]; omega
theorem line6 {n : Nat} (h : n < 1000000) : n < sizeLine := by rw [sizeLine_eq]; omega
section
variable {K : PySem.W.Frag} {ta tr : TA} {te : TE} {σ : L2.St} {r : Sk.Rw} {rs rs1 rs2 : List Sk.Rw} {H H0 : Hp} {D : Ends} {i : Nat} {l : Addr}
theorem row_mk (r : Sk.Rw) (h : ∀ H Q, Q (rowV r) H → ta σ H Q) : RowTE (tTup ta) σ r := fun H Q k => h _ _ ⟨line5 (Nat.le_trans (rowV_len r) (by decide)), fun p hp => k p _ (Keep.new hp) hp upd_same⟩
theorem rows_nil : RowsTA tNil σ H0 [] := fun H Q k0 k => k [] H (Keep.refl _ _) .nil
theorem rows_cons (a : RowTE te σ r) (b : RowsTA tr σ H0 rs) : RowsTA (tCons te tr) σ H0 (r :: rs) := fun H Q k0 k => a H _ fun p H1 k1 hp h1 => b H1 _ (k0.trans k1) fun vs H2 k2 h2 => k _ _ (k1.trans k2) (.cons (RowA.keep h1 k2) h2)
theorem rows_star (a : ∀ (H : Hp) (Q : VK), Keep [] H0 H → (∀ l H', Keep [] H H' → RowsL H' l rs1 → Q (.ref l) H') → te σ H Q) (b : RowsTA tr σ H0 rs2) : RowsTA (tStar K te tr) σ H0 (rs1 ++ rs2) := fun H Q k0 k => a H _ k0 fun l H1 k1 ⟨vs, h1, h2⟩ => ⟨l, vs, rfl, .inr (SqL.of h1), b H1 _ (k0.trans k1) fun us H2 k2 h3 => k _ _ (k1.trans k2) ((h2.mono fun _ _ e => RowA.keep e k2).append h3)⟩
theorem rows_starV (e : σ[i]? = some (some (.ref l))) (h : RowsL H0 l rs1) (b : RowsTA tr σ H0 rs2) : RowsTA (tStar K (tVar i) tr) σ H0 (rs1 ++ rs2) := rows_star (fun H Q k0 k => ⟨_, e, k l H (Keep.refl _ _) (h.keep k0 (by simp))⟩) b
theorem rows_starE (a : RowsTE te σ H0 rs1) (b : RowsTA tr σ H0 rs2) : RowsTA (tStar K te tr) σ H0 (rs1 ++ rs2) := rows_star (fun H Q k0 k => a H Q k0 fun l H' k1 _ h => k l H' k1 h) b
theorem rows_lst (a : RowsTA ta σ H0 rs) (hl : rs.length ≤ 1000000) : RowsTE (tLst ta) σ H0 rs := fun H Q k0 k => a H _ k0 fun vs H1 k1 h1 => ⟨by rw [h1.len]; exact line5 hl, fun p hp => k p _ (k1.trans (Keep.new hp)) (k1.free hp) ⟨vs, upd_same, h1.mono fun _ _ e => RowA.keep e (Keep.new hp (S := []))⟩⟩
theorem rd_rows (a : RowsTE te σ H rs) (k : ∀ l H', Keep [] H H' → H l = none → RowsL H' l rs → D.nx (σ.set i (some (.ref l))) H') : tAsg te (gName i) D σ H := a H _ (Keep.refl _ _) k
theorem rd_ret (a : RowsTE te σ H rs) (k : ∀ l H', Keep [] H H' → H l = none → RowsL H' l rs → D.rt (.ref l) H') : tRet te D σ H := a H _ (Keep.refl _ _) k
theorem rd_ext (e : σ[i]? = some (some (.ref l))) (h : RowsL H l rs1) (a : RowsTE te σ H rs2) (hl : rs1.length + rs2.length ≤ 1000000) (k : ∀ H', Keep [l] H H' → RowsL H' l (rs1 ++ rs2) → D.nx σ H') : tDrop (tBM K "list" rExtend (tVar i) (tCons te tNil)) D σ H := by
  obtain ⟨vs, h1, h2⟩ := h
  refine ⟨_, e, .inl ⟨rfl, _, SqL.of h1⟩, a H _ (Keep.refl _ _) fun m H1 k1 hm ⟨us, h3, h4⟩ => ?_⟩
  have lm : l ≠ m := ne_of_none h1 hm
  refine ⟨l, m, vs, us, rfl, rfl, k1.o _ _ h1 (by simp), h3, by rw [h2.len, h4.len]; exact line5 hl, k _ (k1.nil.trans (Keep.at (k1.o _ _ h1 (by simp)) rfl (by simp))) ⟨_, upd_same, ?_⟩⟩
  have k2 : Keep [l] H1 (upd H1 l (.lst (vs ++ us))) := Keep.at (k1.o _ _ h1 (by simp)) rfl (by simp)
  exact (h2.mono fun _ _ e => RowA.keep (RowA.keep e k1) k2).append (h4.mono fun _ _ e => RowA.keep e k2)
end
def spAdr : Sp := fun vs H Q _ => ∃ n c : Nat, vs = [V.int n, V.int c] ∧ n ≤ 100 ∧ c ≤ 100 ∧ ∀ p, H p = none → Q (.ref p) (upd H p (.tup [.int (4 * (n + 2) * c : Nat), .int (4 * (n + 2) * c + (n + 2) : Nat), .int (4 * (n + 2) * c + 2 * (n + 2) : Nat), .int (4 * (n + 2) * c + 3 * (n + 2) : Nat)]))
def spCount : Sp := fun vs H Q _ => ∃ o a : Nat, vs = [V.int o, V.int a] ∧ ∀ l H', Keep [] H H' → H l = none → RowsL H' l (Sk.countR o a) → Q (.ref l) H'
def spChoose : Sp := fun vs H Q _ => ∃ k o n r : Nat, vs = [V.int k, V.int o, V.int n, V.int r] ∧ ∀ l H', Keep [] H H' → H l = none → RowsL H' l (Sk.chooseR k o n r) → Q (.ref l) H'
def spPlaced : Sp := fun vs H Q _ => ∃ (p : Addr) (r : Sk.Rw) (o : Nat), vs = [V.ref p, V.int o] ∧ RowA H p r ∧ ∀ p' H', Keep [] H H' → RowA H' p' (Sk.place o r) → Q (.ref p') H'
section
variable {P : Program} {w : World} {K : PySem.W.Frag} {mg : Str → Option Value} {base : Heap}
theorem D_store_addresses (F : Fx K mg) : Dn P w K mg base 1 "store_addresses" ["size", "copy"] spAdr := by
  refine dn_mk F.f_store_addresses F.g_store_addresses sc_store_addresses (fun _ _ _ _ _ _ us hl => match us, hl with | [_, _], _ => rfl) (by rintro vs H Q E ⟨i, j, rfl, _⟩; rfl) ?_
  rintro cdv A outer s H vs Q E hr ⟨n, c, rfl, nb, cb, h⟩
  refine ⟨_, (pss_cons (ps_set (i := 2) sc_store_addresses.nd rfl (by first | exact .inl rfl | exact .inr rfl) (pe_op op_add (pv 0) pe_int))
    (pss_cons (ps_set (i := 3) sc_store_addresses.nd rfl (by first | exact .inl rfl | exact .inr rfl) (pe_op op_mul (pe_op op_mul (sk_gi F.i_STORES_rings) (pv 2)) (pv 1)))
    (pss_one (ps_ret (pe_tup (pa_cons (pv 3) (pa_cons (pe_op op_add (pv 3) (pv 2)) (pa_cons (pe_op op_add (pv 3) (pe_op op_mul pe_int (pv 2))) (pa_cons (pe_op op_add (pv 3) (pe_op op_mul pe_int (pv 2))) pa_nil))))))))), ?_⟩
  trivial
  have m1 : CMul 4 ((n : Int) + 2) := .inl ⟨by decide, by decide⟩
  have m2 : CMul 2 ((n : Int) + 2) := .inl ⟨by decide, by decide⟩
  have m3 : CMul 3 ((n : Int) + 2) := .inl ⟨by decide, by decide⟩
  have m4 : CMul (4 * ((n : Int) + 2)) c := .inr ⟨by omega, by omega⟩
  refine ⟨m1, m4, m2, m3, by decide, fun p hp => ?_⟩
  have := h p hp
  push_cast at this
  exact this
theorem D_counting_rows (F : Fx K mg) : Dn P w K mg base 1 "counting_rows" ["old", "address"] spCount := by
  refine dn_mk F.f_counting_rows F.g_counting_rows sc_counting_rows (fun _ _ _ _ _ _ us hl => match us, hl with | [_, _], _ => rfl) (by rintro vs H Q E ⟨i, j, rfl, _⟩; rfl) ?_
  rintro cdv A outer s H vs Q E hr ⟨o, a, rfl, h⟩
  refine ⟨_, (pss_cons (ps_set (i := 2) sc_counting_rows.nd rfl (by first | exact .inl rfl | exact .inr rfl) (pe_lst (pa_cons (pe_tup (pa_cons pe_str (pa_cons pe_int (pa_cons (pv 0) pa_nil)))) (pa_cons (pe_tup (pa_cons pe_str (pa_cons pe_int (pa_cons (pe_op op_add (pv 0) pe_int) pa_nil)))) (pa_cons (pe_tup (pa_cons pe_str (pa_cons pe_int (pa_cons pe_int pa_nil)))) (pa_cons (pe_tup (pa_cons pe_str (pa_cons pe_int (pa_cons pe_int (pa_cons pe_int pa_nil))))) pa_nil))))))
    (pss_one (ps_ret (pe_lst (pa_star (pv 2) (pa_cons (pe_tup (pa_cons pe_str (pa_cons pe_int (pa_cons pe_int (pa_cons pe_int pa_nil))))) (pa_cons (pe_tup (pa_cons pe_str (pa_cons pe_int (pa_cons (pv 1) pa_nil)))) pa_nil))))))), ?_⟩
  refine rd_rows (rows_lst (rows_cons (row_mk (.load 24 o) ?_) (rows_cons (row_mk (.load 25 (o + 1)) ?_) (rows_cons (row_mk (.set 26 0) ?_) (rows_cons (row_mk (.op .same 25 25 26) ?_) rows_nil)))) (by simp)) fun l H1 k1 hl h1 => rd_ret (rows_lst (rows_starV rfl h1 (rows_cons (row_mk (.op .add 24 24 25) ?_) (rows_cons (row_mk (.store 24 a) ?_) rows_nil))) (by simp)) fun l2 H2 k2 hl2 h2 => h l2 H2 (k1.trans k2) (k1.free hl2) h2
  all_goals (intro H Q h; trivial; exact h)
theorem D_choosing_rows (F : Fx K mg) : Dn P w K mg base 1 "choosing_rows" ["index", "old", "new", "result"] spChoose := by
  refine dn_mk F.f_choosing_rows F.g_choosing_rows sc_choosing_rows (fun _ _ _ _ _ _ us hl => match us, hl with | [_, _, _, _], _ => rfl) (by rintro vs H Q E ⟨i, j, k, l, rfl, _⟩; rfl) ?_
  rintro cdv A outer s H vs Q E hr ⟨k, o, n, r, rfl, h⟩
  refine ⟨_, (pss_cons (ps_set (i := 4) sc_choosing_rows.nd rfl (by first | exact .inl rfl | exact .inr rfl) (pe_lst (pa_cons (pe_tup (pa_cons pe_str (pa_cons pe_int (pa_cons (pe_op op_add (pe_op op_add (pv 1) pe_int) (pv 0)) pa_nil)))) (pa_cons (pe_tup (pa_cons pe_str (pa_cons pe_int (pa_cons (pe_op op_add (pv 1) pe_int) pa_nil)))) pa_nil))))
    (pss_one (ps_ret (pe_lst (pa_star (pv 4) (pa_cons (pe_tup (pa_cons pe_str (pa_cons pe_int (pa_cons pe_int (pa_cons pe_int (pa_cons (pv 3) pa_nil)))))) (pa_cons (pe_tup (pa_cons pe_str (pa_cons pe_int (pa_cons (pe_op op_add (pe_op op_add (pv 2) pe_int) (pv 0)) pa_nil)))) pa_nil))))))), ?_⟩
  refine rd_rows (rows_lst (rows_cons (row_mk (.load 24 (o + 1 + k)) ?_) (rows_cons (row_mk (.load 25 (o + 1)) ?_) rows_nil)) (by simp)) fun l H1 k1 hl h1 => rd_ret (rows_lst (rows_starV rfl h1 (rows_cons (row_mk (.choose 24 25 24 r) ?_) (rows_cons (row_mk (.store 24 (n + 1 + k)) ?_) rows_nil))) (by simp)) fun l2 H2 k2 hl2 h2 => h l2 H2 (k1.trans k2) (k1.free hl2) h2
  all_goals (intro H Q h; trivial; exact h)
theorem D_placed_row (F : Fx K mg) : Dn P w K mg base 1 "placed_row" ["row", "old"] spPlaced := by
  refine dn_mk F.f_placed_row F.g_placed_row sc_placed_row (fun _ _ _ _ _ _ us hl => match us, hl with | [_, _], _ => rfl) (by rintro vs H Q E ⟨i, j, k, rfl, _⟩; rfl) ?_
  rintro cdv A outer s H vs Q E hr ⟨p, r, o, rfl, hp, h⟩
  refine ⟨_, (pss_one (ps_ret (pe_ifExp (pt_cmpR op_eq (pe_ix ix_tup (pv 0) pe_int (fun _ _ => rfl)) pe_str (nomark _)) (pe_tup (pa_cons pe_str (pa_cons (pe_ix ix_tup (pv 0) pe_int (fun _ _ => rfl)) (pa_cons (pe_op op_add (pe_op op_add (pv 1) pe_int) (pe_ix ix_tup (pv 0) pe_int (fun _ _ => rfl))) pa_nil)))) (pv 0)))), ?_⟩
  trivial
  refine ⟨_, SqT.of hp, ?_⟩
  cases r with
  | load r a =>
    refine ⟨_, rfl, ?_⟩
    trivial
    refine ⟨_, SqT.of hp, _, rfl, _, SqT.of hp, _, rfl, _, rfl, by decide, fun q hq => h q _ (Keep.new hq) ?_⟩
    show upd _ _ _ _ = _
    rw [upd_same]
    simp only [Sk.place, rowV]
    push_cast
    rfl
  | op o' a b c =>
    refine ⟨_, rfl, ?_⟩
    cases o' <;> trivial <;> simp only [opS, sN_add_load, sN_sub_load, sN_mul_load, sN_div_load, sN_mod_load, sN_less_load, sN_same_load, if_false] <;> exact h p H (Keep.refl _ _) hp
  | _ =>
    refine ⟨_, rfl, ?_⟩
    trivial
    simp only [sN_set_load, sN_store_load, sN_choose_load, sN_alike_load, sN_move_load, if_false]
    exact h p H (Keep.refl _ _) hp
end
end Wk
end

section
set_option Elab.async false
set_option linter.all false
set_option maxRecDepth 100000
set_option maxHeartbeats 4000000
/-! the walk: pieces P -/
namespace Wk
open PySem PySem.Spec PyProof.Rows L2 StX
local macro_rules | `(tactic| trivial) => `(tactic| try simp only [spInt, spWord, spIdx, spNum, spReg, isi_ii, isi_ib, isi_ss, eq_ii, ne_ii, eq_ss, ne_ss, cxK, wipe, rLenS, rSlL, rSlT, tRevL, tDisp, tPairs, rCat, rRep, rExtend, rAdd, rSub, rSetD, rPop, rAppend, rIxL, rIxT, rSetL, tVar, tC, t2I, tB, tAnd, tOr, tNot, tAndV, tOrV, tNotV, tIf, tNext, tSeq, tDrop, tRet, tRetN, tIfS, tNever, tAsg, tPar, tOp, tUn, rI, rI0, rU, tTest, tChain, tFld, tCon, tNil, tCons, tTup, tLst, tCall, tMeth, tProp, tCB, tSl, tNoPart, tPart, tBM, tBM0, gName, gTup, gNil, gCons, gSub, sFld, L2.start, tDGet, tDIn, tDNotIn, tDNewK, tDNewT, sDPut, tDGet2, and_assoc, exists_and_left, exists_and_right, exists_eq_left', exists_eq_left, exists_eq_right, exists_eq', V.int.injEq, V.str.injEq, V.bl.injEq, V.ref.injEq, List.cons.injEq, and_true, true_and, List.append_nil, List.map_cons, List.map_nil, List.length_cons, List.length_nil, List.cons_append, List.nil_append, Nat.reduceAdd, Nat.reduceSub, List.reduceReplicate, List.getElem?_cons_succ, List.getElem?_cons_zero, List.set_cons_succ, List.set_cons_zero, Option.some.injEq, if_true, Bool.false_eq_true, if_false, decide_eq_true_eq, Bool.not_true, Bool.not_false, Bool.not_eq_true', decide_eq_false_iff_not, decide_true, decide_false, Bool.true_and, Bool.and_true, Bool.false_and, Int.reduceEq, Int.reduceLT, Int.reduceLE, Int.reduceNeg, reduceCtorEq, not_false_eq_true, not_true_eq_false])
section
variable {K : PySem.W.Frag} {te : TE} {σ : L2.St} {rs : List Sk.Rw} {H0 : Hp} {i j : Nat} {a : Addr}
/-- [f(row) for row in t] -/
theorem rows_comp (f : Sk.Rw → Sk.Rw) (hv : σ[i]? = some (some (.ref a))) (ha : RowsT H0 a rs) (hl : rs.length ≤ 1000000)
    (hte : ∀ (H2 : Hp) (p : Addr) (r : Sk.Rw) (Q : VK), Keep [] H0 H2 → RowA H2 p r → (∀ p' H', Keep [] H2 H' → RowA H' p' (f r) → Q (.ref p') H') → te ((wipe σ [j]).set j (some (.ref p))) H2 Q) (hw : ∀ v, wipe ((wipe σ [j]).set j (some v)) [j] = wipe σ [j]) :
    RowsTE (tLc (iTup K (tVar i)) (gName j) tYes te [j]) σ H0 (rs.map f) := by
  intro H Q k0 k
  obtain ⟨vs, h1, h2⟩ := ha
  refine ⟨_, hv, a, rfl, ⟨_, SqT.of (k0.t _ _ h1)⟩, fun D hD => ?_⟩
  refine lc_tup (xs := vs) (fun n H' => Keep [] H H' ∧ RowsL H' D ((rs.take n).map f)) ⟨Keep.new hD, [], upd_same, by simp; exact .nil⟩ (fun n H' _ q => SqT.of (q.1.t _ _ (k0.t _ _ h1))) ?_ ?_
  · rintro n x H' hx ⟨k1, us, u1, u2⟩
    obtain ⟨p, r, rfl, hr, hp⟩ := h2.get hx
    refine ⟨hw _, ?_⟩
    simp only [tYes, if_true]
    refine hte H' p r _ (k0.trans k1) (RowA.keep hp (k0.trans k1)) fun p' H2 k2 h3 => ⟨us, k2.o _ _ u1 (by simp), ?_, ?_, ?_⟩
    · rw [u2.len]
      refine line6 ?_
      have : n < rs.length := (List.getElem?_eq_some_iff.mp hr).1
      simp
      omega
    · exact (k1.trans k2).over hD
    · have k3 : Keep [D] H2 (upd H2 D (.lst (us ++ [.ref p']))) := Keep.at (k2.o _ _ u1 (by simp)) rfl (by simp)
      refine ⟨_, upd_same, ?_⟩
      rw [List.take_succ, hr, List.map_append]
      exact (u2.mono fun _ _ e => RowA.keep (RowA.keep e k2) k3).append (Each.one (RowA.keep h3 k3))
  · rintro H' ⟨k1, u⟩
    rw [h2.len, List.take_length] at u
    exact k D H' k1 hD u
end
theorem words_snoc (o n : Nat) (r : Rec) : ∀ (l : List Rec) (k : Nat), Sk.wordsR o n k (l ++ [r]) = Sk.wordsR o n k l ++ Sk.wordR o n (k + l.length) r
  | [], k => by simp [Sk.wordsR]
  | x :: l, k => by
    simp only [Sk.wordsR, List.cons_append, words_snoc o n r l (k + 1), List.append_assoc, List.length_cons]
    rw [show k + 1 + l.length = k + (l.length + 1) from by omega]
theorem words_bd (o n : Nat) : ∀ (l : List Rec) (k : Nat), (∀ r ∈ l, r.1.length ≤ 100) → (Sk.wordsR o n k l).length ≤ 104 * l.length
  | [], k, _ => by simp [Sk.wordsR]
  | x :: l, k, h => by
    have h1 := words_bd o n l (k + 1) fun r hr => h r (List.mem_cons_of_mem _ hr)
    have h2 := h x List.mem_cons_self
    simp only [Sk.wordsR, Sk.wordR, Sk.chooseR, List.length_append, List.length_map, List.length_cons, List.length_nil]
    omega
structure Fits (C : Sk.Cfg) : Prop where
  len : C.recs.length = C.n
  n10 : C.n ≤ 10
  k16 : C.K ≤ 16
  r100 : ∀ r ∈ C.recs, r.1.length ≤ 100
def spPieceP : Sp := fun vs H Q _ => ∃ (C : Sk.Cfg) (p : Addr) (c : Nat), vs = [V.ref p, V.int c] ∧ Fits C ∧ c ≤ 100 ∧ RecsA H p C.recs ∧ ∀ l H', Keep [] H H' → H l = none → RowsL H' l (C.pieceP c) → Q (.ref l) H'
section
variable {P : Program} {w : World} {K : PySem.W.Frag} {mg : Str → Option Value} {base : Heap}
theorem D_piece_p (F : Fx K mg) : Dn P w K mg base 2 "piece_p" ["recipes", "copy"] spPieceP := by
  refine dn_mk F.f_piece_p F.g_piece_p sc_piece_p (fun _ _ _ _ _ _ us hl => match us, hl with | [_, _], _ => rfl) (by rintro vs H Q E ⟨C, i, j, rfl, _⟩; rfl) ?_
  rintro cdv A outer s H vs Q E hr ⟨C, p, c, rfl, B, cb, hp, h⟩
  refine ⟨_, (pss_cons (ps_set (i := 2) sc_piece_p.nd rfl (by first | exact .inl rfl | exact .inr rfl) (pe_callB call_len_seq (by rfl) F.b_len bt_len (pa_cons (pv 0) pa_nil)))
    (pss_cons (ps_asg (pe_slice sl_tup (sk_call (D_store_addresses F) hr (pa_cons (pv 2) (pa_cons (pv 1) pa_nil))) po_none (po_some pe_int)) (pg_tup (by rfl) (pgs_cons (pg_name (i := 3) sc_piece_p.nd rfl (by first | exact .inl rfl | exact .inr rfl)) (pgs_cons (pg_name (i := 4) sc_piece_p.nd rfl (by first | exact .inl rfl | exact .inr rfl)) pgs_nil))))
    (pss_cons (ps_set (i := 5) sc_piece_p.nd rfl (by first | exact .inl rfl | exact .inr rfl) (pe_lst (pa_cons (pe_tup (pa_cons pe_str (pa_cons pe_int (pa_cons (sk_gi F.i_INVALID) pa_nil)))) (pa_cons (pe_tup (pa_cons pe_str (pa_cons pe_int (pa_cons (pe_op op_add (pe_op op_add (pv 4) (pv 2)) pe_int) pa_nil)))) (pa_star (sk_call (D_counting_rows F) hr (pa_cons (pv 3) (pa_cons (pv 4) pa_nil))) pa_nil)))))
    (pss_cons (ps_for PassesOwn.never rfl (pi_enumT (by rfl) F.b_enumerate (pa_cons (pv 0) pa_nil)) (pg_tup (by rfl) (pgs_cons (pg_name (i := 6) sc_piece_p.nd rfl (by first | exact .inl rfl | exact .inr rfl)) (pgs_cons (pg_tup (by rfl) (pgs_cons (pg_name (i := 7) sc_piece_p.nd rfl (by first | exact .inl rfl | exact .inr rfl)) (pgs_cons (pg_name (i := 8) sc_piece_p.nd rfl (by first | exact .inl rfl | exact .inr rfl)) pgs_nil))) pgs_nil))) (pss_cons (ps_expr (pe_bm PySem.F.plainAttrs_list PySem.F.slot_list_extend PySem.F.type_list_extend mt_extend (pv 5) (pa_cons (pe_lc (own := [("row", 9)]) rfl sc_piece_p.nd (pi_tup (pv 7)) (blkOk_by (own := [("row", 9)]) (N := ["recipes", "copy", "size", "old", "new", "rows", "index", "steps", "result", "row"]) (sc := defScope s_piece_p) (by decide +kernel)) (fun _ _ _ _ _ => (pg_name (i := 9) sc_piece_p.nd rfl (by first | exact .inl rfl | exact .inr rfl))) (fun _ _ _ _ _ => pts_nil) (fun _ _ _ _ _ => (sk_call (D_placed_row F) hr (pa_cons (pv 9) (pa_cons (pv 3) pa_nil))))) pa_nil)))
    (pss_one (ps_expr (pe_bm PySem.F.plainAttrs_list PySem.F.slot_list_extend PySem.F.type_list_extend mt_extend (pv 5) (pa_cons (sk_call (D_choosing_rows F) hr (pa_cons (pv 6) (pa_cons (pv 3) (pa_cons (pv 4) (pa_cons (pv 8) pa_nil))))) pa_nil))))))
    (pss_one (ps_ret (pe_lst (pa_star (pv 5) (pa_star (sk_call (D_counting_rows F) hr (pa_cons (pv 3) (pa_cons (pe_op op_add (pe_op op_add (pv 4) (pv 2)) pe_int) pa_nil))) pa_nil))))))))), ?_⟩
  obtain ⟨vs, hp1, hp2⟩ := id hp
  have B1 := B.n10
  refine rd_seq fun D1 k1 r1 => ?_
  trivial
  refine ⟨_, .inr (SqT.of hp1), k1 _ _ ?_⟩
  rw [hp2.len, B.len]
  refine rd_seq fun D2 k2 r2 => ?_
  trivial
  refine ⟨C.n, c, rfl, by omega, by omega, fun p1 hp1' => ?_⟩
  refine ⟨p1, rfl, _, SqT.of upd_same, by simp [HT.sIx], fun p2 hp2' => ⟨_, SqT.of upd_same, rfl, _, _, rfl, _, _, rfl, rfl, k2 _ _ ?_⟩⟩
  have c1 : Keep [] H (upd (upd H p1 (HO.tup [V.int ↑(4 * (C.n + 2) * c), V.int ↑(4 * (C.n + 2) * c + (C.n + 2)), V.int ↑(4 * (C.n + 2) * c + 2 * (C.n + 2)), V.int ↑(4 * (C.n + 2) * c + 3 * (C.n + 2))])) p2 (HO.tup (cutV [V.int ↑(4 * (C.n + 2) * c), V.int ↑(4 * (C.n + 2) * c + (C.n + 2)), V.int ↑(4 * (C.n + 2) * c + 2 * (C.n + 2)), V.int ↑(4 * (C.n + 2) * c + 3 * (C.n + 2))] none (some 2)))) := (Keep.new hp1').trans (Keep.new hp2')
  generalize upd (upd H p1 _) p2 _ = H2 at c1 ⊢
  show tSeq _ _ _ [some (.ref p), some (.int c), some (.int C.n), some (.int (C.oldA c : Nat)), some (.int (C.newA c : Nat)), none, none, none, none, none] H2
  refine rd_seq fun D3 k3 r3 => ?_
  refine rd_rows (rows_lst (rows_cons (row_mk (.set 24 999999) ?_) (rows_cons (row_mk (.store 24 (C.newA c + C.n + 1)) ?_) (rows_starE (rs1 := Sk.countR (C.oldA c) (C.newA c)) ?_ rows_nil))) ?_) fun l H3 c2 hl h3 => k3 _ _ ?_
  · intro H Q h
    trivial
    exact h
  · intro H Q h
    trivial
    exact h
  · intro H Q k0 k
    trivial
    exact ⟨C.oldA c, C.newA c, rfl, k⟩
  · simp [Sk.countR]
  refine rd_seq fun D4 k4 r4 => ?_
  show tFor _ _ _ _ [some (.ref p), some (.int c), some (.int C.n), some (.int (C.oldA c : Nat)), some (.int (C.newA c : Nat)), some (.ref l), none, none, none, none] H3
  refine ⟨_, rfl, p, vs, rfl, SqT.of ((c1.trans c2).t _ _ hp1), ?_⟩
  refine for_enumT (fun i σ H' => Keep [] H H' ∧ RowsL H' l (.set 24 999999 :: .store 24 (C.newA c + C.n + 1) :: (Sk.countR (C.oldA c) (C.newA c) ++ Sk.wordsR (C.oldA c) (C.newA c) 0 (C.recs.take i))) ∧ ∃ o1 o2 o3, σ = [some (.ref p), some (.int c), some (.int C.n), some (.int (C.oldA c : Nat)), some (.int (C.newA c : Nat)), some (.ref l), o1, o2, o3, none])
    ⟨c1.trans c2, by simpa [Sk.wordsR] using h3, none, none, none, rfl⟩ (fun i σ H' _ q => SqT.of (q.1.t _ _ hp1)) ?_ ?_
  · rintro i x σ H' T hx ⟨d1, d2, o1, o2, o3, rfl⟩ hT
    obtain ⟨rp, rec, rfl, hrec, rq, hr1, hr2⟩ := hp2.get hx
    have f1 : Keep [] H' (upd H' T (.tup [.int i, .ref rp])) := Keep.new hT
    have hr3 := f1.t _ _ ((d1.t _ _ hr1 : H' rp = _))
    refine ⟨T, _, rfl, SqT.of upd_same, rfl, _, _, rfl, _, _, rfl, rp, _, rfl, SqT.of hr3, rfl, _, _, rfl, _, _, rfl, rfl, rfl, ?_⟩
    generalize upd H' T (.tup [.int i, .ref rp]) = H5 at f1 hr3 ⊢
    show tSeq _ _ _ [some (.ref p), some (.int c), some (.int C.n), some (.int (C.oldA c : Nat)), some (.int (C.newA c : Nat)), some (.ref l), some (.int i), some (.ref _), some (.int _), none] H5
    have ri : rec ∈ C.recs := List.mem_of_getElem? hrec
    have il : i < C.n := by rw [← B.len]; exact (List.getElem?_eq_some_iff.mp hrec).1
    have bd := words_bd (C.oldA c) (C.newA c) (C.recs.take i) 0 fun r hr => B.r100 r (List.mem_of_mem_take hr)
    have bl : (C.recs.take i).length ≤ 10 := by simp; omega
    have br := B.r100 _ ri
    refine rd_seq fun D5 k5 r5 => ?_
    refine rd_ext rfl (d2.keep f1 (by simp)) (rows_comp (Sk.place (C.oldA c)) rfl ((hr2.keep d1).keep f1) (by omega) ?_ ?_) ?_ fun H6 e1 e2 => k5 _ _ ?_
    · intro H2 p r Q k0 h1 k
      trivial
      exact ⟨p, r, C.oldA c, rfl, h1, k⟩
    · intro v
      rfl
    · simp [Sk.countR]
      omega
    · have hl0 : ∀ q, q ∈ [l] → H q = none := fun q m => by rw [List.mem_singleton.mp m]; exact c1.free hl
      have e3 : Keep [] H H6 := (d1.trans f1).fresh e1 hl0
      refine rd_ext rfl e2 (rs2 := Sk.chooseR i (C.oldA c) (C.newA c) rec.2) ?_ ?_ fun H7 g1 g2 => ⟨?_, ?_, _, _, _, rfl⟩
      · intro H Q k0 k
        trivial
        exact ⟨i, C.oldA c, C.newA c, rec.2, rfl, k⟩
      · simp [Sk.countR, Sk.chooseR]
        omega
      · exact e3.fresh g1 hl0
      · rw [List.take_succ, hrec]
        simp only [Option.toList_some]
        rw [words_snoc]
        simpa [Sk.wordR, List.append_assoc, Nat.min_eq_left (Nat.le_of_lt (by rw [B.len]; exact il : i < C.recs.length))] using g2
  · rintro σ H' ⟨d1, d2, o1, o2, o3, rfl⟩
    refine k4 _ _ ?_
    rw [hp2.len, List.take_length] at d2
    have bd := words_bd (C.oldA c) (C.newA c) C.recs 0 B.r100
    refine rd_ret (rows_lst (rows_starV rfl d2 (rows_starE (rs1 := Sk.countR (C.oldA c) (C.newA c + C.n + 1)) ?_ rows_nil)) ?_) fun l2 H2 e1 hl2 e2 => h l2 H2 (d1.trans e1) (d1.free hl2) ?_
    · intro H Q k0 k
      trivial
      exact ⟨C.oldA c, C.newA c + C.n + 1, rfl, k⟩
    · simp [Sk.countR]
      have := B.len
      omega
    · simpa [Sk.Cfg.pieceP, List.append_assoc] using e2
end
end Wk
end

section
set_option Elab.async false
set_option linter.all false
set_option maxRecDepth 100000
set_option maxHeartbeats 4000000
/-! the walk: pieces Q -/
namespace Wk
open PySem PySem.Spec PyProof.Rows L2 StX
local macro_rules | `(tactic| trivial) => `(tactic| try simp only [spInt, spWord, spIdx, spNum, spReg, isi_ii, isi_ib, isi_ss, eq_ii, ne_ii, eq_ss, ne_ss, cxK, wipe, rLenS, rSlL, rSlT, tRevL, tDisp, tPairs, rCat, rRep, rExtend, rAdd, rSub, rSetD, rPop, rAppend, rIxL, rIxT, rSetL, tVar, tC, t2I, tB, tAnd, tOr, tNot, tAndV, tOrV, tNotV, tIf, tNext, tSeq, tDrop, tRet, tRetN, tIfS, tNever, tAsg, tPar, tOp, tUn, rI, rI0, rU, tTest, tChain, tFld, tCon, tNil, tCons, tTup, tLst, tCall, tMeth, tProp, tCB, tSl, tNoPart, tPart, tBM, tBM0, gName, gTup, gNil, gCons, gSub, sFld, L2.start, tDGet, tDIn, tDNotIn, tDNewK, tDNewT, sDPut, tDGet2, and_assoc, exists_and_left, exists_and_right, exists_eq_left', exists_eq_left, exists_eq_right, exists_eq', V.int.injEq, V.str.injEq, V.bl.injEq, V.ref.injEq, List.cons.injEq, and_true, true_and, List.append_nil, List.map_cons, List.map_nil, List.length_cons, List.length_nil, List.cons_append, List.nil_append, Nat.reduceAdd, Nat.reduceSub, List.reduceReplicate, List.getElem?_cons_succ, List.getElem?_cons_zero, List.set_cons_succ, List.set_cons_zero, Option.some.injEq, if_true, Bool.false_eq_true, if_false, decide_eq_true_eq, Bool.not_true, Bool.not_false, Bool.not_eq_true', decide_eq_false_iff_not, decide_true, decide_false, Bool.true_and, Bool.and_true, Bool.false_and, Int.reduceEq, Int.reduceLT, Int.reduceLE, Int.reduceNeg, reduceCtorEq, not_false_eq_true, not_true_eq_false])
def NewsL (C : Sk.Cfg) (H : Hp) (l : Addr) : Prop := H l = some (.lst ((List.range C.K).map fun t => V.int (C.newA t : Nat)))
def voteR (C : Sk.Cfg) (look best src : Nat) : List Sk.Rw := .move 24 src look C.ln :: (C.voteHead src look best ++ (C.voteCnt look C.K ++ (C.voteTail ++ [.move 26 look best C.ln])))
def spVote : Sp := fun vs H Q _ => ∃ (C : Sk.Cfg) (nl : Addr) (look best src : Nat), vs = [V.ref nl, V.int C.e, V.int C.ln, V.int look, V.int best, V.int src] ∧ Fits C ∧ NewsL C H nl ∧ ∀ l H', Keep [] H H' → H l = none → RowsL H' l (voteR C look best src) → Q (.ref l) H'
theorem voteCnt_len (C : Sk.Cfg) (look : Nat) : ∀ k, (C.voteCnt look k).length = 2 * k
  | 0 => rfl
  | k + 1 => by simp [Sk.Cfg.voteCnt, voteCnt_len C look k, Sk.Cfg.voteOne]; omega
section
variable {P : Program} {w : World} {K : PySem.W.Frag} {mg : Str → Option Value} {base : Heap}
theorem D_vote_rows (F : Fx K mg) : Dn P w K mg base 1 "vote_rows" ["news", "faults", "length", "look", "best", "source"] spVote := by
  refine dn_mk F.f_vote_rows F.g_vote_rows sc_vote_rows (fun _ _ _ _ _ _ us hl => match us, hl with | [_, _, _, _, _, _], _ => rfl) (by rintro vs H Q E ⟨C, _, _, _, _, rfl, _⟩; rfl) ?_
  rintro cdv A outer s H vs Q E hr ⟨C, nl, look, best, src, rfl, B, hn, h⟩
  refine ⟨_, (pss_cons (ps_set (i := 6) sc_vote_rows.nd rfl (by first | exact .inl rfl | exact .inr rfl) (pe_lst (pa_cons (pe_tup (pa_cons pe_str (pa_cons pe_int (pa_cons (pv 5) (pa_cons (pv 3) (pa_cons (pv 2) pa_nil)))))) (pa_cons (pe_tup (pa_cons pe_str (pa_cons pe_int (pa_cons (pv 3) pa_nil)))) (pa_cons (pe_tup (pa_cons pe_str (pa_cons pe_int (pa_cons (pe_op op_sub (pe_op op_add (pv 3) (pv 2)) pe_int) pa_nil)))) pa_nil)))))
    (pss_cons (ps_expr (pe_bm PySem.F.plainAttrs_list PySem.F.slot_list_extend PySem.F.type_list_extend mt_extend (pv 6) (pa_cons (pe_lst (pa_cons (pe_tup (pa_cons pe_str (pa_cons pe_int (pa_cons pe_int (pa_cons pe_int pa_nil))))) (pa_cons (pe_tup (pa_cons pe_str (pa_cons pe_int (pa_cons (pv 4) pa_nil)))) (pa_cons (pe_tup (pa_cons pe_str (pa_cons pe_int (pa_cons pe_int (pa_cons pe_int pa_nil))))) (pa_cons (pe_tup (pa_cons pe_str (pa_cons pe_int (pa_cons pe_int pa_nil)))) pa_nil))))) pa_nil)))
    (pss_cons (ps_for PassesOwn.never rfl (pi_list (pv 0)) (pg_name (i := 7) sc_vote_rows.nd rfl (by first | exact .inl rfl | exact .inr rfl)) (pss_one (ps_expr (pe_bm PySem.F.plainAttrs_list PySem.F.slot_list_extend PySem.F.type_list_extend mt_extend (pv 6) (pa_cons (pe_lst (pa_cons (pe_tup (pa_cons pe_str (pa_cons pe_int (pa_cons (pv 3) (pa_cons (pv 7) (pa_cons (pv 2) pa_nil)))))) (pa_cons (pe_tup (pa_cons pe_str (pa_cons pe_int (pa_cons pe_int (pa_cons pe_int pa_nil))))) pa_nil))) pa_nil)))))
    (pss_cons (ps_expr (pe_bm PySem.F.plainAttrs_list PySem.F.slot_list_extend PySem.F.type_list_extend mt_extend (pv 6) (pa_cons (pe_lst (pa_cons (pe_tup (pa_cons pe_str (pa_cons pe_int (pa_cons (pv 1) pa_nil)))) (pa_cons (pe_tup (pa_cons pe_str (pa_cons pe_int (pa_cons pe_int (pa_cons pe_int pa_nil))))) (pa_cons (pe_tup (pa_cons pe_str (pa_cons pe_int (pa_cons pe_int (pa_cons pe_int pa_nil))))) (pa_cons (pe_tup (pa_cons pe_str (pa_cons pe_int (pa_cons pe_int (pa_cons pe_int pa_nil))))) pa_nil))))) pa_nil)))
    (pss_one (ps_ret (pe_lst (pa_star (pv 6) (pa_cons (pe_tup (pa_cons pe_str (pa_cons pe_int (pa_cons (pv 3) (pa_cons (pv 4) (pa_cons (pv 2) pa_nil)))))) pa_nil))))))))), ?_⟩
  have B1 := B.n10
  have B2 := B.k16
  have sub : ((look + C.ln - 1 : Nat) : Int) = (look : Int) + (C.ln : Int) - 1 := by unfold Sk.Cfg.ln; omega
  refine rd_seq fun D1 k1 r1 => ?_
  refine rd_rows (rows_lst (rows_cons (row_mk (.move 24 src look C.ln) ?_) (rows_cons (row_mk (.load 25 look) ?_) (rows_cons (row_mk (.load 26 (look + C.ln - 1)) ?_) rows_nil))) (by simp)) fun l H1 c1 hl g1 => k1 _ _ ?_
  · intro H Q h
    trivial
    exact h
  · intro H Q h
    trivial
    exact h
  · intro H Q h
    trivial
    simp only [rowV, sub] at h
    exact h
  have hl0 : ∀ q, q ∈ [l] → H q = none := fun q m => by rw [List.mem_singleton.mp m]; exact hl
  refine rd_seq fun D2 k2 r2 => ?_
  refine rd_ext rfl g1 (rows_lst (rows_cons (row_mk (.op .same 26 25 26) ?_) (rows_cons (row_mk (.load 27 best) ?_) (rows_cons (row_mk (.op .less 27 27 25) ?_) (rows_cons (row_mk (.set 28 0) ?_) rows_nil)))) (by simp)) (by simp) fun H2 c2 g2 => k2 _ _ ?_
  iterate 4
    · intro H Q h
      trivial
      exact h
  refine rd_seq fun D3 k3 r3 => ?_
  have c12 : Keep [] H H2 := c1.fresh c2 hl0
  have nln : l ≠ nl := (ne_of_none hn hl).symm
  refine ⟨_, rfl, nl, rfl, ⟨_, SqL.of (c12.o _ _ hn (by simp))⟩, for_list (xs := (List.range C.K).map fun t => V.int (C.newA t : Nat)) (fun i σ H' => Keep [] H H' ∧ RowsL H' l (.move 24 src look C.ln :: (C.voteHead src look best ++ C.voteCnt look i)) ∧ ∃ o, σ = [some (.ref nl), some (.int C.e), some (.int C.ln), some (.int look), some (.int best), some (.int src), some (.ref l), o])
    ⟨c12, by simpa [Sk.Cfg.voteHead, Sk.Cfg.voteCnt] using g2, _, rfl⟩ (fun i σ H' _ q => SqL.of (q.1.o _ _ hn (by simp))) ?_ ?_⟩
  · rintro i x σ H' hx ⟨d1, d2, o, rfl⟩
    have hi : i < C.K := by
      have := (List.getElem?_eq_some_iff.mp hx).1
      simpa using this
    have ex : x = V.int (C.newA i : Nat) := by
      rw [List.getElem?_map, List.getElem?_range hi] at hx
      exact (Option.some.inj hx).symm
    subst ex
    refine rd_ext rfl d2 (rows_lst (rows_cons (row_mk (.alike 29 look (C.newA i) C.ln) ?_) (rows_cons (row_mk (.op .add 28 28 29) ?_) rows_nil)) (by simp)) ?_ fun H4 e1 e2 => ⟨d1.fresh e1 hl0, ?_, _, rfl⟩
    iterate 2
      · intro H Q h
        trivial
        exact h
    · simp [Sk.Cfg.voteHead, voteCnt_len]
      omega
    · simpa [Sk.Cfg.voteCnt, Sk.Cfg.voteOne, List.append_assoc] using e2
  · rintro σ H' ⟨d1, d2, o, rfl⟩
    rw [List.length_map, List.length_range] at d2
    refine k3 _ _ ?_
    refine rd_seq fun D4 k4 r4 => ?_
    refine rd_ext rfl d2 (rows_lst (rows_cons (row_mk (.set 29 C.e) ?_) (rows_cons (row_mk (.op .less 28 29 28) ?_) (rows_cons (row_mk (.op .mul 26 26 27) ?_) (rows_cons (row_mk (.op .mul 26 26 28) ?_) rows_nil)))) (by simp)) ?_ fun H5 e1 e2 => k4 _ _ ?_
    iterate 4
      · intro H Q h
        trivial
        exact h
    · simp [Sk.Cfg.voteHead, voteCnt_len]
      omega
    have e3 := d1.fresh e1 hl0
    refine rd_ret (rows_lst (rows_starV rfl e2 (rows_cons (row_mk (.move 26 look best C.ln) ?_) rows_nil)) ?_) fun l2 H6 f1 hl2 f2 => h l2 H6 (e3.trans f1) (e3.free hl2) ?_
    · intro H Q h
      trivial
      exact h
    · simp [Sk.Cfg.voteHead, voteCnt_len]
      omega
    · simpa [voteR, Sk.Cfg.voteTail, List.append_assoc] using f2
end
end Wk
end

section
set_option Elab.async false
set_option linter.all false
set_option maxRecDepth 100000
set_option maxHeartbeats 4000000
/-! the walk: pieces Q -/
namespace Wk
open PySem PySem.Spec PyProof.Rows L2 StX
local macro_rules | `(tactic| trivial) => `(tactic| try simp only [spInt, spWord, spIdx, spNum, spReg, isi_ii, isi_ib, isi_ss, eq_ii, ne_ii, eq_ss, ne_ss, cxK, wipe, rLenS, rSlL, rSlT, tRevL, tDisp, tPairs, rCat, rRep, rExtend, rAdd, rSub, rSetD, rPop, rAppend, rIxL, rIxT, rSetL, tVar, tC, t2I, tB, tAnd, tOr, tNot, tAndV, tOrV, tNotV, tIf, tNext, tSeq, tDrop, tRet, tRetN, tIfS, tNever, tAsg, tPar, tOp, tUn, rI, rI0, rU, tTest, tChain, tFld, tCon, tNil, tCons, tTup, tLst, tCall, tMeth, tProp, tCB, tSl, tNoPart, tPart, tBM, tBM0, gName, gTup, gNil, gCons, gSub, sFld, L2.start, tDGet, tDIn, tDNotIn, tDNewK, tDNewT, sDPut, tDGet2, and_assoc, exists_and_left, exists_and_right, exists_eq_left', exists_eq_left, exists_eq_right, exists_eq', V.int.injEq, V.str.injEq, V.bl.injEq, V.ref.injEq, List.cons.injEq, and_true, true_and, List.append_nil, List.map_cons, List.map_nil, List.length_cons, List.length_nil, List.cons_append, List.nil_append, Nat.reduceAdd, Nat.reduceSub, List.reduceReplicate, List.getElem?_cons_succ, List.getElem?_cons_zero, List.set_cons_succ, List.set_cons_zero, Option.some.injEq, if_true, Bool.false_eq_true, if_false, decide_eq_true_eq, Bool.not_true, Bool.not_false, Bool.not_eq_true', decide_eq_false_iff_not, decide_true, decide_false, Bool.true_and, Bool.and_true, Bool.false_and, Int.reduceEq, Int.reduceLT, Int.reduceLE, Int.reduceNeg, reduceCtorEq, not_false_eq_true, not_true_eq_false])
def spPieceQ : Sp := fun vs H Q _ => ∃ (C : Sk.Cfg) (c : Nat), vs = [V.int C.n, V.int C.e, V.int C.K, V.int c] ∧ Fits C ∧ c ≤ 100 ∧ ∀ l H', Keep [] H H' → H l = none → RowsL H' l (C.pieceQ c) → Q (.ref l) H'
theorem voteR_len (C : Sk.Cfg) (a b c : Nat) : (voteR C a b c).length = 12 + 2 * C.K := by
  simp [voteR, Sk.Cfg.voteHead, Sk.Cfg.voteTail, voteCnt_len]
  omega
theorem votes_bd (C : Sk.Cfg) (c : Nat) : ∀ k, (C.votes c k).length = k * (12 + 2 * C.K)
  | 0 => by simp [Sk.Cfg.votes]
  | k + 1 => by
    rw [Sk.Cfg.votes, List.length_append, votes_bd C c k, show C.vote c k = voteR C (C.lookA c) (C.bestA c) (C.newA k) from rfl, voteR_len, Nat.succ_mul k (12 + 2 * C.K)]
section
variable {P : Program} {w : World} {K : PySem.W.Frag} {mg : Str → Option Value} {base : Heap}
theorem D_piece_q (F : Fx K mg) : Dn P w K mg base 2 "piece_q" ["size", "faults", "copies", "copy"] spPieceQ := by
  refine dn_mk F.f_piece_q F.g_piece_q sc_piece_q (fun _ _ _ _ _ _ us hl => match us, hl with | [_, _, _, _], _ => rfl) (by rintro vs H Q E ⟨C, _, rfl, _⟩; rfl) ?_
  rintro cdv A outer s H vs Q E hr ⟨C, c, rfl, B, cb, h⟩
  refine ⟨_, (pss_cons (ps_asg (pe_lc (own := [("store", 11)]) rfl sc_piece_q.nd (pi_tup (pe_tup (pa_cons pe_int (pa_cons pe_int (pa_cons pe_int pa_nil))))) (blkOk_by (own := [("store", 11)]) (N := ["size", "faults", "copies", "copy", "old", "look", "best", "length", "news", "rows", "source", "store", "other"]) (sc := defScope s_piece_q) (by decide +kernel)) (fun _ _ _ _ _ => (pg_name (i := 11) sc_piece_q.nd rfl (by first | exact .inl rfl | exact .inr rfl))) (fun _ _ _ _ _ => pts_nil) (fun _ _ _ _ _ => (pe_ix (ix_tupK (K := K)) (sk_call (D_store_addresses F) hr (pa_cons (pv 0) (pa_cons (pv 3) pa_nil))) (pv 11) (fun _ _ => rfl)))) (pg_unl rfl (pgs_cons (pg_name (i := 4) sc_piece_q.nd rfl (by first | exact .inl rfl | exact .inr rfl)) (pgs_cons (pg_name (i := 5) sc_piece_q.nd rfl (by first | exact .inl rfl | exact .inr rfl)) (pgs_cons (pg_name (i := 6) sc_piece_q.nd rfl (by first | exact .inl rfl | exact .inr rfl)) pgs_nil)))))
    (pss_cons (ps_set (i := 7) sc_piece_q.nd rfl (by first | exact .inl rfl | exact .inr rfl) (pe_op op_add (pv 0) pe_int))
    (pss_cons (ps_setLc (i := 8) (own := [("other", 12)]) rfl sc_piece_q.nd rfl rfl (sw_true rfl rfl rfl (by decide +kernel)) (pi_range1 (by rfl) F.b_range (pa_cons (pv 2) pa_nil)) (blkOk_by (own := [("other", 12)]) (N := ["size", "faults", "copies", "copy", "old", "look", "best", "length", "news", "rows", "source", "store", "other"]) (sc := defScope s_piece_q) (by decide +kernel)) (fun _ _ _ _ _ => (pg_name (i := 12) sc_piece_q.nd rfl (by first | exact .inl rfl | exact .inr rfl))) (fun _ _ _ _ _ => pts_nil) (fun _ _ _ _ _ => (pe_ix (ix_tupK (K := K)) (sk_call (D_store_addresses F) hr (pa_cons (pv 0) (pa_cons (pv 12) pa_nil))) pe_int (fun _ _ => rfl))))
    (pss_cons (ps_set (i := 9) sc_piece_q.nd rfl (by first | exact .inl rfl | exact .inr rfl) (pe_lst (pa_cons (pe_tup (pa_cons pe_str (pa_cons pe_int (pa_cons pe_int pa_nil)))) (pa_cons (pe_tup (pa_cons pe_str (pa_cons pe_int (pa_cons (pv 4) (pa_cons (pv 6) (pa_cons (pv 7) pa_nil)))))) pa_nil))))
    (pss_cons (ps_for PassesOwn.never rfl (pi_list (pv 8)) (pg_name (i := 10) sc_piece_q.nd rfl (by first | exact .inl rfl | exact .inr rfl)) (pss_one (ps_expr (pe_bm PySem.F.plainAttrs_list PySem.F.slot_list_extend PySem.F.type_list_extend mt_extend (pv 9) (pa_cons (sk_call (D_vote_rows F) hr (pa_cons (pv 8) (pa_cons (pv 1) (pa_cons (pv 7) (pa_cons (pv 5) (pa_cons (pv 6) (pa_cons (pv 10) pa_nil))))))) pa_nil)))))
    (pss_one (ps_ret (pe_lst (pa_star (pv 9) (pa_cons (pe_tup (pa_cons pe_str (pa_cons pe_int (pa_cons (pv 6) (pa_cons (pv 4) (pa_cons (pv 7) pa_nil)))))) pa_nil)))))))))), ?_⟩
  have B1 := B.n10
  have B2 := B.k16
  refine rd_seq fun D1 k1 r1 => ?_
  refine ⟨by decide, fun p0 hp0 => ⟨p0, rfl, ⟨_, SqT.of upd_same⟩, fun D hD => ?_⟩⟩
  have a0 : Keep [] H (upd H p0 (.tup [.int 0, .int 2, .int 3])) := Keep.new hp0
  have a1 : upd H p0 (.tup [.int 0, .int 2, .int 3]) p0 = some (.tup [.int 0, .int 2, .int 3]) := upd_same
  generalize upd H p0 (.tup [.int 0, .int 2, .int 3]) = H1 at a0 a1 hD ⊢
  refine lc_tup (xs := [.int 0, .int 2, .int 3]) (fun n H' => Keep [] H1 H' ∧ H' D = some (.lst ([V.int (C.oldA c : Nat), V.int (C.lookA c : Nat), V.int (C.bestA c : Nat)].take n))) ⟨Keep.new hD, upd_same⟩ (fun n H' _ q => SqT.of (q.1.t _ _ a1)) ?_ ?_
  · rintro n x H' hx ⟨b1, b2⟩
    refine ⟨rfl, ?_⟩
    trivial
    simp only [tYes, if_true]
    refine ⟨C.n, c, rfl, by omega, by omega, fun q hq => ?_⟩
    have qD : D ≠ q := ne_of_none b2 hq
    have b3 : upd H' q (HO.tup [V.int ↑(4 * (C.n + 2) * c), V.int ↑(4 * (C.n + 2) * c + (C.n + 2)), V.int ↑(4 * (C.n + 2) * c + 2 * (C.n + 2)), V.int ↑(4 * (C.n + 2) * c + 3 * (C.n + 2))]) D = some (.lst ([V.int (C.oldA c : Nat), V.int (C.lookA c : Nat), V.int (C.bestA c : Nat)].take n)) := by rw [upd_ne qD]; exact b2
    rcases n with _ | _ | _ | n
    · obtain rfl : V.int 0 = x := by simpa using hx
      exact ⟨q, rfl, _, 0, rfl, SqT.of upd_same, _, rfl, _, b3, by simp <;> decide, (b1.trans (Keep.new hq)).over hD, upd_same⟩
    · obtain rfl : V.int 2 = x := by simpa using hx
      exact ⟨q, rfl, _, 2, rfl, SqT.of upd_same, _, rfl, _, b3, by simp <;> decide, (b1.trans (Keep.new hq)).over hD, upd_same⟩
    · obtain rfl : V.int 3 = x := by simpa using hx
      exact ⟨q, rfl, _, 3, rfl, SqT.of upd_same, _, rfl, _, b3, by simp <;> decide, (b1.trans (Keep.new hq)).over hD, upd_same⟩
    · simp at hx
  · rintro H' ⟨b1, b2⟩
    refine ⟨D, _, rfl, SqL.of b2, rfl, _, _, rfl, _, _, rfl, _, _, rfl, rfl, k1 _ _ ?_⟩
    have b3 : Keep [] H H' := a0.trans b1
    clear b2 b1 a1 a0 hD
    show tSeq _ _ _ [some (.int C.n), some (.int C.e), some (.int C.K), some (.int c), some (.int (C.oldA c : Nat)), some (.int (C.lookA c : Nat)), some (.int (C.bestA c : Nat)), none, none, none, none, none, none] H'
    refine rd_seq fun D2 k2 r2 => ?_
    trivial
    refine k2 _ _ ?_
    refine rd_seq fun D3 k3 r3 => ?_
    refine ⟨_, rfl, C.K, rfl, by omega, by omega, fun D' hD' => ?_⟩
    rw [show ((C.K : Nat) : Int).toNat = C.K from rfl]
    refine lc_range (lo := 0) (n := C.K) (fun n H2 => Keep [] H' H2 ∧ H2 D' = some (.lst ((List.range n).map fun t => V.int (C.newA t : Nat)))) ⟨Keep.new hD', upd_same⟩ ?_ ?_
    · rintro n H2 hn ⟨b1, b2⟩
      refine ⟨rfl, ?_⟩
      trivial
      simp only [tYes, if_true]
      refine ⟨C.n, n, by simp, by omega, by omega, fun q hq => ?_⟩
      refine ⟨q, rfl, _, SqT.of upd_same, _, rfl, _, by rw [upd_ne (ne_of_none b2 hq)]; exact b2, line6 (by simp; omega), (b1.trans (Keep.new hq)).over hD', ?_⟩
      rw [upd_same, List.range_succ, List.map_append]
      rfl
    · rintro H2 ⟨b1, b2⟩
      refine k3 _ _ ?_
      have b4 := b3.trans b1
      have hn : NewsL C H2 D' := b2
      refine rd_seq fun D4 k4 r4 => ?_
      refine rd_rows (rows_lst (rows_cons (row_mk (.set 24 1) ?_) (rows_cons (row_mk (.move 24 (C.oldA c) (C.bestA c) C.ln) ?_) rows_nil)) (by simp)) fun l H3 c1 hl g1 => k4 _ _ ?_
      · intro H Q h
        trivial
        exact h
      · intro H Q h
        trivial
        exact h
      have hl0 : ∀ q, q ∈ [l] → H q = none := fun q m => by rw [List.mem_singleton.mp m]; exact b4.free hl
      have hn3 : NewsL C H3 D' := c1.o _ _ hn (by simp)
      have lD : D' ∉ [l] := by
        have := ne_of_none b2 hl
        simpa using this
      refine rd_seq fun D5 k5 r5 => ?_
      refine ⟨_, rfl, D', rfl, ⟨_, SqL.of hn3⟩, for_list (xs := (List.range C.K).map fun t => V.int (C.newA t : Nat)) (fun i σ H' => Keep [] H H' ∧ NewsL C H' D' ∧ RowsL H' l ([.set 24 1, .move 24 (C.oldA c) (C.bestA c) C.ln] ++ C.votes c i) ∧ ∃ o, σ = [some (.int C.n), some (.int C.e), some (.int C.K), some (.int c), some (.int (C.oldA c : Nat)), some (.int (C.lookA c : Nat)), some (.int (C.bestA c : Nat)), some (.int C.ln), some (.ref D'), some (.ref l), o, none, none])
        ⟨b4.trans c1, hn3, by simpa [Sk.Cfg.votes] using g1, _, rfl⟩ (fun i σ H' _ q => SqL.of q.2.1) ?_ ?_⟩
      · rintro i x σ H4 hx ⟨d1, d3, d2, o, rfl⟩
        have hi : i < C.K := by
          have := (List.getElem?_eq_some_iff.mp hx).1
          simpa using this
        have ex : x = V.int (C.newA i : Nat) := by
          rw [List.getElem?_map, List.getElem?_range hi] at hx
          exact (Option.some.inj hx).symm
        subst ex
        refine rd_ext rfl d2 (rs2 := voteR C (C.lookA c) (C.bestA c) (C.newA i)) ?_ ?_ fun H5 e1 e2 => ⟨d1.fresh e1 hl0, e1.o _ _ d3 lD, ?_, _, rfl⟩
        · intro H Q k0 k
          trivial
          exact ⟨C, D', C.lookA c, C.bestA c, C.newA i, rfl, B, k0.o _ _ d3 (by simp), k⟩
        · rw [voteR_len, List.length_append, votes_bd]
          have : i * (12 + 2 * C.K) ≤ 16 * 44 := Nat.mul_le_mul (by omega) (by omega)
          simp
          omega
        · rw [List.append_assoc] at e2
          exact e2
      · rintro σ H4 ⟨d1, d3, d2, o, rfl⟩
        rw [List.length_map, List.length_range] at d2
        refine k5 _ _ ?_
        refine rd_ret (rows_lst (rows_starV rfl d2 (rows_cons (row_mk (.move 24 (C.bestA c) (C.oldA c) C.ln) ?_) rows_nil)) ?_) fun l2 H6 f1 hl2 f2 => h l2 H6 (d1.trans f1) (d1.free hl2) ?_
        · intro H Q h
          trivial
          exact h
        · rw [List.length_append, List.length_append, votes_bd]
          have : C.K * (12 + 2 * C.K) ≤ 16 * 44 := Nat.mul_le_mul (by omega) (by omega)
          simp
          omega
        · rw [List.append_assoc] at f2
          exact f2
end
end Wk
end

section
set_option Elab.async false
set_option linter.all false
set_option maxRecDepth 100000
set_option maxHeartbeats 4000000
/-! the walk: recipes -/
namespace Wk
open PySem PySem.Spec PyProof.Rows L2 StX
local macro_rules | `(tactic| trivial) => `(tactic| try simp only [spInt, spWord, spIdx, spNum, spReg, isi_ii, isi_ib, isi_ss, eq_ii, ne_ii, eq_ss, ne_ss, cxK, wipe, rLenS, rSlL, rSlT, tRevL, tDisp, tPairs, rCat, rRep, rExtend, rAdd, rSub, rSetD, rPop, rAppend, rIxL, rIxT, rSetL, tVar, tC, t2I, tB, tAnd, tOr, tNot, tAndV, tOrV, tNotV, tIf, tNext, tSeq, tDrop, tRet, tRetN, tIfS, tNever, tAsg, tPar, tOp, tUn, rI, rI0, rU, tTest, tChain, tFld, tCon, tNil, tCons, tTup, tLst, tCall, tMeth, tProp, tCB, tSl, tNoPart, tPart, tBM, tBM0, gName, gTup, gNil, gCons, gSub, sFld, L2.start, tDGet, tDIn, tDNotIn, tDNewK, tDNewT, sDPut, tDGet2, and_assoc, exists_and_left, exists_and_right, exists_eq_left', exists_eq_left, exists_eq_right, exists_eq', V.int.injEq, V.str.injEq, V.bl.injEq, V.ref.injEq, List.cons.injEq, and_true, true_and, List.append_nil, List.map_cons, List.map_nil, List.length_cons, List.length_nil, List.cons_append, List.nil_append, Nat.reduceAdd, Nat.reduceSub, List.reduceReplicate, List.getElem?_cons_succ, List.getElem?_cons_zero, List.set_cons_succ, List.set_cons_zero, Option.some.injEq, if_true, Bool.false_eq_true, if_false, decide_eq_true_eq, Bool.not_true, Bool.not_false, Bool.not_eq_true', decide_eq_false_iff_not, decide_true, decide_false, Bool.true_and, Bool.and_true, Bool.false_and, Int.reduceEq, Int.reduceLT, Int.reduceLE, Int.reduceNeg, reduceCtorEq, not_false_eq_true, not_true_eq_false])
theorem opsT {K : PySem.W.Frag} {mg : Str → Option Value} (F : Fx K mg) (H : Hp) : SqT K H (ga K "OPERATORS") [.str "add", .str "sub", .str "mul", .str "div", .str "mod", .str "less", .str "same"] := by
  rcases F.ops with h | h
  · rcases h with h | ⟨o, h⟩ <;> cases h
  · exact .inr h
def manyW : Option Sk.Op → Str
  | none => "choose"
  | some o => opS o
def manyN : Option Sk.Op → Int
  | none => 3
  | some _ => 2
def spMany : Sp := fun vs H Q _ => ∃ o : Option Sk.Op, vs = [V.str (manyW o)] ∧ ∀ H', Keep [] H H' → Q (.int (manyN o)) H'
def spRecRow : Sp := fun vs H Q _ => ∃ (p kd : Addr) (r : Sk.Rw) (n : Nat) (kvs : List (Key × V)) (kn : Nat → Prop), vs = [V.ref p, V.int n, V.ref kd] ∧ RowA H p r ∧ H kd = some (.dK kvs) ∧
  (∀ x : Nat, kn x → (valV kvs (Sum.inl (x : Int))).isSome = true) ∧ Sk.RecRow n kn r ∧ ∀ H', Keep [] H H' → Q (.bl true) H'
theorem at0 {x : V} {xs : List V} : atI (x :: xs) 0 = some x := atI_nat (j := 0) rfl
theorem at1 {x y : V} {xs : List V} : atI (x :: y :: xs) 1 = some y := atI_nat (j := 1) rfl
theorem at2 {x y z : V} {xs : List V} : atI (x :: y :: z :: xs) 2 = some z := atI_nat (j := 2) rfl
theorem in_sl (o : Sk.Op) : inV (V.str (opS o)) [V.str "set", V.str "load"] = false := by cases o <;> decide +kernel
theorem in_sl2 : inV (V.str "choose") [V.str "set", V.str "load"] = false := by decide +kernel
theorem in_sl3 : inV (V.str "set") [V.str "set", V.str "load"] = true := by decide +kernel
theorem in_sl4 : inV (V.str "load") [V.str "set", V.str "load"] = true := by decide +kernel
theorem in_ops (o : Sk.Op) : inV (V.str (opS o)) [.str "add", .str "sub", .str "mul", .str "div", .str "mod", .str "less", .str "same"] = true := by cases o <;> decide +kernel
theorem ne_ch (o : Sk.Op) : (opS o = "choose") = False := by cases o <;> (refine eq_false ?_; decide +kernel)
section
variable {P : Program} {w : World} {K : PySem.W.Frag} {mg : Str → Option Value} {base : Heap}
theorem D_many_sources (F : Fx K mg) : Dn P w K mg base 1 "many_sources" ["word"] spMany := by
  refine dn_mk F.f_many_sources F.g_many_sources sc_many_sources (fun _ _ _ _ _ _ us hl => match us, hl with | [_], _ => rfl) (by rintro vs H Q E ⟨i, rfl, _⟩; rfl) ?_
  rintro cdv A outer s H vs Q E hr ⟨o, rfl, h⟩
  refine ⟨_, (pss_cons (ps_if (pt_cmpR op_in_seq (pv 0) (pe_tup (pa_cons (sk_gs F.t_SET) (pa_cons (sk_gs F.t_LOAD) pa_nil))) (by rfl)) (pss_one (ps_ret pe_int)) pss_nil)
    (pss_cons (ps_if (pt_cmpR op_eq (pv 0) (sk_gs F.t_CHOOSE) (nomark _)) (pss_one (ps_ret pe_int)) pss_nil)
    (pss_one (ps_ret (pe_ifExp (pt_cmpR op_in_seq (pv 0) (pe_glob (v := .ref (ga K "OPERATORS")) rfl F.g_OPERATORS rfl) (by rfl)) pe_int pe_non))))), ?_⟩
  trivial
  refine ⟨by decide, fun p hp => ⟨p, _, rfl, .inr (SqT.of upd_same), rfl, rfl, ?_⟩⟩
  have k := Keep.new (S := []) (o := .tup [V.str "set", V.str "load"]) hp
  cases o with
  | none =>
    simp only [manyW]
    trivial
    simp only [in_sl2]
    trivial
    exact h _ k
  | some o =>
    simp only [manyW, in_sl, ne_ch]
    trivial
    refine ⟨_, _, rfl, .inr (opsT F _), rfl, rfl, ?_⟩
    rw [in_ops]
    trivial
    exact h _ k
theorem D_is_recipe_row (F : Fx K mg) : Dn P w K mg base 4 "is_recipe_row" ["thing", "size", "known"] spRecRow := by
  refine dn_mk F.f_is_recipe_row F.g_is_recipe_row sc_is_recipe_row (fun _ _ _ _ _ _ us hl => match us, hl with | [_, _, _], _ => rfl) (by rintro vs H Q E ⟨_, _, _, _, _, _, rfl, _⟩; rfl) ?_
  rintro cdv A outer s H vs Q E hr ⟨p, kd, r, n, kvs, kn, rfl, hp, hk, hkn, hrr, h⟩
  refine ⟨_, (pss_cons (ps_if (PW.pt (pw_or (pt_not (pt_val (pe_callB call_isi (by rfl) F.b_isinstance bt_isi (pa_cons (pv 0) (pa_cons (sk_ty F.b_tuple bt_tuple) pa_nil))))) (pw_or (pt_cmpR op_lt (pe_callB call_len_seq (by rfl) F.b_len bt_len (pa_cons (pv 0) pa_nil)) pe_int (nomark _)) (pw_or (pt_not (pt_val (pe_callB call_isi (by rfl) F.b_isinstance bt_isi (pa_cons (pe_ix ix_tup (pv 0) pe_int (fun _ _ => rfl)) (pa_cons (sk_ty F.b_str bt_str) pa_nil))))) (pw_or1 (pt_not (pt_val (sk_call (D_is_register F) hr (pa_cons (pe_ix ix_tup (pv 0) pe_int (fun _ _ => rfl)) pa_nil))))))))) (pss_one (ps_ret pe_bl)) pss_nil)
    (pss_cons (ps_asg (pv 0) (pg_star (n := 2) rfl (pgs_cons (pg_name (i := 3) sc_is_recipe_row.nd rfl (by first | exact .inl rfl | exact .inr rfl)) (pgs_cons (pg_name (i := 4) sc_is_recipe_row.nd rfl (by first | exact .inl rfl | exact .inr rfl)) (pgs_star (pg_name (i := 5) sc_is_recipe_row.nd rfl (by first | exact .inl rfl | exact .inr rfl)) pgs_nil)))))
    (pss_cons (ps_if (pt_cmpR op_in_seq (pv 3) (pe_tup (pa_cons (sk_gs F.t_SET) (pa_cons (sk_gs F.t_LOAD) pa_nil))) (by rfl)) (pss_cons (ps_if (pt_cmpR op_ne (pe_callB call_len_seq (by rfl) F.b_len bt_len (pa_cons (pv 5) pa_nil)) pe_int (nomark _)) (pss_one (ps_ret pe_bl)) pss_nil)
    (pss_one (ps_ret (pe_ifExp (pt_cmpR op_eq (pv 3) (sk_gs F.t_SET) (nomark _)) (sk_call (D_is_word F) hr (pa_cons (pe_ix ix_list (pv 5) pe_int (fun _ _ => rfl)) pa_nil)) (sk_call (D_is_number_below F) hr (pa_cons (pe_ix ix_list (pv 5) pe_int (fun _ _ => rfl)) (pa_cons (pv 1) pa_nil))))))) pss_nil)
    (pss_one (ps_ret (pe_and (pe_cmpR op_eq (pe_callB call_len_seq (by rfl) F.b_len bt_len (pa_cons (pv 5) pa_nil)) (sk_call (D_many_sources F) hr (pa_cons (pv 3) pa_nil)) (nomark _)) (pe_one (pe_callB (cr_all rfl) (by rfl) F.b_all bt_all (pa_cons (pe_lc (own := [("one", 6)]) rfl sc_is_recipe_row.nd (pi_list (pv 5)) (blkOk_by (own := [("one", 6)]) (N := ["thing", "size", "known", "word", "goal", "others", "one"]) (sc := defScope s_is_recipe_row) (by decide +kernel)) (fun _ _ _ _ _ => (pg_name (i := 6) sc_is_recipe_row.nd rfl (by first | exact .inl rfl | exact .inr rfl))) (fun _ _ _ _ _ => pts_nil) (fun _ _ _ _ _ => (pe_and (sk_call (D_is_register F) hr (pa_cons (pv 6) pa_nil)) (pe_one (pe_cmp (pc_din (hu_of hr) (pv 6) (pv 2))))))) pa_nil))))))))), ?_⟩
  -- the register, the word
  obtain ⟨wd, g, rest, er, g24⟩ : ∃ (wd : Str) (g : Nat) (rest : List V), rowV r = .str wd :: .int g :: rest ∧ g < 24 := by
    cases r with
    | set r v => exact ⟨_, _, _, rfl, hrr.1⟩
    | load r v => exact ⟨_, _, _, rfl, hrr.1⟩
    | op o r x y => exact ⟨_, _, _, rfl, hrr.1⟩
    | choose r x y z => exact ⟨_, _, _, rfl, hrr.1⟩
    | _ => exact hrr.elim
  have hp0 : H p = some (.tup (.str wd :: .int g :: rest)) := by rw [← er]; exact hp
  refine rd_seq fun D1 k1 r1 => ?_
  trivial
  refine isi_tt hp0 ?_
  trivial
  refine ⟨_, .inr (SqT.of hp0), ?_⟩
  have l2 : ¬ ((((V.str wd :: V.int g :: rest).length : Nat) : Int) < 2) := by simp only [List.length_cons]; omega
  rw [if_neg l2]
  refine ⟨_, SqT.of hp0, _, at0, ?_⟩
  trivial
  refine ⟨_, SqT.of hp0, _, at1, g, rfl, ?_⟩
  refine iteF' (by omega) (k1 _ _ ?_)
  refine rd_seq fun D2 k2 r2 => ?_
  refine ⟨_, rfl, p, _, rfl, SqT.of hp0, by simp, fun l hl => ⟨_, _, rfl, _, _, rfl, _, _, rfl, rfl, k2 _ _ ?_⟩⟩
  have c1 : Keep [] H (upd H l (.lst rest)) := Keep.new hl
  have c2 : upd H l (.lst rest) l = some (.lst rest) := upd_same
  show tSeq _ _ _ [some (.ref p), some (.int n), some (.ref kd), some (.str wd), some (.int g), some (.ref l), none] (upd H l (.lst rest))
  generalize upd H l (.lst rest) = H1 at c1 c2 ⊢
  refine rd_seq fun D3 k3 r3 => ?_
  trivial
  refine ⟨by decide, fun p3 hp3 => ⟨p3, _, rfl, .inr (SqT.of upd_same), rfl, rfl, ?_⟩⟩
  have c3 : Keep [] H (upd H1 p3 (.tup [.str "set", .str "load"])) := c1.trans (Keep.new hp3)
  have c4 : upd H1 p3 (.tup [.str "set", .str "load"]) l = some (.lst rest) := by rw [upd_ne (ne_of_none c2 hp3)]; exact c2
  generalize upd H1 p3 (.tup [.str "set", .str "load"]) = H2 at c3 c4 ⊢
  have ret : ∀ (Q' : VK) (H' : Hp), Q' = Q → Keep [] H H' → Q' (.bl true) H' := fun Q' H' e k => e ▸ h H' k
  have cas : (∃ v : Int, wd = "set" ∧ rest = [V.int v] ∧ 0 ≤ v ∧ v ≤ 999999) ∨ (∃ a : Nat, wd = "load" ∧ rest = [V.int a] ∧ a < n) ∨ ∃ (o : Option Sk.Op) (ns : List Nat), wd = manyW o ∧ rest = ns.map (fun n => V.int (n : Nat)) ∧ (ns.length : Int) = manyN o ∧ ns.length < 4 ∧ ∀ x ∈ ns, kn x ∧ x < 24 := by
    cases r with
    | set r v =>
      simp only [rowV, List.cons.injEq, V.str.injEq] at er
      exact .inl ⟨v, er.1.symm, er.2.2.symm, hrr.2.1, by have := hrr.2.2; omega⟩
    | load r v =>
      simp only [rowV, List.cons.injEq, V.str.injEq] at er
      exact .inr (.inl ⟨v, er.1.symm, er.2.2.symm, hrr.2⟩)
    | op o r x y =>
      simp only [rowV, List.cons.injEq, V.str.injEq] at er
      refine .inr (.inr ⟨some o, [x, y], er.1.symm, er.2.2.symm, rfl, by simp, ?_⟩)
      simp
      exact ⟨⟨hrr.2.1, hrr.2.2.2.1⟩, hrr.2.2.1, hrr.2.2.2.2⟩
    | choose r x y z =>
      simp only [rowV, List.cons.injEq, V.str.injEq] at er
      refine .inr (.inr ⟨none, [x, y, z], er.1.symm, er.2.2.symm, rfl, by simp, ?_⟩)
      obtain ⟨_, q1, q2, q3, q4, q5, q6⟩ := hrr
      simp
      exact ⟨⟨q1, q4⟩, ⟨q2, q5⟩, q3, q6⟩
    | _ => exact hrr.elim
  clear k1 k2
  rcases cas with ⟨v, rfl, rfl, v0, v1⟩ | ⟨a, rfl, rfl, an⟩ | ⟨o, ns, rfl, rfl, nl, n4, hns⟩
  · rw [in_sl3]
    trivial
    refine ⟨_, .inl (SqL.of c4), ?_⟩
    trivial
    refine iteF' (by simp) ⟨_, SqL.of c4, _, rfl, v, rfl, ?_⟩
    rw [r3, decide_eq_true ⟨v0, v1⟩]
    exact h _ c3
  · rw [in_sl4]
    trivial
    refine ⟨_, .inl (SqL.of c4), ?_⟩
    trivial
    refine iteF' (by simp) ?_
    simp only [sN_load_set]
    trivial
    refine ⟨_, SqL.of c4, _, rfl, _, rfl, ?_⟩
    rw [r3, decide_eq_true ⟨by omega, by omega⟩]
    exact h _ c3
  · rw [show inV (V.str (manyW o)) [V.str "set", V.str "load"] = false from by cases o; exact in_sl2; exact in_sl _]
    trivial
    refine k3 _ _ ?_
    clear k3
    have d1 : H2 kd = some (.dK kvs) := c3.o _ _ hk (by simp)
    refine ⟨_, rfl, l, ns.map (fun n => V.int (n : Nat)), rfl, .inl (SqL.of c4), _, rfl, o, rfl, fun H3 e3 => ⟨rfl, true, ?_, iteT ?_⟩⟩
    · simp [nl]
    have c5 := e3.o _ _ c4 (by simp)
    have d2 := e3.o _ _ d1 (by simp)
    have c6 := c3.trans e3
    refine ⟨_, rfl, l, rfl, ⟨_, SqL.of c5⟩, fun D hD => ?_⟩
    refine lc_list (xs := ns.map (fun n => V.int (n : Nat))) (fun n H' => Keep [] H3 H' ∧ H' D = some (.lst ((List.replicate n true).map V.bl))) ⟨Keep.new hD, upd_same⟩ (fun n H' _ q => SqL.of (q.1.o _ _ c5 (by simp))) ?_ ?_
    · rintro i x H' hx ⟨b1, b2⟩
      obtain ⟨m, hm, rfl⟩ : ∃ m : Nat, m ∈ ns ∧ V.int m = x := by
        have := List.mem_of_getElem? hx
        simpa using this
      refine ⟨rfl, ?_⟩
      trivial
      simp only [tYes, if_true]
      have hm2 := hns m hm
      refine iteT' ⟨by omega, by omega⟩ ⟨_, DGet.k (k := Sum.inl (m : Int)) (b1.o _ _ d2 (by simp)), _, b2, line6 ?_, b1.over hD, ?_⟩
      · have := (List.getElem?_eq_some_iff.mp hx).1
        simp at this ⊢
        omega
      · rw [upd_same, hkn m hm2.1, List.replicate_succ', List.map_append]
        rfl
    · rintro H' ⟨b1, b2⟩
      refine ⟨D, _, rfl, SqL.of b2, ?_⟩
      rw [show ∀ k, (List.replicate k true).all id = true from fun k => by simp]
      exact h _ (c6.trans b1)
end
end Wk
end

section
set_option Elab.async false
set_option linter.all false
set_option maxRecDepth 100000
set_option maxHeartbeats 4000000
/-! the walk: recipes -/
namespace Wk
open PySem PySem.Spec PyProof.Rows L2 StX
local macro_rules | `(tactic| trivial) => `(tactic| try simp only [spInt, spWord, spIdx, spNum, spReg, isi_ii, isi_ib, isi_ss, eq_ii, ne_ii, eq_ss, ne_ss, cxK, wipe, rLenS, rSlL, rSlT, tRevL, tDisp, tPairs, rCat, rRep, rExtend, rAdd, rSub, rSetD, rPop, rAppend, rIxL, rIxT, rSetL, tVar, tC, t2I, tB, tAnd, tOr, tNot, tAndV, tOrV, tNotV, tIf, tNext, tSeq, tDrop, tRet, tRetN, tIfS, tNever, tAsg, tPar, tOp, tUn, rI, rI0, rU, tTest, tChain, tFld, tCon, tNil, tCons, tTup, tLst, tCall, tMeth, tProp, tCB, tSl, tNoPart, tPart, tBM, tBM0, gName, gTup, gNil, gCons, gSub, sFld, L2.start, tDGet, tDIn, tDNotIn, tDNewK, tDNewT, sDPut, tDGet2, and_assoc, exists_and_left, exists_and_right, exists_eq_left', exists_eq_left, exists_eq_right, exists_eq', V.int.injEq, V.str.injEq, V.bl.injEq, V.ref.injEq, List.cons.injEq, and_true, true_and, List.append_nil, List.map_cons, List.map_nil, List.length_cons, List.length_nil, List.cons_append, List.nil_append, Nat.reduceAdd, Nat.reduceSub, List.reduceReplicate, List.getElem?_cons_succ, List.getElem?_cons_zero, List.set_cons_succ, List.set_cons_zero, Option.some.injEq, if_true, Bool.false_eq_true, if_false, decide_eq_true_eq, Bool.not_true, Bool.not_false, Bool.not_eq_true', decide_eq_false_iff_not, decide_true, decide_false, Bool.true_and, Bool.and_true, Bool.false_and, Int.reduceEq, Int.reduceLT, Int.reduceLE, Int.reduceNeg, reduceCtorEq, not_false_eq_true, not_true_eq_false])
structure RecOk (n : Nat) (r : Rec) : Prop where
  rows : Sk.RecRows n (fun _ => False) r.1 r.2
  len : r.1.length ≤ 100
def spRec : Sp := fun vs H Q _ => ∃ (p : Addr) (r : Rec) (n : Nat), vs = [V.ref p, V.int n] ∧ RecA H p r ∧ RecOk n r ∧ ∀ H', Keep [] H H' → Q (.bl true) H'
section
variable {P : Program} {w : World} {K : PySem.W.Frag} {mg : Str → Option Value} {base : Heap}
theorem D_is_recipe (F : Fx K mg) : Dn P w K mg base 5 "is_recipe" ["thing", "size"] spRec := by
  refine dn_mk F.f_is_recipe F.g_is_recipe sc_is_recipe (fun _ _ _ _ _ _ us hl => match us, hl with | [_, _], _ => rfl) (by rintro vs H Q E ⟨_, _, _, rfl, _⟩; rfl) ?_
  rintro cdv A outer s H vs Q E hr ⟨p, r, n, rfl, ⟨q, hp, us, hq, hrows⟩, ok, h⟩
  refine ⟨_, (pss_cons (ps_if (PW.pt (pw_or (pt_not (pt_val (pe_callB call_isi (by rfl) F.b_isinstance bt_isi (pa_cons (pv 0) (pa_cons (sk_ty F.b_tuple bt_tuple) pa_nil))))) (pw_or (pt_cmpR op_ne (pe_callB call_len_seq (by rfl) F.b_len bt_len (pa_cons (pv 0) pa_nil)) (sk_gi F.i_RECIPE_PARTS) (nomark _)) (pw_or1 (pt_not (pt_val (pe_callB call_isi (by rfl) F.b_isinstance bt_isi (pa_cons (pe_ix ix_tup (pv 0) pe_int (fun _ _ => rfl)) (pa_cons (sk_ty F.b_tuple bt_tuple) pa_nil))))))))) (pss_one (ps_ret pe_bl)) pss_nil)
    (pss_cons (ps_asg (pv 0) (pg_tup (by rfl) (pgs_cons (pg_name (i := 2) sc_is_recipe.nd rfl (by first | exact .inl rfl | exact .inr rfl)) (pgs_cons (pg_name (i := 3) sc_is_recipe.nd rfl (by first | exact .inl rfl | exact .inr rfl)) pgs_nil))))
    (pss_cons (ps_set (i := 4) sc_is_recipe.nd rfl (by first | exact .inl rfl | exact .inr rfl) pe_dnewK)
    (pss_cons (ps_for PassesOwn.never rfl (pi_tup (pv 2)) (pg_name (i := 5) sc_is_recipe.nd rfl (by first | exact .inl rfl | exact .inr rfl)) (pss_cons (ps_if (pt_not (pt_val (sk_call (D_is_recipe_row F) hr (pa_cons (pv 5) (pa_cons (pv 1) (pa_cons (pv 4) pa_nil)))))) (pss_one (ps_ret pe_bl)) pss_nil)
    (pss_one (ps_dput (hu_of hr) (pv 4) (pe_ix ix_tup (pv 5) pe_int (fun _ _ => rfl)) pe_bl rfl))))
    (pss_one (ps_ret (pe_and (sk_call (D_is_register F) hr (pa_cons (pv 3) pa_nil)) (pe_one (pe_cmp (pc_din (hu_of hr) (pv 3) (pv 4))))))))))), ?_⟩
  refine rd_seq fun D1 k1 r1 => ?_
  trivial
  refine isi_tt hp ?_
  trivial
  refine ⟨_, .inr (SqT.of hp), ?_⟩
  trivial
  refine iteF' (by simp) ⟨_, SqT.of hp, _, rfl, isi_tt hq ⟨_, rfl, iteF' (by simp) (k1 _ _ ?_)⟩⟩
  clear k1
  refine rd_seq fun D2 k2 r2 => ?_
  refine ⟨_, rfl, p, _, rfl, SqT.of hp, rfl, _, _, rfl, _, _, rfl, rfl, k2 _ _ ?_⟩
  clear k2
  refine rd_seq fun D3 k3 r3 => ?_
  refine fun kd hkd => k3 _ _ ?_
  clear k3
  refine rd_seq fun D4 k4 r4 => ?_
  have c1 : Keep [] H (upd H kd (.dK [])) := Keep.new hkd
  have c2 : upd H kd (.dK []) kd = some (.dK []) := upd_same
  refine ⟨_, rfl, q, rfl, ⟨_, SqT.of (c1.t _ _ hq)⟩, ?_⟩
  refine for_tup (xs := us) (fun i σ H' => Keep [] H H' ∧ (∃ (kvs : List (Key × V)) (kn : Nat → Prop), H' kd = some (.dK kvs) ∧ kvs.length ≤ i ∧ (∀ x : Nat, kn x → (valV kvs (Sum.inl (x : Int))).isSome = true) ∧ Sk.RecRows n kn (r.1.drop i) r.2) ∧ ∃ o, σ = [some (.ref p), some (.int n), some (.ref q), some (.int r.2), some (.ref kd), o])
    ⟨c1, ⟨[], fun _ => False, c2, Nat.le_refl _, fun _ h => h.elim, ok.rows⟩, _, rfl⟩ (fun i σ H' _ g => SqT.of (g.1.t _ _ hq)) ?_ ?_
  · rintro i x σ H' hx ⟨d1, ⟨kvs, kn, d2, d3, d4, d5⟩, o, rfl⟩
    obtain ⟨a, row, rfl, hrow, ha⟩ := hrows.get hx
    have il : i < r.1.length := (List.getElem?_eq_some_iff.mp hrow).1
    have dr : r.1.drop i = row :: r.1.drop (i + 1) := by
      rw [List.drop_eq_getElem_cons il]
      rw [List.getElem?_eq_getElem il] at hrow
      rw [Option.some.inj hrow]
    rw [dr] at d5
    have ha2 := RowA.keep ha d1
    trivial
    refine ⟨a, kd, row, n, kvs, kn, rfl, ha2, d2, d4, d5.1, fun H2 e1 => ⟨_, rfl, ?_⟩⟩
    trivial
    obtain ⟨wd, rest, er⟩ : ∃ (wd : Str) (rest : List V), rowV row = .str wd :: .int (Sk.goal row : Nat) :: rest := by
      cases row <;> exact ⟨_, _, rfl⟩
    have ha3 : H2 a = some (.tup (.str wd :: .int (Sk.goal row : Nat) :: rest)) := by rw [← er]; exact RowA.keep ha2 e1
    have d6 := e1.o _ _ d2 (by simp)
    refine ⟨_, SqT.of ha3, _, at1, _, DPut.k (k := Sum.inl ((Sk.goal row : Nat) : Int)) d6 (line6 (by have := ok.len; omega)), ?_⟩
    refine ⟨(d1.trans e1).over hkd, _, upd_same, Nat.le_trans (length_putK _ _ _) (by omega), _, ?_, d5.2⟩
    intro x hx
    rw [valV_put]
    rcases hx with rfl | hx
    · simp
    · split
      · rfl
      · exact d4 x hx
  · rintro σ H' ⟨d1, ⟨kvs, kn, d2, d3, d4, d5⟩, o, rfl⟩
    rw [hrows.len, List.drop_length] at d5
    refine k4 _ _ ?_
    clear k4
    trivial
    refine iteT' ⟨by omega, by have := d5.1; omega⟩ ⟨_, DGet.k (k := Sum.inl (r.2 : Int)) d2, ?_⟩
    rw [d4 _ d5.2]
    exact h _ d1
end
/-! as data -/
def vD : V → PyData
  | .int i => .int i
  | .str x => .str x
  | _ => .none
def rowD (r : Sk.Rw) : PyData := .tuple ((rowV r).map vD)
def recD (r : Rec) : PyData := .tuple [.tuple (r.1.map rowD), .int r.2]
def flatIS : V → Bool
  | .int _ => true
  | .str x => PyData.strOk x
  | _ => false
theorem dp_flat {K : PySem.W.Frag} {H : Hp} : ∀ vs : List V, vs.all flatIS = true → DpAll K H vs (vs.map vD)
  | [], _ => .nil
  | v :: vs, h => by
    simp only [List.all_cons, Bool.and_eq_true] at h
    refine .cons ?_ (dp_flat vs h.2)
    cases v with
    | int i => exact .int i
    | str x => exact .str x
    | _ => cases h.1
theorem lay_flat : ∀ vs : List V, vs.all flatIS = true → PyData.canLayAll0 (vs.map vD) = true ∧ PyData.depthAll (vs.map vD) = 0
  | [], _ => ⟨rfl, rfl⟩
  | v :: vs, h => by
    simp only [List.all_cons, Bool.and_eq_true] at h
    obtain ⟨h1, h2⟩ := lay_flat vs h.2
    cases v with
    | int i => exact ⟨by simp [PyData.canLayAll0, vD, PyData.canLay0, h1], by simp [PyData.depthAll, vD, PyData.depth, h2]⟩
    | str x => exact ⟨by simp [PyData.canLayAll0, vD, PyData.canLay0, h1]; exact h.1, by simp [PyData.depthAll, vD, PyData.depth, h2]⟩
    | _ => cases h.1
theorem row_flat (r : Sk.Rw) : (rowV r).all flatIS = true := by
  cases r with
  | op o r s t => cases o <;> (simp only [rowV, List.all_cons, List.all_nil, flatIS, opS, Bool.and_true]; decide +kernel)
  | _ => simp only [rowV, List.all_cons, List.all_nil, flatIS, Bool.and_true]; decide +kernel
theorem dp_row {K : PySem.W.Frag} {H : Hp} {p : Addr} {r : Sk.Rw} (h : RowA H p r) : Dp K H (.ref p) (rowD r) := .tup (SqT.of h) (dp_flat _ (row_flat r))
theorem dp_each {α : Type} {K : PySem.W.Frag} {H : Hp} {R : Addr → α → Prop} (f : α → PyData) (hf : ∀ a x, R a x → Dp K H (.ref a) (f x)) {vs : List V} {xs : List α} (h : Each R vs xs) : DpAll K H vs (xs.map f) := by
  induction h with
  | nil => exact .nil
  | cons h t ih => exact .cons (hf _ _ h) ih
theorem lay_all {α : Type} (f : α → PyData) {d : Nat} : ∀ xs : List α, (∀ x ∈ xs, (f x).canLay0 = true ∧ (f x).depth ≤ d) → PyData.canLayAll0 (xs.map f) = true ∧ PyData.depthAll (xs.map f) ≤ d
  | [], _ => ⟨rfl, Nat.zero_le _⟩
  | x :: xs, h => by
    obtain ⟨h1, h2⟩ := lay_all f xs fun y hy => h y (List.mem_cons_of_mem _ hy)
    obtain ⟨h3, h4⟩ := h x List.mem_cons_self
    refine ⟨by simp [PyData.canLayAll0, h1, h3], ?_⟩
    simp only [List.map_cons, PyData.depthAll]
    omega
theorem lay_row (r : Sk.Rw) : (rowD r).canLay0 = true ∧ (rowD r).depth ≤ 1 := by
  obtain ⟨h1, h2⟩ := lay_flat _ (row_flat r)
  exact ⟨by simpa [rowD, PyData.canLay0] using h1, by simp [rowD, PyData.depth, h2]⟩
theorem lay_rec (r : Rec) : (recD r).canLay0 = true ∧ (recD r).depth ≤ 3 := by
  obtain ⟨h1, h2⟩ := lay_all rowD (d := 1) r.1 fun x _ => lay_row x
  exact ⟨by simp [recD, PyData.canLay0, PyData.canLayAll0, h1], by simp [recD, PyData.depth, PyData.depthAll]; omega⟩
theorem lay_recs (rs : List Rec) : SeqAt.shaped (.tuple (rs.map recD)) = true := by
  obtain ⟨h1, h2⟩ := lay_all recD (d := 3) rs fun x _ => lay_rec x
  simp [SeqAt.shaped, PyData.canLay0, PyData.depth, h1]
  omega
theorem dp_rec {K : PySem.W.Frag} {H : Hp} {p : Addr} {r : Rec} (h : RecA H p r) : Dp K H (.ref p) (recD r) := by
  obtain ⟨q, h1, vs, h2, h3⟩ := h
  exact .tup (SqT.of h1) (.cons (.tup (SqT.of h2) (dp_each rowD (fun _ _ e => dp_row e) h3)) (.cons (.int _) .nil))
theorem dp_recs {K : PySem.W.Frag} {H : Hp} {p : Addr} {rs : List Rec} (h : RecsA H p rs) : Dp K H (.ref p) (.tuple (rs.map recD)) := by
  obtain ⟨vs, h2, h3⟩ := h
  exact .tup (SqT.of h2) (dp_each recD (fun _ _ e => dp_rec e) h3)
def spRecs : Sp := fun vs H Q _ => ∃ (p : Addr) (rs : List Rec), vs = [V.ref p] ∧ RecsA H p rs ∧ rs ≠ [] ∧ rs.length ≤ 10 ∧ (∀ r ∈ rs, RecOk rs.length r) ∧ ∀ H', Keep [] H H' → Q (.bl true) H'
section
variable {P : Program} {w : World} {K : PySem.W.Frag} {mg : Str → Option Value} {base : Heap}
theorem D_is_recipes (F : Fx K mg) : Dn P w K mg base 6 "is_recipes" ["thing"] spRecs := by
  refine dn_mk F.f_is_recipes F.g_is_recipes sc_is_recipes (fun _ _ _ _ _ _ us hl => match us, hl with | [_], _ => rfl) (by rintro vs H Q E ⟨_, _, rfl, _⟩; rfl) ?_
  rintro cdv A outer s H vs Q E hr ⟨p, rs, rfl, hp, n0, n10, ok, h⟩
  refine ⟨_, (pss_one (ps_ret (pe_and (pe_callB call_isi (by rfl) F.b_isinstance bt_isi (pa_cons (pv 0) (pa_cons (sk_ty F.b_tuple bt_tuple) pa_nil))) (pe_and (pe_cmpR (op_neD hr.units) (pv 0) (pe_tup pa_nil) (nomark _)) (pe_one (pe_callB (cr_all rfl) (by rfl) F.b_all bt_all (pa_cons (pe_lc (own := [("one", 1)]) rfl sc_is_recipes.nd (pi_tup (pv 0)) (blkOk_by (own := [("one", 1)]) (N := ["thing", "one"]) (sc := defScope s_is_recipes) (by decide +kernel)) (fun _ _ _ _ _ => (pg_name (i := 1) sc_is_recipes.nd rfl (by first | exact .inl rfl | exact .inr rfl))) (fun _ _ _ _ _ => pts_nil) (fun _ _ _ _ _ => (sk_call (D_is_recipe F) hr (pa_cons (pv 1) (pa_cons (pe_callB (call_lenK (K := K)) (by rfl) F.b_len bt_len (pa_cons (pv 0) pa_nil)) pa_nil))))) pa_nil))))))), ?_⟩
  obtain ⟨vs, hp1, hp2⟩ := id hp
  trivial
  refine isi_tt hp1 ?_
  trivial
  refine ⟨by decide, fun q hq => ?_⟩
  have c1 : Keep [] H (upd H q (.tup [])) := Keep.new hq
  refine ⟨.tuple (rs.map recD), .tuple [], dp_recs (hp.keep c1), .tup (SqT.of upd_same) .nil, lay_recs rs, rfl, ?_⟩
  generalize upd H q (.tup []) = H1 at c1 ⊢
  have ne : PyData.eqv (.tuple (rs.map recD)) (.tuple []) = false := by
    cases rs with
    | nil => exact absurd rfl n0
    | cons r rs => rfl
  rw [ne]
  trivial
  have hp3 := c1.t _ _ hp1
  refine ⟨_, rfl, p, rfl, ⟨_, SqT.of hp3⟩, fun D hD => ?_⟩
  refine lc_tup (xs := vs) (fun n H' => Keep [] H1 H' ∧ H' D = some (.lst ((List.replicate n true).map V.bl))) ⟨Keep.new hD, upd_same⟩ (fun n H' _ q => SqT.of (q.1.t _ _ hp3)) ?_ ?_
  · rintro i x H' hx ⟨b1, b2⟩
    obtain ⟨a, r, rfl, hrow, ha⟩ := hp2.get hx
    have il : i < rs.length := (List.getElem?_eq_some_iff.mp hrow).1
    refine ⟨rfl, ?_⟩
    trivial
    simp only [tYes, if_true]
    have k2 := c1.trans b1
    refine ⟨_, .inr (SqT.of (b1.t _ _ hp3)), a, r, rs.length, by rw [hp2.len], RecA.keep ha k2, ok r (List.mem_of_getElem? hrow), fun H2 e1 => ⟨_, e1.o _ _ b2 (by simp), line6 (by simp; omega), (b1.trans e1).over hD, ?_⟩⟩
    rw [upd_same, List.replicate_succ', List.map_append]
    rfl
  · rintro H' ⟨b1, b2⟩
    refine ⟨D, _, rfl, SqL.of b2, ?_⟩
    rw [show ∀ k, (List.replicate k true).all id = true from fun k => by simp]
    exact h _ (c1.trans b1)
end
end Wk
end

section
set_option Elab.async false
set_option linter.all false
set_option maxRecDepth 100000
set_option maxHeartbeats 4000000
/-! the walk: lists of pieces -/
namespace Wk
open PySem PySem.Spec PyProof.Rows L2 StX
def PiecesL (H : Hp) (l : Addr) (rss : List (List Sk.Rw)) : Prop := ∃ vs, H l = some (.lst vs) ∧ Each (RowsL H) vs rss
theorem PiecesL.keep0 {H H' : Hp} {l : Addr} {rss : List (List Sk.Rw)} (h : PiecesL H l rss) (k : Keep [] H H') : PiecesL H' l rss := by
  obtain ⟨vs, h1, h2⟩ := h
  exact ⟨vs, k.o _ _ h1 (by simp), h2.mono fun _ _ e => RowsL.keep e k (by simp)⟩
theorem PiecesL.keep {H H' : Hp} {l g C dx : Addr} {fs : List (Str × V)} {rss : List (List Sk.Rw)} (h : PiecesL H l rss) (k : Keep [g] H H') (hg : H g = some (.ins C dx fs)) : PiecesL H' l rss := by
  obtain ⟨vs, h1, h2⟩ := h
  refine ⟨vs, k.o _ _ h1 ?_, h2.mono fun a _ e => RowsL.keep e k ?_⟩
  · have := ne_of h1 hg (by intro z; cases z)
    simpa using this
  · obtain ⟨us, e1, _⟩ := e
    have := ne_of e1 hg (by intro z; cases z)
    simpa using this
section
variable {K : PySem.W.Frag} {te te0 : TE} {ta : TA} {σ : L2.St} {H : Hp} {Q : VK} {i j n : Nat}
/-- [piece(copy) for copy in range(n)] -/
theorem pieces_comp (f : Nat → List Sk.Rw) (hta : ∀ R, R [.int (n : Nat)] H → ta σ H R) (hn : n ≤ 1000)
    (hte : ∀ i, i < n → ∀ (H2 : Hp) (Q : VK), Keep [] H H2 → (∀ l H', Keep [] H2 H' → H2 l = none → RowsL H' l (f i) → Q (.ref l) H') → te ((wipe σ [j]).set j (some (.int (i : Nat)))) H2 Q) (hw : ∀ v, wipe ((wipe σ [j]).set j (some v)) [j] = wipe σ [j])
    (k : ∀ D H', Keep [] H H' → H D = none → PiecesL H' D ((List.range n).map f) → Q (.ref D) H') : tLc (iRng1 ta) (gName j) tYes te [j] σ H Q := by
  refine hta _ ⟨n, rfl, by omega, by omega, fun D hD => ?_⟩
  rw [show ((n : Nat) : Int).toNat = n from rfl]
  refine lc_range (lo := 0) (n := n) (fun m H' => Keep [] H H' ∧ ∃ us, H' D = some (.lst us) ∧ Each (fun a rs => a ≠ D ∧ RowsL H' a rs) us ((List.range m).map f)) ⟨Keep.new hD, [], upd_same, .nil⟩ ?_ ?_
  · rintro m H' hm ⟨k1, us, u1, u2⟩
    refine ⟨hw _, ?_⟩
    simp only [tYes, if_true]
    rw [show (0 : Int) + (m : Nat) = (m : Nat) from by omega]
    refine hte m hm H' _ k1 fun l H2 k2 hl h2 => ⟨us, k2.o _ _ u1 (by simp), line6 ?_, (k1.trans k2).over hD, ?_⟩
    · rw [u2.len]
      simp
      omega
    · have k3 : Keep [D] H2 (upd H2 D (.lst (us ++ [.ref l]))) := Keep.at (k2.o _ _ u1 (by simp)) rfl (by simp)
      refine ⟨_, upd_same, ?_⟩
      rw [List.range_succ, List.map_append]
      exact (u2.mono fun a rs e => ⟨e.1, (RowsL.keep e.2 k2 (by simp)).keep k3 (by simpa using e.1)⟩).append (Each.one ⟨(ne_of_none u1 hl).symm, h2.keep k3 (by simpa using (ne_of_none u1 hl).symm)⟩)
  · rintro H' ⟨k1, us, u1, u2⟩
    exact k D H' k1 hD ⟨us, u1, u2.mono fun _ _ e => e.2⟩
theorem flat_take {α : Type} {rss : List (List α)} {n : Nat} {rs : List α} (h : rss[n]? = some rs) : (rss.take (n + 1)).flatten = (rss.take n).flatten ++ rs := by
  rw [List.take_succ, h, List.flatten_append]
  simp
theorem flat_le {α : Type} {rss : List (List α)} {n m : Nat} {rs : List α} (h : rss[n]? = some rs) (hm : m ≤ rs.length) : (rss.take n).flatten.length + m ≤ rss.flatten.length := by
  have e : rss.flatten = (rss.take (n + 1)).flatten ++ (rss.drop (n + 1)).flatten := by rw [← List.flatten_append, List.take_append_drop]
  rw [e, flat_take h]
  simp only [List.length_append]
  omega
/-- [row for piece in pieces for row in piece] -/
theorem rows_flat {rss : List (List Sk.Rw)} (h0 : ∀ Q' : VK, (∀ p H1, Keep [] H H1 → PiecesL H1 p rss → Q' (.ref p) H1) → te0 σ H Q') (hl : rss.flatten.length ≤ 1000000)
    (s1 : ∀ v, ((wipe σ [i, j]).set i (some v))[i]? = some (some v)) (s2 : ∀ v, wipe ((wipe σ [i, j]).set i (some v)) [i, j] = wipe σ [i, j])
    (s3 : ∀ v u, ((wipe ((wipe σ [i, j]).set i (some v)) [j]).set j (some u))[j]? = some (some u)) (s4 : ∀ v u, wipe ((wipe ((wipe σ [i, j]).set i (some v)) [j]).set j (some u)) [j] = wipe ((wipe σ [i, j]).set i (some v)) [j])
    (k : ∀ D H', Keep [] H H' → RowsL H' D rss.flatten → Q (.ref D) H') : tLc2 (iList K te0) (gName i) tYes (iList K (tVar i)) (gName j) tYes (tVar j) [i, j] [j] σ H Q := by
  refine h0 _ fun p H1 k0 ⟨vs, hp1, hp2⟩ => ⟨p, rfl, ⟨_, SqL.of hp1⟩, fun D hD => ?_⟩
  refine ⟨fun n m H' => m = rss.length - n ∧ n ≤ rss.length ∧ Keep [] H1 H' ∧ RowsL H' D (rss.take n).flatten, ⟨_, rfl, Nat.zero_le _, Keep.new hD, [], upd_same, by simp; exact .nil⟩, ?_⟩
  rintro n m H' ⟨rfl, hn, c1, c2⟩
  have hp3 := c1.o _ _ hp1 (by simp)
  rcases Nat.lt_or_ge n rss.length with hlt | hge
  · obtain ⟨rs, hrs⟩ : ∃ rs, rss[n]? = some rs := ⟨_, List.getElem?_eq_getElem hlt⟩
    obtain ⟨a, ha, hr⟩ := hp2.get' hrs
    refine .inr ⟨⟨vs, .ref a, SqL.of hp3, ha⟩, fun H' => n + 1 ≤ rss.length ∧ Keep [] H1 H' ∧ RowsL H' D (rss.take (n + 1)).flatten, fun H2 q => ⟨rss.length - (n + 1), by omega, rfl, q⟩, ?_⟩
    rintro x H2 ⟨rfl, y⟩
    have ex : x = .ref a := by
      have := y vs (SqL.of hp3)
      rw [ha] at this
      exact (Option.some.inj this).symm
    subst ex
    refine ⟨s2 _, ?_⟩
    simp only [tYes, if_true]
    have hr2 : RowsL H2 a rs := hr.keep c1 (by simp)
    obtain ⟨ws, hw1, hw2⟩ := hr2
    refine ⟨_, s1 _, a, rfl, ⟨_, SqL.of hw1⟩, ?_⟩
    refine ⟨fun n' m' H' => m' = rs.length - n' ∧ n' ≤ rs.length ∧ Keep [] H1 H' ∧ RowsL H' D ((rss.take n).flatten ++ rs.take n'), ⟨_, rfl, Nat.zero_le _, c1, by simpa using c2⟩, ?_⟩
    rintro n' m' H3 ⟨rfl, hn', d1, us, d2, d3⟩
    have aD : a ≠ D := by
      obtain ⟨_, e, _⟩ := hr
      exact ne_of_none e hD
    have hw3 : H3 a = some (.lst ws) := by
      obtain ⟨ws', e1, _⟩ := hr
      have e2 := c1.o _ _ e1 (by simp)
      have e3 := d1.o _ _ e1 (by simp)
      rw [hw1] at e2
      rw [e3, ← e2]
    rcases Nat.lt_or_ge n' rs.length with hlt' | hge'
    · obtain ⟨r, hr'⟩ : ∃ r, rs[n']? = some r := ⟨_, List.getElem?_eq_getElem hlt'⟩
      obtain ⟨b, hb, hbr⟩ := hw2.get' hr'
      refine .inr ⟨⟨ws, .ref b, SqL.of hw3, hb⟩, fun H' => n' + 1 ≤ rs.length ∧ Keep [] H1 H' ∧ RowsL H' D ((rss.take n).flatten ++ rs.take (n' + 1)), fun H2 q => ⟨rs.length - (n' + 1), by omega, rfl, q⟩, ?_⟩
      rintro x H4 ⟨rfl, y⟩
      have ex : x = .ref b := by
        have := y ws (SqL.of hw3)
        rw [hb] at this
        exact (Option.some.inj this).symm
      subst ex
      refine ⟨s4 _ _, ?_⟩
      simp only [tYes, if_true]
      refine ⟨_, s3 _ _, us, d2, ?_, by omega, d1.over hD, ?_⟩
      · rw [d3.len]
        refine line6 ?_
        have := flat_le hrs (Nat.succ_le_of_lt hlt')
        rw [List.length_append, List.length_take]
        omega
      · have k3 : Keep [D] H4 (upd H4 D (.lst (us ++ [.ref b]))) := Keep.at d2 rfl (by simp)
        refine ⟨_, upd_same, ?_⟩
        rw [List.take_succ, hr', ← List.append_assoc]
        refine (d3.mono fun _ _ e => RowA.keep e k3).append (Each.one (RowA.keep ?_ k3))
        obtain ⟨ws', e1, e2⟩ := hr
        have e3 := c1.o _ _ e1 (by simp)
        rw [hw1] at e3
        cases e3
        obtain ⟨b', hb', hbr'⟩ := e2.get' hr'
        rw [hb] at hb'
        cases hb'
        exact RowA.keep hbr' d1
    · obtain rfl : n' = rs.length := by omega
      refine .inl ⟨⟨ws, SqL.of hw3, by rw [hw2.len]; exact Nat.le_refl _⟩, by omega, d1, ?_⟩
      rw [flat_take hrs]
      rw [List.take_length] at d3
      exact ⟨us, d2, d3⟩
  · obtain rfl : n = rss.length := by omega
    refine .inl ⟨⟨vs, SqL.of hp3, by rw [hp2.len]; exact Nat.le_refl _⟩, k D H' (k0.trans c1) ?_⟩
    rw [List.take_length] at c2
    exact c2
end
end Wk
end

section
set_option Elab.async false
set_option linter.all false
set_option maxRecDepth 100000
set_option maxHeartbeats 4000000
/-! the walk: rings -/
namespace Wk
open PySem PySem.Spec PyProof.Rows L2 StX
local macro_rules | `(tactic| trivial) => `(tactic| try simp only [spInt, spWord, spIdx, spNum, spReg, isi_ii, isi_ib, isi_ss, eq_ii, ne_ii, eq_ss, ne_ss, cxK, wipe, rLenS, rSlL, rSlT, tRevL, tDisp, tPairs, rCat, rRep, rExtend, rAdd, rSub, rSetD, rPop, rAppend, rIxL, rIxT, rSetL, tVar, tC, t2I, tB, tAnd, tOr, tNot, tAndV, tOrV, tNotV, tIf, tNext, tSeq, tDrop, tRet, tRetN, tIfS, tNever, tAsg, tPar, tOp, tUn, rI, rI0, rU, tTest, tChain, tFld, tCon, tNil, tCons, tTup, tLst, tCall, tMeth, tProp, tCB, tSl, tNoPart, tPart, tBM, tBM0, gName, gTup, gNil, gCons, gSub, sFld, L2.start, tDGet, tDIn, tDNotIn, tDNewK, tDNewT, sDPut, tDGet2, and_assoc, exists_and_left, exists_and_right, exists_eq_left', exists_eq_left, exists_eq_right, exists_eq', V.int.injEq, V.str.injEq, V.bl.injEq, V.ref.injEq, List.cons.injEq, and_true, true_and, List.append_nil, List.map_cons, List.map_nil, List.length_cons, List.length_nil, List.cons_append, List.nil_append, Nat.reduceAdd, Nat.reduceSub, List.reduceReplicate, List.getElem?_cons_succ, List.getElem?_cons_zero, List.set_cons_succ, List.set_cons_zero, Option.some.injEq, if_true, Bool.false_eq_true, if_false, decide_eq_true_eq, Bool.not_true, Bool.not_false, Bool.not_eq_true', decide_eq_false_iff_not, decide_true, decide_false, Bool.true_and, Bool.and_true, Bool.false_and, Int.reduceEq, Int.reduceLT, Int.reduceLE, Int.reduceNeg, reduceCtorEq, not_false_eq_true, not_true_eq_false])
theorem pe_no {X : Cx} {e : Expr} : PE X e (fun _ _ _ => False) := ⟨fun _ _ _ _ _ _ h => h.elim⟩
def ringF (rp : Addr) (e k : Int) (pl rl : Addr) : List (Str × V) := [("recipes_given", .ref rp), ("faults_withstood", .int e), ("copy_count", .int k), ("piece_lengths", .ref pl), ("row_list", .ref rl)]
section
variable (rp : Addr) (e k : Int) (pl rl : Addr)
theorem ringF_1 : (ringF rp e k pl rl).lookup ("recipes_given" : Str) = some (.ref rp) := by kernel_rfl
theorem ringF_2 : (ringF rp e k pl rl).lookup ("faults_withstood" : Str) = some (.int e) := by kernel_rfl
theorem ringF_3 : (ringF rp e k pl rl).lookup ("copy_count" : Str) = some (.int k) := by kernel_rfl
theorem ringF_4 : (ringF rp e k pl rl).lookup ("piece_lengths" : Str) = some (.ref pl) := by kernel_rfl
theorem ringF_5 : (ringF rp e k pl rl).lookup ("row_list" : Str) = some (.ref rl) := by kernel_rfl
theorem ringF_n1 : (ringF rp e k pl rl).lookup ("piece_at" : Str) = none := by kernel_rfl
theorem ringF_n2 : (ringF rp e k pl rl).lookup ("first_memory" : Str) = none := by kernel_rfl
theorem ringF_n3 : (ringF rp e k pl rl).lookup ("REGISTERS" : Str) = none := by kernel_rfl
theorem ringP_1 : putF "recipes_given" (.ref rp) [] = [(("recipes_given" : Str), V.ref rp)] := by kernel_rfl
theorem ringP_2 : putF "faults_withstood" (.int e) [(("recipes_given" : Str), V.ref rp)] = [(("recipes_given" : Str), V.ref rp), ("faults_withstood", .int e)] := by kernel_rfl
theorem ringP_3 : putF "copy_count" (.int k) [(("recipes_given" : Str), V.ref rp), ("faults_withstood", .int e)] = [(("recipes_given" : Str), V.ref rp), ("faults_withstood", .int e), ("copy_count", .int k)] := by kernel_rfl
theorem ringP_4 : putF "piece_lengths" (.ref pl) [(("recipes_given" : Str), V.ref rp), ("faults_withstood", .int e), ("copy_count", .int k)] = [(("recipes_given" : Str), V.ref rp), ("faults_withstood", .int e), ("copy_count", .int k), ("piece_lengths", .ref pl)] := by kernel_rfl
theorem ringP_5 : putF "row_list" (.ref rl) [(("recipes_given" : Str), V.ref rp), ("faults_withstood", .int e), ("copy_count", .int k), ("piece_lengths", .ref pl)] = ringF rp e k pl rl := by kernel_rfl
theorem ringL_3 : List.lookup ("copy_count" : Str) [(("recipes_given" : Str), V.ref rp), ("faults_withstood", .int e), ("copy_count", .int k)] = some (.int k) := by kernel_rfl
end
/-- the ring at g, its rows at rl -/
def RingA (K : PySem.W.Frag) (H : Hp) (g rl : Addr) (C : Sk.Cfg) : Prop := ∃ dx rp pl, H g = some (.ins (ga K "Ring") dx (ringF rp C.e C.K pl rl)) ∧ RecsA H rp C.recs ∧ H pl = some (.tup [.int C.lp, .int C.lq]) ∧ RowsT H rl (Sk.ringRows C)
theorem RingA.keep {K : PySem.W.Frag} {S : List Addr} {H H' : Hp} {g rl : Addr} {C : Sk.Cfg} (h : RingA K H g rl C) (k : Keep S H H') (n : g ∉ S) : RingA K H' g rl C := by
  obtain ⟨dx, rp, pl, h1, h2, h3, h4⟩ := h
  exact ⟨dx, rp, pl, k.o _ _ h1 n, h2.keep k, k.t _ _ h3, h4.keep k⟩
structure Valid (C : Sk.Cfg) : Prop extends Fits C where
  n1 : 1 ≤ C.n
  k1 : 1 ≤ C.K
  e3 : C.e ≤ 3
  recs : ∀ r ∈ C.recs, RecOk C.n r
theorem lp_eq (C : Sk.Cfg) : C.lp = 14 + (Sk.wordsR (C.oldA 0) (C.newA 0) 0 C.recs).length := by
  unfold Sk.Cfg.lp Sk.Cfg.pieceP
  simp [Sk.countR]
  omega
theorem lq_eq (C : Sk.Cfg) : C.lq = 3 + C.K * (12 + 2 * C.K) := by
  unfold Sk.Cfg.lq Sk.Cfg.pieceQ
  simp only [List.length_append, votes_bd, List.length_cons, List.length_nil]
  omega
theorem L_le {C : Sk.Cfg} (B : Fits C) : C.L ≤ 100000 := by
  have h1 := words_bd (C.oldA 0) (C.newA 0) C.recs 0 B.r100
  have h2 := B.n10
  have h3 := B.k16
  have h4 := B.len
  have h5 : C.lp ≤ 1054 := by rw [lp_eq]; omega
  have h6 : C.lq ≤ 707 := by
    rw [lq_eq]
    have : C.K * (12 + 2 * C.K) ≤ 16 * 44 := Nat.mul_le_mul h3 (by omega)
    omega
  have h7 : C.K * C.lp ≤ 16 * 1054 := Nat.mul_le_mul h3 h5
  have h8 : C.K * C.lq ≤ 16 * 707 := Nat.mul_le_mul h3 h6
  unfold Sk.Cfg.L
  omega
def spRing (K : PySem.W.Frag) : Sp := fun vs H Q _ => ∃ (C : Sk.Cfg) (g dx rp : Addr), vs = [V.ref g, V.ref rp, V.int C.e, V.int C.K] ∧ H g = some (.ins (ga K "Ring") dx []) ∧ Valid C ∧ RecsA H rp C.recs ∧ ∀ rl H', RingA K H' g rl C → Keep [g] H H' → Q .non H'
section
variable {P : Program} {w : World} {K : PySem.W.Frag} {mg : Str → Option Value} {base : Heap}
theorem D_Ring_init (F : Fx K mg) : ∃ f fd g, Mk K (ga K "Ring") f ∧ KBn K fd ["self", "recipes", "faults", "copies"] 2 ["faults", "copies"] g (fun vs zs => vs ++ zs) ∧ FnOk P w K mg base CX0 7 f fd ["self", "recipes", "faults", "copies"] (spRing K) := by
  obtain ⟨fd, FD⟩ := F.f_Ring_init
  obtain ⟨mv, hb⟩ := FD.kbinds0 (ps := ["self", "recipes", "faults", "copies"]) 2 ["faults", "copies"] [] (fun us mv ws => us ++ ws) (by simp [He.DefD.kws, d_Ring_init]) (fun q h => nomatch h) (fun r1 _ r3 => r1.append r3) (fun D doc pm an cdv ct us mv ws h1 h2 h3 => by
    match us, h1, mv, h2, ws, h3 with
    | [_, _], _, [], _, [_, _], _ => exact rfl)
  refine ⟨_, fd, _, F.k_Ring, hb, ?_⟩
  refine FD.ok sc_Ring_init (by rintro vs H Q E ⟨_, _, _, _, rfl, _⟩; rfl) fun cdv A outer s H vs Q E hr h => ?_
  obtain ⟨C, g, dx, rp, rfl, hg, ok, hrp, h⟩ := h
  suffices hh : ∃ t, PSs (Cb P w K mg base ["self", "recipes", "faults", "copies", "pieces", "votes", "copy", "piece", "row"] "Ring.__init__" s_Ring_init (ma K (ga K "Ring") "__init__") cdv A outer s H E) (defBody s_Ring_init) t ∧ t { nx := fun _ H' => Q .non H', rt := Q } (L2.start ["self", "recipes", "faults", "copies", "pieces", "votes", "copy", "piece", "row"] [V.ref g, V.ref rp, V.int C.e, V.int C.K]) H by
    obtain ⟨t, h1, h2⟩ := hh
    exact ⟨t, h1.nox, h2⟩
  refine ⟨_, (pss_cons (ps_if (pt_not (pt_val (sk_call (D_is_recipes F) hr (pa_cons (pv 1) pa_nil)))) (pss_one ps_never) pss_nil)
    (pss_cons (ps_if (pt_not (pt_val (sk_call (D_is_number F) hr (pa_cons (pv 2) (pa_cons pe_int (pa_cons (sk_gi F.i_MOST_FAULTS) pa_nil)))))) (pss_one ps_never) pss_nil)
    (pss_cons (ps_if (PW.pt (pw_and (pt_cmpR op_notN (pv 3) pe_non (nomark _)) (pw_and1 (pt_not (pt_val (sk_call (D_is_number F) hr (pa_cons (pv 3) (pa_cons pe_int (pa_cons (sk_gi F.i_MOST_COPIES) pa_nil))))))))) (pss_one ps_never) pss_nil)
    (pss_cons (ps_fld (pv 0) (pv 1) rfl)
    (pss_cons (ps_fld (pv 0) (pv 2) rfl)
    (pss_cons (ps_fld (pv 0) (pe_ifExp (pt_cmpR op_isN (pv 3) pe_non (nomark _)) pe_no (pv 3)) rfl)
    (pss_cons (ps_setLc (i := 4) (own := [("copy", 6)]) rfl sc_Ring_init.nd rfl rfl (sw_true rfl rfl rfl (by decide +kernel)) (pi_range1 (by rfl) F.b_range (pa_cons (pe_fld (pv 0) rfl) pa_nil)) (blkOk_by (own := [("copy", 6)]) (N := ["self", "recipes", "faults", "copies", "pieces", "votes", "copy", "piece", "row"]) (sc := defScope s_Ring_init) (by decide +kernel)) (fun _ _ _ _ _ => (pg_name (i := 6) sc_Ring_init.nd rfl (by first | exact .inl rfl | exact .inr rfl))) (fun _ _ _ _ _ => pts_nil) (fun _ _ _ _ _ => (sk_call (D_piece_p F) hr (pa_cons (pv 1) (pa_cons (pv 6) pa_nil)))))
    (pss_cons (ps_setLc (i := 5) (own := [("copy", 6)]) rfl sc_Ring_init.nd rfl rfl (sw_true rfl rfl rfl (by decide +kernel)) (pi_range1 (by rfl) F.b_range (pa_cons (pe_fld (pv 0) rfl) pa_nil)) (blkOk_by (own := [("copy", 6)]) (N := ["self", "recipes", "faults", "copies", "pieces", "votes", "copy", "piece", "row"]) (sc := defScope s_Ring_init) (by decide +kernel)) (fun _ _ _ _ _ => (pg_name (i := 6) sc_Ring_init.nd rfl (by first | exact .inl rfl | exact .inr rfl))) (fun _ _ _ _ _ => pts_nil) (fun _ _ _ _ _ => (sk_call (D_piece_q F) hr (pa_cons (pe_callB (call_lenK (K := K)) (by rfl) F.b_len bt_len (pa_cons (pv 1) pa_nil)) (pa_cons (pv 2) (pa_cons (pe_fldK (K := K) (pv 0) rfl) (pa_cons (pv 6) pa_nil)))))))
    (pss_cons (ps_fld (pv 0) (pe_tup (pa_cons (pe_callB call_len_seq (by rfl) F.b_len bt_len (pa_cons (pe_ix ix_list (pv 4) pe_int (fun _ _ => rfl)) pa_nil)) (pa_cons (pe_callB call_len_seq (by rfl) F.b_len bt_len (pa_cons (pe_ix ix_list (pv 5) pe_int (fun _ _ => rfl)) pa_nil)) pa_nil))) rfl)
    (pss_one (ps_fld (pv 0) (pe_callTy call_tuple_of (by rfl) F.b_tuple bt_tuple (pa_cons (pe_lc2 (own := [("piece", 7), ("row", 8)]) (vs1 := [8]) rfl sc_Ring_init.nd (pi_list (pe_op op_cat (pv 4) (pv 5))) (blkOk_by (own := [("piece", 7), ("row", 8)]) (N := ["self", "recipes", "faults", "copies", "pieces", "votes", "copy", "piece", "row"]) (sc := defScope s_Ring_init) (by decide +kernel)) (by decide) (fun _ _ _ _ _ => (pg_name (i := 7) sc_Ring_init.nd rfl (by first | exact .inl rfl | exact .inr rfl))) (fun _ _ _ _ _ => pts_nil) (fun _ _ _ _ _ => (pi_listK (K := K) (pv 7))) (fun _ _ _ _ _ => (pg_name (i := 8) sc_Ring_init.nd rfl (by first | exact .inl rfl | exact .inr rfl))) (fun _ _ _ _ _ => pts_nil) (fun _ _ _ _ _ => (pv 8))) pa_nil)) rfl))))))))))), ?_⟩
  have B := ok.toFits
  have e3 := ok.e3
  have hK : ((C.K : Nat) : Int) ≤ 16 := by have := B.k16; omega
  have k1' := ok.k1
  have ne0 : C.recs ≠ [] := fun e => by have h1 := B.len; rw [e] at h1; have := ok.n1; simp at h1; omega
  have oks : ∀ r ∈ C.recs, RecOk C.recs.length r := fun r hr => by rw [B.len]; exact ok.recs r hr
  refine rd_seq fun D1 k1 r1 => ?_
  refine ⟨_, rfl, rp, C.recs, rfl, hrp, ne0, by rw [B.len]; exact B.n10, oks, fun H1 c1 => ⟨_, rfl, iteF' (by simp) (k1 _ _ ?_)⟩⟩
  clear k1
  refine rd_seq fun D2 k2 r2 => ?_
  trivial
  refine iteF' (by omega) (k2 _ _ ?_)
  clear k2
  refine rd_seq fun D3 k3 r3 => ?_
  trivial
  refine iteF' (by omega) (k3 _ _ ?_)
  clear k3
  refine rd_seq fun D4 k4 r4 => ?_
  have g1 := c1.o _ _ hg (by simp)
  refine ⟨_, rfl, _, rfl, g, _, dx, _, rfl, g1, F.c_Ring, F.n_recipes_given, by show 0 < 1000; decide, k4 _ _ ?_⟩
  rw [ringP_1]
  clear k4
  have Kg : ∀ (H2 : Hp) (o u : HO), H2 g = some o → tupO o = false → Keep [g] H2 (upd H2 g u) := fun H2 o u e f => Keep.at e f (by simp)
  have c2 : Keep [g] H (upd H1 g (.ins (ga K "Ring") dx [("recipes_given", V.ref rp)])) := (c1.nil).trans (Kg _ _ _ g1 rfl)
  have g2 : upd H1 g (.ins (ga K "Ring") dx [("recipes_given", V.ref rp)]) g = some (.ins (ga K "Ring") dx [("recipes_given", V.ref rp)]) := upd_same
  generalize upd H1 g (.ins (ga K "Ring") dx [("recipes_given", V.ref rp)]) = H2 at c2 g2 ⊢
  refine rd_seq fun D5 k5 r5 => ?_
  refine ⟨_, rfl, _, rfl, g, _, dx, _, rfl, g2, F.c_Ring, F.n_faults_withstood, by show 1 < 1000; decide, k5 _ _ ?_⟩
  rw [ringP_2]
  clear k5
  have c3 : Keep [g] H (upd H2 g (.ins (ga K "Ring") dx [("recipes_given", V.ref rp), ("faults_withstood", .int C.e)])) := c2.trans (Kg _ _ _ g2 rfl)
  have g3 : upd H2 g (.ins (ga K "Ring") dx [("recipes_given", V.ref rp), ("faults_withstood", .int C.e)]) g = _ := upd_same
  generalize upd H2 g (.ins (ga K "Ring") dx [("recipes_given", V.ref rp), ("faults_withstood", .int C.e)]) = H3 at c3 g3 ⊢
  refine rd_seq fun D6 k6 r6 => ?_
  refine ⟨_, rfl, rfl, _, rfl, iteF' (by simp) ⟨_, rfl, _, rfl, g, _, dx, _, rfl, g3, F.c_Ring, F.n_copy_count, by show 2 < 1000; decide, k6 _ _ ?_⟩⟩
  rw [ringP_3]
  clear k6
  have c4 : Keep [g] H (upd H3 g (.ins (ga K "Ring") dx [("recipes_given", V.ref rp), ("faults_withstood", .int C.e), ("copy_count", .int C.K)])) := c3.trans (Kg _ _ _ g3 rfl)
  have g4 : upd H3 g (.ins (ga K "Ring") dx [("recipes_given", V.ref rp), ("faults_withstood", .int C.e), ("copy_count", .int C.K)]) g = _ := upd_same
  generalize upd H3 g (.ins (ga K "Ring") dx [("recipes_given", V.ref rp), ("faults_withstood", .int C.e), ("copy_count", .int C.K)]) = H4 at c4 g4 ⊢
  clear g1 g2 g3 c1 c2 c3
  refine rd_seq fun D7 k7 r7 => ?_
  refine pieces_comp (n := C.K) C.pieceP ?_ (by omega) ?_ (fun v => rfl) ?_
  · intro R hR
    exact ⟨_, rfl, g, _, dx, _, _, rfl, g4, F.c_Ring, F.n_copy_count, ringL_3 _ _ _, hR⟩
  · intro i hi H5 Q' d1 q
    trivial
    exact ⟨C, rp, i, rfl, B, by omega, hrp.keep (c4.trans d1.nil), q⟩
  intro pc H5 d1 hpc d2
  refine k7 _ _ ?_
  clear k7
  have c5 := c4.trans d1.nil
  have g5 := d1.o _ _ g4 (by simp)
  refine rd_seq fun D8 k8 r8 => ?_
  refine pieces_comp (n := C.K) C.pieceQ ?_ (by omega) ?_ (fun v => rfl) ?_
  · intro R hR
    exact ⟨_, rfl, g, _, dx, _, _, rfl, g5, F.c_Ring, F.n_copy_count, ringL_3 _ _ _, hR⟩
  · intro i hi H6 Q' d1 q
    trivial
    obtain ⟨vs, e1, e2⟩ := hrp.keep (c5.trans d1.nil)
    refine ⟨vs, .inr (SqT.of e1), _, dx, _, d1.o _ _ g5 (by simp), F.c_Ring, F.n_copy_count, _, ringL_3 _ _ _, C, i, ?_, B, by omega, q⟩
    rw [e2.len, B.len]
  intro vt H6 e1 hvt e2
  refine k8 _ _ ?_
  clear k8
  have c6 := c5.trans e1.nil
  have g6 := e1.o _ _ g5 (by simp)
  have p6 := d2.keep0 e1
  refine rd_seq fun D9 k9 r9 => ?_
  have pp : ((List.range C.K).map C.pieceP)[0]? = some (C.pieceP 0) := by
    rw [List.getElem?_map, List.getElem?_range (by omega)]
    rfl
  have pq : ((List.range C.K).map C.pieceQ)[0]? = some (C.pieceQ 0) := by
    rw [List.getElem?_map, List.getElem?_range (by omega)]
    rfl
  obtain ⟨ps, ps1, ps2⟩ := id p6
  obtain ⟨qs, qs1, qs2⟩ := id e2
  obtain ⟨a0, ea, us, ea1, ea2⟩ := ps2.get' pp
  obtain ⟨b0, eb, ws, eb1, eb2⟩ := qs2.get' pq
  trivial
  refine ⟨_, SqL.of ps1, _, atI_nat (j := 0) ea, a0, rfl, us, .inl (SqL.of ea1), _, SqL.of qs1, _, atI_nat (j := 0) eb, b0, rfl, ws, .inl (SqL.of eb1), by decide, fun pl hpl => ⟨_, dx, _, by rw [upd_ne (ne_of_none g6 hpl)]; exact g6, F.c_Ring, F.n_piece_lengths, by show 3 < 1000; decide, k9 _ _ ?_⟩⟩
  rw [ringP_4, ea2.len, eb2.len]
  clear k9
  have f1 : Keep [] H6 (upd H6 pl (.tup [.int C.lp, .int C.lq])) := Keep.new hpl
  have f2 : upd H6 pl (.tup [.int C.lp, .int C.lq]) pl = some (.tup [.int C.lp, .int C.lq]) := upd_same
  show sFld _ _ _ _ _ _ (upd (upd H6 pl (.tup [.int C.lp, .int C.lq])) g (.ins (ga K "Ring") dx [("recipes_given", V.ref rp), ("faults_withstood", .int C.e), ("copy_count", .int C.K), ("piece_lengths", .ref pl)]))
  have g6' := f1.o _ _ g6 (by simp)
  have f3 := Kg _ _ (.ins (ga K "Ring") dx [("recipes_given", V.ref rp), ("faults_withstood", .int C.e), ("copy_count", .int C.K), ("piece_lengths", .ref pl)]) g6' rfl
  have g7 : upd (upd H6 pl (.tup [.int C.lp, .int C.lq])) g (.ins (ga K "Ring") dx [("recipes_given", V.ref rp), ("faults_withstood", .int C.e), ("copy_count", .int C.K), ("piece_lengths", .ref pl)]) g = _ := upd_same
  have c7 := (c6.trans f1.nil).trans f3
  have f4 := f3.t _ _ f2
  have p7 := (p6.keep0 f1).keep f3 g6'
  have q7 := (PiecesL.keep0 e2 f1).keep f3 g6'
  have pv : pc ≠ vt := by
    obtain ⟨_, e, _⟩ := d2
    exact ne_of_none e hvt
  generalize upd (upd H6 pl (.tup [.int C.lp, .int C.lq])) g (.ins (ga K "Ring") dx [("recipes_given", V.ref rp), ("faults_withstood", .int C.e), ("copy_count", .int C.K), ("piece_lengths", .ref pl)]) = H7 at c7 g7 f4 p7 q7 ⊢
  have LB := L_le B
  simp only [sFld, tCB, tCons, cxK, List.map_cons, List.map_nil]
  refine rows_flat (i := 7) (j := 8) (rss := (List.range C.K).map C.pieceP ++ (List.range C.K).map C.pieceQ) (fun Q' hQ => ?_) ?_ (by intros; rfl) (by intros; rfl) (by intros; rfl) (by intros; rfl) fun D H8 h1 h2 => ?_
  · obtain ⟨xs, x1, x2⟩ := p7
    obtain ⟨ys, y1, y2⟩ := q7
    refine ⟨_, rfl, _, rfl, pc, vt, xs, ys, rfl, rfl, x1, y1, ?_, fun p hp => hQ p _ (Keep.new hp) ?_⟩
    · rw [x2.len, y2.len]
      simp
      exact line5 (by omega)
    · have k1 : Keep [] H7 (upd H7 p (.lst (xs ++ ys))) := Keep.new hp
      exact ⟨_, upd_same, (x2.mono fun _ _ e => RowsL.keep e k1 (by simp)).append (y2.mono fun _ _ e => RowsL.keep e k1 (by simp))⟩
  · rw [List.flatten_append]
    have := Sk.ring_len C
    unfold Sk.ringRows at this
    rw [this]
    omega
  · rw [List.flatten_append] at h2
    obtain ⟨zs, z1, z2⟩ := h2
    have g8 := h1.o _ _ g7 (by simp)
    refine ⟨D, zs, rfl, .inl ⟨SqL.of z1, fun rl hrl => ⟨_, rfl, g, _, dx, _, rfl, by rw [upd_ne (ne_of_none g8 hrl)]; exact g8, F.c_Ring, F.n_row_list, by show 4 < 1000; decide, ?_⟩⟩⟩
    rw [ringP_5]
    have k1 : Keep [] H8 (upd H8 rl (.tup zs)) := Keep.new hrl
    have k2 := c7.trans (h1.trans k1).nil
    have g9 := k1.o _ _ g8 (by simp)
    have k3 := Kg _ _ (.ins (ga K "Ring") dx (ringF rp C.e C.K pl rl)) g9 rfl
    have k4 := k2.trans k3
    refine h rl _ ⟨dx, rp, pl, upd_same, hrp.keep k4, k3.t _ _ ((h1.trans k1).t _ _ f4), zs, k3.t _ _ upd_same, ?_⟩ k4
    exact z2.mono fun _ _ e => RowA.keep (RowA.keep e k1) k3
end
end Wk
end

section
set_option Elab.async false
set_option linter.all false
set_option maxRecDepth 100000
set_option maxHeartbeats 4000000
/-! the walk: what a ring answers -/
namespace Wk
open PySem PySem.Spec PyProof.Rows L2 StX
local macro_rules | `(tactic| trivial) => `(tactic| try simp only [spInt, spWord, spIdx, spNum, spReg, isi_ii, isi_ib, isi_ss, eq_ii, ne_ii, eq_ss, ne_ss, cxK, wipe, rLenS, rSlL, rSlT, tRevL, tDisp, tPairs, rCat, rRep, rExtend, rAdd, rSub, rSetD, rPop, rAppend, rIxL, rIxT, rSetL, tVar, tC, t2I, tB, tAnd, tOr, tNot, tAndV, tOrV, tNotV, tIf, tNext, tSeq, tDrop, tRet, tRetN, tIfS, tNever, tAsg, tPar, tOp, tUn, rI, rI0, rU, tTest, tChain, tFld, tCon, tNil, tCons, tTup, tLst, tCall, tMeth, tProp, tCB, tSl, tNoPart, tPart, tBM, tBM0, gName, gTup, gNil, gCons, gSub, sFld, L2.start, tDGet, tDIn, tDNotIn, tDNewK, tDNewT, sDPut, tDGet2, and_assoc, exists_and_left, exists_and_right, exists_eq_left', exists_eq_left, exists_eq_right, exists_eq', V.int.injEq, V.str.injEq, V.bl.injEq, V.ref.injEq, List.cons.injEq, and_true, true_and, List.append_nil, List.map_cons, List.map_nil, List.length_cons, List.length_nil, List.cons_append, List.nil_append, Nat.reduceAdd, Nat.reduceSub, List.reduceReplicate, List.getElem?_cons_succ, List.getElem?_cons_zero, List.set_cons_succ, List.set_cons_zero, Option.some.injEq, if_true, Bool.false_eq_true, if_false, decide_eq_true_eq, Bool.not_true, Bool.not_false, Bool.not_eq_true', decide_eq_false_iff_not, decide_true, decide_false, Bool.true_and, Bool.and_true, Bool.false_and, Int.reduceEq, Int.reduceLT, Int.reduceLE, Int.reduceNeg, reduceCtorEq, not_false_eq_true, not_true_eq_false])
section
variable {P : Program} {w : World} {K : PySem.W.Frag} {mg : Str → Option Value} {base : Heap}
def spGet (K : PySem.W.Frag) (f : Sk.Cfg → Int) : Sp := fun vs H Q _ => ∃ (C : Sk.Cfg) (g rl : Addr), vs = [V.ref g] ∧ RingA K H g rl C ∧ Valid C ∧ Q (.int (f C)) H
theorem spGet_len {f : Sk.Cfg → Int} : ∀ vs H Q E, spGet K f vs H Q E → vs.length = ["self"].length := by rintro vs H Q E ⟨_, _, _, rfl, _⟩; rfl
theorem P_faults (F : Fx K mg) : Pn P w K mg base 1 (ga K "Ring") "faults" (spGet K fun C => C.e) := by
  refine pn_mk (ps := ["self"]) F.p_Ring_faults rfl rfl rfl sc_Ring_faults (fun _ _ _ _ _ _ us hl => match us, hl with | [_], _ => rfl) spGet_len ?_
  rintro cdv A outer s H vs Q E hr ⟨C, g, rl, rfl, ⟨dx, rp, pl, h1, h2, h3, h4⟩, ok, h⟩
  exact ⟨_, (pss_one (ps_ret (pe_fld (pv 0) rfl))), _, rfl, g, _, dx, _, _, rfl, h1, F.c_Ring, F.n_faults_withstood, ringF_2 _ _ _ _ _, h⟩
theorem P_copies (F : Fx K mg) : Pn P w K mg base 1 (ga K "Ring") "copies" (spGet K fun C => C.K) := by
  refine pn_mk (ps := ["self"]) F.p_Ring_copies rfl rfl rfl sc_Ring_copies (fun _ _ _ _ _ _ us hl => match us, hl with | [_], _ => rfl) spGet_len ?_
  rintro cdv A outer s H vs Q E hr ⟨C, g, rl, rfl, ⟨dx, rp, pl, h1, h2, h3, h4⟩, ok, h⟩
  exact ⟨_, (pss_one (ps_ret (pe_fld (pv 0) rfl))), _, rfl, g, _, dx, _, _, rfl, h1, F.c_Ring, F.n_copy_count, ringF_3 _ _ _ _ _, h⟩
theorem P_size (F : Fx K mg) : Pn P w K mg base 1 (ga K "Ring") "size" (spGet K fun C => C.n) := by
  refine pn_mk (ps := ["self"]) F.p_Ring_size rfl rfl rfl sc_Ring_size (fun _ _ _ _ _ _ us hl => match us, hl with | [_], _ => rfl) spGet_len ?_
  rintro cdv A outer s H vs Q E hr ⟨C, g, rl, rfl, ⟨dx, rp, pl, h1, ⟨us, h2, h5⟩, h3, h4⟩, ok, h⟩
  refine ⟨_, (pss_one (ps_ret (pe_callB call_len_seq (by rfl) F.b_len bt_len (pa_cons (pe_fld (pv 0) rfl) pa_nil)))), _, rfl, g, _, dx, _, _, rfl, h1, F.c_Ring, F.n_recipes_given, ringF_1 _ _ _ _ _, rp, us, rfl, .inr (SqT.of h2), ?_⟩
  rw [h5.len, ok.len]
  exact h
def spRows (K : PySem.W.Frag) : Sp := fun vs H Q _ => ∃ (C : Sk.Cfg) (g rl : Addr), vs = [V.ref g] ∧ RingA K H g rl C ∧ Q (.ref rl) H
theorem P_rows (F : Fx K mg) : Pn P w K mg base 1 (ga K "Ring") "rows" (spRows K) := by
  refine pn_mk (ps := ["self"]) F.p_Ring_rows rfl rfl rfl sc_Ring_rows (fun _ _ _ _ _ _ us hl => match us, hl with | [_], _ => rfl) (by rintro vs H Q E ⟨_, _, _, rfl, _⟩; rfl) ?_
  rintro cdv A outer s H vs Q E hr ⟨C, g, rl, rfl, ⟨dx, rp, pl, h1, h2, h3, h4⟩, h⟩
  exact ⟨_, (pss_one (ps_ret (pe_fld (pv 0) rfl))), _, rfl, g, _, dx, _, _, rfl, h1, F.c_Ring, F.n_row_list, ringF_5 _ _ _ _ _, h⟩
def nWords (C : Sk.Cfg) : Nat := 4 * C.ln * C.K
theorem P_words (F : Fx K mg) : Pn P w K mg base 3 (ga K "Ring") "words" (spGet K fun C => (nWords C : Nat)) := by
  refine pn_mk (ps := ["self"]) F.p_Ring_words rfl rfl rfl sc_Ring_words (fun _ _ _ _ _ _ us hl => match us, hl with | [_], _ => rfl) spGet_len ?_
  rintro cdv A outer s H vs Q E hr ⟨C, g, rl, rfl, hR, ok, h⟩
  obtain ⟨dx, rp, pl, h1, h2, h3, h4⟩ := id hR
  have := ok.n10
  have := ok.k16
  refine ⟨_, (pss_one (ps_ret (pe_op op_mul (pe_op op_mul (sk_gi F.i_STORES_rings) (pe_op op_add (sk_prop F.c_Ring (P_size F) hr (pv 0)) pe_int)) (pe_fld (pv 0) rfl)))), _, rfl, g, dx, _, rfl, h1, C, g, rl, rfl, hR, ok, _, _, rfl, rfl, _, _, rfl, rfl, .inl ⟨by decide, by decide⟩, _, rfl, g, _, dx, _, _, rfl, h1, F.c_Ring, F.n_copy_count, ringF_3 _ _ _ _ _, _, _, rfl, rfl, .inr ⟨by omega, by omega⟩, ?_⟩
  have e : ((nWords C : Nat) : Int) = 4 * ((C.n : Int) + 2) * C.K := by
    unfold nWords Sk.Cfg.ln
    push_cast
    rfl
  show Q (V.int (4 * ((C.n : Int) + 2) * C.K)) H
  rw [← e]
  exact h
theorem M_len (F : Fx K mg) : Mn P w K mg base 1 (ga K "Ring") "__len__" ["self"] (spGet K fun C => C.L) := by
  obtain ⟨fd, FD⟩ := F.f_Ring_len
  refine mn_mk F.f_Ring_len F.m_Ring_len sc_Ring_len (fun _ _ _ _ _ _ us hl => match us, hl with | [_], _ => rfl) spGet_len ?_
  rintro cdv A outer s H vs Q E hr ⟨C, g, rl, rfl, ⟨dx, rp, pl, h1, h2, h3, us, h4, h5⟩, ok, h⟩
  refine ⟨_, (pss_one (ps_ret (pe_callB call_len_seq (by rfl) F.b_len bt_len (pa_cons (pe_fld (pv 0) rfl) pa_nil)))), _, rfl, g, _, dx, _, _, rfl, h1, F.c_Ring, F.n_row_list, ringF_5 _ _ _ _ _, rl, us, rfl, .inr (SqT.of h4), ?_⟩
  rw [h5.len, Sk.ring_len]
  exact h
def pieceO (C : Sk.Cfg) (p : Nat) : List V := if p < C.K * C.lp then [.str "P", .int (p / C.lp : Nat), .int (p % C.lp : Nat)] else [.str "Q", .int ((p - C.K * C.lp) / C.lq : Nat), .int ((p - C.K * C.lp) % C.lq : Nat)]
def spPieceAt (K : PySem.W.Frag) : Sp := fun vs H Q _ => ∃ (C : Sk.Cfg) (g rl : Addr) (p : Nat), vs = [V.ref g, V.int p] ∧ RingA K H g rl C ∧ Valid C ∧ ∀ a, H a = none → Q (.ref a) (upd H a (.tup (pieceO C p)))
theorem M_piece_at (F : Fx K mg) : Mn P w K mg base 1 (ga K "Ring") "piece_at" ["self", "row"] (spPieceAt K) := by
  refine mn_mk F.f_Ring_piece_at F.m_Ring_piece_at sc_Ring_piece_at (fun _ _ _ _ _ _ us hl => match us, hl with | [_, _], _ => rfl) (by rintro vs H Q E ⟨_, _, _, _, rfl, _⟩; rfl) ?_
  rintro cdv A outer s H vs Q E hr ⟨C, g, rl, p, rfl, ⟨dx, rp, pl, h1, h2, h3, h4⟩, ok, h⟩
  refine ⟨_, (pss_cons (ps_asg (pe_fld (pv 0) rfl) (pg_tup (by rfl) (pgs_cons (pg_name (i := 2) sc_Ring_piece_at.nd rfl (by first | exact .inl rfl | exact .inr rfl)) (pgs_cons (pg_name (i := 3) sc_Ring_piece_at.nd rfl (by first | exact .inl rfl | exact .inr rfl)) pgs_nil))))
    (pss_cons (ps_set (i := 4) sc_Ring_piece_at.nd rfl (by first | exact .inl rfl | exact .inr rfl) (pe_op op_sub (pv 1) (pe_op op_mul (pv 2) (pe_fld (pv 0) rfl))))
    (pss_cons (ps_if (pt_cmpR op_lt (pv 4) pe_int (nomark _)) (pss_one (ps_ret (pe_tup (pa_cons pe_str (pa_cons (pe_op op_fdivN (pv 1) (pv 2)) (pa_cons (pe_op op_modN (pv 1) (pv 2)) pa_nil)))))) pss_nil)
    (pss_one (ps_ret (pe_tup (pa_cons pe_str (pa_cons (pe_op op_fdivN (pv 4) (pv 3)) (pa_cons (pe_op op_modN (pv 4) (pv 3)) pa_nil))))))))), ?_⟩
  refine rd_seq fun D1 k1 r1 => ?_
  refine ⟨_, rfl, g, _, dx, _, _, rfl, h1, F.c_Ring, F.n_piece_lengths, ringF_4 _ _ _ _ _, pl, _, rfl, SqT.of h3, rfl, _, _, rfl, _, _, rfl, rfl, k1 _ _ ?_⟩
  refine rd_seq fun D2 k2 r2 => ?_
  have B := ok.toFits
  have hl := L_le B
  have k16 := B.k16
  refine ⟨_, rfl, _, rfl, _, rfl, g, _, dx, _, _, rfl, h1, F.c_Ring, F.n_copy_count, ringF_3 _ _ _ _ _, _, _, rfl, rfl, .inr ⟨by omega, by omega⟩, _, _, rfl, rfl, k2 _ _ ?_⟩
  refine rd_seq fun D3 k3 r3 => ?_
  trivial
  have lp1 := Sk.lp_pos (C := C)
  have lq1 := Sk.lq_pos (C := C)
  have k1' := ok.k1
  have q1 : C.lp ≤ C.K * C.lp := Nat.le_mul_of_pos_left _ k1'
  have q2 : C.lq ≤ C.K * C.lq := Nat.le_mul_of_pos_left _ k1'
  have q3 : C.L = C.K * C.lp + C.K * C.lq := rfl
  have e1 : (C.lp : Int) * C.K = ((C.K * C.lp : Nat) : Int) := by rw [Nat.mul_comm]; push_cast; rfl
  have hp : pieceO C p = if p < C.K * C.lp then [.str "P", .int (p / C.lp : Nat), .int (p % C.lp : Nat)] else [.str "Q", .int ((p - C.K * C.lp) / C.lq : Nat), .int ((p - C.K * C.lp) % C.lq : Nat)] := rfl
  rw [e1]
  by_cases c : p < C.K * C.lp
  · rw [if_pos c] at hp
    refine iteT' (by omega) ⟨⟨by omega, by omega⟩, by omega, by decide, fun a ha => ?_⟩
    rw [fd6 (by omega), fmn (by omega), r3]
    have := h a ha
    rw [hp] at this
    exact this
  · rw [if_neg c] at hp
    refine iteF' (by omega) (k3 _ _ ?_)
    trivial
    have e2 : (p : Int) - ((C.K * C.lp : Nat) : Int) = ((p - C.K * C.lp : Nat) : Int) := by omega
    rw [e2]
    refine ⟨⟨by omega, by omega⟩, by omega, by decide, fun a ha => ?_⟩
    rw [fd6 (by omega), fmn (by omega)]
    have := h a ha
    rw [hp] at this
    exact this
def memV (k : Nat) (ws : List Int) : List V := (List.replicate (4 * k) (V.int 0 :: (ws.map V.int ++ [V.int 0]))).flatten
def spFirst (K : PySem.W.Frag) : Sp := fun vs H Q _ => ∃ (C : Sk.Cfg) (g rl st : Addr) (ws : List Int), vs = [V.ref g, V.ref st] ∧ RingA K H g rl C ∧ Valid C ∧ StA H st ws ∧ ws.length ≤ 10 ∧ ∀ t H', Keep [] H H' → H' t = some (.tup (memV C.K ws)) → Q (.ref t) H'
theorem M_first_memory (F : Fx K mg) : Mn P w K mg base 1 (ga K "Ring") "first_memory" ["self", "state"] (spFirst K) := by
  refine mn_mk F.f_Ring_first_memory F.m_Ring_first_memory sc_Ring_first_memory (fun _ _ _ _ _ _ us hl => match us, hl with | [_, _], _ => rfl) (by rintro vs H Q E ⟨_, _, _, _, _, rfl, _⟩; rfl) ?_
  rintro cdv A outer s H vs Q E hr ⟨C, g, rl, st, ws, rfl, ⟨dx, rp, pl, h1, h2, h3, h4⟩, ok, hst, hws, h⟩
  have k16 := ok.k16
  have k1 := ok.k1
  refine ⟨_, (pss_one (ps_ret (pe_op op_repT (pe_tup (pa_cons pe_int (pa_star (pv 1) (pa_cons pe_int pa_nil)))) (pe_op op_mul (sk_gi F.i_STORES_rings) (pe_fld (pv 0) rfl))))), ?_⟩
  refine ⟨_, rfl, st, _, rfl, .inl (SqT.of hst), line5 (by simp; omega), fun p hp => ?_⟩
  have k2 : Keep [] H (upd H p (.tup (V.int 0 :: (ws.map V.int ++ [V.int 0])))) := Keep.new hp
  refine ⟨_, rfl, g, _, dx, _, _, rfl, k2.o _ _ h1 (by simp), F.c_Ring, F.n_copy_count, ringF_3 _ _ _ _ _, _, _, rfl, rfl, .inl ⟨by decide, by decide⟩, p, _, _, rfl, rfl, SqT.of upd_same, by simp, by omega, by omega, by simp; omega, fun t ht => ?_⟩
  have e : (4 * (C.K : Int)).toNat = 4 * C.K := by omega
  refine h t _ (k2.trans (Keep.new ht)) ?_
  rw [upd_same, e]
  rfl
end
end Wk
end

section
set_option Elab.async false
set_option linter.all false
set_option maxRecDepth 100000
set_option maxHeartbeats 4000000
/-! the walk: faults -/
namespace Wk
open PySem PySem.Spec PyProof.Rows L2 StX
local macro_rules | `(tactic| trivial) => `(tactic| try simp only [spInt, spWord, spIdx, spNum, spReg, isi_ii, isi_ib, isi_ss, eq_ii, ne_ii, eq_ss, ne_ss, cxK, wipe, rLenS, rSlL, rSlT, tRevL, tDisp, tPairs, rCat, rRep, rExtend, rAdd, rSub, rSetD, rPop, rAppend, rIxL, rIxT, rSetL, tVar, tC, t2I, tB, tAnd, tOr, tNot, tAndV, tOrV, tNotV, tIf, tNext, tSeq, tDrop, tRet, tRetN, tIfS, tNever, tAsg, tPar, tOp, tUn, rI, rI0, rU, tTest, tChain, tFld, tCon, tNil, tCons, tTup, tLst, tCall, tMeth, tProp, tCB, tSl, tNoPart, tPart, tBM, tBM0, gName, gTup, gNil, gCons, gSub, sFld, L2.start, tDGet, tDIn, tDNotIn, tDNewK, tDNewT, sDPut, tDGet2, and_assoc, exists_and_left, exists_and_right, exists_eq_left', exists_eq_left, exists_eq_right, exists_eq', V.int.injEq, V.str.injEq, V.bl.injEq, V.ref.injEq, List.cons.injEq, and_true, true_and, List.append_nil, List.map_cons, List.map_nil, List.length_cons, List.length_nil, List.cons_append, List.nil_append, Nat.reduceAdd, Nat.reduceSub, List.reduceReplicate, List.getElem?_cons_succ, List.getElem?_cons_zero, List.set_cons_succ, List.set_cons_zero, Option.some.injEq, if_true, Bool.false_eq_true, if_false, decide_eq_true_eq, Bool.not_true, Bool.not_false, Bool.not_eq_true', decide_eq_false_iff_not, decide_true, decide_false, Bool.true_and, Bool.and_true, Bool.false_and, Int.reduceEq, Int.reduceLT, Int.reduceLE, Int.reduceNeg, reduceCtorEq, not_false_eq_true, not_true_eq_false])
inductive Fl where
  | word (a : Nat) (v : Int)
  | reg (r : Nat) (v : Int)
  | row (p : Nat)
def flV : Fl → List V
  | .word a v => [.str "word", .int a, .int v]
  | .reg r v => [.str "register", .int r, .int v]
  | .row p => [.str "row", .int p]
def FlOk (C : Sk.Cfg) : Fl → Prop
  | .word a v => a < nWords C ∧ 0 ≤ v ∧ v ≤ 999999
  | .reg r v => r < 32 ∧ 0 ≤ v ∧ v ≤ 999999
  | .row p => p < C.L
def FlA (H : Hp) (p : Addr) (f : Fl) : Prop := H p = some (.tup (flV f))
theorem piece_shape (C : Sk.Cfg) (p : Nat) : ∃ (z : Str) (c i : Nat), pieceO C p = [.str z, .int c, .int i] := by
  unfold pieceO
  split
  · exact ⟨_, _, _, rfl⟩
  · exact ⟨_, _, _, rfl⟩
def spCopyOf (K : PySem.W.Frag) : Sp := fun vs H Q _ => ∃ (C : Sk.Cfg) (g rl : Addr) (a : Nat), vs = [V.ref g, V.int a] ∧ RingA K H g rl C ∧ Valid C ∧ Q (.int (a / (4 * C.ln) : Nat)) H
def spAff (K : PySem.W.Frag) : Sp := fun vs H Q _ => ∃ (C : Sk.Cfg) (g rl q : Addr) (p : Nat) (f : Fl), vs = [V.ref g, V.int p, V.ref q] ∧ RingA K H g rl C ∧ Valid C ∧ FlA H q f ∧ ∀ v H', Keep [] H H' → (v = .non ∨ ∃ c : Nat, v = .int c) → Q v H'
def spIsFault (K : PySem.W.Frag) : Sp := fun vs H Q _ => ∃ (C : Sk.Cfg) (g rl q : Addr) (f : Fl), vs = [V.ref g, V.ref q] ∧ RingA K H g rl C ∧ Valid C ∧ FlA H q f ∧ FlOk C f ∧ ∀ H', Keep [] H H' → Q (.bl true) H'
section
variable {P : Program} {w : World} {K : PySem.W.Frag} {mg : Str → Option Value} {base : Heap}
theorem D_copy_of_address (F : Fx K mg) : Dn P w K mg base 3 "copy_of_address" ["ring", "address"] (spCopyOf K) := by
  refine dn_mk F.f_copy_of_address F.g_copy_of_address sc_copy_of_address (fun _ _ _ _ _ _ us hl => match us, hl with | [_, _], _ => rfl) (by rintro vs H Q E ⟨_, _, _, _, rfl, _⟩; rfl) ?_
  rintro cdv A outer s H vs Q E hr ⟨C, g, rl, a, rfl, hR, ok, h⟩
  obtain ⟨dx, rp, pl, h1, h2, h3, h4⟩ := id hR
  have := ok.n10
  refine ⟨_, (pss_one (ps_ret (pe_op op_fdivN (pv 1) (pe_op op_mul (sk_gi F.i_STORES_faults) (pe_op op_add (sk_prop F.c_Ring (P_size F) hr (pv 0)) pe_int))))), _, rfl, _, rfl, g, dx, _, rfl, h1, C, g, rl, rfl, hR, ok, _, _, rfl, rfl, _, _, rfl, rfl, .inl ⟨by decide, by decide⟩, _, _, rfl, rfl, ⟨by show 4 * ((C.n : Int) + 2) ≠ 0; omega, by show (4 * ((C.n : Int) + 2)).natAbs < _; omega⟩, ?_⟩
  show Q (.int (Int.fdiv a (4 * ((C.n : Int) + 2)))) H
  rw [fd6 (by omega)]
  have e : ((a / (4 * C.ln) : Nat) : Int) = (a : Int) / (4 * ((C.n : Int) + 2)) := by
    unfold Sk.Cfg.ln
    push_cast
    rfl
  rw [← e]
  exact h
theorem D_affected_by (F : Fx K mg) : Dn P w K mg base 4 "affected_by" ["ring", "row", "fault"] (spAff K) := by
  refine dn_mk F.f_affected_by F.g_affected_by sc_affected_by (fun _ _ _ _ _ _ us hl => match us, hl with | [_, _, _], _ => rfl) (by rintro vs H Q E ⟨_, _, _, _, _, _, rfl, _⟩; rfl) ?_
  rintro cdv A outer s H vs Q E hr ⟨C, g, rl, q, p, f, rfl, hR, ok, hf, h⟩
  obtain ⟨dx, rp, pl, h1, h2, h3, h4⟩ := id hR
  refine ⟨_, (pss_cons (ps_if (pt_cmpR op_eq (pe_ix ix_tup (pv 2) pe_int (fun _ _ => rfl)) (sk_gs F.t_WORD) (nomark _)) (pss_one (ps_ret (sk_call (D_copy_of_address F) hr (pa_cons (pv 0) (pa_cons (pe_ix ix_tup (pv 2) pe_int (fun _ _ => rfl)) pa_nil))))) pss_nil)
    (pss_cons (ps_if (pt_cmpR op_eq (pe_ix ix_tup (pv 2) pe_int (fun _ _ => rfl)) (sk_gs F.t_REGISTER) (nomark _)) (pss_one (ps_ret (pe_ix ix_tup (sk_meth F.c_Ring (M_piece_at F) hr (pv 0) (pa_cons (pv 1) pa_nil)) pe_int (fun _ _ => rfl)))) pss_nil)
    (pss_cons (ps_asg (sk_meth F.c_Ring (M_piece_at F) hr (pv 0) (pa_cons (pe_ix ix_tup (pv 2) pe_int (fun _ _ => rfl)) pa_nil)) (pg_tup (by rfl) (pgs_cons (pg_name (i := 3) sc_affected_by.nd rfl (by first | exact .inl rfl | exact .inr rfl)) (pgs_cons (pg_name (i := 4) sc_affected_by.nd rfl (by first | exact .inl rfl | exact .inr rfl)) (pgs_cons (pg_name (i := 5) sc_affected_by.nd rfl (by first | exact .inl rfl | exact .inr rfl)) pgs_nil)))))
    (pss_one (ps_ret (pe_ifExp (pt_cmpR op_gt (pv 5) pe_int (nomark _)) (pv 4) pe_non)))))), ?_⟩
  refine rd_seq fun D1 k1 r1 => ?_
  trivial
  cases f with
  | word a v =>
    refine ⟨_, SqT.of hf, _, rfl, ?_⟩
    trivial
    refine ⟨_, SqT.of hf, _, rfl, C, g, rl, a, rfl, hR, ok, ?_⟩
    rw [r1]
    exact h _ _ (Keep.refl _ _) (.inr ⟨_, rfl⟩)
  | reg r v =>
    refine ⟨_, SqT.of hf, _, rfl, ?_⟩
    trivial
    simp only [sN_register_word, if_false]
    refine k1 _ _ (rd_seq fun D2 k2 r2 => ?_)
    trivial
    refine ⟨_, SqT.of hf, _, rfl, ?_⟩
    trivial
    refine ⟨dx, _, h1, ringF_n1 _ _ _ _ _, C, g, rl, p, rfl, hR, ok, fun a ha => ?_⟩
    obtain ⟨z, c, i, e⟩ := piece_shape C p
    rw [e]
    refine ⟨a, rfl, _, SqT.of upd_same, _, rfl, ?_⟩
    rw [r2]
    exact h _ _ (Keep.new ha) (.inr ⟨c, rfl⟩)
  | row p' =>
    refine ⟨_, SqT.of hf, _, rfl, ?_⟩
    trivial
    simp only [sN_row_word, if_false]
    refine k1 _ _ (rd_seq fun D2 k2 r2 => ?_)
    trivial
    refine ⟨_, SqT.of hf, _, rfl, ?_⟩
    trivial
    simp only [sN_row_register, if_false]
    refine k2 _ _ (rd_seq fun D3 k3 r3 => ?_)
    trivial
    refine ⟨dx, _, h1, ringF_n1 _ _ _ _ _, _, SqT.of hf, _, rfl, C, g, rl, p', rfl, hR, ok, fun a ha => ?_⟩
    obtain ⟨z, c, i, e⟩ := piece_shape C p'
    rw [e]
    refine ⟨a, rfl, _, SqT.of upd_same, rfl, _, _, rfl, _, _, rfl, _, _, rfl, rfl, k3 _ _ ?_⟩
    trivial
    split
    · exact h _ _ (Keep.new ha) (.inr ⟨c, rfl⟩)
    · exact h _ _ (Keep.new ha) (.inl rfl)
theorem D_is_fault (F : Fx K mg) : Dn P w K mg base 5 "is_fault" ["ring", "thing"] (spIsFault K) := by
  refine dn_mk F.f_is_fault F.g_is_fault sc_is_fault (fun _ _ _ _ _ _ us hl => match us, hl with | [_, _], _ => rfl) (by rintro vs H Q E ⟨_, _, _, _, _, rfl, _⟩; rfl) ?_
  rintro cdv A outer s H vs Q E hr ⟨C, g, rl, q, f, rfl, hR, ok, hf, fo, h⟩
  obtain ⟨dx, rp, pl, h1, h2, h3, h4⟩ := id hR
  obtain ⟨fl, fld, L1, L2', L3⟩ := (M_len (P := P) (w := w) (base := base) F).ex
  obtain ⟨u, hcon⟩ := F.regs
  refine ⟨_, (pss_cons (ps_if (PW.pt (pw_or (pt_not (pt_val (pe_callB call_isi (by rfl) F.b_isinstance bt_isi (pa_cons (pv 1) (pa_cons (sk_ty F.b_tuple bt_tuple) pa_nil))))) (pw_or (pt_cmpR op_notIn_seq (pe_callB call_len_seq (by rfl) F.b_len bt_len (pa_cons (pv 1) pa_nil)) (pe_tup (pa_cons (sk_gi F.i_ROW_PARTS) (pa_cons (sk_gi F.i_PARTS) pa_nil))) (by rfl)) (pw_or1 (pt_not (pt_val (pe_callB call_isi (by rfl) F.b_isinstance bt_isi (pa_cons (pe_ix ix_tup (pv 1) pe_int (fun _ _ => rfl)) (pa_cons (sk_ty F.b_str bt_str) pa_nil))))))))) (pss_one (ps_ret pe_bl)) pss_nil)
    (pss_cons (ps_if (pt_cmpR op_eq (pe_ix ix_tup (pv 1) pe_int (fun _ _ => rfl)) (sk_gs F.t_ROW) (nomark _)) (pss_one (ps_ret (pe_and (pe_cmpR op_eq (pe_callB call_len_seq (by rfl) F.b_len bt_len (pa_cons (pv 1) pa_nil)) (sk_gi F.i_ROW_PARTS) (nomark _)) (pe_one (sk_call (D_is_index F) hr (pa_cons (pe_ix ix_tup (pv 1) pe_int (fun _ _ => rfl)) (pa_cons (pe_callB (call_lenOwn L1.at_ L1.fn L2' L3 (hr.mono (by decide))) (by rfl) F.b_len bt_len (pa_cons (pv 0) pa_nil)) pa_nil))))))) pss_nil)
    (pss_cons (ps_if (PW.pt (pw_or (pt_cmpR op_ne (pe_callB call_len_seq (by rfl) F.b_len bt_len (pa_cons (pv 1) pa_nil)) (sk_gi F.i_PARTS) (nomark _)) (pw_or1 (pt_not (pt_val (sk_call (D_is_word F) hr (pa_cons (pe_ix ix_tup (pv 1) pe_int (fun _ _ => rfl)) pa_nil))))))) (pss_one (ps_ret pe_bl)) pss_nil)
    (pss_cons (ps_if (pt_cmpR op_eq (pe_ix ix_tup (pv 1) pe_int (fun _ _ => rfl)) (sk_gs F.t_WORD) (nomark _)) (pss_one (ps_ret (sk_call (D_is_index F) hr (pa_cons (pe_ix ix_tup (pv 1) pe_int (fun _ _ => rfl)) (pa_cons (sk_prop F.c_Ring (P_words F) hr (pv 0)) pa_nil))))) pss_nil)
    (pss_one (ps_ret (pe_and (pe_cmpR op_eq (pe_ix ix_tup (pv 1) pe_int (fun _ _ => rfl)) (sk_gs F.t_REGISTER) (nomark _)) (pe_one (sk_call (D_is_index F) hr (pa_cons (pe_ix ix_tup (pv 1) pe_int (fun _ _ => rfl)) (pa_cons (pe_con (pv 0) rfl) pa_nil))))))))))), ?_⟩
  refine rd_seq fun D1 k1 r1 => ?_
  trivial
  refine isi_tt hf ?_
  trivial
  refine ⟨_, .inr (SqT.of hf), by decide, fun p hp => ?_⟩
  have c1 : Keep [] H (upd H p (.tup [.int 2, .int 3])) := Keep.new hp
  have fl1 : (flV f).length = 2 ∨ (flV f).length = 3 := by cases f <;> simp [flV]
  refine ⟨p, _, rfl, .inr (SqT.of upd_same), rfl, rfl, false, ?_, ?_⟩
  · rcases fl1 with e | e <;> rw [e] <;> rfl
  have f2 := c1.t _ _ hf
  have hR2 := hR.keep c1 (by simp)
  generalize upd H p (.tup [.int 2, .int 3]) = H1 at c1 f2 hR2 ⊢
  obtain ⟨tg, rest, ef⟩ : ∃ (tg : Str) (rest : List V), flV f = .str tg :: rest := by cases f <;> exact ⟨_, _, rfl⟩
  refine iteF' (by simp) ⟨_, SqT.of f2, .str tg, by rw [ef]; exact at0, ?_⟩
  trivial
  refine k1 _ _ ?_
  clear k1 ef
  obtain ⟨dx1, rp1, pl1, g1, _⟩ := id hR2
  refine rd_seq fun D2 k2 r2 => ?_
  trivial
  cases f with
  | row n =>
    refine ⟨_, SqT.of f2, _, rfl, ?_⟩
    trivial
    refine ⟨_, .inr (SqT.of f2), ?_⟩
    trivial
    refine iteT' (by simp [flV]) ⟨_, SqT.of f2, _, rfl, g, dx1, _, rfl, g1, C, g, rl, rfl, hR2, ok, C.L, rfl, by have := L_le ok.toFits; omega, n, rfl, C.L, rfl, ?_⟩
    have fo' : n < C.L := fo
    rw [r2, decide_eq_true ⟨by omega, by omega⟩]
    exact h _ c1
  | word a v =>
    obtain ⟨fo1, fo2, fo3⟩ := fo
    refine ⟨_, SqT.of f2, _, rfl, ?_⟩
    trivial
    simp only [sN_word_row, if_false]
    refine k2 _ _ (rd_seq fun D3 k3 r3 => ?_)
    trivial
    refine ⟨_, .inr (SqT.of f2), ?_⟩
    trivial
    refine iteF' (by simp [flV]) ⟨_, SqT.of f2, _, rfl, v, rfl, iteF' (by omega) (k3 _ _ (rd_seq fun D4 k4 r4 => ?_))⟩
    trivial
    refine ⟨_, SqT.of f2, _, rfl, ?_⟩
    trivial
    refine ⟨_, SqT.of f2, _, rfl, ⟨dx1, _, g1⟩, C, g, rl, rfl, hR2, ok, a, rfl, nWords C, rfl, ?_⟩
    rw [r4, decide_eq_true ⟨by omega, by omega⟩]
    exact h _ c1
  | reg r v =>
    obtain ⟨fo1, fo2, fo3⟩ := fo
    refine ⟨_, SqT.of f2, _, rfl, ?_⟩
    trivial
    simp only [sN_register_row, if_false]
    refine k2 _ _ (rd_seq fun D3 k3 r3 => ?_)
    trivial
    refine ⟨_, .inr (SqT.of f2), ?_⟩
    trivial
    refine iteF' (by simp [flV]) ⟨_, SqT.of f2, _, rfl, v, rfl, iteF' (by omega) (k3 _ _ (rd_seq fun D4 k4 r4 => ?_))⟩
    trivial
    refine ⟨_, SqT.of f2, _, rfl, ?_⟩
    trivial
    simp only [sN_register_word, if_false]
    refine k4 _ _ ?_
    trivial
    refine ⟨_, SqT.of f2, _, rfl, ?_⟩
    trivial
    refine ⟨_, SqT.of f2, _, rfl, _, dx1, _, g1, F.c_Ring, _, ⟨_, hcon⟩, ringF_n3 _ _ _ _ _, r, rfl, 32, rfl, ?_⟩
    rw [decide_eq_true ⟨by omega, by omega⟩]
    exact h _ c1
end
end Wk
end

section
set_option Elab.async false
set_option linter.all false
set_option maxRecDepth 100000
set_option maxHeartbeats 4000000
/-! the walk: a machine executes a row -/
namespace Wk
open PySem PySem.Spec PyProof.Rows L2 StX
local macro_rules | `(tactic| trivial) => `(tactic| try simp only [spInt, spWord, spIdx, spNum, spReg, isi_ii, isi_ib, isi_ss, eq_ii, ne_ii, eq_ss, ne_ss, cxK, wipe, rLenS, rSlL, rSlT, tRevL, tDisp, tPairs, rCat, rRep, rExtend, rAdd, rSub, rSetD, rPop, rAppend, rIxL, rIxT, rSetL, tVar, tC, t2I, tB, tAnd, tOr, tNot, tAndV, tOrV, tNotV, tIf, tNext, tSeq, tDrop, tRet, tRetN, tIfS, tNever, tAsg, tPar, tOp, tUn, rI, rI0, rU, tTest, tChain, tFld, tCon, tNil, tCons, tTup, tLst, tCall, tMeth, tProp, tCB, tSl, tNoPart, tPart, tBM, tBM0, gName, gTup, gNil, gCons, gSub, sFld, L2.start, tDGet, tDIn, tDNotIn, tDNewK, tDNewT, sDPut, tDGet2, and_assoc, exists_and_left, exists_and_right, exists_eq_left', exists_eq_left, exists_eq_right, exists_eq', V.int.injEq, V.str.injEq, V.bl.injEq, V.ref.injEq, List.cons.injEq, and_true, true_and, List.append_nil, List.map_cons, List.map_nil, List.length_cons, List.length_nil, List.cons_append, List.nil_append, Nat.reduceAdd, Nat.reduceSub, List.reduceReplicate, List.getElem?_cons_succ, List.getElem?_cons_zero, List.set_cons_succ, List.set_cons_zero, Option.some.injEq, if_true, Bool.false_eq_true, if_false, decide_eq_true_eq, Bool.not_true, Bool.not_false, Bool.not_eq_true', decide_eq_false_iff_not, decide_true, decide_false, Bool.true_and, Bool.and_true, Bool.false_and, Int.reduceEq, Int.reduceLT, Int.reduceLE, Int.reduceNeg, reduceCtorEq, not_false_eq_true, not_true_eq_false])
def machF (g rt ml rg : Addr) (p t f : Int) (ca : Addr) : List (Str × V) := [("ring_executed", .ref g), ("rows_listed", .ref rt), ("memory_words", .ref ml), ("register_words", .ref rg), ("next_row", .int p), ("rows_done", .int t), ("faults_done", .int f), ("copies_affected", .ref ca)]
section
variable (g rt ml rg : Addr) (p t f : Int) (ca : Addr)
theorem machF_1 : (machF g rt ml rg p t f ca).lookup ("ring_executed" : Str) = some (.ref g) := by kernel_rfl
theorem machF_2 : (machF g rt ml rg p t f ca).lookup ("rows_listed" : Str) = some (.ref rt) := by kernel_rfl
theorem machF_3 : (machF g rt ml rg p t f ca).lookup ("memory_words" : Str) = some (.ref ml) := by kernel_rfl
theorem machF_4 : (machF g rt ml rg p t f ca).lookup ("register_words" : Str) = some (.ref rg) := by kernel_rfl
theorem machF_5 : (machF g rt ml rg p t f ca).lookup ("next_row" : Str) = some (.int p) := by kernel_rfl
theorem machF_6 : (machF g rt ml rg p t f ca).lookup ("rows_done" : Str) = some (.int t) := by kernel_rfl
theorem machF_7 : (machF g rt ml rg p t f ca).lookup ("faults_done" : Str) = some (.int f) := by kernel_rfl
theorem machF_8 : (machF g rt ml rg p t f ca).lookup ("copies_affected" : Str) = some (.ref ca) := by kernel_rfl
theorem machF_n1 : (machF g rt ml rg p t f ca).lookup ("execute" : Str) = none := by kernel_rfl
theorem machF_n2 : (machF g rt ml rg p t f ca).lookup ("execute_next" : Str) = none := by kernel_rfl
theorem machF_n3 : (machF g rt ml rg p t f ca).lookup ("run" : Str) = none := by kernel_rfl
theorem machF_n4 : (machF g rt ml rg p t f ca).lookup ("strike" : Str) = none := by kernel_rfl
theorem machF_n5 : (machF g rt ml rg p t f ca).lookup ("changes_anything" : Str) = none := by kernel_rfl
theorem machF_n6 : (machF g rt ml rg p t f ca).lookup ("note" : Str) = none := by kernel_rfl
theorem machF_n7 : (machF g rt ml rg p t f ca).lookup ("suffer" : Str) = none := by kernel_rfl
theorem machP_5 (q : Int) : putF "next_row" (.int q) (machF g rt ml rg p t f ca) = machF g rt ml rg q t f ca := by kernel_rfl
theorem machP_6 (q : Int) : putF "rows_done" (.int q) (machF g rt ml rg p t f ca) = machF g rt ml rg p q f ca := by kernel_rfl
theorem machP_7 (q : Int) : putF "faults_done" (.int q) (machF g rt ml rg p t f ca) = machF g rt ml rg p t q ca := by kernel_rfl
end
/-- a list of the words m 0, m 1, .. -/
def memL (N : Nat) (m : Nat → Int) : List V := (List.range N).map fun a => V.int (m a)
theorem memL_len (N : Nat) (m : Nat → Int) : (memL N m).length = N := by simp [memL]
theorem memL_get {N k : Nat} (m : Nat → Int) (h : k < N) : (memL N m)[k]? = some (.int (m k)) := by
  unfold memL
  rw [List.getElem?_map, List.getElem?_range h]
  rfl
theorem memL_set {N k : Nat} (m : Nat → Int) (v : Int) (h : k < N) : (memL N m).set k (.int v) = memL N (Sk.up m k v) := by
  apply List.ext_getElem?
  intro i
  by_cases hi : i < N
  · rw [memL_get _ hi, List.getElem?_set]
    by_cases e : k = i
    · subst e
      rw [if_pos rfl, if_pos (by rw [memL_len]; exact hi), Sk.up_same]
    · rw [if_neg e, memL_get _ hi, Sk.up_ne _ _ (fun q => e q.symm)]
  · rw [List.getElem?_eq_none (by rw [List.length_set, memL_len]; omega), List.getElem?_eq_none (by rw [memL_len]; omega)]
theorem ixN_nat {n k : Nat} (h : k < n) : ixN n (k : Int) = some k := by
  unfold ixN
  simp
  omega
theorem memL_cut {N a c : Nat} (m : Nat → Int) (h : a + c ≤ N) : cutV (memL N m) (some (a : Int)) (some ((a : Int) + c)) = memL c (fun k => m (a + k)) := by
  unfold cutV
  rw [memL_len, HT.sIx_nat, show (a : Int) + c = ((a + c : Nat) : Int) from by omega, HT.sIx_nat, Nat.min_eq_left (by omega : a ≤ N), Nat.min_eq_left h, show a + c - a = c from by omega]
  apply List.ext_getElem?
  intro i
  by_cases hi : i < c
  · rw [List.getElem?_take_of_lt hi, List.getElem?_drop, memL_get _ (by omega), memL_get _ hi]
  · rw [List.getElem?_eq_none (by rw [List.length_take]; omega), List.getElem?_eq_none (by rw [memL_len]; omega)]
theorem memL_blit {N a b c : Nat} (m : Nat → Int) (ha : a + c ≤ N) (hb : b + c ≤ N) : (memL N m).take b ++ memL c (fun k => m (a + k)) ++ (memL N m).drop (b + c) = memL N (Sk.blit m a b c) := by
  apply List.ext_getElem?
  intro i
  have l1 : ((memL N m).take b).length = b := by rw [List.length_take, memL_len]; omega
  by_cases hi : i < N
  · rw [memL_get _ hi]
    unfold Sk.blit
    by_cases h1 : i < b
    · rw [List.append_assoc, List.getElem?_append_left (by omega), List.getElem?_take_of_lt h1, memL_get _ hi, if_neg (by omega)]
    · by_cases h2 : i < b + c
      · rw [if_pos ⟨by omega, h2⟩, List.append_assoc, List.getElem?_append_right (by omega), List.getElem?_append_left (by rw [memL_len]; omega), l1, memL_get _ (by omega)]
      · rw [if_neg (by omega), List.getElem?_append_right (by rw [List.length_append, l1, memL_len]; omega), List.length_append, l1, memL_len, List.getElem?_drop, memL_get _ (by omega)]
        rw [show b + c + (i - (b + c)) = i from by omega]
  · have l2 : ((memL N m).take b ++ memL c (fun k => m (a + k)) ++ (memL N m).drop (b + c)).length = N := by
      rw [List.length_append, List.length_append, l1, memL_len, List.length_drop, memL_len]
      omega
    rw [List.getElem?_eq_none (by omega), List.getElem?_eq_none (by rw [memL_len]; omega)]
/-- a machine's addresses -/
structure Ad where
  mc : Addr
  dx : Addr
  g : Addr
  rt : Addr
  ml : Addr
  rg : Addr
  ca : Addr
def Ad.S (a : Ad) : List Addr := [a.mc, a.ml, a.rg, a.ca]
/-- the machine stands at a -/
structure MachO (K : PySem.W.Frag) (C : Sk.Cfg) (H : Hp) (a : Ad) (ms : Sk.MS) (p t f : Nat) : Prop where
  obj : H a.mc = some (.ins (ga K "Machine") a.dx (machF a.g a.rt a.ml a.rg p t f a.ca))
  ring : RingA K H a.g a.rt C
  mem : H a.ml = some (.lst (memL (nWords C) ms.mem))
  reg : H a.rg = some (.lst (memL 32 ms.reg))
  aff : ∃ kvs, H a.ca = some (.dK kvs) ∧ kvs.length ≤ f
  ne : a.ml ≠ a.rg
  mw : ∀ k, k < nWords C → 0 ≤ ms.mem k ∧ ms.mem k < 1000000
  rw_ : ∀ k, k < 32 → 0 ≤ ms.reg k ∧ ms.reg k < 1000000
section
variable {K : PySem.W.Frag} {C : Sk.Cfg} {H H' : Hp} {a : Ad} {ms : Sk.MS} {p t f : Nat}
theorem MachO.n1 (M : MachO K C H a ms p t f) : a.mc ≠ a.ml := ne_of M.obj M.mem (by intro z; cases z)
theorem MachO.n2 (M : MachO K C H a ms p t f) : a.mc ≠ a.rg := ne_of M.obj M.reg (by intro z; cases z)
theorem MachO.n3 (M : MachO K C H a ms p t f) : a.mc ≠ a.ca := let ⟨_, h, _⟩ := M.aff; ne_of M.obj h (by intro z; cases z)
theorem MachO.n4 (M : MachO K C H a ms p t f) : a.ml ≠ a.ca := let ⟨_, h, _⟩ := M.aff; ne_of M.mem h (by intro z; cases z)
theorem MachO.n5 (M : MachO K C H a ms p t f) : a.rg ≠ a.ca := let ⟨_, h, _⟩ := M.aff; ne_of M.reg h (by intro z; cases z)
theorem MachO.gS (M : MachO K C H a ms p t f) (hC : ga K "Machine" ≠ ga K "Ring") : a.g ∉ a.S := by
  obtain ⟨dx, rp, pl, h1, _⟩ := M.ring
  obtain ⟨_, h, _⟩ := M.aff
  have n1 := ne_of h1 M.obj (by intro z; injection z with z; exact hC z.symm)
  have n2 := ne_of h1 M.mem (by intro z; cases z)
  have n3 := ne_of h1 M.reg (by intro z; cases z)
  have n4 := ne_of h1 h (by intro z; cases z)
  simp [Ad.S, n1, n2, n3, n4]
theorem MachO.keep0 (M : MachO K C H a ms p t f) (k : Keep [] H H') : MachO K C H' a ms p t f := by
  obtain ⟨kvs, h1, h2⟩ := M.aff
  exact ⟨k.o _ _ M.obj (by simp), M.ring.keep k (by simp), k.o _ _ M.mem (by simp), k.o _ _ M.reg (by simp), ⟨kvs, k.o _ _ h1 (by simp), h2⟩, M.ne, M.mw, M.rw_⟩
/-- the words stored -/
theorem MachO.memS (M : MachO K C H a ms p t f) (hC : ga K "Machine" ≠ ga K "Ring") {m' : Nat → Int} (hm : ∀ k, k < nWords C → 0 ≤ m' k ∧ m' k < 1000000) : MachO K C (upd H a.ml (.lst (memL (nWords C) m'))) a ⟨m', ms.reg⟩ p t f := by
  have k : Keep [a.ml] H (upd H a.ml (.lst (memL (nWords C) m'))) := Keep.at M.mem rfl (by simp)
  obtain ⟨kvs, h1, h2⟩ := M.aff
  have g1 := M.gS hC
  simp only [Ad.S, List.mem_cons, List.not_mem_nil, or_false, not_or] at g1
  exact ⟨by rw [upd_ne M.n1]; exact M.obj, M.ring.keep k (by simpa using g1.2.1), upd_same, by rw [upd_ne M.ne.symm]; exact M.reg, ⟨kvs, by rw [upd_ne M.n4.symm]; exact h1, h2⟩, M.ne, hm, M.rw_⟩
theorem MachO.regS (M : MachO K C H a ms p t f) (hC : ga K "Machine" ≠ ga K "Ring") {m' : Nat → Int} (hm : ∀ k, k < 32 → 0 ≤ m' k ∧ m' k < 1000000) : MachO K C (upd H a.rg (.lst (memL 32 m'))) a ⟨ms.mem, m'⟩ p t f := by
  have k : Keep [a.rg] H (upd H a.rg (.lst (memL 32 m'))) := Keep.at M.reg rfl (by simp)
  obtain ⟨kvs, h1, h2⟩ := M.aff
  have g1 := M.gS hC
  simp only [Ad.S, List.mem_cons, List.not_mem_nil, or_false, not_or] at g1
  exact ⟨by rw [upd_ne M.n2]; exact M.obj, M.ring.keep k (by simpa using g1.2.2.1), by rw [upd_ne M.ne]; exact M.mem, upd_same, ⟨kvs, by rw [upd_ne M.n5.symm]; exact h1, h2⟩, M.ne, M.mw, hm⟩
theorem MachO.objS (M : MachO K C H a ms p t f) (hC : ga K "Machine" ≠ ga K "Ring") (p' t' f' : Nat) (hf : f ≤ f') : MachO K C (upd H a.mc (.ins (ga K "Machine") a.dx (machF a.g a.rt a.ml a.rg p' t' f' a.ca))) a ms p' t' f' := by
  have k : Keep [a.mc] H (upd H a.mc (.ins (ga K "Machine") a.dx (machF a.g a.rt a.ml a.rg p' t' f' a.ca))) := Keep.at M.obj rfl (by simp)
  obtain ⟨kvs, h1, h2⟩ := M.aff
  have g1 := M.gS hC
  simp only [Ad.S, List.mem_cons, List.not_mem_nil, or_false, not_or] at g1
  exact ⟨upd_same, M.ring.keep k (by simpa using g1.1), by rw [upd_ne M.n1.symm]; exact M.mem, by rw [upd_ne M.n2.symm]; exact M.reg, ⟨kvs, by rw [upd_ne M.n3.symm]; exact h1, Nat.le_trans h2 hf⟩, M.ne, M.mw, M.rw_⟩
end
theorem memL_ints (N : Nat) (m : Nat → Int) : memL N m = ((List.range N).map m).map V.int := by
  unfold memL
  rw [List.map_map]
  rfl
theorem memL_dp {K : PySem.W.Frag} {H : Hp} {p : Addr} {N : Nat} {m : Nat → Int} (h : H p = some (.lst (memL N m))) : Dp K H (.ref p) (.list (((List.range N).map m).map PyData.int)) := by
  rw [memL_ints] at h
  exact .lst (SqL.of h) (dp_ints _)
theorem eqv_ints : ∀ xs ys : List Int, PyData.eqvAll (xs.map PyData.int) (ys.map PyData.int) = decide (xs = ys)
  | [], [] => by simp [PyData.eqvAll]
  | [], _ :: _ => by simp [PyData.eqvAll]
  | _ :: _, [] => by simp [PyData.eqvAll]
  | x :: xs, y :: ys => by
    simp only [List.map_cons, PyData.eqvAll, PyData.eqv, eqv_ints xs ys]
    by_cases h : x = y
    · subst h; simp
    · simp [h]
theorem memL_eqv (N : Nat) (m m' : Nat → Int) : PyData.eqv (.list (((List.range N).map m).map PyData.int)) (.list (((List.range N).map m').map PyData.int)) = decide (∀ k, k < N → m k = m' k) := by
  simp only [PyData.eqv, eqv_ints]
  have e : ((List.range N).map m = (List.range N).map m') ↔ ∀ k, k < N → m k = m' k := by
    rw [List.map_inj_left]
    simp only [List.mem_range]
  exact decide_eq_decide.mpr e
def spExec (K : PySem.W.Frag) : Sp := fun vs H Q _ => ∃ (C : Sk.Cfg) (a : Ad) (ms : Sk.MS) (p t f : Nat) (rp : Addr) (r : Sk.Rw), vs = [V.ref a.mc, V.ref rp] ∧ MachO K C H a ms p t f ∧ Valid C ∧ RowA H rp r ∧ Sk.RowFit (nWords C) r ∧ ∀ H', MachO K C H' a (Sk.exec r ms) p t f → Keep a.S H H' → Q .non H'
section
variable {P : Program} {w : World} {K : PySem.W.Frag} {mg : Str → Option Value} {base : Heap}
theorem M_execute (F : Fx K mg) : Mn P w K mg base 2 (ga K "Machine") "execute" ["self", "row"] (spExec K) := by
  refine mn_mk F.f_Machine_execute F.m_Machine_execute sc_Machine_execute (fun _ _ _ _ _ _ us hl => match us, hl with | [_, _], _ => rfl) (by rintro vs H Q E ⟨_, _, _, _, _, _, _, _, rfl, _⟩; rfl) ?_
  rintro cdv A outer s H vs Q E hr ⟨C, a, ms, p, t, f, rp, r, rfl, M, ok, hrow, fit, h⟩
  refine ⟨_, (pss_cons (ps_par (i := 2) (j := 3) rfl sc_Machine_execute.nd rfl rfl (by decide) rfl rfl (pa_cons (pe_ix ix_tup (pv 1) pe_int (fun _ _ => rfl)) (pa_cons (pe_ix ix_tup (pv 1) pe_int (fun _ _ => rfl)) pa_nil)) (by rfl))
    (pss_cons (ps_par (i := 4) (j := 5) rfl sc_Machine_execute.nd rfl rfl (by decide) rfl rfl (pa_cons (pe_fld (pv 0) rfl) (pa_cons (pe_fld (pv 0) rfl) pa_nil)) (by rfl))
    (pss_one (ps_if (pt_cmpR op_eq (pv 2) pe_str (nomark _)) (pss_one (ps_asg (pe_ix ix_list (pv 5) (pe_ix ix_tup (pv 1) pe_int (fun _ _ => rfl)) (fun _ _ => rfl)) (pg_sub (pv 4) (pv 3) set_list))) (pss_one (ps_if (pt_cmpR op_eq (pv 2) pe_str (nomark _)) (pss_one (ps_asg (pe_ix ix_tup (pv 1) pe_int (fun _ _ => rfl)) (pg_sub (pv 4) (pv 3) set_list))) (pss_one (ps_if (pt_cmpR op_eq (pv 2) pe_str (nomark _)) (pss_cons (ps_asg (pe_slice sl_tup (pv 1) (po_some pe_int) po_none) (pg_tup (by rfl) (pgs_cons (pg_name (i := 6) sc_Machine_execute.nd rfl (by first | exact .inl rfl | exact .inr rfl)) (pgs_cons (pg_name (i := 7) sc_Machine_execute.nd rfl (by first | exact .inl rfl | exact .inr rfl)) (pgs_cons (pg_name (i := 8) sc_Machine_execute.nd rfl (by first | exact .inl rfl | exact .inr rfl)) pgs_nil)))))
    (pss_one (ps_asg (pe_callTy call_int1 (by rfl) F.b_int bt_int (pa_cons (pe_cmpR (op_eqD hr.units) (pe_slice sl_list (pv 5) (po_some (pv 6)) (po_some (pe_op op_add (pv 6) (pv 8)))) (pe_slice sl_list (pv 5) (po_some (pv 7)) (po_some (pe_op op_add (pv 7) (pv 8)))) (nomark _)) pa_nil)) (pg_sub (pv 4) (pv 3) set_list)))) (pss_one (ps_if (pt_cmpR op_eq (pv 2) pe_str (nomark _)) (pss_one (ps_asg (pe_ix ix_list (pv 4) (pv 3) (fun _ _ => rfl)) (pg_sub (pv 5) (pe_ix ix_tup (pv 1) pe_int (fun _ _ => rfl)) set_list))) (pss_one (ps_if (pt_cmpR op_eq (pv 2) pe_str (nomark _)) (pss_one (ps_if (pt_cmpR op_ne (pe_ix ix_list (pv 4) (pv 3) (fun _ _ => rfl)) pe_int (nomark _)) (pss_cons (ps_asg (pe_slice sl_tup (pv 1) (po_some pe_int) po_none) (pg_tup (by rfl) (pgs_cons (pg_name (i := 6) sc_Machine_execute.nd rfl (by first | exact .inl rfl | exact .inr rfl)) (pgs_cons (pg_name (i := 7) sc_Machine_execute.nd rfl (by first | exact .inl rfl | exact .inr rfl)) (pgs_cons (pg_name (i := 8) sc_Machine_execute.nd rfl (by first | exact .inl rfl | exact .inr rfl)) pgs_nil)))))
    (pss_one (ps_asg (pe_slice sl_list (pv 5) (po_some (pv 6)) (po_some (pe_op op_add (pv 6) (pv 8)))) (pg_slc (pv 5) (pe_sliceO (po_some (pv 7)) (po_some (pe_op op_add (pv 7) (pv 8)))) set_slc)))) pss_nil)) (pss_one (ps_if (pt_cmpR op_eq (pv 2) pe_str (nomark _)) (pss_one (ps_asg (pe_ix ix_list (pv 4) (pe_ifExp (pt_cmpR op_ne (pe_ix ix_list (pv 4) (pe_ix ix_tup (pv 1) pe_int (fun _ _ => rfl)) (fun _ _ => rfl)) pe_int (nomark _)) (pe_ix ix_tup (pv 1) pe_int (fun _ _ => rfl)) (pe_ix ix_tup (pv 1) pe_int (fun _ _ => rfl))) (fun _ _ => rfl)) (pg_sub (pv 4) (pv 3) set_list))) (pss_one (ps_asg (sk_call (D_operator_value F) hr (pa_cons (pv 2) (pa_cons (pe_ix ix_list (pv 4) (pe_ix ix_tup (pv 1) pe_int (fun _ _ => rfl)) (fun _ _ => rfl)) (pa_cons (pe_ix ix_list (pv 4) (pe_ix ix_tup (pv 1) pe_int (fun _ _ => rfl)) (fun _ _ => rfl)) pa_nil)))) (pg_sub (pv 4) (pv 3) set_list))))))))))))))))), ?_⟩
  have hC := F.ne
  obtain ⟨wd, g, rest, er, gt⟩ : ∃ (wd : Str) (g : Nat) (rest : List V), rowV r = .str wd :: .int g :: rest ∧ g = Sk.goal r := by
    cases r <;> exact ⟨_, _, _, rfl, rfl⟩
  have hp0 : H rp = some (.tup (.str wd :: .int g :: rest)) := by rw [← er]; exact hrow
  have g32 : g < 32 := by
    subst gt
    cases r <;> exact fit.1
  refine rd_seq fun D1 k1 r1 => ?_
  refine ⟨_, rfl, rp, _, 0, _, rfl, rfl, SqT.of hp0, at0, _, rfl, rp, _, 1, _, rfl, rfl, SqT.of hp0, at1, _, _, rfl, k1 _ _ ?_⟩
  clear k1
  refine rd_seq fun D2 k2 r2 => ?_
  refine ⟨_, rfl, a.mc, _, a.dx, _, _, rfl, M.obj, F.c_Machine, F.n_register_words, machF_4 _ _ _ _ _ _ _ _, _, rfl, a.mc, _, a.dx, _, _, rfl, M.obj, F.c_Machine, F.n_memory_words, machF_3 _ _ _ _ _ _ _ _, _, _, rfl, k2 _ _ ?_⟩
  clear k2
  show tIfS _ _ _ _ [some (.ref a.mc), some (.ref rp), some (.str wd), some (.int g), some (.ref a.rg), some (.ref a.ml), none, none, none] H
  have kR : ∀ (H2 : Hp) (m' : Nat → Int), Keep [] H H2 → Keep a.S H (upd H2 a.rg (.lst (memL 32 m'))) := fun H2 m' k => k.nil.trans (Keep.at (k.o _ _ M.reg (by simp)) rfl (by simp [Ad.S]))
  have kM : ∀ (H2 : Hp) (m' : Nat → Int), Keep [] H H2 → Keep a.S H (upd H2 a.ml (.lst (memL (nWords C) m'))) := fun H2 m' k => k.nil.trans (Keep.at (k.o _ _ M.mem (by simp)) rfl (by simp [Ad.S]))
  obtain ⟨x1, x2⟩ := Sk.exec_range fit M.mw M.rw_
  have fr : ∀ (H2 : Hp) (m' : Nat → Int), Keep [] H H2 → Sk.exec r ms = ⟨ms.mem, m'⟩ → Q .non (upd H2 a.rg (.lst (memL 32 m'))) := fun H2 m' k e => by
    have M2 := (M.keep0 k).regS hC (m' := m') (by rw [e] at x2; exact x2)
    rw [← e] at M2
    exact h _ M2 (kR _ _ k)
  have fm : ∀ (H2 : Hp) (m' : Nat → Int), Keep [] H H2 → Sk.exec r ms = ⟨m', ms.reg⟩ → Q .non (upd H2 a.ml (.lst (memL (nWords C) m'))) := fun H2 m' k e => by
    have M2 := (M.keep0 k).memS hC (m' := m') (by rw [e] at x1; exact x1)
    rw [← e] at M2
    exact h _ M2 (kM _ _ k)
  cases r with
  | load r b =>
    simp only [rowV, List.cons.injEq, V.str.injEq, V.int.injEq] at er
    obtain ⟨rfl, e2, rfl⟩ := er
    obtain rfl : r = g := by omega
    trivial
    obtain ⟨f1, f2⟩ := fit
    refine ⟨_, SqT.of hp0, _, at2, _, b, rfl, SqL.of M.mem, _, atI_nat (memL_get _ f2), _, M.reg, r, ixN_nat (by rw [memL_len]; exact f1), ?_⟩
    rw [memL_set _ _ f1]
    exact fr _ _ (Keep.refl _ _) rfl
  | set r v =>
    simp only [rowV, List.cons.injEq, V.str.injEq, V.int.injEq] at er
    obtain ⟨rfl, e2, rfl⟩ := er
    obtain rfl : r = g := by omega
    trivial
    simp only [sN_set_load, if_false]
    trivial
    obtain ⟨f1, f2⟩ := fit
    refine ⟨_, SqT.of hp0, _, at2, _, M.reg, r, ixN_nat (by rw [memL_len]; exact f1), ?_⟩
    rw [memL_set _ _ f1]
    exact fr _ _ (Keep.refl _ _) rfl
  | alike r b c m =>
    simp only [rowV, List.cons.injEq, V.str.injEq, V.int.injEq] at er
    obtain ⟨rfl, e2, rfl⟩ := er
    obtain rfl : r = g := by omega
    trivial
    simp only [sN_alike_load, sN_alike_set, if_false]
    trivial
    obtain ⟨f1, f2, f3⟩ := fit
    refine ⟨_, SqT.of hp0, by simp [HT.sIx], fun p0 hp0' => ⟨[.int b, .int c, .int m], SqT.of upd_same, rfl, _, _, rfl, _, _, rfl, _, _, rfl, rfl, b, rfl, b, rfl, m, rfl, _, SqL.of (by rw [upd_ne (ne_of_none M.mem hp0')]; exact M.mem), fun p1 hp1 => ?_⟩⟩
    have c1 : Keep [] H (upd H p0 (.tup (cutV [V.str "alike", V.int r, V.int b, V.int c, V.int m] (some 2) none))) := Keep.new hp0'
    rw [memL_cut _ f2]
    have c2 := c1.trans (Keep.new (o := .lst (memL m fun k => ms.mem (b + k))) hp1)
    have e1 : upd (upd H p0 (.tup (cutV [V.str "alike", V.int r, V.int b, V.int c, V.int m] (some 2) none))) p1 (.lst (memL m fun k => ms.mem (b + k))) p1 = _ := upd_same
    generalize upd (upd H p0 (.tup (cutV [V.str "alike", V.int r, V.int b, V.int c, V.int m] (some 2) none))) p1 (.lst (memL m fun k => ms.mem (b + k))) = H2 at c2 e1 ⊢
    refine ⟨c, rfl, c, rfl, m, rfl, _, SqL.of (c2.o _ _ M.mem (by simp)), fun p2 hp2 => ?_⟩
    rw [memL_cut _ f3]
    have c3 := c2.trans (Keep.new (o := .lst (memL m fun k => ms.mem (c + k))) hp2)
    have e3 : upd H2 p2 (.lst (memL m fun k => ms.mem (c + k))) p1 = some (.lst (memL m fun k => ms.mem (b + k))) := by rw [upd_ne (ne_of_none e1 hp2)]; exact e1
    have e4 : upd H2 p2 (.lst (memL m fun k => ms.mem (c + k))) p2 = _ := upd_same
    generalize upd H2 p2 (.lst (memL m fun k => ms.mem (c + k))) = H3 at c3 e3 e4 ⊢
    refine ⟨_, _, memL_dp e3, memL_dp e4, PySem.W.shaped_ints _, PySem.W.shaped_ints _, .inr ⟨_, rfl, _, c3.o _ _ M.reg (by simp), r, ixN_nat (by rw [memL_len]; exact f1), ?_⟩⟩
    rw [memL_set _ _ f1]
    refine fr _ _ c3 ?_
    rw [memL_eqv]
    simp only [Sk.exec, decide_eq_true_eq]
  | store r b =>
    simp only [rowV, List.cons.injEq, V.str.injEq, V.int.injEq] at er
    obtain ⟨rfl, e2, rfl⟩ := er
    obtain rfl : r = g := by omega
    trivial
    simp only [sN_store_load, sN_store_set, sN_store_alike, if_false]
    trivial
    obtain ⟨f1, f2⟩ := fit
    refine ⟨_, SqL.of M.reg, _, atI_nat (memL_get _ f1), _, SqT.of hp0, _, at2, _, b, rfl, M.mem, b, ixN_nat (by rw [memL_len]; exact f2), ?_⟩
    rw [memL_set _ _ f2]
    exact fm _ _ (Keep.refl _ _) rfl
  | move r b c m =>
    simp only [rowV, List.cons.injEq, V.str.injEq, V.int.injEq] at er
    obtain ⟨rfl, e2, rfl⟩ := er
    obtain rfl : r = g := by omega
    trivial
    simp only [sN_move_load, sN_move_set, sN_move_alike, sN_move_store, if_false]
    trivial
    obtain ⟨f1, f2, f3⟩ := fit
    refine ⟨_, SqL.of M.reg, _, atI_nat (memL_get _ f1), ?_⟩
    trivial
    by_cases q0 : ms.reg r = 0
    · refine iteF' (by simp [q0]) ?_
      have e : Sk.exec (.move r b c m) ms = ms := by simp [Sk.exec, q0]
      rw [e] at h
      exact h _ M (Keep.refl _ _)
    · refine iteT' (by simp [q0]) ?_
      refine ⟨_, SqT.of hp0, by simp [HT.sIx], fun p0 hp0' => ⟨[.int b, .int c, .int m], SqT.of upd_same, rfl, _, _, rfl, _, _, rfl, _, _, rfl, rfl, b, rfl, b, rfl, m, rfl, _, SqL.of (by rw [upd_ne (ne_of_none M.mem hp0')]; exact M.mem), fun p1 hp1 => ?_⟩⟩
      have c1 : Keep [] H (upd H p0 (.tup (cutV [V.str "move", V.int r, V.int b, V.int c, V.int m] (some 2) none))) := Keep.new hp0'
      rw [memL_cut _ f2]
      have c2 := c1.trans (Keep.new (o := .lst (memL m fun k => ms.mem (b + k))) hp1)
      have e1 : upd (upd H p0 (.tup (cutV [V.str "move", V.int r, V.int b, V.int c, V.int m] (some 2) none))) p1 (.lst (memL m fun k => ms.mem (b + k))) p1 = _ := upd_same
      generalize upd (upd H p0 (.tup (cutV [V.str "move", V.int r, V.int b, V.int c, V.int m] (some 2) none))) p1 (.lst (memL m fun k => ms.mem (b + k))) = H2 at c2 e1 ⊢
      refine ⟨_, rfl, c, rfl, _, rfl, _, rfl, _, _, rfl, rfl, _, rfl, _, _, rfl, rfl, fun p2 hp2 => ?_⟩
      have c3 := c2.trans (Keep.new (o := slO p2 c ((c : Int) + m)) hp2)
      have e3 : upd H2 p2 (slO p2 c ((c : Int) + m)) p1 = some (.lst (memL m fun k => ms.mem (b + k))) := by rw [upd_ne (ne_of_none e1 hp2)]; exact e1
      have e4 : upd H2 p2 (slO p2 c ((c : Int) + m)) p2 = _ := upd_same
      have e5 : a.ml ≠ p1 := ne_of_none (c1.o _ _ M.mem (by simp)) hp1
      generalize upd H2 p2 (slO p2 c ((c : Int) + m)) = H3 at c3 e3 e4 ⊢
      refine ⟨a.ml, p1, p2, _, _, _, _, rfl, rfl, rfl, c3.o _ _ M.mem (by simp), e3, e5, e4, by omega, by omega, by rw [memL_len]; omega, ?_, ?_⟩
      · rw [memL_len, memL_len]
        have := ok.n10
        have := ok.k16
        have : nWords C ≤ 48 * 16 := Nat.mul_le_mul (by unfold Sk.Cfg.ln; omega) (by omega)
        exact line5 (by omega)
      · rw [show ((c : Nat) : Int).toNat = c from rfl, show ((c : Int) + m).toNat = c + m from by omega, memL_blit _ f2 f3]
        exact fm _ _ c3 (by simp [Sk.exec, q0])
  | choose r b c d =>
    simp only [rowV, List.cons.injEq, V.str.injEq, V.int.injEq] at er
    obtain ⟨rfl, e2, rfl⟩ := er
    obtain rfl : r = g := by omega
    trivial
    simp only [sN_choose_load, sN_choose_set, sN_choose_alike, sN_choose_store, sN_choose_move, if_false]
    trivial
    obtain ⟨f1, f2, f3, f4⟩ := fit
    refine ⟨_, SqT.of hp0, _, at2, _, b, rfl, SqL.of M.reg, _, atI_nat (memL_get _ f2), ?_⟩
    trivial
    by_cases q0 : ms.reg b = 0
    · refine iteF' (by simp [q0]) ⟨_, SqT.of hp0, _, rfl, _, d, rfl, SqL.of M.reg, _, atI_nat (memL_get _ f4), _, M.reg, r, ixN_nat (by rw [memL_len]; exact f1), ?_⟩
      rw [memL_set _ _ f1]
      exact fr _ _ (Keep.refl _ _) (by simp [Sk.exec, q0])
    · refine iteT' (by simp [q0]) ⟨_, SqT.of hp0, _, rfl, _, c, rfl, SqL.of M.reg, _, atI_nat (memL_get _ f3), _, M.reg, r, ixN_nat (by rw [memL_len]; exact f1), ?_⟩
      rw [memL_set _ _ f1]
      exact fr _ _ (Keep.refl _ _) (by simp [Sk.exec, q0])
  | op o r b c =>
    obtain ⟨f1, f2, f3⟩ := fit
    simp only [rowV, List.cons.injEq, V.str.injEq, V.int.injEq] at er
    obtain ⟨rfl, e2, rfl⟩ := er
    obtain rfl : r = g := by omega
    have e1 : ∀ z ∈ ([("load" : Str), "set", "alike", "store", "move", "choose"] : List Str), (opS o = z) = False := by
      cases o <;> (intro z hz; refine eq_false ?_; revert z; decide +kernel)
    trivial
    simp only [e1 _ (by simp : ("load" : Str) ∈ _), e1 _ (by simp : ("set" : Str) ∈ _), e1 _ (by simp : ("alike" : Str) ∈ _), e1 _ (by simp : ("store" : Str) ∈ _), e1 _ (by simp : ("move" : Str) ∈ _), e1 _ (by simp : ("choose" : Str) ∈ _), if_false]
    trivial
    refine ⟨_, SqT.of hp0, _, at2, _, b, rfl, SqL.of M.reg, _, atI_nat (memL_get _ f2), _, SqT.of hp0, _, rfl, _, c, rfl, SqL.of M.reg, _, atI_nat (memL_get _ f3), o, _, _, rfl, (M.rw_ b f2).1, (M.rw_ b f2).2, (M.rw_ c f3).1, (M.rw_ c f3).2, _, M.reg, r, ixN_nat (by rw [memL_len]; exact f1), ?_⟩
    rw [memL_set _ _ f1]
    exact fr _ _ (Keep.refl _ _) rfl
end
end Wk
end

section
set_option Elab.async false
set_option linter.all false
set_option maxRecDepth 100000
set_option maxHeartbeats 4000000
/-! the walk: a machine runs -/
namespace Wk
open PySem PySem.Spec PyProof.Rows L2 StX
local macro_rules | `(tactic| trivial) => `(tactic| try simp only [spInt, spWord, spIdx, spNum, spReg, isi_ii, isi_ib, isi_ss, eq_ii, ne_ii, eq_ss, ne_ss, cxK, wipe, rLenS, rSlL, rSlT, tRevL, tDisp, tPairs, rCat, rRep, rExtend, rAdd, rSub, rSetD, rPop, rAppend, rIxL, rIxT, rSetL, tVar, tC, t2I, tB, tAnd, tOr, tNot, tAndV, tOrV, tNotV, tIf, tNext, tSeq, tDrop, tRet, tRetN, tIfS, tNever, tAsg, tPar, tOp, tUn, rI, rI0, rU, tTest, tChain, tFld, tCon, tNil, tCons, tTup, tLst, tCall, tMeth, tProp, tCB, tSl, tNoPart, tPart, tBM, tBM0, gName, gTup, gNil, gCons, gSub, sFld, L2.start, tDGet, tDIn, tDNotIn, tDNewK, tDNewT, sDPut, tDGet2, and_assoc, exists_and_left, exists_and_right, exists_eq_left', exists_eq_left, exists_eq_right, exists_eq', V.int.injEq, V.str.injEq, V.bl.injEq, V.ref.injEq, List.cons.injEq, and_true, true_and, List.append_nil, List.map_cons, List.map_nil, List.length_cons, List.length_nil, List.cons_append, List.nil_append, Nat.reduceAdd, Nat.reduceSub, List.reduceReplicate, List.getElem?_cons_succ, List.getElem?_cons_zero, List.set_cons_succ, List.set_cons_zero, Option.some.injEq, if_true, Bool.false_eq_true, if_false, decide_eq_true_eq, Bool.not_true, Bool.not_false, Bool.not_eq_true', decide_eq_false_iff_not, decide_true, decide_false, Bool.true_and, Bool.and_true, Bool.false_and, Int.reduceEq, Int.reduceLT, Int.reduceLE, Int.reduceNeg, reduceCtorEq, not_false_eq_true, not_true_eq_false])
theorem Valid.g1 {C : Sk.Cfg} (ok : Valid C) : Sk.Good1 C := ⟨ok.n1, ok.len, fun x hx => ⟨_, (ok.recs x hx).rows⟩, by have := ok.e3; omega⟩
structure Sys (C : Sk.Cfg) (s0 : Sk.MS) : Prop where
  ok : Valid C
  o : C.Ok
  hK : (C.e = 1 ∧ 3 ≤ C.K) ∨ (C.e + 1) * (C.e + 1) ≤ C.K
  init : Sk.Init C s0
def MachR (K : PySem.W.Frag) (C : Sk.Cfg) (s0 : Sk.MS) (H : Hp) (a : Ad) (t f : Nat) : Prop := ∃ ms p, MachO K C H a ms p t f ∧ Sk.Reach C s0 f t ms p
theorem MachR.keep0 {K : PySem.W.Frag} {C : Sk.Cfg} {s0 : Sk.MS} {H H' : Hp} {a : Ad} {t f : Nat} (M : MachR K C s0 H a t f) (k : Keep [] H H') : MachR K C s0 H' a t f := by
  obtain ⟨ms, p, h1, h2⟩ := M
  exact ⟨ms, p, h1.keep0 k, h2⟩
def spNext (K : PySem.W.Frag) : Sp := fun vs H Q _ => ∃ (C : Sk.Cfg) (a : Ad) (ms : Sk.MS) (p t f : Nat), vs = [V.ref a.mc] ∧ MachO K C H a ms p t f ∧ Valid C ∧ p < C.L ∧ ∀ r H', C.rowAt p = some r → MachO K C H' a (Sk.exec r ms) (Sk.nextRow C p) (t + 1) f → Keep a.S H H' → Q .non H'
def spRun (K : PySem.W.Frag) : Sp := fun vs H Q _ => ∃ (C : Sk.Cfg) (s0 : Sk.MS) (a : Ad) (t f k : Nat), vs = [V.ref a.mc, V.int k] ∧ MachR K C s0 H a t f ∧ Sys C s0 ∧ f ≤ C.e ∧ k < 4611686018427387904 ∧ ∀ H', MachR K C s0 H' a (t + k) f → Keep a.S H H' → Q .non H'
def spMGet (K : PySem.W.Frag) (g : Nat → Nat → Int) : Sp := fun vs H Q _ => ∃ (C : Sk.Cfg) (a : Ad) (ms : Sk.MS) (p t f : Nat), vs = [V.ref a.mc] ∧ MachO K C H a ms p t f ∧ Q (.int (g t f)) H
def spMRow (K : PySem.W.Frag) : Sp := fun vs H Q _ => ∃ (C : Sk.Cfg) (a : Ad) (ms : Sk.MS) (p t f : Nat), vs = [V.ref a.mc] ∧ MachO K C H a ms p t f ∧ Q (.int p) H
def spMem (K : PySem.W.Frag) : Sp := fun vs H Q _ => ∃ (C : Sk.Cfg) (a : Ad) (ms : Sk.MS) (p t f : Nat), vs = [V.ref a.mc] ∧ MachO K C H a ms p t f ∧ ∀ l, H l = none → Q (.ref l) (upd H l (.tup (memL (nWords C) ms.mem)))
section
variable {P : Program} {w : World} {K : PySem.W.Frag} {mg : Str → Option Value} {base : Heap}
theorem P_executed (F : Fx K mg) : Pn P w K mg base 1 (ga K "Machine") "executed" (spMGet K fun t _ => t) := by
  refine pn_mk (ps := ["self"]) F.p_Machine_executed rfl rfl rfl sc_Machine_executed (fun _ _ _ _ _ _ us hl => match us, hl with | [_], _ => rfl) (by rintro vs H Q E ⟨_, _, _, _, _, _, rfl, _⟩; rfl) ?_
  rintro cdv A outer s H vs Q E hr ⟨C, a, ms, p, t, f, rfl, M, h⟩
  exact ⟨_, (pss_one (ps_ret (pe_fld (pv 0) rfl))), _, rfl, a.mc, _, a.dx, _, _, rfl, M.obj, F.c_Machine, F.n_rows_done, machF_6 _ _ _ _ _ _ _ _, h⟩
theorem P_fault_count (F : Fx K mg) : Pn P w K mg base 1 (ga K "Machine") "fault_count" (spMGet K fun _ f => f) := by
  refine pn_mk (ps := ["self"]) F.p_Machine_fault_count rfl rfl rfl sc_Machine_fault_count (fun _ _ _ _ _ _ us hl => match us, hl with | [_], _ => rfl) (by rintro vs H Q E ⟨_, _, _, _, _, _, rfl, _⟩; rfl) ?_
  rintro cdv A outer s H vs Q E hr ⟨C, a, ms, p, t, f, rfl, M, h⟩
  exact ⟨_, (pss_one (ps_ret (pe_fld (pv 0) rfl))), _, rfl, a.mc, _, a.dx, _, _, rfl, M.obj, F.c_Machine, F.n_faults_done, machF_7 _ _ _ _ _ _ _ _, h⟩
theorem P_row (F : Fx K mg) : Pn P w K mg base 1 (ga K "Machine") "row" (spMRow K) := by
  refine pn_mk (ps := ["self"]) F.p_Machine_row rfl rfl rfl sc_Machine_row (fun _ _ _ _ _ _ us hl => match us, hl with | [_], _ => rfl) (by rintro vs H Q E ⟨_, _, _, _, _, _, rfl, _⟩; rfl) ?_
  rintro cdv A outer s H vs Q E hr ⟨C, a, ms, p, t, f, rfl, M, h⟩
  exact ⟨_, (pss_one (ps_ret (pe_fld (pv 0) rfl))), _, rfl, a.mc, _, a.dx, _, _, rfl, M.obj, F.c_Machine, F.n_next_row, machF_5 _ _ _ _ _ _ _ _, h⟩
theorem P_memory (F : Fx K mg) : Pn P w K mg base 1 (ga K "Machine") "memory" (spMem K) := by
  refine pn_mk (ps := ["self"]) F.p_Machine_memory rfl rfl rfl sc_Machine_memory (fun _ _ _ _ _ _ us hl => match us, hl with | [_], _ => rfl) (by rintro vs H Q E ⟨_, _, _, _, _, _, rfl, _⟩; rfl) ?_
  rintro cdv A outer s H vs Q E hr ⟨C, a, ms, p, t, f, rfl, M, h⟩
  exact ⟨_, (pss_one (ps_ret (pe_callTy call_tuple_of (by rfl) F.b_tuple bt_tuple (pa_cons (pe_fld (pv 0) rfl) pa_nil)))), _, rfl, a.mc, _, a.dx, _, _, rfl, M.obj, F.c_Machine, F.n_memory_words, machF_3 _ _ _ _ _ _ _ _, a.ml, _, rfl, .inl ⟨SqL.of M.mem, h⟩⟩
theorem M_execute_next (F : Fx K mg) : Mn P w K mg base 3 (ga K "Machine") "execute_next" ["self"] (spNext K) := by
  refine mn_mk F.f_Machine_execute_next F.m_Machine_execute_next sc_Machine_execute_next (fun _ _ _ _ _ _ us hl => match us, hl with | [_], _ => rfl) (by rintro vs H Q E ⟨_, _, _, _, _, _, rfl, _⟩; rfl) ?_
  rintro cdv A outer s H vs Q E hr ⟨C, a, ms, p, t, f, rfl, M, ok, hp, h⟩
  refine ⟨_, (pss_cons (ps_expr (sk_meth F.c_Machine (M_execute F) hr (pv 0) (pa_cons (pe_ix ix_tup (pe_fld (pv 0) rfl) (pe_fld (pv 0) rfl) (fun _ _ => rfl)) pa_nil)))
    (pss_cons (ps_fldaug (pv 0) pe_int in_add)
    (pss_cons (ps_fldaug (pv 0) pe_int in_add)
    (pss_one (ps_if (pt_cmpR op_eq (pe_fld (pv 0) rfl) (pe_callB call_len_seq (by rfl) F.b_len bt_len (pa_cons (pe_fld (pv 0) rfl) pa_nil)) (nomark _)) (pss_one (ps_fld (pv 0) pe_int rfl)) pss_nil))))), ?_⟩
  obtain ⟨r, hr1, fit⟩ := Sk.fit_row ok.g1 hp
  obtain ⟨dx, rp, pl, g1, g2, g3, us, g4, g5⟩ := M.ring
  rw [← Sk.ring_get hp] at hr1
  obtain ⟨ra, e1, e2⟩ := g5.get' hr1
  rw [Sk.ring_get hp] at hr1
  refine rd_seq fun D1 k1 r1 => ?_
  refine ⟨_, rfl, a.mc, a.dx, _, rfl, M.obj, machF_n1 _ _ _ _ _ _ _ _, _, rfl, a.mc, _, a.dx, _, _, rfl, M.obj, F.c_Machine, F.n_rows_listed, machF_2 _ _ _ _ _ _ _ _, _, rfl, a.mc, _, a.dx, _, _, rfl, M.obj, F.c_Machine, F.n_next_row, machF_5 _ _ _ _ _ _ _ _, a.rt, us, _, _, rfl, rfl, SqT.of g4, atI_nat e1, ?_⟩
  refine ⟨C, a, ms, p, t, f, ra, r, rfl, M, ok, e2, fit, fun H1 (M1 : MachO K C H1 a (Sk.exec r ms) p t f) c1 => k1 _ _ ?_⟩
  clear k1
  refine rd_seq fun D2 k2 r2 => ?_
  refine ⟨_, rfl, a.mc, _, a.dx, _, _, rfl, M1.obj, F.c_Machine, F.n_rows_done, machF_6 _ _ _ _ _ _ _ _, ?_⟩
  refine ⟨_, _, rfl, rfl, a.dx, _, M1.obj, by show 8 < 1000; decide, k2 _ _ ?_⟩
  clear k2
  rw [machP_6, show (t : Int) + 1 = ((t + 1 : Nat) : Int) from by omega]
  have M2 := M1.objS F.ne p (t + 1) f (Nat.le_refl _)
  have c2 : Keep a.S H1 (upd H1 a.mc (.ins (ga K "Machine") a.dx (machF a.g a.rt a.ml a.rg p (t + 1 : Nat) f a.ca))) := Keep.at M1.obj rfl (by simp [Ad.S])
  have c3 := c1.trans c2
  show tSeq _ _ _ _ (upd H1 a.mc (.ins (ga K "Machine") a.dx (machF a.g a.rt a.ml a.rg p (t + 1 : Nat) f a.ca)))
  generalize upd H1 a.mc (.ins (ga K "Machine") a.dx (machF a.g a.rt a.ml a.rg p (t + 1 : Nat) f a.ca)) = H2 at M2 c3 ⊢
  refine rd_seq fun D3 k3 r3 => ?_
  refine ⟨_, rfl, a.mc, _, a.dx, _, _, rfl, M2.obj, F.c_Machine, F.n_next_row, machF_5 _ _ _ _ _ _ _ _, _, _, rfl, rfl, a.dx, _, M2.obj, by show 8 < 1000; decide, k3 _ _ ?_⟩
  clear k3
  rw [machP_5, show (p : Int) + 1 = ((p + 1 : Nat) : Int) from by omega]
  have M3 := M2.objS F.ne (p + 1) (t + 1) f (Nat.le_refl _)
  have c4 : Keep a.S H2 (upd H2 a.mc (.ins (ga K "Machine") a.dx (machF a.g a.rt a.ml a.rg (p + 1 : Nat) (t + 1 : Nat) f a.ca))) := Keep.at M2.obj rfl (by simp [Ad.S])
  have c5 := c3.trans c4
  show tIfS _ _ _ _ _ (upd H2 a.mc (.ins (ga K "Machine") a.dx (machF a.g a.rt a.ml a.rg (p + 1 : Nat) (t + 1 : Nat) f a.ca)))
  generalize upd H2 a.mc (.ins (ga K "Machine") a.dx (machF a.g a.rt a.ml a.rg (p + 1 : Nat) (t + 1 : Nat) f a.ca)) = H3 at M3 c5 ⊢
  obtain ⟨dx3, rp3, pl3, g13, g23, g33, us3, g43, g53⟩ := M3.ring
  refine ⟨_, rfl, a.mc, _, a.dx, _, _, rfl, M3.obj, F.c_Machine, F.n_next_row, machF_5 _ _ _ _ _ _ _ _, _, rfl, a.mc, _, a.dx, _, _, rfl, M3.obj, F.c_Machine, F.n_rows_listed, machF_2 _ _ _ _ _ _ _ _, a.rt, us3, rfl, .inr (SqT.of g43), ?_⟩
  rw [g53.len, Sk.ring_len]
  dsimp only
  rw [eq_ii]
  refine ⟨_, rfl, ?_⟩
  by_cases c : p + 1 = C.L
  · have e : Sk.nextRow C p = 0 := by simp [Sk.nextRow, c]
    rw [e] at h
    refine iteT' (by simp; omega) ⟨_, rfl, a.mc, _, a.dx, _, rfl, M3.obj, F.c_Machine, F.n_next_row, by show 8 < 1000; decide, ?_⟩
    rw [machP_5]
    exact h r _ hr1 (M3.objS F.ne 0 (t + 1) f (Nat.le_refl _)) (c5.trans (Keep.at M3.obj rfl (by simp [Ad.S])))
  · have e : Sk.nextRow C p = p + 1 := by simp [Sk.nextRow, c]
    rw [e] at h
    refine iteF' (by simp; omega) ?_
    exact h r _ hr1 M3 c5
theorem M_run (F : Fx K mg) : Mn P w K mg base 4 (ga K "Machine") "run" ["self", "many"] (spRun K) := by
  refine mn_mk F.f_Machine_run F.m_Machine_run sc_Machine_run (fun _ _ _ _ _ _ us hl => match us, hl with | [_, _], _ => rfl) (by rintro vs H Q E ⟨_, _, _, _, _, _, rfl, _⟩; rfl) ?_
  rintro cdv A outer s H vs Q E hr ⟨C, s0, a, t, f, k, rfl, M, S, hf, hk, h⟩
  refine ⟨_, (pss_one (ps_for PassesOwn.never rfl (pi_range1 (by rfl) F.b_range (pa_cons (pv 1) pa_nil)) (pg_name (i := 2) sc_Machine_run.nd rfl (by first | exact .inl rfl | exact .inr rfl)) (pss_one (ps_expr (sk_meth0 F.c_Machine (M_execute_next F) hr (pv 0)))))), ?_⟩
  refine ⟨_, rfl, k, rfl, by omega, by omega, ?_⟩
  rw [show ((k : Nat) : Int).toNat = k from rfl]
  refine for_range (lo := 0) (n := k) (fun i σ H' => MachR K C s0 H' a (t + i) f ∧ Keep a.S H H' ∧ ∃ o, σ = [some (.ref a.mc), some (.int k), o]) ⟨M, Keep.refl _ _, _, rfl⟩ ?_ ?_
  · rintro i σ H' hi ⟨⟨ms, p, M1, R⟩, c1, o, rfl⟩
    have G := Sk.guarantee S.o S.hK S.init R hf
    refine ⟨_, rfl, a.mc, a.dx, _, rfl, M1.obj, machF_n2 _ _ _ _ _ _ _ _, C, a, ms, p, t + i, f, rfl, M1, S.ok, G.row, fun r H2 hr2 M2 c2 => ⟨⟨_, _, M2, ?_⟩, c1.trans c2, _, rfl⟩⟩
    exact R.step hr2
  · rintro σ H' ⟨M1, c1, o, rfl⟩
    exact h _ M1 c1
end
end Wk
end

section
set_option Elab.async false
set_option linter.all false
set_option maxRecDepth 100000
set_option maxHeartbeats 4000000
/-! the walk: a machine suffers -/
namespace Wk
open PySem PySem.Spec PyProof.Rows L2 StX
local macro_rules | `(tactic| trivial) => `(tactic| try simp only [spInt, spWord, spIdx, spNum, spReg, isi_ii, isi_ib, isi_ss, eq_ii, ne_ii, eq_ss, ne_ss, cxK, wipe, rLenS, rSlL, rSlT, tRevL, tDisp, tPairs, rCat, rRep, rExtend, rAdd, rSub, rSetD, rPop, rAppend, rIxL, rIxT, rSetL, tVar, tC, t2I, tB, tAnd, tOr, tNot, tAndV, tOrV, tNotV, tIf, tNext, tSeq, tDrop, tRet, tRetN, tIfS, tNever, tAsg, tPar, tOp, tUn, rI, rI0, rU, tTest, tChain, tFld, tCon, tNil, tCons, tTup, tLst, tCall, tMeth, tProp, tCB, tSl, tNoPart, tPart, tBM, tBM0, gName, gTup, gNil, gCons, gSub, sFld, L2.start, tDGet, tDIn, tDNotIn, tDNewK, tDNewT, sDPut, tDGet2, and_assoc, exists_and_left, exists_and_right, exists_eq_left', exists_eq_left, exists_eq_right, exists_eq', V.int.injEq, V.str.injEq, V.bl.injEq, V.ref.injEq, List.cons.injEq, and_true, true_and, List.append_nil, List.map_cons, List.map_nil, List.length_cons, List.length_nil, List.cons_append, List.nil_append, Nat.reduceAdd, Nat.reduceSub, List.reduceReplicate, List.getElem?_cons_succ, List.getElem?_cons_zero, List.set_cons_succ, List.set_cons_zero, Option.some.injEq, if_true, Bool.false_eq_true, if_false, decide_eq_true_eq, Bool.not_true, Bool.not_false, Bool.not_eq_true', decide_eq_false_iff_not, decide_true, decide_false, Bool.true_and, Bool.and_true, Bool.false_and, Int.reduceEq, Int.reduceLT, Int.reduceLE, Int.reduceNeg, reduceCtorEq, not_false_eq_true, not_true_eq_false])
theorem FlA.keep {S : List Addr} {H H' : Hp} {q : Addr} {fl : Fl} (h : FlA H q fl) (k : Keep S H H') : FlA H' q fl := k.t _ _ h
def spChg (K : PySem.W.Frag) : Sp := fun vs H Q _ => ∃ (C : Sk.Cfg) (a : Ad) (ms : Sk.MS) (p t f : Nat) (q : Addr) (fl : Fl), vs = [V.ref a.mc, V.ref q] ∧ MachO K C H a ms p t f ∧ FlA H q fl ∧ FlOk C fl ∧ ∀ b, Q (.bl b) H
def spNote (K : PySem.W.Frag) : Sp := fun vs H Q _ => ∃ (C : Sk.Cfg) (a : Ad) (ms : Sk.MS) (p t f : Nat) (q : Addr) (fl : Fl), vs = [V.ref a.mc, V.ref q] ∧ MachO K C H a ms p t f ∧ Valid C ∧ f ≤ 1000 ∧ FlA H q fl ∧ ∀ H', MachO K C H' a ms p t (f + 1) → Keep a.S H H' → Q .non H'
def spSuffer (K : PySem.W.Frag) : Sp := fun vs H Q _ => ∃ (C : Sk.Cfg) (s0 : Sk.MS) (a : Ad) (t f : Nat) (q : Addr) (fl : Fl), vs = [V.ref a.mc, V.ref q] ∧ MachR K C s0 H a t f ∧ Valid C ∧ f ≤ 1000 ∧ FlA H q fl ∧ FlOk C fl ∧ ∀ f' H', f ≤ f' → f' ≤ f + 1 → MachR K C s0 H' a t f' → Keep a.S H H' → Q .non H'
section
variable {P : Program} {w : World} {K : PySem.W.Frag} {mg : Str → Option Value} {base : Heap}
theorem M_changes_anything (F : Fx K mg) : Mn P w K mg base 1 (ga K "Machine") "changes_anything" ["self", "fault"] (spChg K) := by
  refine mn_mk F.f_Machine_changes_anything F.m_Machine_changes_anything sc_Machine_changes_anything (fun _ _ _ _ _ _ us hl => match us, hl with | [_, _], _ => rfl) (by rintro vs H Q E ⟨_, _, _, _, _, _, _, _, rfl, _⟩; rfl) ?_
  rintro cdv A outer s H vs Q E hr ⟨C, a, ms, p, t, f, q, fl, rfl, M, hq, fo, h⟩
  refine ⟨_, (pss_cons (ps_if (pt_cmpR op_eq (pe_ix ix_tup (pv 1) pe_int (fun _ _ => rfl)) (sk_gs F.t_WORD) (nomark _)) (pss_one (ps_ret (pe_cmpR op_ne (pe_ix ix_list (pe_fld (pv 0) rfl) (pe_ix ix_tup (pv 1) pe_int (fun _ _ => rfl)) (fun _ _ => rfl)) (pe_ix ix_tup (pv 1) pe_int (fun _ _ => rfl)) (nomark _)))) pss_nil)
    (pss_cons (ps_if (pt_cmpR op_eq (pe_ix ix_tup (pv 1) pe_int (fun _ _ => rfl)) (sk_gs F.t_REGISTER) (nomark _)) (pss_one (ps_ret (pe_cmpR op_ne (pe_ix ix_list (pe_fld (pv 0) rfl) (pe_ix ix_tup (pv 1) pe_int (fun _ _ => rfl)) (fun _ _ => rfl)) (pe_ix ix_tup (pv 1) pe_int (fun _ _ => rfl)) (nomark _)))) pss_nil)
    (pss_one (ps_ret (pe_cmpR op_ne (pe_fld (pv 0) rfl) (pe_ix ix_tup (pv 1) pe_int (fun _ _ => rfl)) (nomark _)))))), ?_⟩
  refine rd_seq fun D1 k1 r1 => ?_
  trivial
  cases fl with
  | word b v =>
    obtain ⟨f1, f2, f3⟩ := fo
    refine ⟨_, SqT.of hq, _, rfl, ?_⟩
    trivial
    refine ⟨_, a.dx, _, M.obj, F.c_Machine, F.n_memory_words, _, machF_3 _ _ _ _ _ _ _ _, _, SqT.of hq, _, rfl, a.ml, rfl, _, b, rfl, SqL.of M.mem, _, atI_nat (memL_get _ f1), _, SqT.of hq, _, rfl, ?_⟩
    trivial
    rw [r1]
    exact h _
  | reg r v =>
    obtain ⟨f1, f2, f3⟩ := fo
    refine ⟨_, SqT.of hq, _, rfl, ?_⟩
    trivial
    simp only [sN_register_word, if_false]
    refine k1 _ _ (rd_seq fun D2 k2 r2 => ?_)
    trivial
    refine ⟨_, SqT.of hq, _, rfl, ?_⟩
    trivial
    refine ⟨_, a.dx, _, M.obj, F.c_Machine, F.n_register_words, _, machF_4 _ _ _ _ _ _ _ _, _, SqT.of hq, _, rfl, a.rg, rfl, _, r, rfl, SqL.of M.reg, _, atI_nat (memL_get _ f1), _, SqT.of hq, _, rfl, ?_⟩
    trivial
    rw [r2]
    exact h _
  | row p' =>
    refine ⟨_, SqT.of hq, _, rfl, ?_⟩
    trivial
    simp only [sN_row_word, if_false]
    refine k1 _ _ (rd_seq fun D2 k2 r2 => ?_)
    trivial
    refine ⟨_, SqT.of hq, _, rfl, ?_⟩
    trivial
    simp only [sN_row_register, if_false]
    refine k2 _ _ ?_
    trivial
    refine ⟨_, a.dx, _, M.obj, F.c_Machine, F.n_next_row, _, machF_5 _ _ _ _ _ _ _ _, _, SqT.of hq, _, rfl, ?_⟩
    trivial
    exact h _
theorem M_note (F : Fx K mg) : Mn P w K mg base 5 (ga K "Machine") "note" ["self", "fault"] (spNote K) := by
  refine mn_mk F.f_Machine_note F.m_Machine_note sc_Machine_note (fun _ _ _ _ _ _ us hl => match us, hl with | [_, _], _ => rfl) (by rintro vs H Q E ⟨_, _, _, _, _, _, _, _, rfl, _⟩; rfl) ?_
  rintro cdv A outer s H vs Q E hr ⟨C, a, ms, p, t, f, q, fl, rfl, M, ok, hf, hq, h⟩
  refine ⟨_, (pss_cons (ps_fldaug (pv 0) pe_int in_add)
    (pss_cons (ps_set (i := 2) sc_Machine_note.nd rfl (by first | exact .inl rfl | exact .inr rfl) (sk_call (D_affected_by F) hr (pa_cons (pe_fld (pv 0) rfl) (pa_cons (pe_fld (pv 0) rfl) (pa_cons (pv 1) pa_nil)))))
    (pss_one (ps_if (pt_cmpR op_notN (pv 2) pe_non (nomark _)) (pss_one (ps_dput (hu_of hr) (pe_fld (pv 0) rfl) (pv 2) pe_bl rfl)) pss_nil)))), ?_⟩
  refine rd_seq fun D1 k1 r1 => ?_
  refine ⟨_, rfl, a.mc, _, a.dx, _, _, rfl, M.obj, F.c_Machine, F.n_faults_done, machF_7 _ _ _ _ _ _ _ _, _, _, rfl, rfl, a.dx, _, M.obj, by show 8 < 1000; decide, k1 _ _ ?_⟩
  clear k1
  rw [machP_7, show (f : Int) + 1 = ((f + 1 : Nat) : Int) from by omega]
  have M2 := M.objS F.ne p t (f + 1) (Nat.le_succ _)
  have c2 : Keep a.S H (upd H a.mc (.ins (ga K "Machine") a.dx (machF a.g a.rt a.ml a.rg p t (f + 1 : Nat) a.ca))) := Keep.at M.obj rfl (by simp [Ad.S])
  obtain ⟨kvs, u1, u2⟩ := M.aff
  have u3 : upd H a.mc (.ins (ga K "Machine") a.dx (machF a.g a.rt a.ml a.rg p t (f + 1 : Nat) a.ca)) a.ca = some (.dK kvs) := by rw [upd_ne M.n3.symm]; exact u1
  show tSeq _ _ _ _ (upd H a.mc (.ins (ga K "Machine") a.dx (machF a.g a.rt a.ml a.rg p t (f + 1 : Nat) a.ca)))
  generalize upd H a.mc (.ins (ga K "Machine") a.dx (machF a.g a.rt a.ml a.rg p t (f + 1 : Nat) a.ca)) = H2 at M2 c2 u3 ⊢
  refine rd_seq fun D2 k2 r2 => ?_
  refine ⟨_, rfl, a.mc, _, a.dx, _, _, rfl, M2.obj, F.c_Machine, F.n_ring_executed, machF_1 _ _ _ _ _ _ _ _, _, rfl, a.mc, _, a.dx, _, _, rfl, M2.obj, F.c_Machine, F.n_next_row, machF_5 _ _ _ _ _ _ _ _, _, rfl, C, a.g, a.rt, q, p, fl, rfl, M2.ring, ok, hq.keep c2, fun v H3 e1 ev => k2 _ _ ?_⟩
  clear k2
  have M3 := M2.keep0 e1
  have c3 := c2.trans e1.nil
  have u4 := e1.o _ _ u3 (by simp)
  rcases ev with rfl | ⟨c, rfl⟩
  · refine ⟨_, rfl, rfl, _, rfl, iteF' (by simp) ?_⟩
    exact h _ M3 c3
  · refine ⟨_, rfl, rfl, _, rfl, iteT' (by simp) ?_⟩
    refine ⟨_, rfl, a.mc, _, a.dx, _, _, rfl, M3.obj, F.c_Machine, F.n_copies_affected, machF_8 _ _ _ _ _ _ _ _, _, rfl, a.ca, _, rfl, DPut.k (k := Sum.inl (c : Int)) u4 (line6 (by omega)), ?_⟩
    have g1 := M3.gS F.ne
    simp only [Ad.S, List.mem_cons, List.not_mem_nil, or_false, not_or] at g1
    have k4 : Keep [a.ca] H3 (upd H3 a.ca (.dK (putK kvs (Sum.inl (c : Int)) (.bl true)))) := Keep.at u4 rfl (by simp)
    refine h _ ⟨by rw [upd_ne M3.n3]; exact M3.obj, M3.ring.keep k4 (by simpa using g1.2.2.2), by rw [upd_ne M3.n4]; exact M3.mem, by rw [upd_ne M3.n5]; exact M3.reg, ⟨_, upd_same, Nat.le_trans (length_putK _ _ _) (by omega)⟩, M3.ne, M3.mw, M3.rw_⟩ (c3.trans (k4.mono fun z hz => ?_))
    rw [List.mem_singleton.mp hz]
    simp [Ad.S]
theorem M_suffer (F : Fx K mg) : Mn P w K mg base 6 (ga K "Machine") "suffer" ["self", "fault"] (spSuffer K) := by
  refine mn_mk F.f_Machine_suffer F.m_Machine_suffer sc_Machine_suffer (fun _ _ _ _ _ _ us hl => match us, hl with | [_, _], _ => rfl) (by rintro vs H Q E ⟨_, _, _, _, _, _, _, rfl, _⟩; rfl) ?_
  rintro cdv A outer s H vs Q E hr ⟨C, s0, a, t, f, q, fl, rfl, ⟨ms, p, M, R⟩, ok, hf, hq, fo, h⟩
  refine ⟨_, (pss_one (ps_if (pt_val (sk_meth F.c_Machine (M_changes_anything F) hr (pv 0) (pa_cons (pv 1) pa_nil))) (pss_cons (ps_expr (sk_meth F.c_Machine (M_note F) hr (pv 0) (pa_cons (pv 1) pa_nil)))
    (pss_one (ps_if (pt_cmpR op_eq (pe_ix ix_tup (pv 1) pe_int (fun _ _ => rfl)) (sk_gs F.t_WORD) (nomark _)) (pss_one (ps_asg (pe_ix ix_tup (pv 1) pe_int (fun _ _ => rfl)) (pg_sub (pe_fld (pv 0) rfl) (pe_ix ix_tup (pv 1) pe_int (fun _ _ => rfl)) set_list))) (pss_one (ps_if (pt_cmpR op_eq (pe_ix ix_tup (pv 1) pe_int (fun _ _ => rfl)) (sk_gs F.t_REGISTER) (nomark _)) (pss_one (ps_asg (pe_ix ix_tup (pv 1) pe_int (fun _ _ => rfl)) (pg_sub (pe_fld (pv 0) rfl) (pe_ix ix_tup (pv 1) pe_int (fun _ _ => rfl)) set_list))) (pss_one (ps_fld (pv 0) (pe_ix ix_tup (pv 1) pe_int (fun _ _ => rfl)) rfl))))))) pss_nil)), ?_⟩
  refine ⟨_, rfl, a.mc, a.dx, _, rfl, M.obj, machF_n5 _ _ _ _ _ _ _ _, _, rfl, C, a, ms, p, t, f, q, fl, rfl, M, hq, fo, fun b => ⟨b, rfl, ?_⟩⟩
  cases b with
  | false =>
    refine iteF' (by simp) ?_
    exact h f H (Nat.le_refl _) (Nat.le_succ _) ⟨ms, p, M, R⟩ (Keep.refl _ _)
  | true =>
    refine iteT' rfl ?_
    refine rd_seq fun D1 k1 r1 => ?_
    refine ⟨_, rfl, a.mc, a.dx, _, rfl, M.obj, machF_n6 _ _ _ _ _ _ _ _, _, rfl, C, a, ms, p, t, f, q, fl, rfl, M, ok, hf, hq, fun H1 (M1 : MachO K C H1 a ms p t (f + 1)) c1 => k1 _ _ ?_⟩
    clear k1
    have hq1 := hq.keep c1
    trivial
    cases fl with
    | word b v =>
      obtain ⟨f1, f2, f3⟩ := fo
      refine ⟨_, SqT.of hq1, _, rfl, ?_⟩
      trivial
      refine ⟨_, SqT.of hq1, _, rfl, ?_⟩
      refine ⟨_, a.dx, _, M1.obj, F.c_Machine, F.n_memory_words, _, machF_3 _ _ _ _ _ _ _ _, _, SqT.of hq1, _, rfl, a.ml, rfl, _, b, rfl, M1.mem, b, ixN_nat (by rw [memL_len]; exact f1), ?_⟩
      rw [memL_set _ _ f1]
      refine h (f + 1) _ (Nat.le_succ _) (Nat.le_refl _) ⟨_, p, M1.memS F.ne fun k hk => ?_, R.word f1⟩ (c1.trans (Keep.at M1.mem rfl (by simp [Ad.S])))
      unfold Sk.up
      split
      · omega
      · exact M1.mw k hk
    | reg r v =>
      obtain ⟨f1, f2, f3⟩ := fo
      refine ⟨_, SqT.of hq1, _, rfl, ?_⟩
      trivial
      simp only [sN_register_word, if_false]
      refine ⟨_, SqT.of hq1, _, rfl, ?_⟩
      trivial
      refine ⟨_, SqT.of hq1, _, rfl, ?_⟩
      refine ⟨_, a.dx, _, M1.obj, F.c_Machine, F.n_register_words, _, machF_4 _ _ _ _ _ _ _ _, _, SqT.of hq1, _, rfl, a.rg, rfl, _, r, rfl, M1.reg, r, ixN_nat (by rw [memL_len]; exact f1), ?_⟩
      rw [memL_set _ _ f1]
      refine h (f + 1) _ (Nat.le_succ _) (Nat.le_refl _) ⟨_, p, M1.regS F.ne fun k hk => ?_, R.reg⟩ (c1.trans (Keep.at M1.reg rfl (by simp [Ad.S])))
      unfold Sk.up
      split
      · omega
      · exact M1.rw_ k hk
    | row p' =>
      refine ⟨_, SqT.of hq1, _, rfl, ?_⟩
      trivial
      simp only [sN_row_word, if_false]
      refine ⟨_, SqT.of hq1, _, rfl, ?_⟩
      trivial
      simp only [sN_row_register, if_false]
      refine ⟨_, SqT.of hq1, _, rfl, ?_⟩
      trivial
      refine ⟨_, a.dx, _, M1.obj, F.c_Machine, F.n_next_row, by show 8 < 1000; decide, ?_⟩
      rw [machP_5]
      exact h (f + 1) _ (Nat.le_succ _) (Nat.le_refl _) ⟨_, p', M1.objS F.ne p' t (f + 1) (Nat.le_refl _), R.row fo⟩ (c1.trans (Keep.at M1.obj rfl (by simp [Ad.S])))
end
end Wk
end

section
set_option Elab.async false
set_option linter.all false
set_option maxRecDepth 100000
set_option maxHeartbeats 4000000
/-! the walk: a machine is struck -/
namespace Wk
open PySem PySem.Spec PyProof.Rows L2 StX
local macro_rules | `(tactic| trivial) => `(tactic| try simp only [spInt, spWord, spIdx, spNum, spReg, isi_ii, isi_ib, isi_ss, eq_ii, ne_ii, eq_ss, ne_ss, cxK, wipe, rLenS, rSlL, rSlT, tRevL, tDisp, tPairs, rCat, rRep, rExtend, rAdd, rSub, rSetD, rPop, rAppend, rIxL, rIxT, rSetL, tVar, tC, t2I, tB, tAnd, tOr, tNot, tAndV, tOrV, tNotV, tIf, tNext, tSeq, tDrop, tRet, tRetN, tIfS, tNever, tAsg, tPar, tOp, tUn, rI, rI0, rU, tTest, tChain, tFld, tCon, tNil, tCons, tTup, tLst, tCall, tMeth, tProp, tCB, tSl, tNoPart, tPart, tBM, tBM0, gName, gTup, gNil, gCons, gSub, sFld, L2.start, tDGet, tDIn, tDNotIn, tDNewK, tDNewT, sDPut, tDGet2, and_assoc, exists_and_left, exists_and_right, exists_eq_left', exists_eq_left, exists_eq_right, exists_eq', V.int.injEq, V.str.injEq, V.bl.injEq, V.ref.injEq, List.cons.injEq, and_true, true_and, List.append_nil, List.map_cons, List.map_nil, List.length_cons, List.length_nil, List.cons_append, List.nil_append, Nat.reduceAdd, Nat.reduceSub, List.reduceReplicate, List.getElem?_cons_succ, List.getElem?_cons_zero, List.set_cons_succ, List.set_cons_zero, Option.some.injEq, if_true, Bool.false_eq_true, if_false, decide_eq_true_eq, Bool.not_true, Bool.not_false, Bool.not_eq_true', decide_eq_false_iff_not, decide_true, decide_false, Bool.true_and, Bool.and_true, Bool.false_and, Int.reduceEq, Int.reduceLT, Int.reduceLE, Int.reduceNeg, reduceCtorEq, not_false_eq_true, not_true_eq_false])
def spStrike (K : PySem.W.Frag) : Sp := fun vs H Q _ => ∃ (C : Sk.Cfg) (s0 : Sk.MS) (a : Ad) (t f : Nat) (q : Addr) (fl : Fl), vs = [V.ref a.mc, V.ref q] ∧ MachR K C s0 H a t f ∧ Valid C ∧ f ≤ 1000 ∧ FlA H q fl ∧ FlOk C fl ∧ ∀ f' H', f ≤ f' → f' ≤ f + 1 → MachR K C s0 H' a t f' → Keep a.S H H' → Q .non H'
def spStrikeB (K : PySem.W.Frag) : Sp := fun vs H Q _ => ∃ (C : Sk.Cfg) (s0 : Sk.MS) (a : Ad) (t f : Nat) (ft q : Addr) (fl : Fl), vs = [V.ref a.mc, V.ref ft] ∧ H ft = some (.tup [.ref q]) ∧ MachR K C s0 H a t f ∧ Valid C ∧ f ≤ 1000 ∧ FlA H q fl ∧ FlOk C fl ∧ ∀ f' H', f ≤ f' → f' ≤ f + 1 → MachR K C s0 H' a t f' → Keep a.S H H' → Q .non H'
section
variable {P : Program} {w : World} {K : PySem.W.Frag} {mg : Str → Option Value} {base : Heap}
theorem strike_body (F : Fx K mg) (f0 : Addr) (cdv : Value) (A : Around) (outer : List Env) (s : Shared) (H : Hp) (vs : List V) (Q : VK) (E : XK) (hr : Room 6 (A.deeper (envOfC "Machine.strike" (defScope s_Machine_strike) s.heap.objs.size f0 cdv))) (h : spStrikeB K vs H Q E) :
    ∃ t, PSs (Cb P w K mg base ["self", "faults", "fault"] "Machine.strike" s_Machine_strike f0 cdv A outer s H E) (defBody s_Machine_strike) t ∧ t { nx := fun _ H' => Q .non H', rt := Q } (L2.start ["self", "faults", "fault"] vs) H := by
  obtain ⟨C, s0, a, t, f, ft, q, fl, rfl, hft, M, ok, hf, hq, fo, h⟩ := h
  refine ⟨_, (pss_cons (ps_for PassesOwn.never rfl (pi_tup (pv 1)) (pg_name (i := 2) sc_Machine_strike.nd rfl (by first | exact .inl rfl | exact .inr rfl)) (pss_one (ps_if (pt_not (pt_val (sk_call (D_is_fault F) hr (pa_cons (pe_fld (pv 0) rfl) (pa_cons (pv 2) pa_nil))))) (pss_one ps_never) pss_nil)))
    (pss_one (ps_for PassesOwn.never rfl (pi_tup (pv 1)) (pg_name (i := 2) sc_Machine_strike.nd rfl (by first | exact .inl rfl | exact .inr rfl)) (pss_one (ps_expr (sk_meth F.c_Machine (M_suffer F) hr (pv 0) (pa_cons (pv 2) pa_nil))))))), ?_⟩
  refine rd_seq fun D1 k1 r1 => ?_
  refine ⟨_, rfl, ft, rfl, ⟨_, SqT.of hft⟩, for_tup (xs := [.ref q]) (fun i σ H' => Keep [] H H' ∧ ∃ o, σ = [some (.ref a.mc), some (.ref ft), o]) ⟨Keep.refl _ _, _, rfl⟩ (fun i σ H' _ g => SqT.of (g.1.t _ _ hft)) ?_ ?_⟩
  · rintro i x σ H' hx ⟨c1, o, rfl⟩
    obtain rfl : V.ref q = x := by
      rcases i with _ | i
      · simpa using hx
      · simp at hx
    obtain ⟨ms, p, M1, R1⟩ := M.keep0 c1
    refine ⟨_, rfl, a.mc, _, a.dx, _, _, rfl, M1.obj, F.c_Machine, F.n_ring_executed, machF_1 _ _ _ _ _ _ _ _, _, rfl, C, a.g, a.rt, q, fl, rfl, M1.ring, ok, hq.keep c1, fo, fun H2 e1 => ⟨_, rfl, iteF' (by simp) ⟨c1.trans e1, _, rfl⟩⟩⟩
  · rintro σ H' ⟨c1, o, rfl⟩
    refine k1 _ _ ?_
    clear k1
    have hft1 := c1.t _ _ hft
    refine ⟨_, rfl, ft, rfl, ⟨_, SqT.of hft1⟩, for_tup (xs := [.ref q]) (fun i σ H2 => ∃ f', f ≤ f' ∧ f' ≤ f + i ∧ MachR K C s0 H2 a t f' ∧ Keep a.S H H2 ∧ ∃ o, σ = [some (.ref a.mc), some (.ref ft), o]) ⟨f, Nat.le_refl _, Nat.le_refl _, M.keep0 c1, c1.nil, _, rfl⟩ (fun i σ H' _ ⟨_, _, _, _, g, _⟩ => SqT.of (g.t _ _ hft)) ?_ ?_⟩
    · rintro i x σ H2 hx ⟨f1, f2, f3, M2, c2, o, rfl⟩
      rcases i with _ | i
      · obtain rfl : V.ref q = x := by simpa using hx
        obtain rfl : f1 = f := by omega
        obtain ⟨ms, p, M3, R3⟩ := id M2
        refine ⟨_, rfl, a.mc, a.dx, _, rfl, M3.obj, machF_n7 _ _ _ _ _ _ _ _, _, rfl, C, s0, a, t, f1, q, fl, rfl, M2, ok, hf, hq.keep c2, fo, fun f' H3 g1 g2 M4 c3 => ⟨f', g1, g2, M4, c2.trans c3, _, rfl⟩⟩
      · simp at hx
    · rintro σ H2 ⟨f1, f2, f3, M2, c2, o, rfl⟩
      exact h f1 H2 f2 f3 M2 c2
theorem M_strike (F : Fx K mg) : ∃ f, Meth K (ga K "Machine") "strike" f ∧ FnR P w K mg base CX0 7 f (spStrike K) := by
  obtain ⟨fd, FD⟩ := F.f_Machine_strike
  obtain ⟨oc, od, dV, kV, doc, pm, an, cdv, ct, osl, rfl, lk, hcd, hD, hK⟩ := FD.ex
  have e1 : dV = .none := by
    rcases hD with ⟨_, e⟩ | ⟨e, _⟩
    · exact e
    · exact absurd rfl e
  subst e1
  have FR := fn_star (P := P) (w := w) (mg := mg) (base := base) (CX := CX0) (k := 6) (ps := ["self"]) (pv := "faults") (sp := spStrikeB K) lk hcd sc_Machine_strike cxUp_none (bind_star1 (B := fun us => bindArgs (PySem.W.fnOf "strike" "Machine.strike" (defArgs s_Machine_strike) (defBody s_Machine_strike) (defScope s_Machine_strike) .none kV doc pm an cdv ct) ⟨us, []⟩) (p1 := "self") (pv := "faults") (fun a => by rfl) (fun a r rs => by rfl)) fun A outer s H vs Q E hr h => by
    obtain ⟨t, h1, h2⟩ := strike_body (P := P) (w := w) (mg := mg) (base := base) F _ cdv A outer s H vs Q E hr h
    exact ⟨t, h1.nox, h2⟩
  refine ⟨_, F.m_Machine_strike, FR.imp fun vs H Q E h => ?_⟩
  obtain ⟨C, s0, a, t, f, q, fl, rfl, M, ok, hf, hq, fo, h⟩ := h
  refine ⟨[.ref a.mc], [.ref q], rfl, rfl, (by show 1 ≤ sizeLine; decide), fun p hp => ⟨C, s0, a, t, f, p, q, fl, rfl, upd_same, M.keep0 (Keep.new hp), ok, hf, hq.keep (Keep.new hp (S := [])), fo, fun f' H' g1 g2 M' c => h f' H' g1 g2 M' ((Keep.new hp).trans c)⟩⟩
end
theorem Keep.freeS {S : List Addr} {H H' : Hp} (k : Keep S H H') {p : Addr} (h : H' p = none) (m : p ∉ S) : H p = none := by
  cases e : H p with
  | none => rfl
  | some o => rw [k.o _ _ e m] at h; cases h
def m0 (n : Nat) (ws : List Int) (k : Nat) : Int := if k % (n + 2) = 0 then 0 else ws.getD (k % (n + 2) - 1) 0
theorem memV_eq {C : Sk.Cfg} {ws : List Int} (hl : ws.length = C.n) : memV C.K ws = memL (nWords C) (m0 C.n ws) := by
  have e1 : memV C.K ws = (((List.range (4 * C.K)).map fun _ => V.int 0 :: (ws.map V.int ++ [V.int 0]))).flatten := by
    unfold memV
    congr 1
    rw [List.map_const', List.length_range]
  have ll : (V.int 0 :: (ws.map V.int ++ [V.int 0])).length = C.n + 2 := by simp [hl]
  have nw : nWords C = 4 * C.K * (C.n + 2) := by
    unfold nWords Sk.Cfg.ln
    rw [Nat.mul_assoc, Nat.mul_assoc, Nat.mul_comm (C.n + 2)]
  rw [e1]
  apply List.ext_getElem?
  intro i
  by_cases hi : i < nWords C
  · rw [memL_get _ hi, Sk.flat_get (fun _ => V.int 0 :: (ws.map V.int ++ [V.int 0])) (C.n + 2) (fun _ => ll) _ _ (by rw [← nw]; exact hi)]
    have hm := Nat.mod_lt i (show 0 < C.n + 2 by omega)
    unfold m0
    rcases Nat.eq_zero_or_pos (i % (C.n + 2)) with h0 | h0
    · rw [h0, if_pos rfl]
      rfl
    · rw [if_neg (by omega)]
      obtain ⟨j, hj⟩ : ∃ j, i % (C.n + 2) = j + 1 := ⟨i % (C.n + 2) - 1, by omega⟩
      rw [hj, List.getElem?_cons_succ, Nat.add_sub_cancel]
      rcases Nat.lt_or_ge j ws.length with h1 | h1
      · rw [List.getElem?_append_left (by rw [List.length_map]; exact h1), List.getElem?_map, List.getElem?_eq_getElem h1, List.getD_eq_getElem?_getD, List.getElem?_eq_getElem h1]
        rfl
      · obtain rfl : j = ws.length := by omega
        rw [List.getElem?_append_right (by simp), List.length_map, Nat.sub_self, List.getD_eq_getElem?_getD, List.getElem?_eq_none (Nat.le_refl _)]
        rfl
  · rw [List.getElem?_eq_none (by rw [Sk.flat_len _ (C.n + 2) (fun _ => ll), ← nw]; omega), List.getElem?_eq_none (by rw [memL_len]; omega)]
theorem m0_range {n : Nat} {ws : List Int} (h : ∀ x ∈ ws, 0 ≤ x ∧ x < 1000000) (k : Nat) : 0 ≤ m0 n ws k ∧ m0 n ws k < 1000000 := by
  unfold m0
  split
  · omega
  · rw [List.getD_eq_getElem?_getD]
    cases e : ws[k % (n + 2) - 1]? with
    | none => simp
    | some x => exact h x (List.mem_of_getElem? e)
def spMach (K : PySem.W.Frag) : Sp := fun vs H Q _ => ∃ (C : Sk.Cfg) (mc dx g rl st : Addr) (ws : List Int), vs = [V.ref mc, V.ref g, V.ref st] ∧ H mc = some (.ins (ga K "Machine") dx []) ∧ RingA K H g rl C ∧ Valid C ∧ StA H st ws ∧ ws.length = C.n ∧ (∀ x ∈ ws, 0 ≤ x ∧ x < 1000000) ∧
  ∀ (a : Ad) H', a.mc = mc → H a.ml = none → H a.rg = none → H a.ca = none → MachO K C H' a ⟨m0 C.n ws, fun _ => 0⟩ 0 0 0 → Keep [mc] H H' → Q .non H'
section
variable (g rt ml rg ca : Addr) (p t f : Int)
theorem machQ_1 : putF "ring_executed" (.ref g) [] = [(("ring_executed" : Str), V.ref g)] := by kernel_rfl
theorem machQ_2 : putF "rows_listed" (.ref rt) [(("ring_executed" : Str), V.ref g)] = [(("ring_executed" : Str), V.ref g), ("rows_listed", .ref rt)] := by kernel_rfl
theorem machQ_3 : putF "memory_words" (.ref ml) [(("ring_executed" : Str), V.ref g), ("rows_listed", .ref rt)] = [(("ring_executed" : Str), V.ref g), ("rows_listed", .ref rt), ("memory_words", .ref ml)] := by kernel_rfl
theorem machQ_4 : putF "register_words" (.ref rg) [(("ring_executed" : Str), V.ref g), ("rows_listed", .ref rt), ("memory_words", .ref ml)] = [(("ring_executed" : Str), V.ref g), ("rows_listed", .ref rt), ("memory_words", .ref ml), ("register_words", .ref rg)] := by kernel_rfl
theorem machQ_5 : putF "copies_affected" (.ref ca) (putF "faults_done" (.int f) (putF "rows_done" (.int t) (putF "next_row" (.int p) [(("ring_executed" : Str), V.ref g), ("rows_listed", .ref rt), ("memory_words", .ref ml), ("register_words", .ref rg)]))) = machF g rt ml rg p t f ca := by kernel_rfl
end
section
variable {P : Program} {w : World} {K : PySem.W.Frag} {mg : Str → Option Value} {base : Heap}
theorem D_Machine_init (F : Fx K mg) : ∃ fd, Binds K fd ["self", "ring", "first"] [] ∧ FnOk P w K mg base CX0 3 (ma K (ga K "Machine") "__init__") fd ["self", "ring", "first"] (spMach K) := by
  obtain ⟨fd, _, h2, h3⟩ := fn_mk (P := P) (w := w) (mg := mg) (base := base) (k := 2) (sp := spMach K) F.f_Machine_init sc_Machine_init (fun _ _ _ _ _ _ us hl => match us, hl with | [_, _, _], _ => rfl) (by rintro vs H Q E ⟨_, _, _, _, _, _, _, rfl, _⟩; rfl) (by
    rintro cdv A outer s H vs Q E hr ⟨C, mc, dx, g, rl, st, ws, rfl, hm, hR, ok, hst, hws, hwr, h⟩
    refine ⟨_, (pss_cons (ps_fld (pv 0) (pv 1) rfl)
    (pss_cons (ps_fld (pv 0) (sk_prop F.c_Ring (P_rows F) hr (pv 1)) rfl)
    (pss_cons (ps_fld (pv 0) (pe_callTy call_list_of (by rfl) F.b_list bt_list (pa_cons (sk_meth F.c_Ring (M_first_memory F) hr (pv 1) (pa_cons (pv 2) pa_nil)) pa_nil)) rfl)
    (pss_cons (ps_fld (pv 0) (pe_op op_rep (pe_lst (pa_cons pe_int pa_nil)) (pe_con (pv 1) rfl)) rfl)
    (pss_cons (ps_fld (pv 0) pe_int rfl)
    (pss_cons (ps_fld (pv 0) pe_int rfl)
    (pss_cons (ps_fld (pv 0) pe_int rfl)
    (pss_one (ps_fld (pv 0) pe_dnewK rfl))))))))), ?_⟩
    have stp : ∀ (H1 : Hp) (fs fs' : List (Str × V)), Keep [mc] H H1 → H1 mc = some (.ins (ga K "Machine") dx fs) → Keep [mc] H (upd H1 mc (.ins (ga K "Machine") dx fs')) ∧ upd H1 mc (.ins (ga K "Machine") dx fs') mc = some (.ins (ga K "Machine") dx fs') := fun H1 fs fs' k e => ⟨k.trans (Keep.at e rfl (by simp)), upd_same⟩
    have gm : g ∉ [mc] := by
      obtain ⟨dx', rp, pl, h1, _⟩ := hR
      have := ne_of h1 hm (by intro z; injection z with z; exact F.ne z.symm)
      simpa using this
    obtain ⟨u, hcon⟩ := F.regs
    refine rd_seq fun D1 k1 r1 => ?_
    refine ⟨_, rfl, _, rfl, mc, _, dx, _, rfl, hm, F.c_Machine, F.n_ring_executed, by show 0 < 1000; decide, k1 _ _ ?_⟩
    clear k1
    rw [machQ_1]
    obtain ⟨c1, m1⟩ := stp H _ [("ring_executed", V.ref g)] (Keep.refl _ _) hm
    show tSeq _ _ _ _ (upd H mc (.ins (ga K "Machine") dx [("ring_executed", V.ref g)]))
    generalize upd H mc (.ins (ga K "Machine") dx [("ring_executed", V.ref g)]) = H1 at c1 m1 ⊢
    refine rd_seq fun D2 k2 r2 => ?_
    have hR1 := hR.keep c1 gm
    obtain ⟨dx1, rp1, pl1, g11, _⟩ := id hR1
    refine ⟨_, rfl, g, dx1, _, rfl, g11, C, g, rl, rfl, hR1, _, rfl, mc, _, dx, _, rfl, m1, F.c_Machine, F.n_rows_listed, by show 1 < 1000; decide, k2 _ _ ?_⟩
    clear k2
    rw [machQ_2]
    obtain ⟨c2, m2⟩ := stp H1 _ [("ring_executed", V.ref g), ("rows_listed", .ref rl)] c1 m1
    show tSeq _ _ _ _ (upd H1 mc (.ins (ga K "Machine") dx [("ring_executed", V.ref g), ("rows_listed", .ref rl)]))
    generalize upd H1 mc (.ins (ga K "Machine") dx [("ring_executed", V.ref g), ("rows_listed", .ref rl)]) = H2 at c2 m2 ⊢
    refine rd_seq fun D3 k3 r3 => ?_
    have hR2 := hR.keep c2 gm
    obtain ⟨dx2, rp2, pl2, g12, _⟩ := id hR2
    refine ⟨_, rfl, g, dx2, _, rfl, g12, ringF_n2 _ _ _ _ _, _, rfl, C, g, rl, st, ws, rfl, hR2, ok, hst.keep c2, by have := ok.n10; omega, fun t H3 e1 ht => ⟨t, _, rfl, .inr (SqT.of ht), fun ml hml => ⟨_, rfl, mc, _, dx, _, rfl, by rw [upd_ne (ne_of_none (e1.o _ _ m2 (by simp)) hml)]; exact e1.o _ _ m2 (by simp), F.c_Machine, F.n_memory_words, by show 2 < 1000; decide, k3 _ _ ?_⟩⟩⟩
    clear k3
    rw [machQ_3, memV_eq hws]
    have e2 : Keep [] H3 (upd H3 ml (.lst (memL (nWords C) (m0 C.n ws)))) := Keep.new hml
    have l1 : upd H3 ml (.lst (memL (nWords C) (m0 C.n ws))) ml = some (.lst (memL (nWords C) (m0 C.n ws))) := upd_same
    have m2' := (e1.trans e2).o _ _ m2 (by simp)
    have c2' := c2.trans (e1.trans e2).nil
    show tSeq _ _ _ _ (upd (upd H3 ml (.lst (memL (nWords C) (m0 C.n ws)))) mc (.ins (ga K "Machine") dx [("ring_executed", V.ref g), ("rows_listed", .ref rl), ("memory_words", .ref ml)]))
    generalize upd H3 ml (.lst (memL (nWords C) (m0 C.n ws))) = H4 at e2 l1 m2' c2' ⊢
    obtain ⟨c3, m3⟩ := stp H4 _ [("ring_executed", V.ref g), ("rows_listed", .ref rl), ("memory_words", .ref ml)] c2' m2'
    have mlm : ml ≠ mc := ne_of l1 m2' (by intro z; cases z)
    have l2 : upd H4 mc (.ins (ga K "Machine") dx [("ring_executed", V.ref g), ("rows_listed", .ref rl), ("memory_words", .ref ml)]) ml = some (.lst (memL (nWords C) (m0 C.n ws))) := by rw [upd_ne mlm]; exact l1
    generalize upd H4 mc (.ins (ga K "Machine") dx [("ring_executed", V.ref g), ("rows_listed", .ref rl), ("memory_words", .ref ml)]) = H5 at c3 m3 l2 ⊢
    refine rd_seq fun D4 k4 r4 => ?_
    have hR5 := hR.keep c3 gm
    refine ⟨by decide, fun z hz => ?_⟩
    have e3 : Keep [] H5 (upd H5 z (.lst [.int 0])) := Keep.new hz
    have hR6 := hR5.keep e3 (by simp)
    obtain ⟨dx6, rp6, pl6, g16, _⟩ := id hR6
    refine ⟨_, rfl, g, _, dx6, _, _, _, rfl, g16, F.c_Ring, hcon, ringF_n3 _ _ _ _ _, z, 32, _, rfl, rfl, upd_same, by decide, by decide, by decide, fun rg hrg => ?_⟩
    have e4 := e3.trans (Keep.new (o := .lst (memL 32 fun _ => 0)) hrg)
    have rr : (List.replicate (32 : Int).toNat [V.int 0]).flatten = memL 32 fun _ => 0 := by rfl
    rw [rr]
    have m5 := e4.o _ _ m3 (by simp)
    have l5 := e4.o _ _ l2 (by simp)
    have n5 : ml ≠ rg := ne_of_none (e3.o _ _ l2 (by simp)) hrg
    have c4 := c3.trans e4.nil
    have q5 : upd (upd H5 z (.lst [.int 0])) rg (.lst (memL 32 fun _ => 0)) rg = some (.lst (memL 32 fun _ => 0)) := upd_same
    generalize upd (upd H5 z (.lst [.int 0])) rg (.lst (memL 32 fun _ => 0)) = H6 at e4 m5 l5 c4 q5 ⊢
    refine ⟨_, rfl, mc, _, dx, _, rfl, m5, F.c_Machine, F.n_register_words, by show 3 < 1000; decide, k4 _ _ ?_⟩
    clear k4
    rw [machQ_4]
    have mrg : rg ≠ mc := ne_of q5 m5 (by intro z; cases z)
    have st5 : ∀ (Hx : Hp) (fs fs' : List (Str × V)), Keep [mc] H Hx ∧ Hx mc = some (.ins (ga K "Machine") dx fs) ∧ Hx ml = some (.lst (memL (nWords C) (m0 C.n ws))) ∧ Hx rg = some (.lst (memL 32 fun _ => 0)) → 
        Keep [mc] H (upd Hx mc (.ins (ga K "Machine") dx fs')) ∧ upd Hx mc (.ins (ga K "Machine") dx fs') mc = some (.ins (ga K "Machine") dx fs') ∧ upd Hx mc (.ins (ga K "Machine") dx fs') ml = some (.lst (memL (nWords C) (m0 C.n ws))) ∧ upd Hx mc (.ins (ga K "Machine") dx fs') rg = some (.lst (memL 32 fun _ => 0)) := fun Hx fs fs' q =>
      ⟨(stp Hx fs fs' q.1 q.2.1).1, upd_same, by rw [upd_ne mlm]; exact q.2.2.1, by rw [upd_ne mrg]; exact q.2.2.2⟩
    have all6 := st5 H6 _ [("ring_executed", V.ref g), ("rows_listed", .ref rl), ("memory_words", .ref ml), ("register_words", .ref rg)] ⟨c4, m5, l5, q5⟩
    show tSeq _ _ _ _ (upd H6 mc (.ins (ga K "Machine") dx [("ring_executed", V.ref g), ("rows_listed", .ref rl), ("memory_words", .ref ml), ("register_words", .ref rg)]))
    generalize upd H6 mc (.ins (ga K "Machine") dx [("ring_executed", V.ref g), ("rows_listed", .ref rl), ("memory_words", .ref ml), ("register_words", .ref rg)]) = H7 at all6 ⊢
    refine rd_seq fun D5 k5 r5 => ?_
    refine ⟨_, rfl, mc, _, dx, _, rfl, all6.2.1, F.c_Machine, F.n_next_row, by show 4 < 1000; decide, k5 _ _ ?_⟩
    clear k5
    have all7 := st5 H7 _ (putF "next_row" (.int 0) [("ring_executed", V.ref g), ("rows_listed", .ref rl), ("memory_words", .ref ml), ("register_words", .ref rg)]) all6
    show tSeq _ _ _ _ (upd H7 mc (.ins (ga K "Machine") dx (putF "next_row" (.int 0) [("ring_executed", V.ref g), ("rows_listed", .ref rl), ("memory_words", .ref ml), ("register_words", .ref rg)])))
    generalize upd H7 mc (.ins (ga K "Machine") dx (putF "next_row" (.int 0) [("ring_executed", V.ref g), ("rows_listed", .ref rl), ("memory_words", .ref ml), ("register_words", .ref rg)])) = H8 at all7 ⊢
    refine rd_seq fun D6 k6 r6 => ?_
    have hlen : ∀ (f : Str) (v : V) (fs : List (Str × V)), (putF f v fs).length ≤ fs.length + 1 := fun f v fs => by
      induction fs with
      | nil => simp [putF]
      | cons x r ih =>
        simp only [putF]
        split
        · simp
        · simp only [List.length_cons]; omega
    refine ⟨_, rfl, mc, _, dx, _, rfl, all7.2.1, F.c_Machine, F.n_rows_done, Nat.lt_of_le_of_lt (hlen _ _ _) (by show 5 < 1000; decide), k6 _ _ ?_⟩
    clear k6
    have all8 := st5 H8 _ (putF "rows_done" (.int 0) (putF "next_row" (.int 0) [("ring_executed", V.ref g), ("rows_listed", .ref rl), ("memory_words", .ref ml), ("register_words", .ref rg)])) all7
    show tSeq _ _ _ _ (upd H8 mc (.ins (ga K "Machine") dx (putF "rows_done" (.int 0) (putF "next_row" (.int 0) [("ring_executed", V.ref g), ("rows_listed", .ref rl), ("memory_words", .ref ml), ("register_words", .ref rg)]))))
    generalize upd H8 mc (.ins (ga K "Machine") dx (putF "rows_done" (.int 0) (putF "next_row" (.int 0) [("ring_executed", V.ref g), ("rows_listed", .ref rl), ("memory_words", .ref ml), ("register_words", .ref rg)]))) = H9 at all8 ⊢
    refine rd_seq fun D7 k7 r7 => ?_
    refine ⟨_, rfl, mc, _, dx, _, rfl, all8.2.1, F.c_Machine, F.n_faults_done, Nat.lt_of_le_of_lt (hlen _ _ _) (Nat.lt_of_le_of_lt (Nat.succ_le_succ (hlen _ _ _)) (by show 6 < 1000; decide)), k7 _ _ ?_⟩
    clear k7
    have all9 := st5 H9 _ (putF "faults_done" (.int 0) (putF "rows_done" (.int 0) (putF "next_row" (.int 0) [("ring_executed", V.ref g), ("rows_listed", .ref rl), ("memory_words", .ref ml), ("register_words", .ref rg)]))) all8
    show sFld _ _ _ _ _ _ (upd H9 mc (.ins (ga K "Machine") dx (putF "faults_done" (.int 0) (putF "rows_done" (.int 0) (putF "next_row" (.int 0) [("ring_executed", V.ref g), ("rows_listed", .ref rl), ("memory_words", .ref ml), ("register_words", .ref rg)])))))
    generalize upd H9 mc (.ins (ga K "Machine") dx (putF "faults_done" (.int 0) (putF "rows_done" (.int 0) (putF "next_row" (.int 0) [("ring_executed", V.ref g), ("rows_listed", .ref rl), ("memory_words", .ref ml), ("register_words", .ref rg)])))) = H10 at all9 ⊢
    intro ca hca
    have e10 : Keep [] H10 (upd H10 ca (.dK [])) := Keep.new hca
    refine ⟨_, rfl, mc, _, dx, _, rfl, e10.o _ _ all9.2.1 (by simp), F.c_Machine, F.n_copies_affected, Nat.lt_of_le_of_lt (hlen _ _ _) (Nat.lt_of_le_of_lt (Nat.succ_le_succ (Nat.le_trans (hlen _ _ _) (Nat.succ_le_succ (hlen _ _ _)))) (by show 7 < 1000; decide)), ?_⟩
    rw [machQ_5]
    have cc := all9.1.trans e10.nil
    obtain ⟨c11, m11⟩ := stp _ _ (machF g rl ml rg 0 0 0 ca) cc (e10.o _ _ all9.2.1 (by simp))
    have mca : ca ≠ mc := (ne_of_none all9.2.1 hca).symm
    refine h ⟨mc, dx, g, rl, ml, rg, ca⟩ _ rfl ((c2.trans e1.nil).freeS hml (by simpa using mlm)) ((c3.trans e3.nil).freeS hrg (by simpa using mrg)) (all9.1.freeS hca (by simpa using mca)) ⟨m11, hR.keep c11 gm, ?_, ?_, ⟨[], ?_, Nat.le_refl _⟩, n5, fun k _ => m0_range hwr k, fun k _ => ⟨Int.le_refl 0, by show (0 : Int) < 1000000; decide⟩⟩ c11
    · rw [upd_ne mlm]
      exact e10.o _ _ all9.2.2.1 (by simp)
    · rw [upd_ne mrg]
      exact e10.o _ _ all9.2.2.2 (by simp)
    · rw [upd_ne mca]
      exact upd_same)
  exact ⟨fd, h2, h3⟩
end
end Wk
end

section
set_option Elab.async false
set_option linter.all false
set_option maxRecDepth 100000
set_option maxHeartbeats 4000000
/-! the walk: the law's own machine -/
namespace Wk
open PySem PySem.Spec PyProof.Rows L2 StX
local macro_rules | `(tactic| trivial) => `(tactic| try simp only [spInt, spWord, spIdx, spNum, spReg, isi_ii, isi_ib, isi_ss, eq_ii, ne_ii, eq_ss, ne_ss, cxK, wipe, rLenS, rSlL, rSlT, tRevL, tDisp, tPairs, rCat, rRep, rExtend, rAdd, rSub, rSetD, rPop, rAppend, rIxL, rIxT, rSetL, tVar, tC, t2I, tB, tAnd, tOr, tNot, tAndV, tOrV, tNotV, tIf, tNext, tSeq, tDrop, tRet, tRetN, tIfS, tNever, tAsg, tPar, tOp, tUn, rI, rI0, rU, tTest, tChain, tFld, tCon, tNil, tCons, tTup, tLst, tCall, tMeth, tProp, tCB, tSl, tNoPart, tPart, tBM, tBM0, gName, gTup, gNil, gCons, gSub, sFld, L2.start, tDGet, tDIn, tDNotIn, tDNewK, tDNewT, sDPut, tDGet2, and_assoc, exists_and_left, exists_and_right, exists_eq_left', exists_eq_left, exists_eq_right, exists_eq', V.int.injEq, V.str.injEq, V.bl.injEq, V.ref.injEq, List.cons.injEq, and_true, true_and, List.append_nil, List.map_cons, List.map_nil, List.length_cons, List.length_nil, List.cons_append, List.nil_append, Nat.reduceAdd, Nat.reduceSub, List.reduceReplicate, List.getElem?_cons_succ, List.getElem?_cons_zero, List.set_cons_succ, List.set_cons_zero, Option.some.injEq, if_true, Bool.false_eq_true, if_false, decide_eq_true_eq, Bool.not_true, Bool.not_false, Bool.not_eq_true', decide_eq_false_iff_not, decide_true, decide_false, Bool.true_and, Bool.and_true, Bool.false_and, Int.reduceEq, Int.reduceLT, Int.reduceLE, Int.reduceNeg, reduceCtorEq, not_false_eq_true, not_true_eq_false])
def spOpvH : Sp := fun vs H Q _ => ∃ (o : Sk.Op) (i j : Int), vs = [V.str (opS o), V.int i, V.int j] ∧ 0 ≤ i ∧ i < 1000000 ∧ 0 ≤ j ∧ j < 1000000 ∧ ∀ H', Keep [] H H' → Q (.int (Sk.opv o i j)) H'
def kv3 (x y z : Int) : List (Key × V) := [(Sum.inr "add", .int x), (Sum.inr "sub", .int y), (Sum.inr "mul", .int z)]
theorem kv3_merge (x y z : Int) : mergeK [] (kv3 x y z) = kv3 x y z := by simp [mergeK, kv3, putK, sN_add_sub, sN_add_mul, sN_sub_mul]
theorem kv3_add (x y z : Int) : valV (kv3 x y z) (Sum.inr "add") = some (.int x) := by simp [valV, kv3, List.find?]
theorem kv3_sub (x y z : Int) : valV (kv3 x y z) (Sum.inr "sub") = some (.int y) := by simp [valV, kv3, List.find?, sN_add_sub]
theorem kv3_mul (x y z : Int) : valV (kv3 x y z) (Sum.inr "mul") = some (.int z) := by simp [valV, kv3, List.find?, sN_add_mul, sN_sub_mul]
theorem in_dm (o : Sk.Op) : inV (V.str (opS o)) [V.str "div", V.str "mod"] = match o with | .div => true | .mod => true | _ => false := by cases o <;> decide +kernel
theorem in_ls (o : Sk.Op) : inV (V.str (opS o)) [V.str "less", V.str "same"] = match o with | .less => true | .same => true | _ => false := by cases o <;> decide +kernel
section
variable {P : Program} {w : World} {K : PySem.W.Frag} {mg : Str → Option Value} {base : Heap}
theorem D__law_value (F : Fx K mg) : Dn P w K mg base 1 "_law_value" ["_law_word", "_law_one", "_law_other"] spOpvH := by
  refine dn_mk F.f__law_value F.g__law_value sc__law_value (fun _ _ _ _ _ _ us hl => match us, hl with | [_, _, _], _ => rfl) (by rintro vs H Q E ⟨_, _, _, rfl, _⟩; rfl) ?_
  rintro cdv A outer s H vs Q E hr ⟨o, x, y, rfl, x1, x2, y1, y2, h⟩
  refine ⟨_, (pss_cons (ps_if (pt_cmpR op_in_seq (pv 0) (pe_tup (pa_cons pe_str (pa_cons pe_str pa_nil))) (by rfl)) (pss_one (ps_ret (pe_ifExp (pt_cmpR op_eq (pv 2) pe_int (nomark _)) pe_int (pe_ix ix_list (pe_lst (pa_cons (pe_op op_fdivN (pv 1) (pv 2)) (pa_cons (pe_op op_modN (pv 1) (pv 2)) pa_nil))) (pe_callTy call_int1 (by rfl) F.b_int bt_int (pa_cons (pe_cmpR op_eq (pv 0) pe_str (nomark _)) pa_nil)) (fun _ _ => rfl))))) pss_nil)
    (pss_cons (ps_if (pt_cmpR op_in_seq (pv 0) (pe_tup (pa_cons pe_str (pa_cons pe_str pa_nil))) (by rfl)) (pss_one (ps_ret (pe_callTy call_int1 (by rfl) F.b_int bt_int (pa_cons (pe_ifExp (pt_cmpR op_eq (pv 0) pe_str (nomark _)) (pe_cmpR op_lt (pv 1) (pv 2) (nomark _)) (pe_cmpR op_eq (pv 1) (pv 2) (nomark _))) pa_nil)))) pss_nil)
    (pss_one (ps_ret (pe_op op_modN (pe_dget (hu_of hr) (pe_disp (pps_cons pe_str (pe_op op_add (pv 1) (pv 2)) (pps_cons pe_str (pe_op op_sub (pv 1) (pv 2)) (pps_cons pe_str (pe_op op_mul (pv 1) (pv 2)) pps_nil))) (by rfl) (by rfl) (fun z => by cases z) (by decide)) (pv 0) (fun _ _ => rfl)) pe_int))))), ?_⟩
  refine rd_seq fun D1 k1 r1 => ?_
  trivial
  refine ⟨by decide, fun p hp => ⟨p, _, rfl, .inr (SqT.of upd_same), rfl, rfl, ?_⟩⟩
  have c1 : Keep [] H (upd H p (.tup [.str "div", .str "mod"])) := Keep.new hp
  generalize upd H p (.tup [.str "div", .str "mod"]) = H1 at c1 ⊢
  rw [in_dm]
  cases o with
  | div =>
    trivial
    by_cases y0 : y = 0
    · refine iteT' y0 ?_
      rw [r1]
      have := h _ c1
      rw [show Sk.opv .div x y = 0 from by simp [Sk.opv, y0]] at this
      exact this
    · refine iteF' y0 ⟨⟨y0, by omega⟩, y0, by decide, fun p2 hp2 => .inr ⟨_, SqL.of upd_same, .int (x.fdiv y), ?_, ?_⟩⟩
      · simp only [opS, sN_div_mod, if_false]; rfl
      · rw [r1]
        have := h _ (c1.trans (Keep.new (o := .lst [V.int (x.fdiv y), V.int (x.fmod y)]) hp2))
        rw [show Sk.opv .div x y = x.fdiv y from by rw [fd6 (by omega : 0 ≤ y)]; simp [Sk.opv, y0]] at this
        exact this
  | mod =>
    trivial
    by_cases y0 : y = 0
    · refine iteT' y0 ?_
      rw [r1]
      have := h _ c1
      rw [show Sk.opv .mod x y = 0 from by simp [Sk.opv, y0]] at this
      exact this
    · refine iteF' y0 ⟨⟨y0, by omega⟩, y0, by decide, fun p2 hp2 => .inr ⟨_, SqL.of upd_same, .int (x.fmod y), ?_, ?_⟩⟩
      · simp only [opS, if_true]; rfl
      · rw [r1]
        have := h _ (c1.trans (Keep.new (o := .lst [V.int (x.fdiv y), V.int (x.fmod y)]) hp2))
        rw [show Sk.opv .mod x y = x.fmod y from by rw [fmn (by omega : 0 ≤ y)]; simp [Sk.opv, y0]] at this
        exact this
  | less =>
    trivial
    refine k1 _ _ (rd_seq fun D2 k2 r2 => ?_)
    trivial
    refine ⟨by decide, fun p2 hp2 => ⟨p2, _, rfl, .inr (SqT.of upd_same), rfl, rfl, ?_⟩⟩
    have c2 := c1.trans (Keep.new (o := .tup [.str "less", .str "same"]) hp2)
    generalize upd H1 p2 (.tup [.str "less", .str "same"]) = H2 at c2 ⊢
    rw [in_ls]
    trivial
    simp only [opS, sN_same_less, if_true, if_false]
    rw [r2]
    exact .inr (h _ c2)
  | same =>
    trivial
    refine k1 _ _ (rd_seq fun D2 k2 r2 => ?_)
    trivial
    refine ⟨by decide, fun p2 hp2 => ⟨p2, _, rfl, .inr (SqT.of upd_same), rfl, rfl, ?_⟩⟩
    have c2 := c1.trans (Keep.new (o := .tup [.str "less", .str "same"]) hp2)
    generalize upd H1 p2 (.tup [.str "less", .str "same"]) = H2 at c2 ⊢
    rw [in_ls]
    trivial
    simp only [opS, sN_same_less, if_true, if_false]
    rw [r2]
    exact .inr (h _ c2)
  | add =>
    trivial
    refine k1 _ _ (rd_seq fun D2 k2 r2 => ?_)
    trivial
    refine ⟨by decide, fun p2 hp2 => ⟨p2, _, rfl, .inr (SqT.of upd_same), rfl, rfl, ?_⟩⟩
    have c2 := c1.trans (Keep.new (o := .tup [.str "less", .str "same"]) hp2)
    generalize upd H1 p2 (.tup [.str "less", .str "same"]) = H2 at c2 ⊢
    rw [in_ls]
    trivial
    refine k2 _ _ ?_
    trivial
    refine fun p3 hp3 => ⟨.inl ⟨by omega, by omega⟩, upd_same, kv3 (x + y) (x - y) (x * y), rfl, (by show 3 ≤ 15; decide), ?_⟩
    rw [kv3_merge]
    have dg := DGet.k (k := Sum.inr "add") (show upd (upd H2 p3 (.dK [])) p3 (.dK (kv3 (x + y) (x - y) (x * y))) p3 = some (.dK (kv3 (x + y) (x - y) (x * y))) from upd_same)
    rw [kv3_add] at dg
    refine ⟨_, dg, _, rfl, by decide, ?_⟩
    rw [fm6]
    exact h _ ((c2.trans (Keep.new hp3)).over (c2.free hp3))
  | sub =>
    trivial
    refine k1 _ _ (rd_seq fun D2 k2 r2 => ?_)
    trivial
    refine ⟨by decide, fun p2 hp2 => ⟨p2, _, rfl, .inr (SqT.of upd_same), rfl, rfl, ?_⟩⟩
    have c2 := c1.trans (Keep.new (o := .tup [.str "less", .str "same"]) hp2)
    generalize upd H1 p2 (.tup [.str "less", .str "same"]) = H2 at c2 ⊢
    rw [in_ls]
    trivial
    refine k2 _ _ ?_
    trivial
    refine fun p3 hp3 => ⟨.inl ⟨by omega, by omega⟩, upd_same, kv3 (x + y) (x - y) (x * y), rfl, (by show 3 ≤ 15; decide), ?_⟩
    rw [kv3_merge]
    have dg := DGet.k (k := Sum.inr "sub") (show upd (upd H2 p3 (.dK [])) p3 (.dK (kv3 (x + y) (x - y) (x * y))) p3 = some (.dK (kv3 (x + y) (x - y) (x * y))) from upd_same)
    rw [kv3_sub] at dg
    refine ⟨_, dg, _, rfl, by decide, ?_⟩
    rw [fm6]
    exact h _ ((c2.trans (Keep.new hp3)).over (c2.free hp3))
  | mul =>
    trivial
    refine k1 _ _ (rd_seq fun D2 k2 r2 => ?_)
    trivial
    refine ⟨by decide, fun p2 hp2 => ⟨p2, _, rfl, .inr (SqT.of upd_same), rfl, rfl, ?_⟩⟩
    have c2 := c1.trans (Keep.new (o := .tup [.str "less", .str "same"]) hp2)
    generalize upd H1 p2 (.tup [.str "less", .str "same"]) = H2 at c2 ⊢
    rw [in_ls]
    trivial
    refine k2 _ _ ?_
    trivial
    refine fun p3 hp3 => ⟨.inl ⟨by omega, by omega⟩, upd_same, kv3 (x + y) (x - y) (x * y), rfl, (by show 3 ≤ 15; decide), ?_⟩
    rw [kv3_merge]
    have dg := DGet.k (k := Sum.inr "mul") (show upd (upd H2 p3 (.dK [])) p3 (.dK (kv3 (x + y) (x - y) (x * y))) p3 = some (.dK (kv3 (x + y) (x - y) (x * y))) from upd_same)
    rw [kv3_mul] at dg
    refine ⟨_, dg, _, rfl, by decide, ?_⟩
    rw [fm6]
    exact h _ ((c2.trans (Keep.new hp3)).over (c2.free hp3))
end
end Wk
end

section
set_option Elab.async false
set_option linter.all false
set_option maxRecDepth 100000
set_option maxHeartbeats 4000000
/-! the walk: the plain run -/
namespace Wk
open PySem PySem.Spec PyProof.Rows L2 StX
local macro_rules | `(tactic| trivial) => `(tactic| try simp only [spInt, spWord, spIdx, spNum, spReg, isi_ii, isi_ib, isi_ss, eq_ii, ne_ii, eq_ss, ne_ss, cxK, wipe, rLenS, rSlL, rSlT, tRevL, tDisp, tPairs, rCat, rRep, rExtend, rAdd, rSub, rSetD, rPop, rAppend, rIxL, rIxT, rSetL, tVar, tC, t2I, tB, tAnd, tOr, tNot, tAndV, tOrV, tNotV, tIf, tNext, tSeq, tDrop, tRet, tRetN, tIfS, tNever, tAsg, tPar, tOp, tUn, rI, rI0, rU, tTest, tChain, tFld, tCon, tNil, tCons, tTup, tLst, tCall, tMeth, tProp, tCB, tSl, tNoPart, tPart, tBM, tBM0, gName, gTup, gNil, gCons, gSub, sFld, L2.start, tDGet, tDIn, tDNotIn, tDNewK, tDNewT, sDPut, tDGet2, and_assoc, exists_and_left, exists_and_right, exists_eq_left', exists_eq_left, exists_eq_right, exists_eq', V.int.injEq, V.str.injEq, V.bl.injEq, V.ref.injEq, List.cons.injEq, and_true, true_and, List.append_nil, List.map_cons, List.map_nil, List.length_cons, List.length_nil, List.cons_append, List.nil_append, Nat.reduceAdd, Nat.reduceSub, List.reduceReplicate, List.getElem?_cons_succ, List.getElem?_cons_zero, List.set_cons_succ, List.set_cons_zero, Option.some.injEq, if_true, Bool.false_eq_true, if_false, decide_eq_true_eq, Bool.not_true, Bool.not_false, Bool.not_eq_true', decide_eq_false_iff_not, decide_true, decide_false, Bool.true_and, Bool.and_true, Bool.false_and, Int.reduceEq, Int.reduceLT, Int.reduceLE, Int.reduceNeg, reduceCtorEq, not_false_eq_true, not_true_eq_false])
def stF (ws : List Int) : Nat → Int := fun k => ws.getD k 0
theorem stF_get {ws : List Int} {k : Nat} (h : k < ws.length) : ws[k]? = some (stF ws k) := by
  unfold stF
  rw [List.getD_eq_getElem?_getD, List.getElem?_eq_getElem h]
  rfl
theorem st_get {ws : List Int} {k : Nat} (h : k < ws.length) : (ws.map V.int)[k]? = some (.int (stF ws k)) := by
  rw [List.getElem?_map, stF_get h]
  rfl
noncomputable def nxL (recs : List Rec) (ws : List Int) : List Int := if stF ws 0 ≠ 0 then ws else recs.map fun r => Sk.rval r (stF ws)
theorem fit_of {n : Nat} {kn : Nat → Prop} {r : Sk.Rw} (h : Sk.RecRow n kn r) : Sk.RowFit n r := by
  cases r with
  | set a v => exact ⟨by have := h.1; omega, h.2⟩
  | load a b => exact ⟨by have := h.1; omega, h.2⟩
  | op o a b c => exact ⟨by have := h.1; omega, by have := h.2.2.2.1; omega, by have := h.2.2.2.2; omega⟩
  | choose a b c d =>
    obtain ⟨q0, _, _, _, q1, q2, q3⟩ := h
    exact ⟨by omega, by omega, by omega, by omega⟩
  | _ => exact h.elim
theorem mem_of {n : Nat} {kn : Nat → Prop} {r : Sk.Rw} (h : Sk.RecRow n kn r) (s : Sk.MS) : (Sk.exec r s).mem = s.mem := by
  cases r <;> first | rfl | exact h.elim
theorem row_of {n : Nat} : ∀ {rows : List Sk.Rw} {kn : Nat → Prop} {res : Nat}, Sk.RecRows n kn rows res → ∀ r ∈ rows, ∃ kn, Sk.RecRow n kn r
  | [], _, _, _, r, hr => by cases hr
  | x :: rows, kn, res, h, r, hr => by
    rcases List.mem_cons.mp hr with rfl | hr
    · exact ⟨kn, h.1⟩
    · exact row_of h.2 r hr
theorem run_snoc {rows : List Sk.Rw} {i : Nat} {r : Sk.Rw} (s : Sk.MS) (h : rows[i]? = some r) : Sk.run (rows.take (i + 1)) s = Sk.exec r (Sk.run (rows.take i) s) := by
  rw [List.take_succ, h, Option.toList_some, Sk.run_append]
  rfl
def NxI (H H3 : Hp) (l rg : Addr) (L : List V) (w : Nat → Int) (ms : Sk.MS) : Prop := Keep [] H H3 ∧ H3 l = some (.lst L) ∧ H3 rg = some (.lst (memL 24 ms.reg)) ∧ ms.mem = w ∧ ∀ k, k < 32 → 0 ≤ ms.reg k ∧ ms.reg k < 1000000
theorem NxI.step {H H3 H4 : Hp} {l rg : Addr} {L : List V} {w : Nat → Int} {ms : Sk.MS} {n : Nat} {kn : Nat → Prop} {row : Sk.Rw} (I : NxI H H3 l rg L w ms) (hr : Sk.RecRow n kn row) (hw : ∀ k, 0 ≤ w k ∧ w k < 1000000) (lr : l ≠ rg) (h0 : H rg = none) (k : Keep [] H3 H4) {m' : Nat → Int} (e : (Sk.exec row ms).reg = m') :
    NxI H (upd H4 rg (.lst (memL 24 m'))) l rg L w (Sk.exec row ms) := by
  obtain ⟨f1, f2, f3, f4, f5⟩ := I
  obtain ⟨x1, x2⟩ := Sk.exec_range (N := n) (fit_of hr) (fun k _ => by rw [f4]; exact hw k) f5
  refine ⟨(f1.trans k).over h0, ?_, ?_, ?_, x2⟩
  · rw [upd_ne lr]
    exact k.o _ _ f2 (by simp)
  · rw [upd_same, e]
  · rw [mem_of hr]
    exact f4
def spNx : Sp := fun vs H Q _ => ∃ (n : Nat) (rp st : Addr) (recs : List Rec) (ws : List Int), vs = [V.ref rp, V.ref st] ∧ RecsA H rp recs ∧ recs.length = n ∧ 1 ≤ n ∧ n ≤ 10 ∧ (∀ r ∈ recs, RecOk n r) ∧ StA H st ws ∧ ws.length = n ∧ (∀ x ∈ ws, 0 ≤ x ∧ x < 1000000) ∧ ∀ st' H', Keep [] H H' → StA H' st' (nxL recs ws) → Q (.ref st') H'
theorem stF_range {ws : List Int} (h : ∀ x ∈ ws, 0 ≤ x ∧ x < 1000000) (k : Nat) : 0 ≤ stF ws k ∧ stF ws k < 1000000 := by
  unfold stF
  rw [List.getD_eq_getElem?_getD]
  cases e : ws[k]? with
  | none => simp
  | some x => exact h x (List.mem_of_getElem? e)
section
variable {P : Program} {w : World} {K : PySem.W.Frag} {mg : Str → Option Value} {base : Heap}
theorem D__law_next (F : Fx K mg) : Dn P w K mg base 2 "_law_next" ["_law_recipes", "_law_state"] spNx := by
  refine dn_mk F.f__law_next F.g__law_next sc__law_next (fun _ _ _ _ _ _ us hl => match us, hl with | [_, _], _ => rfl) (by rintro vs H Q E ⟨_, _, _, _, _, rfl, _⟩; rfl) ?_
  rintro cdv A outer s H vs Q E hr ⟨n, rp, st, recs, ws, rfl, hrp, rl, n1, n10, oks, hst, wl, wr, h⟩
  refine ⟨_, (pss_cons (ps_if (pt_cmpR op_ne (pe_ix ix_tup (pv 1) pe_int (fun _ _ => rfl)) pe_int (nomark _)) (pss_one (ps_ret (pv 1))) pss_nil)
    (pss_cons (ps_set (i := 2) sc__law_next.nd rfl (by first | exact .inl rfl | exact .inr rfl) (pe_lst pa_nil))
    (pss_cons (ps_for PassesOwn.never rfl (pi_tup (pv 0)) (pg_tup (by rfl) (pgs_cons (pg_name (i := 3) sc__law_next.nd rfl (by first | exact .inl rfl | exact .inr rfl)) (pgs_cons (pg_name (i := 4) sc__law_next.nd rfl (by first | exact .inl rfl | exact .inr rfl)) pgs_nil))) (pss_cons (ps_set (i := 5) sc__law_next.nd rfl (by first | exact .inl rfl | exact .inr rfl) (pe_op op_rep (pe_lst (pa_cons pe_int pa_nil)) pe_int))
    (pss_cons (ps_for PassesOwn.never rfl (pi_tup (pv 3)) (pg_name (i := 6) sc__law_next.nd rfl (by first | exact .inl rfl | exact .inr rfl)) (pss_cons (ps_par (i := 7) (j := 8) rfl sc__law_next.nd rfl rfl (by decide) rfl rfl (pa_cons (pe_ix ix_tup (pv 6) pe_int (fun _ _ => rfl)) (pa_cons (pe_ix ix_tup (pv 6) pe_int (fun _ _ => rfl)) pa_nil)) (by rfl))
    (pss_one (ps_if (pt_cmpR op_eq (pv 7) pe_str (nomark _)) (pss_one (ps_asg (pe_ix ix_tup (pv 6) pe_int (fun _ _ => rfl)) (pg_sub (pv 5) (pv 8) set_list))) (pss_one (ps_if (pt_cmpR op_eq (pv 7) pe_str (nomark _)) (pss_one (ps_asg (pe_ix ix_tup (pv 1) (pe_ix ix_tup (pv 6) pe_int (fun _ _ => rfl)) (fun _ _ => rfl)) (pg_sub (pv 5) (pv 8) set_list))) (pss_one (ps_if (pt_cmpR op_eq (pv 7) pe_str (nomark _)) (pss_one (ps_asg (pe_ifExp (pt_cmpR op_ne (pe_ix ix_list (pv 5) (pe_ix ix_tup (pv 6) pe_int (fun _ _ => rfl)) (fun _ _ => rfl)) pe_int (nomark _)) (pe_ix ix_list (pv 5) (pe_ix ix_tup (pv 6) pe_int (fun _ _ => rfl)) (fun _ _ => rfl)) (pe_ix ix_list (pv 5) (pe_ix ix_tup (pv 6) pe_int (fun _ _ => rfl)) (fun _ _ => rfl))) (pg_sub (pv 5) (pv 8) set_list))) (pss_one (ps_asg (sk_call (D__law_value F) hr (pa_cons (pv 7) (pa_cons (pe_ix ix_list (pv 5) (pe_ix ix_tup (pv 6) pe_int (fun _ _ => rfl)) (fun _ _ => rfl)) (pa_cons (pe_ix ix_list (pv 5) (pe_ix ix_tup (pv 6) pe_int (fun _ _ => rfl)) (fun _ _ => rfl)) pa_nil)))) (pg_sub (pv 5) (pv 8) set_list)))))))))))
    (pss_one (ps_expr (pe_bm PySem.F.plainAttrs_list PySem.F.slot_list_append PySem.F.type_list_append mt_append (pv 2) (pa_cons (pe_ix ix_list (pv 5) (pv 4) (fun _ _ => rfl)) pa_nil)))))))
    (pss_one (ps_ret (pe_callTy call_tuple_of (by rfl) F.b_tuple bt_tuple (pa_cons (pv 2) pa_nil))))))), ?_⟩
  obtain ⟨rvs, hrp1, hrp2⟩ := id hrp
  have hst' : H st = some (.tup (ws.map V.int)) := hst
  refine rd_seq fun D1 k1 r1 => ?_
  trivial
  refine ⟨_, SqT.of hst', _, atI_nat (j := 0) (st_get (by omega)), ?_⟩
  trivial
  by_cases s0 : stF ws 0 = 0
  · refine iteF' (by simp [s0]) (k1 _ _ ?_)
    clear k1
    refine rd_seq fun D2 k2 r2 => ?_
    refine ⟨by decide, fun l hl => k2 _ _ ?_⟩
    clear k2
    have c1 : Keep [] H (upd H l (.lst [])) := Keep.new hl
    have l1 : upd H l (.lst []) l = some (.lst []) := upd_same
    show tSeq _ _ _ [some (.ref rp), some (.ref st), some (.ref l), none, none, none, none, none, none] (upd H l (.lst []))
    generalize upd H l (.lst []) = H1 at c1 l1 ⊢
    refine rd_seq fun D3 k3 r3 => ?_
    refine ⟨_, rfl, rp, rfl, ⟨_, SqT.of (c1.t _ _ hrp1)⟩, for_tup (xs := rvs) (fun i σ H' => Keep [] H H' ∧ H' l = some (.lst (((recs.take i).map fun r => Sk.rval r (stF ws)).map V.int)) ∧ ∃ o1 o2 o3 o4 o5 o6, σ = [some (.ref rp), some (.ref st), some (.ref l), o1, o2, o3, o4, o5, o6])
      ⟨c1, by simpa using l1, _, _, _, _, _, _, rfl⟩ (fun i σ H' _ g => SqT.of (g.1.t _ _ hrp1)) ?_ ?_⟩
    · rintro i x σ H' hx ⟨d1, d2, o1, o2, o3, o4, o5, o6, rfl⟩
      obtain ⟨ra, r, rfl, hrr, rq, ha1, us, ha2, ha3⟩ := hrp2.get hx
      have okr := oks r (List.mem_of_getElem? hrr)
      have il : i < recs.length := (List.getElem?_eq_some_iff.mp hrr).1
      refine ⟨ra, _, rfl, SqT.of (d1.t _ _ ha1), rfl, _, _, rfl, _, _, rfl, rfl, ?_⟩
      refine rd_seq fun D4 k4 r4 => ?_
      refine ⟨by decide, fun z hz => ⟨z, 24, _, rfl, rfl, upd_same, by decide, by decide, by decide, fun rg hrg => k4 _ _ ?_⟩⟩
      clear k4
      have e1 := (Keep.new (S := []) (o := .lst [V.int 0]) hz).trans (Keep.new (o := .lst (memL 24 fun _ => 0)) hrg)
      have rr : (List.replicate (24 : Int).toNat [V.int 0]).flatten = memL 24 fun _ => 0 := by rfl
      rw [rr]
      have q1 : upd (upd H' z (.lst [V.int 0])) rg (.lst (memL 24 fun _ => 0)) rg = some (.lst (memL 24 fun _ => 0)) := upd_same
      have lrg : l ≠ rg := ne_of_none ((Keep.new (S := []) (o := .lst [V.int 0]) hz).o _ _ d2 (by simp)) hrg
      have d1' := d1.trans e1
      have rg0 : H rg = none := (d1.trans (Keep.new (S := []) (o := .lst [V.int 0]) hz)).free hrg
      have d2' := e1.o _ _ d2 (by simp)
      show tSeq _ _ _ [some (.ref rp), some (.ref st), some (.ref l), some (.ref rq), some (.int r.2), some (.ref rg), o4, o5, o6] (upd (upd H' z (.lst [V.int 0])) rg (.lst (memL 24 fun _ => 0)))
      generalize upd (upd H' z (.lst [V.int 0])) rg (.lst (memL 24 fun _ => 0)) = H2 at d1' d2' q1 ⊢
      refine rd_seq fun D5 k5 r5 => ?_
      have rgs : ∀ q, q ∈ [rg] → H q = none := fun q m => by rw [List.mem_singleton.mp m]; exact rg0
      refine ⟨_, rfl, rq, rfl, ⟨_, SqT.of (d1'.t _ _ ha2)⟩, for_tup (xs := us) (fun j σ H3 => NxI H H3 l rg (((recs.take i).map fun r => Sk.rval r (stF ws)).map V.int) (stF ws) (Sk.run (r.1.take j) ⟨stF ws, fun _ => 0⟩) ∧ ∃ o4 o5 o6, σ = [some (.ref rp), some (.ref st), some (.ref l), some (.ref rq), some (.int r.2), some (.ref rg), o4, o5, o6])
        ⟨⟨d1', d2', q1, rfl, fun k _ => ⟨Int.le_refl 0, by show (0 : Int) < 1000000; decide⟩⟩, _, _, _, rfl⟩ (fun j σ H3 _ g => SqT.of (g.1.1.t _ _ ha2)) ?_ ?_⟩
      · rintro j x σ H3 hx2 ⟨I, o4, o5, o6, rfl⟩
        obtain ⟨a, row, rfl, hrow, ha⟩ := ha3.get hx2
        obtain ⟨kn, hrow2⟩ := row_of okr.rows row (List.mem_of_getElem? hrow)
        rw [run_snoc _ hrow]
        generalize Sk.run (r.1.take j) ⟨stF ws, fun _ => 0⟩ = ms at *
        have stp := fun (H4 : Hp) (m' : Nat → Int) => I.step (H4 := H4) (m' := m') hrow2 (stF_range wr) lrg rg0
        obtain ⟨f1, f2, f3, f4, f5⟩ := I
        have ha' := RowA.keep ha f1
        obtain ⟨wd, g, rest, er, gt⟩ : ∃ (wd : Str) (g : Nat) (rest : List V), rowV row = .str wd :: .int g :: rest ∧ g = Sk.goal row := by
          cases row <;> exact ⟨_, _, _, rfl, rfl⟩
        have hp0 : H3 a = some (.tup (.str wd :: .int g :: rest)) := by rw [← er]; exact ha'
        have fit := fit_of hrow2
        refine rd_seq fun D6 k6 r6 => ?_
        refine ⟨_, rfl, a, _, 0, _, rfl, rfl, SqT.of hp0, at0, _, rfl, a, _, 1, _, rfl, rfl, SqT.of hp0, at1, _, _, rfl, k6 _ _ ?_⟩
        clear k6
        show tIfS _ _ _ _ [some (.ref rp), some (.ref st), some (.ref l), some (.ref rq), some (.int r.2), some (.ref rg), some (.ref a), some (.str wd), some (.int g)] H3
        cases row with
        | set b v =>
          simp only [rowV, List.cons.injEq, V.str.injEq, V.int.injEq] at er
          obtain ⟨rfl, e2, rfl⟩ := er
          obtain rfl : b = g := by omega
          trivial
          refine ⟨_, SqT.of hp0, _, at2, _, f3, b, ixN_nat (by rw [memL_len]; exact hrow2.1), ?_⟩
          rw [memL_set _ _ hrow2.1]
          exact stp _ _ (Keep.refl _ _) rfl
        | load b c =>
          simp only [rowV, List.cons.injEq, V.str.injEq, V.int.injEq] at er
          obtain ⟨rfl, e2, rfl⟩ := er
          obtain rfl : b = g := by omega
          trivial
          simp only [sN_load_set, if_false]
          trivial
          have hc := hrow2.2
          refine ⟨_, SqT.of hp0, _, at2, _, c, rfl, SqT.of (f1.t _ _ hst'), _, atI_nat (st_get (by omega)), _, f3, b, ixN_nat (by rw [memL_len]; exact hrow2.1), ?_⟩
          rw [memL_set _ _ hrow2.1]
          exact stp _ _ (Keep.refl _ _) (by rw [← f4]; rfl)
        | choose b c d e =>
          simp only [rowV, List.cons.injEq, V.str.injEq, V.int.injEq] at er
          obtain ⟨rfl, e2, rfl⟩ := er
          obtain rfl : b = g := by omega
          trivial
          simp only [sN_choose_set, sN_choose_load, if_false]
          trivial
          obtain ⟨q0, _, _, _, q1, q2, q3⟩ := hrow2
          refine ⟨_, SqT.of hp0, _, at2, _, c, rfl, SqL.of f3, _, atI_nat (memL_get _ q1), ?_⟩
          trivial
          by_cases z0 : ms.reg c = 0
          · refine iteF' (by simp [z0]) ⟨_, SqT.of hp0, _, rfl, _, e, rfl, SqL.of f3, _, atI_nat (memL_get _ q3), _, f3, b, ixN_nat (by rw [memL_len]; exact q0), ?_⟩
            rw [memL_set _ _ q0]
            exact stp _ _ (Keep.refl _ _) (by simp [Sk.exec, z0])
          · refine iteT' (by simp [z0]) ⟨_, SqT.of hp0, _, rfl, _, d, rfl, SqL.of f3, _, atI_nat (memL_get _ q2), _, f3, b, ixN_nat (by rw [memL_len]; exact q0), ?_⟩
            rw [memL_set _ _ q0]
            exact stp _ _ (Keep.refl _ _) (by simp [Sk.exec, z0])
        | op o b c d => 
          simp only [rowV, List.cons.injEq, V.str.injEq, V.int.injEq] at er
          obtain ⟨rfl, e2, rfl⟩ := er
          obtain rfl : b = g := by omega
          have e1 : ∀ z ∈ ([("load" : Str), "set", "choose"] : List Str), (opS o = z) = False := by
            cases o <;> (intro z hz; refine eq_false ?_; revert z; decide +kernel)
          trivial
          simp only [e1 _ (by simp : ("load" : Str) ∈ _), e1 _ (by simp : ("set" : Str) ∈ _), e1 _ (by simp : ("choose" : Str) ∈ _), if_false]
          trivial
          obtain ⟨q0, _, _, q1, q2⟩ := hrow2
          have v1 := f5 c (by omega)
          have v2 := f5 d (by omega)
          refine ⟨_, SqT.of hp0, _, at2, _, c, rfl, SqL.of f3, _, atI_nat (memL_get _ q1), _, SqT.of hp0, _, rfl, _, d, rfl, SqL.of f3, _, atI_nat (memL_get _ q2), o, _, _, rfl, v1.1, v1.2, v2.1, v2.2, fun H4 e4 => ⟨_, e4.o _ _ f3 (by simp), b, ixN_nat (by rw [memL_len]; exact q0), ?_⟩⟩
          rw [memL_set _ _ q0]
          exact stp _ _ e4 rfl
        | _ => exact hrow2.elim
      · rintro σ H3 ⟨⟨f1, f2, f3, f4, f5⟩, o4, o5, o6, rfl⟩
        refine k5 _ _ ?_
        clear k5
        rw [ha3.len, List.take_length] at f3
        have r24 := Sk.res_lt _ _ _ okr.rows
        refine ⟨_, rfl, .inl ⟨rfl, _, SqL.of f2⟩, _, rfl, _, rfl, rg, _, _, _, rfl, rfl, SqL.of f3, atI_nat (memL_get _ r24), l, _, _, rfl, rfl, f2, line6 (by simp; omega), f1.over hl, ?_, _, _, _, _, _, _, rfl⟩
        rw [upd_same, List.take_succ, hrr, List.map_append, List.map_append]
        rfl
    · rintro σ H' ⟨d1, d2, o1, o2, o3, o4, o5, o6, rfl⟩
      rw [hrp2.len, List.take_length] at d2
      refine k3 _ _ ⟨_, rfl, l, _, rfl, .inl ⟨SqL.of d2, fun q hq => ?_⟩⟩
      have e : nxL recs ws = recs.map fun r => Sk.rval r (stF ws) := by simp [nxL, s0]
      refine h q _ (d1.trans (Keep.new hq)) ?_
      rw [e]
      exact upd_same
  · refine iteT' s0 ?_
    rw [r1]
    have e : nxL recs ws = ws := by simp [nxL, s0]
    rw [e] at h
    exact h st H (Keep.refl _ _) hst
end
end Wk
end

section
set_option Elab.async false
set_option linter.all false
set_option maxRecDepth 100000
set_option maxHeartbeats 4000000
/-! the walk: the plain run's states -/
namespace Wk
open PySem PySem.Spec PyProof.Rows L2 StX
local macro_rules | `(tactic| trivial) => `(tactic| try simp only [spInt, spWord, spIdx, spNum, spReg, isi_ii, isi_ib, isi_ss, eq_ii, ne_ii, eq_ss, ne_ss, cxK, wipe, rLenS, rSlL, rSlT, tRevL, tDisp, tPairs, rCat, rRep, rExtend, rAdd, rSub, rSetD, rPop, rAppend, rIxL, rIxT, rSetL, tVar, tC, t2I, tB, tAnd, tOr, tNot, tAndV, tOrV, tNotV, tIf, tNext, tSeq, tDrop, tRet, tRetN, tIfS, tNever, tAsg, tPar, tOp, tUn, rI, rI0, rU, tTest, tChain, tFld, tCon, tNil, tCons, tTup, tLst, tCall, tMeth, tProp, tCB, tSl, tNoPart, tPart, tBM, tBM0, gName, gTup, gNil, gCons, gSub, sFld, L2.start, tDGet, tDIn, tDNotIn, tDNewK, tDNewT, sDPut, tDGet2, and_assoc, exists_and_left, exists_and_right, exists_eq_left', exists_eq_left, exists_eq_right, exists_eq', V.int.injEq, V.str.injEq, V.bl.injEq, V.ref.injEq, List.cons.injEq, and_true, true_and, List.append_nil, List.map_cons, List.map_nil, List.length_cons, List.length_nil, List.cons_append, List.nil_append, Nat.reduceAdd, Nat.reduceSub, List.reduceReplicate, List.getElem?_cons_succ, List.getElem?_cons_zero, List.set_cons_succ, List.set_cons_zero, Option.some.injEq, if_true, Bool.false_eq_true, if_false, decide_eq_true_eq, Bool.not_true, Bool.not_false, Bool.not_eq_true', decide_eq_false_iff_not, decide_true, decide_false, Bool.true_and, Bool.and_true, Bool.false_and, Int.reduceEq, Int.reduceLT, Int.reduceLE, Int.reduceNeg, reduceCtorEq, not_false_eq_true, not_true_eq_false])
noncomputable def itL (recs : List Rec) (ws : List Int) : Nat → List Int
  | 0 => ws
  | c + 1 => nxL recs (itL recs ws c)
theorem rval_range {n : Nat} {r : Rec} {st : Nat → Int} (h : RecOk n r) (hs : ∀ k, 0 ≤ st k ∧ st k < 1000000) : 0 ≤ Sk.rval r st ∧ Sk.rval r st < 1000000 := by
  have key : ∀ j, j ≤ r.1.length → (Sk.run (r.1.take j) ⟨st, fun _ => 0⟩).mem = st ∧ ∀ k, k < 32 → 0 ≤ (Sk.run (r.1.take j) ⟨st, fun _ => 0⟩).reg k ∧ (Sk.run (r.1.take j) ⟨st, fun _ => 0⟩).reg k < 1000000 := by
    intro j
    induction j with
    | zero => exact fun _ => ⟨rfl, fun k _ => ⟨Int.le_refl 0, by show (0 : Int) < 1000000; decide⟩⟩
    | succ j ih =>
      intro hj
      obtain ⟨h1, h2⟩ := ih (by omega)
      have hrow : r.1[j]? = some r.1[j] := List.getElem?_eq_getElem hj
      obtain ⟨kn, hr⟩ := row_of h.rows _ (List.mem_of_getElem? hrow)
      rw [run_snoc _ hrow]
      exact ⟨by rw [mem_of hr]; exact h1, (Sk.exec_range (N := n) (fit_of hr) (fun k _ => by rw [h1]; exact hs k) h2).2⟩
  have e := key _ (Nat.le_refl _)
  rw [List.take_length] at e
  exact e.2 _ (by have := Sk.res_lt _ _ _ h.rows; omega)
theorem itL_ok {n : Nat} {recs : List Rec} {ws : List Int} (rl : recs.length = n) (oks : ∀ r ∈ recs, RecOk n r) (wl : ws.length = n) (wr : ∀ x ∈ ws, 0 ≤ x ∧ x < 1000000) : ∀ c, (itL recs ws c).length = n ∧ ∀ x ∈ itL recs ws c, 0 ≤ x ∧ x < 1000000
  | 0 => ⟨wl, wr⟩
  | c + 1 => by
    obtain ⟨h1, h2⟩ := itL_ok rl oks wl wr c
    show (nxL recs (itL recs ws c)).length = n ∧ ∀ x ∈ nxL recs (itL recs ws c), _
    unfold nxL
    split
    · exact ⟨h1, h2⟩
    · refine ⟨by simp [rl], fun x hx => ?_⟩
      obtain ⟨r, hr, rfl⟩ := List.mem_map.mp hx
      exact rval_range (oks r hr) (stF_range h2)
noncomputable def stsL (recs : List Rec) (ws : List Int) (T : Nat) : List (List Int) := (List.range (T + 1)).map (itL recs ws)
def spSts : Sp := fun vs H Q _ => ∃ (n T : Nat) (rp st : Addr) (recs : List Rec) (ws : List Int), vs = [V.ref rp, V.ref st] ∧ RecsA H rp recs ∧ recs.length = n ∧ 1 ≤ n ∧ n ≤ 10 ∧ (∀ r ∈ recs, RecOk n r) ∧ StA H st ws ∧ ws.length = n ∧ (∀ x ∈ ws, 0 ≤ x ∧ x < 1000000) ∧
  T ≤ 1000 ∧ (∀ c, c < T → stF (itL recs ws c) 0 = 0) ∧ stF (itL recs ws T) 0 ≠ 0 ∧ ∀ l H', Keep [] H H' → H l = none → StsA H' l (stsL recs ws T) → Q (.ref l) H'
section
variable {P : Program} {w : World} {K : PySem.W.Frag} {mg : Str → Option Value} {base : Heap}
theorem D__law_states (F : Fx K mg) : Dn P w K mg base 3 "_law_states" ["_law_recipes", "_law_state"] spSts := by
  refine dn_mk F.f__law_states F.g__law_states sc__law_states (fun _ _ _ _ _ _ us hl => match us, hl with | [_, _], _ => rfl) (by rintro vs H Q E ⟨_, _, _, _, _, _, rfl, _⟩; rfl) ?_
  rintro cdv A outer s H vs Q E hr ⟨n, T, rp, st, recs, ws, rfl, hrp, rl, n1, n10, oks, hst, wl, wr, hT, go, fin, h⟩
  refine ⟨_, (pss_cons (ps_set (i := 2) sc__law_states.nd rfl (by first | exact .inl rfl | exact .inr rfl) (pe_lst (pa_cons (pv 1) pa_nil)))
    (pss_cons (ps_while PassesOwn.never (pt_cmpR op_eq (pe_ix ix_tup (pe_ix ix_list (pv 2) (pe_un un_neg pe_int) (fun _ _ => rfl)) pe_int (fun _ _ => rfl)) pe_int (nomark _)) (pss_one (ps_expr (pe_bm PySem.F.plainAttrs_list PySem.F.slot_list_append PySem.F.type_list_append mt_append (pv 2) (pa_cons (sk_call (D__law_next F) hr (pa_cons (pv 0) (pa_cons (pe_ix ix_list (pv 2) (pe_un un_neg pe_int) (fun _ _ => rfl)) pa_nil))) pa_nil)))))
    (pss_one (ps_ret (pv 2))))), ?_⟩
  refine rd_seq fun D1 k1 r1 => ?_
  refine ⟨_, rfl, (by show 1 ≤ sizeLine; decide), fun l hl => k1 _ _ ?_⟩
  clear k1
  have c1 : Keep [] H (upd H l (.lst [.ref st])) := Keep.new hl
  have l1 : StsA (upd H l (.lst [.ref st])) l (stsL recs ws 0) := ⟨_, upd_same, Each.one (hst.keep c1)⟩
  show tSeq _ _ _ [some (.ref rp), some (.ref st), some (.ref l)] (upd H l (.lst [.ref st]))
  generalize upd H l (.lst [.ref st]) = H1 at c1 l1 ⊢
  refine rd_seq fun D2 k2 r2 => ?_
  refine ⟨fun m σ H' => ∃ c, m = T - c ∧ c ≤ T ∧ Keep [] H H' ∧ StsA H' l (stsL recs ws c) ∧ σ = [some (.ref rp), some (.ref st), some (.ref l)], ⟨_, 0, rfl, Nat.zero_le _, c1, l1, rfl⟩, ?_⟩
  rintro m σ H' ⟨c, rfl, hc, d1, ⟨us, d2, d3⟩, rfl⟩
  have hlen : us.length = c + 1 := by rw [d3.len, stsL, List.length_map, List.length_range]
  have hcc : (stsL recs ws c)[c]? = some (itL recs ws c) := by
    rw [stsL, List.getElem?_map, List.getElem?_range (by omega)]
    rfl
  obtain ⟨p, e1, e2⟩ := d3.get' hcc
  obtain ⟨us0, rfl⟩ : ∃ us0, us = us0 ++ [.ref p] := by
    refine ⟨us.take c, ?_⟩
    have := List.take_append_getElem (show c < us.length by omega)
    rw [List.getElem?_eq_getElem (by omega)] at e1
    rw [← Option.some.inj e1, this, List.take_of_length_le (by omega)]
  obtain ⟨il, ir⟩ := itL_ok rl oks wl wr c
  have e3 : H' p = some (.tup ((itL recs ws c).map V.int)) := e2
  trivial
  refine ⟨_, SqL.of d2, _, atI_last _ _, p, rfl, _, SqT.of e3, _, atI_nat (j := 0) (st_get (by omega)), ?_⟩
  trivial
  rcases Nat.lt_or_ge c T with lt | ge
  · refine iteT' (go c lt) ⟨fun σ' H' => c + 1 ≤ T ∧ Keep [] H H' ∧ StsA H' l (stsL recs ws (c + 1)) ∧ σ' = [some (.ref rp), some (.ref st), some (.ref l)], ?_, .inl ⟨rfl, _, SqL.of d2⟩, _, SqL.of d2, _, atI_last _ _, n, rp, p, recs, itL recs ws c, rfl, hrp.keep d1, rl, n1, n10, oks, e2, il, ir, fun q H2 g1 g2 => ?_⟩
    · rintro σ' H2 ⟨q1, q2, q3, q4⟩
      exact ⟨T - (c + 1), by omega, c + 1, rfl, q1, q2, q3, q4⟩
    · refine ⟨_, g1.o _ _ d2 (by simp), line6 (by omega), lt, (d1.trans g1).over hl, ⟨_, upd_same, ?_⟩, rfl⟩
      have e : stsL recs ws (c + 1) = stsL recs ws c ++ [itL recs ws (c + 1)] := by
        rw [stsL, List.range_succ, List.map_append]
        rfl
      have k2 : Keep [l] H2 (upd H2 l (.lst (us0 ++ [.ref p] ++ [.ref q]))) := Keep.at (g1.o _ _ d2 (by simp)) rfl (by simp)
      rw [e]
      exact (d3.mono fun _ _ z => (StA.keep (StA.keep z g1) k2)).append (Each.one (StA.keep g2 k2))
  · obtain rfl : c = T := by omega
    refine iteF' fin ?_
    refine k2 _ _ ?_
    exact ⟨_, rfl, h l H' d1 hl ⟨_, d2, d3⟩⟩
end
end Wk
end

section
set_option Elab.async false
set_option linter.all false
set_option maxRecDepth 100000
set_option maxHeartbeats 4000000
/-! the walk: lengths -/
namespace Wk
open PySem PySem.Spec PyProof.Rows L2 StX
local macro_rules | `(tactic| trivial) => `(tactic| try simp only [spInt, spWord, spIdx, spNum, spReg, isi_ii, isi_ib, isi_ss, eq_ii, ne_ii, eq_ss, ne_ss, cxK, wipe, rLenS, rSlL, rSlT, tRevL, tDisp, tPairs, rCat, rRep, rExtend, rAdd, rSub, rSetD, rPop, rAppend, rIxL, rIxT, rSetL, tVar, tC, t2I, tB, tAnd, tOr, tNot, tAndV, tOrV, tNotV, tIf, tNext, tSeq, tDrop, tRet, tRetN, tIfS, tNever, tAsg, tPar, tOp, tUn, rI, rI0, rU, tTest, tChain, tFld, tCon, tNil, tCons, tTup, tLst, tCall, tMeth, tProp, tCB, tSl, tNoPart, tPart, tBM, tBM0, gName, gTup, gNil, gCons, gSub, sFld, L2.start, tDGet, tDIn, tDNotIn, tDNewK, tDNewT, sDPut, tDGet2, and_assoc, exists_and_left, exists_and_right, exists_eq_left', exists_eq_left, exists_eq_right, exists_eq', V.int.injEq, V.str.injEq, V.bl.injEq, V.ref.injEq, List.cons.injEq, and_true, true_and, List.append_nil, List.map_cons, List.map_nil, List.length_cons, List.length_nil, List.cons_append, List.nil_append, Nat.reduceAdd, Nat.reduceSub, List.reduceReplicate, List.getElem?_cons_succ, List.getElem?_cons_zero, List.set_cons_succ, List.set_cons_zero, Option.some.injEq, if_true, Bool.false_eq_true, if_false, decide_eq_true_eq, Bool.not_true, Bool.not_false, Bool.not_eq_true', decide_eq_false_iff_not, decide_true, decide_false, Bool.true_and, Bool.and_true, Bool.false_and, Int.reduceEq, Int.reduceLT, Int.reduceLE, Int.reduceNeg, reduceCtorEq, not_false_eq_true, not_true_eq_false])
theorem words_sum (o n : Nat) : ∀ (l : List Rec) (k : Nat), ((Sk.wordsR o n k l).length : Int) = (l.map fun r => (r.1.length : Int) + 4).sum
  | [], _ => rfl
  | r :: l, k => by
    simp only [Sk.wordsR, Sk.wordR, Sk.chooseR, List.length_append, List.length_map, List.length_cons, List.length_nil, List.map_cons, List.sum_cons]
    have := words_sum o n l (k + 1)
    omega
theorem lp_sum (C : Sk.Cfg) : (C.lp : Int) = 14 + (C.recs.map fun r => (r.1.length : Int) + 4).sum := by
  rw [lp_eq, ← words_sum (C.oldA 0) (C.newA 0) C.recs 0]
  omega
def spLens : Sp := fun vs H Q _ => ∃ (C : Sk.Cfg) (rp : Addr), vs = [V.ref rp, V.int C.K] ∧ Fits C ∧ RecsA H rp C.recs ∧ ∀ t H', Keep [] H H' → H' t = some (.tup [.int C.lp, .int C.lq]) → Q (.ref t) H'
section
variable {P : Program} {w : World} {K : PySem.W.Frag} {mg : Str → Option Value} {base : Heap}
theorem D__law_lengths (F : Fx K mg) : Dn P w K mg base 1 "_law_lengths" ["_law_recipes", "_law_count"] spLens := by
  refine dn_mk F.f__law_lengths F.g__law_lengths sc__law_lengths (fun _ _ _ _ _ _ us hl => match us, hl with | [_, _], _ => rfl) (by rintro vs H Q E ⟨_, _, rfl, _⟩; rfl) ?_
  rintro cdv A outer s H vs Q E hr ⟨C, rp, rfl, B, hrp, h⟩
  refine ⟨_, (pss_cons (ps_set (i := 2) sc__law_lengths.nd rfl (by first | exact .inl rfl | exact .inr rfl) (pe_op op_add pe_int (pe_callB (cr_sum rfl) (by rfl) F.b_sum bt_sum (pa_cons (pe_lc (own := [("_law_rows", 3), ("_law_result", 4)]) rfl sc__law_lengths.nd (pi_tup (pv 0)) (blkOk_by (own := [("_law_rows", 3), ("_law_result", 4)]) (N := ["_law_recipes", "_law_count", "_law_first", "_law_rows", "_law_result"]) (sc := defScope s__law_lengths) (by decide +kernel)) (fun _ _ _ _ _ => (pg_tupK (K := K) (n := 2) (by rfl) (pgs_cons (pg_name (i := 3) sc__law_lengths.nd rfl (by first | exact .inl rfl | exact .inr rfl)) (pgs_cons (pg_name (i := 4) sc__law_lengths.nd rfl (by first | exact .inl rfl | exact .inr rfl)) pgs_nil)))) (fun _ _ _ _ _ => pts_nil) (fun _ _ _ _ _ => (pe_op op_add (pe_callB (call_lenK (K := K)) (by rfl) F.b_len bt_len (pa_cons (pv 3) pa_nil)) pe_int))) pa_nil))))
    (pss_one (ps_ret (pe_tup (pa_cons (pv 2) (pa_cons (pe_op op_add pe_int (pe_op op_mul (pv 1) (pe_op op_add pe_int (pe_op op_mul pe_int (pv 1))))) pa_nil)))))), ?_⟩
  obtain ⟨rvs, hrp1, hrp2⟩ := id hrp
  have k16 := B.k16
  refine rd_seq fun D1 k1 r1 => ?_
  refine ⟨_, rfl, rp, rfl, ⟨_, SqT.of hrp1⟩, fun D hD => ?_⟩
  refine lc_tup (xs := rvs) (fun i H' => Keep [] H H' ∧ H' D = some (.lst (((C.recs.take i).map fun r => (r.1.length : Int) + 4).map V.int))) ⟨Keep.new hD, upd_same⟩ (fun n H' _ q => SqT.of (q.1.t _ _ hrp1)) ?_ ?_
  · rintro i x H' hx ⟨d1, d2⟩
    obtain ⟨ra, r, rfl, hrr, rq, ha1, us, ha2, ha3⟩ := hrp2.get hx
    have il : i < C.recs.length := (List.getElem?_eq_some_iff.mp hrr).1
    have n10 := B.n10
    have len := B.len
    refine ⟨ra, _, rfl, SqT.of (d1.t _ _ ha1), rfl, _, _, rfl, _, _, rfl, rfl, rfl, ?_⟩
    trivial
    simp only [tYes, if_true]
    refine ⟨us, .inr (SqT.of (d1.t _ _ ha2)), _, d2, line6 (by simp; omega), d1.over hD, ?_⟩
    rw [upd_same, List.take_succ, hrr, ha3.len, List.map_append, List.map_append]
    rfl
  · rintro H' ⟨d1, d2⟩
    rw [hrp2.len, List.take_length] at d2
    refine ⟨D, _, rfl, SqL.of d2, _, _, rfl, rfl, k1 _ _ ?_⟩
    trivial
    rw [← lp_sum]
    refine ⟨.inl ⟨by decide, by decide⟩, .inl ⟨by omega, by omega⟩, by decide, fun t ht => ?_⟩
    have e : (3 : Int) + C.K * (12 + 2 * C.K) = C.lq := by
      rw [lq_eq]
      push_cast
      rfl
    rw [e]
    exact h t _ (d1.trans (Keep.new ht)) upd_same
end
end Wk
end

section
set_option Elab.async false
set_option linter.all false
set_option maxRecDepth 100000
set_option maxHeartbeats 4000000
/-! the walk: a recipe is drawn -/
namespace Wk
open PySem PySem.Spec PyProof.Rows L2 StX
local macro_rules | `(tactic| trivial) => `(tactic| try simp only [spInt, spWord, spIdx, spNum, spReg, isi_ii, isi_ib, isi_ss, eq_ii, ne_ii, eq_ss, ne_ss, cxK, wipe, rLenS, rSlL, rSlT, tRevL, tDisp, tPairs, rCat, rRep, rExtend, rAdd, rSub, rSetD, rPop, rAppend, rIxL, rIxT, rSetL, tVar, tC, t2I, tB, tAnd, tOr, tNot, tAndV, tOrV, tNotV, tIf, tNext, tSeq, tDrop, tRet, tRetN, tIfS, tNever, tAsg, tPar, tOp, tUn, rI, rI0, rU, tTest, tChain, tFld, tCon, tNil, tCons, tTup, tLst, tCall, tMeth, tProp, tCB, tSl, tNoPart, tPart, tBM, tBM0, gName, gTup, gNil, gCons, gSub, sFld, L2.start, tDGet, tDIn, tDNotIn, tDNewK, tDNewT, sDPut, tDGet2, and_assoc, exists_and_left, exists_and_right, exists_eq_left', exists_eq_left, exists_eq_right, exists_eq', V.int.injEq, V.str.injEq, V.bl.injEq, V.ref.injEq, List.cons.injEq, and_true, true_and, List.append_nil, List.map_cons, List.map_nil, List.length_cons, List.length_nil, List.cons_append, List.nil_append, Nat.reduceAdd, Nat.reduceSub, List.reduceReplicate, List.getElem?_cons_succ, List.getElem?_cons_zero, List.set_cons_succ, List.set_cons_zero, Option.some.injEq, if_true, Bool.false_eq_true, if_false, decide_eq_true_eq, Bool.not_true, Bool.not_false, Bool.not_eq_true', decide_eq_false_iff_not, decide_true, decide_false, Bool.true_and, Bool.and_true, Bool.false_and, Int.reduceEq, Int.reduceLT, Int.reduceLE, Int.reduceNeg, reduceCtorEq, not_false_eq_true, not_true_eq_false])
theorem draw_at {d q : Addr} {k lim : Nat} {H : Hp} {Q : VK} {E : XK} (dk : DeckA H d q (k + 1)) (l1 : 1 ≤ lim) (l2 : lim < 1073741824) (h : ∀ (n : Nat) (H' : Hp), n < lim → DeckA H' d q k → Keep [d, q] H H' → Q (.int n) H') : spDraw [V.ref d, V.int lim] H Q E := by
  refine ⟨d, q, k, _, rfl, dk, by omega, by omega, fun n H' a b c e => ?_⟩
  obtain ⟨j, rfl⟩ : ∃ j : Nat, n = j := ⟨n.toNat, by omega⟩
  exact h j H' (by omega) c e
theorem Deck.ne {H : Hp} {d q : Addr} {k : Nat} (h : DeckA H d q k) {p : Addr} (e : H p = none) : p ∉ [d, q] := by
  obtain ⟨c, x, ns, h1, h2, _⟩ := h
  intro m
  rcases List.mem_cons.mp m with rfl | m
  · rw [h1] at e; cases e
  · rcases List.mem_cons.mp m with rfl | m
    · rw [h2] at e; cases e
    · cases m
theorem Deck.neL {H : Hp} {d q : Addr} {k : Nat} (h : DeckA H d q k) {p : Addr} {xs : List V} (e : H p = some (.tup xs)) : p ∉ [d, q] := by
  obtain ⟨c, x, ns, h1, h2, _⟩ := h
  intro m
  rcases List.mem_cons.mp m with rfl | m
  · rw [h1] at e; cases e
  · rcases List.mem_cons.mp m with rfl | m
    · rw [h2] at e; cases e
    · cases m
theorem recMono {n : Nat} : ∀ {rows : List Sk.Rw} {kn kn' : Nat → Prop} {res : Nat}, (∀ x, kn x → kn' x) → Sk.RecRows n kn rows res → Sk.RecRows n kn' rows res
  | [], kn, kn', res, hk, h => ⟨h.1, hk _ h.2⟩
  | r :: rows, kn, kn', res, hk, h => by
    refine ⟨?_, recMono (fun x z => z.imp id (hk x)) h.2⟩
    have := h.1
    cases r with
    | op o a b c => exact ⟨this.1, hk _ this.2.1, hk _ this.2.2.1, this.2.2.2⟩
    | choose a b c d => exact ⟨this.1, hk _ this.2.1, hk _ this.2.2.1, hk _ this.2.2.2.1, this.2.2.2.2⟩
    | set a b => exact this
    | load a b => exact this
    | store a b => exact this
    | alike a b c d => exact this
    | move a b c d => exact this
theorem recSnoc {n : Nat} : ∀ {rows : List Sk.Rw} {kn : Nat → Prop} {res : Nat} {r : Sk.Rw}, Sk.RecRows n kn rows res → Sk.RecRow n (fun x => (∃ r ∈ rows, x = Sk.goal r) ∨ kn x) r → Sk.goal r < 24 → Sk.RecRows n kn (rows ++ [r]) (Sk.goal r)
  | [], kn, res, r, h, hr, g => by
    have e : (fun x => (∃ r ∈ ([] : List Sk.Rw), x = Sk.goal r) ∨ kn x) = kn := by
      funext x
      simp
    rw [e] at hr
    exact ⟨hr, g, .inl rfl⟩
  | a :: rows, kn, res, r, h, hr, g => by
    refine ⟨h.1, recSnoc h.2 ?_ g⟩
    have e : (fun x => (∃ r ∈ a :: rows, x = Sk.goal r) ∨ kn x) = (fun x => (∃ r ∈ rows, x = Sk.goal r) ∨ (x = Sk.goal a ∨ kn x)) := by
      funext x
      simp only [List.mem_cons, exists_eq_or_imp, eq_iff_iff]
      constructor
      · rintro ((rfl | z) | z)
        · exact .inr (.inl rfl)
        · exact .inl z
        · exact .inr (.inr z)
      · rintro (z | rfl | z)
        · exact .inl (.inr z)
        · exact .inl (.inl rfl)
        · exact .inr z
    rw [e] at hr
    exact hr
theorem recLast {n : Nat} : ∀ {rows : List Sk.Rw} {kn : Nat → Prop} {res : Nat} {r : Sk.Rw}, Sk.RecRows n kn (rows ++ [r]) res → Sk.goal r < 24 → Sk.RecRows n kn (rows ++ [r]) (Sk.goal r)
  | [], kn, res, r, h, g => ⟨h.1, g, .inl rfl⟩
  | a :: rows, kn, res, r, h, g => ⟨h.1, recLast h.2 g⟩
structure RcI (n : Nat) (H H' : Hp) (d q rl kl : Addr) (rows : List Sk.Rw) (k : Nat) : Prop where
  keep : Keep [d, q] H H'
  dk : DeckA H' d q k
  ra : RowsL H' rl rows
  ka : H' kl = some (.lst (rows.map fun r => V.int (Sk.goal r)))
  rn : H rl = none
  kn : H kl = none
  rk : rl ≠ kl
  ok : ∃ res, Sk.RecRows n (fun _ => False) rows res
  lt : ∀ r ∈ rows, Sk.goal r < 24
  ne : rows ≠ []
  dq : rl ∉ [d, q] ∧ kl ∉ [d, q]
theorem RcI.go {n : Nat} {H H1 H2 : Hp} {d q rl kl : Addr} {rows : List Sk.Rw} {k k' : Nat} (I : RcI n H H1 d q rl kl rows k) (kp : Keep [d, q] H1 H2) (dk : DeckA H2 d q k') : RcI n H H2 d q rl kl rows k' := by
  refine ⟨I.keep.trans kp, dk, I.ra.keep kp I.dq.1, kp.o _ _ I.ka I.dq.2, I.rn, I.kn, I.rk, I.ok, I.lt, I.ne, I.dq⟩
theorem pick_at {d q l : Addr} {k : Nat} {xs : List V} {H : Hp} {Q : VK} {E : XK} (dk : DeckA H d q (k + 1)) (hl : H l = some (.lst xs)) (lq : l ∉ [d, q]) (x0 : xs ≠ []) (x1 : xs.length < 1000) (h : ∀ (v : V) (H' : Hp), v ∈ xs → DeckA H' d q k → Keep [d, q] H H' → Q v H') : spPick [V.ref d, V.ref l] H Q E :=
  ⟨d, q, k, l, xs, rfl, dk, hl, fun z => lq (by rw [z]; simp), x0, x1, h⟩
theorem RcI.pick {n : Nat} {H H1 : Hp} {d q rl kl : Addr} {rows : List Sk.Rw} {k : Nat} {Q : VK} {E : XK} (I : RcI n H H1 d q rl kl rows (k + 1)) (hl : rows.length < 1000) (h : ∀ (r : Sk.Rw) (H' : Hp), r ∈ rows → RcI n H H' d q rl kl rows k → Q (.int (Sk.goal r)) H') : spPick [V.ref d, V.ref kl] H1 Q E := by
  refine pick_at I.dk I.ka I.dq.2 (by simpa using I.ne) (by simpa using hl) fun v H' hv dk kp => ?_
  obtain ⟨r, hr, rfl⟩ := List.mem_map.mp hv
  exact h r H' hr (I.go kp dk)
/-- the loop's last two acts: the row, its goal -/
theorem RcI.push {n : Nat} {H H1 : Hp} {d q rl kl p : Addr} {rows : List Sk.Rw} {k : Nat} {r : Sk.Rw} (I : RcI n H H1 d q rl kl rows k) (hp : H1 p = some (.tup (rowV r))) (hr : Sk.RecRow n (fun x => ∃ r ∈ rows, x = Sk.goal r) r) (g : Sk.goal r < 24) :
    ∃ vs, H1 rl = some (.lst vs) ∧ vs.length = rows.length ∧ upd H1 rl (.lst (vs ++ [.ref p])) kl = some (.lst (rows.map fun r => V.int (Sk.goal r))) ∧
      RcI n H (upd (upd H1 rl (.lst (vs ++ [.ref p]))) kl (.lst ((rows.map fun r => V.int (Sk.goal r)) ++ [V.int (Sk.goal r)]))) d q rl kl (rows ++ [r]) k := by
  obtain ⟨vs, h1, h2⟩ := I.ra
  have k1 : Keep [rl] H1 (upd H1 rl (.lst (vs ++ [.ref p]))) := Keep.at h1 rfl (by simp)
  have e2 : upd H1 rl (.lst (vs ++ [.ref p])) kl = some (.lst (rows.map fun r => V.int (Sk.goal r))) := by rw [upd_ne I.rk.symm]; exact I.ka
  have k2 : Keep [kl] (upd H1 rl (.lst (vs ++ [.ref p]))) (upd (upd H1 rl (.lst (vs ++ [.ref p]))) kl (.lst ((rows.map fun r => V.int (Sk.goal r)) ++ [V.int (Sk.goal r)]))) := Keep.at e2 rfl (by simp)
  obtain ⟨res, ok⟩ := I.ok
  refine ⟨vs, h1, h2.len, e2, ⟨(I.keep.over I.rn).over I.kn, ?_, ⟨_, by rw [upd_ne I.rk]; exact upd_same, (h2.mono fun _ _ e => RowA.keep (RowA.keep e k1) k2).append (Each.one (RowA.keep (RowA.keep (show RowA H1 p r from hp) k1) k2))⟩, by rw [upd_same, List.map_append]; rfl, I.rn, I.kn, I.rk, ⟨_, recSnoc ok ?_ g⟩, ?_, by simp, I.dq⟩⟩
  · have z := I.dq
    simp only [List.mem_cons, List.not_mem_nil, or_false, not_or] at z
    exact (I.dk.keep k1 (by simp; exact z.1.1 ∘ Eq.symm) (by simp; exact z.1.2 ∘ Eq.symm)).keep k2 (by simp; exact z.2.1 ∘ Eq.symm) (by simp; exact z.2.2 ∘ Eq.symm)
  · have e : (fun x => (∃ r ∈ rows, x = Sk.goal r) ∨ False) = fun x => ∃ r ∈ rows, x = Sk.goal r := by
      funext x
      simp
    rw [e]
    exact hr
  · intro x hx
    rcases List.mem_append.mp hx with hx | hx
    · exact I.lt x hx
    · rw [List.mem_singleton.mp hx]
      exact g
def spRcp : Sp := fun vs H Q _ => ∃ (d q : Addr) (m n : Nat), vs = [V.ref d, V.int n] ∧ DeckA H d q (m + 100) ∧ 1 ≤ n ∧ n ≤ 10 ∧ ∀ (p : Addr) (r : Rec) (H' : Hp), RecOk n r → r.1.length ≤ 4 → RecA H' p r → DeckA H' d q m → Keep [d, q] H H' → Q (.ref p) H'
section
variable {P : Program} {w : World} {K : PySem.W.Frag} {mg : Str → Option Value} {base : Heap}
theorem D__law_recipe (F : Fx K mg) : Dn P w K mg base 3 "_law_recipe" ["_law_deck_here", "_law_n"] spRcp := by
  refine dn_mk F.f__law_recipe F.g__law_recipe sc__law_recipe (fun _ _ _ _ _ _ us hl => match us, hl with | [_, _], _ => rfl) (by rintro vs H Q E ⟨_, _, _, _, rfl, _⟩; rfl) ?_
  rintro cdv A outer s H vs Q E hr ⟨d, q, m, n, rfl, dk, n1, n10, h⟩
  refine ⟨_, (pss_cons (ps_par (i := 2) (j := 3) rfl sc__law_recipe.nd rfl rfl (by decide) rfl rfl (pa_cons (pe_lst (pa_cons (pe_tup (pa_cons pe_str (pa_cons (sk_call (D__law_draw F) hr (pa_cons (pv 0) (pa_cons pe_int pa_nil))) (pa_cons (sk_call (D__law_draw F) hr (pa_cons (pv 0) (pa_cons (pv 1) pa_nil))) pa_nil)))) pa_nil)) (pa_cons (pe_lst pa_nil) pa_nil)) (by rfl))
    (pss_cons (ps_expr (pe_bm PySem.F.plainAttrs_list PySem.F.slot_list_append PySem.F.type_list_append mt_append (pv 3) (pa_cons (pe_ix ix_tup (pe_ix ix_list (pv 2) pe_int (fun _ _ => rfl)) pe_int (fun _ _ => rfl)) pa_nil)))
    (pss_cons (ps_for PassesOwn.never rfl (pi_range1 (by rfl) F.b_range (pa_cons (sk_call (D__law_draw F) hr (pa_cons (pv 0) (pa_cons pe_int pa_nil))) pa_nil)) (pg_name (i := 4) sc__law_recipe.nd rfl (by first | exact .inl rfl | exact .inr rfl)) (pss_cons (ps_par (i := 5) (j := 6) rfl sc__law_recipe.nd rfl rfl (by decide) rfl rfl (pa_cons (sk_call (D__law_draw F) hr (pa_cons (pv 0) (pa_cons pe_int pa_nil))) (pa_cons (sk_call (D__law_draw F) hr (pa_cons (pv 0) (pa_cons pe_int pa_nil))) pa_nil)) (by rfl))
    (pss_cons (ps_par3 (i := 7) (j := 8) (l := 9) rfl sc__law_recipe.nd rfl rfl rfl (by decide) (by decide) (by decide) rfl rfl rfl (pa_cons (sk_call (D__law_pick F) hr (pa_cons (pv 0) (pa_cons (pv 3) pa_nil))) (pa_cons (sk_call (D__law_pick F) hr (pa_cons (pv 0) (pa_cons (pv 3) pa_nil))) (pa_cons (sk_call (D__law_pick F) hr (pa_cons (pv 0) (pa_cons (pv 3) pa_nil))) pa_nil))) (by rfl))
    (pss_cons (ps_if (pt_cmpR op_lt (pv 5) pe_int (nomark _)) (pss_one (ps_expr (pe_bm PySem.F.plainAttrs_list PySem.F.slot_list_append PySem.F.type_list_append mt_append (pv 2) (pa_cons (pe_tup (pa_cons pe_str (pa_cons (pv 6) (pa_cons (pe_ix ix_list (pe_lst (pa_cons pe_int (pa_cons pe_int (pa_cons pe_int (pa_cons pe_int (pa_cons pe_int (pa_cons (sk_call (D__law_draw F) hr (pa_cons (pv 0) (pa_cons pe_int pa_nil))) pa_nil))))))) (sk_call (D__law_draw F) hr (pa_cons (pv 0) (pa_cons pe_int pa_nil))) (fun _ _ => rfl)) pa_nil)))) pa_nil)))) (pss_one (ps_if (pt_cmpR op_lt (pv 5) pe_int (nomark _)) (pss_one (ps_expr (pe_bm PySem.F.plainAttrs_list PySem.F.slot_list_append PySem.F.type_list_append mt_append (pv 2) (pa_cons (pe_tup (pa_cons pe_str (pa_cons (pv 6) (pa_cons (sk_call (D__law_draw F) hr (pa_cons (pv 0) (pa_cons (pv 1) pa_nil))) pa_nil)))) pa_nil)))) (pss_one (ps_if (pt_cmpR op_eq (pv 5) pe_int (nomark _)) (pss_one (ps_expr (pe_bm PySem.F.plainAttrs_list PySem.F.slot_list_append PySem.F.type_list_append mt_append (pv 2) (pa_cons (pe_tup (pa_cons pe_str (pa_cons (pv 6) (pa_cons (pv 7) (pa_cons (pv 8) (pa_cons (pv 9) pa_nil)))))) pa_nil)))) (pss_one (ps_expr (pe_bm PySem.F.plainAttrs_list PySem.F.slot_list_append PySem.F.type_list_append mt_append (pv 2) (pa_cons (pe_tup (pa_cons (sk_call (D__law_pick F) hr (pa_cons (pv 0) (pa_cons (pe_lst (pa_cons pe_str (pa_cons pe_str (pa_cons pe_str (pa_cons pe_str (pa_cons pe_str (pa_cons pe_str (pa_cons pe_str pa_nil)))))))) pa_nil))) (pa_cons (pv 6) (pa_cons (pv 7) (pa_cons (pv 8) pa_nil))))) pa_nil)))))))))
    (pss_one (ps_expr (pe_bm PySem.F.plainAttrs_list PySem.F.slot_list_append PySem.F.type_list_append mt_append (pv 3) (pa_cons (pv 6) pa_nil))))))))
    (pss_one (ps_ret (pe_tup (pa_cons (pe_callTy call_tuple_of (by rfl) F.b_tuple bt_tuple (pa_cons (pv 2) pa_nil)) (pa_cons (pe_ix ix_list (pv 3) (pe_un un_neg pe_int) (fun _ _ => rfl)) pa_nil)))))))), ?_⟩
  refine rd_seq fun D1 k1 r1 => ?_
  trivial
  refine draw_at (lim := 24) dk (by decide) (by decide) fun a H1 a24 dk1 kp1 => draw_at dk1 n1 (by omega) fun b H2 bn dk2 kp2 => ⟨by decide, fun p hp => ⟨by decide, fun rl hrl => ⟨by decide, fun kl hkl => ?_⟩⟩⟩
  have kp := kp1.trans kp2
  clear kp1 kp2
  trivial
  refine k1 _ _ ?_
  clear k1
  have ap : p ∉ [d, q] := Deck.ne dk2 hp
  have rp : rl ≠ p := ne_of_none' hrl upd_same
  have kr : kl ≠ rl := ne_of_none' hkl upd_same
  have hrl2 : H2 rl = none := by rw [upd_ne rp] at hrl; exact hrl
  have kq : kl ≠ p := ne_of_none' hkl (by rw [upd_ne rp.symm]; exact upd_same)
  have hkl2 : H2 kl = none := by rw [upd_ne kr, upd_ne kq] at hkl; exact hkl
  have fr : ∀ {x : Addr}, H2 x = none → H x = none := fun {x} hx => by
    by_cases hm : x ∈ [d, q]
    · exact absurd hm (Deck.ne dk2 hx)
    · cases e : H x with
      | none => rfl
      | some o => rw [kp.o _ _ e hm] at hx; cases hx
  have I0 : RcI n H (upd (upd (upd H2 p (HO.tup [V.str "load", V.int a, V.int b])) rl (HO.lst [V.ref p])) kl (HO.lst [V.int a])) d q rl kl [.load a b] (m + 98) := by
    have kk : ∀ S : List Addr, Keep S H2 (upd (upd (upd H2 p (HO.tup [V.str "load", V.int a, V.int b])) rl (HO.lst [V.ref p])) kl (HO.lst [V.int a])) := fun S => ((Keep.new hp).over hrl2).over hkl2
    refine ⟨kp.trans (kk _), dk2.keep (kk []) (by simp) (by simp), ⟨[.ref p], by rw [upd_ne kr.symm]; exact upd_same, Each.one ?_⟩, upd_same, fr hrl2, fr hkl2, kr.symm, ⟨a, ⟨a24, bn⟩, a24, .inl rfl⟩, ?_, by simp, Deck.ne dk2 hrl2, Deck.ne dk2 hkl2⟩
    · show upd _ _ _ p = _
      rw [upd_ne kq.symm, upd_ne rp.symm]
      exact upd_same
    · intro r hr
      rw [List.mem_singleton.mp hr]
      exact a24
  have hkr := kr
  refine rd_seq fun D2 k2 r2 => ?_
  trivial
  refine ⟨.inl ⟨rfl, _, SqL.of upd_same⟩, [.ref p], SqL.of (by rw [upd_ne kr.symm]; exact upd_same), _, rfl, _, rfl, [V.str "load", V.int a, V.int b], SqT.of (by rw [upd_ne kq.symm, upd_ne rp.symm]; exact upd_same), V.int a, rfl, _, upd_same, by decide, k2 _ _ ?_⟩
  clear k2
  have e : upd (upd (upd (upd H2 p (HO.tup [V.str "load", V.int a, V.int b])) rl (HO.lst [V.ref p])) kl (HO.lst [])) kl (HO.lst ([] ++ [V.int a])) = (upd (upd (upd H2 p (HO.tup [V.str "load", V.int a, V.int b])) rl (HO.lst [V.ref p])) kl (HO.lst [V.int a])) := upd_upd
  rw [e]
  clear e
  generalize upd (upd (upd H2 p (HO.tup [V.str "load", V.int a, V.int b])) rl (HO.lst [V.ref p])) kl (HO.lst [V.int a]) = H3 at I0 ⊢
  clear hp hrl hkl hrl2 hkl2 rp kr kq fr ap
  refine rd_seq fun D2 k2 r2 => ?_
  refine ⟨_, rfl, d, q, m + 97, 4, rfl, I0.dk, by decide, by decide, fun ci H4 c0 c4 dk4 kp4 => ?_⟩
  obtain ⟨c, rfl⟩ : ∃ c : Nat, ci = c := ⟨ci.toNat, by omega⟩
  refine ⟨_, rfl, by omega, by omega, ?_⟩
  have I1 := I0.go kp4 dk4
  refine for_range (lo := 0) (n := c) (fun i σ H' => (∃ rows, rows.length = i + 1 ∧ RcI n H H' d q rl kl rows (m + 97 - 8 * i)) ∧ ∃ o1 o2 o3 o4 o5 o6, σ = [some (.ref d), some (.int n), some (.ref rl), some (.ref kl), o1, o2, o3, o4, o5, o6]) ⟨⟨_, rfl, I1⟩, _, _, _, _, _, _, rfl⟩ ?_ ?_
  · rintro i σ H5 ic ⟨⟨rows, rlen, I2⟩, o1, o2, o3, o4, o5, o6, rfl⟩
    trivial
    obtain ⟨M, hM⟩ : ∃ M, m + 97 - 8 * i = M + 8 := ⟨m + 89 - 8 * i, by omega⟩
    have hM' : m + 97 - 8 * (i + 1) = M := by omega
    rw [hM] at I2
    rw [hM']
    refine draw_at (lim := 9) I2.dk (by decide) (by decide) fun way H6 w9 dk6 kp6 => draw_at (lim := 24) dk6 (by decide) (by decide) fun to H7 t24 dk7 kp7 => ?_
    have I3 := I2.go (kp6.trans kp7) dk7
    clear dk6 kp6 dk7 kp7 I2
    unfold tPar3
    trivial
    refine I3.pick (by omega) fun r1 H8 hr1 I4 => I4.pick (by omega) fun r2 H9 hr2 I5 => I5.pick (by omega) fun r3 H10 hr3 I6 => ?_
    clear I3 I4 I5
    trivial
    have fin : ∀ (H11 : Hp) (p : Addr) (r : Sk.Rw) (k : Nat), RcI n H H11 d q rl kl rows (M + k) → H11 p = some (.tup (rowV r)) → Sk.RecRow n (fun x => ∃ r ∈ rows, x = Sk.goal r) r → Sk.goal r = to →
        ∃ x, H11 rl = some (HO.lst x) ∧ x.length < sizeLine ∧ tyV K "list" (V.ref kl) (upd H11 rl (HO.lst (x ++ [.ref p]))) ∧ ∃ x_1, upd H11 rl (HO.lst (x ++ [.ref p])) kl = some (HO.lst x_1) ∧ x_1.length < sizeLine ∧ ∃ rows', rows'.length = i + 1 + 1 ∧ RcI n H (upd (upd H11 rl (HO.lst (x ++ [.ref p]))) kl (HO.lst (x_1 ++ [.int to]))) d q rl kl rows' M := by
      intro H11 p r k I hp hr hg
      obtain ⟨vs, e1, e2, e3, e4⟩ := I.push hp hr (by omega)
      refine ⟨vs, e1, line6 (by omega), .inl ⟨rfl, _, SqL.of e3⟩, _, e3, line6 (by rw [List.length_map]; omega), rows ++ [r], by simp; omega, ?_⟩
      rw [hg] at e4
      exact e4.go (Keep.refl _ _) (e4.dk.less (by omega))
    have go : ∀ (H11 : Hp) (r : Sk.Rw) (k : Nat), RcI n H H11 d q rl kl rows (M + k) → ∀ p, H11 p = none → Sk.RecRow n (fun x => ∃ r ∈ rows, x = Sk.goal r) r → Sk.goal r = to →
        ∃ x, upd H11 p (.tup (rowV r)) rl = some (HO.lst x) ∧ x.length < sizeLine ∧ tyV K "list" (V.ref kl) (upd (upd H11 p (.tup (rowV r))) rl (HO.lst (x ++ [.ref p]))) ∧ ∃ x_1, upd (upd H11 p (.tup (rowV r))) rl (HO.lst (x ++ [.ref p])) kl = some (HO.lst x_1) ∧ x_1.length < sizeLine ∧ ∃ rows', rows'.length = i + 1 + 1 ∧ RcI n H (upd (upd (upd H11 p (.tup (rowV r))) rl (HO.lst (x ++ [.ref p]))) kl (HO.lst (x_1 ++ [.int to]))) d q rl kl rows' M :=
      fun H11 r k I p hp hr hg => fin _ p r k (I.go (Keep.new hp) (I.dk.keep (Keep.new hp (S := [])) (by simp) (by simp))) upd_same hr hg
    have tyR : ∀ (H11 : Hp) (k : Nat), RcI n H H11 d q rl kl rows k → tyV K "list" (V.ref rl) H11 := fun H11 k I => by
      obtain ⟨vs, e, _⟩ := I.ra
      exact .inl ⟨rfl, _, SqL.of e⟩
    by_cases w1 : (way : Int) < 2
    · refine iteT' w1 ⟨tyR _ _ I6, draw_at (lim := 1000000) I6.dk (by decide) (by decide) fun v H11 v6 dk11 kp11 => ⟨by decide, fun vl hvl => ?_⟩⟩
      have I7 := I6.go kp11 dk11
      have I8 := I7.go (Keep.new hvl (o := .lst [V.int 0, V.int 1, V.int 2, V.int 3, V.int 999999, V.int v])) (I7.dk.keep (Keep.new hvl (S := [])) (by simp) (by simp))
      have vq := Deck.ne I7.dk hvl
      refine draw_at (lim := 6) I8.dk (by decide) (by decide) fun j H12 j6 dk12 kp12 => ⟨_, _, rfl, SqL.of (kp12.o _ _ upd_same vq), ?_⟩
      have I9 := I8.go kp12 dk12
      obtain ⟨u, hu1, hu2⟩ : ∃ u : Int, atI [V.int 0, V.int 1, V.int 2, V.int 3, V.int 999999, V.int v] j = some (V.int u) ∧ 0 ≤ u ∧ u < 1000000 := by
        have : j = 0 ∨ j = 1 ∨ j = 2 ∨ j = 3 ∨ j = 4 ∨ j = 5 := by omega
        rcases this with rfl | rfl | rfl | rfl | rfl | rfl
        · exact ⟨0, rfl, by decide⟩
        · exact ⟨1, rfl, by decide⟩
        · exact ⟨2, rfl, by decide⟩
        · exact ⟨3, rfl, by decide⟩
        · exact ⟨999999, rfl, by decide⟩
        · exact ⟨v, rfl, by omega⟩
      exact ⟨_, hu1, by decide, fun p hp => go H12 (.set to u) 1 I9 p hp ⟨t24, hu2⟩ rfl⟩
    · refine iteF' w1 ?_
      by_cases w2 : (way : Int) < 4
      · exact iteT' w2 ⟨tyR _ _ I6, draw_at I6.dk n1 (by omega) fun v H11 vn dk11 kp11 => ⟨by decide, fun p hp => go H11 (.load to v) 2 (I6.go kp11 dk11) p hp ⟨t24, vn⟩ rfl⟩⟩
      · refine iteF' w2 ?_
        by_cases w3 : (way : Int) = 4
        · exact iteT' w3 ⟨tyR _ _ I6, by decide, fun p hp => go H10 (.choose to (Sk.goal r1) (Sk.goal r2) (Sk.goal r3)) 3 I6 p hp ⟨t24, ⟨_, hr1, rfl⟩, ⟨_, hr2, rfl⟩, ⟨_, hr3, rfl⟩, I6.lt _ hr1, I6.lt _ hr2, I6.lt _ hr3⟩ rfl⟩
        · refine iteF' w3 ⟨tyR _ _ I6, by decide, fun ol hol => ?_⟩
          have I8 := I6.go (Keep.new hol (o := .lst [V.str "add", V.str "sub", V.str "mul", V.str "div", V.str "mod", V.str "less", V.str "same"])) (I6.dk.keep (Keep.new hol (S := [])) (by simp) (by simp))
          refine pick_at I8.dk upd_same (Deck.ne I6.dk hol) (by simp) (by simp) fun v H11 hv dk11 kp11 => ?_
          obtain ⟨o, rfl⟩ : ∃ o : Sk.Op, v = .str (opS o) := by
            simp only [List.mem_cons, List.not_mem_nil, or_false] at hv
            rcases hv with rfl | rfl | rfl | rfl | rfl | rfl | rfl
            · exact ⟨.add, rfl⟩
            · exact ⟨.sub, rfl⟩
            · exact ⟨.mul, rfl⟩
            · exact ⟨.div, rfl⟩
            · exact ⟨.mod, rfl⟩
            · exact ⟨.less, rfl⟩
            · exact ⟨.same, rfl⟩
          exact ⟨by decide, fun p hp => go H11 (.op o to (Sk.goal r1) (Sk.goal r2)) 2 (I8.go kp11 dk11) p hp ⟨t24, ⟨_, hr1, rfl⟩, ⟨_, hr2, rfl⟩, I6.lt _ hr1, I6.lt _ hr2⟩ rfl⟩
  · rintro σ H5 ⟨⟨rows, rlen, I2⟩, o1, o2, o3, o4, o5, o6, rfl⟩
    refine k2 _ _ ?_
    trivial
    obtain ⟨vs, h1, h2⟩ := I2.ra
    refine ⟨vs, .inl ⟨SqL.of h1, fun l hl => ?_⟩⟩
    have kk : Keep [] H5 (upd H5 l (.tup vs)) := Keep.new hl
    obtain ⟨res, ok⟩ := I2.ok
    obtain ⟨r, hr⟩ : ∃ r, rows = rows.dropLast ++ [r] := ⟨rows.getLast I2.ne, (List.dropLast_concat_getLast I2.ne).symm⟩
    have e : rows.map (fun r => V.int (Sk.goal r)) = rows.dropLast.map (fun r => V.int (Sk.goal r)) ++ [V.int (Sk.goal r)] := by
      conv => lhs; rw [hr]
      rw [List.map_append]
      rfl
    refine ⟨_, SqL.of (kk.o _ _ I2.ka (by simp)), V.int (Sk.goal r), by rw [e]; exact atI_last _ _, by decide, fun p hp => ?_⟩
    have pl : p ≠ l := ne_of_none' hp upd_same
    have ok2 : Sk.RecRows n (fun _ => False) rows (Sk.goal r) := by
      rw [hr] at ok ⊢
      exact recLast ok (I2.lt r (by rw [hr]; simp))
    have kn : Keep [] H5 (upd (upd H5 l (.tup vs)) p (.tup [.ref l, .int (Sk.goal r)])) := kk.trans (Keep.new hp)
    refine h p (rows, Sk.goal r) _ ⟨ok2, by simp; omega⟩ (by simp; omega) ⟨l, upd_same, vs, by rw [upd_ne pl.symm]; exact upd_same, h2.mono fun _ _ e => RowA.keep e kn⟩ (I2.dk.keep kn (by simp) (by simp) |>.less (by omega)) (I2.keep.trans kn.nil)
end
end Wk
end

section
set_option Elab.async false
set_option linter.all false
set_option maxRecDepth 100000
set_option maxHeartbeats 4000000
/-! the walk: the counting machine -/
namespace Wk
open PySem PySem.Spec PyProof.Rows L2 StX
local macro_rules | `(tactic| trivial) => `(tactic| try simp only [spInt, spWord, spIdx, spNum, spReg, isi_ii, isi_ib, isi_ss, eq_ii, ne_ii, eq_ss, ne_ss, cxK, wipe, rLenS, rSlL, rSlT, tRevL, tDisp, tPairs, rCat, rRep, rExtend, rAdd, rSub, rSetD, rPop, rAppend, rIxL, rIxT, rSetL, tVar, tC, t2I, tB, tAnd, tOr, tNot, tAndV, tOrV, tNotV, tIf, tNext, tSeq, tDrop, tRet, tRetN, tIfS, tNever, tAsg, tPar, tOp, tUn, rI, rI0, rU, tTest, tChain, tFld, tCon, tNil, tCons, tTup, tLst, tCall, tMeth, tProp, tCB, tSl, tNoPart, tPart, tBM, tBM0, gName, gTup, gNil, gCons, gSub, sFld, L2.start, tDGet, tDIn, tDNotIn, tDNewK, tDNewT, sDPut, tDGet2, and_assoc, exists_and_left, exists_and_right, exists_eq_left', exists_eq_left, exists_eq_right, exists_eq', V.int.injEq, V.str.injEq, V.bl.injEq, V.ref.injEq, List.cons.injEq, and_true, true_and, List.append_nil, List.map_cons, List.map_nil, List.length_cons, List.length_nil, List.cons_append, List.nil_append, Nat.reduceAdd, Nat.reduceSub, List.reduceReplicate, List.getElem?_cons_succ, List.getElem?_cons_zero, List.set_cons_succ, List.set_cons_zero, Option.some.injEq, if_true, Bool.false_eq_true, if_false, decide_eq_true_eq, Bool.not_true, Bool.not_false, Bool.not_eq_true', decide_eq_false_iff_not, decide_true, decide_false, Bool.true_and, Bool.and_true, Bool.false_and, Int.reduceEq, Int.reduceLT, Int.reduceLE, Int.reduceNeg, reduceCtorEq, not_false_eq_true, not_true_eq_false])
def spCtr : Sp := fun vs H Q _ => ∃ (d q : Addr) (m T : Nat), vs = [V.ref d, V.int T] ∧ DeckA H d q (m + 1000) ∧ 1 ≤ T ∧ T ≤ 10 ∧ ∀ (n : Nat) (p rp st : Addr) (recs : List Rec) (ws : List Int) (H' : Hp), 2 ≤ n → n ≤ 4 → RecsA H' rp recs → recs.length = n → (∀ r ∈ recs, RecOk n r ∧ r.1.length ≤ 4) → StA H' st ws → ws.length = n → (∀ x ∈ ws, 0 ≤ x ∧ x < 1000000) → (∀ c, c < T → stF (itL recs ws c) 0 = 0) → stF (itL recs ws T) 0 ≠ 0 → H' p = some (.tup [.ref rp, .ref st]) → DeckA H' d q m → Keep [d, q] H H' → Q (.ref p) H'
def doneR (T : Nat) : Rec := ([.load 0 1, .set 1 ((T - 1 : Nat) : Int), .op .same 0 0 1], 0)
def moreR (one ot : Nat) : Rec := ([.set one 1, .load ot 1, .op .add one one ot], one)
theorem done_ok {n T : Nat} (hn : 2 ≤ n) (hT : T ≤ 10) : RecOk n (doneR T) := ⟨⟨⟨by decide, by omega⟩, ⟨by decide, by omega, by omega⟩, ⟨by decide, .inr (.inl rfl), .inl rfl, by decide, by decide⟩, by show 0 < 24; decide, .inl rfl⟩, by show 3 ≤ 100; decide⟩
theorem more_ok {n one ot : Nat} (hn : 2 ≤ n) (h1 : one < 24) (h2 : ot < 24) : RecOk n (moreR one ot) := ⟨⟨⟨h1, by decide, by decide⟩, ⟨h2, by omega⟩, ⟨h1, .inr (.inl rfl), .inl rfl, h1, h2⟩, h1, .inl rfl⟩, by show 3 ≤ 100; decide⟩
theorem done_val (T : Nat) (st : Nat → Int) : Sk.rval (doneR T) st = if st 1 = ((T - 1 : Nat) : Int) then 1 else 0 := by
  simp [Sk.rval, doneR, Sk.run, Sk.exec, Sk.up, Sk.opv]
theorem more_val {one ot : Nat} (h : ot ≠ one) (st : Nat → Int) : Sk.rval (moreR one ot) st = (1 + st 1) % 1000000 := by
  simp [Sk.rval, moreR, Sk.run, Sk.exec, Sk.up, Sk.opv, h, h.symm]
theorem count_law {T one ot : Nat} (recs : List Rec) (us : List Int) (h : ot ≠ one) (T1 : 1 ≤ T) (T10 : T ≤ 10) : ∀ c, c ≤ T → stF (itL (doneR T :: moreR one ot :: recs) ([0, 0] ++ us) c) 1 = c ∧ stF (itL (doneR T :: moreR one ot :: recs) ([0, 0] ++ us) c) 0 = if c = T then 1 else 0
  | 0, _ => by
    rw [if_neg (by omega)]
    exact ⟨rfl, rfl⟩
  | c + 1, hc => by
    obtain ⟨h1, h0⟩ := count_law recs us h T1 T10 c (by omega)
    rw [if_neg (by omega)] at h0
    show stF (nxL _ _) 1 = _ ∧ stF (nxL _ _) 0 = _
    unfold nxL
    rw [if_neg (by rw [h0]; simp)]
    constructor
    · show Sk.rval (moreR one ot) _ = _
      rw [more_val h, h1]
      push_cast
      omega
    · show Sk.rval (doneR T) _ = _
      rw [done_val, h1]
      by_cases e : c + 1 = T
      · rw [if_pos e, if_pos (by omega)]
      · rw [if_neg e, if_neg (by omega)]
theorem rows3 {H : Hp} {p1 p2 p3 p4 : Addr} (r1 r2 r3 : Sk.Rw) (h1 : H p1 = none) (h2 : upd H p1 (.tup (rowV r1)) p2 = none) (h3 : upd (upd H p1 (.tup (rowV r1))) p2 (.tup (rowV r2)) p3 = none) (h4 : upd (upd (upd H p1 (.tup (rowV r1))) p2 (.tup (rowV r2))) p3 (.tup (rowV r3)) p4 = none) :
    Keep [] H (upd (upd (upd (upd H p1 (.tup (rowV r1))) p2 (.tup (rowV r2))) p3 (.tup (rowV r3))) p4 (.tup [.ref p1, .ref p2, .ref p3])) ∧ RowsT (upd (upd (upd (upd H p1 (.tup (rowV r1))) p2 (.tup (rowV r2))) p3 (.tup (rowV r3))) p4 (.tup [.ref p1, .ref p2, .ref p3])) p4 [r1, r2, r3] := by
  have k1 : Keep [] H _ := Keep.new h1 (o := .tup (rowV r1))
  have k2 : Keep [] _ _ := Keep.new h2 (o := .tup (rowV r2))
  have k3 : Keep [] _ _ := Keep.new h3 (o := .tup (rowV r3))
  have k4 : Keep [] _ _ := Keep.new h4 (o := .tup [.ref p1, .ref p2, .ref p3])
  exact ⟨((k1.trans k2).trans k3).trans k4, _, upd_same, .cons (RowA.keep (show RowA _ p1 r1 from upd_same) ((k2.trans k3).trans k4)) (.cons (RowA.keep (show RowA _ p2 r2 from upd_same) (k3.trans k4)) (.cons (RowA.keep (show RowA _ p3 r3 from upd_same) k4) .nil))⟩
section
variable {P : Program} {w : World} {K : PySem.W.Frag} {mg : Str → Option Value} {base : Heap}
theorem D__law_counter (F : Fx K mg) : Dn P w K mg base 4 "_law_counter" ["_law_deck_here", "_law_steps"] spCtr := by
  refine dn_mk F.f__law_counter F.g__law_counter sc__law_counter (fun _ _ _ _ _ _ us hl => match us, hl with | [_, _], _ => rfl) (by rintro vs H Q E ⟨_, _, _, _, rfl, _⟩; rfl) ?_
  rintro cdv A outer s H vs Q E hr ⟨d, q, m, T, rfl, dk, T1, T10, h⟩
  refine ⟨_, (pss_cons (ps_set (i := 2) sc__law_counter.nd rfl (by first | exact .inl rfl | exact .inr rfl) (pe_op op_add pe_int (sk_call (D__law_draw F) hr (pa_cons (pv 0) (pa_cons pe_int pa_nil)))))
    (pss_cons (ps_set (i := 3) sc__law_counter.nd rfl (by first | exact .inl rfl | exact .inr rfl) (pe_tup (pa_cons (pe_tup (pa_cons pe_str (pa_cons pe_int (pa_cons pe_int pa_nil)))) (pa_cons (pe_tup (pa_cons pe_str (pa_cons pe_int (pa_cons (pe_callB (call_max2 rfl) (by rfl) F.b_max bt_max (pa_cons pe_int (pa_cons (pe_op op_sub (pv 1) pe_int) pa_nil))) pa_nil)))) (pa_cons (pe_tup (pa_cons pe_str (pa_cons pe_int (pa_cons pe_int (pa_cons pe_int pa_nil))))) pa_nil)))))
    (pss_cons (ps_par (i := 4) (j := 5) rfl sc__law_counter.nd rfl rfl (by decide) rfl rfl (pa_cons (sk_call (D__law_draw F) hr (pa_cons (pv 0) (pa_cons pe_int pa_nil))) (pa_cons (sk_call (D__law_draw F) hr (pa_cons (pv 0) (pa_cons pe_int pa_nil))) pa_nil)) (by rfl))
    (pss_cons (ps_set (i := 5) sc__law_counter.nd rfl (by first | exact .inl rfl | exact .inr rfl) (pe_ifExp (pt_cmpR op_eq (pv 5) (pv 4) (nomark _)) (pe_op op_modN (pe_op op_add (pv 4) pe_int) pe_int) (pv 5)))
    (pss_cons (ps_set (i := 6) sc__law_counter.nd rfl (by first | exact .inl rfl | exact .inr rfl) (pe_tup (pa_cons (pe_tup (pa_cons pe_str (pa_cons (pv 4) (pa_cons pe_int pa_nil)))) (pa_cons (pe_tup (pa_cons pe_str (pa_cons (pv 5) (pa_cons pe_int pa_nil)))) (pa_cons (pe_tup (pa_cons pe_str (pa_cons (pv 4) (pa_cons (pv 4) (pa_cons (pv 5) pa_nil))))) pa_nil)))))
    (pss_cons (ps_set (i := 7) sc__law_counter.nd rfl (by first | exact .inl rfl | exact .inr rfl) (pe_op op_cat (pe_lst (pa_cons (pe_tup (pa_cons (pv 3) (pa_cons pe_int pa_nil))) (pa_cons (pe_tup (pa_cons (pv 6) (pa_cons (pv 4) pa_nil))) pa_nil))) (pe_lc (own := [("_law_k", 8)]) rfl sc__law_counter.nd (pi_range1 (by rfl) F.b_range (pa_cons (pe_op op_sub (pv 2) pe_int) pa_nil)) (blkOk_by (own := [("_law_k", 8)]) (N := ["_law_deck_here", "_law_steps", "_law_n", "_law_done", "_law_one", "_law_other", "_law_more", "_law_found", "_law_k"]) (sc := defScope s__law_counter) (by decide +kernel)) (fun _ _ _ _ _ => (pg_name (i := 8) sc__law_counter.nd rfl (by first | exact .inl rfl | exact .inr rfl))) (fun _ _ _ _ _ => pts_nil) (fun _ _ _ _ _ => (sk_call (D__law_recipe F) hr (pa_cons (pv 0) (pa_cons (pv 2) pa_nil)))))))
    (pss_one (ps_ret (pe_tup (pa_cons (pe_callTy call_tuple_of (by rfl) F.b_tuple bt_tuple (pa_cons (pv 7) pa_nil)) (pa_cons (pe_op op_catA (pe_tup (pa_cons (pe_callTy call_int1 (by rfl) F.b_int bt_int (pa_cons (pe_cmpR op_eq (pv 1) pe_int (nomark _)) pa_nil)) (pa_cons pe_int pa_nil))) (pe_callTy call_tuple_of (by rfl) F.b_tuple bt_tuple (pa_cons (pe_lc (own := [("_law_k", 8)]) rfl sc__law_counter.nd (pi_range1 (by rfl) F.b_range (pa_cons (pe_op op_sub (pv 2) pe_int) pa_nil)) (blkOk_by (own := [("_law_k", 8)]) (N := ["_law_deck_here", "_law_steps", "_law_n", "_law_done", "_law_one", "_law_other", "_law_more", "_law_found", "_law_k"]) (sc := defScope s__law_counter) (by decide +kernel)) (fun _ _ _ _ _ => (pg_name (i := 8) sc__law_counter.nd rfl (by first | exact .inl rfl | exact .inr rfl))) (fun _ _ _ _ _ => pts_nil) (fun _ _ _ _ _ => (sk_call (D__law_draw F) hr (pa_cons (pv 0) (pa_cons pe_int pa_nil))))) pa_nil))) pa_nil))))))))))), ?_⟩
  refine rd_seq fun D1 k1 r1 => ?_
  trivial
  refine draw_at (lim := 3) dk (by decide) (by decide) fun a H1 a3 dk1 kp1 => ⟨_, rfl, k1 _ _ ?_⟩
  clear k1
  refine rd_seq fun D2 k2 r2 => ?_
  trivial
  refine ⟨by decide, fun p1 hp1 => ⟨by decide, fun p2 hp2 => ⟨by decide, fun p3 hp3 => ⟨by decide, fun p4 hp4 => k2 _ _ ?_⟩⟩⟩⟩
  clear k2
  refine rd_seq fun D3 k3 r3 => ?_
  trivial
  obtain ⟨q1, q2⟩ := rows3 (.load 0 1) (.set 1 (if (T : Int) - 1 > 0 then (T : Int) - 1 else 0)) (.op .same 0 0 1) hp1 hp2 hp3 hp4
  show spDraw _ (upd (upd (upd (upd H1 p1 (.tup (rowV (.load 0 1)))) p2 (.tup (rowV (.set 1 (if (T : Int) - 1 > 0 then (T : Int) - 1 else 0))))) p3 (.tup (rowV (.op .same 0 0 1)))) p4 (.tup [.ref p1, .ref p2, .ref p3])) _ _
  generalize upd (upd (upd (upd H1 p1 (.tup (rowV (.load 0 1)))) p2 (.tup (rowV (.set 1 (if (T : Int) - 1 > 0 then (T : Int) - 1 else 0))))) p3 (.tup (rowV (.op .same 0 0 1)))) p4 (.tup [.ref p1, .ref p2, .ref p3]) = H2 at q1 q2 ⊢
  have kp2 := kp1.trans q1.nil
  have dk2 := dk1.keep q1 (by simp) (by simp)
  have e : (if (T : Int) - 1 > 0 then (T : Int) - 1 else 0) = ((T - 1 : Nat) : Int) := by split <;> omega
  rw [e] at q2
  clear hp1 hp2 hp3 hp4 e q1 dk1 kp1
  refine draw_at (lim := 24) dk2 (by decide) (by decide) fun one H3 o24 dk3 kp3 => draw_at (lim := 24) dk3 (by decide) (by decide) fun oth H4 t24 dk4 kp4 => k3 _ _ ?_
  clear k3
  have kp34 := kp3.trans kp4
  have q3 := q2.keep kp34
  have kp5 := kp2.trans kp34
  clear kp2 dk2 kp3 dk3 kp4 q2 kp34
  refine rd_seq fun D4 k4 r4 => ?_
  trivial
  suffices key : ∀ ot : Nat, ot < 24 → ot ≠ one → D4.nx [some (V.ref d), some (V.int T), some (V.int (2 + a)), some (V.ref p4), some (V.int one), some (V.int ot), none, none, none] H4 by
    split
    · refine ⟨by decide, ?_⟩
      have e : ((one : Int) + 1).fmod 24 = ((one + 1) % 24 : Nat) := by
        rw [Int.fmod_eq_emod_of_nonneg _ (by decide)]
        omega
      rw [e]
      exact key _ (by omega) (by omega)
    · exact key oth t24 (by omega)
  intro ot ot24 oto
  refine k4 _ _ ?_
  clear k4 t24 oth
  refine rd_seq fun D5 k5 r5 => ?_
  trivial
  refine ⟨by decide, fun p1 hp1 => ⟨by decide, fun p2 hp2 => ⟨by decide, fun p3 hp3 => ⟨by decide, fun p5 hp4 => k5 _ _ ?_⟩⟩⟩⟩
  clear k5
  obtain ⟨q1, q4⟩ := rows3 (.set one 1) (.load ot 1) (.op .add one one ot) hp1 hp2 hp3 hp4
  show tSeq _ _ _ _ (upd (upd (upd (upd H4 p1 (.tup (rowV (.set one 1)))) p2 (.tup (rowV (.load ot 1)))) p3 (.tup (rowV (.op .add one one ot)))) p5 (.tup [.ref p1, .ref p2, .ref p3]))
  generalize upd (upd (upd (upd H4 p1 (.tup (rowV (.set one 1)))) p2 (.tup (rowV (.load ot 1)))) p3 (.tup (rowV (.op .add one one ot)))) p5 (.tup [.ref p1, .ref p2, .ref p3]) = H5 at q1 q4 ⊢
  have kp6 := kp5.trans q1.nil
  have dk6 := dk4.keep q1 (by simp) (by simp)
  have q5 := q3.keep q1
  clear hp1 hp2 hp3 hp4 q1 dk4 kp5 q3
  refine rd_seq fun D6 k6 r6 => ?_
  trivial
  refine ⟨by decide, fun b1 hb1 => ⟨by decide, fun b2 hb2 => ⟨by decide, fun b3 hb3 => ?_⟩⟩⟩
  have kb1 : Keep [] H5 _ := Keep.new hb1 (o := .tup [V.ref p4, V.int 0])
  have kb2 : Keep [] _ _ := Keep.new hb2 (o := .tup [V.ref p5, V.int one])
  have kb3 : Keep [] _ _ := Keep.new hb3 (o := .lst [V.ref b1, V.ref b2])
  have l3 : upd (upd (upd H5 b1 (HO.tup [V.ref p4, V.int 0])) b2 (HO.tup [V.ref p5, V.int one])) b3 (HO.lst [V.ref b1, V.ref b2]) b3 = some (.lst [V.ref b1, V.ref b2]) := upd_same
  have kb := (kb1.trans kb2).trans kb3
  have ea : RecA (upd (upd (upd H5 b1 (HO.tup [V.ref p4, V.int 0])) b2 (HO.tup [V.ref p5, V.int one])) b3 (HO.lst [V.ref b1, V.ref b2])) b1 ([.load 0 1, .set 1 ((T - 1 : Nat) : Int), .op .same 0 0 1], 0) := ⟨p4, (kb2.trans kb3).t _ _ upd_same, q5.keep kb⟩
  have eb : RecA (upd (upd (upd H5 b1 (HO.tup [V.ref p4, V.int 0])) b2 (HO.tup [V.ref p5, V.int one])) b3 (HO.lst [V.ref b1, V.ref b2])) b2 ([.set one 1, .load ot 1, .op .add one one ot], one) := ⟨p5, kb3.t _ _ upd_same, q4.keep kb⟩
  have kp7 := kp6.trans kb.nil
  have dk7 := dk6.keep kb (by simp) (by simp)
  generalize upd (upd (upd H5 b1 (HO.tup [V.ref p4, V.int 0])) b2 (HO.tup [V.ref p5, V.int one])) b3 (HO.lst [V.ref b1, V.ref b2]) = H6 at ea eb l3 kp7 dk7 ⊢
  clear hb1 hb2 hb3 kb1 kb2 kb3 kb q4 q5 kp6 dk6
  refine ⟨_, rfl, _, _, rfl, rfl, (2 + a : Int) - 2, rfl, by omega, by omega, fun D hD => ?_⟩
  rw [show ((2 + a : Int) - 2).toNat = a from by omega]
  have dq : D ∉ [d, q] := Deck.ne dk7 hD
  have bq : b3 ∉ [d, q] := by
    obtain ⟨c, x, ns, y1, y2, _⟩ := dk7
    intro z
    rcases List.mem_cons.mp z with rfl | z
    · rw [y1] at l3; cases l3
    · rcases List.mem_cons.mp z with rfl | z
      · rw [y2] at l3
        cases ns with
        | nil => cases l3
        | cons n ns => cases l3
      · cases z
  refine lc_range (lo := 0) (n := a) (fun i H' => Keep [d, q] H6 H' ∧ DeckA H' d q (m + 997 - 100 * i) ∧ ∃ us recs, H' D = some (.lst us) ∧ Each (RecA H') us recs ∧ recs.length = i ∧ ∀ r ∈ recs, RecOk (2 + a) r ∧ r.1.length ≤ 4) ⟨Keep.new hD, dk7.keep (Keep.new hD (S := [])) (by simp) (by simp), [], [], upd_same, .nil, rfl, by simp⟩ ?_ ?_
  · rintro i H' hi ⟨c1, c2, us, recs, c3, c4, c5, c6⟩
    refine ⟨rfl, ?_⟩
    simp only [tYes, if_true]
    obtain ⟨M, hM⟩ : ∃ M, m + 997 - 100 * i = M + 100 := ⟨m + 897 - 100 * i, by omega⟩
    rw [hM] at c2
    refine ⟨_, rfl, _, rfl, d, q, M, 2 + a, by push_cast; rfl, c2, by omega, by omega, fun p r H7 r1 r2 r3 r4 r5 => ?_⟩
    refine ⟨us, r5.o _ _ c3 dq, line6 (by rw [c4.len]; omega), ?_⟩
    have kz : Keep [D] H7 (upd H7 D (.lst (us ++ [.ref p]))) := Keep.at (r5.o _ _ c3 dq) rfl (by simp)
    refine ⟨(c1.trans r5).over hD, ?_, _, recs ++ [r], upd_same, (c4.mono fun _ _ z => RecA.keep (RecA.keep z r5) kz).append (Each.one (RecA.keep r3 kz)), by simp [c5], ?_⟩
    · have z : m + 997 - 100 * (i + 1) = M := by omega
      rw [z]
      simp only [List.mem_cons, List.not_mem_nil, or_false, not_or] at dq
      exact r4.keep kz (by simp; exact dq.1 ∘ Eq.symm) (by simp; exact dq.2 ∘ Eq.symm)
    · intro x hx
      rcases List.mem_append.mp hx with hx | hx
      · exact c6 x hx
      · rw [List.mem_singleton.mp hx]
        exact ⟨r1, r2⟩
  · rintro H' ⟨c1, c2, us, recs, c3, c4, c5', c6⟩
    refine ⟨_, rfl, _, c1.o _ _ l3 bq, us, c3, line5 (by have := c4.len; simp; omega), fun p hp => k6 _ _ ?_⟩
    clear k6
    have kp8 := (kp7.trans c1).trans (Keep.new hp (o := .lst ([V.ref b1, V.ref b2] ++ us)))
    have dk8 := c2.keep (Keep.new hp (o := .lst ([V.ref b1, V.ref b2] ++ us)) (S := [])) (by simp) (by simp)
    have c7 : Each (RecA (upd H' p (.lst ([V.ref b1, V.ref b2] ++ us)))) ([V.ref b1, V.ref b2] ++ us) (([.load 0 1, .set 1 ((T - 1 : Nat) : Int), .op .same 0 0 1], 0) :: ([.set one 1, .load ot 1, .op .add one one ot], one) :: recs) :=
      .cons ((ea.keep c1).keep (Keep.new hp (S := []))) (.cons ((eb.keep c1).keep (Keep.new hp (S := []))) (c4.mono fun _ _ z => RecA.keep z (Keep.new hp (S := []))))
    have c8 : upd H' p (.lst ([V.ref b1, V.ref b2] ++ us)) p = some (.lst ([V.ref b1, V.ref b2] ++ us)) := upd_same
    have ul := c4.len
    generalize upd H' p (.lst ([V.ref b1, V.ref b2] ++ us)) = H8 at kp8 dk8 c7 c8 ⊢
    generalize hL : [V.ref b1, V.ref b2] ++ us = L at c7 c8
    clear c1 c2 c3 c4 hp dk7 kp7 ea eb l3 hD dq bq
    trivial
    refine ⟨L, .inl ⟨SqL.of c8, fun rp hrp => .inr ⟨by decide, fun bp hbp => ?_⟩⟩⟩
    rw [if_neg (show ¬ (T : Int) = 0 from by omega)]
    have kr : Keep [] H8 (upd H8 rp (.tup L)) := Keep.new hrp
    have kb : Keep [] (upd H8 rp (.tup L)) (upd (upd H8 rp (.tup L)) bp (.tup [V.int 0, V.int 0])) := Keep.new hbp
    have e1 : RecsA (upd (upd H8 rp (.tup L)) bp (.tup [V.int 0, V.int 0])) rp (([.load 0 1, .set 1 ((T - 1 : Nat) : Int), .op .same 0 0 1], 0) :: ([.set one 1, .load ot 1, .op .add one one ot], one) :: recs) :=
      ⟨L, kb.t _ _ upd_same, c7.mono fun _ _ z => (RecA.keep z kr).keep kb⟩
    have e2 : upd (upd H8 rp (.tup L)) bp (.tup [V.int 0, V.int 0]) bp = some (.tup [V.int 0, V.int 0]) := upd_same
    have kp9 := kp8.trans (kr.trans kb).nil
    have dk9 := dk8.keep (kr.trans kb) (by simp) (by simp)
    generalize upd (upd H8 rp (.tup L)) bp (.tup [V.int 0, V.int 0]) = H9 at e1 e2 kp9 dk9 ⊢
    clear hrp hbp kr kb kp8 dk8 c7 c8 hL
    refine ⟨_, rfl, _, _, rfl, rfl, (2 + a : Int) - 2, rfl, by omega, by omega, fun D hD => ?_⟩
    rw [show ((2 + a : Int) - 2).toNat = a from by omega]
    have dq : D ∉ [d, q] := Deck.ne dk9 hD
    refine lc_range (lo := 0) (n := a) (fun i H' => Keep [d, q] H9 H' ∧ DeckA H' d q (m + 500 - i) ∧ ∃ us : List Int, H' D = some (.lst (us.map V.int)) ∧ us.length = i ∧ ∀ x ∈ us, 0 ≤ x ∧ x < 1000000) ⟨Keep.new hD, (dk9.keep (Keep.new hD (S := [])) (by simp) (by simp)).less (by omega), [], upd_same, rfl, by simp⟩ ?_ ?_
    · rintro i H' hi ⟨c1, c2, us, c3, c4, c5⟩
      refine ⟨rfl, ?_⟩
      simp only [tYes, if_true]
      obtain ⟨M, hM⟩ : ∃ M, m + 500 - i = M + 1 := ⟨m + 499 - i, by omega⟩
      rw [hM] at c2
      refine ⟨_, rfl, d, q, M, 1000000, rfl, c2, by decide, by decide, fun x H7 x0 x1 r4 r5 => ?_⟩
      refine ⟨_, r5.o _ _ c3 dq, line6 (by simp; omega), ?_⟩
      have kz : Keep [D] H7 (upd H7 D (.lst (us.map V.int ++ [.int x]))) := Keep.at (r5.o _ _ c3 dq) rfl (by simp)
      refine ⟨(c1.trans r5).over hD, ?_, us ++ [x], by rw [upd_same, List.map_append]; rfl, by simp [c4], ?_⟩
      · have z : m + 500 - (i + 1) = M := by omega
        rw [z]
        simp only [List.mem_cons, List.not_mem_nil, or_false, not_or] at dq
        exact r4.keep kz (by simp; exact dq.1 ∘ Eq.symm) (by simp; exact dq.2 ∘ Eq.symm)
      · intro y hy
        rcases List.mem_append.mp hy with hy | hy
        · exact c5 y hy
        · rw [List.mem_singleton.mp hy]
          exact ⟨x0, x1⟩
    · rintro H' ⟨c1, c2, us, c3, c4, c5⟩
      refine ⟨_, rfl, _, .inl ⟨SqL.of c3, fun l hl => ?_⟩⟩
      have kl : Keep [] H' (upd H' l (.tup (us.map V.int))) := Keep.new hl
      have f1 := (e1.keep c1).keep kl
      have f2 : upd H' l (.tup (us.map V.int)) bp = some (.tup ([0, 0].map V.int)) := kl.t _ _ (c1.t _ _ e2)
      have kp10 := (kp9.trans c1).trans kl.nil
      have dk10 := (c2.keep kl (by simp) (by simp)).less (m' := m) (by omega)
      have f3 : upd H' l (.tup (us.map V.int)) l = some (.tup (us.map V.int)) := upd_same
      generalize upd H' l (.tup (us.map V.int)) = H10 at f1 f2 kp10 dk10 f3 ⊢
      have fin : ∀ (st : Addr) (H11 : Hp), Keep [] H10 H11 → StA H11 st ([0, 0] ++ us) → 2 ≤ sizeLine ∧ ∀ (p : Addr), H11 p = none → Q (V.ref p) (upd H11 p (HO.tup [V.ref rp, .ref st])) := by
        intro st H11 k11 hst
        refine ⟨by decide, fun p hp => ?_⟩
        have kz : Keep [] H10 (upd H11 p (.tup [V.ref rp, .ref st])) := k11.trans (Keep.new hp)
        refine h (2 + a) p rp st _ ([0, 0] ++ us) _ (by omega) (by omega) (f1.keep kz) (by simp [c5']; omega) ?_ (hst.keep (Keep.new hp (S := []))) (by simp; omega) ?_ ?_ ?_ upd_same (dk10.keep kz (by simp) (by simp)) (kp10.trans kz.nil)
        · intro r hr
          rcases List.mem_cons.mp hr with rfl | hr
          · exact ⟨done_ok (by omega) T10, by show 3 ≤ 4; decide⟩
          rcases List.mem_cons.mp hr with rfl | hr
          · exact ⟨more_ok (by omega) o24 ot24, by show 3 ≤ 4; decide⟩
          · exact c6 r hr
        · intro x hx
          rcases List.mem_append.mp hx with hx | hx
          · have : x = 0 := by simpa using hx
            omega
          · exact c5 x hx
        · intro c hc
          have z := (count_law (T := T) (one := one) (ot := ot) recs us oto T1 T10 c (by omega)).2
          rw [if_neg (by omega)] at z
          exact z
        · have z := (count_law (T := T) (one := one) (ot := ot) recs us oto T1 T10 T (by omega)).2
          rw [if_pos rfl] at z
          intro y
          have : (1 : Int) = 0 := z.symm.trans y
          omega
      refine ⟨bp, l, [0, 0].map V.int, us.map V.int, rfl, rfl, SqT.of f2, SqT.of f3, line5 (by simp; omega), fun z => by simp at z, fun _ z => ?_, fun _ _ st hst => ?_⟩
      · have : us = [] := by simpa using z
        subst this
        exact fin bp H10 (Keep.refl _ _) f2
      · exact fin st _ (Keep.new hst) (by show upd _ _ _ _ = _; rw [upd_same, List.map_append])
end
end Wk
end

section
set_option Elab.async false
set_option linter.all false
set_option maxRecDepth 100000
set_option maxHeartbeats 4000000
/-! rules of its own: dicts whose keys are pairs (count, state) -/
namespace Wk
open PySem PySem.Spec PyProof.Rows L2
abbrev Pk := Int × List Int
def nk (k : Pk) : NestedKey := .tup [.num k.1, .tup (k.2.map .num)]
theorem nums_inj : ∀ {a b : List Int}, a.map NestedKey.num = b.map NestedKey.num → a = b
  | [], [], _ => rfl
  | [], _ :: _, h => by cases h
  | _ :: _, [], h => by cases h
  | x :: a, y :: b, h => by
    injection h with h1 h2
    injection h1 with h1
    rw [h1, nums_inj h2]
theorem nk_inj {a b : Pk} (h : nk a = nk b) : a = b := by
  obtain ⟨a1, a2⟩ := a
  obtain ⟨b1, b2⟩ := b
  injection h with h
  injection h with h1 h
  injection h1 with h1
  injection h with h2 _
  injection h2 with h2
  obtain rfl : a1 = b1 := h1
  obtain rfl : a2 = b2 := nums_inj h2
  rfl
theorem nk_dec (a b : Pk) : decide (nk a = nk b) = decide (a = b) := by
  by_cases e : a = b
  · subst e; simp
  · rw [decide_eq_false e, decide_eq_false fun q => e (nk_inj q)]
def pairKind (P : Program) (w : World) : HeapKind P w Pk where
  is := fun h k a => (nestedKind P w).is h (nk k) a
  hash := fun k => (nestedKind P w).hash (nk k)
  draws := fun k => (nestedKind P w).draws (nk k)
  room := (nestedKind P w).room
  inj := fun hx hy => nk_inj ((nestedKind P w).inj hx hy)
  keeps := fun x ho hd hs => (nestedKind P w).keeps x ho hd hs
  pyHash := fun hu hk h => (nestedKind P w).pyHash hu hk h
  eqBool := fun hu hx hy h => (nestedKind P w).eqBool hu hx hy (by rw [nk_dec]; exact h)
  quiet := fun hk h => (nestedKind P w).quiet hk h
/-- at p a pair: a number, a tuple of numbers -/
def PairA (H : Hp) (p : Addr) (k : Pk) : Prop := ∃ q, H p = some (.tup [.int k.1, .ref q]) ∧ StA H q k.2
theorem PairA.keep {S : List Addr} {H H' : Hp} {p : Addr} {k : Pk} (h : PairA H p k) (kp : Keep S H H') : PairA H' p k := by
  obtain ⟨q, h1, h2⟩ := h
  exact ⟨q, kp.t _ _ h1, h2.keep kp⟩
theorem all_nums {h : Heap} : ∀ {st : List Int} {us : List Value}, Vals (st.map V.int) us → NestedAll h (st.map .num) us
  | [], _, r => by cases r; exact .nil
  | x :: st, _, r => by
    cases r with
    | cons r1 r2 =>
      obtain ⟨t, rfl⟩ := r1
      exact .cons (.int x t) (all_nums r2)
theorem depth_nums : ∀ st : List Int, NestedKey.depthAll (st.map .num) = 0
  | [] => by simp [NestedKey.depthAll]
  | x :: st => by
    show NestedKey.depthAll (.num x :: st.map .num) = 0
    rw [NestedKey.depthAll, depth_nums st]
    simp [NestedKey.depth]
section
variable {P : Program} {w : World} {H : Hp} {h : Heap} {p : Addr} {k : Pk}
theorem tup_of {xs : List V} (ok : HOk P w H h) (e : H p = some (.tup xs)) : ∃ (us : List Value) (o : Obj) (n : Nat), Vals xs us ∧ h.get? p = some o ∧ o.cls = .type "tuple" ∧ o.data = .seq us.toArray n := by
  obtain ⟨_, us, r, o, h1, h2, n, h3⟩ := (show ObjOk P w H h p (.tup xs) from ok p _ e)
  exact ⟨us, o, n, r, h1, h2, h3⟩
theorem pair_is (ok : HOk P w H h) (g : PairA H p k) : (pairKind P w).is h k p := by
  obtain ⟨q, h1, h2⟩ := g
  obtain ⟨us, o, n, r, g1, g2, g3⟩ := tup_of ok h1
  obtain ⟨vs, o', n', r', e1, e2, e3⟩ := tup_of ok (show H q = some (.tup (k.2.map V.int)) from h2)
  cases r with
  | cons ra rb =>
    obtain ⟨t, rfl⟩ := ra
    cases rb with
    | cons rc rd =>
      cases rd
      cases rc
      refine ⟨.tup g1 g2 g3 (.cons (.int k.1 t) (.cons (.tup e1 e2 e3 (by simpa using all_nums r')) .nil)), ?_⟩
      simp only [nk, NestedKey.depth, NestedKey.depthAll, depth_nums]
      omega
end
/-! ### the dict -/
abbrev PdL := List (Pk × Addr × Int)
def valP (L : PdL) (k : Pk) : Option Int := (L.find? fun l => decide (l.1 = k)).map (·.2.2)
def putP (L : PdL) (k : Pk) (a : Addr) (n : Int) : PdL := if (valP L k).isSome then L.map (fun l => if l.1 = k then (l.1, l.2.1, n) else l) else L ++ [(k, a, n)]
abbrev PdRel : PdL → List (Pk × Addr × Value) → Prop := Paired fun l x => x.1 = l.1 ∧ x.2.1 = l.2.1 ∧ ∃ t, x.2.2 = .int l.2.2 t
theorem PdRel.val {L : PdL} {xs : List (Pk × Addr × Value)} (r : PdRel L xs) (k : Pk) : (valP L k = none ∧ atKey xs k = none) ∨ ∃ n a t, valP L k = some n ∧ atKey xs k = some (a, .int n t) := by
  induction r with
  | nil => exact .inl ⟨rfl, rfl⟩
  | @cons l x L xs h t ih =>
    obtain ⟨h1, h2, u, h3⟩ := h
    by_cases e : l.1 = k
    · refine .inr ⟨l.2.2, x.2.1, u, by simp [valP, e], ?_⟩
      have e' : x.1 = k := h1.trans e
      simp only [atKey, List.find?_cons, e', decide_true, Option.map_some]
      rw [← h3]
    · have e' : ¬ x.1 = k := fun z => e (h1.symm.trans z)
      have a1 : valP (l :: L) k = valP L k := by simp [valP, e]
      have a2 : atKey (x :: xs) k = atKey xs k := by simp [atKey, e']
      rw [a1, a2]
      exact ih
theorem PdRel.put {L : PdL} {xs : List (Pk × Addr × Value)} (r : PdRel L xs) (k : Pk) (a : Addr) (n : Int) (t : Tok) : PdRel (putP L k a n) (storedH xs k a (.int n t)) := by
  have e : (valP L k).isSome = (atKey xs k).isSome := by
    rcases r.val k with ⟨a1, a2⟩ | ⟨_, _, _, a1, a2⟩ <;> rw [a1, a2] <;> rfl
  unfold putP storedH
  rw [e]
  split
  · rename_i hs
    clear e hs
    induction r with
    | nil => exact .nil
    | @cons l x L xs h t' ih =>
      rw [List.map_cons, List.map_cons]
      refine .cons ?_ ih
      obtain ⟨h1, h2, u, h3⟩ := h
      unfold putAt
      by_cases q : l.1 = k
      · rw [if_pos q, if_pos (h1.trans q)]
        exact ⟨h1, h2, t, rfl⟩
      · rw [if_neg q, if_neg fun z => q (h1.symm.trans z)]
        exact ⟨h1, h2, u, h3⟩
  · exact Paired.snoc r ⟨rfl, rfl, t, rfl⟩
theorem putP_len (L : PdL) (k : Pk) (a : Addr) (n : Int) : (putP L k a n).length ≤ L.length + 1 := by
  unfold putP
  split <;> simp
theorem putP_mem {L : PdL} {k : Pk} {a : Addr} {n : Int} {l : Pk × Addr × Int} (h : l ∈ putP L k a n) : (l.1 = k ∧ l.2.1 = a) ∨ ∃ l' ∈ L, l'.1 = l.1 ∧ l'.2.1 = l.2.1 := by
  unfold putP at h
  split at h
  · obtain ⟨l', h1, h2⟩ := List.mem_map.mp h
    refine .inr ⟨l', h1, ?_⟩
    rw [← h2]
    split <;> exact ⟨rfl, rfl⟩
  · rcases List.mem_append.mp h with h | h
    · exact .inr ⟨l, h, rfl, rfl⟩
    · rw [List.mem_singleton.mp h]
      exact .inl ⟨rfl, rfl⟩
theorem valP_put (L : PdL) (k j : Pk) (a : Addr) (n : Int) : valP (putP L k a n) j = if j = k then some n else valP L j := by
  have key : ∀ L : PdL, valP (L.map fun l => if l.1 = k then (l.1, l.2.1, n) else l) j = if j = k then (valP L j).map (fun _ => n) else valP L j := by
    intro L
    induction L with
    | nil => simp [valP]
    | cons l L ih =>
      rw [List.map_cons]
      by_cases e : l.1 = j
      · subst e
        by_cases q : l.1 = k
        · simp [valP, q]
        · simp [valP, q]
      · have a1 : valP (l :: L) j = valP L j := by simp [valP, e]
        rw [a1, ← ih]
        by_cases q : l.1 = k
        · rw [if_pos q]; simp [valP, e]
        · rw [if_neg q]; simp [valP, e]
  unfold putP
  by_cases s : (valP L k).isSome = true
  · rw [if_pos s, key]
    split
    · rename_i e
      subst e
      obtain ⟨z, hz⟩ := Option.isSome_iff_exists.mp s
      rw [hz]; rfl
    · rfl
  · rw [if_neg s]
    have s' : valP L k = none := by simpa using s
    have key2 : ∀ L : PdL, valP (L ++ [(k, a, n)]) j = (valP L j).or (if j = k then some n else none) := by
      intro L
      induction L with
      | nil =>
        by_cases e : j = k
        · subst e; simp [valP]
        · simp [valP, e, Ne.symm e]
      | cons l L ih =>
        by_cases e : l.1 = j
        · simp [valP, e]
        · have a1 : valP (l :: L) j = valP L j := by simp [valP, e]
          have a2 : valP (l :: L ++ [(k, a, n)]) j = valP (L ++ [(k, a, n)]) j := by simp [valP, e]
          rw [a1, a2, ih]
    rw [key2]
    by_cases e : j = k
    · subst e; rw [if_pos rfl, if_pos rfl, s']; rfl
    · rw [if_neg e, if_neg e]; simp
def PdRaw (P : Program) (w : World) (h : Heap) (d : Addr) (L : PdL) : Prop := L.length ≤ sizeLine ∧ (d == sysModules) = false ∧ ∃ xs, PdRel L xs ∧
  ∃ o es ep, h.get? d = some o ∧ o.ExactDict ∧ o.data = .dict es ep ∧ es.toList = xs.map (entryOfKey (pairKind P w)) ∧ (xs.map (·.1)).Nodup
def PDO (P : Program) (w : World) (d : Addr) (L : PdL) : HO := .ext fun h => PdRaw P w h d L
/-- the dict at d may be read -/
structure PdG (P : Program) (w : World) (H : Hp) (d : Addr) (L : PdL) : Prop where
  at_ : Rd H d (PDO P w d L)
  keys : ∀ l ∈ L, PairA H l.2.1 l.1
section
variable {P : Program} {w : World} {H : Hp} {h : Heap} {d : Addr} {L : PdL}
theorem pdo_ok (x : PdRaw P w h d L) : ObjOk P w H h d (PDO P w d L) := by
  refine ⟨x, ?_, fun h1 h2 x k => ?_⟩
  · obtain ⟨_, _, _, _, o, _, _, e, _⟩ := x
    exact ⟨o, e⟩
  · obtain ⟨a, b, xs, r, o, es, ep, e, c⟩ := x
    exact ⟨a, b, xs, r, o, es, ep, k o e, c⟩
theorem PdG.full (g : PdG P w H d L) (ok : HOk P w H h) : L.length ≤ sizeLine ∧ (d == sysModules) = false ∧ ∃ xs, PdRel L xs ∧ h.DictOfH (pairKind P w) d xs := by
  obtain ⟨⟨a, b, xs, r, o, es, ep, e1, e2, e3, e4, e5⟩, _⟩ := (show ObjOk P w H h d (PDO P w d L) from g.at_.ok ok)
  refine ⟨a, b, xs, r, o, es, ep, e1, e2, e3, e4, fun x hx => ?_, e5⟩
  have all : ∀ {L : PdL} {xs : List (Pk × Addr × Value)}, PdRel L xs → (∀ l ∈ L, PairA H l.2.1 l.1) → ∀ x ∈ xs, (pairKind P w).is h x.1 x.2.1 := by
    intro L xs r
    induction r with
    | nil => intro _ x hx; cases hx
    | @cons l x L xs hl t ih =>
      intro hk y hy
      rcases List.mem_cons.mp hy with rfl | hy
      · rw [hl.1, hl.2.1]
        exact pair_is ok (hk l List.mem_cons_self)
      · exact ih (fun l hl => hk l (List.mem_cons_of_mem _ hl)) y hy
  exact all r g.keys x hx
end
section
variable {X : Cx} {pins : List (Addr × Obj)} {σ : L2.St} {H : Hp} {s : Shared} {d p : Addr} {k : Pk} {L : PdL} {A : Around} {E : Value → Shared → Prop}
theorem p_getItem {n : Int} {Q : Value → Shared → Prop} (hu : (pairKind X.prog X.w).room A.in1) (I : Inv X pins σ H s) (g : PdG X.prog X.w H d L) (hp : PairA H p k) (hv : valP L k = some n) (h : ∀ t s', Inv X pins σ H s' → Q (.int n t) s') :
    wpAny (model X.prog X.w) A (getItem (.ref d) (.ref p)) Q E s := by
  obtain ⟨_, _, xs, r, hm⟩ := g.full I.hok
  rcases r.val k with ⟨a1, _⟩ | ⟨m, a, t, a1, a2⟩
  · rw [a1] at hv; cases hv
  · rw [a1] at hv
    cases hv
    exact wpAny_getItem_heap hu (pair_is I.hok hp) hm a2 (h t _ (I.tok _))
theorem p_get2 {n : Int} {tn : Tok} {Q : Value → Shared → Prop} (hu : (pairKind X.prog X.w).room A.in1) (I : Inv X pins σ H s) (g : PdG X.prog X.w H d L) (hp : PairA H p k) (h : ∀ t s', Inv X pins σ H s' → Q (.int ((valP L k).getD n) t) s') :
    wpAny (model X.prog X.w) A (call (.builtin "dict.get") [.ref d, .ref p, .int n tn]) Q E s := by
  obtain ⟨_, hd, xs, r, hm⟩ := g.full I.hok
  refine call_meetsIn PySem.F.slot_dict_get hm.typeIs PySem.F.entry_dict_get (PySem.F.args_dict_get_3 _ _ _) (meetsH_dict_get_default (pairKind X.prog X.w) d p hd (.int n tn)) ⟨hu, k, xs, pair_is I.hok hp, hm, ?_⟩
  rcases r.val k with ⟨a1, a2⟩ | ⟨m, a, t, a1, a2⟩
  · rw [a2]
    have := fun s' J => h tn s' J
    rw [a1] at this
    exact this _ (I.tok _)
  · rw [a2]
    have := fun s' J => h t s' J
    rw [a1] at this
    exact this _ (I.tok _)
theorem p_setItem {n : Int} {tn : Tok} {Q : Unit → Shared → Prop} (hu : (pairKind X.prog X.w).room A.in1) (I : Inv X pins σ H s) (e : H d = some (PDO X.prog X.w d L)) (ks : ∀ l ∈ L, PairA H l.2.1 l.1) (hp : PairA H p k) (hz : L.length < sizeLine)
    (h : ∀ s', Inv X pins σ (upd H d (PDO X.prog X.w d (putP L k p n))) s' → Q () s') : wpAny (model X.prog X.w) A (setItem (.ref d) (.ref p) (.int n tn)) Q E s := by
  obtain ⟨z, hd, xs, r, hm⟩ := (PdG.mk (.inl e) ks).full I.hok
  have hx : xs.length ≤ sizeLine := by rw [← Paired.length r]; exact z
  refine wpAny_setItem_heap (hsz := hx) hu (pair_is I.hok hp) hm fun h' dd hs => h _ ?_
  obtain ⟨q, es, ep, hq, h2, h3, h4, _, h5⟩ := dd
  have hl := putP_len L k p n
  exact d_write I (by rw [e]; exact True.intro) hs ⟨q, hq⟩ (pdo_ok ⟨by omega, hd, _, r.put k p n tn, q, es, ep, hq, h2, h3, h4, h5⟩)
end
/-! ### readings, rules -/
def tPGet (P : Program) (w : World) (td ty : TE) : TE := fun σ H Q => td σ H fun x H1 => ty σ H1 fun y H2 => ∃ d p k L n, x = .ref d ∧ y = .ref p ∧ PdG P w H2 d L ∧ PairA H2 p k ∧ valP L k = some n ∧ Q (.int n) H2
def tPGet2 (P : Program) (w : World) (td ty tx : TE) : TE := fun σ H Q => td σ H fun x H1 => ∃ d L, x = .ref d ∧ PdG P w H1 d L ∧ ty σ H1 fun y H2 => tx σ H2 fun z H3 => ∃ L' p k n, y = .ref p ∧ z = .int n ∧ PdG P w H3 d L' ∧ PairA H3 p k ∧ Q (.int ((valP L' k).getD n)) H3
def sPPut (P : Program) (w : World) (td ty tv : TE) : TS := fun D σ H => tv σ H fun v H1 => td σ H1 fun x H2 => ty σ H2 fun y H3 => ∃ d p k L n, v = .int n ∧ x = .ref d ∧ y = .ref p ∧ H3 d = some (PDO P w d L) ∧ (∀ l ∈ L, PairA H3 l.2.1 l.1) ∧ PairA H3 p k ∧ L.length < sizeLine ∧ D.nx σ (upd H3 d (PDO P w d (putP L k p n)))
def tPNew (P : Program) (w : World) : TE := fun _ H Q => ∀ p, H p = none → Q (.ref p) (upd H p (PDO P w p []))
section
variable {X : Cx} {o i e f value : Expr} {pos pos' apos cpos : Pos} {td ty tv tx : TE} {k : Nat}
theorem pair_room (hr : Room k X.A) : (pairKind X.prog X.w).room X.A.in1 := by
  show X.A.units + 1 + 8 < cLine
  have := hr.un
  omega
theorem pe_pget (hr : Room k X.A) (ho : PE X o td) (hi : PE X i ty) (hs : NoSl i) : PE X (.Subscript o i pos) (tPGet X.prog X.w td ty) := by
  refine ⟨fun pins s σ H Q I h => ?_⟩
  refine subD_of PySem.F.slot_dict_getitem.lookup hs (thn (ho.run pins s σ H _ I h) fun u s1 ⟨x, H1, I1, rx, q1⟩ => thn (hi.run pins s1 σ H1 _ I1 q1) fun iv s2 ⟨y, H2, I2, ry, d, p, kk, L, n, ex, ey, g, hp, hv, q2⟩ => ?_)
  subst ex ey
  obtain rfl : u = Value.ref d := rx
  obtain rfl : iv = Value.ref p := ry
  obtain ⟨_, _, xs, r, hm⟩ := g.full I2.hok
  exact ⟨hm.typeIs, p_getItem (pair_room hr) I2 g hp hv fun t s3 I3 => ⟨.int n, H2, I3, ⟨t, rfl⟩, q2⟩⟩
theorem pe_pget2 (hr : Room k X.A) (ho : PE X o td) (he : PE X e ty) (hf : PE X f tx) (m : M2 X o "get" apos e f cpos) : PE X (.Call (.Attribute o "get" apos) [e, f] [] cpos) (tPGet2 X.prog X.w td ty tx) := by
  refine ⟨fun pins s σ H Q I h => ?_⟩
  refine wpAny_Call_method m.base m.few m.line PySem.F.plainAttrs_dict PySem.F.slot_dict_get PySem.F.type_dict_get (thn (ho.run pins s σ H _ I h) fun u s1 ⟨x, H1, I1, rx, d, L, ex, g0, q1⟩ => ?_)
  subst ex
  obtain rfl : u = Value.ref d := rx
  obtain ⟨_, _, xs, r, hm⟩ := g0.full I1.hok
  refine ⟨hm.typeIs, fun b q => ?_, ?_⟩
  · cases q
    obtain ⟨ob, _, _, h1, h2, _⟩ := hm
    exact ⟨ob, h1, h2.2.1⟩
  rw [m.trees]
  refine Calls.callWith_builtin rfl (Calls.evalArgs_plain (Calls.spliced_cons (thn (he.run pins s1 σ H1 _ I1 q1) fun iv s2 ⟨y, H2, I2, ry, q2⟩ =>
    Calls.spliced_cons (thn (hf.run pins s2 σ H2 _ I2 q2) fun fv s3 ⟨z, H3, I3, rz, L', p, kk, n, ey, ez, g, hp, q3⟩ => Calls.spliced_nil ?_))))
  subst ey ez
  obtain rfl : iv = Value.ref p := ry
  obtain ⟨tn, rfl⟩ := rz
  have hu := hr.un
  exact p_get2 (show X.A.units + 1 + 8 < cLine by omega) I3 g hp fun t s4 I4 => ⟨.int _, H3, I4, ⟨t, rfl⟩, q3⟩
theorem ps_pput (hr : Room k X.A) (ho : PE X o td) (hi : PE X i ty) (hv : PE X value tv) (hs : swapsWith value (some (.Subscript o i pos')) pos.line X.env = pure false) :
    PS X (.Assign [.Subscript o i pos'] value pos) (sPPut X.prog X.w td ty tv) := by
  refine ⟨fun pins s σ H D I h => ?_⟩
  refine wpAny_Assign_Subscript (thn (hv.run pins s σ H _ I h) fun rv0 s1 ⟨v, H1, I1, rv, q1⟩ => thn (ho.run pins s1 σ H1 _ I1 q1) fun u s2 ⟨x, H2, I2, rx, q2⟩ => thn (hi.run pins s2 σ H2 _ I2 q2) fun iv s3 ⟨y, H3, I3, ry, d, p, kk, L, n, ev, ex, ey, g, ks, hp, hz, q3⟩ => ?_) hs
  subst ev ex ey
  obtain rfl : u = Value.ref d := rx
  obtain rfl : iv = Value.ref p := ry
  obtain ⟨tn, rfl⟩ := rv
  exact p_setItem (pair_room hr) I3 g ks hp hz fun s4 I4 => ⟨σ, _, I4, q3⟩
theorem pe_pnew : PE X (.Dict [] [] pos) (tPNew X.prog X.w) := ⟨fun pins s σ H Q I h =>
  wpAny_Dict_empty ⟨.ref s.heap.objs.size, _, I.laid (a := s.heap.objs.size) (o := PDO X.prog X.w s.heap.objs.size []) (t' := s.toks) (fun _ _ q => Heap.get?_push_of_some _ q) (Nat.le_refl _)
    (pdo_ok ⟨Nat.zero_le _, beq_eq_false_iff_ne.mpr (Ne.symm (Nat.ne_of_lt I.big)), [], .nil, _, #[], 0, Heap.get?_push_size _ rfl, ⟨rfl, rfl, rfl⟩, rfl, rfl, List.nodup_nil⟩), rfl, h _ (I.hok.fresh (Nat.le_refl _))⟩⟩
end
end Wk
end

section
set_option Elab.async false
set_option linter.all false
set_option maxRecDepth 100000
set_option maxHeartbeats 4000000
/-! rules of its own: sorted(..) of pairs (count, state) -/
namespace Wk
open PySem PySem.Spec PyProof.Rows L2
/-- a pair as data -/
def pd (k : Pk) : PyData := .tuple [.int k.1, .tuple (k.2.map .int)]
def pdE (b : Addr × Pk) : PyData := pd b.2
theorem pd_alike (a b : Pk) : PySem.W.alike (pd a) (pd b) = true := by
  simp only [pd, PySem.W.alike, PySem.W.alikeAll, PySem.W.alike_ints, Bool.and_self]
theorem pd_depth (a : Pk) : (pd a).depth ≤ 2 := by
  simp only [pd, PyData.depth, PyData.depthAll, PySem.W.depth_ints]
  omega
theorem pd_le {a b : Pk} (h : PySem.W.dataLe false pd a b = true) : a.1 ≤ b.1 := by
  rcases Int.lt_or_le b.1 a.1 with q | q
  · exfalso
    rw [PySem.W.dataLe_eq] at h
    have e : PySem.W.dataLt (pd b) (pd a) = true := by
      unfold pd
      rw [PySem.W.dataLt_tuple, PySem.W.dataLt_all_no (by simp [PySem.W.alike]) (by simp [PyData.eqv]; omega), PySem.W.dataLt_int]
      simpa using q
    simp only [cond_false, e] at h
    cases h
  · exact q
theorem ints_reads {h : Heap} : ∀ {st : List Int} {us : List Value}, Vals (st.map V.int) us → ReadsAll h us (st.map .int) []
  | [], _, r => by cases r; exact .nil
  | x :: st, _, r => by
    cases r with
    | cons r1 r2 =>
      obtain ⟨t, rfl⟩ := r1
      exact .cons (as := []) (.int x t) (ints_reads r2)
section
variable {P : Program} {w : World} {H : Hp} {h : Heap} {p : Addr} {k : Pk}
theorem pair_reads (ok : HOk P w H h) (g : PairA H p k) : Reads h (.ref p) (pd k) [] := by
  obtain ⟨q, h1, h2⟩ := g
  obtain ⟨us, o, n, r, g1, g2, g3⟩ := tup_of ok h1
  obtain ⟨vs, o', n', r', e1, e2, e3⟩ := tup_of ok (show H q = some (.tup (k.2.map V.int)) from h2)
  cases r with
  | cons ra rb =>
    obtain ⟨t, rfl⟩ := ra
    cases rb with
    | cons rc rd =>
      cases rd
      cases rc
      exact .tuple g1 g2 g3 (.cons (as := []) (.int k.1 t) (.cons (as := []) (.tuple e1 e2 e3 (ints_reads r')) .nil))
end
theorem refs_each (bs : List (Addr × Pk)) : PySem.W.EachIs (fun v (b : Addr × Pk) => v = Value.ref b.1) (bs.map fun b => Value.ref b.1) bs := by
  induction bs with
  | nil => exact .nil
  | cons b bs ih => exact .cons rfl ih
theorem each_refs {vs : List Value} {bs : List (Addr × Pk)} (h : PySem.W.EachIs (fun v (b : Addr × Pk) => v = Value.ref b.1) vs bs) : vs = bs.map fun b => Value.ref b.1 := by
  induction h with
  | nil => rfl
  | cons h t ih => rw [h, ih]; rfl
theorem vals_refs (bs : List (Addr × Pk)) : Vals (bs.map fun b => V.ref b.1) (bs.map fun b => Value.ref b.1) := by
  induction bs with
  | nil => exact .nil
  | cons b bs ih => exact .cons rfl ih
theorem sorted_firsts {bs : List (Addr × Pk)} : (bs.mergeSort (PySem.W.dataLe false pdE)).Perm bs ∧ (bs.mergeSort (PySem.W.dataLe false pdE)).Pairwise fun a b => a.2.1 ≤ b.2.1 := by
  refine ⟨List.mergeSort_perm _ _, ?_⟩
  have ht : PySem.W.TotalLe (PySem.W.dataLe false pdE) := PySem.W.sortLe_total _ false _
  exact (PySem.W.sort_pairwise ht bs).imp fun h => pd_le h
section
variable {X : Cx} {T : String} {r d : Addr} {n : Nat} {Pi : Nat → Value → Prop} {OK : Heap → Prop}
/-- sorted(it), told by what collecting it hands on -/
theorem sorted_with {pins : List (Addr × Obj)} {σ : L2.St} {H : Hp} {s : Shared} {E : Value → Shared → Prop} {Q : VK} {kk : Nat} (hr : Room kk X.A)
    (hcol : ∀ R : List Value → Shared → Prop, (∀ (s1 : Shared) (bs : List (Addr × Pk)), Inv X pins σ H s1 → bs.length ≤ sizeLine → (∀ b ∈ bs, PairA H b.1 b.2) →
      (∀ (out : List (Addr × Pk)) (p : Addr), out.Perm bs → out.Pairwise (fun a b => a.2.1 ≤ b.2.1) → H p = none → Q (.ref p) (upd H p (.lst (out.map fun b => V.ref b.1)))) → R (bs.map fun b => Value.ref b.1) s1) → wpAny (model X.prog X.w) X.A.in1 (collect (.ref r)) R E s) :
    wpAny (model X.prog X.w) X.A (call (.builtin "sorted") [.ref r]) (EP X pins σ Q) E s := by
  refine Calls.call_function_entry PyProof.Rows.kind_sorted PyProof.Rows.plain_sorted PyProof.Rows.entry_sorted (PyProof.Rows.args_sorted1 _) ?_
  unfold Builtin.«sorted»
  refine wpAny_bind (m := checkCount "sorted" 1 1 _) (wpAny_pure ?_)
  refine wpAny_bind (hcol _ fun s1 bs I1 hbl hpa hq => ?_)
  refine wpAny_bind (wpAny_newList ?_ (by rw [List.length_map]; exact hbl))
  have hoL : (s1.heap.push (seqObj "list" (bs.map fun b => Value.ref b.1).toArray 0)).get? s1.heap.objs.size = some (seqObj "list" (bs.map fun b => Value.ref b.1).toArray 0) := Heap.get?_push_size _ rfl
  show wpAny _ _ _ _ _ { s1 with heap := s1.heap.push (seqObj "list" (bs.map fun b => Value.ref b.1).toArray 0) }
  refine wpAny_bind (wpAny_holding ?_)
  refine PySem.W.list_sort_data (s := { s1 with heap := s1.heap.push (seqObj "list" (bs.map fun b => Value.ref b.1).toArray 0) }) (R := fun v (b : Addr × Pk) => v = Value.ref b.1) (bs := bs) (enc := pdE) hoL (refs_each bs) ?_ (PySem.W.AllAlike.of fun a b => pd_alike _ _) (PySem.W.Sortable.tuples fun b => ⟨_, _, rfl⟩) hbl (fun b _ => ?_) fun out ho eo => ?_
  · have key : ∀ (o : Obj) (l : List (Addr × Pk)), (∀ b ∈ l, PairA H b.1 b.2) → PySem.W.EachIs (fun v b => ∃ as, Reads (s1.heap.push o) v (pdE b) as ∧ s1.heap.objs.size ∉ as) (l.map fun b => Value.ref b.1) l := by
      intro o l
      induction l with
      | nil => exact fun _ => .nil
      | cons b l ih =>
        intro hl
        exact .cons ⟨[], PyProof.Rows.Reads.keeps (fun _ _ e => Heap.get?_push_of_some _ e) (pair_reads I1.hok (hl b List.mem_cons_self)), by simp⟩ (ih fun b hb => hl b (List.mem_cons_of_mem _ hb))
    exact key _ bs hpa
  · have h1 := pd_depth b.2
    have h2 := hr.un
    show X.A.units + 1 + 1 + (pd b.2).depth < cLine
    omega
  · obtain ⟨g1, g2⟩ := sorted_firsts (bs := bs)
    rw [each_refs eo]
    obtain ⟨e', he'⟩ := PyProof.Rows.sortedHeap_at (vs := bs.map fun b => Value.ref b.1) (out := ((bs.mergeSort (PySem.W.dataLe false pdE)).map fun b => Value.ref b.1).toArray) hoL
    refine wpAny_pure ⟨_, rfl, .ref s1.heap.objs.size, upd H s1.heap.objs.size (.lst ((bs.mergeSort (PySem.W.dataLe false pdE)).map fun b => V.ref b.1)), I1.laid (t' := s1.toks) (fun b u e => ?_) (Nat.le_refl _)
      (show ObjOk X.prog X.w _ _ _ (.lst ((bs.mergeSort (PySem.W.dataLe false pdE)).map fun b => V.ref b.1)) from ⟨by rw [List.length_map, g1.length_eq]; exact hbl, _, e', vals_refs _, he'⟩), rfl, hq _ _ g1 g2 (I1.hok.fresh (Nat.le_refl _))⟩
    have hb : b < s1.heap.objs.size := Heap.lt_size e
    rw [PyProof.Rows.sortedHeap_old (Nat.ne_of_lt hb) (by rw [size_push']; exact Nat.lt_succ_of_lt hb)]
    exact Heap.get?_push_of_some _ e
/-- .. it a source of the library's -/
theorem sorted_src {pins : List (Addr × Obj)} {σ : L2.St} {H : Hp} {s : Shared} {E : Value → Shared → Prop} {Q : VK} {kk : Nat} (Kd : PySem.W.KdlSrc X.prog X.w T r d n Pi OK) (hr : Room kk X.A) (I : Inv X pins σ H s) (hok : OK s.heap) (hn : n ≤ sizeLine)
    (hi : ∀ acc : Array Value, ItemsOf Pi acc n → ∃ bs : List (Addr × Pk), acc.toList = bs.map (fun b => .ref b.1) ∧ (∀ b ∈ bs, PairA H b.1 b.2) ∧
      ∀ (out : List (Addr × Pk)) (p : Addr), out.Perm bs → out.Pairwise (fun a b => a.2.1 ≤ b.2.1) → H p = none → Q (.ref p) (upd H p (.lst (out.map fun b => V.ref b.1)))) :
    wpAny (model X.prog X.w) X.A (call (.builtin "sorted") [.ref r]) (EP X pins σ Q) E s := by
  refine sorted_with (H := H) hr fun R hR => PySem.W.kdu_collect (A := X.A.in1) Kd hr.hd hok hn fun h' tk acc hk hacc => ?_
  obtain ⟨bs, hbs, hpa, hq⟩ := hi acc hacc
  have hbl : bs.length ≤ sizeLine := by
    have e := congrArg List.length hbs
    rw [List.length_map, Array.length_toList, hacc.1] at e
    omega
  rw [hbs]
  exact hR _ bs (I.kept hk) hbl hpa hq
end
end Wk
end

section
set_option Elab.async false
set_option linter.all false
set_option maxRecDepth 100000
set_option maxHeartbeats 4000000
/-! rules of its own: sorted(d), d.items() of a dict of pairs -/
namespace Wk
open PySem PySem.Spec PyProof.Rows L2
theorem pdrel_get : ∀ {L : PdL} {xs : List (Pk × Addr × Value)} {i : Nat} {x : Pk × Addr × Value}, PdRel L xs → xs[i]? = some x → ∃ l, L[i]? = some l ∧ x.1 = l.1 ∧ x.2.1 = l.2.1 ∧ ∃ t, x.2.2 = .int l.2.2 t
  | _, _, i, x, .nil, e => by simp at e
  | _, _, 0, x, .cons h _, e => by simp at e; subst e; exact ⟨_, rfl, h⟩
  | _, _, i + 1, x, .cons _ t, e => by
    obtain ⟨l, h1, h2⟩ := pdrel_get (i := i) t (by simpa using e)
    exact ⟨l, by simpa using h1, h2⟩
section
variable {P : Program} {w : World} {H : Hp} {h : Heap} {d : Addr} {L : PdL}
theorem PdG.raw (g : PdG P w H d L) (ok : HOk P w H h) : L.length ≤ sizeLine ∧ (d == sysModules) = false ∧ ∃ es ep, h.DictRaw d es ep ∧ es.size = L.length ∧ ∀ i (hi : i < es.size), ∃ l t, L[i]? = some l ∧ es[i].key = .ref l.2.1 ∧ es[i].val = .int l.2.2 t := by
  obtain ⟨a, b, xs, r, hm⟩ := g.full ok
  obtain ⟨es, ep, hr, hs, he⟩ := hm.raw
  refine ⟨a, b, es, ep, hr, by rw [hs]; exact (Paired.length r).symm, fun i hi => ?_⟩
  obtain ⟨y, e1, e2, e3, _⟩ := he i hi
  obtain ⟨l, f1, f2, f3, t, f4⟩ := pdrel_get r e1
  exact ⟨l, t, f1, by rw [e2, f3], by rw [e3, f4]⟩
end
def keysP (L : PdL) : List (Addr × Pk) := L.map fun l => (l.2.1, l.1)
def rSortP (P : Program) (w : World) : List V → Hp → VK → Prop := fun xs H Q => ∃ d L, xs = [V.ref d] ∧ PdG P w H d L ∧
  ∀ (out : List (Addr × Pk)) (p : Addr), out.Perm (keysP L) → out.Pairwise (fun a b => a.2.1 ≤ b.2.1) → H p = none → Q (.ref p) (upd H p (.lst (out.map fun b => V.ref b.1)))
theorem call_sortedPd {X : Cx} {kk : Nat} (hr : Room kk X.A) : CallR X (.builtin "sorted") (rSortP X.prog X.w) := by
  intro pins s σ H xs us Q I r q
  obtain ⟨d, L, rfl, g, q⟩ := q
  obtain ⟨u, rfl, rx⟩ := vals1 r
  cases (show u = Value.ref d from rx)
  obtain ⟨z, lo, es, ep, hraw, hsz, he⟩ := g.raw I.hok
  refine sorted_src (PySem.KdlSrc.rawDict (prog := X.prog) (w := X.w) (d := d) (es := es) (ep := ep) lo) hr I hraw (by omega) fun acc hacc => ⟨keysP L, ?_, ?_, q⟩
  · apply List.ext_getElem?
    intro j
    rw [List.getElem?_map]
    have hl : acc.size = L.length := by rw [hacc.1, hsz]
    rcases Nat.lt_or_ge j acc.size with lt | ge
    · obtain ⟨hj, e⟩ := hacc.2 j acc[j] (by simp [lt])
      obtain ⟨l, t, f1, f2, f3⟩ := he j hj
      rw [Array.getElem?_toList, Array.getElem?_eq_getElem lt, e, f2]
      simp [keysP, f1]
    · rw [Array.getElem?_toList, Array.getElem?_eq_none ge, List.getElem?_eq_none (by simp [keysP]; omega)]
      rfl
  · intro b hb
    obtain ⟨l, hl, rfl⟩ := List.mem_map.mp hb
    exact g.keys l hl
/-! d.items() -/
def itP (P : Program) (w : World) (d : Addr) (o : Obj) (L : PdL) : It :=
  ⟨fun i H => H d = some (.frz o (PDO P w d L)) ∧ (∀ l ∈ L, PairA H l.2.1 l.1) ∧ i < L.length, fun i H x H' => ∃ T l, L[i]? = some l ∧ x = .ref T ∧ H T = none ∧ H' = upd H T (.tup [.ref l.2.1, .int l.2.2]), fun i H => H d = some (.frz o (PDO P w d L)) ∧ (∀ l ∈ L, PairA H l.2.1 l.1) ∧ L.length ≤ i⟩
theorem walk_P {P : Program} {w : World} {d : Addr} {o : Obj} {L : PdL} : Walk (itP P w d o L) L.length (fun H => H d = some (.frz o (PDO P w d L)) ∧ ∀ l ∈ L, PairA H l.2.1 l.1) (fun i H x H' => ∃ T l, L[i]? = some l ∧ x = .ref T ∧ H T = none ∧ H' = upd H T (.tup [.ref l.2.1, .int l.2.2])) :=
  ⟨fun i H hi g => ⟨g.1, g.2, hi⟩, fun H g => ⟨g.1, g.2, Nat.le_refl _⟩, fun i H x H' _ _ y => y⟩
section
variable {P : Program} {w : World} {K : PySem.W.Frag} {d : Addr} {o : Obj} {L : PdL}
theorem raw_same {h : Heap} {es es' : Array DictEntry} {ep ep' : Nat} (a : h.DictRaw d es ep) (b : h.DictRaw d es' ep') : es' = es ∧ ep' = ep := by
  obtain ⟨o1, h1, _, h2⟩ := a
  obtain ⟨o2, g1, _, g2⟩ := b
  rw [h1] at g1
  cases g1
  rw [h2] at g2
  cases g2
  exact ⟨rfl, rfl⟩
theorem turn_P {elts : List Expr} {kk : Nat} {tpos : Pos} (it : Addr) (ep : Nat) (hod : ∃ es, o.data = .dict es ep) :
    Turn P w K (.Tuple elts kk tpos) (itP P w d o L) [it] it (fun i h => ∃ ok ov, IsItemIter h it d i L.length ep ok ov) where
  mem := by simp
  obj := fun i h st b hb => by
    obtain rfl : b = it := by simpa using hb
    obtain ⟨ok, ov, e⟩ := st
    exact ⟨_, e, fun v z => nomatch z⟩
  keep := fun i h h' st k => let ⟨ok, ov, e⟩ := st; ⟨ok, ov, k it (by simp) _ e⟩
  item := by
    intro X hP hw hK hc i pins s σ H E I hf st hg
    subst hP hw hK
    obtain ⟨hd, hk, hi⟩ := hg
    obtain ⟨_, _, es, ep', hraw, hsz, he⟩ := (PdG.mk (.inr ⟨o, hd⟩) hk).raw I.hok
    have eo : s.heap.get? d = some o := (I.hok d _ hd).1
    obtain rfl : ep' = ep := by
      obtain ⟨es2, hod⟩ := hod
      obtain ⟨o', q1, _, q2⟩ := hraw
      rw [eo] at q1
      cases q1
      rw [hod] at q2
      cases q2
      rfl
    obtain ⟨ok, ov, hit⟩ := st
    rw [← hsz] at hit hi
    obtain ⟨l, t, f1, f2, f3⟩ := he i hi
    have hlt : it < s.heap.objs.size := Heap.lt_size hit
    refine wpAny_pyNext_items_item_raw hit hraw hi fun h' ho hT hz hk' => ?_
    rw [f2, f3] at ho hT
    refine ⟨_, rfl, wpAny_letOwnedTupleGo_items (s := { s with heap := h' }) ho fun h'' he' sb => ?_⟩
    have hT2 : h''.get? s.heap.objs.size = some { cls := .type "tuple", data := .seq #[.ref l.2.1, .int l.2.2 t] } := (sb.2 _ (Nat.ne_of_gt hlt)).trans hT
    have new : ObjOk X.prog X.w (upd H s.heap.objs.size (.tup [.ref l.2.1, .int l.2.2])) h'' s.heap.objs.size (.tup [.ref l.2.1, .int l.2.2]) :=
      ⟨by show 2 ≤ sizeLine; decide, [.ref l.2.1, .int l.2.2 t], .cons rfl (.cons ⟨t, rfl⟩ .nil), ⟨_, hT2, rfl, _, rfl⟩⟩
    have I1 : Inv X pins σ (upd H s.heap.objs.size (.tup [.ref l.2.1, .int l.2.2])) { s with heap := h'' } :=
      I.turnedNew (t' := s.toks) (ch := [it]) (fun b ob hb e => (sb.2 b (by simpa using hb)).trans (hk' b ob (by simpa using hb) e)) hf (Nat.le_refl _) new
    refine ⟨.ref s.heap.objs.size, _, I1, rfl, ⟨_, l, f1, rfl, I.hok.fresh (Nat.le_refl _), rfl⟩, ⟨.ref l.2.1, .int l.2.2 t, ?_⟩, fun b hb => ?_⟩
    · rw [← hsz]; exact he'
    · obtain rfl : b = it := by simpa using hb
      rw [upd_ne (Nat.ne_of_lt hlt)]
      exact (hf b (by simp)).1
  done := by
    intro X hP hw hK hc i pins s σ H E I hf st hg
    subst hP hw hK
    obtain ⟨hd, hk, hi⟩ := hg
    obtain ⟨f0, f1, f2, f3, f4, f5⟩ := hf it (by simp)
    obtain ⟨_, _, es, ep', hraw, hsz, he⟩ := (PdG.mk (.inr ⟨o, hd⟩) hk).raw I.hok
    have eo : s.heap.get? d = some o := (I.hok d _ hd).1
    obtain rfl : ep' = ep := by
      obtain ⟨es2, hod⟩ := hod
      obtain ⟨o', q1, _, q2⟩ := hraw
      rw [eo] at q1
      cases q1
      rw [hod] at q2
      cases q2
      rfl
    obtain ⟨ok, ov, hit⟩ := st
    rw [← hsz] at hit hi
    exact wpAny_pyNext_items_end_raw (I.ok.hd hc) hit hraw hi fun h' eb => ⟨rfl, I.turned (t' := s.toks) (fun b ob hb e => eb b ob hb e) f0 f1 f3 f4 f5⟩
  self := fun A i s Q E st h => let ⟨_, _, e⟩ := st; PySem.W.kcp_self e h
end
def iItemsP (P : Program) (w : World) (td : TE) : TI := fun σ H R => td σ H fun x H1 => ∃ d o L, x = .ref d ∧ H1 d = some (.frz o (PDO P w d L)) ∧ (∀ l ∈ L, PairA H1 l.2.1 l.1) ∧ R (itP P w d o L) H1
theorem pi_itemsP {X : Cx} {e : Expr} {td : TE} {apos cpos : Pos} {elts : List Expr} {kk : Nat} {tpos : Pos} (he : PE X e td) (hbase : attributeBase e "items" X.env (eval e X.env) = eval e X.env := by rfl) (hline : (apos.endLine == cpos.line) = true := by rfl) :
    PI X (.Tuple elts kk tpos) (.Call (.Attribute e "items" apos) [] [] cpos) (iItemsP X.prog X.w td) := by
  refine ⟨fun pins s σ H R I h => ?_⟩
  refine wpAny_Call_method (T := "dict") (id := "dict.items") hbase rfl hline PySem.F.plainAttrs_dict PySem.F.slot_dict_items PySem.F.type_dict_items (thn (he.run pins s σ H _ I h) fun u s1 ⟨x, H1, I1, rx, d, o, L, ex, hd, hk, q⟩ => ?_)
  subst ex
  obtain rfl : u = Value.ref d := rx
  obtain ⟨z, lo, es, ep, hraw, hsz, _⟩ := (PdG.mk (.inr ⟨o, hd⟩) hk).raw I1.hok
  have eo : s1.heap.get? d = some o := (I1.hok d _ hd).1
  have hod : ∃ es, o.data = .dict es ep := by
    obtain ⟨o', q1, _, q2⟩ := hraw
    rw [eo] at q1
    cases q1
    exact ⟨_, q2⟩
  refine ⟨hraw.typeIs, fun b qb => ?_, ?_⟩
  · cases qb
    obtain ⟨o', q1, q2, _⟩ := hraw
    exact ⟨o', q1, q2.2.1⟩
  have I2 : Inv X pins σ H1 { s1 with heap := s1.heap.push { cls := .type "dict_items", data := .fields #[.ref d] } } := I1.kept (t' := s1.toks) fun b ob q => Heap.get?_push_of_some _ q
  have fin : wpAny (model X.prog X.w) X.A (pyIter (.ref s1.heap.objs.size)) (PIE X pins σ (.Tuple elts kk tpos) R) X.xe { s1 with heap := s1.heap.push { cls := .type "dict_items", data := .fields #[.ref d] } } := by
    refine wpAny_pyIter_items_raw (d := d) ⟨_, Heap.get?_push_size _ rfl, rfl, rfl⟩ (hraw.at fun o e => Heap.get?_push_of_some _ e) (pi_one (tk := s1.toks) I2 _ (turn_P _ ep hod) ⟨.none, .none, ?_⟩ q)
    rw [← hsz]
    exact Heap.get?_push_size _ rfl
  show wpAny _ _ (callWith cpos (.builtin "dict.items") [.ref d] [] []) _ X.xe s1
  exact method_meetsIn PySem.F.slot_dict_items PySem.F.entry_dict_items rfl (PySem.evalArgs_none ⟨rfl, hraw.typeIs, PySem.F.args_dict_items_1 _, _, meets_dict_items_raw d lo, ⟨⟨es, ep, hraw⟩, fin⟩⟩)
end Wk
end

section
set_option Elab.async false
set_option linter.all false
set_option maxRecDepth 100000
set_option maxHeartbeats 4000000
/-! rules of its own: max(list of pairs, default=None) -/
namespace Wk
open PySem PySem.Spec PyProof.Rows L2
theorem pd_gt {a b : Pk} (h : PySem.W.dataLt (pd a) (pd b) = true) : a.1 ≤ b.1 := by
  rcases Int.lt_or_le b.1 a.1 with q | q
  · exfalso
    have e : PySem.W.dataLt (pd a) (pd b) = false := by
      unfold pd
      rw [PySem.W.dataLt_tuple, PySem.W.dataLt_all_no (by simp [PySem.W.alike]) (by simp [PyData.eqv]; omega), PySem.W.dataLt_int]
      simp
      omega
    rw [e] at h
    cases h
  · exact q
theorem pd_ngt {a b : Pk} (h : PySem.W.dataLt (pd a) (pd b) = false) : b.1 ≤ a.1 := by
  rcases Int.lt_or_le a.1 b.1 with q | q
  · exfalso
    have e : PySem.W.dataLt (pd a) (pd b) = true := by
      unfold pd
      rw [PySem.W.dataLt_tuple, PySem.W.dataLt_all_no (by simp [PySem.W.alike]) (by simp [PyData.eqv]; omega), PySem.W.dataLt_int]
      simpa using q
    rw [e] at h
    cases h
  · exact q
theorem args_max_default (a v : Value) : argsOk "max" ⟨[a], [(Str.ofString "default", v)]⟩ := by unfold argsOk; kernel_rfl
section
variable {prog : Program} {w : World} {A : Around} {s : Shared} {h0 : Heap} {l I S : Addr} {bs : List (Addr × Pk)} {R : Result → Shared → Prop}
/-- what stood before the call stands -/
abbrev Kept (h0 h : Heap) : Prop := ∀ b o, h0.get? b = some o → h.get? b = some o
theorem max_go (hh : A.handled = none) (hI : h0.get? I = none) (hS : h0.get? S = none) (hSI : S ≠ I) (hl : h0.IsList l (bs.map fun b => Value.ref b.1).toArray) (hr : ∀ b ∈ bs, Reads h0 (.ref b.1) (pd b.2) []) (hu : A.units + 10 < cLine)
    (hR0 : bs = [] → ∀ h tk, Kept h0 h → R (.ok (.ret .none)) { s with heap := h, toks := tk }) (hR1 : ∀ b ∈ bs, (∀ b' ∈ bs, b'.2.1 ≤ b.2.1) → ∀ h tk, Kept h0 h → R (.ok (.ret (.ref b.1))) { s with heap := h, toks := tk }) :
    ∀ (r j : Nat) (h : Heap) (tk c : Nat) (old : List Value), bs.length - j = r → j ≤ bs.length → Kept h0 h → h.get? S = some (seqObj "list" old.toArray c) → h.IsListIter I l j →
      ((j = 0 ∧ old = []) ∨ ∃ b ∈ bs, old = [.ref b.1, .ref b.1] ∧ ∀ i b', i < j → bs[i]? = some b' → b'.2.1 ≤ b.2.1) →
      codeAny (model prog w) A (.builtin "max.loop" ⟨[.ref I, .none, .ref S], [(Str.ofString "default", .none)]⟩) R { s with heap := h, toks := tk } := by
  have hname : (toString "max" ++ toString ".loop" : String) = "max.loop" := by decide
  have lI : l ≠ I := fun e => by
    obtain ⟨o, q, _⟩ := hl
    rw [e, hI] at q
    cases q
  have lS : l ≠ S := fun e => by
    obtain ⟨o, q, _⟩ := hl
    rw [e, hS] at q
    cases q
  have W := Walks.list (prog := prog) (w := w) (A := A.in1) hh I l lI (bs.map fun b => Value.ref b.1).toArray
  have hsz : (bs.map fun b => Value.ref b.1).toArray.size = bs.length := by simp
  have keepL : ∀ h, Kept h0 h → h.IsList l (bs.map fun b => Value.ref b.1).toArray := fun h k => by
    obtain ⟨o, q1, q2⟩ := hl
    exact ⟨o, k _ _ q1, q2⟩
  have upS : ∀ (h : Heap) (f : Array Value → Array Value), Kept h0 h → Kept h0 (h.update S (Obj.mapSeq f)) := fun h f k b o e => by
    have sb := Heap.SameBut.update h S (Obj.mapSeq f)
    refine (sb.2 b fun z => ?_).trans (k b o e)
    rw [z, hS] at e
    cases e
  intro r
  induction r with
  | zero =>
    intro j h tk c old hj hjl hk hSo hit best
    refine codeAny_builtin PySem.F.entry_max_loop ?_
    rw [Around.under_plainId PySem.F.plain_max_loop _]
    show wpAny _ A.in1 (seqItems? (.ref S) >>= _) _ _ _
    refine wpAny_bind (wpAny_seqItems hSo rfl ?_)
    show wpAny _ A.in1 (tryCatch (pyNext (.ref I)) _ >>= _) _ _ _
    refine wpAny_bind (wpAny_tryCatch (W.done _ _ _ ⟨by rw [hsz, show bs.length = j by omega]; exact hit, keepL h hk⟩ fun h' tk' hk' => ?_))
    have k1 : Kept h0 h' := fun b o e => hk' b o (fun z => by rw [List.mem_singleton.mp z, hI] at e; cases e) (hk b o e)
    rcases best with ⟨j0, rfl⟩ | ⟨b, hb, rfl, hbest⟩
    · have e : bs = [] := List.eq_nil_of_length_eq_zero (by omega)
      show wpAny _ A.in1 (rule (toString "max" ++ toString ".default") >>= fun _ => ret Value.none) _ _ _
      refine wpAny_bind (wpAny_rule ?_)
      exact wpAny_pure (hR0 e _ _ k1)
    · have hS' : h'.get? S = some (seqObj "list" [Value.ref b.1, .ref b.1].toArray c) := hk' S _ (by simpa using hSI) hSo
      show wpAny _ A.in1 (updateSeq S (fun _ => #[]) >>= _) _ _ _
      refine wpAny_bind ?_
      refine wpAny_updateSeq hS' rfl (wpAny_bind (wpAny_letGo (wpAny_pure ?_)))
      refine hR1 b hb (fun b' hb' => ?_) _ _ (upS _ _ k1)
      obtain ⟨i, hi⟩ := List.getElem?_of_mem hb'
      exact hbest i b' (by have := (List.getElem?_eq_some_iff.mp hi).1; omega) hi
  | succ r ih =>
    intro j h tk c old hj hjl hk hSo hit best
    have hlt : j < bs.length := by omega
    refine codeAny_builtin PySem.F.entry_max_loop ?_
    rw [Around.under_plainId PySem.F.plain_max_loop _]
    show wpAny _ A.in1 (seqItems? (.ref S) >>= _) _ _ _
    refine wpAny_bind (wpAny_seqItems hSo rfl ?_)
    show wpAny _ A.in1 (tryCatch (pyNext (.ref I)) _ >>= _) _ _ _
    refine wpAny_bind (wpAny_tryCatch (W.item j _ _ _ (by rw [hsz]; exact hlt) ⟨hit, keepL h hk⟩ fun v h' tk' hP hst' hk' => ?_))
    have k1 : Kept h0 h' := fun b o e => hk' b o (fun z => by rw [List.mem_singleton.mp z, hI] at e; cases e) (hk b o e)
    have hS' : h'.get? S = some (seqObj "list" old.toArray c) := hk' S _ (by simpa using hSI) hSo
    obtain ⟨nb, hnb⟩ : ∃ nb, bs[j]? = some nb := ⟨bs[j], List.getElem?_eq_getElem hlt⟩
    obtain rfl : v = .ref nb.1 := by
      have q : (bs.map fun b => Value.ref b.1)[j]? = some v := by simpa using hP
      rw [List.getElem?_map, hnb] at q
      exact (Option.some.inj q).symm
    have hmem : nb ∈ bs := List.mem_of_getElem? hnb
    have upI : ∀ f, ((h'.update S (Obj.mapSeq f)).IsListIter I l (j + 1)) := fun f => by
      obtain ⟨oI, q1, q2⟩ := hst'.1
      exact ⟨oI, ((Heap.SameBut.update h' S (Obj.mapSeq f)).2 I hSI.symm).trans q1, q2⟩
    rcases best with ⟨j0, rfl⟩ | ⟨b, hb, rfl, hbest⟩
    · obtain ⟨c2, hc2⟩ : ∃ c2, (h'.update S (Obj.mapSeq fun _ => #[Value.ref nb.1, .ref nb.1])).get? S = some (seqObj "list" #[Value.ref nb.1, .ref nb.1] c2) := ⟨_, get?_update_seq hS' fun _ => #[Value.ref nb.1, .ref nb.1]⟩
      refine wpAny_bind (wpAny_pure ?_)
      show wpAny _ A.in1 (updateSeq S (fun _ => #[Value.ref nb.1, .ref nb.1]) >>= _) _ _ _
      refine wpAny_bind ?_
      refine wpAny_updateSeq hS' rfl ?_
      rw [hname]
      exact wpAny_pure ⟨plainId_quiet PySem.F.plain_max_loop _, ih (j + 1) _ _ c2 [.ref nb.1, .ref nb.1] (by omega) hlt (upS _ _ k1) hc2 (upI _) (.inr ⟨nb, hmem, rfl, fun i b' hi hb' => by
        obtain rfl : i = j := by omega
        rw [hnb] at hb'
        cases hb'
        exact Int.le_refl _⟩)⟩
    · refine wpAny_bind (wpAny_pure ?_)
      show wpAny _ A.in1 (tryCatch (holding [Value.ref nb.1, .ref nb.1] (richCompare .Gt (.ref nb.1) (.ref b.1) >>= _)) _ >>= _) _ _ _
      have r1 : Reads h' (.ref nb.1) (pd nb.2) [] := PyProof.Rows.Reads.keeps k1 (hr nb hmem)
      have r2 : Reads h' (.ref b.1) (pd b.2) [] := PyProof.Rows.Reads.keeps k1 (hr b hb)
      have dd := pd_depth nb.2
      refine wpAny_bind (wpAny_tryCatch (wpAny_holding (wpAny_bind (PySem.W.rcGt_alike (pd nb.2) (pd b.2) A.in1 { s with heap := h', toks := tk' } _ _ _ _ r1 r2 (pd_alike _ _) (fun z => nomatch z) (by show A.units + 1 + _ < cLine; omega) prog w _ _ ?_))))
      refine wpAny_bind (wpAny_holding (wpAny_truthy_bool ?_))
      refine wpAny_bind (wpAny_letGo (wpAny_pure ?_))
      cases better : PySem.W.dataLt (pd b.2) (pd nb.2) with
      | true =>
        have g1 := pd_gt better
        obtain ⟨c2, hc2⟩ : ∃ c2, (h'.update S (Obj.mapSeq fun _ => #[Value.ref nb.1, .ref nb.1])).get? S = some (seqObj "list" #[Value.ref nb.1, .ref nb.1] c2) := ⟨_, get?_update_seq hS' fun _ => #[Value.ref nb.1, .ref nb.1]⟩
        simp only [if_true]
        refine wpAny_bind ?_
        refine wpAny_updateSeq hS' rfl (wpAny_bind (wpAny_letGo ?_))
        rw [hname]
        exact wpAny_pure ⟨plainId_quiet PySem.F.plain_max_loop _, ih (j + 1) _ _ c2 [.ref nb.1, .ref nb.1] (by omega) hlt (upS _ _ k1) hc2 (upI _) (.inr ⟨nb, hmem, rfl, fun i b' hi hb' => by
          rcases Nat.lt_or_ge i j with q | q
          · exact Int.le_trans (hbest i b' q hb') g1
          · obtain rfl : i = j := by omega
            rw [hnb] at hb'
            cases hb'
            exact Int.le_refl _⟩)⟩
      | false =>
        have g1 := pd_ngt better
        simp only [Bool.false_eq_true, if_false]
        refine wpAny_bind (wpAny_letGo ?_)
        rw [hname]
        exact wpAny_pure ⟨plainId_quiet PySem.F.plain_max_loop _, ih (j + 1) _ _ c [.ref b.1, .ref b.1] (by omega) hlt k1 hS' hst'.1 (.inr ⟨b, hb, rfl, fun i b' hi hb' => by
          rcases Nat.lt_or_ge i j with q | q
          · exact hbest i b' q hb'
          · obtain rfl : i = j := by omega
            rw [hnb] at hb'
            cases hb'
            exact g1⟩)⟩
end
def rMaxD : List V → List V → Hp → VK → Prop := fun vs zs H Q => ∃ (a : Addr) (bs : List (Addr × Pk)), vs = [V.ref a] ∧ zs = [V.non] ∧ H a = some (.lst (bs.map fun b => V.ref b.1)) ∧ (∀ b ∈ bs, PairA H b.1 b.2) ∧ (bs = [] → Q .non H) ∧ ∀ b ∈ bs, (∀ b' ∈ bs, b'.2.1 ≤ b.2.1) → Q (.ref b.1) H
theorem refs_back {bs : List (Addr × Pk)} : ∀ {us : List Value}, Vals (bs.map fun b => V.ref b.1) us → us = bs.map fun b => Value.ref b.1 := by
  induction bs with
  | nil => intro us r; cases r; rfl
  | cons b bs ih =>
    intro us r
    cases r with
    | cons r1 r2 =>
      cases (show _ = Value.ref b.1 from r1)
      rw [ih r2]
      rfl
theorem cr_maxD {X : Cx} {kk : Nat} (hr : Room kk X.A) : CallRK X (.builtin "max") [Str.ofString "default"] rMaxD := by
  intro pins s σ H xs zs us ws Q I r rz q
  obtain ⟨a, bs, rfl, rfl, hl, hp, q0, q1⟩ := q
  obtain ⟨u, rfl, rx⟩ := vals1 r
  cases (show u = Value.ref a from rx)
  obtain ⟨v, rfl, rv⟩ := vals1 rz
  cases (show v = Value.none from rv)
  obtain ⟨z, its, n, rI, hL⟩ := (show ObjOk X.prog X.w H s.heap a (.lst (bs.map fun b => V.ref b.1)) from I.hok a _ hl)
  rw [refs_back rI] at hL
  have hls : s.heap.IsList a (bs.map fun b => Value.ref b.1).toArray := ⟨_, hL, rfl, _, rfl⟩
  show wpAny _ _ (call (.builtin "max") [.ref a] [(Str.ofString "default", .none)]) _ _ _
  have hname : (toString "max" ++ toString ".loop" : String) = "max.loop" := by decide
  refine kmk_tree PySem.F.kind_max PySem.F.plain_max PySem.F.entry_max (args_max_default _ _) ?_
  show wpAny _ X.A.in1 (Builtin.Builtins.bindParams "max" ["key", "default"] 0 ⟨[], [(Str.ofString "default", .none)]⟩ >>= _) _ _ s
  refine wpAny_bind (wpAny_of_eq (show Builtin.Builtins.bindParams "max" ["key", "default"] 0 ⟨[], [(Str.ofString "default", .none)]⟩ = pure [none, some .none] from rfl) ?_)
  refine wpAny_bind (wpAny_pure ?_)
  refine wpAny_bind (wpAny_pyIter_list hls ?_)
  refine wpAny_bind (wpAny_newList ?_ (Nat.zero_le _))
  rw [hname]
  have hsz : (s.heap.push { cls := .type "list_iterator", data := .fields #[.ref a, .int 0 0] }).objs.size = s.heap.objs.size + 1 := size_push' ..
  refine wpAny_pure ⟨plainId_quiet PySem.F.plain_max_loop _, ?_⟩
  have hu := hr.un
  refine max_go (s := s) (h0 := s.heap) (l := a) (I := s.heap.objs.size) (S := (s.heap.push { cls := .type "list_iterator", data := .fields #[.ref a, .int 0 0] }).objs.size) (bs := bs) hr.hd (Heap.get?_none_of_le (Nat.le_refl _)) (Heap.get?_none_of_le (by rw [hsz]; exact Nat.le_succ _)) (by rw [hsz]; exact Nat.succ_ne_self _) hls
    (fun b hb => pair_reads I.hok (hp b hb)) (by omega) (fun e h tk k => ⟨.non, H, I.kept k, rfl, q0 e⟩) (fun b hb hm h tk k => ⟨.ref b.1, H, I.kept k, rfl, q1 b hb hm⟩) _ 0 _ _ 0 [] rfl (Nat.zero_le _) (fun b o e => Heap.get?_push_of_some _ (Heap.get?_push_of_some _ e)) (Heap.get?_push_size _ rfl)
    ⟨_, Heap.get?_push_of_some _ (Heap.get?_push_size _ rfl), rfl, rfl⟩ (.inl ⟨rfl, rfl⟩)
end Wk
end

section
set_option Elab.async false
set_option linter.all false
set_option maxRecDepth 100000
set_option maxHeartbeats 4000000
/-! rules of its own: repr(pair) -/
namespace Wk
open PySem PySem.Spec PyProof.Rows L2
def Sm (i : Int) : Prop := i.natAbs < 10 ^ 12
def PkSm (k : Pk) : Prop := k.2.length ≤ 100 ∧ Sm k.1 ∧ ∀ x ∈ k.2, Sm x
theorem sm_log {i : Int} (h : Sm i) : i.natAbs.log2 ≤ 40 := by
  rcases Nat.eq_zero_or_pos i.natAbs with e | e
  · rw [e]; decide
  · have h1 : i.natAbs < 2 ^ 40 := Nat.lt_trans h (by decide)
    exact Nat.le_of_lt ((Nat.log2_lt (by omega)).mpr h1)
theorem ints_short : ∀ st : List Int, (∀ x ∈ st, Sm x) → PyData.leavesShortAll 13 (st.map .int) = true
  | [], _ => by simp [PyData.leavesShortAll]
  | x :: st, h => by
    show PyData.leavesShortAll 13 (.int x :: st.map .int) = true
    simp only [PyData.leavesShortAll, Bool.and_eq_true]
    exact ⟨by simpa [PyData.leavesShort] using PyData.shown_int_le (h x List.mem_cons_self), ints_short st fun y hy => h y (List.mem_cons_of_mem _ hy)⟩
theorem int_weight {i : Int} (h : Sm i) : PyData.weight (.int i) ≤ 41 := by
  have := sm_log h
  simp only [PyData.weight]
  split <;> omega
theorem ints_weight : ∀ st : List Int, (∀ x ∈ st, Sm x) → PyData.weightAll (st.map .int) ≤ 42 * st.length
  | [], _ => by simp [PyData.weightAll]
  | x :: st, h => by
    have h1 := ints_weight st fun y hy => h y (List.mem_cons_of_mem _ hy)
    have h2 := int_weight (h x List.mem_cons_self)
    show PyData.weightAll (.int x :: st.map .int) ≤ _
    simp only [PyData.weightAll, List.length_cons]
    omega
theorem ints_show : ∀ st : List Int, (∀ x ∈ st, Sm x) → PyData.showableAll (st.map .int) = true
  | [], _ => by simp [PyData.showableAll]
  | x :: st, h => by
    have h1 := sm_log (h x List.mem_cons_self)
    show PyData.showableAll (.int x :: st.map .int) = true
    simp only [PyData.showableAll, PyData.showable, Bool.and_eq_true]
    exact ⟨by simp; omega, ints_show st fun y hy => h y (List.mem_cons_of_mem _ hy)⟩
theorem ints_nodict : ∀ st : List Int, PyData.hasDictAll (st.map .int) = false
  | [] => by simp [PyData.hasDictAll]
  | x :: st => by
    show PyData.hasDictAll (.int x :: st.map .int) = false
    simp only [PyData.hasDictAll, PyData.hasDict, ints_nodict st, Bool.or_self]
theorem pd_fits {k : Pk} (h : PkSm k) : (pd k).shown.length ≤ sizeLine := by
  refine PyData.shown_fits (B := 13) (by decide) (by decide) ?_ ?_
  · simp only [pd, PyData.leavesShort, PyData.leavesShortAll, Bool.and_eq_true]
    exact ⟨by simpa using PyData.shown_int_le h.2.1, ints_short _ h.2.2, True.intro⟩
  · have h0 := ints_weight k.2 h.2.2
    have h1 := h.1
    have h2 := int_weight h.2.1
    show PyData.weightAll [.int k.1, .tuple (k.2.map .int)] ≤ _
    simp only [PyData.weightAll]
    show PyData.weight (.int k.1) + 1 + (PyData.weightAll (k.2.map .int) + 1 + 0) ≤ _
    omega
theorem pd_show {k : Pk} (h : PkSm k) : (pd k).showable = true := by
  have h1 := sm_log h.2.1
  simp only [pd, PyData.showable, PyData.showableAll, ints_show _ h.2.2, Bool.and_true]
  simp
  omega
theorem pd_nodict (k : Pk) : (pd k).hasDict = false := by
  simp only [pd, PyData.hasDict, PyData.hasDictAll, ints_nodict, Bool.or_self]
def rReprP : List V → Hp → VK → Prop := fun xs H Q => (xs = [V.non] ∧ Q (.str "None") H) ∨ ∃ p k, xs = [V.ref p] ∧ PairA H p k ∧ PkSm k ∧ Q (.str (pd k).shown) H
theorem call_reprP {X : Cx} {kk : Nat} (hr : Room kk X.A) (hg : X.A.guards = some []) : CallR X (.builtin "repr") rReprP := by
  intro pins s σ H xs us Q I r h
  rcases h with ⟨rfl, q⟩ | ⟨p, k, rfl, hp, hs, q⟩
  · obtain ⟨u, rfl, rx⟩ := vals1 r
    cases (show u = Value.none from rx)
    exact PySem.P.repr_of_none ⟨.str _, H, I.tok _, ⟨_, rfl⟩, q⟩
  · obtain ⟨u, rfl, rx⟩ := vals1 r
    cases (show u = Value.ref p from rx)
    have hu := hr.un
    have hd := pd_depth k
    refine repr_of_reads' (pair_reads I.hok hp) (pd_show hs) (fun e => by rw [pd_nodict] at e; cases e) hg (by omega) (fun _ _ e => e) (fun h' u tk hk => ?_) (pd_fits hs)
    exact ⟨.str _, H, I.kept hk, ⟨u, rfl⟩, q⟩
end Wk
end

section
set_option Elab.async false
set_option linter.all false
set_option maxRecDepth 100000
set_option maxHeartbeats 4000000
/-! rules of its own: defs that are called where no repr is under way -/
namespace Wk
open PySem PySem.Spec PyProof.Rows L2
/-- as FnOk, of an around without guards -/
structure FnG (P : Program) (w : World) (K : PySem.W.Frag) (mg : Str → Option Value) (base : Heap) (k : Nat) (f : Addr) (fd : FuncData) (ps : List Str) (sp : Sp) : Prop where
  len : ∀ vs H Q E, sp vs H Q E → vs.length = ps.length
  go : ∀ (A : Around) (o : List Env) (s : Shared) (H : Hp) (ar : Args) (us : List Value) (vs : List V) (Q : VK) (E : XK), Room k A → A.guards = some [] → Env0 P w K mg base A o s H → BindsTo s fd ar (ps.zip us) → Vals vs us → sp vs H Q E →
    codeAny (model P w) A (.call (.ref f) ar) (CR CX0 o P w H s Q E) s
structure Dg (P : Program) (w : World) (K : PySem.W.Frag) (mg : Str → Option Value) (base : Heap) (k : Nat) (x : Str) (ps : List Str) (sp : Sp) : Prop where
  ex : ∃ f fd, mg x = some (.ref f) ∧ PySem.W.keepIn K (.ref f) = true ∧ Binds K fd ps [] ∧ FnG P w K mg base k f fd ps sp
section
variable {P : Program} {w : World} {K : PySem.W.Frag} {mg : Str → Option Value} {base : Heap}
theorem fng_mk {x qual : Str} {st : Stmt} {N ps : List Str} {k : Nat} {sp : Sp} {f : Addr} (hF : ∃ fd, FunD K x qual (defArgs st) (defBody st) (defScope st) [] [] f fd) (S : FnScope N ps (defScope st))
    (hb : ∀ (kV doc pm : Value) (an : Option Addr) (cdv ct : Value) (us : List Value), us.length = ps.length → bindArgs (PySem.W.fnOf x qual (defArgs st) (defBody st) (defScope st) .none kV doc pm an cdv ct) ⟨us, []⟩ = pure (ps.zip us))
    (len : ∀ vs H Q E, sp vs H Q E → vs.length = ps.length)
    (body : ∀ (cdv : Value) (A : Around) (o : List Env) (s : Shared) (H : Hp) (vs : List V) (Q : VK) (E : XK), A.guards = some [] → Room k (A.deeper (envOfC qual (defScope st) s.heap.objs.size f cdv)) → sp vs H Q E →
      ∃ t, PSs (Cb P w K mg base N qual st f cdv A o s H E) (defBody st) t ∧ t { nx := fun _ H' => Q .non H', rt := Q } (start N vs) H) :
    ∃ fd, PySem.W.keepIn K (.ref f) = true ∧ Binds K fd ps [] ∧ FnG P w K mg base (k + 1) f fd ps sp := by
  obtain ⟨fd, F⟩ := hF
  refine ⟨fd, F.kp, F.bindsN hb, len, ?_⟩
  obtain ⟨oc, od, dV, kV, doc, pm, an, cdv, ct, osl, rfl, lk, hcd, _, _⟩ := F.ex
  intro A o s H ar us vs Q E room gd en hbt r hsp
  have room1 := room.deeper (envOfC qual (defScope st) s.heap.objs.size f cdv)
  have vl : vs.length = ps.length := len vs H Q E hsp
  have inK : K.In s.heap := en.mod.kin.keeps (fun b ob q => (en.bs b ob q).1)
  have noLim : s.heap.NoLimit := en.mod.nolimit.keeps (fun b ob q => (en.bs b ob q).1)
  have kinds : ∀ z ∈ ps.zip us, (defScope st).names.lookup z.1 = some .local ∨ ((defScope st).names.lookup z.1 = some .cell ∧ ((cellsFrom (s.heap.objs.size + 1) (defScope st).names []).lookup z.1).isSome = true) := by
    rintro ⟨n, v⟩ hz
    have hm := S.par n (List.of_mem_zip hz).1
    exact hm.imp id fun q => ⟨q, PySem.W.cellsFrom_some _ _ _ (.inl q)⟩
  refine codeAny_call_function room.depth (inK _ _ lk) rfl S.co S.gen rfl (PySem.W.codeRec_of inK hcd) (hbt _ _ _ _ ?_)
  refine wpAny_newFunctionEnv_cells S.kind kinds fun env he s1 made => ?_
  subst he
  refine ⟨noLim.keeps made.toInCall.keep, codeAny_func ?_⟩
  obtain ⟨t, hps, ht⟩ := body cdv A o s H vs Q E gd room1 hsp
  have I0 : Inv (cxOf CX0 P w K mg base N qual (defScope st) f cdv A o s H E) [] (start N vs) H s1 := inv_start S room.hd en vl r made
  refine wpAny_mono (hps.nox.run [] s1 (start N vs) H _ I0 ht) (fun fl s' z => ?_) (fun _ _ z => z)
  have out : ∀ {σ' : L2.St} {H' : Hp} {v : V} {u : Value}, Inv (cxOf CX0 P w K mg base N qual (defScope st) f cdv A o s H E) [] σ' H' s' → RelV v u → Q v H' → CE o P w H s Q u s' := by
    intro σ' H' v u J rv qv
    exact ⟨v, H', J.os, J.bare, J.base, J.hok, rv, qv⟩
  rcases fl with _ | _ | _ | u
  · obtain ⟨σ', H', J, qv⟩ := z
    exact out (v := V.non) (u := Value.none) J rfl qv
  · obtain ⟨_, _, _, bad⟩ := z
    exact bad.elim
  · obtain ⟨_, _, _, bad⟩ := z
    exact bad.elim
  · obtain ⟨v, σ', H', J, rv, qv⟩ := z
    exact out J rv qv
theorem dg_mk {x : Str} {st : Stmt} {N ps : List Str} {k : Nat} {sp : Sp} (hF : ∃ fd, FunD K x x (defArgs st) (defBody st) (defScope st) [] [] (ga K x) fd) (hg : mg x = some (.ref (ga K x))) (S : FnScope N ps (defScope st))
    (hb : ∀ (kV doc pm : Value) (an : Option Addr) (cdv ct : Value) (us : List Value), us.length = ps.length → bindArgs (PySem.W.fnOf x x (defArgs st) (defBody st) (defScope st) .none kV doc pm an cdv ct) ⟨us, []⟩ = pure (ps.zip us))
    (len : ∀ vs H Q E, sp vs H Q E → vs.length = ps.length)
    (body : ∀ (cdv : Value) (A : Around) (o : List Env) (s : Shared) (H : Hp) (vs : List V) (Q : VK) (E : XK), A.guards = some [] → Room k (A.deeper (envOfC x (defScope st) s.heap.objs.size (ga K x) cdv)) → sp vs H Q E →
      ∃ t, PSs (Cb P w K mg base N x st (ga K x) cdv A o s H E) (defBody st) t ∧ t { nx := fun _ H' => Q .non H', rt := Q } (start N vs) H) :
    Dg P w K mg base (k + 1) x ps sp := by
  obtain ⟨fd, h1, h2, h3⟩ := fng_mk hF S hb len body
  exact ⟨_, fd, hg, h1, h2, h3⟩
end
section
variable {X : Cx} {k k' : Nat} {x : Str} {ps : List Str} {sp : Sp} {e : Expr} {es : List Expr} {t : TA} {p pos : Pos}
theorem sk_callG (D : Dg X.prog X.w X.K X.mg X.base k x ps sp) (hr : Room k' X.A) (gd : X.A.guards = some []) (ha : PA X (e :: es) t) (hk : k ≤ k' := by decide) (hg : Gl X x := by rfl) (hdb : (x == ("__debug__" : Str)) = false := by decide)
    (he : starEach (e :: es) X.env = (false, eval e X.env) :: starEach es X.env := by rfl) (hpl : (backTo pos (starEach es X.env)).any (·.1) = false := by rfl) :
    PE X (.Call (.Name x p) (e :: es) [] pos) (tCall sp [] E0 t) := by
  obtain ⟨f, fd, h1, h2, h3, F⟩ := D.ex
  refine ⟨fun pins s σ H Q I h => ?_⟩
  refine wpAny_Call_Name_kw (ld_glob I hg h1 ?_ hdb)
  refine PySem.W.callWith_K (h₀ := X.base) I.ok.mod.kin h2 (thn (ha.run pos pins s σ H _ I h) fun us s1 ⟨vs, H1, I1, r, q⟩ => ⟨I1.kIn, ?_⟩) he hpl
  have q : sp (vs ++ []) H1 Q E0 := q
  rw [List.append_nil] at q
  have hl : us.length = ps.length := by rw [← r.length]; exact F.len _ _ _ _ q
  have hb := h3 s1 us I1.kIn (by rw [List.append_nil]; exact hl)
  rw [List.append_nil] at hb
  refine wpAny_call (codeAny_mono (F.go X.A X.stack s1 H1 ⟨us, []⟩ us vs Q E0 (hr.mono hk) gd I1.env0 hb r q) fun rs s' z => ?_)
  rcases rs with er | fl
  · exact pass0 pins σ H1 s1 er s' I1 z
  · rcases fl with _ | _ | _ | u
    · exact False.elim z
    · exact False.elim z
    · exact False.elim z
    · exact I1.after z
end
end Wk
end

section
set_option Elab.async false
set_option linter.all false
set_option maxRecDepth 100000
set_option maxHeartbeats 4000000
/-! rules of its own: sets of pairs, at the library's level -/
namespace Wk
open PySem PySem.Spec PyProof.Rows L2
section
variable {P : Program} {w : World} {A : Around} {E : Value → Shared → Prop} {s : Shared}
theorem plainClass_tuple {n m : Nat} {b : Addr} {o : Obj} {items : Array Value} {Q : Bool → Shared → Prop} (ho : s.heap.get? b = some o) (hc : o.cls = .type "tuple") (hd : o.data = .seq items m)
    (each : ∀ v ∈ items.toList, ∀ (A : Around) (E : Value → Shared → Prop) (R : Bool → Shared → Prop), R false s → wpAny (model P w) A (ofAClassStatement n v) R E s) (h : Q false s) : wpAny (model P w) A (ofAClassStatement (n + 1) (.ref b)) Q E s := by
  have tT : s.TypeIs (.ref b) "tuple" := ⟨o, ho, hc⟩
  unfold ofAClassStatement
  refine wpAny_bind (wpAny_typeOf tT ?_)
  dsimp only
  have same : (("tuple" : String) == "tuple") = true := by decide
  simp only [same, if_true, Bool.not_true, Bool.false_eq_true, if_false]
  try refine wpAny_bind (wpAny_pure ?_)
  try simp only [Bool.not_true, Bool.false_eq_true, if_false]
  show wpAny _ _ (seqItems? (.ref b) >>= _) _ _ s
  refine wpAny_bind (wpAny_seqItems ho hd ?_)
  dsimp only
  refine wpAny_bind ?_
  show wpAny _ _ (forIn items _ _) _ _ s
  rw [← Array.forIn_toList]
  refine wpAny_forIn_list _ (fun rest r st => r.1 = none ∧ st = s ∧ ∀ v ∈ rest, v ∈ items.toList) _ ?_ ?_ _ _ ⟨rfl, rfl, fun v hv => hv⟩
  · rintro v rest r st ⟨r0, rfl, sub⟩
    refine wpAny_bind (each v (sub v List.mem_cons_self) _ _ _ ?_)
    simp only [Bool.false_eq_true, if_false]
    exact wpAny_pure ⟨rfl, rfl, fun u hu => sub u (List.mem_cons_of_mem _ hu)⟩
  · rintro ⟨r1, r2⟩ st ⟨r0, rfl, _⟩
    simp only at r0
    subst r0
    exact wpAny_pure h
theorem byVal_tuple {n m : Nat} {b : Addr} {o : Obj} {items : Array Value} {Q : Bool → Shared → Prop} (ho : s.heap.get? b = some o) (hc : o.cls = .type "tuple") (hd : o.data = .seq items m)
    (each : ∀ v ∈ items.toList, ∀ (A : Around) (E : Value → Shared → Prop) (R : Bool → Shared → Prop), R true s → wpAny (model P w) A (hashByValue n v) R E s) (h : Q true s) : wpAny (model P w) A (hashByValue (n + 1) (.ref b)) Q E s := by
  have tT : s.TypeIs (.ref b) "tuple" := ⟨o, ho, hc⟩
  unfold hashByValue
  refine wpAny_bind (wpAny_specialOf tT PySem.F.slot_tuple_hash.lookup ?_)
  show wpAny _ _ (seqItems? (.ref b) >>= _) _ _ s
  refine wpAny_bind (wpAny_seqItems ho hd ?_)
  refine wpAny_bind ?_
  show wpAny _ _ (forIn items _ _) _ _ s
  rw [← Array.forIn_toList]
  refine wpAny_forIn_list _ (fun rest r st => r.1 = none ∧ st = s ∧ ∀ v ∈ rest, v ∈ items.toList) _ ?_ ?_ _ _ ⟨rfl, rfl, fun v hv => hv⟩
  · rintro v rest r st ⟨r0, rfl, sub⟩
    refine wpAny_bind (each v (sub v List.mem_cons_self) _ _ _ ?_)
    simp only [Bool.not_true, Bool.false_eq_true, if_false]
    exact wpAny_pure ⟨rfl, rfl, fun u hu => sub u (List.mem_cons_of_mem _ hu)⟩
  · rintro ⟨r1, r2⟩ st ⟨r0, rfl, _⟩
    simp only at r0
    subst r0
    exact wpAny_pure h
/-- a nested key: numbers, tuples of such -/
def NumKey : NestedKey → Prop
  | .num _ => True
  | .tup ks => ∀ k ∈ ks, match k with
    | .num _ => True
    | .tup js => ∀ j ∈ js, ∃ i, j = .num i
    | _ => False
  | _ => False
theorem all_of {h : Heap} : ∀ {ks : List NestedKey} {vs : List Value}, NestedAll h ks vs → ∀ v ∈ vs, ∃ k ∈ ks, NestedIs h k v
  | _, _, .nil, v, hv => by cases hv
  | _, _, .cons r t, v, hv => by
    rcases List.mem_cons.mp hv with rfl | hv
    · exact ⟨_, List.mem_cons_self, r⟩
    · obtain ⟨k, h1, h2⟩ := all_of t v hv
      exact ⟨k, List.mem_cons_of_mem _ h1, h2⟩
theorem num_cls {n : Nat} {i : Int} {v : Value} (x : NestedIs s.heap (.num i) v) {Q : Bool → Shared → Prop} (h : Q false s) : wpAny (model P w) A (ofAClassStatement n v) Q E s := by
  have e : ofAClassStatement n v = pure false := by cases x <;> cases n <;> rfl
  rw [e]
  exact wpAny_pure h
theorem num_byv {n : Nat} {i : Int} {v : Value} (x : NestedIs s.heap (.num i) v) {Q : Bool → Shared → Prop} (h : Q true s) : wpAny (model P w) A (hashByValue n v) Q E s := by
  have e : hashByValue n v = pure true := by cases x <;> cases n <;> rfl
  rw [e]
  exact wpAny_pure h
theorem nums_is {st : List Int} {v : Value} {n : Nat} (x : NestedIs s.heap (.tup (st.map .num)) v) {Q : Bool → Shared → Prop} (h : Q false s) : wpAny (model P w) A (ofAClassStatement (n + 1) v) Q E s := by
  cases x with
  | tup h1 h2 h3 h4 =>
    refine plainClass_tuple h1 h2 h3 (fun v hv A E R hR => ?_) h
    obtain ⟨k, hk, hv⟩ := all_of h4 v hv
    obtain ⟨i, _, rfl⟩ := List.mem_map.mp hk
    exact num_cls hv hR
theorem nums_byv {st : List Int} {v : Value} {n : Nat} (x : NestedIs s.heap (.tup (st.map .num)) v) {Q : Bool → Shared → Prop} (h : Q true s) : wpAny (model P w) A (hashByValue (n + 1) v) Q E s := by
  cases x with
  | tup h1 h2 h3 h4 =>
    refine byVal_tuple h1 h2 h3 (fun v hv A E R hR => ?_) h
    obtain ⟨k, hk, hv⟩ := all_of h4 v hv
    obtain ⟨i, _, rfl⟩ := List.mem_map.mp hk
    exact num_byv hv hR
abbrev IsP (P : Program) (w : World) (h : Heap) (k : Pk) (a : Addr) : Prop := (pairKind P w).is h k a
theorem pair_cls {k : Pk} {b : Addr} {Q : Bool → Shared → Prop} (x : IsP P w s.heap k b) (h : Q false s) : wpAny (model P w) A (ofAClassStatement 8 (.ref b)) Q E s := by
  obtain ⟨x, _⟩ := x
  cases x with
  | tup h1 h2 h3 h4 =>
    refine plainClass_tuple h1 h2 h3 (fun v hv A E R hR => ?_) h
    obtain ⟨j, hj, hv⟩ := all_of h4 v hv
    rcases List.mem_cons.mp hj with rfl | hj
    · exact num_cls hv hR
    · obtain rfl := List.mem_singleton.mp hj
      exact nums_is hv hR
theorem pair_byv {k : Pk} {b : Addr} {Q : Bool → Shared → Prop} (x : IsP P w s.heap k b) (h : Q true s) : wpAny (model P w) A (hashByValue 8 (.ref b)) Q E s := by
  obtain ⟨x, _⟩ := x
  cases x with
  | tup h1 h2 h3 h4 =>
    refine byVal_tuple h1 h2 h3 (fun v hv A E R hR => ?_) h
    obtain ⟨j, hj, hv⟩ := all_of h4 v hv
    rcases List.mem_cons.mp hj with rfl | hj
    · exact num_byv hv hR
    · obtain rfl := List.mem_singleton.mp hj
      exact nums_byv hv hR
/-- a search among pairs shows nothing -/
theorem pair_seen {k : Pk} {b : Addr} {Q : Bool → Shared → Prop} (hk : IsP P w s.heap k b) {ys : List Value} (hy : ∀ y ∈ ys, ∃ j c, y = Value.ref c ∧ IsP P w s.heap j c) (h : Q false s) :
    wpAny (model P w) A (searchCouldBeSeen (.ref b) ys) Q E s := by
  unfold searchCouldBeSeen
  refine wpAny_bind ?_
  refine wpAny_forIn_list _ (fun rest r st => r.1 = none ∧ st = s ∧ ∀ y ∈ rest, ∃ j c, y = Value.ref c ∧ IsP P w s.heap j c) _ ?_ ?_ _ _ ⟨rfl, rfl, hy⟩
  · rintro v rest r st ⟨r0, rfl, all⟩
    obtain ⟨j, c, rfl, hc⟩ := all v List.mem_cons_self
    have more : ∀ y ∈ rest, ∃ j c, y = Value.ref c ∧ IsP P w st.heap j c := fun u hu => all u (List.mem_cons_of_mem _ hu)
    dsimp only
    by_cases q : (b == c || (carriedByValue (.ref b) && carriedByValue (.ref c))) = true
    · exact wp_if_pos q (wpAny_pure ⟨rfl, rfl, more⟩)
    · refine wp_if_neg q ?_
      refine wpAny_bind ((pairKind P w).quiet hk ?_)
      simp only [Bool.not_true, Bool.false_eq_true, if_false]
      refine wpAny_bind ((pairKind P w).quiet hc ?_)
      simp only [Bool.not_true, Bool.false_eq_true, if_false]
      refine wpAny_bind (pair_cls hk ?_)
      simp only [Bool.false_eq_true, if_false]
      refine wpAny_bind (pair_cls hc ?_)
      simp only [Bool.false_eq_true, if_false]
      exact wpAny_pure ⟨rfl, rfl, more⟩
  · rintro ⟨r1, r2⟩ st ⟨r0, rfl, _⟩
    simp only at r0
    subst r0
    exact wpAny_pure h
end
end Wk
end

section
set_option Elab.async false
set_option linter.all false
set_option maxRecDepth 100000
set_option maxHeartbeats 4000000
/-! rules of its own: a set of at most two pairs: search, add -/
namespace Wk
open PySem PySem.Spec PyProof.Rows L2
abbrev hsP (P : Program) (w : World) (k : Pk) : Int := (pairKind P w).hash k
def rowsP (P : Program) (w : World) (L : List (Addr × Pk)) : List (Int × Value) := L.map fun p => (hsP P w p.2, Value.ref p.1)
structure PsR (P : Program) (w : World) (h : Heap) (a : Addr) (L : List (Addr × Pk)) (es : Array (Int × Value)) (ep : Nat) (t : SetTable) : Prop where
  obj : ∃ o, h.get? a = some o ∧ o.ExactSet ∧ o.data = .set es ep t
  rows : es.toList = rowsP P w L
  tab : TabOk t (L.map fun p => hsP P w p.2)
  nd : (L.map (·.2)).Nodup
  isk : ∀ p ∈ L, IsP P w h p.2 p.1
  plain : t.plain = true
  led : w.params.followText "set-order" = true ∨ t.led = true
  m7 : t.mask = 7
  two : L.length ≤ 2
section
variable {P : Program} {w : World} {A : Around} {E : Value → Shared → Prop} {s : Shared} {a : Addr} {L : List (Addr × Pk)} {es : Array (Int × Value)} {ep : Nat} {t : SetTable}
theorem PsR.size (R : PsR P w s.heap a L es ep t) : es.size = L.length := by
  have e := congrArg List.length R.rows
  rw [rowsP, Array.length_toList, List.length_map] at e
  exact e
theorem PsR.fits (R : PsR P w s.heap a L es ep t) : t.fits es.size = true := by
  have e1 := R.tab.sz
  have e2 := R.size
  have e3 := R.m7
  have e4 := R.two
  rw [List.length_map] at e1
  unfold SetTable.fits SetTable.fill
  rw [R.tab.dm, Bool.and_eq_true, beq_iff_eq, decide_eq_true_eq]
  show t.place.size = es.size ∧ t.place.size + 0 ≤ t.mask
  omega
theorem PsR.entry (R : PsR P w s.heap a L es ep t) {i : Nat} {p : Addr × Pk} (h : L[i]? = some p) : es[i]? = some (hsP P w p.2, Value.ref p.1) := by
  rw [← Array.getElem?_toList, R.rows, rowsP, List.getElem?_map, h, Option.map_some]
theorem PsR.gw (R : PsR P w s.heap a L es ep t) : ¬ t.gaveWay = true := by
  unfold SetTable.gaveWay
  rw [R.m7]
  decide
abbrev stP (P : Program) (w : World) (t : SetTable) (k : Pk) (c : Nat) : SetTable.Probe := nth t.mask (runAt t.mask (SetTable.bits (hsP P w k) % (t.mask + 1)) (SetTable.bits (hsP P w k))) c
theorem stP_add (k : Pk) (c q : Nat) : nth t.mask (stP P w t k c) q = stP P w t k (c + q) := (nth_add t.mask c _ q).symm
theorem stP_j (k : Pk) (c q : Nat) : (nth t.mask (stP P w t k c) q).j = way t.mask (hsP P w k) (c + q) := congrArg SetTable.Probe.j (stP_add k c q)
theorem stP_nd (k : Pk) : ∀ c, (stP P w t k c).dummy = none := by
  have key : ∀ (n : Nat) (p : SetTable.Probe), p.dummy = none → (nth t.mask p n).dummy = none := by
    intro n
    induction n with
    | zero => exact fun p h => h
    | succ n ih =>
      intro p h
      refine ih (adv t.mask p) ?_
      unfold adv
      split <;> exact h
  exact fun c => key c _ rfl
/-- the entries of the table's slots -/
theorem PsR.at_ (R : PsR P w s.heap a L es ep t) {i j : Nat} (h : t.place.toList[i]? = some j) : ∃ p, L[i]? = some p ∧ p ∈ L := by
  have h1 : i < t.place.toList.length := (List.getElem?_eq_some_iff.mp h).1
  have h2 := R.tab.sz
  rw [List.length_map] at h2
  rw [Array.length_toList] at h1
  have hi : i < L.length := by omega
  exact ⟨L[i], List.getElem?_eq_getElem hi, List.getElem_mem hi⟩
theorem PsR.hash (R : PsR P w s.heap a L es ep t) {i : Nat} {p : Addr × Pk} (h : L[i]? = some p) : (fun i => (es[i]?.map (·.1)).getD 0) i = hsP P w p.2 := by
  show (es[i]?.map (·.1)).getD 0 = _
  rw [R.entry h, Option.map_some, Option.getD_some]
/-- one step of a search, at the place c of the way -/
theorem ps_step (R : PsR P w s.heap a L es ep t) {x : Addr} {k : Pk} (hx : IsP P w s.heap k x) {K c f : Nat} {stand : Option SetTable.Probe} (hKf : K < 10 * SetTable.turns t.mask) (hK : way t.mask (hsP P w k) K ∉ t.place.toList) (hKb : ∀ c, c < K → way t.mask (hsP P w k) c ∈ t.place.toList)
    (hst : stand.getD (t.probeStart (hsP P w k)) = stP P w t k c) (hc : c ≤ K) {Q : SetFound → Shared → Prop}
    (cand : ∀ (q i : Nat) (p : Addr × Pk), q < K - c → t.place.toList[i]? = some (way t.mask (hsP P w k) (c + q)) → L[i]? = some p → p ∈ L →
      wpAny (model P w) A (searchRest a (.ref x) (hsP P w k) true f es t (way t.mask (hsP P w k) (c + q)) i (stP P w t k (c + (q + 1)))) Q E s)
    (free : (∀ (q i : Nat) (p : Addr × Pk), q < K - c → t.place.toList[i]? = some (way t.mask (hsP P w k) (c + q)) → L[i]? = some p → hsP P w p.2 ≠ hsP P w k) → Q (.free (way t.mask (hsP P w k) K) false) s) :
    wpAny (model P w) A (setSearchFrom a (.ref x) (hsP P w k) true (f + 1) stand) Q E s := by
  obtain ⟨o, ho, hex, hd⟩ := R.obj
  rw [setSearchFrom_succ]
  refine wpAny_bind (wpAny_setState_of ho hd R.fits ?_)
  dsimp only
  refine wp_if_neg R.gw ?_
  try refine wpAny_bind (wpAny_pure ?_)
  have spec := go_spec t R.tab.ris R.tab.dm (fun i => (es[i]?.map (·.1)).getD 0) (hsP P w k) (10 * SetTable.turns t.mask) (K - c) (stP P w t k c) (stP_nd k c) (by omega)
    (fun q hq => by rw [stP_j]; exact hKb (c + q) (by omega)) (by rw [stP_j, show c + (K - c) = K by omega]; exact hK)
  rcases spec with ⟨q, i, hq, hi, hh, hno, hpr⟩ | ⟨hno, hpr⟩
  · have hpr2 : t.probe (fun i => (es[i]?.map (·.1)).getD 0) (hsP P w k) (stand.getD (t.probeStart (hsP P w k))) = some (.candidate (way t.mask (hsP P w k) (c + q)) i (stP P w t k (c + (q + 1)))) := by
      rw [hst, ← stP_j, ← stP_add]
      exact hpr
    rw [hpr2]
    dsimp only
    rw [stP_j] at hi
    obtain ⟨p, hp, hm⟩ := R.at_ hi
    have rest := cand q i p hq hi hp hm
    by_cases hl : t.led = true
    · refine wp_if_neg (by simp [hl]) ?_
      try refine wpAny_bind (wpAny_pure ?_)
      exact rest
    · refine wp_if_pos (by simp [hl]) ?_
      refine wpAny_bind (pair_seen hx (fun y hy => ?_) ?_)
      · obtain ⟨en, he, ee⟩ := List.mem_map.mp hy
        have he1 : en ∈ es ∧ en.1 = hsP P w k := by simpa using he
        have he2 : en ∈ es.toList := by simpa using he1.1
        rw [R.rows] at he2
        obtain ⟨p2, hp2, e2⟩ := List.mem_map.mp he2
        exact ⟨p2.2, p2.1, by rw [← ee, ← e2], R.isk p2 hp2⟩
      · refine wp_if_neg (by decide) ?_
        try refine wpAny_bind (wpAny_pure ?_)
        exact rest
  · have hpr2 : t.probe (fun i => (es[i]?.map (·.1)).getD 0) (hsP P w k) (stand.getD (t.probeStart (hsP P w k))) = some (.empty (way t.mask (hsP P w k) K) none) := by
      have e2 : way t.mask (hsP P w k) K = (nth t.mask (stP P w t k c) (K - c)).j := by rw [stP_j, show c + (K - c) = K by omega]
      rw [hst, e2]
      exact hpr
    rw [hpr2]
    dsimp only
    refine wpAny_pure (free fun q i p hq hi hp e => ?_)
    refine hno q i hq (by rw [stP_j]; exact hi) ?_
    exact (R.hash hp).trans e
/-- a candidate that isn't it -/
theorem ps_other (R : PsR P w s.heap a L es ep t) {x : Addr} {k : Pk} (hx : IsP P w s.heap k x) (hu : (pairKind P w).room A) {f i j : Nat} {p : Addr × Pk} {nx : SetTable.Probe} (hi : t.place.toList[i]? = some j) (hp : L[i]? = some p) (hm : p ∈ L) (ne : p.2 ≠ k) {Q : SetFound → Shared → Prop}
    (go : wpAny (model P w) A (setSearchFrom a (.ref x) (hsP P w k) true f (some nx)) Q E s) : wpAny (model P w) A (searchRest a (.ref x) (hsP P w k) true f es t j i nx) Q E s := by
  obtain ⟨o, ho, hex, hd⟩ := R.obj
  unfold searchRest
  rw [R.entry hp]
  dsimp only
  refine wpAny_bind (wpAny_holding ((pairKind P w).eqBool hu (R.isk p hm) hx ?_))
  refine wpAny_bind (wpAny_setState_of ho hd R.fits ?_)
  dsimp only
  refine wp_if_neg (by simp [ne]) ?_
  try refine wpAny_bind (wpAny_pure ?_)
  rw [sameMem]
  dsimp only
  have live : t.slot j = .live i := slot_live R.tab.ris hi
  simp only [if_true, live, R.entry hp]
  refine wpAny_bind (wpAny_isSame_ref_self (wpAny_bind (wpAny_pure ?_)))
  simp only [if_true]
  exact wp_if_neg (by simp [ne]) go
/-- the candidate that is it -/
theorem ps_found (R : PsR P w s.heap a L es ep t) {x : Addr} {k : Pk} (hx : IsP P w s.heap k x) (hu : (pairKind P w).room A) {f i j : Nat} {p : Addr × Pk} {nx : SetTable.Probe} (hp : L[i]? = some p) (hm : p ∈ L) (e : p.2 = k) {Q : SetFound → Shared → Prop}
    (h : Q (.there none) s) : wpAny (model P w) A (searchRest a (.ref x) (hsP P w k) true f es t j i nx) Q E s := by
  obtain ⟨o, ho, hex, hd⟩ := R.obj
  unfold searchRest
  rw [R.entry hp]
  dsimp only
  refine wpAny_bind (wpAny_holding ((pairKind P w).eqBool hu (R.isk p hm) hx ?_))
  refine wpAny_bind (wpAny_setState_of ho hd R.fits ?_)
  dsimp only
  exact wp_if_pos (by simp [e]) (wpAny_pure h)
theorem ps_miss (R : PsR P w s.heap a L es ep t) {x : Addr} {k : Pk} (hx : IsP P w s.heap k x) (hu : (pairKind P w).room A) (hn : ∀ p ∈ L, p.2 ≠ k) {K : Nat} (hKf : K < 10 * SetTable.turns t.mask) (hK : way t.mask (hsP P w k) K ∉ t.place.toList) (hKb : ∀ c, c < K → way t.mask (hsP P w k) c ∈ t.place.toList) {Q : SetFound → Shared → Prop}
    (h : Q (.free (way t.mask (hsP P w k) K) false) s) : ∀ (f c : Nat) (stand : Option SetTable.Probe), stand.getD (t.probeStart (hsP P w k)) = stP P w t k c → c ≤ K → K - c < f → wpAny (model P w) A (setSearchFrom a (.ref x) (hsP P w k) true f stand) Q E s
  | 0, c, stand, _, _, hf => absurd hf (Nat.not_lt_zero _)
  | f + 1, c, stand, hst, hc, hf => ps_step R hx hKf hK hKb hst hc (fun q i p hq hi hp hm => ps_other R hx hu hi hp hm (hn p hm) (ps_miss R hx hu hn hKf hK hKb h f (c + (q + 1)) _ rfl (by omega) (by omega))) fun _ => h
/-- the search as add asks for it, where there is one at most -/
theorem ps_search (R : PsR P w s.heap a L es ep t) (one : L.length ≤ 1) {x : Addr} {k : Pk} (hx : IsP P w s.heap k x) (hu : (pairKind P w).room A) {Q : SetFound → Shared → Prop} (hin : k ∈ L.map (·.2) → Q (.there none) s)
    (hout : ∀ K, k ∉ L.map (·.2) → way t.mask (hsP P w k) K ∉ t.place.toList → (∀ c, c < K → way t.mask (hsP P w k) c ∈ t.place.toList) → Q (.free (way t.mask (hsP P w k) K) false) s) :
    wpAny (model P w) A (setSearch a (.ref x) (hsP P w k) true) Q E s := by
  obtain ⟨K, hKf, hK, hKb⟩ := R.tab.first (by rw [List.length_map, R.m7]; omega) (hsP P w k)
  have hbig : K < 100000 := by
    have e : 10 * SetTable.turns t.mask ≤ 1420 := by
      unfold SetTable.turns
      rw [R.m7]
      omega
    omega
  unfold setSearch
  obtain ⟨F, hF⟩ : ∃ F : Nat, (100000 : Nat) = F + 1 := ⟨99999, by decide⟩
  rw [hF]
  by_cases hm : k ∈ L.map (·.2)
  · obtain ⟨p0, hp0, e0⟩ := List.mem_map.mp hm
    have all : ∀ p ∈ L, p = p0 := by
      match L, one, hp0 with
      | [y], _, hy => exact fun p hp => (List.mem_singleton.mp hp).trans (List.mem_singleton.mp hy).symm
    refine ps_step R hx hKf hK hKb (c := 0) (f := F) (stand := none) rfl (Nat.zero_le _) (fun q i p hq hi hp hpm => ps_found R hx hu hp hpm (by rw [all p hpm]; exact e0) (hin hm)) fun hno => ?_
    obtain ⟨i0, hi0⟩ := List.getElem?_of_mem hp0
    have hil : i0 < t.place.toList.length := by
      have h1 : i0 < L.length := (List.getElem?_eq_some_iff.mp hi0).1
      have h2 := R.tab.sz
      rw [List.length_map] at h2
      rw [Array.length_toList]
      omega
    have hj := List.getElem?_eq_getElem hil
    have hi : (L.map fun p => hsP P w p.2)[i0]? = some (hsP P w k) := by rw [List.getElem?_map, hi0, ← e0, Option.map_some]
    obtain ⟨c, hc, e⟩ := R.tab.before hK hi hj
    exact absurd (by rw [e0]) (hno c i0 p0 (by omega) (by rw [Nat.zero_add, hj, e]) hi0)
  · exact ps_miss R hx hu (fun p hp e => hm (List.mem_map.mpr ⟨p, hp, e⟩)) hKf hK hKb (hout K hm hK hKb) (F + 1) 0 none rfl (Nat.zero_le _) (by omega)
end
end Wk
end

section
set_option Elab.async false
set_option linter.all false
set_option maxRecDepth 100000
set_option maxHeartbeats 4000000
/-! rules of its own: a set of at most two pairs: add, sorted -/
namespace Wk
open PySem PySem.Spec PyProof.Rows L2
section
variable {P : Program} {w : World} {A : Around} {E : Value → Shared → Prop} {s : Shared} {a : Addr} {L : List (Addr × Pk)} {es : Array (Int × Value)} {ep : Nat} {t : SetTable}
theorem isP_same {h h' : Heap} {k : Pk} {b : Addr} {o : Obj} (x : IsP P w h k b) (ho : h.get? a = some o) (hd : o.data = .set es ep t) (hs : Heap.SameBut a h h') : IsP P w h' k b := by
  refine ⟨NestedIs.at (fun c oc vs n hc hdc => ?_) _ _ x.1, x.2⟩
  refine (hs.2 c fun z => ?_).trans hc
  subst z
  rw [ho] at hc
  cases hc
  rw [hd] at hdc
  cases hdc
theorem rowsP_put (L : List (Addr × Pk)) (p : Nat) (x : Addr) (k : Pk) : rowsP P w (L.take p ++ (x, k) :: L.drop p) = (rowsP P w L).take p ++ (hsP P w k, Value.ref x) :: (rowsP P w L).drop p := by
  simp only [rowsP, List.map_append, List.map_cons, List.map_take, List.map_drop]
theorem ps_add (R : PsR P w s.heap a L es ep t) (one : L.length ≤ 1) {x : Addr} {k : Pk} (hx : IsP P w s.heap k x) (hu : (pairKind P w).room A) {Q : Bool → Shared → Prop}
    (hQ : ∀ b h' L' es' ep' t', Heap.SameBut a s.heap h' → PsR P w h' a L' es' ep' t' → (k ∈ L.map (·.2) → L' = L) → (k ∉ L.map (·.2) → L'.Perm ((x, k) :: L)) → Q b { s with heap := h' }) :
    wpAny (model P w) A (setAddHashed a (.ref x) (hsP P w k)) Q E s := by
  obtain ⟨o, ho, hex, hd⟩ := R.obj
  have size := R.size
  have m7 := R.m7
  unfold setAddHashed
  refine wpAny_holding ?_
  obtain ⟨F, hF⟩ : ∃ F : Nat, (100000 : Nat) = F + 1 := ⟨99999, by decide⟩
  rw [hF, setAddHashedIn_succ]
  refine wpAny_bind (wpAny_setState_of ho hd R.fits ?_)
  dsimp only
  refine wp_if_neg (by simp [byScan, Value.scannable]) ?_
  try refine wpAny_bind (wpAny_pure ?_)
  refine wpAny_bind (ps_search R one hx hu (fun hm => ?_) fun K hm hK hb => ?_)
  · dsimp only
    exact wpAny_pure (hQ false s.heap L es ep t (Heap.SameBut.refl a s.heap) R (fun _ => rfl) fun z => absurd hm z)
  · dsimp only
    refine wpAny_bind (wpAny_setState_of ho hd R.fits ?_)
    dsimp only
    obtain ⟨q1, q2, q3, q4, q5, q6, q7, q8, q9⟩ := R.tab.put hK hb
    have pl1 : (t.put (way t.mask (hsP P w k) K)).1.plain = true := by rw [q6]; exact R.plain
    generalize t.put (way t.mask (hsP P w k) K) = pt at q1 q3 q4 q5 q6 q7 q8 q9 pl1 ⊢
    obtain ⟨t1, p⟩ := pt
    dsimp only at q1 q3 q4 q5 q6 q7 q8 q9 pl1 ⊢
    subst q1
    first
      | (refine wpAny_bind ?_; refine wp_if_pos pl1 ?_; refine pair_byv hx ?_)
      | refine wp_if_pos pl1 (wpAny_bind (pair_byv hx ?_))
    simp only [if_true]
    have ins : (SetTable.insertAt es (SetTable.below t.place (way t.mask (hsP P w k) K)) (hsP P w k, Value.ref x)).toList = rowsP P w (L.take (SetTable.below t.place (way t.mask (hsP P w k) K)) ++ (x, k) :: L.drop (SetTable.below t.place (way t.mask (hsP P w k) K))) := by
      rw [SetTable.toList_insertAt, rowsP_put, R.rows]
    generalize SetTable.below t.place (way t.mask (hsP P w k) K) = p at q2 q3 ins ⊢
    have pm : (L.take p ++ (x, k) :: L.drop p).Perm ((x, k) :: L) := by
      have e := List.perm_middle (a := (x, k)) (l₁ := L.take p) (l₂ := L.drop p)
      rw [List.take_append_drop] at e
      exact e
    have len : (L.take p ++ (x, k) :: L.drop p).length = L.length + 1 := pm.length_eq
    have hh : (L.take p ++ (x, k) :: L.drop p).map (fun p => hsP P w p.2) = (L.map fun p => hsP P w p.2).take p ++ hsP P w k :: (L.map fun p => hsP P w p.2).drop p := by
      rw [List.map_append, List.map_cons, List.map_take, List.map_drop]
    rw [← hh] at q3
    have nd1 : ((L.take p ++ (x, k) :: L.drop p).map (·.2)).Nodup := by
      refine (pm.map (·.2)).nodup_iff.mpr ?_
      rw [List.map_cons]
      exact List.nodup_cons.mpr ⟨hm, R.nd⟩
    have siz : (SetTable.insertAt es p (hsP P w k, Value.ref x)).size = L.length + 1 := by
      have e := congrArg List.length ins
      rw [rowsP, Array.length_toList, List.length_map, len] at e
      exact e
    generalize SetTable.insertAt es p (hsP P w k, Value.ref x) = es1 at ins siz ⊢
    generalize L.take p ++ (x, k) :: L.drop p = L1 at pm len q3 nd1 ins
    refine wpAny_bind (wpAny_storeSet_of ho hd ?_ (by rw [siz, sizeLine_eq]; omega))
    have sb : Heap.SameBut a s.heap (s.heap.update a (Obj.putSet es1 t1)) := Heap.SameBut.update ..
    have ho1 := store_at (es' := es1) (t' := t1) ho hd
    generalize s.heap.update a (Obj.putSet es1 t1) = h1 at sb ho1 ⊢
    have isk1 : ∀ p ∈ L1, IsP P w h1 p.2 p.1 := fun p hp => by
      rcases List.mem_cons.mp (pm.mem_iff.mp hp) with e | hp
      · rw [e]; exact isP_same hx ho hd sb
      · exact isP_same (R.isk p hp) ho hd sb
    have ld1 : w.params.followText "set-order" = true ∨ t1.led = true := by rw [q5]; exact R.led
    have nf : t1.tooFull = false := by
      unfold SetTable.tooFull
      rw [decide_eq_false_iff_not, q9, List.length_map, q4, m7]
      omega
    first
      | refine wp_if_neg (by simp [nf]) ?_
      | (refine wpAny_bind ?_; refine wp_if_neg (by simp [nf]) ?_; refine wpAny_pure ?_)
    exact wpAny_pure (hQ true h1 L1 es1 (ep + 1) t1 sb ⟨⟨_, ho1, ⟨hex.1, hex.2.1, hex.2.2⟩, rfl⟩, ins, q3, nd1, isk1, pl1, ld1, by rw [q4]; exact m7, by rw [len]; omega⟩ (fun z => absurd z hm) fun _ => pm)
theorem PsR.typeIs (R : PsR P w s.heap a L es ep t) : s.TypeIs (.ref a) "set" := by
  obtain ⟨o, ho, hex, _⟩ := R.obj
  exact ⟨o, ho, hex.1⟩
/-- found.add(x) -/
theorem ps_callAdd (R : PsR P w s.heap a L es ep t) (one : L.length ≤ 1) {x : Addr} {k : Pk} (hx : IsP P w s.heap k x) (hu : A.units + 20 < cLine) {Q : Value → Shared → Prop}
    (hQ : ∀ h' tk L' es' ep' t', Heap.SameBut a s.heap h' → PsR P w h' a L' es' ep' t' → (k ∈ L.map (·.2) → L' = L) → (k ∉ L.map (·.2) → L'.Perm ((x, k) :: L)) → Q .none { s with heap := h', toks := tk }) :
    wpAny (model P w) A (call (.builtin "set.add") [.ref a, .ref x]) Q E s := by
  refine wpAny_call_entry PySem.F.slot_set_add R.typeIs PySem.F.entry_set_add ?_ (PySem.F.args_set_add_2 _ _)
  unfold Builtin.«set.add» Builtin.Frozenset.oneOther
  simp only [List.isEmpty_nil, bind_assoc]
  unfold Builtin.Frozenset.addrOf setAdd
  refine wpAny_bind (wpAny_pure ?_)
  try dsimp only
  refine wpAny_bind (wpAny_pure ?_)
  try dsimp only
  refine wpAny_bind ?_
  refine wpAny_holding ?_
  have room1 : (pairKind P w).room A.in1 := by
    show A.units + 1 + 8 < cLine
    omega
  refine wpAny_bind ((pairKind P w).pyHash room1 hx ?_)
  refine ps_add (s := { s with toks := s.toks + (pairKind P w).draws k }) R one hx room1 fun b h' L' es' ep' t' g1 g2 g3 g4 => ?_
  show wpAny _ _ (ret Value.none) _ _ _
  exact wpAny_pure ⟨_, rfl, hQ h' _ L' es' ep' t' g1 g2 g3 g4⟩
end
end Wk
end

section
set_option Elab.async false
set_option linter.all false
set_option maxRecDepth 100000
set_option maxHeartbeats 4000000
/-! rules of its own: {pair for .. in ..} -/
namespace Wk
open PySem PySem.Spec PyProof.Rows L2
structure Ps0 (P : Program) (w : World) (h : Heap) (a : Addr) (L : List (Addr × Pk)) : Prop where
  ex : ∃ (es : Array (Int × Value)) (ep : Nat) (t : SetTable), (∃ o, h.get? a = some o ∧ o.ExactSet ∧ o.data = .set es ep t) ∧ es.toList = rowsP P w L ∧ TabOk t (L.map fun p => hsP P w p.2) ∧ (L.map (·.2)).Nodup ∧ t.plain = true ∧
    (w.params.followText "set-order" = true ∨ t.led = true) ∧ t.mask = 7 ∧ L.length ≤ 2
def PSO (P : Program) (w : World) (a : Addr) (L : List (Addr × Pk)) : HO := .ext fun h => Ps0 P w h a L
section
variable {P : Program} {w : World} {H : Hp} {h : Heap} {a : Addr} {L : List (Addr × Pk)} {es : Array (Int × Value)} {ep : Nat} {t : SetTable}
theorem PsR.p0 (R : PsR P w h a L es ep t) : Ps0 P w h a L := ⟨es, ep, t, R.obj, R.rows, R.tab, R.nd, R.plain, R.led, R.m7, R.two⟩
theorem Ps0.full (R : Ps0 P w h a L) (isk : ∀ p ∈ L, IsP P w h p.2 p.1) : ∃ es ep t, PsR P w h a L es ep t := by
  obtain ⟨es, ep, t, h1, h2, h3, h4, h5, h6, h7, h8⟩ := R.ex
  exact ⟨es, ep, t, h1, h2, h3, h4, isk, h5, h6, h7, h8⟩
theorem pso_ok (R : Ps0 P w h a L) : ObjOk P w H h a (PSO P w a L) := by
  refine ⟨R, ?_, fun h1 h2 p k => ?_⟩
  · obtain ⟨_, _, _, ⟨o, ho, _⟩, _⟩ := R.ex
    exact ⟨o, ho⟩
  · obtain ⟨es, ep, t, ⟨o, ho, r⟩, q⟩ := p.ex
    exact ⟨es, ep, t, ⟨o, k o ho, r⟩, q⟩
theorem ps_fresh (ho : h.get? a = some { cls := .type "set", dict := none, data := .set #[] 0 (.fresh 0 0 (!w.params.followText "set-order")) }) : Ps0 P w h a [] := by
  refine ⟨#[], 0, .fresh 0 0 (!w.params.followText "set-order"), ⟨_, ho, ⟨rfl, rfl, rfl⟩, rfl⟩, rfl, ⟨List.Pairwise.nil, rfl, rfl, .inl rfl, fun x hx => (by cases hx), fun i h j hi => (by simp at hi)⟩, List.nodup_nil, rfl, ?_, rfl, Nat.zero_le _⟩
  show _ ∨ (!w.params.followText "set-order") = true
  cases w.params.followText "set-order"
  · exact .inr rfl
  · exact .inl rfl
end
/-- what add does: the set behind it -/
def AddTo (L : List (Addr × Pk)) (p : Addr) (k : Pk) (L' : List (Addr × Pk)) : Prop := (k ∈ L.map (·.2) → L' = L) ∧ (k ∉ L.map (·.2) → L'.Perm ((p, k) :: L))
section
variable {X : Cx}
theorem addP_ok {pins : List (Addr × Obj)} {σ : L2.St} {H : Hp} {s : Shared} {E : Value → Shared → Prop} {D p : Addr} {k : Pk} {L : List (Addr × Pk)} {Q : Value → Shared → Prop} (hu : X.A.units + 20 < cLine) (I : Inv X pins σ H s) (hD : H D = some (PSO X.prog X.w D L)) (hL : ∀ q ∈ L, PairA H q.1 q.2) (one : L.length ≤ 1) (hp : PairA H p k)
    (h : ∀ L' s', AddTo L p k L' → Inv X pins σ (upd H D (PSO X.prog X.w D L')) s' → Q .none s') : wpAny (model X.prog X.w) X.A (call (.builtin "set.add") [.ref D, .ref p]) Q E s := by
  obtain ⟨es, ep, t, R⟩ := (show Ps0 X.prog X.w s.heap D L from (I.hok D _ hD).1).full fun q hq => pair_is I.hok (hL q hq)
  refine ps_callAdd R one (pair_is I.hok hp) hu fun h' tk L' es' ep' t' sb R' g1 g2 => ?_
  have live : ∃ u, h'.get? D = some u := by
    obtain ⟨o, ho, _⟩ := R'.obj
    exact ⟨o, ho⟩
  exact h L' _ ⟨g1, g2⟩ (I.write (e := D) (t' := tk) (by rw [hD]; trivial) (.inl rfl) (fun b u hb hz => (sb.2 b hb).trans hz) live (pso_ok R'.p0))
end
section
variable {X : Cx}
/-- {elt for target in iter if ..}, elt a pair, two turns at most: D the new set -/
def tSp (P : Program) (w : World) (wi : TI) (g : TG) (tt : TT) (te : TE) (vs : List Nat) : TE := fun σ H Q => wi σ H fun J H1 => ∀ D, H1 D = none → ∃ Wv : Nat → Nat → Hp → Prop, (∃ m, Wv 0 m (upd H1 D (PSO P w D []))) ∧ ∀ i m H, Wv i m H →
  (J.stop i H ∧ Q (.ref D) H) ∨ (J.go i H ∧ ∃ Nx : Hp → Prop, (∀ H', Nx H' → ∃ m', m' < m ∧ Wv (i + 1) m' H') ∧ ∀ x H', J.yld i H x H' → g x (wipe σ vs) H' fun σ2 H2 => wipe σ2 vs = wipe σ vs ∧ tt σ2 H2 fun b H3 =>
    if b = true then te σ2 H3 fun y H4 => ∃ p k L, y = .ref p ∧ PairA H4 p k ∧ H4 D = some (PSO P w D L) ∧ (∀ q ∈ L, PairA H4 q.1 q.2) ∧ L.length ≤ 1 ∧ ∀ L', AddTo L p k L' → Nx (upd H4 D (PSO P w D L')) else Nx H3)
theorem sp_core {pins : List (Addr × Obj)} {s : Shared} {σ : L2.St} {H : Hp} {Q : VK} {elt tg iter : Expr} {ifs : List Expr} {scope : Scope} {own : List (PySem.Str × Nat)} {pos pos' : Pos} {wi : TI} {g : TG} {tt : TT} {te : TE} {use : Option (Value → Sem Unit)} {Qf : Value → Shared → Prop}
    (hu : X.A.units + 20 < cLine) (calm : X.calm = true) (nodup : X.N.Nodup) (I : Inv X pins σ H s) (walk : PI X tg iter wi) (ok : BlkOk X.N X.env.scope scope own)
    (hg : ∀ (s : Shared) (H : Hp) (C : Addr) (cl : List (PySem.Str × Addr)) (fp : List Addr), PG (X.blk s H scope (compEnvC scope cl C X.env) fp) tg g) (ht : ∀ (s : Shared) (H : Hp) (C : Addr) (cl : List (PySem.Str × Addr)) (fp : List Addr), PTs (X.blk s H scope (compEnvC scope cl C X.env) fp) ifs tt)
    (he : ∀ (s : Shared) (H : Hp) (C : Addr) (cl : List (PySem.Str × Addr)) (fp : List Addr), PE (X.blk s H scope (compEnvC scope cl C X.env) fp) elt te) (plain : ∀ x, foldedSetIterable iter X.env x = pure x)
    (h : tSp X.prog X.w wi g tt te (own.map (·.2)) σ H Q)
    (after : ∀ D C s' m H', Inv X pins σ H' s' → Q (.ref D) H' → s'.heap.Ns C m → FpOk X pins H' C → compPost (model X.prog X.w) X.A X.xe use Qf (.ref D) C (.ok .next) s') :
    wpAny (model X.prog X.w) X.A (comprehension (.SetComp elt [⟨tg, iter, ifs, 0⟩] scope pos) scope X.env pos' (newSet (.type "set")) false (eval iter X.env) use) Qf X.xe s := by
  have cellsOk : ∀ y ∈ scope.names, y.2 = .free → ∃ c, X.env.cells.lookup y.1 = some c := by
    intro y hy e
    exact (ok.free y hy e).elim (fun k => I.ok.has _ (.inl k)) fun k => I.ok.has _ (.inr k)
  refine wpAny_comprehension_free (use := use) rfl plain (closure_ok cellsOk) ok.kind (fun y hy e => by rw [ok.uniq y hy, e]) (thn (walk.run pins s σ H _ I h) fun xv sa hx => thn hx fun itv sb hb => ?_)
  obtain ⟨it, fp, tn, J, Hb, rfl, Ib, T, stb, fb, q⟩ := hb
  refine PpSet.newSet_ok (newEnv_comp ?_)
  generalize hD : sb.heap.objs.size = D
  have freeD : Hb D = none := Ib.hok.fresh (Nat.le_of_eq hD)
  obtain ⟨Wv, ⟨m0, w0⟩, turn⟩ := q D freeD
  let oS : Obj := { cls := .type "set", dict := none, data := .set #[] 0 (.fresh 0 0 (!X.w.params.followText "set-order")) }
  generalize hsc : ({ sb with heap := sb.heap.push { cls := .type "set", dict := none, data := .set #[] 0 (.fresh 0 0 (!X.w.params.followText "set-order")) } } : Shared) = sc
  have hpc : sc.heap = sb.heap.push { cls := .type "set", dict := none, data := .set #[] 0 (.fresh 0 0 (!X.w.params.followText "set-order")) } := by rw [← hsc]
  have Ic : Inv X pins σ (upd Hb D (PSO X.prog X.w D [])) sc := by
    rw [← hsc]
    refine Ib.laid (t' := sb.toks) (fun b o e => Heap.get?_push_of_some _ e) (Nat.le_of_eq hD) (pso_ok ?_)
    rw [← hD]
    exact ps_fresh (Heap.get?_push_size _ rfl)
  have below : ∀ b ∈ fp, b < sb.heap.objs.size := fun b hb => let ⟨o, e, _⟩ := T.obj _ _ stb b hb; Heap.lt_size e
  have fc : ∀ b ∈ fp, FpOk X pins (upd Hb D (PSO X.prog X.w D [])) b ∧ b < sc.heap.objs.size := fun b hb => by
    have lt := below b hb
    refine ⟨⟨?_, (fb b hb).2⟩, by rw [hpc, Heap.size_push]; exact Nat.lt_succ_of_lt lt⟩
    rw [upd_ne (by rw [← hD]; exact Nat.ne_of_lt lt)]
    exact (fb b hb).1
  have stc : tn 0 sc.heap := T.keep _ _ _ stb fun b _ o e => by rw [hpc]; exact Heap.get?_push_of_some _ e
  have Id := block_start Ic ok nodup fc
  have pg := hg sc (upd Hb D (PSO X.prog X.w D [])) sc.heap.objs.size (cellsFrom (sc.heap.objs.size + 1) scope.names (cloFrom X.env.cells scope.names [])) fp
  have pt := ht sc (upd Hb D (PSO X.prog X.w D [])) sc.heap.objs.size (cellsFrom (sc.heap.objs.size + 1) scope.names (cloFrom X.env.cells scope.names [])) fp
  have pe := he sc (upd Hb D (PSO X.prog X.w D [])) sc.heap.objs.size (cellsFrom (sc.heap.objs.size + 1) scope.names (cloFrom X.env.cells scope.names [])) fp
  show codeAny _ _ (.compStart (.SetComp elt [⟨tg, iter, ifs, 0⟩] scope pos) 0 (.ref it) (.ref D) (compEnvC scope (cellsFrom (sc.heap.objs.size + 1) scope.names (cloFrom X.env.cells scope.names [])) sc.heap.objs.size X.env)) (compPost (model X.prog X.w) X.A X.xe use Qf (.ref D) sc.heap.objs.size)
    { sc with heap := pushCells (sc.heap.push { cls := .type "dict", data := .dict #[] }) scope.names }
  have nfp : ∀ b ∈ fp, (upd Hb D (PSO X.prog X.w D [])) b = none := fun b hb => (fc b hb).1.1
  generalize hce : compEnvC scope (cellsFrom (sc.heap.objs.size + 1) scope.names (cloFrom X.env.cells scope.names [])) sc.heap.objs.size X.env = ce at Id pg pt pe ⊢
  have loc : ce.locals = sc.heap.objs.size := by subst hce; rfl
  generalize upd Hb D (PSO X.prog X.w D []) = Hc at Ic Id pg pt pe w0 nfp fc
  generalize hsd : ({ sc with heap := pushCells (sc.heap.push { cls := .type "dict", data := .dict #[] }) scope.names } : Shared) = sd at Id ⊢
  have std : tn 0 sd.heap := T.keep _ _ _ stc fun b _ o e => by rw [← hsd]; exact pushCells_keeps _ _ _ _ (Heap.get?_push_of_some _ e)
  have stat : ∀ {σ' : L2.St} {H' : Hp} {s' : Shared}, Inv (X.blk sc Hc scope ce fp) [] σ' H' s' → (∀ b ∈ fp, H' b = none) → ∀ b ∈ fp, FpOk (X.blk sc Hc scope ce fp) [] H' b := by
    intro σ' H' s' J' hn b hb
    exact ⟨hn b hb, (J'.ok.exf b hb).1, J'.ok.exfs b hb, .inl hb, fun x c e => (J'.ok.exf b hb).2 x c e, fun p hp => absurd (show p ∈ ([] : List (Addr × Obj)) ++ [] from hp) (by simp)⟩
  have loop : codeAny (model X.prog X.w) X.A (.compLoop (.SetComp elt [⟨tg, iter, ifs, 0⟩] scope pos) 0 (.ref it) (.ref D) ce) (compPost (model X.prog X.w) X.A X.xe use Qf (.ref D) sc.heap.objs.size) sd := by
    refine PpSet.compLoopS_any (fun n s' => ∃ i H', Inv (X.blk sc Hc scope ce fp) [] (wipe σ (own.map (·.2))) H' s' ∧ tn i s'.heap ∧ (∀ b ∈ fp, H' b = none) ∧ Wv i n H') ?_ m0 ⟨0, Hc, Id, std, nfp, w0⟩
    rintro n se ⟨i, He, Ie, ste, ne, we⟩
    rcases turn i n He we with ⟨stop, done⟩ | ⟨go, Nx, hNx, step⟩
    · have td := T.done (X.blk sc Hc scope ce fp) rfl rfl rfl calm i [] se _ He (fun _ _ => False) Ie (stat Ie ne) ste stop
      refine thnF td fun r sf ⟨hr, If⟩ => ?_
      subst hr
      have Ig : Inv X pins σ He sf := Ic.call' (ch := fp) If.os If.base If.hok If.bare fun b hb => ⟨(fc b hb).1.2.2.2.1, (fc b hb).1.2.1, (fc b hb).1.2.2.2.2.1, (fc b hb).1.2.2.2.2.2⟩
      have nC : He sc.heap.objs.size = none := by rw [← loc]; exact If.free
      obtain ⟨m, hn, _⟩ := If.loc
      have hn : sf.heap.Ns ce.locals m := hn
      rw [loc] at hn
      exact after D sc.heap.objs.size sf m He Ig done hn (Ic.fpOk (Nat.le_refl _) nC)
    · have ti := T.item (X.blk sc Hc scope ce fp) rfl rfl rfl calm i [] se _ He (fun _ _ => False) Ie (stat Ie ne) ste go
      refine thnF ti fun r sf ⟨u, hr, hf⟩ => ?_
      subst hr
      refine thnF hf fun _ sg ⟨x, Hg, Ig, rg, yg, stg, ng⟩ => ?_
      have Ip := Ig.pinned (stat Ig ng) (T.obj _ _ stg)
      refine thnF (pg.run _ sg _ Hg x u _ Ip rg (step x Hg yg)) fun _ sh ⟨σh, Hh, Ih, wiped, qh⟩ => ?_
      refine thnF (pt.run _ sh σh Hh _ Ih qh) fun b si ⟨Hi, Ii, qi⟩ => ?_
      have next : ∀ {s' : Shared} {H' : Hp}, Inv (X.blk sc Hc scope ce fp) ([] ++ pinsAt fp sg.heap) σh H' s' → Nx H' → ∃ m, m < n ∧ ∃ i H', Inv (X.blk sc Hc scope ce fp) [] (wipe σ (own.map (·.2))) H' s' ∧ tn i s'.heap ∧ (∀ b ∈ fp, H' b = none) ∧ Wv i m H' := by
        intro s' H' J' nx
        obtain ⟨m', hm, w'⟩ := hNx H' nx
        have pin : ∀ b ∈ fp, ∀ o, sg.heap.get? b = some o → s'.heap.get? b = some o ∧ H' b = none := by
          intro b hb o e
          have z := J'.pin (b, o) (List.mem_append_right _ (List.mem_append_right _ (mem_pinsAt hb e)))
          exact ⟨z.1, z.2.1⟩
        have len : (wipe σ (own.map (·.2))).length = σh.length := by rw [← wiped, wipe_length]
        refine ⟨m', hm, i + 1, H', (J'.unpinned (pins := [])).weak len (fun j v e => ?_), T.keep _ _ _ stg fun b hb o e => (pin b hb o e).1, fun b hb => ?_, w'⟩
        · rw [← wiped] at e
          exact (wipe_some e).1
        · obtain ⟨o, e, _⟩ := T.obj _ _ stg b hb
          exact (pin b hb o e).2
      cases b with
      | false =>
        simp only [Bool.false_eq_true, if_false] at qi ⊢
        exact next Ii qi
      | true =>
        simp only [if_true] at qi ⊢
        refine thnF (pe.run _ si σh Hi _ Ii qi) fun z sj ⟨yv, Hj, Ij, rj, p, k, L, ey, hp, hDj, hLj, one, nx⟩ => ?_
        subst ey
        cases (show z = Value.ref p from rj)
        exact addP_ok (X := X.blk sc Hc scope ce fp) hu Ij hDj hLj one hp fun L' sk ad Ik => next Ik (nx L' ad)
  exact PpSet.codeAny_compStart_set loop (T.self X.A 0 _ _ _ std loop)
/-- as a value -/
theorem pe_sp {elt tg iter : Expr} {ifs : List Expr} {scope : Scope} {own : List (PySem.Str × Nat)} {pos : Pos} {wi : TI} {g : TG} {tt : TT} {te : TE} (hu : X.A.units + 20 < cLine) (calm : X.calm = true) (nodup : X.N.Nodup) (walk : PI X tg iter wi) (ok : BlkOk X.N X.env.scope scope own)
    (hg : ∀ (s : Shared) (H : Hp) (C : Addr) (cl : List (PySem.Str × Addr)) (fp : List Addr), PG (X.blk s H scope (compEnvC scope cl C X.env) fp) tg g) (ht : ∀ (s : Shared) (H : Hp) (C : Addr) (cl : List (PySem.Str × Addr)) (fp : List Addr), PTs (X.blk s H scope (compEnvC scope cl C X.env) fp) ifs tt)
    (he : ∀ (s : Shared) (H : Hp) (C : Addr) (cl : List (PySem.Str × Addr)) (fp : List Addr), PE (X.blk s H scope (compEnvC scope cl C X.env) fp) elt te) (plain : ∀ x, foldedSetIterable iter X.env x = pure x := by intro _; rfl) :
    PE X (.SetComp elt [⟨tg, iter, ifs, 0⟩] scope pos) (tSp X.prog X.w wi g tt te (own.map (·.2))) := by
  refine ⟨fun pins s σ H Q I h => ?_⟩
  rw [PpSet.eval_SetComp]
  refine sp_core hu calm nodup I walk ok hg ht he plain h fun D C s' m H' J q hn f => ⟨m, hn, fun h2 sb => ?_⟩
  obtain ⟨f0, f1, f2, f3, f4, f5⟩ := f
  exact ⟨.ref D, H', J.turned (t' := s'.toks) (fun b o hb e => (sb.2 b hb).trans e) f0 f1 f3 f4 f5, rfl, q⟩
end
/-- over a list that the block leaves as it is -/
theorem sp_list {P : Program} {w : World} {K : PySem.W.Frag} {a : Addr} {xs : List V} {g : TG} {tt : TT} {te : TE} {vs : List Nat} {σ : L2.St} {H1 : Hp} {D : Addr} {Qd : Hp → Prop} (Pv : Nat → Hp → Prop) (h0 : Pv 0 (upd H1 D (PSO P w D []))) (hl : ∀ i H, i ≤ xs.length → Pv i H → SqL K H a xs)
    (hs : ∀ i x H, xs[i]? = some x → Pv i H → g x (wipe σ vs) H fun σ2 H2 => wipe σ2 vs = wipe σ vs ∧ tt σ2 H2 fun b H3 =>
      if b = true then te σ2 H3 fun y H4 => ∃ p k L, y = .ref p ∧ PairA H4 p k ∧ H4 D = some (PSO P w D L) ∧ (∀ q ∈ L, PairA H4 q.1 q.2) ∧ L.length ≤ 1 ∧ ∀ L', AddTo L p k L' → Pv (i + 1) (upd H4 D (PSO P w D L')) else Pv (i + 1) H3) (hd : ∀ H, Pv xs.length H → Qd H) :
    ∃ Wv : Nat → Nat → Hp → Prop, (∃ m, Wv 0 m (upd H1 D (PSO P w D []))) ∧ ∀ i m H, Wv i m H →
      ((Itl K a).stop i H ∧ Qd H) ∨ ((Itl K a).go i H ∧ ∃ Nx : Hp → Prop, (∀ H', Nx H' → ∃ m', m' < m ∧ Wv (i + 1) m' H') ∧ ∀ x H', (Itl K a).yld i H x H' → g x (wipe σ vs) H' fun σ2 H2 => wipe σ2 vs = wipe σ vs ∧ tt σ2 H2 fun b H3 =>
        if b = true then te σ2 H3 fun y H4 => ∃ p k L, y = .ref p ∧ PairA H4 p k ∧ H4 D = some (PSO P w D L) ∧ (∀ q ∈ L, PairA H4 q.1 q.2) ∧ L.length ≤ 1 ∧ ∀ L', AddTo L p k L' → Nx (upd H4 D (PSO P w D L')) else Nx H3) := by
  refine ⟨fun i m H => m = xs.length - i ∧ i ≤ xs.length ∧ Pv i H, ⟨xs.length, by simp, Nat.zero_le _, h0⟩, ?_⟩
  rintro i m H ⟨rfl, hi, pv⟩
  have here := hl i H hi pv
  by_cases lt : i < xs.length
  · refine .inr ⟨⟨xs, xs[i], here, by simp [lt]⟩, Pv (i + 1), fun H' p' => ⟨xs.length - (i + 1), by omega, rfl, lt, p'⟩, fun x H' y => ?_⟩
    obtain ⟨rfl, y⟩ := y
    exact hs i x _ (y xs here) pv
  · obtain rfl : i = xs.length := by omega
    exact .inl ⟨⟨xs, here, Nat.le_refl _⟩, hd H pv⟩
end Wk
end

section
set_option Elab.async false
set_option linter.all false
set_option maxRecDepth 100000
set_option maxHeartbeats 4000000
/-! rules of its own: sorted(set of pairs) -/
namespace Wk
open PySem PySem.Spec PyProof.Rows L2
/-- values that are some of the refs of L, in some order -/
theorem refs_perm {L : List (Addr × Pk)} {out : List Value} (h : out.Perm (L.map fun q => Value.ref q.1)) : ∃ bs : List (Addr × Pk), bs.Perm L ∧ out = bs.map fun q => Value.ref q.1 := by
  have key : ∀ {us vs : List Value}, us.Perm vs → ∀ L : List (Addr × Pk), vs = L.map (fun q => Value.ref q.1) → ∃ bs : List (Addr × Pk), bs.Perm L ∧ us = bs.map fun q => Value.ref q.1 := by
    intro us vs p
    induction p with
    | nil =>
      intro L e
      cases L with
      | nil => exact ⟨[], List.Perm.refl _, rfl⟩
      | cons b L => cases e
    | @cons x us vs p ih =>
      intro L e
      cases L with
      | nil => cases e
      | cons b L =>
        rw [List.map_cons] at e
        injection e with e1 e2
        obtain ⟨bs, h1, h2⟩ := ih L e2
        exact ⟨b :: bs, h1.cons b, by rw [List.map_cons, ← h2, e1]⟩
    | swap x y vs =>
      intro L e
      match L, e with
      | [], e => cases e
      | [b], e => cases e
      | b :: c :: L, e =>
        simp only [List.map_cons] at e
        injection e with e1 e
        injection e with e2 e3
        refine ⟨c :: b :: L, List.Perm.swap b c L, ?_⟩
        simp only [List.map_cons]
        rw [e1, e2, e3]
    | trans p q ih1 ih2 =>
      intro L e
      obtain ⟨bs, h1, h2⟩ := ih2 L e
      obtain ⟨cs, g1, g2⟩ := ih1 bs h2
      exact ⟨cs, g1.trans h1, g2⟩
  exact key h L rfl
def rSortS (P : Program) (w : World) : List V → Hp → VK → Prop := fun xs H Q => ∃ a L, xs = [V.ref a] ∧ H a = some (PSO P w a L) ∧ (∀ q ∈ L, PairA H q.1 q.2) ∧
  ∀ (out : List (Addr × Pk)) (p : Addr), out.Perm L → H p = none → Q (.ref p) (upd H p (.lst (out.map fun b => V.ref b.1)))
theorem call_sortedPs {X : Cx} {kk : Nat} (hr : Room kk X.A) : CallR X (.builtin "sorted") (rSortS X.prog X.w) := by
  intro pins s σ H xs us Q I r q
  obtain ⟨a, L, rfl, ha, hL, q⟩ := q
  obtain ⟨u, rfl, rx⟩ := vals1 r
  cases (show u = Value.ref a from rx)
  obtain ⟨es, ep, t, R⟩ := (show Ps0 X.prog X.w s.heap a L from (I.hok a _ ha).1).full fun q hq => pair_is I.hok (hL q hq)
  refine sorted_with (H := H) hr fun R' hR => ?_
  obtain ⟨o, ho, hex, hd⟩ := R.obj
  have sz := R.size
  have two := R.two
  refine collect_set (A := X.A.in1) hr.hd ⟨o, ho, hex.1, hd⟩ R.fits (by unfold scanBound; omega) R.tab.ris R.led fun s1 vs k1 _ g1 o1 pm => ?_
  have e : es.toList.map (·.2) = L.map fun q => Value.ref q.1 := by
    rw [R.rows, rowsP, List.map_map]
    rfl
  rw [e] at pm
  obtain ⟨bs, hb, rfl⟩ := refs_perm pm
  have I1 : Inv X pins σ H s1 := I.call' (ch := []) o1 (Un.kept k1) (I.hok.kept k1) (by rw [g1]; exact I.bare) (fun _ z => nomatch z)
  exact hR s1 bs I1 (by rw [hb.length_eq, sizeLine_eq]; omega) (fun b hbm => hL b (hb.mem_iff.mp hbm)) fun out p h1 _ h3 => q out p (h1.trans hb) h3
end Wk
end

section
set_option Elab.async false
set_option linter.all false
set_option maxRecDepth 100000
set_option maxHeartbeats 4000000
/-! the walk: the world of a run: its machine, its deck -/
namespace Wk
open PySem PySem.Spec PyProof.Rows L2 StX
local macro_rules | `(tactic| trivial) => `(tactic| try simp only [spInt, spWord, spIdx, spNum, spReg, isi_ii, isi_ib, isi_ss, eq_ii, ne_ii, eq_ss, ne_ss, cxK, wipe, rLenS, rSlL, rSlT, tRevL, tDisp, tPairs, rCat, rRep, rExtend, rAdd, rSub, rSetD, rPop, rAppend, rIxL, rIxT, rSetL, tVar, tC, t2I, tB, tAnd, tOr, tNot, tAndV, tOrV, tNotV, tIf, tNext, tSeq, tDrop, tRet, tRetN, tIfS, tNever, tAsg, tPar, tOp, tUn, rI, rI0, rU, tTest, tChain, tFld, tCon, tNil, tCons, tTup, tLst, tCall, tMeth, tProp, tCB, tSl, tNoPart, tPart, tBM, tBM0, gName, gTup, gNil, gCons, gSub, sFld, L2.start, tDGet, tDIn, tDNotIn, tDNewK, tDNewT, sDPut, tDGet2, and_assoc, exists_and_left, exists_and_right, exists_eq_left', exists_eq_left, exists_eq_right, exists_eq', V.int.injEq, V.str.injEq, V.bl.injEq, V.ref.injEq, List.cons.injEq, and_true, true_and, List.append_nil, List.map_cons, List.map_nil, List.length_cons, List.length_nil, List.cons_append, List.nil_append, Nat.reduceAdd, Nat.reduceSub, List.reduceReplicate, List.getElem?_cons_succ, List.getElem?_cons_zero, List.set_cons_succ, List.set_cons_zero, Option.some.injEq, if_true, Bool.false_eq_true, if_false, decide_eq_true_eq, Bool.not_true, Bool.not_false, Bool.not_eq_true', decide_eq_false_iff_not, decide_true, decide_false, Bool.true_and, Bool.and_true, Bool.false_and, Int.reduceEq, Int.reduceLT, Int.reduceLE, Int.reduceNeg, reduceCtorEq, not_false_eq_true, not_true_eq_false])
structure Wl (K : PySem.W.Frag) (C : Sk.Cfg) (s0 : Sk.MS) (H : Hp) (a : Ad) (d q : Addr) (m t f : Nat) : Prop where
  mach : MachR K C s0 H a t f
  deck : DeckA H d q m
  nd : d ∉ a.S
  nq : q ∉ a.S
abbrev Ad.T (a : Ad) (d q : Addr) : List Addr := d :: q :: a.S
section
variable {K : PySem.W.Frag} {C : Sk.Cfg} {s0 : Sk.MS} {H H' : Hp} {a : Ad} {d q : Addr} {m m' t t' f f' : Nat}
theorem Ad.tS (a : Ad) (d q : Addr) : ∀ x, x ∈ a.S → x ∈ a.T d q := fun x h => List.mem_cons_of_mem _ (List.mem_cons_of_mem _ h)
theorem Ad.tD (a : Ad) (d q : Addr) : ∀ x, x ∈ [d, q] → x ∈ a.T d q := fun x h => by
  rcases List.mem_cons.mp h with rfl | h
  · exact List.mem_cons_self
  · rcases List.mem_cons.mp h with rfl | h
    · exact List.mem_cons_of_mem _ List.mem_cons_self
    · cases h
theorem MachR.keepD (M : MachR K C s0 H a t f) (dk : DeckA H d q m) (nd : d ∉ a.S) (nq : q ∉ a.S) (k : Keep [d, q] H H') : MachR K C s0 H' a t f := by
  obtain ⟨ms, p, M, R⟩ := M
  have nS : ∀ x, x ∈ a.S → x ∉ [d, q] := fun x hx hy => by
    rcases List.mem_cons.mp hy with rfl | hy
    · exact nd hx
    · rcases List.mem_cons.mp hy with rfl | hy
      · exact nq hx
      · cases hy
  have sm : a.mc ∈ a.S := by simp [Ad.S]
  have sl : a.ml ∈ a.S := by simp [Ad.S]
  have sr : a.rg ∈ a.S := by simp [Ad.S]
  have sc : a.ca ∈ a.S := by simp [Ad.S]
  obtain ⟨kvs, u1, u2⟩ := M.aff
  have gn : a.g ∉ [d, q] := by
    obtain ⟨c, x, ns, h1, h2, _⟩ := dk
    obtain ⟨dx, rp, pl, g1, _⟩ := M.ring
    intro z
    rcases List.mem_cons.mp z with e | z
    · rw [e, h1] at g1; cases g1
    · rcases List.mem_cons.mp z with e | z
      · rw [e, h2] at g1; cases g1
      · cases z
  exact ⟨ms, p, ⟨k.o _ _ M.obj (nS _ sm), M.ring.keep k gn, k.o _ _ M.mem (nS _ sl), k.o _ _ M.reg (nS _ sr), ⟨kvs, k.o _ _ u1 (nS _ sc), u2⟩, M.ne, M.mw, M.rw_⟩, R⟩
theorem Wl.draws (W : Wl K C s0 H a d q m t f) (k : Keep [d, q] H H') (dk : DeckA H' d q m') : Wl K C s0 H' a d q m' t f := ⟨W.mach.keepD W.deck W.nd W.nq k, dk, W.nd, W.nq⟩
theorem Wl.runs (W : Wl K C s0 H a d q m t f) (k : Keep a.S H H') (M : MachR K C s0 H' a t' f') : Wl K C s0 H' a d q m t' f' := ⟨M, W.deck.keep k W.nd W.nq, W.nd, W.nq⟩
theorem Wl.new (W : Wl K C s0 H a d q m t f) (k : Keep [] H H') : Wl K C s0 H' a d q m t f := ⟨W.mach.keep0 k, W.deck.keep k (by simp) (by simp), W.nd, W.nq⟩
theorem Wl.less (W : Wl K C s0 H a d q m t f) (h : m' ≤ m) : Wl K C s0 H a d q m' t f := ⟨W.mach, W.deck.less h, W.nd, W.nq⟩
theorem Wl.draw {lim : Nat} {Q : VK} {E : XK} (W : Wl K C s0 H a d q (m + 1) t f) (l1 : 1 ≤ lim) (l2 : lim < 1073741824) (h : ∀ (n : Nat) (H' : Hp), n < lim → Wl K C s0 H' a d q m t f → Keep (a.T d q) H H' → Q (.int n) H') : spDraw [V.ref d, V.int lim] H Q E :=
  draw_at W.deck l1 l2 fun n H' h1 h2 h3 => h n H' h1 (W.draws h3 h2) (h3.mono (a.tD d q))
theorem Wl.drawI {lim : Int} {Q : VK} {E : XK} (W : Wl K C s0 H a d q (m + 1) t f) (l1 : 1 ≤ lim) (l2 : lim < 1073741824) (h : ∀ (n : Nat) (H' : Hp), (n : Int) < lim → Wl K C s0 H' a d q m t f → Keep (a.T d q) H H' → Q (.int n) H') : spDraw [V.ref d, V.int lim] H Q E := by
  obtain ⟨j, rfl⟩ : ∃ j : Nat, lim = j := ⟨lim.toNat, by omega⟩
  exact W.draw (by omega) (by omega) fun n H' h1 => h n H' (by omega)
theorem Wl.pick {l : Addr} {xs : List V} {Q : VK} {E : XK} (W : Wl K C s0 H a d q (m + 1) t f) (hl : H l = some (.lst xs)) (lq : l ∉ [d, q]) (x0 : xs ≠ []) (x1 : xs.length < 1000) (h : ∀ (v : V) (H' : Hp), v ∈ xs → Wl K C s0 H' a d q m t f → Keep (a.T d q) H H' → Q v H') : spPick [V.ref d, V.ref l] H Q E :=
  pick_at W.deck hl lq x0 x1 fun v H' h1 h2 h3 => h v H' h1 (W.draws h3 h2) (h3.mono (a.tD d q))
theorem Wl.run {k : Nat} {Q : VK} {E : XK} (W : Wl K C s0 H a d q m t f) (S : Sys C s0) (hf : f ≤ C.e) (hk : k < 4611686018427387904) (h : ∀ H', Wl K C s0 H' a d q m (t + k) f → Keep (a.T d q) H H' → Q .non H') : spRun K [V.ref a.mc, V.int k] H Q E :=
  ⟨C, s0, a, t, f, k, rfl, W.mach, S, hf, hk, fun H' h1 h2 => h H' (W.runs h2 h1) (h2.mono (a.tS d q))⟩
end
/-! a row behind a comparison -/
def spLookRow : Sp := fun vs H Q _ => ∃ (C : Sk.Cfg) (d q lt : Addr) (m : Nat), vs = [V.ref d, V.ref lt, V.int C.K] ∧ DeckA H d q (m + 5) ∧ H lt = some (.tup [.int C.lp, .int C.lq]) ∧ Fits C ∧ 1 ≤ C.K ∧
  ∀ (r c s : Nat) (p : Addr) (H' : Hp), 15 ≤ r → r < C.L → c < C.K → s < C.K → H' p = some (.tup [.int r, .int c, .int s]) → DeckA H' d q m → Keep [d, q] H H' → Q (.ref p) H'
def spWrong : Sp := fun vs H Q _ => ∃ (d q mt : Addr) (m N at_ : Nat) (ms : Nat → Int), vs = [V.ref d, V.ref mt, V.int at_] ∧ DeckA H d q (m + 5) ∧ H mt = some (.tup (memL N ms)) ∧ at_ < N ∧
  ∀ (v : Int) (p : Addr) (H' : Hp), 0 ≤ v → v ≤ 999999 → H' p = some (.tup [.str "word", .int at_, .int v]) → DeckA H' d q m → Keep [d, q] H H' → Q (.ref p) H'
def spRanTo (K : PySem.W.Frag) : Sp := fun vs H Q _ => ∃ (C : Sk.Cfg) (s0 : Sk.MS) (a : Ad) (d q : Addr) (m t f r k : Nat), vs = [V.ref a.mc, V.int r, V.int C.L, V.int k] ∧ Wl K C s0 H a d q m t f ∧ Sys C s0 ∧ f ≤ C.e ∧ k ≤ 10 ∧
  ∀ (t' : Nat) H', Wl K C s0 H' a d q m t' f → Keep (a.T d q) H H' → Q .non H'
section
variable {P : Program} {w : World} {K : PySem.W.Frag} {mg : Str → Option Value} {base : Heap}
theorem D__law_look_row (F : Fx K mg) : Dn P w K mg base 3 "_law_look_row" ["_law_deck_here", "_law_lengths_here", "_law_count"] spLookRow := by
  refine dn_mk F.f__law_look_row F.g__law_look_row sc__law_look_row (fun _ _ _ _ _ _ us hl => match us, hl with | [_, _, _], _ => rfl) (by rintro vs H Q E ⟨_, _, _, _, _, rfl, _⟩; rfl) ?_
  rintro cdv A outer s H vs Q E hr ⟨C, d, q, lt, m, rfl, dk, hlt, B, k1, h⟩
  refine ⟨_, (pss_cons (ps_asg (pv 1) (pg_tup (by rfl) (pgs_cons (pg_name (i := 3) sc__law_look_row.nd rfl (by first | exact .inl rfl | exact .inr rfl)) (pgs_cons (pg_name (i := 4) sc__law_look_row.nd rfl (by first | exact .inl rfl | exact .inr rfl)) pgs_nil))))
    (pss_cons (ps_par (i := 5) (j := 6) rfl sc__law_look_row.nd rfl rfl (by decide) rfl rfl (pa_cons (sk_call (D__law_draw F) hr (pa_cons (pv 0) (pa_cons (pv 2) pa_nil))) (pa_cons (sk_call (D__law_draw F) hr (pa_cons (pv 0) (pa_cons (pv 2) pa_nil))) pa_nil)) (by rfl))
    (pss_cons (ps_set (i := 7) sc__law_look_row.nd rfl (by first | exact .inl rfl | exact .inr rfl) (sk_call (D__law_pick F) hr (pa_cons (pv 0) (pa_cons (pe_lst (pa_cons pe_int (pa_cons (pe_op op_add pe_int (pe_op op_mul pe_int (sk_call (D__law_draw F) hr (pa_cons (pv 0) (pa_cons (pv 2) pa_nil))))) (pa_cons (pe_op op_add pe_int (pe_op op_mul pe_int (pv 2))) (pa_cons (pe_op op_add pe_int (pe_op op_mul pe_int (pv 2))) pa_nil))))) pa_nil))))
    (pss_one (ps_ret (pe_tup (pa_cons (pe_op op_add (pe_op op_add (pe_op op_add (pe_op op_add (pe_op op_mul (pv 3) (pv 2)) (pe_op op_mul (pv 4) (pv 5))) pe_int) (pe_op op_mul (pv 6) (pe_op op_add pe_int (pe_op op_mul pe_int (pv 2))))) (pv 7)) (pa_cons (pv 5) (pa_cons (pv 6) pa_nil))))))))), ?_⟩
  refine rd_seq fun D1 k1' r1 => ?_
  trivial
  refine ⟨_, SqT.of hlt, rfl, _, _, rfl, _, _, rfl, rfl, k1' _ _ ?_⟩
  clear k1'
  refine rd_seq fun D2 k2 r2 => ?_
  trivial
  refine draw_at dk k1 (by have := B.k16; omega) fun c H1 hc dk1 e1 => draw_at dk1 k1 (by have := B.k16; omega) fun s2 H2 hs dk2 e2 => k2 _ _ ?_
  clear k2
  have e12 := e1.trans e2
  refine rd_seq fun D3 k3 r3 => ?_
  trivial
  refine draw_at dk2 k1 (by have := B.k16; omega) fun i H3 hi dk3 e3 => ⟨_, rfl, .inl ⟨by decide, by decide⟩, .inl ⟨by decide, by decide⟩, .inl ⟨by decide, by decide⟩, by decide, fun l hl => ?_⟩
  have dk4 := dk3.keep (Keep.new hl (o := .lst [V.int 1, V.int (7 + 2 * i), V.int (7 + 2 * C.K), V.int (11 + 2 * C.K)]) (S := [])) (by simp) (by simp)
  refine pick_at dk4 upd_same (Deck.ne dk3 hl) (by simp) (by simp) fun v H4 hv dk5 e5 => ?_
  have e15 := ((e12.trans e3).trans (Keep.new hl)).trans e5
  obtain ⟨j, rfl, j1, j2⟩ : ∃ j : Nat, v = .int j ∧ 1 ≤ j ∧ j ≤ 11 + 2 * C.K := by
    simp only [List.mem_cons, List.not_mem_nil, or_false] at hv
    rcases hv with rfl | rfl | rfl | rfl
    · exact ⟨1, rfl, by omega, by omega⟩
    · exact ⟨7 + 2 * i, by push_cast; rfl, by omega, by omega⟩
    · exact ⟨7 + 2 * C.K, by push_cast; rfl, by omega, by omega⟩
    · exact ⟨11 + 2 * C.K, by push_cast; rfl, by omega, by omega⟩
  refine k3 _ _ ?_
  trivial
  have kb := B.k16
  refine ⟨.inr ⟨by omega, by omega⟩, .inr ⟨by omega, by omega⟩, .inl ⟨by decide, by decide⟩, .inl ⟨by omega, by omega⟩, by decide, fun p hp => ?_⟩
  have b1 : (s2 + 1) * (12 + 2 * C.K) ≤ C.K * (12 + 2 * C.K) := Nat.mul_le_mul_right _ hs
  have b2 : (c + 1) * C.lq ≤ C.K * C.lq := Nat.mul_le_mul_right _ hc
  have b3 : 1 * C.lp ≤ C.K * C.lp := Nat.mul_le_mul_right _ k1
  have b4 : 14 ≤ C.lp := by rw [lp_eq]; omega
  have b5 := lq_eq C
  rw [Nat.add_mul, Nat.one_mul] at b1 b2
  have b6 : C.lp * C.K = C.K * C.lp := Nat.mul_comm _ _
  have b7 : C.lq * c = c * C.lq := Nat.mul_comm _ _
  refine h (C.lp * C.K + C.lq * c + 2 + s2 * (12 + 2 * C.K) + j) c s2 p _ (by omega) (by unfold Sk.Cfg.L; omega) hc hs ?_ ((dk5.keep (Keep.new hp (S := [])) (by simp) (by simp)).less (Nat.le_succ _)) (e15.trans (Keep.new hp))
  rw [upd_same]
  push_cast
  rfl
theorem D__law_wrong (F : Fx K mg) : Dn P w K mg base 3 "_law_wrong" ["_law_deck_here", "_law_memory", "_law_at"] spWrong := by
  refine dn_mk F.f__law_wrong F.g__law_wrong sc__law_wrong (fun _ _ _ _ _ _ us hl => match us, hl with | [_, _, _], _ => rfl) (by rintro vs H Q E ⟨_, _, _, _, _, _, _, rfl, _⟩; rfl) ?_
  rintro cdv A outer s H vs Q E hr ⟨d, q, mt, m, N, b, ms, rfl, dk, hm, hb, h⟩
  refine ⟨_, (pss_cons (ps_set (i := 3) sc__law_wrong.nd rfl (by first | exact .inl rfl | exact .inr rfl) (sk_call (D__law_pick F) hr (pa_cons (pv 0) (pa_cons (pe_lst (pa_cons (pe_op op_add (pe_ix ix_tup (pv 1) (pv 2) (fun _ _ => rfl)) pe_int) (pa_cons (pe_op op_sub (pe_ix ix_tup (pv 1) (pv 2) (fun _ _ => rfl)) pe_int) (pa_cons (pe_op op_add (pe_ix ix_tup (pv 1) (pv 2) (fun _ _ => rfl)) pe_int) (pa_cons pe_int (pa_cons (sk_call (D__law_draw F) hr (pa_cons (pv 0) (pa_cons pe_int pa_nil))) (pa_cons pe_int pa_nil))))))) pa_nil))))
    (pss_one (ps_ret (pe_tup (pa_cons pe_str (pa_cons (pv 2) (pa_cons (pe_op op_modN (pv 3) pe_int) pa_nil))))))), ?_⟩
  refine rd_seq fun D1 k1' r1 => ?_
  trivial
  refine ⟨_, SqT.of hm, _, atI_nat (memL_get _ hb), _, rfl, _, SqT.of hm, _, atI_nat (memL_get _ hb), _, rfl, _, SqT.of hm, _, atI_nat (memL_get _ hb), _, rfl, ?_⟩
  refine draw_at (lim := 1000000) dk (by decide) (by decide) fun x H1 hx dk1 e1 => ⟨by decide, fun l hl => ?_⟩
  have dk2 := dk1.keep (Keep.new hl (o := .lst [V.int (ms b + 1), V.int (ms b - 1), V.int (ms b + 2), V.int 999999, V.int x, V.int 0]) (S := [])) (by simp) (by simp)
  refine pick_at dk2 upd_same (Deck.ne dk1 hl) (by simp) (by simp) fun v H2 hv dk3 e3 => k1' _ _ ?_
  clear k1'
  have e13 := (e1.trans (Keep.new hl)).trans e3
  obtain ⟨j, rfl⟩ : ∃ j : Int, v = .int j := by
    simp only [List.mem_cons, List.not_mem_nil, or_false] at hv
    rcases hv with rfl | rfl | rfl | rfl | rfl | rfl <;> exact ⟨_, rfl⟩
  trivial
  refine ⟨by decide, by decide, fun p hp => ?_⟩
  have jb := fmB j (b := 1000000) (by decide)
  exact h _ p _ jb.1 (by omega) upd_same ((dk3.keep (Keep.new hp (S := [])) (by simp) (by simp)).less (by omega)) (e13.trans (Keep.new hp))
theorem D__law_ran_to (F : Fx K mg) : Dn P w K mg base 6 "_law_ran_to" ["_law_machine", "_law_row", "_law_total", "_law_rounds"] (spRanTo K) := by
  refine dn_mk F.f__law_ran_to F.g__law_ran_to sc__law_ran_to (fun _ _ _ _ _ _ us hl => match us, hl with | [_, _, _, _], _ => rfl) (by rintro vs H Q E ⟨_, _, _, _, _, _, _, _, _, _, rfl, _⟩; rfl) ?_
  rintro cdv A outer s H vs Q E hr ⟨C, s0, a, d, q, m, t, f, r, k, rfl, W, S, hf, hk, h⟩
  refine ⟨_, (pss_one (ps_expr (sk_meth F.c_Machine (M_run F) hr (pv 0) (pa_cons (pe_op op_add (pe_op op_modN (pe_op op_sub (pv 1) (sk_prop F.c_Machine (P_row F) hr (pv 0))) (pv 2)) (pe_op op_mul (pv 3) (pv 2))) pa_nil)))), ?_⟩
  trivial
  obtain ⟨ms, p, M, R⟩ := id W.mach
  have G := Sk.guarantee S.o S.hK S.init R hf
  have LB := L_le S.ok.toFits
  have L0 : 0 < C.L := Nat.lt_of_le_of_lt (Nat.zero_le _) G.row
  refine ⟨a.dx, _, M.obj, machF_n3 _ _ _ _ _ _ _ _, ⟨a.dx, _, M.obj⟩, C, a, ms, p, t, f, rfl, M, _, rfl, by omega, .inl ⟨by omega, by omega⟩, ?_⟩
  have jb := fmB ((r : Int) - p) (b := (C.L : Int)) (by omega)
  have kb : (k : Int) * C.L ≤ 1000000 := by
    have h1 : k * C.L ≤ 1000000 := Nat.mul_le_mul hk LB
    have h2 := Int.ofNat_le.mpr h1
    rw [Int.natCast_mul] at h2
    exact h2
  have kb0 : (0 : Int) ≤ (k : Int) * C.L := Int.mul_nonneg (by omega) (by omega)
  obtain ⟨j, hj⟩ : ∃ j : Nat, ((r : Int) - p).fmod C.L + (k : Int) * C.L = j := ⟨_, (Int.toNat_of_nonneg (by omega)).symm⟩
  rw [hj]
  exact W.run S hf (by omega) fun H' W' e => h _ H' W' e
end
end Wk
end

section
set_option Elab.async false
set_option linter.all false
set_option maxRecDepth 100000
set_option maxHeartbeats 4000000
/-! the walk: faults by plan -/
namespace Wk
open PySem PySem.Spec PyProof.Rows L2 StX
local macro_rules | `(tactic| trivial) => `(tactic| try simp only [spInt, spWord, spIdx, spNum, spReg, isi_ii, isi_ib, isi_ss, eq_ii, ne_ii, eq_ss, ne_ss, cxK, wipe, rLenS, rSlL, rSlT, tRevL, tDisp, tPairs, rCat, rRep, rExtend, rAdd, rSub, rSetD, rPop, rAppend, rIxL, rIxT, rSetL, tVar, tC, t2I, tB, tAnd, tOr, tNot, tAndV, tOrV, tNotV, tIf, tNext, tSeq, tDrop, tRet, tRetN, tIfS, tNever, tAsg, tPar, tOp, tUn, rI, rI0, rU, tTest, tChain, tFld, tCon, tNil, tCons, tTup, tLst, tCall, tMeth, tProp, tCB, tSl, tNoPart, tPart, tBM, tBM0, gName, gTup, gNil, gCons, gSub, sFld, L2.start, tDGet, tDIn, tDNotIn, tDNewK, tDNewT, sDPut, tDGet2, and_assoc, exists_and_left, exists_and_right, exists_eq_left', exists_eq_left, exists_eq_right, exists_eq', V.int.injEq, V.str.injEq, V.bl.injEq, V.ref.injEq, List.cons.injEq, and_true, true_and, List.append_nil, List.map_cons, List.map_nil, List.length_cons, List.length_nil, List.cons_append, List.nil_append, Nat.reduceAdd, Nat.reduceSub, List.reduceReplicate, List.getElem?_cons_succ, List.getElem?_cons_zero, List.set_cons_succ, List.set_cons_zero, Option.some.injEq, if_true, Bool.false_eq_true, if_false, decide_eq_true_eq, Bool.not_true, Bool.not_false, Bool.not_eq_true', decide_eq_false_iff_not, decide_true, decide_false, Bool.true_and, Bool.and_true, Bool.false_and, Int.reduceEq, Int.reduceLT, Int.reduceLE, Int.reduceNeg, reduceCtorEq, not_false_eq_true, not_true_eq_false])
def spPlan (K : PySem.W.Frag) : Sp := fun vs H Q _ => ∃ (C : Sk.Cfg) (s0 : Sk.MS) (a : Ad) (d q lt : Addr) (m t f : Nat), vs = [V.ref d, V.ref a.mc, V.ref lt, V.int C.ln, V.int C.K] ∧ Wl K C s0 H a d q (m + 30) t f ∧ Sys C s0 ∧ f ≤ C.e ∧ H lt = some (.tup [.int C.lp, .int C.lq]) ∧
  ∀ (t' : Nat) (p : Addr) (fl : Fl) (H' : Hp), Wl K C s0 H' a d q m t' f → FlA H' p fl → FlOk C fl → Keep (a.T d q) H H' → Q (.ref p) H'
def spPlanned (K : PySem.W.Frag) : Sp := fun vs H Q _ => ∃ (C : Sk.Cfg) (s0 : Sk.MS) (a : Ad) (d q lt kt : Addr) (m t f : Nat) (i : Int), vs = [V.ref d, V.int i, V.ref a.mc, V.ref kt] ∧ Wl K C s0 H a d q (m + 30) t f ∧ Sys C s0 ∧ f ≤ C.e ∧ H kt = some (.tup [.ref lt, .int C.ln, .int C.K]) ∧ H lt = some (.tup [.int C.lp, .int C.lq]) ∧
  ∀ (t' : Nat) (p : Addr) (fl : Fl) (H' : Hp), Wl K C s0 H' a d q m t' f → FlA H' p fl → FlOk C fl → Keep (a.T d q) H H' → Q (.ref p) H'
section
variable {P : Program} {w : World} {K : PySem.W.Frag} {mg : Str → Option Value} {base : Heap}
theorem tot_eq (C : Sk.Cfg) : ((C.lp : Int) + C.lq) * C.K = C.L := by
  unfold Sk.Cfg.L
  push_cast
  rw [Int.add_mul, Int.mul_comm, Int.mul_comm (C.lq : Int)]
theorem Wl.look {C : Sk.Cfg} {s0 : Sk.MS} {H : Hp} {a : Ad} {d q lt : Addr} {m t f : Nat} {Q : VK} {E : XK} (W : Wl K C s0 H a d q (m + 5) t f) (S : Sys C s0) (hlt : H lt = some (.tup [.int C.lp, .int C.lq]))
    (h : ∀ (r c s : Nat) (p : Addr) (H' : Hp), 15 ≤ r → r < C.L → c < C.K → s < C.K → H' p = some (.tup [.int r, .int c, .int s]) → Wl K C s0 H' a d q m t f → Keep (a.T d q) H H' → Q (.ref p) H') : spLookRow [V.ref d, V.ref lt, V.int C.K] H Q E :=
  ⟨C, d, q, lt, m, rfl, W.deck, hlt, S.ok.toFits, S.ok.k1, fun r c s p H' h1 h2 h3 h4 h5 h6 h7 => h r c s p H' h1 h2 h3 h4 h5 (W.draws h7 h6) (h7.mono (a.tD d q))⟩
theorem Wl.ran {C : Sk.Cfg} {s0 : Sk.MS} {H : Hp} {a : Ad} {d q : Addr} {m t f r k : Nat} {Q : VK} {E : XK} (W : Wl K C s0 H a d q m t f) (S : Sys C s0) (hf : f ≤ C.e) (hk : k ≤ 10)
    (h : ∀ (t' : Nat) H', Wl K C s0 H' a d q m t' f → Keep (a.T d q) H H' → Q .non H') : spRanTo K [V.ref a.mc, V.int r, V.int C.L, V.int k] H Q E := ⟨C, s0, a, d, q, m, t, f, r, k, rfl, W, S, hf, hk, h⟩
theorem Wl.wrong {C : Sk.Cfg} {s0 : Sk.MS} {H : Hp} {a : Ad} {d q : Addr} {m t f b : Nat} {Q : VK} {E E' : XK} (W : Wl K C s0 H a d q (m + 5) t f) (hb : b < nWords C)
    (h : ∀ (p : Addr) (fl : Fl) (H' : Hp), Wl K C s0 H' a d q m t f → FlA H' p fl → FlOk C fl → Keep (a.T d q) H H' → Q (.ref p) H') :
    (∃ x y, H a.mc = some (.ins (ga K "Machine") x y)) ∧ spMem K [V.ref a.mc] H (fun x H1 => spWrong [V.ref d, x, V.int b] H1 Q E) E' := by
  obtain ⟨ms, p, M, R⟩ := id W.mach
  refine ⟨⟨_, _, M.obj⟩, C, a, ms, p, t, f, rfl, M, fun l hl => ?_⟩
  have W1 := W.new (Keep.new hl (o := .tup (memL (nWords C) ms.mem)))
  exact ⟨d, q, l, m, nWords C, b, ms.mem, rfl, W1.deck, upd_same, hb, fun v p H' v0 v1 hp dk e => h p (.word b v) H' (W1.draws e dk) hp ⟨hb, v0, v1⟩ ((Keep.new hl).trans (e.mono (a.tD d q)))⟩
theorem word_in {C : Sk.Cfg} {c y j : Nat} (hc : c < C.K) (hy : y < 4) (hj : j < C.ln) : 4 * C.ln * c + y * C.ln + j < nWords C := by
  have h1 : 4 * C.ln * (c + 1) ≤ 4 * C.ln * C.K := Nat.mul_le_mul_left _ hc
  have h2 : y * C.ln ≤ 3 * C.ln := Nat.mul_le_mul_right _ (by omega)
  rw [Nat.mul_succ] at h1
  unfold nWords
  omega
theorem Wl.L0 {C : Sk.Cfg} {s0 : Sk.MS} {H : Hp} {a : Ad} {d q : Addr} {m t f : Nat} (W : Wl K C s0 H a d q m t f) (S : Sys C s0) (hf : f ≤ C.e) : 1 ≤ C.L ∧ C.L ≤ 100000 := by
  obtain ⟨ms, p, M, R⟩ := id W.mach
  exact ⟨Nat.lt_of_le_of_lt (Nat.zero_le _) (Sk.guarantee S.o S.hK S.init R hf).row, L_le S.ok.toFits⟩
theorem D__law_in_look (F : Fx K mg) : Dn P w K mg base 7 "_law_in_look" ["_law_deck_here", "_law_machine", "_law_lengths_here", "_law_size", "_law_count"] (spPlan K) := by
  refine dn_mk F.f__law_in_look F.g__law_in_look sc__law_in_look (fun _ _ _ _ _ _ us hl => match us, hl with | [_, _, _, _, _], _ => rfl) (by rintro vs H Q E ⟨_, _, _, _, _, _, _, _, _, rfl, _⟩; rfl) ?_
  rintro cdv A outer s H vs Q E hr ⟨C, s0, a, d, q, lt, m, t, f, rfl, W, S, hf, hlt, h⟩
  refine ⟨_, (pss_cons (ps_asg (sk_call (D__law_look_row F) hr (pa_cons (pv 0) (pa_cons (pv 2) (pa_cons (pv 4) pa_nil)))) (pg_tup (by rfl) (pgs_cons (pg_name (i := 5) sc__law_in_look.nd rfl (by first | exact .inl rfl | exact .inr rfl)) (pgs_cons (pg_name (i := 6) sc__law_in_look.nd rfl (by first | exact .inl rfl | exact .inr rfl)) (pgs_cons (pg_name (i := 7) sc__law_in_look.nd rfl (by first | exact .inl rfl | exact .inr rfl)) pgs_nil)))))
    (pss_cons (ps_expr (sk_call (D__law_ran_to F) hr (pa_cons (pv 1) (pa_cons (pv 5) (pa_cons (pe_op op_mul (pe_op op_add (pe_ix ix_tup (pv 2) pe_int (fun _ _ => rfl)) (pe_ix ix_tup (pv 2) pe_int (fun _ _ => rfl))) (pv 4)) (pa_cons (sk_call (D__law_draw F) hr (pa_cons (pv 0) (pa_cons pe_int pa_nil))) pa_nil))))))
    (pss_cons (ps_set (i := 8) sc__law_in_look.nd rfl (by first | exact .inl rfl | exact .inr rfl) (pe_op op_add (pe_op op_mul (pe_op op_mul pe_int (pv 3)) (pv 6)) (pe_op op_mul (pe_op op_add pe_int (sk_call (D__law_draw F) hr (pa_cons (pv 0) (pa_cons pe_int pa_nil)))) (pv 3))))
    (pss_cons (ps_set (i := 9) sc__law_in_look.nd rfl (by first | exact .inl rfl | exact .inr rfl) (sk_call (D__law_pick F) hr (pa_cons (pv 0) (pa_cons (pe_lst (pa_cons pe_int (pa_cons (pe_op op_sub (pv 3) pe_int) (pa_cons (sk_call (D__law_draw F) hr (pa_cons (pv 0) (pa_cons (pv 3) pa_nil))) pa_nil)))) pa_nil))))
    (pss_one (ps_ret (sk_call (D__law_wrong F) hr (pa_cons (pv 0) (pa_cons (sk_prop F.c_Machine (P_memory F) hr (pv 1)) (pa_cons (pe_op op_add (pv 8) (pv 9)) pa_nil)))))))))), ?_⟩
  have B := S.ok.toFits
  have k1 := S.ok.k1
  have kb := B.k16
  have nb := B.n10
  have n1 := S.ok.n1
  have lnE : C.ln = C.n + 2 := rfl
  refine rd_seq fun D1 k1' r1 => ?_
  trivial
  refine W.look (m := m + 25) S hlt fun r c s2 p1 H1 r15 rL cK sK hp1 W1 e1 => ⟨p1, rfl, _, SqT.of hp1, rfl, _, _, rfl, _, _, rfl, _, _, rfl, rfl, k1' _ _ ?_⟩
  clear k1'
  refine rd_seq fun D2 k2 r2 => ?_
  trivial
  have cm : CMul ((C.lp : Int) + C.lq) C.K := .inr ⟨by omega, by omega⟩
  have hlt1 := e1.t _ _ hlt
  refine ⟨_, SqT.of hlt1, _, rfl, _, SqT.of hlt1, _, rfl, _, rfl, _, rfl, cm, ?_⟩
  refine W1.draw (lim := 2) (m := m + 24) (by decide) (by decide) fun x H2 hx W2 e2 => ?_
  rw [tot_eq]
  refine W2.ran S hf (by omega) fun t2 H3 W3 e3 => k2 _ _ ?_
  clear k2
  have e13 := (e1.trans e2).trans e3
  refine rd_seq fun D3 k3 r3 => ?_
  trivial
  refine ⟨.inl ⟨by decide, by decide⟩, .inr ⟨by omega, by omega⟩, ?_⟩
  refine W3.draw (lim := 2) (m := m + 23) (by decide) (by decide) fun y H4 hy W4 e4 => ⟨_, rfl, .inr ⟨by omega, by omega⟩, k3 _ _ ?_⟩
  clear k3
  have e14 := e13.trans e4
  refine rd_seq fun D4 k4 r4 => ?_
  trivial
  refine W4.draw (m := m + 22) (by omega) (by omega) fun z H5 hz W5 e5 => ⟨by decide, fun l hl => ?_⟩
  have W6 := W5.new (Keep.new hl (o := .lst [V.int 0, V.int (C.ln - 1), V.int z]))
  refine W6.pick (m := m + 21) upd_same (Deck.ne W5.deck hl) (by simp) (by simp) fun v H6 hv W7 e7 => k4 _ _ ?_
  clear k4
  have e17 := ((e14.trans e5).trans (Keep.new hl)).trans e7
  obtain ⟨j, rfl, jb⟩ : ∃ j : Nat, v = .int j ∧ j < C.ln := by
    simp only [List.mem_cons, List.not_mem_nil, or_false] at hv
    rcases hv with rfl | rfl | rfl
    · exact ⟨0, rfl, by omega⟩
    · exact ⟨C.ln - 1, by congr 1; omega, by omega⟩
    · exact ⟨z, rfl, hz⟩
  trivial
  have eb : (4 : Int) * C.ln * c + (2 + y) * C.ln + j = ((4 * C.ln * c + (2 + y) * C.ln + j : Nat) : Int) := by
    push_cast
    rfl
  rw [eb]
  exact (W7.less (m' := m + 5) (by omega)).wrong (word_in cK (by omega) jb) fun p fl H7 W8 hp ho e8 => h t2 p fl H7 W8 hp ho (e17.trans e8)
theorem D__law_in_marks (F : Fx K mg) : Dn P w K mg base 7 "_law_in_marks" ["_law_deck_here", "_law_machine", "_law_lengths_here", "_law_size", "_law_count"] (spPlan K) := by
  refine dn_mk F.f__law_in_marks F.g__law_in_marks sc__law_in_marks (fun _ _ _ _ _ _ us hl => match us, hl with | [_, _, _, _, _], _ => rfl) (by rintro vs H Q E ⟨_, _, _, _, _, _, _, _, _, rfl, _⟩; rfl) ?_
  rintro cdv A outer s H vs Q E hr ⟨C, s0, a, d, q, lt, m, t, f, rfl, W, S, hf, hlt, h⟩
  refine ⟨_, (pss_cons (ps_expr (sk_meth F.c_Machine (M_run F) hr (pv 1) (pa_cons (sk_call (D__law_draw F) hr (pa_cons (pv 0) (pa_cons (pe_op op_mul (pe_op op_add (pe_ix ix_tup (pv 2) pe_int (fun _ _ => rfl)) (pe_ix ix_tup (pv 2) pe_int (fun _ _ => rfl))) (pv 4)) pa_nil))) pa_nil)))
    (pss_cons (ps_set (i := 5) sc__law_in_marks.nd rfl (by first | exact .inl rfl | exact .inr rfl) (pe_op op_add (pe_op op_add (pe_op op_mul (pe_op op_mul pe_int (pv 3)) (sk_call (D__law_draw F) hr (pa_cons (pv 0) (pa_cons (pv 4) pa_nil)))) (pe_op op_mul (sk_call (D__law_draw F) hr (pa_cons (pv 0) (pa_cons pe_int pa_nil))) (pv 3))) (pe_op op_mul (sk_call (D__law_draw F) hr (pa_cons (pv 0) (pa_cons pe_int pa_nil))) (pe_op op_sub (pv 3) pe_int))))
    (pss_one (ps_ret (sk_call (D__law_wrong F) hr (pa_cons (pv 0) (pa_cons (sk_prop F.c_Machine (P_memory F) hr (pv 1)) (pa_cons (pv 5) pa_nil)))))))), ?_⟩
  have B := S.ok.toFits
  have k1 := S.ok.k1
  have kb := B.k16
  have nb := B.n10
  have n1 := S.ok.n1
  have lnE : C.ln = C.n + 2 := rfl
  refine rd_seq fun D1 k1' r1 => ?_
  trivial
  obtain ⟨L1, L2⟩ := W.L0 S hf
  have cm : CMul ((C.lp : Int) + C.lq) C.K := .inr ⟨by omega, by omega⟩
  obtain ⟨ms, p, M, R⟩ := id W.mach
  refine ⟨a.dx, _, M.obj, machF_n3 _ _ _ _ _ _ _ _, _, SqT.of hlt, _, rfl, _, SqT.of hlt, _, rfl, _, rfl, _, rfl, cm, ?_⟩
  rw [tot_eq]
  refine W.draw (m := m + 29) L1 (by omega) fun x H1 hx W1 e1 => W1.run S hf (by omega) fun H2 W2 e2 => k1' _ _ ?_
  clear k1'
  have e12 := e1.trans e2
  refine rd_seq fun D2 k2 r2 => ?_
  trivial
  refine ⟨.inl ⟨by decide, by decide⟩, ?_⟩
  refine W2.draw (m := m + 28) k1 (by omega) fun c H3 cK W3 e3 => ⟨_, rfl, .inr ⟨by omega, by omega⟩, ?_⟩
  refine W3.draw (lim := 2) (m := m + 27) (by decide) (by decide) fun y H4 hy W4 e4 => ⟨_, rfl, .inl ⟨by omega, by omega⟩, ?_⟩
  refine W4.draw (lim := 2) (m := m + 26) (by decide) (by decide) fun z H5 hz W5 e5 => ⟨_, rfl, .inl ⟨by omega, by omega⟩, k2 _ _ ?_⟩
  clear k2
  have e15 := ((e12.trans e3).trans e4).trans e5
  trivial
  obtain ⟨j, ej, jb⟩ : ∃ j : Nat, (z : Int) * ((C.ln : Int) - 1) = j ∧ j < C.ln := by
    have : z = 0 ∨ z = 1 := by omega
    rcases this with rfl | rfl
    · exact ⟨0, by simp, by omega⟩
    · exact ⟨C.ln - 1, by simp; omega, by omega⟩
  rw [ej]
  have eb : (4 : Int) * C.ln * c + y * C.ln + j = ((4 * C.ln * c + y * C.ln + j : Nat) : Int) := by
    push_cast
    rfl
  rw [eb]
  exact (W5.less (m' := m + 5) (by omega)).wrong (word_in cK (by omega) jb) fun p fl H7 W8 hp ho e8 => h _ p fl H7 W8 hp ho (e15.trans e8)
theorem D__law_half_done (F : Fx K mg) : Dn P w K mg base 7 "_law_half_done" ["_law_deck_here", "_law_machine", "_law_lengths_here", "_law_size", "_law_count"] (spPlan K) := by
  refine dn_mk F.f__law_half_done F.g__law_half_done sc__law_half_done (fun _ _ _ _ _ _ us hl => match us, hl with | [_, _, _, _, _], _ => rfl) (by rintro vs H Q E ⟨_, _, _, _, _, _, _, _, _, rfl, _⟩; rfl) ?_
  rintro cdv A outer s H vs Q E hr ⟨C, s0, a, d, q, lt, m, t, f, rfl, W, S, hf, hlt, h⟩
  refine ⟨_, (pss_cons (ps_set (i := 5) sc__law_half_done.nd rfl (by first | exact .inl rfl | exact .inr rfl) (sk_call (D__law_draw F) hr (pa_cons (pv 0) (pa_cons (pv 4) pa_nil))))
    (pss_cons (ps_set (i := 6) sc__law_half_done.nd rfl (by first | exact .inl rfl | exact .inr rfl) (pe_op op_add (pe_op op_add (pe_op op_mul (pe_ix ix_tup (pv 2) pe_int (fun _ _ => rfl)) (pv 5)) pe_int) (sk_call (D__law_draw F) hr (pa_cons (pv 0) (pa_cons (pe_op op_sub (pe_ix ix_tup (pv 2) pe_int (fun _ _ => rfl)) pe_int) pa_nil)))))
    (pss_cons (ps_expr (sk_call (D__law_ran_to F) hr (pa_cons (pv 1) (pa_cons (pv 6) (pa_cons (pe_op op_mul (pe_op op_add (pe_ix ix_tup (pv 2) pe_int (fun _ _ => rfl)) (pe_ix ix_tup (pv 2) pe_int (fun _ _ => rfl))) (pv 4)) (pa_cons (sk_call (D__law_draw F) hr (pa_cons (pv 0) (pa_cons pe_int pa_nil))) pa_nil))))))
    (pss_one (ps_ret (pe_tup (pa_cons pe_str (pa_cons (sk_call (D__law_pick F) hr (pa_cons (pv 0) (pa_cons (pe_lst (pa_cons (pe_op op_mul (pe_ix ix_tup (pv 2) pe_int (fun _ _ => rfl)) (pe_op op_add (pv 5) pe_int)) (pa_cons (pe_op op_mul (pe_ix ix_tup (pv 2) pe_int (fun _ _ => rfl)) (pe_op op_add (pv 5) pe_int)) (pa_cons pe_int (pa_cons (pe_op op_mul (pe_ix ix_tup (pv 2) pe_int (fun _ _ => rfl)) (pv 4)) pa_nil))))) pa_nil))) pa_nil)))))))), ?_⟩
  have B := S.ok.toFits
  have k1 := S.ok.k1
  have kb := B.k16
  have nb := B.n10
  have n1 := S.ok.n1
  have lnE : C.ln = C.n + 2 := rfl
  refine rd_seq fun D1 k1' r1 => ?_
  trivial
  refine W.draw (m := m + 29) k1 (by omega) fun c H1 cK W1 e1 => k1' _ _ ?_
  clear k1'
  refine rd_seq fun D2 k2 r2 => ?_
  trivial
  have lp14 : 14 ≤ C.lp := by rw [lp_eq]; omega
  have hlt1 := e1.t _ _ hlt
  have lpL : C.lp ≤ 100000 := by
    have h1 := L_le B
    have h2 : 1 * C.lp ≤ C.K * C.lp := Nat.mul_le_mul_right _ k1
    unfold Sk.Cfg.L at h1
    omega
  refine ⟨_, SqT.of hlt1, _, rfl, _, rfl, .inr ⟨by omega, by omega⟩, _, SqT.of hlt1, _, rfl, _, rfl, ?_⟩
  refine W1.drawI (m := m + 28) (by omega) (by omega) fun x H2 hx W2 e2 => ⟨_, rfl, k2 _ _ ?_⟩
  clear k2
  have e12 := e1.trans e2
  refine rd_seq fun D3 k3 r3 => ?_
  trivial
  have cm : CMul ((C.lp : Int) + C.lq) C.K := .inr ⟨by omega, by omega⟩
  have hlt2 := e12.t _ _ hlt
  refine ⟨_, SqT.of hlt2, _, rfl, _, SqT.of hlt2, _, rfl, _, rfl, _, rfl, cm, ?_⟩
  refine W2.draw (lim := 2) (m := m + 27) (by decide) (by decide) fun y H3 hy W3 e3 => ?_
  rw [tot_eq, show (C.lp : Int) * c + 2 + x = ((C.lp * c + 2 + x : Nat) : Int) from by push_cast; rfl]
  refine W3.ran S hf (by omega) fun t2 H4 W4 e4 => k3 _ _ ?_
  clear k3
  have e14 := (e12.trans e3).trans e4
  trivial
  have hlt4 := e14.t _ _ hlt
  have m1 : CMul (C.lp : Int) ((c : Int) + 1) := .inr ⟨by omega, by omega⟩
  refine ⟨_, SqT.of hlt4, _, rfl, _, rfl, m1, _, SqT.of hlt4, _, rfl, _, rfl, m1, _, SqT.of hlt4, _, rfl, _, rfl, .inr ⟨by omega, by omega⟩, by decide, fun l hl => ?_⟩
  have W5 := W4.new (Keep.new hl (o := .lst [V.int (C.lp * ((c : Int) + 1)), V.int (C.lp * ((c : Int) + 1)), V.int 0, V.int (C.lp * (C.K : Int))]))
  refine W5.pick (m := m + 26) upd_same (Deck.ne W4.deck hl) (by simp) (by simp) fun v H5 hv W6 e6 => ⟨by decide, fun p hp => ?_⟩
  have lq1 : 1 * C.lq ≤ C.K * C.lq := Nat.mul_le_mul_right _ k1
  have lq3 := lq_eq C
  have lL : C.K * C.lp < C.L := by unfold Sk.Cfg.L; omega
  have cL : (c + 1) * C.lp ≤ C.K * C.lp := Nat.mul_le_mul_right _ cK
  have cc : (C.lp : Int) * ((c : Int) + 1) = (((c + 1) * C.lp : Nat) : Int) := by push_cast; rw [Int.mul_comm]
  obtain ⟨j, rfl, jb⟩ : ∃ j : Nat, v = .int j ∧ j < C.L := by
    simp only [List.mem_cons, List.not_mem_nil, or_false] at hv
    rcases hv with rfl | rfl | rfl | rfl
    · exact ⟨_, by rw [cc], by omega⟩
    · exact ⟨_, by rw [cc], by omega⟩
    · exact ⟨0, rfl, by omega⟩
    · exact ⟨C.K * C.lp, by push_cast; rw [Int.mul_comm], lL⟩
  exact h t2 p (.row j) _ ((W6.new (Keep.new hp)).less (by omega)) upd_same jb (((e14.trans (Keep.new hl)).trans e6).trans (Keep.new hp))
theorem D__law_entry (F : Fx K mg) : Dn P w K mg base 7 "_law_entry" ["_law_deck_here", "_law_machine", "_law_lengths_here", "_law_size", "_law_count"] (spPlan K) := by
  refine dn_mk F.f__law_entry F.g__law_entry sc__law_entry (fun _ _ _ _ _ _ us hl => match us, hl with | [_, _, _, _, _], _ => rfl) (by rintro vs H Q E ⟨_, _, _, _, _, _, _, _, _, rfl, _⟩; rfl) ?_
  rintro cdv A outer s H vs Q E hr ⟨C, s0, a, d, q, lt, m, t, f, rfl, W, S, hf, hlt, h⟩
  refine ⟨_, (pss_cons (ps_asg (sk_call (D__law_look_row F) hr (pa_cons (pv 0) (pa_cons (pv 2) (pa_cons (pv 4) pa_nil)))) (pg_tup (by rfl) (pgs_cons (pg_name (i := 5) sc__law_entry.nd rfl (by first | exact .inl rfl | exact .inr rfl)) (pgs_cons (pg_name (i := 6) sc__law_entry.nd rfl (by first | exact .inl rfl | exact .inr rfl)) (pgs_cons (pg_name (i := 7) sc__law_entry.nd rfl (by first | exact .inl rfl | exact .inr rfl)) pgs_nil)))))
    (pss_cons (ps_expr (sk_meth F.c_Machine (M_run F) hr (pv 1) (pa_cons (sk_call (D__law_draw F) hr (pa_cons (pv 0) (pa_cons (pe_op op_mul (pe_op op_add (pe_ix ix_tup (pv 2) pe_int (fun _ _ => rfl)) (pe_ix ix_tup (pv 2) pe_int (fun _ _ => rfl))) (pv 4)) pa_nil))) pa_nil)))
    (pss_cons (ps_if (pt_cmpR op_eq (sk_call (D__law_draw F) hr (pa_cons (pv 0) (pa_cons pe_int pa_nil))) pe_int (nomark _)) (pss_cons (ps_expr (sk_call (D__law_ran_to F) hr (pa_cons (pv 1) (pa_cons (pv 5) (pa_cons (pe_op op_mul (pe_op op_add (pe_ix ix_tup (pv 2) pe_int (fun _ _ => rfl)) (pe_ix ix_tup (pv 2) pe_int (fun _ _ => rfl))) (pv 4)) (pa_cons pe_int pa_nil))))))
    (pss_one (ps_ret (pe_tup (pa_cons pe_str (pa_cons (pe_op op_sub (pe_op op_sub (pv 5) pe_int) (sk_call (D__law_draw F) hr (pa_cons (pv 0) (pa_cons pe_int pa_nil)))) pa_nil)))))) pss_nil)
    (pss_one (ps_ret (pe_tup (pa_cons pe_str (pa_cons (pe_callB (call_min2 rfl) (by rfl) F.b_min bt_min (pa_cons (pe_op op_add (pv 5) (sk_call (D__law_draw F) hr (pa_cons (pv 0) (pa_cons pe_int pa_nil)))) (pa_cons (pe_op op_sub (pe_op op_mul (pe_op op_add (pe_ix ix_tup (pv 2) pe_int (fun _ _ => rfl)) (pe_ix ix_tup (pv 2) pe_int (fun _ _ => rfl))) (pv 4)) pe_int) pa_nil))) pa_nil)))))))), ?_⟩
  have B := S.ok.toFits
  have k1 := S.ok.k1
  have kb := B.k16
  have nb := B.n10
  have n1 := S.ok.n1
  have lnE : C.ln = C.n + 2 := rfl
  refine rd_seq fun D1 k1' r1 => ?_
  trivial
  refine W.look (m := m + 25) S hlt fun r c s2 p1 H1 r15 rL cK sK hp1 W1 e1 => ⟨p1, rfl, _, SqT.of hp1, rfl, _, _, rfl, _, _, rfl, _, _, rfl, rfl, k1' _ _ ?_⟩
  clear k1'
  refine rd_seq fun D2 k2 r2 => ?_
  trivial
  have hlt1 := e1.t _ _ hlt
  obtain ⟨L1, L2⟩ := W1.L0 S hf
  have cm : CMul ((C.lp : Int) + C.lq) C.K := .inr ⟨by omega, by omega⟩
  obtain ⟨ms, p, M, R⟩ := id W1.mach
  refine ⟨a.dx, _, M.obj, machF_n3 _ _ _ _ _ _ _ _, _, SqT.of hlt1, _, rfl, _, SqT.of hlt1, _, rfl, _, rfl, _, rfl, cm, ?_⟩
  rw [tot_eq]
  refine W1.draw (m := m + 24) L1 (by omega) fun x H2 hx W2 e2 => W2.run S hf (by omega) fun H3 W3 e3 => k2 _ _ ?_
  clear k2
  have e13 := (e1.trans e2).trans e3
  have hlt3 := e13.t _ _ hlt
  refine rd_seq fun D3 k3 r3 => ?_
  trivial
  refine W3.draw (lim := 3) (m := m + 23) (by decide) (by decide) fun y H4 hy W4 e4 => ?_
  rw [eq_ii]
  refine ⟨_, rfl, ?_⟩
  have e14 := e13.trans e4
  have hlt4 := e14.t _ _ hlt
  by_cases y0 : (y : Int) = 0
  · refine iteT' (by simpa using y0) ?_
    refine ⟨_, SqT.of hlt4, _, rfl, _, SqT.of hlt4, _, rfl, _, rfl, _, rfl, cm, ?_⟩
    rw [tot_eq]
    refine W4.ran (k := 0) S hf (by omega) fun t2 H5 W5 e5 => ?_
    refine W5.draw (lim := 10) (m := m + 22) (by decide) (by decide) fun z H6 hz W6 e6 => ⟨_, rfl, by decide, fun p hp => ?_⟩
    rw [r3]
    refine h t2 p (.row (r - 1 - z)) _ ((W6.new (Keep.new hp)).less (by omega)) ?_ (by show r - 1 - z < C.L; omega) (((e14.trans e5).trans e6).trans (Keep.new hp))
    show upd _ _ _ _ = _
    rw [upd_same, show (r : Int) - 1 - z = ((r - 1 - z : Nat) : Int) from by omega]
    rfl
  · refine iteF' (by simpa using y0) ?_
    refine k3 _ _ ?_
    trivial
    refine W4.draw (lim := 3) (m := m + 22) (by decide) (by decide) fun z H5 hz W5 e5 => ⟨_, rfl, ?_⟩
    have e15 := e14.trans e5
    have hlt5 := e15.t _ _ hlt
    refine ⟨_, SqT.of hlt5, _, rfl, _, SqT.of hlt5, _, rfl, _, rfl, _, rfl, cm, by decide, fun p hp => ?_⟩
    rw [tot_eq]
    obtain ⟨j, ej, jb⟩ : ∃ j : Nat, (if (C.L : Int) - 1 < (r : Int) + z then (C.L : Int) - 1 else (r : Int) + z) = j ∧ j < C.L := by
      split
      · exact ⟨C.L - 1, by omega, by omega⟩
      · exact ⟨r + z, by omega, by omega⟩
    rw [ej]
    exact h _ p (.row j) _ ((W5.new (Keep.new hp)).less (by omega)) upd_same jb (e15.trans (Keep.new hp))
theorem D__law_in_register (F : Fx K mg) : Dn P w K mg base 7 "_law_in_register" ["_law_deck_here", "_law_machine", "_law_lengths_here", "_law_size", "_law_count"] (spPlan K) := by
  refine dn_mk F.f__law_in_register F.g__law_in_register sc__law_in_register (fun _ _ _ _ _ _ us hl => match us, hl with | [_, _, _, _, _], _ => rfl) (by rintro vs H Q E ⟨_, _, _, _, _, _, _, _, _, rfl, _⟩; rfl) ?_
  rintro cdv A outer s H vs Q E hr ⟨C, s0, a, d, q, lt, m, t, f, rfl, W, S, hf, hlt, h⟩
  refine ⟨_, (pss_cons (ps_asg (sk_call (D__law_look_row F) hr (pa_cons (pv 0) (pa_cons (pv 2) (pa_cons (pv 4) pa_nil)))) (pg_tup (by rfl) (pgs_cons (pg_name (i := 5) sc__law_in_register.nd rfl (by first | exact .inl rfl | exact .inr rfl)) (pgs_cons (pg_name (i := 6) sc__law_in_register.nd rfl (by first | exact .inl rfl | exact .inr rfl)) (pgs_cons (pg_name (i := 7) sc__law_in_register.nd rfl (by first | exact .inl rfl | exact .inr rfl)) pgs_nil)))))
    (pss_cons (ps_expr (sk_call (D__law_ran_to F) hr (pa_cons (pv 1) (pa_cons (pv 5) (pa_cons (pe_op op_mul (pe_op op_add (pe_ix ix_tup (pv 2) pe_int (fun _ _ => rfl)) (pe_ix ix_tup (pv 2) pe_int (fun _ _ => rfl))) (pv 4)) (pa_cons (sk_call (D__law_draw F) hr (pa_cons (pv 0) (pa_cons pe_int pa_nil))) pa_nil))))))
    (pss_one (ps_ret (pe_tup (pa_cons pe_str (pa_cons (sk_call (D__law_pick F) hr (pa_cons (pv 0) (pa_cons (pe_lst (pa_cons pe_int (pa_cons pe_int (pa_cons pe_int (pa_cons pe_int (pa_cons pe_int (pa_cons pe_int pa_nil))))))) pa_nil))) (pa_cons (sk_call (D__law_pick F) hr (pa_cons (pv 0) (pa_cons (pe_lst (pa_cons pe_int (pa_cons pe_int (pa_cons pe_int (pa_cons pe_int pa_nil))))) pa_nil))) pa_nil)))))))), ?_⟩
  have B := S.ok.toFits
  have k1 := S.ok.k1
  have kb := B.k16
  have nb := B.n10
  have n1 := S.ok.n1
  have lnE : C.ln = C.n + 2 := rfl
  refine rd_seq fun D1 k1' r1 => ?_
  trivial
  refine W.look (m := m + 25) S hlt fun r c s2 p1 H1 r15 rL cK sK hp1 W1 e1 => ⟨p1, rfl, _, SqT.of hp1, rfl, _, _, rfl, _, _, rfl, _, _, rfl, rfl, k1' _ _ ?_⟩
  clear k1'
  refine rd_seq fun D2 k2 r2 => ?_
  trivial
  have cm : CMul ((C.lp : Int) + C.lq) C.K := .inr ⟨by omega, by omega⟩
  have hlt1 := e1.t _ _ hlt
  refine ⟨_, SqT.of hlt1, _, rfl, _, SqT.of hlt1, _, rfl, _, rfl, _, rfl, cm, ?_⟩
  refine W1.draw (lim := 2) (m := m + 24) (by decide) (by decide) fun x H2 hx W2 e2 => ?_
  rw [tot_eq]
  refine W2.ran S hf (by omega) fun t2 H3 W3 e3 => k2 _ _ ?_
  clear k2
  have e13 := (e1.trans e2).trans e3
  trivial
  refine ⟨by decide, fun l hl => ?_⟩
  have W4 := W3.new (Keep.new hl (o := .lst [V.int 24, V.int 25, V.int 26, V.int 27, V.int 28, V.int 29]))
  refine W4.pick (m := m + 23) upd_same (Deck.ne W3.deck hl) (by simp) (by simp) fun v H4 hv W5 e5 => ⟨by decide, fun l2 hl2 => ?_⟩
  have W6 := W5.new (Keep.new hl2 (o := .lst [V.int 0, V.int 1, V.int 2, V.int 999999]))
  refine W6.pick (m := m + 22) upd_same (Deck.ne W5.deck hl2) (by simp) (by simp) fun u H5 hu W7 e7 => ⟨by decide, fun p hp => ?_⟩
  obtain ⟨j, rfl, jb⟩ : ∃ j : Nat, v = .int j ∧ j < 32 := by
    simp only [List.mem_cons, List.not_mem_nil, or_false] at hv
    rcases hv with rfl | rfl | rfl | rfl | rfl | rfl
    · exact ⟨24, rfl, by omega⟩
    · exact ⟨25, rfl, by omega⟩
    · exact ⟨26, rfl, by omega⟩
    · exact ⟨27, rfl, by omega⟩
    · exact ⟨28, rfl, by omega⟩
    · exact ⟨29, rfl, by omega⟩
  obtain ⟨i, rfl, ib⟩ : ∃ i : Int, u = .int i ∧ 0 ≤ i ∧ i ≤ 999999 := by
    simp only [List.mem_cons, List.not_mem_nil, or_false] at hu
    rcases hu with rfl | rfl | rfl | rfl
    · exact ⟨0, rfl, by omega⟩
    · exact ⟨1, rfl, by omega⟩
    · exact ⟨2, rfl, by omega⟩
    · exact ⟨999999, rfl, by omega⟩
  exact h t2 p (.reg j i) _ ((W7.new (Keep.new hp)).less (by omega)) upd_same ⟨jb, ib⟩ ((((e13.trans (Keep.new hl)).trans e5).trans ((Keep.new hl2).trans e7)).trans (Keep.new hp))
theorem D__law_planned (F : Fx K mg) : Dn P w K mg base 8 "_law_planned" ["_law_deck_here", "_law_plan", "_law_machine", "_law_kit"] (spPlanned K) := by
  refine dn_mk F.f__law_planned F.g__law_planned sc__law_planned (fun _ _ _ _ _ _ us hl => match us, hl with | [_, _, _, _], _ => rfl) (by rintro vs H Q E ⟨_, _, _, _, _, _, _, _, _, _, _, rfl, _⟩; rfl) ?_
  rintro cdv A outer s H vs Q E hr ⟨C, s0, a, d, q, lt, kt, m, t, f, i, rfl, W, S, hf, hkt, hlt, h⟩
  refine ⟨_, (pss_cons (ps_asg (pv 3) (pg_tup (by rfl) (pgs_cons (pg_name (i := 4) sc__law_planned.nd rfl (by first | exact .inl rfl | exact .inr rfl)) (pgs_cons (pg_name (i := 5) sc__law_planned.nd rfl (by first | exact .inl rfl | exact .inr rfl)) (pgs_cons (pg_name (i := 6) sc__law_planned.nd rfl (by first | exact .inl rfl | exact .inr rfl)) pgs_nil)))))
    (pss_cons (ps_if (pt_cmpR op_eq (pv 1) pe_int (nomark _)) (pss_one (ps_ret (sk_call (D__law_in_look F) hr (pa_cons (pv 0) (pa_cons (pv 2) (pa_cons (pv 4) (pa_cons (pv 5) (pa_cons (pv 6) pa_nil)))))))) pss_nil)
    (pss_cons (ps_if (pt_cmpR op_eq (pv 1) pe_int (nomark _)) (pss_one (ps_ret (sk_call (D__law_in_marks F) hr (pa_cons (pv 0) (pa_cons (pv 2) (pa_cons (pv 4) (pa_cons (pv 5) (pa_cons (pv 6) pa_nil)))))))) pss_nil)
    (pss_cons (ps_if (pt_cmpR op_eq (pv 1) pe_int (nomark _)) (pss_one (ps_ret (sk_call (D__law_half_done F) hr (pa_cons (pv 0) (pa_cons (pv 2) (pa_cons (pv 4) (pa_cons (pv 5) (pa_cons (pv 6) pa_nil)))))))) pss_nil)
    (pss_cons (ps_if (pt_cmpR op_eq (pv 1) pe_int (nomark _)) (pss_one (ps_ret (sk_call (D__law_entry F) hr (pa_cons (pv 0) (pa_cons (pv 2) (pa_cons (pv 4) (pa_cons (pv 5) (pa_cons (pv 6) pa_nil)))))))) pss_nil)
    (pss_one (ps_ret (sk_call (D__law_in_register F) hr (pa_cons (pv 0) (pa_cons (pv 2) (pa_cons (pv 4) (pa_cons (pv 5) (pa_cons (pv 6) pa_nil))))))))))))), ?_⟩
  refine rd_seq fun D1 k1 r1 => ?_
  trivial
  refine ⟨_, SqT.of hkt, rfl, _, _, rfl, _, _, rfl, _, _, rfl, rfl, k1 _ _ ?_⟩
  clear k1
  have all : ∀ (R : VK), R = Q → spPlan K [V.ref d, V.ref a.mc, V.ref lt, V.int C.ln, V.int C.K] H R E0 := fun R e => by
    subst e
    exact ⟨C, s0, a, d, q, lt, m, t, f, rfl, W, S, hf, hlt, h⟩
  refine rd_seq fun D2 k2 r2 => ?_
  trivial
  by_cases i0 : i = 0
  · exact iteT' i0 (all _ r2)
  refine iteF' i0 (k2 _ _ ?_)
  refine rd_seq fun D3 k3 r3 => ?_
  trivial
  by_cases i1 : i = 1
  · exact iteT' i1 (all _ r3)
  refine iteF' i1 (k3 _ _ ?_)
  refine rd_seq fun D4 k4 r4 => ?_
  trivial
  by_cases i2 : i = 2
  · exact iteT' i2 (all _ r4)
  refine iteF' i2 (k4 _ _ ?_)
  refine rd_seq fun D5 k5 r5 => ?_
  trivial
  by_cases i3 : i = 3
  · exact iteT' i3 (all _ r5)
  refine iteF' i3 (k5 _ _ ?_)
  trivial
  exact all _ rfl
end
end Wk
end

section
set_option Elab.async false
set_option linter.all false
set_option maxRecDepth 100000
set_option maxHeartbeats 4000000
/-! the walk: stores, what a copy holds -/
namespace Wk
open PySem PySem.Spec PyProof.Rows L2 StX
local macro_rules | `(tactic| trivial) => `(tactic| try simp only [spInt, spWord, spIdx, spNum, spReg, isi_ii, isi_ib, isi_ss, eq_ii, ne_ii, eq_ss, ne_ss, cxK, wipe, rLenS, rSlL, rSlT, tRevL, tDisp, tPairs, rCat, rRep, rExtend, rAdd, rSub, rSetD, rPop, rAppend, rIxL, rIxT, rSetL, tVar, tC, t2I, tB, tAnd, tOr, tNot, tAndV, tOrV, tNotV, tIf, tNext, tSeq, tDrop, tRet, tRetN, tIfS, tNever, tAsg, tPar, tOp, tUn, rI, rI0, rU, tTest, tChain, tFld, tCon, tNil, tCons, tTup, tLst, tCall, tMeth, tProp, tCB, tSl, tNoPart, tPart, tBM, tBM0, gName, gTup, gNil, gCons, gSub, sFld, L2.start, tDGet, tDIn, tDNotIn, tDNewK, tDNewT, sDPut, tDGet2, and_assoc, exists_and_left, exists_and_right, exists_eq_left', exists_eq_left, exists_eq_right, exists_eq', V.int.injEq, V.str.injEq, V.bl.injEq, V.ref.injEq, List.cons.injEq, and_true, true_and, List.append_nil, List.map_cons, List.map_nil, List.length_cons, List.length_nil, List.cons_append, List.nil_append, Nat.reduceAdd, Nat.reduceSub, List.reduceReplicate, List.getElem?_cons_succ, List.getElem?_cons_zero, List.set_cons_succ, List.set_cons_zero, Option.some.injEq, if_true, Bool.false_eq_true, if_false, decide_eq_true_eq, Bool.not_true, Bool.not_false, Bool.not_eq_true', decide_eq_false_iff_not, decide_true, decide_false, Bool.true_and, Bool.and_true, Bool.false_and, Int.reduceEq, Int.reduceLT, Int.reduceLE, Int.reduceNeg, reduceCtorEq, not_false_eq_true, not_true_eq_false])
theorem memL_snoc (k : Nat) (f : Nat → Int) : memL (k + 1) f = memL k f ++ [V.int (f k)] := by
  simp [memL, List.range_succ]
theorem sIx_m1 {m : Nat} (h : 1 ≤ m) : HT.sIx m m (some (-1)) = m - 1 := by
  unfold HT.sIx
  simp
  omega
theorem memL_mid (n : Nat) (f : Nat → Int) : cutV (memL (n + 2) f) (some 1) (some (-1)) = ((List.range n).map fun j => f (1 + j)).map V.int := by
  unfold cutV
  rw [memL_len, sIx_m1 (by omega), show HT.sIx (n + 2) 0 (some 1) = 1 from by unfold HT.sIx; simp]
  apply List.ext_getElem?
  intro i
  rw [show n + 2 - 1 - 1 = n from by omega]
  by_cases hi : i < n
  · rw [List.getElem?_take_of_lt hi, List.getElem?_drop, memL_get _ (by omega), List.getElem?_map, List.getElem?_map, List.getElem?_range hi]
    rfl
  · rw [List.getElem?_eq_none (by rw [List.length_take]; omega), List.getElem?_eq_none (by simp; omega)]
/-- the pair of the store at a -/
def pkAt (n : Nat) (ms : Nat → Int) (a : Nat) : Pk := (ms a, (List.range n).map fun j => ms (a + 1 + j))
def StoA (H : Hp) (p : Addr) (k : Pk) (z : Int) : Prop := ∃ q, H p = some (.tup [.int k.1, .ref q, .int z]) ∧ StA H q k.2
theorem StoA.keep {S : List Addr} {H H' : Hp} {p : Addr} {k : Pk} {z : Int} (h : StoA H p k z) (kp : Keep S H H') : StoA H' p k z := by
  obtain ⟨q, h1, h2⟩ := h
  exact ⟨q, kp.t _ _ h1, h2.keep kp⟩
def spStoreAt : Sp := fun vs H Q _ => ∃ (ml : Addr) (N n a : Nat) (ms : Nat → Int), vs = [V.ref ml, V.int a, V.int (n + 2 : Nat)] ∧ H ml = some (.lst (memL N ms)) ∧ a + (n + 2) ≤ N ∧ n ≤ 100 ∧ ∀ p H', Keep [] H H' → StoA H' p (pkAt n ms a) (ms (a + n + 1)) → Q (.ref p) H'
def spWhole : Sp := fun vs H Q _ => ∃ (p : Addr) (k : Pk) (z : Int), vs = [V.ref p] ∧ StoA H p k z ∧ Q (.bl (decide (k.1 = z))) H
section
variable {P : Program} {w : World} {K : PySem.W.Frag} {mg : Str → Option Value} {base : Heap}
theorem D_store_at (F : Fx K mg) : Dn P w K mg base 1 "store_at" ["memory", "address", "length"] spStoreAt := by
  refine dn_mk F.f_store_at F.g_store_at sc_store_at (fun _ _ _ _ _ _ us hl => match us, hl with | [_, _, _], _ => rfl) (by rintro vs H Q E ⟨_, _, _, _, _, rfl, _⟩; rfl) ?_
  rintro cdv A outer s H vs Q E hr ⟨ml, N, n, a, ms, rfl, hm, ha, hn, h⟩
  refine ⟨_, (pss_cons (ps_set (i := 3) sc_store_at.nd rfl (by first | exact .inl rfl | exact .inr rfl) (pe_callTy call_tuple_of (by rfl) F.b_tuple bt_tuple (pa_cons (pe_slice sl_list (pv 0) (po_some (pv 1)) (po_some (pe_op op_add (pv 1) (pv 2)))) pa_nil)))
    (pss_one (ps_ret (pe_tup (pa_cons (pe_ix ix_tup (pv 3) pe_int (fun _ _ => rfl)) (pa_cons (pe_slice sl_tup (pv 3) (po_some pe_int) (po_some (pe_un un_neg pe_int))) (pa_cons (pe_ix ix_tup (pv 3) (pe_un un_neg pe_int) (fun _ _ => rfl)) pa_nil))))))), ?_⟩
  refine rd_seq fun D1 k1' r1 => ?_
  trivial
  refine ⟨_, SqL.of hm, fun b hb => ⟨_, .inl ⟨SqL.of upd_same, fun wt hwt => k1' _ _ ?_⟩⟩⟩
  clear k1'
  rw [memL_cut ms ha]
  have c1 : Keep [] H (upd (upd H b (.lst (memL (n + 2) fun k => ms (a + k)))) wt (.tup (memL (n + 2) fun k => ms (a + k)))) := by
    rw [memL_cut ms ha] at hwt
    exact (Keep.new hb).trans (Keep.new hwt)
  have e1 : upd (upd H b (.lst (memL (n + 2) fun k => ms (a + k)))) wt (.tup (memL (n + 2) fun k => ms (a + k))) wt = some (.tup (memL (n + 2) fun k => ms (a + k))) := upd_same
  generalize upd (upd H b (.lst (memL (n + 2) fun k => ms (a + k)))) wt (.tup (memL (n + 2) fun k => ms (a + k))) = H1 at c1 e1 ⊢
  trivial
  have nw : ¬ (HT.sIx (memL (n + 2) fun k => ms (a + k)).length 0 (some 1) = 0 ∧ HT.sIx (memL (n + 2) fun k => ms (a + k)).length (memL (n + 2) fun k => ms (a + k)).length (some (-1)) = (memL (n + 2) fun k => ms (a + k)).length) := by
    rw [memL_len, sIx_m1 (by omega)]
    omega
  refine ⟨_, SqT.of e1, _, atI_nat (j := 0) (memL_get _ (by omega)), _, SqT.of e1, nw, fun q hq => ?_⟩
  rw [memL_mid]
  have c2 : Keep [] H1 (upd H1 q (.tup (((List.range n).map fun j => ms (a + (1 + j))).map V.int))) := Keep.new hq
  have e2 := c2.t _ _ e1
  refine ⟨_, SqT.of e2, V.int (ms (a + (n + 1))), by rw [memL_snoc]; exact atI_last _ _, by decide, fun p hp => h p _ ((c1.trans c2).trans (Keep.new hp)) ⟨q, ?_, ?_⟩⟩
  · rw [upd_same]
    rfl
  · have e3 : upd H1 q (.tup (((List.range n).map fun j => ms (a + (1 + j))).map V.int)) q = some (.tup (((List.range n).map fun j => ms (a + (1 + j))).map V.int)) := upd_same
    show upd _ p _ q = some (.tup ((pkAt n ms a).2.map V.int))
    rw [upd_ne (ne_of_none e3 hp), e3]
    simp only [pkAt, Nat.add_assoc]
theorem D_is_whole (F : Fx K mg) : Dn P w K mg base 1 "is_whole" ["store"] spWhole := by
  refine dn_mk F.f_is_whole F.g_is_whole sc_is_whole (fun _ _ _ _ _ _ us hl => match us, hl with | [_], _ => rfl) (by rintro vs H Q E ⟨_, _, _, rfl, _⟩; rfl) ?_
  rintro cdv A outer s H vs Q E hr ⟨p, k, z, rfl, ⟨q, h1, h2⟩, h⟩
  refine ⟨_, (pss_one (ps_ret (pe_cmpR op_eq (pe_ix ix_tup (pv 0) pe_int (fun _ _ => rfl)) (pe_ix ix_tup (pv 0) pe_int (fun _ _ => rfl)) (nomark _)))), ?_⟩
  trivial
  refine ⟨_, SqT.of h1, _, rfl, _, SqT.of h1, _, rfl, ?_⟩
  trivial
  exact h
end
end Wk
end

section
set_option Elab.async false
set_option linter.all false
set_option maxRecDepth 100000
set_option maxHeartbeats 4000000
/-! the walk: what a copy holds -/
namespace Wk
open PySem PySem.Spec PyProof.Rows L2 StX
local macro_rules | `(tactic| trivial) => `(tactic| try simp only [spInt, spWord, spIdx, spNum, spReg, isi_ii, isi_ib, isi_ss, eq_ii, ne_ii, eq_ss, ne_ss, cxK, wipe, rLenS, rSlL, rSlT, tRevL, tDisp, tPairs, rCat, rRep, rExtend, rAdd, rSub, rSetD, rPop, rAppend, rIxL, rIxT, rSetL, tVar, tC, t2I, tB, tAnd, tOr, tNot, tAndV, tOrV, tNotV, tIf, tNext, tSeq, tDrop, tRet, tRetN, tIfS, tNever, tAsg, tPar, tOp, tUn, rI, rI0, rU, tTest, tChain, tFld, tCon, tNil, tCons, tTup, tLst, tCall, tMeth, tProp, tCB, tSl, tNoPart, tPart, tBM, tBM0, gName, gTup, gNil, gCons, gSub, sFld, L2.start, tDGet, tDIn, tDNotIn, tDNewK, tDNewT, sDPut, tDGet2, and_assoc, exists_and_left, exists_and_right, exists_eq_left', exists_eq_left, exists_eq_right, exists_eq', V.int.injEq, V.str.injEq, V.bl.injEq, V.ref.injEq, List.cons.injEq, and_true, true_and, List.append_nil, List.map_cons, List.map_nil, List.length_cons, List.length_nil, List.cons_append, List.nil_append, Nat.reduceAdd, Nat.reduceSub, List.reduceReplicate, List.getElem?_cons_succ, List.getElem?_cons_zero, List.set_cons_succ, List.set_cons_zero, Option.some.injEq, if_true, Bool.false_eq_true, if_false, decide_eq_true_eq, Bool.not_true, Bool.not_false, Bool.not_eq_true', decide_eq_false_iff_not, decide_true, decide_false, Bool.true_and, Bool.and_true, Bool.false_and, Int.reduceEq, Int.reduceLT, Int.reduceLE, Int.reduceNeg, reduceCtorEq, not_false_eq_true, not_true_eq_false])
def spStores (K : PySem.W.Frag) : Sp := fun vs H Q _ => ∃ (C : Sk.Cfg) (g rl ml : Addr) (c : Nat) (ms : Nat → Int), vs = [V.ref g, V.ref ml, V.int c] ∧ RingA K H g rl C ∧ Valid C ∧ H ml = some (.lst (memL (nWords C) ms)) ∧ c < C.K ∧
  ∀ p po pn H', Keep [] H H' → H' p = some (.tup [.ref po, .ref pn]) → StoA H' po (pkAt C.n ms (C.oldA c)) (ms (C.oldA c + C.n + 1)) → StoA H' pn (pkAt C.n ms (C.newA c)) (ms (C.newA c + C.n + 1)) → Q (.ref p) H'
section
variable {P : Program} {w : World} {K : PySem.W.Frag} {mg : Str → Option Value} {base : Heap}
theorem D_stores_of (F : Fx K mg) : Dn P w K mg base 3 "stores_of" ["ring", "memory", "copy"] (spStores K) := by
  refine dn_mk F.f_stores_of F.g_stores_of sc_stores_of (fun _ _ _ _ _ _ us hl => match us, hl with | [_, _, _], _ => rfl) (by rintro vs H Q E ⟨_, _, _, _, _, _, rfl, _⟩; rfl) ?_
  rintro cdv A outer s H vs Q E hr ⟨C, g, rl, ml, c, ms, rfl, hR, ok, hm, hc, h⟩
  refine ⟨_, (pss_cons (ps_set (i := 3) sc_stores_of.nd rfl (by first | exact .inl rfl | exact .inr rfl) (pe_op op_add (sk_prop F.c_Ring (P_size F) hr (pv 0)) pe_int))
    (pss_cons (ps_set (i := 4) sc_stores_of.nd rfl (by first | exact .inl rfl | exact .inr rfl) (pe_op op_mul (pe_op op_mul (sk_gi F.i_STORES_reading) (pv 3)) (pv 2)))
    (pss_one (ps_ret (pe_tup (pa_cons (sk_call (D_store_at F) hr (pa_cons (pv 1) (pa_cons (pv 4) (pa_cons (pv 3) pa_nil)))) (pa_cons (sk_call (D_store_at F) hr (pa_cons (pv 1) (pa_cons (pe_op op_add (pv 4) (pv 3)) (pa_cons (pv 3) pa_nil)))) pa_nil))))))), ?_⟩
  refine rd_seq fun D1 k1' r1 => ?_
  trivial
  obtain ⟨dx, rp, pl, g1, g2, g3, g4⟩ := id hR
  have n10 := ok.n10
  have k16 := ok.k16
  refine ⟨⟨dx, _, g1⟩, C, g, rl, rfl, hR, ok, _, rfl, k1' _ _ ?_⟩
  clear k1'
  refine rd_seq fun D2 k2 r2 => ?_
  trivial
  refine ⟨.inl ⟨by decide, by decide⟩, .inr ⟨by omega, by omega⟩, k2 _ _ ?_⟩
  clear k2
  trivial
  have eO : (4 : Int) * ((C.n : Int) + 2) * c = (C.oldA c : Nat) := by
    unfold Sk.Cfg.oldA Sk.Cfg.Ba Sk.Cfg.ln
    push_cast
    rfl
  have eN : (4 : Int) * ((C.n : Int) + 2) * c + ((C.n : Int) + 2) = (C.newA c : Nat) := by
    unfold Sk.Cfg.newA Sk.Cfg.Ba Sk.Cfg.ln
    push_cast
    rfl
  have inN : C.Ba c + 4 * C.ln ≤ nWords C := Sk.Ba_le hc
  have lnE : C.ln = C.n + 2 := rfl
  rw [eN, eO, show (C.n : Int) + 2 = ((C.n + 2 : Nat) : Int) from rfl]
  refine ⟨ml, nWords C, C.n, C.oldA c, ms, rfl, hm, by unfold Sk.Cfg.oldA; omega, by omega, fun po H1 e1 s1 => ?_⟩
  refine ⟨ml, nWords C, C.n, C.newA c, ms, rfl, e1.o _ _ hm (by simp), by unfold Sk.Cfg.newA; omega, by omega, fun pn H2 e2 s2 => ⟨by decide, fun p hp => ?_⟩⟩
  have e3 : Keep [] H2 (upd H2 p (.tup [.ref po, .ref pn])) := Keep.new hp
  exact h p po pn _ ((e1.trans e2).trans e3) upd_same ((s1.keep e2).keep e3) (s2.keep e3)
theorem sp_hu {k : Nat} {A : Around} (hr : Room k A) : A.units + 20 < cLine := by
  have := hr.un
  omega
/-- what a copy holds -/
def hpL (C : Sk.Cfg) (ms : Nat → Int) (c : Nat) : List Pk :=
  (if ms (C.oldA c) = ms (C.oldA c + C.n + 1) then [pkAt C.n ms (C.oldA c)] else []) ++
  (if ms (C.newA c) = ms (C.newA c + C.n + 1) ∧ ¬ (ms (C.oldA c) = ms (C.oldA c + C.n + 1) ∧ pkAt C.n ms (C.oldA c) = pkAt C.n ms (C.newA c)) then [pkAt C.n ms (C.newA c)] else [])
def PairsA (H : Hp) (bs : List (Addr × Pk)) : Prop := ∀ b ∈ bs, PairA H b.1 b.2
theorem PairsA.keep {S : List Addr} {H H' : Hp} {bs : List (Addr × Pk)} (h : PairsA H bs) (k : Keep S H H') : PairsA H' bs := fun b hb => (h b hb).keep k
def spHeld (K : PySem.W.Frag) : Sp := fun vs H Q _ => ∃ (C : Sk.Cfg) (g rl ml : Addr) (c : Nat) (ms : Nat → Int), vs = [V.ref g, V.ref ml, V.int c] ∧ RingA K H g rl C ∧ Valid C ∧ H ml = some (.lst (memL (nWords C) ms)) ∧ c < C.K ∧
  ∀ (p : Addr) (bs : List (Addr × Pk)) (H' : Hp), Keep [] H H' → H' p = some (.tup (bs.map fun b => V.ref b.1)) → (bs.map (·.2)).Perm (hpL C ms c) → PairsA H' bs → Q (.ref p) H'
theorem AddTo.step {L L' : List (Addr × Pk)} {p : Addr} {k : Pk} {ks : List Pk} (ad : AddTo L p k L') (nd : (L.map (·.2)).Nodup) (mem : ∀ j, j ∈ L.map (·.2) ↔ j ∈ ks) : (L'.map (·.2)).Nodup ∧ (∀ j, j ∈ L'.map (·.2) ↔ j ∈ ks ++ [k]) ∧ L'.length ≤ L.length + 1 ∧ ∀ b ∈ L', b = (p, k) ∨ b ∈ L := by
  by_cases hk : k ∈ L.map (·.2)
  · rw [ad.1 hk]
    refine ⟨nd, fun j => ?_, Nat.le_succ _, fun b hb => .inr hb⟩
    rw [mem j, List.mem_append, List.mem_singleton]
    refine ⟨.inl, fun z => z.elim id fun e => ?_⟩
    rw [e]
    exact (mem k).mp hk
  · have pm := ad.2 hk
    have pk := pm.map (·.2)
    rw [List.map_cons] at pk
    refine ⟨pk.nodup_iff.mpr (List.nodup_cons.mpr ⟨hk, nd⟩), fun j => ?_, by rw [pm.length_eq]; exact Nat.le_refl _, fun b hb => List.mem_cons.mp (pm.mem_iff.mp hb)⟩
    rw [pk.mem_iff, List.mem_cons, mem j, List.mem_append, List.mem_singleton]
    exact Or.comm
theorem hpL_mem (C : Sk.Cfg) (ms : Nat → Int) (c : Nat) (k : Pk) : k ∈ hpL C ms c ↔ (ms (C.oldA c) = ms (C.oldA c + C.n + 1) ∧ k = pkAt C.n ms (C.oldA c)) ∨ (ms (C.newA c) = ms (C.newA c + C.n + 1) ∧ k = pkAt C.n ms (C.newA c)) := by
  unfold hpL
  rw [List.mem_append]
  by_cases h1 : ms (C.oldA c) = ms (C.oldA c + C.n + 1)
  · by_cases h2 : ms (C.newA c) = ms (C.newA c + C.n + 1)
    · by_cases h3 : pkAt C.n ms (C.oldA c) = pkAt C.n ms (C.newA c)
      · simp [h1, h2, h3]
      · simp [h1, h2, h3]
    · simp [h1, h2]
  · by_cases h2 : ms (C.newA c) = ms (C.newA c + C.n + 1)
    · simp [h1, h2]
    · simp [h1, h2]
theorem hpL_nodup (C : Sk.Cfg) (ms : Nat → Int) (c : Nat) : (hpL C ms c).Nodup := by
  unfold hpL
  by_cases h1 : ms (C.oldA c) = ms (C.oldA c + C.n + 1)
  · by_cases h2 : ms (C.newA c) = ms (C.newA c + C.n + 1)
    · by_cases h3 : pkAt C.n ms (C.oldA c) = pkAt C.n ms (C.newA c)
      · simp [h1, h2, h3]
      · simp [h1, h2, h3]
    · simp [h1, h2]
  · by_cases h2 : ms (C.newA c) = ms (C.newA c + C.n + 1)
    · simp [h1, h2]
    · simp [h1, h2]
def heldV (P : Program) (w : World) (H' : Hp) (D : Addr) (ss : List (Addr × Pk × Int)) (i : Nat) (H2 : Hp) : Prop := Keep [] H' H2 ∧ ∃ L : List (Addr × Pk), H2 D = some (PSO P w D L) ∧ PairsA H2 L ∧ (L.map (·.2)).Nodup ∧ (∀ j, j ∈ L.map (·.2) ↔ j ∈ (ss.take i).map (·.2.1)) ∧ L.length ≤ i
theorem D_held (F : Fx K mg) : Dn P w K mg base 4 "held" ["ring", "memory", "copy"] (spHeld K) := by
  refine dn_mk F.f_held F.g_held sc_held (fun _ _ _ _ _ _ us hl => match us, hl with | [_, _, _], _ => rfl) (by rintro vs H Q E ⟨_, _, _, _, _, _, rfl, _⟩; rfl) ?_
  rintro cdv A outer s H vs Q E hr ⟨C, g, rl, ml, c, ms, rfl, hR, ok, hm, hc, h⟩
  refine ⟨_, (pss_cons (ps_setLc (i := 3) (own := [("store", 4)]) rfl sc_held.nd rfl rfl (sw_true rfl rfl rfl (by decide +kernel)) (pi_tup (sk_call (D_stores_of F) hr (pa_cons (pv 0) (pa_cons (pv 1) (pa_cons (pv 2) pa_nil))))) (blkOk_by (own := [("store", 4)]) (N := ["ring", "memory", "copy", "whole", "store", "count", "state", "last"]) (sc := defScope s_held) (by decide +kernel)) (fun _ _ _ _ _ => (pg_name (i := 4) sc_held.nd rfl (by first | exact .inl rfl | exact .inr rfl))) (fun _ _ _ _ _ => (pts_one (pt_val (sk_call (D_is_whole F) hr (pa_cons (pv 4) pa_nil))))) (fun _ _ _ _ _ => (pv 4)))
    (pss_one (ps_ret (pe_callTy call_tuple_of (by rfl) F.b_tuple bt_tuple (pa_cons (pe_callB (call_sortedPs hr) (by rfl) F.b_sorted bt_sorted (pa_cons (pe_sp (own := [("count", 5), ("state", 6), ("last", 7)]) (sp_hu hr) rfl sc_held.nd (pi_list (pv 3)) (blkOk_by (own := [("count", 5), ("state", 6), ("last", 7)]) (N := ["ring", "memory", "copy", "whole", "store", "count", "state", "last"]) (sc := defScope s_held) (by decide +kernel)) (fun _ _ _ _ _ => (pg_tupK (K := K) (n := 3) (by rfl) (pgs_cons (pg_name (i := 5) sc_held.nd rfl (by first | exact .inl rfl | exact .inr rfl)) (pgs_cons (pg_name (i := 6) sc_held.nd rfl (by first | exact .inl rfl | exact .inr rfl)) (pgs_cons (pg_name (i := 7) sc_held.nd rfl (by first | exact .inl rfl | exact .inr rfl)) pgs_nil))))) (fun _ _ _ _ _ => pts_nil) (fun _ _ _ _ _ => (pe_tup (pa_cons (pv 5) (pa_cons (pv 6) pa_nil))))) pa_nil)) pa_nil))))), ?_⟩
  refine rd_seq fun D1 k1' r1 => ?_
  refine ⟨_, rfl, _, rfl, _, rfl, C, g, rl, ml, c, ms, rfl, hR, ok, hm, hc, fun p po pn H1 e1 hp so sn => ⟨p, rfl, ⟨_, SqT.of hp⟩, fun D hD => ?_⟩⟩
  refine lc_tup (xs := [.ref po, .ref pn]) (fun i H' => Keep [] H1 H' ∧ H' D = some (.lst ((if 0 < i ∧ ms (C.oldA c) = ms (C.oldA c + C.n + 1) then [V.ref po] else []) ++ (if 1 < i ∧ ms (C.newA c) = ms (C.newA c + C.n + 1) then [V.ref pn] else [])))) ⟨Keep.new hD, by rw [upd_same]; simp⟩ (fun i H' _ q => SqT.of (q.1.t _ _ hp)) ?_ ?_
  · rintro i x H' hx ⟨d1, d2⟩
    rcases i with _ | _ | i
    · obtain rfl : V.ref po = x := by simpa using hx
      refine ⟨rfl, _, rfl, po, _, _, rfl, so.keep d1, _, rfl, ?_⟩
      by_cases hw : ms (C.oldA c) = ms (C.oldA c + C.n + 1)
      · refine iteT' (decide_eq_true hw) ⟨_, rfl, _, d2, line6 (by simp), d1.over hD, ?_⟩
        rw [upd_same]
        simp [hw]
      · refine iteF' (fun z => hw (of_decide_eq_true z)) ⟨d1, ?_⟩
        rw [d2]
        simp [hw]
    · obtain rfl : V.ref pn = x := by simpa using hx
      refine ⟨rfl, _, rfl, pn, _, _, rfl, sn.keep d1, _, rfl, ?_⟩
      by_cases hw : ms (C.newA c) = ms (C.newA c + C.n + 1)
      · refine iteT' (decide_eq_true hw) ⟨_, rfl, _, d2, line6 (by split <;> simp), d1.over hD, ?_⟩
        rw [upd_same]
        simp [hw]
      · refine iteF' (fun z => hw (of_decide_eq_true z)) ⟨d1, ?_⟩
        rw [d2]
        simp [hw]
    · simp at hx
  · rintro H' ⟨d1, d2⟩
    refine k1' _ _ ?_
    clear k1'
    obtain ⟨ss, hss, hst⟩ : ∃ ss : List (Addr × Pk × Int), ss = (if ms (C.oldA c) = ms (C.oldA c + C.n + 1) then [(po, pkAt C.n ms (C.oldA c), ms (C.oldA c + C.n + 1))] else []) ++ (if ms (C.newA c) = ms (C.newA c + C.n + 1) then [(pn, pkAt C.n ms (C.newA c), ms (C.newA c + C.n + 1))] else []) ∧ ∀ q ∈ ss, StoA H' q.1 q.2.1 q.2.2 := by
      refine ⟨_, rfl, fun q hq => ?_⟩
      rcases List.mem_append.mp hq with hq | hq
      · split at hq
        · rw [List.mem_singleton.mp hq]
          exact so.keep d1
        · cases hq
      · split at hq
        · rw [List.mem_singleton.mp hq]
          exact sn.keep d1
        · cases hq
    have lst : H' D = some (.lst (ss.map fun q => V.ref q.1)) := by
      rw [d2, hss]
      by_cases h1 : ms (C.oldA c) = ms (C.oldA c + C.n + 1) <;> by_cases h2 : ms (C.newA c) = ms (C.newA c + C.n + 1) <;> simp [h1, h2]
    have two : ss.length ≤ 2 := by
      rw [hss, List.length_append]
      split <;> split <;> simp
    have mem2 : ∀ k, k ∈ ss.map (·.2.1) ↔ k ∈ hpL C ms c := fun k => by
      rw [hpL_mem, hss]
      by_cases h1 : ms (C.oldA c) = ms (C.oldA c + C.n + 1) <;> by_cases h2 : ms (C.newA c) = ms (C.newA c + C.n + 1) <;> simp [h1, h2]
    clear d2 hss
    refine ⟨_, rfl, D, rfl, ⟨_, SqL.of lst⟩, fun D2 hD2 => ?_⟩
    refine sp_list (xs := ss.map fun q => V.ref q.1) (heldV P w H' D2 ss) ⟨Keep.new hD2, [], upd_same, (fun b hb => by cases hb), List.nodup_nil, (fun j => by simp), Nat.le_refl _⟩ (fun i H2 _ q => SqL.of (q.1.o _ _ lst (by simp))) ?_ ?_
    · rintro i x H2 hx ⟨f1, L, f2, f3, f4, f5, f6⟩
      rw [List.getElem?_map] at hx
      obtain ⟨q, hq, rfl⟩ := Option.map_eq_some_iff.mp hx
      have hi := (List.getElem?_eq_some_iff.mp hq).1
      obtain ⟨z, g1, g2⟩ := (hst q (List.mem_of_getElem? hq)).keep f1
      refine ⟨q.1, _, rfl, SqT.of g1, rfl, _, _, rfl, _, _, rfl, _, _, rfl, rfl, rfl, ?_⟩
      simp only [tYes, if_true]
      refine ⟨_, rfl, _, rfl, (show 2 ≤ sizeLine by decide), fun p2 hp2 => ⟨p2, q.2.1, L, rfl, ?_, ?_, ?_, by omega, fun L' ad => ?_⟩⟩
      · exact ⟨z, upd_same, g2.keep (Keep.new (S := []) hp2)⟩
      · exact (Keep.new (S := []) hp2).o _ _ f2 (by simp)
      · exact f3.keep (Keep.new (S := []) hp2)
      · have kk := (f1.trans (Keep.new (S := []) (o := .tup [V.int q.2.1.1, .ref z]) hp2)).over hD2 (o := PSO P w D2 L')
        obtain ⟨b1, b2, b3, b4⟩ := ad.step f4 f5
        refine ⟨kk, L', upd_same, ?_, b1, fun j => ?_, by omega⟩
        · have ka : Keep [D2] (upd H2 p2 (.tup [V.int q.2.1.1, .ref z])) (upd (upd H2 p2 (.tup [V.int q.2.1.1, .ref z])) D2 (PSO P w D2 L')) := Keep.at ((Keep.new (S := []) hp2).o _ _ f2 (by simp)) rfl (by simp)
          have kp : Keep [D2] H2 (upd (upd H2 p2 (.tup [V.int q.2.1.1, .ref z])) D2 (PSO P w D2 L')) := (Keep.new hp2).trans ka
          intro b hb
          rcases b4 b hb with e | e
          · rw [e]
            exact PairA.keep (p := p2) (k := q.2.1) ⟨z, upd_same, g2.keep (Keep.new (S := []) hp2)⟩ ka
          · exact (f3 b e).keep kp
        · rw [b2 j, List.take_succ, hq, List.map_append]
          rfl
    · rintro H2 ⟨f1, L, f2, f3, f4, f5, f6⟩
      refine ⟨D2, L, rfl, f2, f3, fun out p' hperm hnew => ?_⟩
      refine ⟨p', _, rfl, .inl ⟨SqL.of upd_same, fun l hl => ?_⟩⟩
      have kp : Keep [] H2 (upd (upd H2 p' (.lst (out.map fun b => V.ref b.1))) l (.tup (out.map fun b => V.ref b.1))) := (Keep.new hnew).trans (Keep.new hl)
      refine h l out _ ((e1.trans d1).trans (f1.trans kp)) upd_same ?_ (fun b hb => (f3 b (hperm.mem_iff.mp hb)).keep kp)
      refine (hperm.map _).trans ((List.perm_ext_iff_of_nodup f4 (hpL_nodup C ms c)).mpr fun j => ?_)
      rw [f5 j, List.length_map, List.take_length]
      exact mem2 j
end
end Wk
end

section
set_option Elab.async false
set_option linter.all false
set_option maxRecDepth 100000
set_option maxHeartbeats 4000000
/-! the walk: the reading -/
namespace Wk
open PySem PySem.Spec PyProof.Rows L2 StX
local macro_rules | `(tactic| trivial) => `(tactic| try simp only [spInt, spWord, spIdx, spNum, spReg, isi_ii, isi_ib, isi_ss, eq_ii, ne_ii, eq_ss, ne_ss, cxK, wipe, rLenS, rSlL, rSlT, tRevL, tDisp, tPairs, rCat, rRep, rExtend, rAdd, rSub, rSetD, rPop, rAppend, rIxL, rIxT, rSetL, tVar, tC, t2I, tB, tAnd, tOr, tNot, tAndV, tOrV, tNotV, tIf, tNext, tSeq, tDrop, tRet, tRetN, tIfS, tNever, tAsg, tPar, tOp, tUn, rI, rI0, rU, tTest, tChain, tFld, tCon, tNil, tCons, tTup, tLst, tCall, tMeth, tProp, tCB, tSl, tNoPart, tPart, tBM, tBM0, gName, gTup, gNil, gCons, gSub, sFld, L2.start, tDGet, tDIn, tDNotIn, tDNewK, tDNewT, sDPut, tDGet2, and_assoc, exists_and_left, exists_and_right, exists_eq_left', exists_eq_left, exists_eq_right, exists_eq', V.int.injEq, V.str.injEq, V.bl.injEq, V.ref.injEq, List.cons.injEq, and_true, true_and, List.append_nil, List.map_cons, List.map_nil, List.length_cons, List.length_nil, List.cons_append, List.nil_append, Nat.reduceAdd, Nat.reduceSub, List.reduceReplicate, List.getElem?_cons_succ, List.getElem?_cons_zero, List.set_cons_succ, List.set_cons_zero, Option.some.injEq, if_true, Bool.false_eq_true, if_false, decide_eq_true_eq, Bool.not_true, Bool.not_false, Bool.not_eq_true', decide_eq_false_iff_not, decide_true, decide_false, Bool.true_and, Bool.and_true, Bool.false_and, Int.reduceEq, Int.reduceLT, Int.reduceLE, Int.reduceNeg, reduceCtorEq, not_false_eq_true, not_true_eq_false])
/-- in how many of the first i copies k stands -/
noncomputable def cntK (C : Sk.Cfg) (ms : Nat → Int) (i : Nat) (k : Pk) : Nat := Sk.cnt (fun c => k ∈ hpL C ms c) i
theorem cnt_take {bs : List (Addr × Pk)} {j : Nat} {b : Addr × Pk} (hb : bs[j]? = some b) (k : Pk) : ((bs.take (j + 1)).map (·.2)).count k = ((bs.take j).map (·.2)).count k + if b.2 = k then 1 else 0 := by
  rw [List.take_succ, hb, List.map_append, List.count_append]
  congr 1
  show List.count k [b.2] = _
  rw [List.count_singleton]
  by_cases e : b.2 = k
  · simp [e]
  · simp [e]
theorem hpL_len (C : Sk.Cfg) (ms : Nat → Int) (c : Nat) : (hpL C ms c).length ≤ 2 := by
  unfold hpL
  rw [List.length_append]
  split <;> split <;> simp
theorem cntK_0 (C : Sk.Cfg) (ms : Nat → Int) (k : Pk) : cntK C ms 0 k = 0 := rfl
theorem cntK_succ (C : Sk.Cfg) (ms : Nat → Int) (i : Nat) (k : Pk) : cntK C ms (i + 1) k = cntK C ms i k + (hpL C ms i).count k := by
  show Sk.cnt _ i + _ = _
  by_cases h : k ∈ hpL C ms i
  · rw [if_pos h, (hpL_nodup C ms i).count, if_pos h]
    rfl
  · rw [if_neg h, List.count_eq_zero_of_not_mem h]
    rfl
/-- the dict counts f -/
def Dc (L : PdL) (f : Pk → Nat) : Prop := ∀ k, valP L k = if f k = 0 then none else some (f k : Int)
theorem Dc.nil {f : Pk → Nat} (h : ∀ k, f k = 0) : Dc [] f := fun k => by rw [if_pos (h k)]; rfl
theorem Dc.get {L : PdL} {f : Pk → Nat} (d : Dc L f) (k : Pk) : (valP L k).getD 0 = (f k : Int) := by
  rw [d k]
  split
  · rename_i h
    rw [h]
    rfl
  · rfl
theorem Dc.put {L : PdL} {f g : Pk → Nat} (d : Dc L f) (k : Pk) (a : Addr) (h : ∀ j, g j = f j + if k = j then 1 else 0) : Dc (putP L k a ((valP L k).getD 0 + 1)) g := fun j => by
  rw [valP_put, d.get k, h j]
  by_cases e : j = k
  · rw [if_pos e, if_pos e.symm, if_neg (by omega), e]
    rfl
  · rw [if_neg e, if_neg (show ¬ k = j from fun z => e z.symm), d j]
    rfl
theorem Dc.mem {L : PdL} {f : Pk → Nat} (d : Dc L f) {k : Pk} (h : f k ≠ 0) : ∃ a, (k, a, (f k : Int)) ∈ L := by
  have e := d k
  rw [if_neg h] at e
  unfold valP at e
  obtain ⟨l, h1, h2⟩ := Option.map_eq_some_iff.mp e
  have h3 := List.find?_some h1
  have h4 := List.mem_of_find?_eq_some h1
  obtain ⟨a, b, c⟩ := l
  obtain rfl : a = k := of_decide_eq_true h3
  obtain rfl : c = (f a : Int) := h2
  exact ⟨b, h4⟩
/-- no key stands twice -/
def Du (L : PdL) : Prop := (L.map (·.1)).Nodup
theorem valP_at {L : PdL} (u : Du L) {k : Pk} {a : Addr} {n : Int} (h : (k, a, n) ∈ L) : valP L k = some n := by
  induction L with
  | nil => cases h
  | cons l L ih =>
    have u2 := List.nodup_cons.mp (show (l.1 :: L.map (·.1)).Nodup from u)
    unfold valP
    rw [List.find?_cons]
    by_cases e : l.1 = k
    · rw [decide_eq_true e]
      rcases List.mem_cons.mp h with h | h
      · rw [← h]
        rfl
      · exact absurd (List.mem_map.mpr ⟨_, h, e.symm⟩) u2.1
    · rw [decide_eq_false e]
      rcases List.mem_cons.mp h with h | h
      · exact absurd (by rw [← h]) e
      · exact ih u2.2 h
theorem valP_none {L : PdL} {k : Pk} (h : valP L k = none) : ∀ l ∈ L, l.1 ≠ k := fun l hl e => by
  unfold valP at h
  exact absurd (decide_eq_true e) (by simpa using List.find?_eq_none.mp (Option.map_eq_none_iff.mp h) l hl)
theorem Du.put {L : PdL} (u : Du L) (k : Pk) (a : Addr) (n : Int) : Du (putP L k a n) := by
  unfold putP Du
  split
  · rw [List.map_map, show ((·.1) ∘ fun l : Pk × Addr × Int => if l.1 = k then (l.1, l.2.1, n) else l) = (·.1) from funext fun l => by simp only [Function.comp]; split <;> rfl]
    exact u
  · rename_i h
    rw [List.map_append]
    refine List.nodup_append.mpr ⟨u, by simp, fun x hx y hy => ?_⟩
    obtain rfl : y = k := by simpa using hy
    obtain ⟨l, hl, rfl⟩ := List.mem_map.mp hx
    refine valP_none ?_ l hl
    cases e : valP L y with
    | none => rfl
    | some _ => rw [e] at h; exact absurd rfl h
theorem Dc.at {L : PdL} {f : Pk → Nat} (d : Dc L f) (u : Du L) {k : Pk} {a : Addr} {n : Int} (h : (k, a, n) ∈ L) : n = (f k : Int) := by
  have e := valP_at u h
  rw [d k] at e
  split at e
  · cases e
  · exact (Option.some.inj e).symm
/-- the dict at d counts f -/
structure CtA (P : Program) (w : World) (H : Hp) (d : Addr) (f : Pk → Nat) (m : Nat) (L : PdL) : Prop where
  at_ : H d = some (PDO P w d L)
  keys : ∀ l ∈ L, PairA H l.2.1 l.1
  dc : Dc L f
  du : Du L
  few : L.length ≤ m
theorem CtA.keep {P : Program} {w : World} {S : List Addr} {H H' : Hp} {d : Addr} {f : Pk → Nat} {m : Nat} {L : PdL} (c : CtA P w H d f m L) (k : Keep S H H') (h : d ∉ S) : CtA P w H' d f m L :=
  ⟨k.o _ _ c.at_ h, fun l hl => (c.keys l hl).keep k, c.dc, c.du, c.few⟩
theorem CtA.new {P : Program} {w : World} {H : Hp} {d : Addr} : CtA P w (upd H d (PDO P w d [])) d (fun _ => 0) 0 [] :=
  ⟨upd_same, (fun l hl => by cases hl), Dc.nil (fun _ => rfl), List.nodup_nil, Nat.le_refl _⟩
theorem CtA.put {P : Program} {w : World} {H : Hp} {d : Addr} {f g : Pk → Nat} {m : Nat} {L : PdL} (c : CtA P w H d f m L) {p : Addr} {k : Pk} (hp : PairA H p k) (h : ∀ j, g j = f j + if k = j then 1 else 0) :
    CtA P w (upd H d (PDO P w d (putP L k p ((valP L k).getD 0 + 1)))) d g (m + 1) (putP L k p ((valP L k).getD 0 + 1)) := by
  have ka : Keep [d] H (upd H d (PDO P w d (putP L k p ((valP L k).getD 0 + 1)))) := Keep.at c.at_ rfl (by simp)
  refine ⟨upd_same, fun l hl => ?_, c.dc.put k p h, c.du.put k p _, Nat.le_trans (putP_len ..) (Nat.succ_le_succ c.few)⟩
  rcases putP_mem hl with ⟨h1, h2⟩ | ⟨l', h0, h1, h2⟩
  · rw [h1, h2]
    exact hp.keep ka
  · have := (c.keys l' h0).keep ka
    rw [h1, h2] at this
    exact this
def spReading (K : PySem.W.Frag) : Sp := fun vs H Q _ => ∃ (C : Sk.Cfg) (g rl ml : Addr) (ms : Nat → Int), vs = [V.ref g, V.ref ml] ∧ RingA K H g rl C ∧ Valid C ∧ H ml = some (.lst (memL (nWords C) ms)) ∧
  ((∀ k, cntK C ms C.K k ≤ C.e) → ∀ H', Keep [] H H' → Q .non H') ∧
  ∀ (p : Addr) (k : Pk) (H' : Hp), Keep [] H H' → PairA H' p k → C.e < cntK C ms C.K k → (∀ j, C.e < cntK C ms C.K j → j.1 ≤ k.1) → Q (.ref p) H'
section
variable {P : Program} {w : World} {K : PySem.W.Frag} {mg : Str → Option Value} {base : Heap}
theorem D_reading_reading (F : Fx K mg) : Dn P w K mg base 5 "reading_reading" ["ring", "memory"] (spReading K) := by
  suffices hh : ∃ fd, PySem.W.keepIn K (.ref (ga K "reading_reading")) = true ∧ Binds K fd ["ring", "memory"] [] ∧ FnOk P w K mg base CX0 5 (ga K "reading_reading") fd ["ring", "memory"] (spReading K) by
    obtain ⟨fd, z1, z2, z3⟩ := hh
    exact ⟨_, fd, F.g_reading_reading, z1, z2, z3⟩
  refine fn_mk F.f_reading_reading sc_reading (fun _ _ _ _ _ _ us hl => match us, hl with | [_, _], _ => rfl) (by rintro vs H Q E ⟨_, _, _, _, _, rfl, _⟩; rfl) ?_
  rintro cdv A outer s H vs Q E hr ⟨C, g, rl, ml, ms, rfl, hR, ok, hm, h0, h1⟩
  refine ⟨_, (pss_cons (ps_set (i := 2) sc_reading.nd rfl (by first | exact .inl rfl | exact .inr rfl) pe_pnew)
    (pss_cons (ps_for PassesOwn.never rfl (pi_range1 (by rfl) F.b_range (pa_cons (sk_prop F.c_Ring (P_copies F) hr (pv 0)) pa_nil)) (pg_name (i := 3) sc_reading.nd rfl (by first | exact .inl rfl | exact .inr rfl)) (pss_one (ps_for PassesOwn.never rfl (pi_tup (sk_call (D_held F) hr (pa_cons (pv 0) (pa_cons (pv 1) (pa_cons (pv 3) pa_nil))))) (pg_name (i := 4) sc_reading.nd rfl (by first | exact .inl rfl | exact .inr rfl)) (pss_one (ps_pput hr (pv 2) (pv 4) (pe_op op_add (pe_pget2 hr (pv 2) (pv 4) pe_int ⟨rfl, rfl, rfl, rfl⟩) pe_int) rfl)))))
    (pss_one (ps_ret (pe_callBK (cr_maxD hr) (by rfl) F.b_max bt_max (pa_cons (pe_lock (pe_lc (own := [("pair", 4), ("copies", 5)]) rfl sc_reading.nd (pi_itemsP (pv 2)) (blkOk_by (own := [("pair", 4), ("copies", 5)]) (N := ["ring", "memory", "copies_by_pair", "copy", "pair", "copies"]) (sc := defScope s_reading) (by decide +kernel)) (fun _ _ _ _ _ => (pg_tupK (K := K) (n := 2) (by rfl) (pgs_cons (pg_name (i := 4) sc_reading.nd rfl (by first | exact .inl rfl | exact .inr rfl)) (pgs_cons (pg_name (i := 5) sc_reading.nd rfl (by first | exact .inl rfl | exact .inr rfl)) pgs_nil)))) (fun _ _ _ _ _ => (pts_one (pt_cmpR op_gt (pv 5) (sk_prop F.c_Ring (P_faults F) hr (pv 0)) (nomark _)))) (fun _ _ _ _ _ => (pv 4)))) pa_nil) (pk_cons pe_non pk_nil)))))), ?_⟩
  refine rd_seq fun D1 k1' r1 => ?_
  trivial
  intro d hd
  refine k1' _ (upd H d (PDO P w d [])) ?_
  clear k1'
  have c1 : Keep [] H (upd H d (PDO P w d [])) := Keep.new hd
  have n0 : CtA P w (upd H d (PDO P w d [])) d (fun k => cntK C ms 0 k) (2 * 0) [] := CtA.new
  generalize upd H d (PDO P w d []) = H1 at c1 n0 ⊢
  obtain ⟨dx, rp, pl, g1, g2, g3, g4⟩ := id (hR.keep c1 (by simp))
  have k16 := ok.k16
  have dn : ∀ o, H d = some o → False := fun o e => by rw [hd] at e; cases e
  refine rd_seq fun D2 k2' r2 => ?_
  trivial
  refine ⟨_, rfl, g, dx, _, rfl, g1, C, g, rl, rfl, hR.keep c1 (by simp), ok, (C.K : Nat), rfl, by omega, by omega, ?_⟩
  rw [show ((C.K : Nat) : Int).toNat = C.K from rfl]
  refine for_range (lo := 0) (n := C.K) (fun i σ H' => Keep [] H H' ∧ (∃ L, CtA P w H' d (fun k => cntK C ms i k) (2 * i) L) ∧ ∃ o1 o2, σ = [some (.ref g), some (.ref ml), some (.ref d), o1, o2, none]) ⟨c1, ⟨[], n0⟩, _, _, rfl⟩ ?_ ?_
  · rintro i σ H2 hi ⟨f1, ⟨L, f2⟩, o1, o2, rfl⟩
    rw [Int.zero_add]
    refine ⟨_, rfl, _, rfl, _, rfl, C, g, rl, ml, i, ms, rfl, hR.keep f1 (by simp), ok, f1.o _ _ hm (by simp), hi, fun p bs H3 e3 hp hperm hpa => ⟨p, rfl, ⟨_, SqT.of hp⟩, ?_⟩⟩
    have two : bs.length ≤ 2 := by
      rw [← List.length_map (f := (·.2)), hperm.length_eq]
      exact hpL_len C ms i
    refine for_tup (xs := bs.map fun b => V.ref b.1) (fun j σ H' => Keep [] H H' ∧ (∃ L, CtA P w H' d (fun k => cntK C ms i k + ((bs.take j).map (·.2)).count k) (2 * i + j) L) ∧ PairsA H' bs ∧ H' p = some (.tup (bs.map fun b => V.ref b.1)) ∧ ∃ o, σ = [some (.ref g), some (.ref ml), some (.ref d), some (.int i), o, none]) ⟨f1.trans e3, ⟨L, f2.keep e3 (by simp)⟩, hpa, hp, _, rfl⟩ (fun j σ H' _ q => SqT.of q.2.2.2.1) ?_ ?_
    · rintro j x σ H4 hx ⟨q1, ⟨L2, q2⟩, q3, q4, o, rfl⟩
      rw [List.getElem?_map] at hx
      obtain ⟨b, hb, rfl⟩ := Option.map_eq_some_iff.mp hx
      have hj := (List.getElem?_eq_some_iff.mp hb).1
      have pb := q3 b (List.mem_of_getElem? hb)
      trivial
      refine ⟨_, rfl, d, L2, rfl, ⟨.inl q2.at_, q2.keys⟩, _, rfl, L2, b.1, b.2, 0, rfl, rfl, ⟨.inl q2.at_, q2.keys⟩, pb, _, _, rfl, rfl, _, rfl, _, rfl, d, b.1, b.2, L2, _, rfl, rfl, rfl, q2.at_, q2.keys, pb, ?_, ?_⟩
      · have := q2.few
        exact Nat.lt_of_le_of_lt (show L2.length ≤ 64 by omega) (by decide)
      · refine ⟨(q1.over hd), ⟨_, q2.put pb (fun k => by rw [cnt_take hb k, Nat.add_assoc])⟩, q3.keep (S := [d]) (Keep.at q2.at_ rfl (by simp)), (Keep.at (S := [d]) q2.at_ rfl (by simp)).t _ _ q4, _, rfl⟩
    · rintro σ H4 ⟨q1, ⟨L2, q2⟩, q3, q4, o, rfl⟩
      refine ⟨q1, ⟨L2, ?_⟩, _, _, rfl⟩
      rw [List.length_map, List.take_length] at q2
      refine ⟨q2.at_, q2.keys, fun k => ?_, q2.du, Nat.le_trans q2.few (by omega)⟩
      rw [q2.dc k]
      show (if cntK C ms i k + (bs.map (·.2)).count k = 0 then none else some ((cntK C ms i k + (bs.map (·.2)).count k : Nat) : Int)) = _
      rw [cntK_succ, hperm.count_eq]
  · rintro σ H2 ⟨f1, ⟨L, f2⟩, o1, o2, rfl⟩
    refine k2' _ _ ?_
    clear k2'
    refine ⟨d, _, f2.at_, True.intro, fun od => ?_⟩
    have dk : ∀ l ∈ L, PairA (upd H2 d (.frz od (PDO P w d L))) l.2.1 l.1 := fun l hl => (f2.keys l hl).keep (S := [d]) (Keep.at f2.at_ rfl (by simp))
    have gd : g ≠ d := fun e => by
      obtain ⟨_, _, _, x, _⟩ := id hR
      exact dn _ (by rw [← e]; exact x)
    refine ⟨_, rfl, d, od, L, rfl, upd_same, dk, fun D hD => ?_⟩
    have Dd : D ≠ d := (ne_of_none ((upd_same : upd H2 d (.frz od (PDO P w d L)) d = _)) hD).symm
    have lL : L.length ≤ 32 := by
      have := f2.few
      omega
    refine lc_it walk_P (fun i H' => Keep [d] H2 H' ∧ H' d = some (.frz od (PDO P w d L)) ∧ H' D = some (.lst (((L.take i).filter fun l => decide ((C.e : Int) < l.2.2)).map fun l => V.ref l.2.1))) ⟨?_, ?_, upd_same⟩ (fun i H' _ q => ⟨q.2.1, fun l hl => (f2.keys l hl).keep q.1⟩) ?_ ?_
    · exact Keep.trans (Keep.at f2.at_ rfl (by simp)) (Keep.new hD)
    · rw [upd_ne Dd.symm]
      exact upd_same
    · rintro i x H3 H4 hi ⟨q1, q2, q3⟩ ⟨T, l, hl, rfl, hT, rfl⟩
      have nT : ∀ b o, H3 b = some o → b ≠ T := fun b o e => ne_of_none e hT
      have c4 : Keep [d] H2 (upd H3 T (.tup [.ref l.2.1, .int l.2.2])) := q1.trans (Keep.new hT)
      have hR4 : RingA K (upd H3 T (.tup [.ref l.2.1, .int l.2.2])) g rl C := ((hR.keep f1 (by simp))).keep c4 (by simpa using gd)
      obtain ⟨dx4, rp4, pl4, g4', _⟩ := id hR4
      have tk : (L.take (i + 1)).filter (fun l => decide ((C.e : Int) < l.2.2)) = (L.take i).filter (fun l => decide ((C.e : Int) < l.2.2)) ++ if (C.e : Int) < l.2.2 then [l] else [] := by
        rw [List.take_succ, hl, List.filter_append]
        congr 1
        by_cases z : (C.e : Int) < l.2.2 <;> simp [z]
      have few : ((L.take i).filter fun l => decide ((C.e : Int) < l.2.2)).length ≤ 32 := Nat.le_trans (List.length_filter_le ..) (Nat.le_trans (by rw [List.length_take]; omega) lL)
      refine ⟨T, _, rfl, SqT.of upd_same, rfl, _, _, rfl, _, _, rfl, rfl, rfl, _, rfl, _, rfl, g, dx4, _, rfl, g4', C, g, rl, rfl, hR4, ok, _, _, rfl, rfl, _, rfl, ?_⟩
      show if decide ((C.e : Int) < l.2.2) = true then _ else _
      by_cases z : (C.e : Int) < l.2.2
      · refine iteT' (decide_eq_true z) ⟨_, rfl, _, (by rw [upd_ne (nT _ _ q3)]; exact q3), (by rw [List.length_map]; exact Nat.lt_of_le_of_lt few (by decide)), ?_⟩
        refine ⟨?_, ?_, ?_⟩
        · exact c4.over (by rw [upd_ne Dd] at hD; exact hD)
        · rw [upd_ne Dd.symm, upd_ne (nT _ _ q2)]
          exact q2
        · rw [upd_same, tk, if_pos z, List.map_append]
          rfl
      · refine iteF' (fun y => z (of_decide_eq_true y)) ⟨c4, ?_, ?_⟩
        · rw [upd_ne (nT _ _ q2)]
          exact q2
        · rw [upd_ne (nT _ _ q3), tk, if_neg z, List.append_nil]
          exact q3
    · rintro H3 ⟨q1, q2, q3⟩
      rw [List.take_length] at q3
      refine ⟨q2, ?_⟩
      have e3 : Keep [] H (upd H3 d (PDO P w d L)) := f1.fresh (q1.trans (Keep.at q2 rfl (by simp))) (by simpa using hd)
      refine ⟨D, (L.filter fun l => decide ((C.e : Int) < l.2.2)).map (fun l => (l.2.1, l.1)), rfl, rfl, by rw [upd_ne Dd, q3, List.map_map]; rfl, ?_, ?_, ?_⟩
      · intro b hb
        obtain ⟨l, h2, rfl⟩ := List.mem_map.mp hb
        exact (f2.keys l ((List.mem_filter.mp h2).1)).keep (q1.trans (Keep.at q2 rfl (by simp)))
      · intro e
        refine h0 (fun k => ?_) _ e3
        refine Nat.le_of_not_lt fun lt => ?_
        obtain ⟨a, ha⟩ := f2.dc.mem (k := k) (by show cntK C ms C.K k ≠ 0; omega)
        have : (k, a, ((cntK C ms C.K k : Nat) : Int)) ∈ L.filter fun l => decide ((C.e : Int) < l.2.2) := List.mem_filter.mpr ⟨ha, decide_eq_true (by show (C.e : Int) < (cntK C ms C.K k : Nat); omega)⟩
        rw [List.map_eq_nil_iff.mp e] at this
        cases this
      · rintro b hb mx
        obtain ⟨l, h2, rfl⟩ := List.mem_map.mp hb
        obtain ⟨h3, h4⟩ := List.mem_filter.mp h2
        obtain ⟨k, a, n⟩ := l
        have en := f2.dc.at f2.du h3
        have h5 := of_decide_eq_true h4
        refine h1 a k _ e3 ((f2.keys _ h3).keep (q1.trans (Keep.at q2 rfl (by simp)))) ?_ fun j hj => ?_
        · have e6 : n = ((cntK C ms C.K k : Nat) : Int) := en
          have e7 : (C.e : Int) < n := h5
          omega
        · obtain ⟨a', ha⟩ := f2.dc.mem (k := j) (by show cntK C ms C.K j ≠ 0; omega)
          exact mx (a', j) (List.mem_map.mpr ⟨(j, a', ((cntK C ms C.K j : Nat) : Int)), List.mem_filter.mpr ⟨ha, decide_eq_true (by show (C.e : Int) < (cntK C ms C.K j : Nat); omega)⟩, rfl⟩)
def spMRead (K : PySem.W.Frag) : Sp := fun vs H Q _ => ∃ (C : Sk.Cfg) (a : Ad) (ms : Sk.MS) (p t f : Nat), vs = [V.ref a.mc] ∧ MachO K C H a ms p t f ∧ Valid C ∧
  ((∀ k, cntK C ms.mem C.K k ≤ C.e) → ∀ H', Keep [] H H' → Q .non H') ∧
  ∀ (p : Addr) (k : Pk) (H' : Hp), Keep [] H H' → PairA H' p k → C.e < cntK C ms.mem C.K k → (∀ j, C.e < cntK C ms.mem C.K j → j.1 ≤ k.1) → Q (.ref p) H'
theorem P_reading (F : Fx K mg) : Pn P w K mg base 6 (ga K "Machine") "reading" (spMRead K) := by
  refine pn_mk (ps := ["self"]) F.p_Machine_reading rfl rfl rfl sc_Machine_reading (fun _ _ _ _ _ _ us hl => match us, hl with | [_], _ => rfl) (by rintro vs H Q E ⟨_, _, _, _, _, _, rfl, _⟩; rfl) ?_
  rintro cdv A outer s H vs Q E hr ⟨C, a, ms, p, t, f, rfl, M, ok, h0, h1⟩
  exact ⟨_, (pss_one (ps_ret (sk_call (D_reading_reading F) hr (pa_cons (pe_fld (pv 0) rfl) (pa_cons (pe_fld (pv 0) rfl) pa_nil))))), _, rfl, a.mc, _, a.dx, _, _, rfl, M.obj, F.c_Machine, F.n_ring_executed, machF_1 _ _ _ _ _ _ _ _, _, rfl, a.mc, _, a.dx, _, _, rfl, M.obj, F.c_Machine, F.n_memory_words, machF_3 _ _ _ _ _ _ _ _, C, a.g, a.rt, a.ml, ms.mem, rfl, M.ring, ok, M.mem, h0, h1⟩
end
end Wk
end

section
set_option Elab.async false
set_option linter.all false
set_option maxRecDepth 100000
set_option maxHeartbeats 4000000
/-! the walk: the law's own count -/
namespace Wk
open PySem PySem.Spec PyProof.Rows L2 StX
local macro_rules | `(tactic| trivial) => `(tactic| try simp only [spInt, spWord, spIdx, spNum, spReg, isi_ii, isi_ib, isi_ss, eq_ii, ne_ii, eq_ss, ne_ss, cxK, wipe, rLenS, rSlL, rSlT, tRevL, tDisp, tPairs, rCat, rRep, rExtend, rAdd, rSub, rSetD, rPop, rAppend, rIxL, rIxT, rSetL, tVar, tC, t2I, tB, tAnd, tOr, tNot, tAndV, tOrV, tNotV, tIf, tNext, tSeq, tDrop, tRet, tRetN, tIfS, tNever, tAsg, tPar, tOp, tUn, rI, rI0, rU, tTest, tChain, tFld, tCon, tNil, tCons, tTup, tLst, tCall, tMeth, tProp, tCB, tSl, tNoPart, tPart, tBM, tBM0, gName, gTup, gNil, gCons, gSub, sFld, L2.start, tDGet, tDIn, tDNotIn, tDNewK, tDNewT, sDPut, tDGet2, and_assoc, exists_and_left, exists_and_right, exists_eq_left', exists_eq_left, exists_eq_right, exists_eq', V.int.injEq, V.str.injEq, V.bl.injEq, V.ref.injEq, List.cons.injEq, and_true, true_and, List.append_nil, List.map_cons, List.map_nil, List.length_cons, List.length_nil, List.cons_append, List.nil_append, Nat.reduceAdd, Nat.reduceSub, List.reduceReplicate, List.getElem?_cons_succ, List.getElem?_cons_zero, List.set_cons_succ, List.set_cons_zero, Option.some.injEq, if_true, Bool.false_eq_true, if_false, decide_eq_true_eq, Bool.not_true, Bool.not_false, Bool.not_eq_true', decide_eq_false_iff_not, decide_true, decide_false, Bool.true_and, Bool.and_true, Bool.false_and, Int.reduceEq, Int.reduceLT, Int.reduceLE, Int.reduceNeg, reduceCtorEq, not_false_eq_true, not_true_eq_false])
theorem canLay_pds : ∀ ks : List Pk, PyData.canLayAll0 (ks.map pd) = true
  | [] => by simp [PyData.canLayAll0]
  | k :: r => by simp [PyData.canLayAll0, PyData.canLay0, pd, PySem.W.canLayAll0_ints, canLay_pds r]
theorem depth_pds : ∀ ks : List Pk, PyData.depthAll (ks.map pd) ≤ 5
  | [] => by simp [PyData.depthAll]
  | k :: r => by
    have h1 := depth_pds r
    have h2 := PySem.W.depthAll_ints k.2
    simp only [List.map_cons, PyData.depthAll, PyData.depth, pd]
    omega
theorem sh_pds (ks : List Pk) : SeqAt.shaped (.list (ks.map pd)) = true := by
  have h1 := depth_pds ks
  have h2 : PyData.depth (.list (ks.map pd)) ≤ 64 := by simp only [PyData.depth]; omega
  show (PyData.canLay0 (.list (ks.map pd)) && decide (PyData.depth (.list (ks.map pd)) ≤ 64)) = true
  rw [Bool.and_eq_true]
  exact ⟨by simp only [PyData.canLay0]; exact canLay_pds ks, decide_eq_true h2⟩
theorem sh_pd (k : Pk) : SeqAt.shaped (pd k) = true := by
  have h1 := PySem.W.depthAll_ints k.2
  have h2 : PyData.depth (pd k) ≤ 64 := by simp only [pd, PyData.depth, PyData.depthAll]; omega
  show (PyData.canLay0 (pd k) && decide (PyData.depth (pd k) ≤ 64)) = true
  rw [Bool.and_eq_true]
  exact ⟨by simp [PyData.canLay0, PyData.canLayAll0, pd, PySem.W.canLayAll0_ints], decide_eq_true h2⟩
theorem pd_eqv (a b : Pk) : PyData.eqv (pd a) (pd b) = decide (a = b) := by
  obtain ⟨x, xs⟩ := a
  obtain ⟨y, ys⟩ := b
  simp only [pd, PyData.eqv, PyData.eqvAll, eqv_ints]
  by_cases h1 : x = y <;> by_cases h2 : xs = ys <;> simp [h1, h2]
theorem any_pds (ks : List Pk) (k : Pk) : ((ks.map pd).any fun z => PyData.eqv z (pd k)) = decide (k ∈ ks) := by
  induction ks with
  | nil => simp
  | cons a ks ih =>
    rw [List.map_cons, List.any_cons, ih, pd_eqv]
    by_cases h : k = a
    · simp [h]
    · simp only [decide_eq_false (show ¬ a = k from fun e => h e.symm), Bool.false_or, List.mem_cons, h, false_or]
theorem dp_pair {K : PySem.W.Frag} {H : Hp} {p : Addr} {k : Pk} (h : PairA H p k) : Dp K H (.ref p) (pd k) := by
  obtain ⟨q, h1, h2⟩ := h
  exact .tup (SqT.of h1) (.cons (.int _) (.cons (.tup (SqT.of h2) (dp_ints k.2)) .nil))
theorem dp_pairs {K : PySem.W.Frag} {H : Hp} : ∀ {bs : List (Addr × Pk)}, PairsA H bs → DpAll K H (bs.map fun b => V.ref b.1) ((bs.map (·.2)).map pd)
  | [], _ => .nil
  | b :: bs, h => .cons (dp_pair (h b (by simp))) (dp_pairs fun c hc => h c (by simp [hc]))
theorem hu65 {k : Nat} {A : Around} (hr : Room k A) : A.units + 65 < cLine := by
  have := hr.un
  omega
def adr (C : Sk.Cfg) (c j : Nat) : Nat := if j = 0 then C.oldA c else C.newA c
def ksF (C : Sk.Cfg) (ms : Nat → Int) (c : Nat) : Nat → List Pk
  | 0 => []
  | j + 1 => ksF C ms c j ++ if ms (adr C c j) = ms (adr C c j + C.n + 1) ∧ pkAt C.n ms (adr C c j) ∉ ksF C ms c j then [pkAt C.n ms (adr C c j)] else []
theorem ksF_2 (C : Sk.Cfg) (ms : Nat → Int) (c : Nat) : ksF C ms c 2 = hpL C ms c := by
  unfold hpL
  simp only [ksF, adr, List.nil_append]
  by_cases h1 : ms (C.oldA c) = ms (C.oldA c + C.n + 1)
  · simp [h1, eq_comm]
  · simp [h1]
theorem ksF_len (C : Sk.Cfg) (ms : Nat → Int) (c : Nat) : ∀ j, (ksF C ms c j).length ≤ j
  | 0 => Nat.le_refl _
  | j + 1 => by
    have := ksF_len C ms c j
    simp only [ksF, List.length_append]
    split <;> simp <;> omega
def spLHeld (P : Program) (w : World) : Sp := fun vs H Q _ => ∃ (C : Sk.Cfg) (tp : Addr) (ms : Nat → Int), vs = [V.ref tp, V.int (C.n + 2 : Nat), V.int (C.K : Nat)] ∧ Valid C ∧ H tp = some (.tup (memL (nWords C) ms)) ∧
  ∀ (d : Addr) (L : PdL) (H' : Hp), Keep [] H H' → H d = none → CtA P w H' d (cntK C ms C.K) (2 * C.K) L → Q (.ref d) H'
section
variable {P : Program} {w : World} {K : PySem.W.Frag} {mg : Str → Option Value} {base : Heap}
theorem D__law_held (F : Fx K mg) : Dn P w K mg base 1 "_law_held" ["_law_memory", "_law_size", "_law_count"] (spLHeld P w) := by
  refine dn_mk F.f__law_held F.g__law_held sc__law_held (fun _ _ _ _ _ _ us hl => match us, hl with | [_, _, _], _ => rfl) (by rintro vs H Q E ⟨_, _, _, rfl, _⟩; rfl) ?_
  rintro cdv A outer s H vs Q E hr ⟨C, tp, ms, rfl, ok, hm, h⟩
  refine ⟨_, (pss_cons (ps_set (i := 3) sc__law_held.nd rfl (by first | exact .inl rfl | exact .inr rfl) pe_pnew)
    (pss_cons (ps_for PassesOwn.never rfl (pi_range1 (by rfl) F.b_range (pa_cons (pv 2) pa_nil)) (pg_name (i := 4) sc__law_held.nd rfl (by first | exact .inl rfl | exact .inr rfl)) (pss_cons (ps_set (i := 5) sc__law_held.nd rfl (by first | exact .inl rfl | exact .inr rfl) (pe_lst pa_nil))
    (pss_cons (ps_for PassesOwn.never rfl (pi_tup (pe_tup (pa_cons (pe_op op_mul (pe_op op_mul pe_int (pv 1)) (pv 4)) (pa_cons (pe_op op_add (pe_op op_mul (pe_op op_mul pe_int (pv 1)) (pv 4)) (pv 1)) pa_nil)))) (pg_name (i := 6) sc__law_held.nd rfl (by first | exact .inl rfl | exact .inr rfl)) (pss_cons (ps_set (i := 7) sc__law_held.nd rfl (by first | exact .inl rfl | exact .inr rfl) (pe_tup (pa_cons (pe_ix ix_tup (pv 0) (pv 6) (fun _ _ => rfl)) (pa_cons (pe_callTy call_tuple_of (by rfl) F.b_tuple bt_tuple (pa_cons (pe_slice sl_tup (pv 0) (po_some (pe_op op_add (pv 6) pe_int)) (po_some (pe_op op_sub (pe_op op_add (pv 6) (pv 1)) pe_int))) pa_nil)) pa_nil))))
    (pss_one (ps_if (PW.pt (pw_and (pt_cmpR op_eq (pe_ix ix_tup (pv 0) (pv 6) (fun _ _ => rfl)) (pe_ix ix_tup (pv 0) (pe_op op_sub (pe_op op_add (pv 6) (pv 1)) pe_int) (fun _ _ => rfl)) (nomark _)) (pw_and1 (pt_cmpR (op_notInD (hu65 hr)) (pv 7) (pv 5) (by rfl))))) (pss_one (ps_expr (pe_bm PySem.F.plainAttrs_list PySem.F.slot_list_append PySem.F.type_list_append mt_append (pv 5) (pa_cons (pv 7) pa_nil)))) pss_nil))))
    (pss_one (ps_for PassesOwn.never rfl (pi_list (pv 5)) (pg_name (i := 7) sc__law_held.nd rfl (by first | exact .inl rfl | exact .inr rfl)) (pss_one (ps_pput hr (pv 3) (pv 7) (pe_op op_add (pe_pget2 hr (pv 3) (pv 7) pe_int ⟨rfl, rfl, rfl, rfl⟩) pe_int) rfl)))))))
    (pss_one (ps_ret (pv 3))))), ?_⟩
  have n10 := ok.n10
  have k16 := ok.k16
  refine rd_seq fun D1 k1' r1 => ?_
  trivial
  intro d hd
  refine k1' _ (upd H d (PDO P w d [])) ?_
  clear k1'
  have c1 : Keep [] H (upd H d (PDO P w d [])) := Keep.new hd
  have n0 : CtA P w (upd H d (PDO P w d [])) d (fun k => cntK C ms 0 k) (2 * 0) [] := CtA.new
  generalize upd H d (PDO P w d []) = H1 at c1 n0 ⊢
  refine rd_seq fun D2 k2' r2 => ?_
  refine ⟨_, rfl, (C.K : Nat), rfl, by omega, by omega, ?_⟩
  rw [show ((C.K : Nat) : Int).toNat = C.K from rfl]
  refine for_range (lo := 0) (n := C.K) (fun i σ H' => Keep [] H H' ∧ (∃ L, CtA P w H' d (fun k => cntK C ms i k) (2 * i) L) ∧ ∃ o1 o2 o3 o4, σ = [some (.ref tp), some (.int (C.n + 2 : Nat)), some (.int (C.K : Nat)), some (.ref d), o1, o2, o3, o4]) ⟨c1, ⟨[], n0⟩, _, _, _, _, rfl⟩ ?_ ?_
  · rintro i σ H2 hi ⟨f1, ⟨L, f2⟩, o1, o2, o3, o4, rfl⟩
    rw [Int.zero_add]
    refine rd_seq fun D3 k3 r3 => ?_
    trivial
    refine ⟨by decide, fun l hl => k3 _ _ ?_⟩
    clear k3
    refine rd_seq fun D4 k4 r4 => ?_
    trivial
    have eO : (4 : Int) * ((C.n + 2 : Nat) : Int) * i = (C.oldA i : Nat) := by
      unfold Sk.Cfg.oldA Sk.Cfg.Ba Sk.Cfg.ln
      push_cast
      rfl
    have eN : (4 : Int) * ((C.n + 2 : Nat) : Int) * i + ((C.n + 2 : Nat) : Int) = (C.newA i : Nat) := by
      unfold Sk.Cfg.newA Sk.Cfg.Ba Sk.Cfg.ln
      push_cast
      rfl
    have inN : C.Ba i + 4 * C.ln ≤ nWords C := Sk.Ba_le hi
    have lnE : C.ln = C.n + 2 := rfl
    have cl : Keep [] H2 (upd H2 l (.lst [])) := Keep.new hl
    have al : ∀ j, j < 2 → adr C i j + C.n + 2 ≤ nWords C := fun j hj => by
      unfold adr Sk.Cfg.oldA Sk.Cfg.newA
      split <;> omega
    have m1 : CMul 4 ((C.n + 2 : Nat) : Int) := .inl ⟨by decide, by decide⟩
    have m2 : CMul (4 * ((C.n + 2 : Nat) : Int)) (i : Nat) := .inr ⟨by omega, by omega⟩
    refine ⟨_, rfl, _, _, rfl, rfl, m1, _, rfl, _, _, rfl, rfl, m2, _, rfl, _, _, rfl, rfl, m1, _, rfl, _, _, rfl, rfl, m2, _, rfl, _, _, rfl, rfl, (show 2 ≤ sizeLine by decide), fun ap hap => ⟨ap, rfl, ?_⟩⟩
    dsimp only
    rw [eN, eO]
    have ca : Keep [] H2 (upd (upd H2 l (.lst [])) ap (.tup [.int (C.oldA i : Nat), .int (C.newA i : Nat)])) := cl.trans (Keep.new hap)
    have la : upd (upd H2 l (.lst [])) ap (.tup [.int (C.oldA i : Nat), .int (C.newA i : Nat)]) l = some (.lst []) := by
      rw [upd_ne (ne_of_none upd_same hap)]
      exact upd_same
    refine ⟨⟨_, SqT.of upd_same⟩, for_tup (xs := [.int (C.oldA i : Nat), .int (C.newA i : Nat)]) (fun j σ H' => Keep [] H2 H' ∧ H' ap = some (.tup [.int (C.oldA i : Nat), .int (C.newA i : Nat)]) ∧ (∃ bs : List (Addr × Pk), H' l = some (.lst (bs.map fun b => V.ref b.1)) ∧ PairsA H' bs ∧ bs.map (·.2) = ksF C ms i j) ∧ ∃ o3 o4, σ = [some (.ref tp), some (.int (C.n + 2 : Nat)), some (.int (C.K : Nat)), some (.ref d), some (.int i), some (.ref l), o3, o4]) ⟨ca, upd_same, ⟨[], la, (fun b hb => by cases hb), rfl⟩, _, _, rfl⟩ (fun j σ H' _ q => SqT.of q.2.1) ?_ ?_⟩
    · rintro j x σ H3 hx ⟨q1, q2, ⟨bs, b1, b2, b3⟩, o3, o4, rfl⟩
      have hj : j < 2 := (List.getElem?_eq_some_iff.mp hx).1
      obtain rfl : x = V.int (adr C i j : Nat) := by
        rcases j with _ | _ | j
        · simpa [adr] using hx.symm
        · simpa [adr] using hx.symm
        · simp at hx
      have aj := al j hj
      have bl : bs.length ≤ 2 := by
        rw [← List.length_map (f := (·.2)), b3]
        exact Nat.le_trans (ksF_len ..) (by omega)
      have kS : ksF C ms i (j + 1) = ksF C ms i j ++ if ms (adr C i j) = ms (adr C i j + C.n + 1) ∧ pkAt C.n ms (adr C i j) ∉ ksF C ms i j then [pkAt C.n ms (adr C i j)] else [] := rfl
      generalize adr C i j = a at aj kS ⊢
      have hm3 := (f1.trans q1).t _ _ hm
      refine rd_seq fun D5 k5 r5 => ?_
      trivial
      refine ⟨_, SqT.of hm3, _, atI_nat (memL_get _ (by omega)), ?_⟩
      rw [show (a : Int) + 1 = ((a + 1 : Nat) : Int) from rfl, show (a : Int) + ((C.n + 2 : Nat) : Int) - 1 = ((a + 1 : Nat) : Int) + (C.n : Nat) from by push_cast; omega]
      refine ⟨_, SqT.of hm3, by rw [memL_len, HT.sIx_nat]; omega, fun q hq => ⟨_, .inr ⟨SqT.of upd_same, by decide, fun p hp => k5 _ _ ?_⟩⟩⟩
      rw [memL_cut ms (by omega)] at hp ⊢
      have e1 : Keep [] H3 (upd (upd H3 q (.tup (memL C.n fun k => ms (a + 1 + k)))) p (.tup [.int (ms a), .ref q])) := (Keep.new hq).trans (Keep.new hp)
      have pa : PairA (upd (upd H3 q (.tup (memL C.n fun k => ms (a + 1 + k)))) p (.tup [.int (ms a), .ref q])) p (pkAt C.n ms a) := by
        refine ⟨q, upd_same, ?_⟩
        show upd _ p _ q = _
        rw [upd_ne (ne_of_none upd_same hp), upd_same]
        simp [memL, pkAt, Function.comp_def]
      generalize upd (upd H3 q (.tup (memL C.n fun k => ms (a + 1 + k)))) p (.tup [.int (ms a), .ref q]) = H4 at e1 pa ⊢
      clear k5
      have hm4 := e1.t _ _ hm3
      have b1' := e1.o _ _ b1 (by simp)
      have b2' := b2.keep e1
      have a2' := e1.t _ _ q2
      trivial
      have tl : tyV K "list" (V.ref l) H4 := .inl ⟨rfl, _, SqL.of b1'⟩
      refine ⟨_, SqT.of hm4, _, atI_nat (memL_get _ (by omega)), _, SqT.of hm4, V.int (ms (a + C.n + 1)), ?_, ?_⟩
      · rw [show (a : Int) + ((C.n + 2 : Nat) : Int) - 1 = ((a + C.n + 1 : Nat) : Int) from by push_cast; omega]
        exact atI_nat (memL_get _ (by omega))
      rw [eq_ii]
      refine ⟨_, rfl, ?_⟩
      by_cases hw : ms a = ms (a + C.n + 1)
      · refine iteT' (decide_eq_true hw) ⟨_, _, dp_pair pa, .lst (SqL.of b1') (dp_pairs b2'), sh_pd _, sh_pds _, _, rfl, ?_⟩
        rw [any_pds, b3]
        by_cases hin : pkAt C.n ms a ∈ ksF C ms i j
        · refine iteF' (by simp [hin]) ⟨q1.trans e1, a2', bs, b1', b2', ?_⟩
          rw [kS, if_neg (fun z => z.2 hin), b3, List.append_nil]
        · have ka : Keep [l] H4 (upd H4 l (.lst ((bs.map fun b => V.ref b.1) ++ [.ref p]))) := Keep.at b1' rfl (by simp)
          refine iteT' (by simp [hin]) ⟨tl, _, b1', line6 (by rw [List.length_map]; omega), (q1.trans e1).over hl, ka.t _ _ a2', bs ++ [(p, pkAt C.n ms a)], ?_, ?_, ?_⟩
          · rw [upd_same, List.map_append]
            rfl
          · intro b hb
            rcases List.mem_append.mp hb with hb | hb
            · exact (b2' b hb).keep ka
            · rw [List.mem_singleton.mp hb]
              exact pa.keep ka
          · rw [kS, if_pos ⟨hw, hin⟩, List.map_append, b3]
            rfl
      · refine iteF' (fun z => hw (of_decide_eq_true z)) ⟨q1.trans e1, a2', bs, b1', b2', ?_⟩
        rw [kS, if_neg (fun z => hw z.1), b3, List.append_nil]
    · rintro σ H3 ⟨q1, q2, ⟨bs, b1, b2, b3⟩, o3, o4, rfl⟩
      refine k4 _ _ ?_
      clear k4
      have b3' : bs.map (·.2) = hpL C ms i := by rw [b3]; exact ksF_2 C ms i
      have two : bs.length ≤ 2 := by
        rw [← List.length_map (f := (·.2)), b3']
        exact hpL_len C ms i
      have f3 := f1.trans q1
      refine ⟨_, rfl, l, rfl, ⟨_, SqL.of b1⟩, for_list (xs := bs.map fun b => V.ref b.1) (fun j σ H' => Keep [] H H' ∧ (∃ L, CtA P w H' d (fun k => cntK C ms i k + ((bs.take j).map (·.2)).count k) (2 * i + j) L) ∧ PairsA H' bs ∧ H' l = some (.lst (bs.map fun b => V.ref b.1)) ∧ ∃ o3 o4, σ = [some (.ref tp), some (.int (C.n + 2 : Nat)), some (.int (C.K : Nat)), some (.ref d), some (.int i), some (.ref l), o3, o4]) ⟨f3, ⟨L, f2.keep q1 (by simp)⟩, b2, b1, _, _, rfl⟩ (fun j σ H' _ q => SqL.of q.2.2.2.1) ?_ ?_⟩
      · rintro j x σ H4 hx ⟨q1, ⟨L2, q2⟩, q3, q4, o3, o4, rfl⟩
        rw [List.getElem?_map] at hx
        obtain ⟨b, hb, rfl⟩ := Option.map_eq_some_iff.mp hx
        have hj := (List.getElem?_eq_some_iff.mp hb).1
        have pb := q3 b (List.mem_of_getElem? hb)
        refine ⟨_, rfl, d, L2, rfl, ⟨.inl q2.at_, q2.keys⟩, _, rfl, L2, b.1, b.2, 0, rfl, rfl, ⟨.inl q2.at_, q2.keys⟩, pb, _, _, rfl, rfl, _, rfl, _, rfl, d, b.1, b.2, L2, _, rfl, rfl, rfl, q2.at_, q2.keys, pb, ?_, ?_⟩
        · have := q2.few
          exact Nat.lt_of_le_of_lt (show L2.length ≤ 64 by omega) (by decide)
        · have ld : l ≠ d := ne_of q4 q2.at_ (by intro z; cases z)
          refine ⟨(q1.over hd), ⟨_, q2.put pb (fun k => by rw [cnt_take hb k, Nat.add_assoc])⟩, q3.keep (S := [d]) (Keep.at q2.at_ rfl (by simp)), by rw [upd_ne ld]; exact q4, _, _, rfl⟩
      · rintro σ H4 ⟨q1, ⟨L2, q2⟩, q3, q4, o3, o4, rfl⟩
        refine ⟨q1, ⟨L2, ?_⟩, _, _, _, _, rfl⟩
        rw [List.length_map, List.take_length] at q2
        refine ⟨q2.at_, q2.keys, fun k => ?_, q2.du, Nat.le_trans q2.few (by omega)⟩
        rw [q2.dc k]
        show (if cntK C ms i k + (bs.map (·.2)).count k = 0 then none else some ((cntK C ms i k + (bs.map (·.2)).count k : Nat) : Int)) = _
        rw [cntK_succ, b3']
  · rintro σ H2 ⟨f1, ⟨L, f2⟩, o1, o2, o3, o4, rfl⟩
    refine k2' _ _ ?_
    trivial
    exact h d L H2 f1 hd f2
end
end Wk
end

section
set_option Elab.async false
set_option linter.all false
set_option maxRecDepth 100000
set_option maxHeartbeats 4000000
/-! the walk: only states are read -/
namespace Wk
open PySem PySem.Spec PyProof.Rows L2 StX
local macro_rules | `(tactic| trivial) => `(tactic| try simp only [spInt, spWord, spIdx, spNum, spReg, isi_ii, isi_ib, isi_ss, eq_ii, ne_ii, eq_ss, ne_ss, cxK, wipe, rLenS, rSlL, rSlT, tRevL, tDisp, tPairs, rCat, rRep, rExtend, rAdd, rSub, rSetD, rPop, rAppend, rIxL, rIxT, rSetL, tVar, tC, t2I, tB, tAnd, tOr, tNot, tAndV, tOrV, tNotV, tIf, tNext, tSeq, tDrop, tRet, tRetN, tIfS, tNever, tAsg, tPar, tOp, tUn, rI, rI0, rU, tTest, tChain, tFld, tCon, tNil, tCons, tTup, tLst, tCall, tMeth, tProp, tCB, tSl, tNoPart, tPart, tBM, tBM0, gName, gTup, gNil, gCons, gSub, sFld, L2.start, tDGet, tDIn, tDNotIn, tDNewK, tDNewT, sDPut, tDGet2, and_assoc, exists_and_left, exists_and_right, exists_eq_left', exists_eq_left, exists_eq_right, exists_eq', V.int.injEq, V.str.injEq, V.bl.injEq, V.ref.injEq, List.cons.injEq, and_true, true_and, List.append_nil, List.map_cons, List.map_nil, List.length_cons, List.length_nil, List.cons_append, List.nil_append, Nat.reduceAdd, Nat.reduceSub, List.reduceReplicate, List.getElem?_cons_succ, List.getElem?_cons_zero, List.set_cons_succ, List.set_cons_zero, Option.some.injEq, if_true, Bool.false_eq_true, if_false, decide_eq_true_eq, Bool.not_true, Bool.not_false, Bool.not_eq_true', decide_eq_false_iff_not, decide_true, decide_false, Bool.true_and, Bool.and_true, Bool.false_and, Int.reduceEq, Int.reduceLT, Int.reduceLE, Int.reduceNeg, reduceCtorEq, not_false_eq_true, not_true_eq_false])
/-! ### plain -/
def fOf (n : Nat) (k : Pk) : Nat → Int := fun j => if j = 0 ∨ j = n + 1 then k.1 else k.2.getD (j - 1) 0
theorem sim_at {n : Nat} {ms : Nat → Int} {a : Nat} (h : ms a = ms (a + n + 1)) : Sk.Sim (n + 2) (Sk.ct ms a) (fOf n (pkAt n ms a)) := fun j hj => by
  unfold fOf Sk.ct
  by_cases e : j = 0 ∨ j = n + 1
  · rw [if_pos e]
    rcases e with rfl | rfl
    · rfl
    · exact h.symm
  · rw [if_neg e]
    have : j - 1 < n := by omega
    simp only [pkAt]
    rw [List.getD_eq_getElem?_getD, List.getElem?_map, List.getElem?_range this]
    show ms (a + j) = ms (a + 1 + (j - 1))
    congr 1
    omega
theorem at_sim {n : Nat} {ms : Nat → Int} {a : Nat} {k : Pk} (hl : k.2.length = n) (h : Sk.Sim (n + 2) (Sk.ct ms a) (fOf n k)) : k = pkAt n ms a := by
  obtain ⟨z, zs⟩ := k
  have h0 : ms a = z := by
    have := h 0 (by omega)
    simpa [fOf, Sk.ct] using this
  refine Prod.ext h0.symm (List.ext_getElem (by simp [pkAt]; exact hl) fun i h1 h2 => ?_)
  have h3 := h (i + 1) (by have : zs.length = n := hl; simp only at h1; omega)
  have : ¬ (i + 1 = 0 ∨ i + 1 = n + 1) := by have : zs.length = n := hl; simp only at h1; omega
  simp only [fOf, Sk.ct, if_neg this, Nat.add_sub_cancel] at h3
  simp only [pkAt, List.getElem_map, List.getElem_range]
  rw [List.getD_eq_getElem?_getD, List.getElem?_eq_getElem h1] at h3
  rw [show a + 1 + i = a + (i + 1) from by omega]
  exact h3.symm
theorem holds_of {C : Sk.Cfg} {ms : Nat → Int} {c : Nat} {k : Pk} (h : k ∈ hpL C ms c) : Sk.Holds C ms c (fOf C.n k) := by
  rcases (hpL_mem C ms c k).mp h with ⟨h1, h2⟩ | ⟨h1, h2⟩
  · refine .inl ⟨h1, ?_⟩
    rw [h2]
    exact sim_at h1
  · refine .inr ⟨h1, ?_⟩
    rw [h2]
    exact sim_at h1
theorem of_holds {C : Sk.Cfg} {ms : Nat → Int} {c : Nat} {k : Pk} (hl : k.2.length = C.n) (h : Sk.Holds C ms c (fOf C.n k)) : k ∈ hpL C ms c := by
  refine (hpL_mem C ms c k).mpr ?_
  rcases h with ⟨h1, h2⟩ | ⟨h1, h2⟩
  · exact .inl ⟨h1, at_sim hl h2⟩
  · exact .inr ⟨h1, at_sim hl h2⟩
/-- the state c as a pair -/
def plC (C : Sk.Cfg) (c : Nat) : Pk := ((c : Int), (List.range C.n).map (C.S c))
theorem pl_fOf (C : Sk.Cfg) (c : Nat) : C.Pl c (fOf C.n (plC C c)) := by
  refine ⟨by simp [fOf, plC], by simp [fOf, plC], fun k hk => ?_⟩
  have : ¬ (1 + k = 0 ∨ 1 + k = C.n + 1) := by omega
  simp only [fOf, if_neg this, plC]
  rw [List.getD_eq_getElem?_getD, List.getElem?_map, List.getElem?_range (by omega)]
  simp [Nat.add_comm 1 k]
theorem of_pl {C : Sk.Cfg} {c : Nat} {k : Pk} (hl : k.2.length = C.n) (h : C.Pl c (fOf C.n k)) : k = plC C c := by
  obtain ⟨z, zs⟩ := k
  obtain ⟨h0, _, h2⟩ := h
  have e0 : z = (c : Int) := by simpa [fOf] using h0
  refine Prod.ext e0 (List.ext_getElem (by simp [plC]; exact hl) fun i h1 h3 => ?_)
  have hi : i < C.n := by have : zs.length = C.n := hl; simp only at h1; omega
  have h4 := h2 i hi
  have : ¬ (1 + i = 0 ∨ 1 + i = C.n + 1) := by omega
  simp only [fOf, if_neg this, show 1 + i - 1 = i from by omega] at h4
  rw [List.getD_eq_getElem?_getD, List.getElem?_eq_getElem h1] at h4
  simp only [plC, List.getElem_map, List.getElem_range]
  exact h4
theorem cnt_pos {p : Nat → Prop} : ∀ {k : Nat}, 0 < Sk.cnt p k → ∃ i, i < k ∧ p i
  | 0, h => absurd h (Nat.lt_irrefl _)
  | k + 1, h => by
    by_cases hp : p k
    · exact ⟨k, Nat.lt_succ_self _, hp⟩
    · have h2 : 0 < Sk.cnt p k := by
        unfold Sk.cnt at h
        rw [if_neg hp] at h
        exact h
      obtain ⟨i, h3, h4⟩ := cnt_pos h2
      exact ⟨i, Nat.lt_succ_of_lt h3, h4⟩
/-- what is often held is a state -/
theorem often {C : Sk.Cfg} {t : Nat} {s : Sk.MS} {p : Nat} (G : Sk.Good C t s p) {k : Pk} (h : C.e < cntK C s.mem C.K k) : ∃ c, c ≤ C.T ∧ k = plC C c := by
  obtain ⟨i, _, hi⟩ := cnt_pos (Nat.lt_of_le_of_lt (Nat.zero_le _) h)
  have hl : k.2.length = C.n := by
    rcases (hpL_mem C s.mem i k).mp hi with ⟨_, e⟩ | ⟨_, e⟩ <;> rw [e] <;> simp [pkAt]
  obtain ⟨c, hc, hp⟩ := G.safe (fOf C.n k) (Nat.lt_of_lt_of_le h (Sk.cnt_mono fun i _ q => holds_of q))
  exact ⟨c, hc, of_pl hl hp⟩
theorem last_held {C : Sk.Cfg} {t : Nat} {s : Sk.MS} {p : Nat} (G : Sk.Good C t s p) (ht : (C.T + 2 * C.e) * C.L ≤ t) : C.e < cntK C s.mem C.K (plC C C.T) :=
  Nat.lt_of_lt_of_le (G.final ht _ (pl_fOf C C.T)) (Sk.cnt_mono fun i _ q => of_holds (by simp [plC]) q)
/-- all states are small -/
def Smalls (C : Sk.Cfg) : Prop := C.n ≤ 100 ∧ C.T < 999999 ∧ ∀ c, c ≤ C.T → ∀ k, k < C.n → 0 ≤ C.S c k ∧ C.S c k < 1000000
theorem plC_sm {C : Sk.Cfg} (h : Smalls C) {c : Nat} (hc : c ≤ C.T) : PkSm (plC C c) := by
  obtain ⟨h1, h2, h3⟩ := h
  refine ⟨by simp [plC]; exact h1, ?_, fun x hx => ?_⟩
  · show (c : Int).natAbs < 10 ^ 12
    have : (10 : Nat) ^ 12 = 1000000000000 := by decide
    omega
  · obtain ⟨k, hk, rfl⟩ := List.mem_map.mp hx
    have := h3 c hc k (List.mem_range.mp hk)
    show (C.S c k).natAbs < 10 ^ 12
    have : (10 : Nat) ^ 12 = 1000000000000 := by decide
    omega
/-- the list of the states -/
def StsC (H : Hp) (p : Addr) (C : Sk.Cfg) : Prop := StsA H p ((List.range (C.T + 1)).map fun c => (plC C c).2)
theorem sh_tints (ns : List Int) : SeqAt.shaped (.tuple (ns.map PyData.int)) = true := by
  have h1 := PySem.W.depthAll_ints ns
  have h2 : PyData.depth (.tuple (ns.map PyData.int)) ≤ 64 := by simp only [PyData.depth]; omega
  show (PyData.canLay0 (.tuple (ns.map PyData.int)) && decide (PyData.depth (.tuple (ns.map PyData.int)) ≤ 64)) = true
  rw [Bool.and_eq_true]
  exact ⟨by simp only [PyData.canLay0]; exact PySem.W.canLayAll0_ints ns, decide_eq_true h2⟩
def spOnly (K : PySem.W.Frag) : Sp := fun vs H Q _ => ∃ (C : Sk.Cfg) (s0 : Sk.MS) (a : Ad) (t f : Nat) (rp sl : Addr), vs = [V.ref a.mc, V.ref rp, V.ref sl, V.int (C.e : Nat), V.int (C.K : Nat)] ∧ MachR K C s0 H a t f ∧ Sys C s0 ∧ f ≤ C.e ∧ Smalls C ∧ RecsA H rp C.recs ∧ StsC H sl C ∧
  ∀ H', Keep [] H H' → Q (.bl true) H'
def spFinal (K : PySem.W.Frag) : Sp := fun vs H Q _ => ∃ (C : Sk.Cfg) (s0 : Sk.MS) (a : Ad) (t f : Nat) (sl : Addr), vs = [V.ref a.mc, V.ref sl] ∧ MachR K C s0 H a t f ∧ Sys C s0 ∧ f ≤ C.e ∧ Smalls C ∧ StsC H sl C ∧ (C.T + 2 * C.e) * C.L ≤ t ∧
  ∀ H', Keep [] H H' → Q (.bl true) H'
theorem op_neDK {X : Cx} {K : PySem.W.Frag} (hu : X.A.units + 64 < cLine) (h : X.K = K := by rfl) : OpR X (compareOp .NotEq) (rNeD K) := h ▸ op_neD hu
theorem pe_pgetK {X : Cx} {o i : Expr} {pos : Pos} {td ty : TE} {k : Nat} {P : Program} {w : World} (hr : Room k X.A) (ho : PE X o td) (hi : PE X i ty) (hs : NoSl i) (hp : X.prog = P := by rfl) (hw : X.w = w := by rfl) : PE X (.Subscript o i pos) (tPGet P w td ty) := by
  subst hp hw
  exact pe_pget hr ho hi hs
section
variable {P : Program} {w : World} {K : PySem.W.Frag} {mg : Str → Option Value} {base : Heap}
theorem D__law_only_states (F : Fx K mg) : Dg P w K mg base 8 "_law_only_states" ["_law_machine", "_law_recipes", "_law_states_here", "_law_e", "_law_count"] (spOnly K) := by
  refine dg_mk F.f__law_only_states F.g__law_only_states sc__law_only_states (fun _ _ _ _ _ _ us hl => match us, hl with | [_, _, _, _, _], _ => rfl) (by rintro vs H Q E ⟨_, _, _, _, _, _, _, rfl, _⟩; rfl) ?_
  rintro cdv A outer s H vs Q E gd hr ⟨C, s0, a, t, f, rp, sl, rfl, M, S, hf, sm, hrp, hsl, h⟩
  refine ⟨_, (pss_cons (ps_set (i := 5) sc__law_only_states.nd rfl (by first | exact .inl rfl | exact .inr rfl) (sk_call (D__law_held F) hr (pa_cons (sk_prop F.c_Machine (P_memory F) hr (pv 0)) (pa_cons (pe_op op_add (pe_callB call_len_seq (by rfl) F.b_len bt_len (pa_cons (pv 1) pa_nil)) pe_int) (pa_cons (pv 4) pa_nil)))))
    (pss_cons (ps_setLc (i := 6) (own := [("_law_pair", 8)]) rfl sc__law_only_states.nd rfl rfl (sw_true rfl rfl rfl (by decide +kernel)) (pi_list (pe_callB (call_sortedPd hr) (by rfl) F.b_sorted bt_sorted (pa_cons (pv 5) pa_nil))) (blkOk_by (own := [("_law_pair", 8)]) (N := ["_law_machine", "_law_recipes", "_law_states_here", "_law_e", "_law_count", "_law_counts", "_law_found", "_law_wrong_here", "_law_pair"]) (sc := defScope s__law_only_states) (by decide +kernel)) (fun _ _ _ _ _ => (pg_name (i := 8) sc__law_only_states.nd rfl (by first | exact .inl rfl | exact .inr rfl))) (fun _ _ _ _ _ => (pts_one (pt_cmpR op_gt (pe_pgetK (P := P) (w := w) hr (pv 5) (pv 8) (fun _ _ => rfl)) (pv 3) (nomark _)))) (fun _ _ _ _ _ => (pv 8)))
    (pss_cons (ps_setLc (i := 7) (own := [("_law_pair", 8)]) rfl sc__law_only_states.nd rfl rfl (sw_true rfl rfl rfl (by decide +kernel)) (pi_list (pv 6)) (blkOk_by (own := [("_law_pair", 8)]) (N := ["_law_machine", "_law_recipes", "_law_states_here", "_law_e", "_law_count", "_law_counts", "_law_found", "_law_wrong_here", "_law_pair"]) (sc := defScope s__law_only_states) (by decide +kernel)) (fun _ _ _ _ _ => (pg_name (i := 8) sc__law_only_states.nd rfl (by first | exact .inl rfl | exact .inr rfl))) (fun _ _ _ _ _ => (pts_one (PW.pt (pw_or (pt_cmpR op_ge (pe_ix (ix_tupK (K := K)) (pv 8) pe_int (fun _ _ => rfl)) (pe_callB (call_lenK (K := K)) (by rfl) F.b_len bt_len (pa_cons (pv 2) pa_nil)) (nomark _)) (pw_or1 (pt_cmpR (op_neDK (K := K) hr.units) (pe_ix (ix_listK (K := K)) (pv 2) (pe_ix (ix_tupK (K := K)) (pv 8) pe_int (fun _ _ => rfl)) (fun _ _ => rfl)) (pe_ix (ix_tupK (K := K)) (pv 8) pe_int (fun _ _ => rfl)) (nomark _))))))) (fun _ _ _ _ _ => (pv 8)))
    (pss_one (ps_ret (pe_and (pe_cmpR (op_eqD hr.units) (pv 7) (pe_lst pa_nil) (nomark _)) (pe_one (pe_cmpR op_eq (pe_callB (call_reprP hr gd) (by rfl) F.b_repr bt_repr (pa_cons (sk_prop F.c_Machine (P_reading F) hr (pv 0)) pa_nil)) (pe_callB (call_reprP hr gd) (by rfl) F.b_repr bt_repr (pa_cons (pe_ifExp (pt_cmpR (op_neD hr.units) (pv 6) (pe_lst pa_nil) (nomark _)) (pe_ix ix_list (pv 6) (pe_un un_neg pe_int) (fun _ _ => rfl)) pe_non) pa_nil)) (nomark _))))))))), ?_⟩
  refine rd_seq fun D1 k1' r1 => ?_
  obtain ⟨ms, p, MO, R⟩ := id M
  have G := Sk.guarantee S.o S.hK S.init R hf
  have k16 := S.ok.k16
  obtain ⟨rvs, hrp1, hrp2⟩ := id hrp
  refine ⟨_, rfl, a.mc, a.dx, _, rfl, MO.obj, C, a, ms, p, t, f, rfl, MO, fun tp htp => ?_⟩
  have c1 : Keep [] H (upd H tp (.tup (memL (nWords C) ms.mem))) := Keep.new htp
  have tp1 : upd H tp (.tup (memL (nWords C) ms.mem)) tp = some (.tup (memL (nWords C) ms.mem)) := upd_same
  generalize upd H tp (.tup (memL (nWords C) ms.mem)) = H1 at c1 tp1 ⊢
  refine ⟨_, rfl, rp, _, rfl, .inr (SqT.of (c1.t _ _ hrp1)), _, _, rfl, rfl, _, rfl, C, tp, ms.mem, by rw [hrp2.len, S.ok.len]; rfl, S.ok, tp1, fun d L H2 e2 hd cd => k1' _ _ ?_⟩
  clear k1'
  have c2 := c1.trans e2
  refine rd_seq fun D2 k2' r2 => ?_
  refine ⟨_, rfl, d, L, rfl, ⟨.inl cd.at_, cd.keys⟩, fun out so hperm hpw hso => ⟨so, rfl, ⟨_, SqL.of upd_same⟩, fun fl hfl => ?_⟩⟩
  have outM : ∀ b ∈ out, PairA H2 b.1 b.2 ∧ valP L b.2 = some ((cntK C ms.mem C.K b.2 : Nat) : Int) := fun b hb => by
    obtain ⟨l, hl, rfl⟩ := List.mem_map.mp (hperm.mem_iff.mp hb)
    obtain ⟨k, a', n⟩ := l
    exact ⟨cd.keys _ hl, by rw [valP_at cd.du hl, cd.dc.at cd.du hl]⟩
  have outL : out.length ≤ 32 := by
    have h1 := hperm.length_eq
    have h2 := cd.few
    simp only [keysP, List.length_map] at h1
    omega
  have e3 : Keep [] H2 (upd H2 so (.lst (out.map fun b => V.ref b.1))) := Keep.new hso
  have so3 : upd H2 so (.lst (out.map fun b => V.ref b.1)) so = some (.lst (out.map fun b => V.ref b.1)) := upd_same
  generalize upd H2 so (.lst (out.map fun b => V.ref b.1)) = H3 at hfl e3 so3 ⊢
  refine lc_list (xs := out.map fun b => V.ref b.1) (fun i H' => Keep [] H3 H' ∧ H' fl = some (.lst (((out.take i).filter fun b => decide (C.e < cntK C ms.mem C.K b.2)).map fun b => V.ref b.1))) ⟨Keep.new hfl, upd_same⟩ (fun i H' _ q => SqL.of (q.1.o _ _ so3 (by simp))) ?_ ?_
  · rintro i x H4 hx ⟨q1, q2⟩
    rw [List.getElem?_map] at hx
    obtain ⟨b, hb, rfl⟩ := Option.map_eq_some_iff.mp hx
    obtain ⟨o1, o2⟩ := outM b (List.mem_of_getElem? hb)
    have c4 := e3.trans q1
    have cd4 := cd.keep c4 (by simp)
    have tk : (out.take (i + 1)).filter (fun b => decide (C.e < cntK C ms.mem C.K b.2)) = (out.take i).filter (fun b => decide (C.e < cntK C ms.mem C.K b.2)) ++ if C.e < cntK C ms.mem C.K b.2 then [b] else [] := by
      rw [List.take_succ, hb, List.filter_append]
      congr 1
      by_cases z : C.e < cntK C ms.mem C.K b.2 <;> simp [z]
    have few : ((out.take i).filter fun b => decide (C.e < cntK C ms.mem C.K b.2)).length ≤ 32 := Nat.le_trans (List.length_filter_le ..) (Nat.le_trans (by rw [List.length_take]; omega) outL)
    refine ⟨rfl, _, rfl, _, rfl, d, b.1, b.2, L, _, rfl, rfl, ⟨.inl cd4.at_, cd4.keys⟩, o1.keep c4, o2, _, rfl, _, _, rfl, rfl, _, rfl, ?_⟩
    show if decide ((C.e : Int) < (cntK C ms.mem C.K b.2 : Nat)) = true then _ else _
    by_cases z : C.e < cntK C ms.mem C.K b.2
    · refine iteT' (decide_eq_true (Int.ofNat_lt.mpr z)) ⟨_, rfl, _, q2, (by rw [List.length_map]; exact Nat.lt_of_le_of_lt few (by decide)), q1.over hfl, ?_⟩
      rw [upd_same, tk, if_pos z, List.map_append]
      rfl
    · refine iteF' (fun y => z (Int.ofNat_lt.mp (of_decide_eq_true y))) ⟨q1, ?_⟩
      rw [tk, if_neg z, List.append_nil]
      exact q2
  rintro H4 ⟨q1, q2⟩
  rw [List.length_map, List.take_length] at q2
  refine k2' _ _ ?_
  clear k2'
  have c4 := e3.trans q1
  obtain ⟨fo, hfo⟩ : ∃ fo, fo = out.filter fun b => decide (C.e < cntK C ms.mem C.K b.2) := ⟨_, rfl⟩
  have foC : ∀ b ∈ fo, ∃ c, c ≤ C.T ∧ b.2 = plC C c := fun b hb => by
    rw [hfo] at hb
    exact often G (of_decide_eq_true (List.mem_filter.mp hb).2)
  have foP : PairsA H4 fo := fun b hb => by
    rw [hfo] at hb
    exact (outM b (List.mem_filter.mp hb).1).1.keep c4
  have foM : ∀ k, C.e < cntK C ms.mem C.K k ↔ k ∈ fo.map (·.2) := fun k => by
    rw [hfo]
    refine ⟨fun z => ?_, fun z => ?_⟩
    · obtain ⟨a', ha⟩ := cd.dc.mem (k := k) (by omega)
      refine List.mem_map.mpr ⟨(a', k), List.mem_filter.mpr ⟨hperm.mem_iff.mpr (List.mem_map.mpr ⟨_, ha, rfl⟩), decide_eq_true z⟩, rfl⟩
    · obtain ⟨b, hb, rfl⟩ := List.mem_map.mp z
      exact of_decide_eq_true (List.mem_filter.mp hb).2
  have foS : fo.Pairwise fun a b => a.2.1 ≤ b.2.1 := by
    rw [hfo]
    exact hpw.filter _
  rw [← hfo] at q2
  have foL : fo.length ≤ 32 := by
    rw [hfo]
    exact Nat.le_trans (List.length_filter_le ..) outL
  have c5 := c2.trans c4
  clear hfo q1 so3 e3 hso hfl hpw hperm outM outL
  refine rd_seq fun D3 k3 r3 => ?_
  refine ⟨_, rfl, fl, rfl, ⟨_, SqL.of q2⟩, fun wl hwl => ?_⟩
  obtain ⟨svs, hsl1, hsl2⟩ := id hsl
  have sl4 := c5.o _ _ hsl1 (by simp)
  refine lc_list (xs := fo.map fun b => V.ref b.1) (fun i H' => Keep [] H4 H' ∧ H' wl = some (.lst [])) ⟨Keep.new hwl, upd_same⟩ (fun i H' _ q => SqL.of (q.1.o _ _ q2 (by simp))) ?_ ?_
  · rintro i x H5 hx ⟨q3, q4⟩
    rw [List.getElem?_map] at hx
    obtain ⟨b, hb, rfl⟩ := Option.map_eq_some_iff.mp hx
    obtain ⟨c, cT, ec⟩ := foC b (List.mem_of_getElem? hb)
    obtain ⟨y, y1, y2⟩ := (foP b (List.mem_of_getElem? hb)).keep q3
    refine ⟨rfl, ?_⟩
    trivial
    rw [ec] at y1 y2
    have sl5 := q3.o _ _ sl4 (by simp)
    have sL : svs.length = C.T + 1 := by
      rw [hsl2.len]
      simp
    obtain ⟨z, z1, z2⟩ := hsl2.get' (i := c) (x := (plC C c).2) (by rw [List.getElem?_map, List.getElem?_range (by omega)]; rfl)
    have z3 := (z2.keep c5).keep q3
    refine ⟨_, SqT.of y1, _, rfl, svs, .inl (SqL.of sl5), (c : Int), rfl, ?_⟩
    refine iteF' (by rw [sL]; push_cast; omega) ⟨_, SqT.of y1, _, rfl, svs, (c : Int), rfl, SqL.of sl5, _, atI_nat z1, _, SqT.of y1, _, rfl, ?_⟩
    refine ⟨_, _, .tup (SqT.of z3) (dp_ints _), .tup (SqT.of y2) (dp_ints _), sh_tints _, sh_tints _, _, rfl, ?_⟩
    refine iteF' (by simp [PyData.eqv, eqv_ints]) ⟨q3, q4⟩
  · rintro H5 ⟨q3, q4⟩
    refine k3 _ _ ?_
    clear k3
    trivial
    have c6 := c5.trans q3
    refine ⟨by decide, fun el hel => ?_⟩
    have c7 : Keep [] H5 (upd H5 el (.lst [])) := Keep.new hel
    refine ⟨.list [], .list [], .lst (SqL.of (c7.o _ _ q4 (by simp))) .nil, .lst (SqL.of upd_same) .nil, rfl, rfl, true, rfl, ?_⟩
    generalize upd H5 el (.lst []) = H6 at c7 ⊢
    have c8 := c6.trans c7
    have fl6 := (q3.trans c7).o _ _ q2 (by simp)
    have foP6 := foP.keep (q3.trans c7)
    rw [if_pos rfl]
    have M6 := MO.keep0 c8
    refine ⟨⟨_, _, M6.obj⟩, C, a, ms, p, t, f, rfl, M6, S.ok, fun none H7 e7 => ?_, fun pp k H7 e7 pa big mx => ?_⟩
    · have fe : fo = [] := by
        cases fo with
        | nil => rfl
        | cons b fo => exact absurd ((foM b.2).mpr (by simp)) (by have := none b.2; omega)
      subst fe
      refine .inl ⟨rfl, by decide, fun ep hep => ?_⟩
      have c9 : Keep [] H7 (upd H7 ep (.lst [])) := Keep.new hep
      refine ⟨.list [], .list [], .lst (SqL.of ((e7.trans c9).o _ _ fl6 (by simp))) .nil, .lst (SqL.of upd_same) .nil, rfl, rfl, false, rfl, ?_⟩
      refine iteF' (by decide) (.inl ⟨rfl, ?_⟩)
      dsimp only
      rw [eq_ss, decide_eq_true rfl]
      exact h _ ((c8.trans e7).trans c9)
    · have hk := (foM k).mp big
      obtain ⟨b, hb, bk⟩ := List.mem_map.mp hk
      have fne : fo ≠ [] := fun z => by rw [z] at hb; cases hb
      obtain ⟨ini, lb, fe⟩ : ∃ ini lb, fo = ini ++ [lb] := ⟨fo.dropLast, fo.getLast fne, (List.dropLast_concat_getLast fne).symm⟩
      have lbm : lb ∈ fo := by rw [fe]; simp
      have kl : k = lb.2 := by
        obtain ⟨c, _, ec⟩ := foC b hb
        obtain ⟨c', _, ec'⟩ := foC lb lbm
        have h1 : b.2.1 ≤ lb.2.1 := by
          rw [fe] at hb foS
          rcases List.mem_append.mp hb with hb | hb
          · exact (List.pairwise_append.mp foS).2.2 b hb lb (by simp)
          · rw [List.mem_singleton.mp hb]
            exact Int.le_refl _
        have h2 := mx lb.2 ((foM lb.2).mpr (List.mem_map.mpr ⟨lb, lbm, rfl⟩))
        rw [← bk] at h2 ⊢
        rw [ec, ec'] at h1 h2 ⊢
        simp only [plC] at h1 h2
        have : c = c' := by omega
        rw [this]
      have km : PkSm k := by
        obtain ⟨c, cT, ec⟩ := foC lb lbm
        rw [kl, ec]
        exact plC_sm sm cT
      refine .inr ⟨pp, k, rfl, pa, km, by decide, fun ep hep => ?_⟩
      have c9 : Keep [] H7 (upd H7 ep (.lst [])) := Keep.new hep
      have fl8 := (e7.trans c9).o _ _ fl6 (by simp)
      have foP8 := foP6.keep (e7.trans c9)
      refine ⟨.list ((fo.map (·.2)).map pd), .list [], .lst (SqL.of fl8) (dp_pairs foP8), .lst (SqL.of upd_same) .nil, sh_pds _, rfl, _, rfl, ?_⟩
      have en : PyData.eqv (.list ((fo.map (·.2)).map pd)) (.list []) = false := by
        cases fo with
        | nil => exact absurd rfl fne
        | cons x y => rfl
      refine iteT' (by rw [en]; rfl) ⟨_, SqL.of fl8, .ref lb.1, by rw [fe, List.map_append]; exact atI_last _ _, .inr ⟨lb.1, lb.2, rfl, foP8 lb lbm, kl ▸ km, ?_⟩⟩
      dsimp only
      rw [eq_ss, kl, decide_eq_true rfl]
      exact h _ ((c8.trans e7).trans c9)
end
end Wk
end

section
set_option Elab.async false
set_option linter.all false
set_option maxRecDepth 100000
set_option maxHeartbeats 4000000
/-! the walk: the last state -/
namespace Wk
open PySem PySem.Spec PyProof.Rows L2 StX
local macro_rules | `(tactic| trivial) => `(tactic| try simp only [spInt, spWord, spIdx, spNum, spReg, isi_ii, isi_ib, isi_ss, eq_ii, ne_ii, eq_ss, ne_ss, cxK, wipe, rLenS, rSlL, rSlT, tRevL, tDisp, tPairs, rCat, rRep, rExtend, rAdd, rSub, rSetD, rPop, rAppend, rIxL, rIxT, rSetL, tVar, tC, t2I, tB, tAnd, tOr, tNot, tAndV, tOrV, tNotV, tIf, tNext, tSeq, tDrop, tRet, tRetN, tIfS, tNever, tAsg, tPar, tOp, tUn, rI, rI0, rU, tTest, tChain, tFld, tCon, tNil, tCons, tTup, tLst, tCall, tMeth, tProp, tCB, tSl, tNoPart, tPart, tBM, tBM0, gName, gTup, gNil, gCons, gSub, sFld, L2.start, tDGet, tDIn, tDNotIn, tDNewK, tDNewT, sDPut, tDGet2, and_assoc, exists_and_left, exists_and_right, exists_eq_left', exists_eq_left, exists_eq_right, exists_eq', V.int.injEq, V.str.injEq, V.bl.injEq, V.ref.injEq, List.cons.injEq, and_true, true_and, List.append_nil, List.map_cons, List.map_nil, List.length_cons, List.length_nil, List.cons_append, List.nil_append, Nat.reduceAdd, Nat.reduceSub, List.reduceReplicate, List.getElem?_cons_succ, List.getElem?_cons_zero, List.set_cons_succ, List.set_cons_zero, Option.some.injEq, if_true, Bool.false_eq_true, if_false, decide_eq_true_eq, Bool.not_true, Bool.not_false, Bool.not_eq_true', decide_eq_false_iff_not, decide_true, decide_false, Bool.true_and, Bool.and_true, Bool.false_and, Int.reduceEq, Int.reduceLT, Int.reduceLE, Int.reduceNeg, reduceCtorEq, not_false_eq_true, not_true_eq_false])
section
variable {P : Program} {w : World} {K : PySem.W.Frag} {mg : Str → Option Value} {base : Heap}
theorem D__law_is_final (F : Fx K mg) : Dg P w K mg base 8 "_law_is_final" ["_law_machine", "_law_states_here"] (spFinal K) := by
  refine dg_mk F.f__law_is_final F.g__law_is_final sc__law_is_final (fun _ _ _ _ _ _ us hl => match us, hl with | [_, _], _ => rfl) (by rintro vs H Q E ⟨_, _, _, _, _, _, rfl, _⟩; rfl) ?_
  rintro cdv A outer s H vs Q E gd hr ⟨C, s0, a, t, f, sl, rfl, M, S, hf, sm, hsl, ht, h⟩
  refine ⟨_, (pss_one (ps_ret (pe_cmpR op_eq (pe_callB (call_reprP hr gd) (by rfl) F.b_repr bt_repr (pa_cons (sk_prop F.c_Machine (P_reading F) hr (pv 0)) pa_nil)) (pe_callB (call_reprP hr gd) (by rfl) F.b_repr bt_repr (pa_cons (pe_tup (pa_cons (pe_op op_sub (pe_callB call_len_seq (by rfl) F.b_len bt_len (pa_cons (pv 1) pa_nil)) pe_int) (pa_cons (pe_ix ix_list (pv 1) (pe_un un_neg pe_int) (fun _ _ => rfl)) pa_nil))) pa_nil)) (nomark _)))), ?_⟩
  obtain ⟨ms, p, MO, R⟩ := id M
  have G := Sk.guarantee S.o S.hK S.init R hf
  have lh := last_held G ht
  obtain ⟨svs, hsl1, hsl2⟩ := id hsl
  trivial
  refine ⟨⟨_, _, MO.obj⟩, C, a, ms, p, t, f, rfl, MO, S.ok, fun none H1 e1 => absurd lh (by have := none (plC C C.T); omega), fun pp k H1 e1 pa big mx => ?_⟩
  have kT : k = plC C C.T := by
    obtain ⟨c, cT, ec⟩ := often G big
    have h1 := mx _ lh
    rw [ec] at h1 ⊢
    simp only [plC] at h1
    have : c = C.T := by omega
    rw [this]
  have km : PkSm k := by
    rw [kT]
    exact plC_sm sm (Nat.le_refl _)
  have sl1 := e1.o _ _ hsl1 (by simp)
  refine .inr ⟨pp, k, rfl, pa, km, ?_⟩
  have sL : svs.length = C.T + 1 := by
    rw [hsl2.len]
    simp
  obtain ⟨z, z1, z2⟩ := hsl2.get' (i := C.T) (x := (plC C C.T).2) (by rw [List.getElem?_map, List.getElem?_range (by omega)]; rfl)
  have zl : atI svs (-1) = some (.ref z) := by
    have hne : svs ≠ [] := fun e => by rw [e] at sL; simp at sL
    have h1 : svs = svs.dropLast ++ [svs.getLast hne] := (List.dropLast_concat_getLast hne).symm
    have h2 : svs.getLast hne = .ref z := by
      have h3 := List.getLast_eq_getElem hne
      have h4 := (List.getElem?_eq_some_iff.mp z1).2
      rw [h3]
      rw [← h4]
      congr 1
      omega
    rw [h1, h2]
    exact atI_last _ _
  refine ⟨svs, .inl (SqL.of sl1), svs, SqL.of sl1, _, zl, by decide, fun np hnp => ?_⟩
  have c2 : Keep [] H1 (upd H1 np (.tup [.int (svs.length - 1), .ref z])) := Keep.new hnp
  refine .inr ⟨np, plC C C.T, rfl, ⟨z, ?_, (z2.keep e1).keep c2⟩, plC_sm sm (Nat.le_refl _), ?_⟩
  · rw [upd_same, sL]
    simp [plC]
  · dsimp only
    rw [eq_ss, kT, decide_eq_true rfl]
    exact h _ (e1.trans c2)
end
end Wk
end

section
set_option Elab.async false
set_option linter.all false
set_option maxRecDepth 100000
set_option maxHeartbeats 4000000
/-! the walk: the ring of a counter -/
namespace Wk
open PySem PySem.Spec PyProof.Rows L2 StX
local macro_rules | `(tactic| trivial) => `(tactic| try simp only [spInt, spWord, spIdx, spNum, spReg, isi_ii, isi_ib, isi_ss, eq_ii, ne_ii, eq_ss, ne_ss, cxK, wipe, rLenS, rSlL, rSlT, tRevL, tDisp, tPairs, rCat, rRep, rExtend, rAdd, rSub, rSetD, rPop, rAppend, rIxL, rIxT, rSetL, tVar, tC, t2I, tB, tAnd, tOr, tNot, tAndV, tOrV, tNotV, tIf, tNext, tSeq, tDrop, tRet, tRetN, tIfS, tNever, tAsg, tPar, tOp, tUn, rI, rI0, rU, tTest, tChain, tFld, tCon, tNil, tCons, tTup, tLst, tCall, tMeth, tProp, tCB, tSl, tNoPart, tPart, tBM, tBM0, gName, gTup, gNil, gCons, gSub, sFld, L2.start, tDGet, tDIn, tDNotIn, tDNewK, tDNewT, sDPut, tDGet2, and_assoc, exists_and_left, exists_and_right, exists_eq_left', exists_eq_left, exists_eq_right, exists_eq', V.int.injEq, V.str.injEq, V.bl.injEq, V.ref.injEq, List.cons.injEq, and_true, true_and, List.append_nil, List.map_cons, List.map_nil, List.length_cons, List.length_nil, List.cons_append, List.nil_append, Nat.reduceAdd, Nat.reduceSub, List.reduceReplicate, List.getElem?_cons_succ, List.getElem?_cons_zero, List.set_cons_succ, List.set_cons_zero, Option.some.injEq, if_true, Bool.false_eq_true, if_false, decide_eq_true_eq, Bool.not_true, Bool.not_false, Bool.not_eq_true', decide_eq_false_iff_not, decide_true, decide_false, Bool.true_and, Bool.and_true, Bool.false_and, Int.reduceEq, Int.reduceLT, Int.reduceLE, Int.reduceNeg, reduceCtorEq, not_false_eq_true, not_true_eq_false])
/-- the ring of recs from ws -/
noncomputable def cfgW (n e K T : Nat) (recs : List Rec) (ws : List Int) : Sk.Cfg := ⟨n, e, K, T, recs, fun c => stF (itL recs ws c)⟩
theorem itL_st {n e K T : Nat} {recs : List Rec} {ws : List Int} {c : Nat} (hl : (itL recs ws c).length = n) : (plC (cfgW n e K T recs ws) c).2 = itL recs ws c := by
  refine List.ext_getElem (by simp [plC, cfgW, hl]) fun i h1 h2 => ?_
  simp only [plC, cfgW, List.getElem_map, List.getElem_range]
  unfold stF
  rw [List.getD_eq_getElem?_getD, List.getElem?_eq_getElem h2]
  rfl
theorem m0_pl {n e K T : Nat} {recs : List Rec} {ws : List Int} (wl : ws.length = n) (b : Nat) : (cfgW n e K T recs ws).Pl 0 (Sk.ct (m0 n ws) ((n + 2) * b)) := by
  have md : ∀ j, j < n + 2 → ((n + 2) * b + j) % (n + 2) = j := fun j hj => by
    rw [Nat.mul_add_mod, Nat.mod_eq_of_lt hj]
  refine ⟨?_, ?_, fun k hk => ?_⟩
  · show m0 n ws ((n + 2) * b + 0) = 0
    unfold m0
    rw [md 0 (by omega), if_pos rfl]
  · show m0 n ws ((n + 2) * b + (n + 1)) = 0
    unfold m0
    rw [md (n + 1) (by omega), if_neg (by omega), List.getD_eq_getElem?_getD, List.getElem?_eq_none (by omega)]
    rfl
  · show m0 n ws ((n + 2) * b + (1 + k)) = stF ws k
    have hk' : k < n := hk
    unfold m0 stF
    rw [md (1 + k) (by omega), if_neg (by omega), show 1 + k - 1 = k from by omega]
theorem cfg_sys {n e K T : Nat} {recs : List Rec} {ws : List Int} (n1 : 1 ≤ n) (n10 : n ≤ 10) (e3 : e ≤ 3) (K1 : 1 ≤ K) (K16 : K ≤ 16) (hK : (e = 1 ∧ 3 ≤ K) ∨ (e + 1) * (e + 1) ≤ K) (T1000 : T ≤ 1000) (rl : recs.length = n)
    (oks : ∀ r ∈ recs, RecOk n r) (wl : ws.length = n) (wr : ∀ x ∈ ws, 0 ≤ x ∧ x < 1000000) (go : ∀ c, c < T → stF (itL recs ws c) 0 = 0) (fin : stF (itL recs ws T) 0 ≠ 0) :
    Sys (cfgW n e K T recs ws) ⟨m0 n ws, fun _ => 0⟩ ∧ Smalls (cfgW n e K T recs ws) := by
  have iok := itL_ok rl oks wl wr
  have rget : ∀ k, k < n → recs.getD k ([], 0) ∈ recs := fun k hk => by
    rw [List.getD_eq_getElem?_getD, List.getElem?_eq_getElem (by omega)]
    exact List.getElem_mem _
  refine ⟨⟨⟨⟨rl, n10, K16, fun r hr => (oks r hr).len⟩, n1, K1, e3, oks⟩, ⟨n1, rl, fun k hk => (oks _ (rget k hk)).rows, by show T < 999999; omega, by show K < 999999; omega, fun c hc k hk => ?_, go, fin⟩, hK, ⟨fun i hi => ?_⟩⟩, by show n ≤ 100; omega, by show T < 999999; omega, fun c _ k _ => stF_range (iok c).2 k⟩
  · show stF (nxL recs (itL recs ws c)) k = _
    unfold Sk.Cfg.nx
    show _ = if stF (itL recs ws c) 0 ≠ 0 then _ else _
    rw [if_neg (fun z => z (go c hc))]
    unfold nxL
    rw [if_neg (fun z => z (go c hc))]
    have hk' : k < n := hk
    unfold stF
    rw [List.getD_eq_getElem?_getD, List.getElem?_map]
    show _ = Sk.rval (recs.getD k ([], 0)) _
    rw [List.getD_eq_getElem?_getD, List.getElem?_eq_getElem (by omega)]
    rfl
  · have key : ∀ j, (cfgW n e K T recs ws).Pl 0 (Sk.ct (m0 n ws) ((cfgW n e K T recs ws).Ba i + j * (n + 2))) := fun j => by
      have : (cfgW n e K T recs ws).Ba i + j * (n + 2) = (n + 2) * (4 * i + j) := by
        show 4 * (n + 2) * i + j * (n + 2) = _
        rw [Nat.mul_add (n + 2), Nat.mul_comm 4, Nat.mul_assoc, Nat.mul_comm j]
      rw [this]
      exact m0_pl wl _
    have h0 := key 0
    have h1 := key 1
    have h2 := key 2
    have h3 := key 3
    simp only [Nat.zero_mul, Nat.one_mul, Nat.add_zero] at h0 h1 h2 h3
    exact ⟨h0, h1, h2, h3⟩
section
variable {K : PySem.W.Frag} {C : Sk.Cfg} {s0 : Sk.MS} {H H' : Hp} {a : Ad} {d q rp sl : Addr} {m t f : Nat} {Q : VK} {E : XK}
theorem StsC.keep {S : List Addr} (h : StsC H sl C) (k : Keep S H H') (n : sl ∉ S) : StsC H' sl C := by
  obtain ⟨vs, h1, h2⟩ := h
  exact ⟨vs, k.o _ _ h1 n, h2.mono fun _ _ e => StA.keep e k⟩
theorem Wl.obj (W : Wl K C s0 H a d q m t f) : ∃ p : Int, H a.mc = some (.ins (ga K "Machine") a.dx (machF a.g a.rt a.ml a.rg p t f a.ca)) := by
  obtain ⟨ms, p, M, _⟩ := W.mach
  exact ⟨_, M.obj⟩
theorem Wl.get (W : Wl K C s0 H a d q m t f) (g : Nat → Nat → Int) (h : Q (.int (g t f)) H) : spMGet K g [V.ref a.mc] H Q E := by
  obtain ⟨ms, p, M, _⟩ := W.mach
  exact ⟨C, a, ms, p, t, f, rfl, M, h⟩
theorem lim_ok {x L : Int} (h : 1 ≤ L) (h2 : L ≤ 100000) : 1 ≤ (if (if x < L then x else L) > 1 then if x < L then x else L else 1) ∧ (if (if x < L then x else L) > 1 then if x < L then x else L else 1) ≤ 100000 := by
  by_cases a : x < L
  · rw [if_pos a]
    split <;> omega
  · rw [if_neg a]
    split <;> omega
theorem Wl.only (W : Wl K C s0 H a d q m t f) (S : Sys C s0) (hf : f ≤ C.e) (sm : Smalls C) (hr : RecsA H rp C.recs) (hs : StsC H sl C) (h : ∀ H', Wl K C s0 H' a d q m t f → Keep (a.T d q) H H' → Q (.bl true) H') :
    spOnly K [V.ref a.mc, V.ref rp, V.ref sl, V.int (C.e : Nat), V.int (C.K : Nat)] H Q E :=
  ⟨C, s0, a, t, f, rp, sl, rfl, W.mach, S, hf, sm, hr, hs, fun H' k => h H' (W.new k) k.nil⟩
theorem Wl.final (W : Wl K C s0 H a d q m t f) (S : Sys C s0) (hf : f ≤ C.e) (sm : Smalls C) (hs : StsC H sl C) (ht : (C.T + 2 * C.e) * C.L ≤ t) (h : ∀ H', Wl K C s0 H' a d q m t f → Keep (a.T d q) H H' → Q (.bl true) H') :
    spFinal K [V.ref a.mc, V.ref sl] H Q E :=
  ⟨C, s0, a, t, f, sl, rfl, W.mach, S, hf, sm, hs, ht, fun H' k => h H' (W.new k) k.nil⟩
end
end Wk
end

section
set_option Elab.async false
set_option linter.all false
set_option maxRecDepth 100000
set_option maxHeartbeats 4000000
/-! the walk: one plan -/
namespace Wk
open PySem PySem.Spec PyProof.Rows L2 StX
local macro_rules | `(tactic| trivial) => `(tactic| try simp only [spInt, spWord, spIdx, spNum, spReg, isi_ii, isi_ib, isi_ss, eq_ii, ne_ii, eq_ss, ne_ss, cxK, wipe, rLenS, rSlL, rSlT, tRevL, tDisp, tPairs, rCat, rRep, rExtend, rAdd, rSub, rSetD, rPop, rAppend, rIxL, rIxT, rSetL, tVar, tC, t2I, tB, tAnd, tOr, tNot, tAndV, tOrV, tNotV, tIf, tNext, tSeq, tDrop, tRet, tRetN, tIfS, tNever, tAsg, tPar, tOp, tUn, rI, rI0, rU, tTest, tChain, tFld, tCon, tNil, tCons, tTup, tLst, tCall, tMeth, tProp, tCB, tSl, tNoPart, tPart, tBM, tBM0, gName, gTup, gNil, gCons, gSub, sFld, L2.start, tDGet, tDIn, tDNotIn, tDNewK, tDNewT, sDPut, tDGet2, and_assoc, exists_and_left, exists_and_right, exists_eq_left', exists_eq_left, exists_eq_right, exists_eq', V.int.injEq, V.str.injEq, V.bl.injEq, V.ref.injEq, List.cons.injEq, and_true, true_and, List.append_nil, List.map_cons, List.map_nil, List.length_cons, List.length_nil, List.cons_append, List.nil_append, Nat.reduceAdd, Nat.reduceSub, List.reduceReplicate, List.getElem?_cons_succ, List.getElem?_cons_zero, List.set_cons_succ, List.set_cons_zero, Option.some.injEq, if_true, Bool.false_eq_true, if_false, decide_eq_true_eq, Bool.not_true, Bool.not_false, Bool.not_eq_true', decide_eq_false_iff_not, decide_true, decide_false, Bool.true_and, Bool.and_true, Bool.false_and, Int.reduceEq, Int.reduceLT, Int.reduceLE, Int.reduceNeg, reduceCtorEq, not_false_eq_true, not_true_eq_false])
def spPR : Sp := fun vs H Q _ => ∃ (d q : Addr) (m e k : Nat), vs = [V.ref d, V.int (e : Nat), V.int (k : Nat)] ∧ DeckA H d q (m + 2000) ∧ 1 ≤ e ∧ e ≤ 3 ∧ 1 ≤ k ∧ k ≤ 16 ∧ ((e = 1 ∧ 3 ≤ k) ∨ (e + 1) * (e + 1) ≤ k) ∧
  ∀ H', DeckA H' d q m → Q (.bl true) H'
section
variable {P : Program} {w : World} {K : PySem.W.Frag} {mg : Str → Option Value} {base : Heap}
theorem D__law_plan_right (F : Fx K mg) : Dg P w K mg base 9 "_law_plan_right" ["_law_deck_here", "_law_e", "_law_count"] spPR := by
  refine dg_mk F.f__law_plan_right F.g__law_plan_right sc__law_plan_right (fun _ _ _ _ _ _ us hl => match us, hl with | [_, _, _], _ => rfl) (by rintro vs H Q E ⟨_, _, _, _, _, rfl, _⟩; rfl) ?_
  rintro cdv A outer s H vs Q E gd hr ⟨d, q, m, e, k, rfl, dk, e1, e3, k1, k16, hK, h⟩
  obtain ⟨fr, fdr, gr, MR, KBr, FR⟩ := D_Ring_init (P := P) (w := w) (base := base) F
  obtain ⟨fdm, BM, FM⟩ := D_Machine_init (P := P) (w := w) (base := base) F
  obtain ⟨fs, MS, FS⟩ := M_strike (P := P) (w := w) (base := base) F
  refine ⟨_, (pss_cons (ps_asg (sk_call (D__law_counter F) hr (pa_cons (pv 0) (pa_cons (pe_op op_add pe_int (sk_call (D__law_draw F) hr (pa_cons (pv 0) (pa_cons (pe_ix ix_list (pe_lst (pa_cons pe_int (pa_cons pe_int pa_nil))) (pe_callTy call_int1 (by rfl) F.b_int bt_int (pa_cons (pe_cmpR op_gt (pv 1) pe_int (nomark _)) pa_nil)) (fun _ _ => rfl)) pa_nil)))) pa_nil))) (pg_tup (by rfl) (pgs_cons (pg_name (i := 3) sc__law_plan_right.nd rfl (by first | exact .inl rfl | exact .inr rfl)) (pgs_cons (pg_name (i := 4) sc__law_plan_right.nd rfl (by first | exact .inl rfl | exact .inr rfl)) pgs_nil))))
    (pss_cons (ps_par (i := 5) (j := 6) rfl sc__law_plan_right.nd rfl rfl (by decide) rfl rfl (pa_cons (sk_call (D__law_states F) hr (pa_cons (pv 3) (pa_cons (pv 4) pa_nil))) (pa_cons (sk_call (D__law_lengths F) hr (pa_cons (pv 3) (pa_cons (pv 2) pa_nil))) pa_nil)) (by rfl))
    (pss_cons (ps_par (i := 7) (j := 8) rfl sc__law_plan_right.nd rfl rfl (by decide) rfl rfl (pa_cons (pe_make F.k_Machine FM (hr.mono (by decide)) (by rfl) F.g_Machine BM .nil pass0 (pa_cons (pe_makeK MR FR hr (by rfl) F.g_Ring KBr pass0 (pa_cons (pv 3) pa_nil) (pk_cons (pv 1) (pk_cons (pv 2) pk_nil))) (pa_cons (pv 4) pa_nil))) (pa_cons (pe_op op_mul (pe_op op_add (pe_ix ix_tup (pv 6) pe_int (fun _ _ => rfl)) (pe_ix ix_tup (pv 6) pe_int (fun _ _ => rfl))) (pv 2)) pa_nil)) (by rfl))
    (pss_cons (ps_par (i := 9) (j := 10) rfl sc__law_plan_right.nd rfl rfl (by decide) rfl rfl (pa_cons (pe_op op_mul (pe_op op_add (pe_op op_sub (pe_callB call_len_seq (by rfl) F.b_len bt_len (pa_cons (pv 5) pa_nil)) pe_int) (pe_op op_mul pe_int (pv 1))) (pv 8)) (pa_cons (sk_call (D__law_draw F) hr (pa_cons (pv 0) (pa_cons pe_int pa_nil))) pa_nil)) (by rfl))
    (pss_cons (ps_expr (sk_meth F.c_Machine (M_run F) hr (pv 7) (pa_cons (pe_op op_mul (sk_call (D__law_draw F) hr (pa_cons (pv 0) (pa_cons pe_int pa_nil))) (sk_call (D__law_draw F) hr (pa_cons (pv 0) (pa_cons (pv 8) pa_nil)))) pa_nil)))
    (pss_cons (ps_for PassesOwn.never rfl (pi_range1 (by rfl) F.b_range (pa_cons (pv 1) pa_nil)) (pg_name (i := 11) sc__law_plan_right.nd rfl (by first | exact .inl rfl | exact .inr rfl)) (pss_cons (ps_set (i := 12) sc__law_plan_right.nd rfl (by first | exact .inl rfl | exact .inr rfl) (sk_call (D__law_planned F) hr (pa_cons (pv 0) (pa_cons (pv 10) (pa_cons (pv 7) (pa_cons (pe_tup (pa_cons (pv 6) (pa_cons (pe_op op_add (pe_callB call_len_seq (by rfl) F.b_len bt_len (pa_cons (pv 3) pa_nil)) pe_int) (pa_cons (pv 2) pa_nil)))) pa_nil))))))
    (pss_cons (ps_if (pt_not (pt_val (sk_callG (D__law_only_states F) hr gd (pa_cons (pv 7) (pa_cons (pv 3) (pa_cons (pv 5) (pa_cons (pv 1) (pa_cons (pv 2) pa_nil)))))))) (pss_one (ps_ret pe_bl)) pss_nil)
    (pss_cons (ps_expr (pe_methR (pv 7) F.c_Machine MS FS (hr.mono (by decide)) pass0 (pa_cons (pv 12) pa_nil)))
    (pss_cons (ps_if (pt_not (pt_val (sk_callG (D__law_only_states F) hr gd (pa_cons (pv 7) (pa_cons (pv 3) (pa_cons (pv 5) (pa_cons (pv 1) (pa_cons (pv 2) pa_nil)))))))) (pss_one (ps_ret pe_bl)) pss_nil)
    (pss_one (ps_set (i := 10) sc__law_plan_right.nd rfl (by first | exact .inl rfl | exact .inr rfl) (sk_call (D__law_pick F) hr (pa_cons (pv 0) (pa_cons (pe_lst (pa_cons (pv 10) (pa_cons (sk_call (D__law_draw F) hr (pa_cons (pv 0) (pa_cons pe_int pa_nil))) pa_nil))) pa_nil))))))))))
    (pss_cons (ps_for PassesOwn.never rfl (pi_range1 (by rfl) F.b_range (pa_cons pe_int pa_nil)) (pg_name (i := 11) sc__law_plan_right.nd rfl (by first | exact .inl rfl | exact .inr rfl)) (pss_cons (ps_expr (sk_meth F.c_Machine (M_run F) hr (pv 7) (pa_cons (pe_ifExp (pt_cmpR op_lt (sk_prop F.c_Machine (P_executed F) hr (pv 7)) (pv 9) (nomark _)) (sk_call (D__law_draw F) hr (pa_cons (pv 0) (pa_cons (pe_callB (call_max2 rfl) (by rfl) F.b_max bt_max (pa_cons pe_int (pa_cons (pe_callB (call_min2 rfl) (by rfl) F.b_min bt_min (pa_cons (pv 8) (pa_cons (pe_op op_sub (pv 9) (sk_prop F.c_Machine (P_executed F) hr (pv 7))) pa_nil))) pa_nil))) pa_nil))) pe_int) pa_nil)))
    (pss_one (ps_if (pt_not (pt_val (sk_callG (D__law_only_states F) hr gd (pa_cons (pv 7) (pa_cons (pv 3) (pa_cons (pv 5) (pa_cons (pv 1) (pa_cons (pv 2) pa_nil)))))))) (pss_one (ps_ret pe_bl)) pss_nil))))
    (pss_cons (ps_expr (sk_meth F.c_Machine (M_run F) hr (pv 7) (pa_cons (pe_callB (call_max2 rfl) (by rfl) F.b_max bt_max (pa_cons pe_int (pa_cons (pe_op op_sub (pv 9) (sk_prop F.c_Machine (P_executed F) hr (pv 7))) pa_nil))) pa_nil)))
    (pss_cons (ps_for PassesOwn.never rfl (pi_range1 (by rfl) F.b_range (pa_cons pe_int pa_nil)) (pg_name (i := 11) sc__law_plan_right.nd rfl (by first | exact .inl rfl | exact .inr rfl)) (pss_cons (ps_if (PW.pt (pw_or (pt_not (pt_val (sk_callG (D__law_is_final F) hr gd (pa_cons (pv 7) (pa_cons (pv 5) pa_nil))))) (pw_or1 (pt_cmpR op_gt (sk_prop F.c_Machine (P_fault_count F) hr (pv 7)) (pv 1) (nomark _))))) (pss_one (ps_ret pe_bl)) pss_nil)
    (pss_one (ps_expr (sk_meth F.c_Machine (M_run F) hr (pv 7) (pa_cons (sk_call (D__law_draw F) hr (pa_cons (pv 0) (pa_cons (pe_op op_fdivN (pv 8) pe_int) pa_nil))) pa_nil))))))
    (pss_one (ps_ret pe_bl))))))))))), ?_⟩
  refine rd_seq fun D1 k1' r1 => ?_
  trivial
  refine ⟨by decide, fun l5 hl5 => .inr ⟨_, SqL.of upd_same, V.int ((if 1 < e then 3 else 5 : Nat) : Nat), ?_, ?_⟩⟩
  · by_cases z : 1 < e
    · rw [if_pos (by omega), if_pos z]
      rfl
    · rw [if_neg (by omega), if_neg z]
      rfl
  have dk0 : DeckA (upd H l5 (.lst [.int 5, .int 3])) d q (m + 2000) := dk.keep (S := []) (Keep.new hl5) (by simp) (by simp)
  generalize upd H l5 (.lst [.int 5, .int 3]) = H0 at dk0 ⊢
  have lim5 : (if 1 < e then 3 else 5 : Nat) ≤ 5 ∧ 1 ≤ (if 1 < e then 3 else 5 : Nat) := by split <;> omega
  refine draw_at (k := m + 1999) dk0 lim5.2 (by omega) fun x H1 hx dk1 _ => ?_
  obtain ⟨T, hT⟩ : ∃ T, T = 1 + x := ⟨_, rfl⟩
  refine ⟨_, rfl, d, q, m + 999, T, by rw [hT]; rfl, dk1, by omega, by omega, fun n p rp st recs ws H2 n2 n4 hrp rl rok hst wl wr go fin hp dk2 _ => ⟨p, rfl, _, SqT.of hp, rfl, _, _, rfl, _, _, rfl, rfl, k1' _ _ ?_⟩⟩
  clear k1'
  have sys := cfg_sys (e := e) (K := k) (by omega) (by omega) e3 k1 k16 hK (by omega : T ≤ 1000) rl (fun r hr => (rok r hr).1) wl wr go fin
  have iok := itL_ok rl (fun r hr => (rok r hr).1) wl wr
  have T10 : T ≤ 10 := by omega
  clear hT
  obtain ⟨C, hn, he, hk, hT, hrc, S, sm, hpl⟩ : ∃ C : Sk.Cfg, C.n = n ∧ C.e = e ∧ C.K = k ∧ C.T = T ∧ C.recs = recs ∧ Sys C ⟨m0 n ws, fun _ => 0⟩ ∧ Smalls C ∧ ∀ c, (plC C c).2 = itL recs ws c := ⟨cfgW n e k T recs ws, rfl, rfl, rfl, rfl, rfl, sys.1, sys.2, fun c => itL_st (iok c).1⟩
  subst hn he hk hT hrc
  clear sys iok
  have B := S.ok.toFits
  refine rd_seq fun D2 k2' r2 => ?_
  trivial
  refine ⟨C.n, C.T, rp, st, C.recs, ws, rfl, hrp, rl, by omega, by omega, fun r hr => (rok r hr).1, hst, wl, wr, by omega, go, fin, fun sl H3 e3' sl0 hsl => ?_⟩
  have sts3 : StsC H3 sl C := by
    have : (List.range (C.T + 1)).map (fun c => (plC C c).2) = stsL C.recs ws C.T := List.map_congr_left fun c _ => hpl c
    unfold StsC
    rw [this]
    exact hsl
  have dk3 := dk2.keep e3' (by simp) (by simp)
  refine ⟨C, rp, rfl, B, hrp.keep e3', fun lt H4 e4 hlt => k2' _ _ ?_⟩
  clear k2'
  have sts4 := sts3.keep e4 (by simp)
  have dk4 := dk3.keep e4 (by simp) (by simp)
  have hrp4 := (hrp.keep e3').keep e4
  have hst4 := (hst.keep e3').keep e4
  refine rd_seq fun D3 k3' r3 => ?_
  trivial
  refine ⟨_, rfl, _, rfl, _, rfl, rfl, rfl, fun g gx hg hgx ng => ?_⟩
  have cg : Keep [] H4 (upd (upd H4 gx (.own g)) g (.ins (ga K "Ring") gx [])) := (Keep.new hgx).trans (Keep.new (by rw [upd_ne (Ne.symm ng)]; exact hg))
  refine ⟨C, g, gx, rp, rfl, upd_same, S.ok, hrp4.keep cg, fun rl' H5 hR kp => ⟨rfl, _, rfl, ?_⟩⟩
  have c5 : Keep [] H4 H5 := cg.fresh kp (by simpa using hg)
  clear cg kp
  intro mc mx hmc hmx nm
  have cm : Keep [] H5 (upd (upd H5 mx (.own mc)) mc (.ins (ga K "Machine") mx [])) := (Keep.new hmx).trans (Keep.new (by rw [upd_ne (Ne.symm nm)]; exact hmc))
  refine ⟨C, mc, mx, g, rl', st, ws, rfl, upd_same, hR.keep cm (by simp), S.ok, (hst4.keep c5).keep cm, wl, wr, fun a H6 amc aml arg aca M kp => ⟨rfl, ?_⟩⟩
  have c6 : Keep [] H5 H6 := cm.fresh kp (by simpa using hmc)
  have fS : ∀ x, x ∈ a.S → H5 x = none := fun x hx => by
    simp only [Ad.S, List.mem_cons, List.not_mem_nil, or_false] at hx
    rcases hx with rfl | rfl | rfl | rfl
    · rw [amc]
      exact hmc
    · exact cm.free aml
    · exact cm.free arg
    · exact cm.free aca
  clear cm kp
  have nS : ∀ x o, H5 x = some o → x ∉ a.S := fun x o e z => by rw [fS x z] at e; cases e
  have dk5 := dk4.keep c5 (by simp) (by simp)
  have sts5 := sts4.keep c5 (by simp)
  have c46 := c5.trans c6
  have W : Wl K C ⟨m0 C.n ws, fun _ => 0⟩ H6 a d q (m + 999) 0 0 := by
    obtain ⟨_, _, _, g1, g2, _⟩ := id dk5
    exact ⟨⟨_, _, M, .init⟩, dk5.keep c6 (by simp) (by simp), nS _ _ g1, nS _ _ g2⟩
  have sn : sl ∉ a.T d q := by
    obtain ⟨_, g1, _⟩ := id sts5
    obtain ⟨_, _, _, d1, d2, _⟩ := id dk5
    obtain ⟨_, _, _, d1', d2', _⟩ := id dk2
    intro z
    rcases List.mem_cons.mp z with e | z
    · rw [e, d1'] at sl0
      cases sl0
    · rcases List.mem_cons.mp z with e | z
      · rw [e, d2'] at sl0
        cases sl0
      · exact nS _ _ g1 z
  have sts6 := sts5.keep c6 (by simp)
  have hrp6 := hrp4.keep c46
  have hlt6 := c46.t _ _ hlt
  clear M nS fS dk5 sts5 c46 c5 c6 hR
  subst amc
  have svL : ∃ svs, H6 sl = some (.lst svs) ∧ svs.length = C.T + 1 := by
    obtain ⟨svs, s1, s2⟩ := sts6
    exact ⟨svs, s1, by rw [s2.len]; simp⟩
  obtain ⟨svs, sv1, sv2⟩ := svL
  have L14 : 14 ≤ C.L := by
    have h1 := lp_eq C
    have h2 : C.lp ≤ C.K * C.lp := Nat.le_mul_of_pos_left _ k1
    unfold Sk.Cfg.L
    omega
  have L0 := W.L0 S (Nat.zero_le _)
  have k16' := B.k16
  refine ⟨_, SqT.of hlt6, _, rfl, _, SqT.of hlt6, _, rfl, _, rfl, _, rfl, .inr ⟨by omega, by omega⟩, k3' _ _ ?_⟩
  rw [tot_eq]
  clear k3'
  refine rd_seq fun D4 k4' r4 => ?_
  trivial
  have eB : ((svs.length : Int) - 1 + 2 * (C.e : Int)) * C.L = (((C.T + 2 * C.e) * C.L : Nat) : Int) := by
    rw [sv2]
    push_cast
    congr 1
    omega
  refine ⟨svs, .inl (SqL.of sv1), .inl ⟨by decide, by decide⟩, .inr ⟨by omega, by omega⟩, ?_⟩
  rw [eB]
  have bB : (C.T + 2 * C.e) * C.L ≤ 2000000 := Nat.le_trans (Nat.mul_le_mul (show C.T + 2 * C.e ≤ 20 by omega) L0.2) (by decide)
  generalize hbd : (C.T + 2 * C.e) * C.L = bd at bB ⊢
  refine W.draw (m := m + 998) (lim := 5) (by decide) (by decide) fun pl H7 hpl7 W7 e7 => k4' _ _ ?_
  clear k4'
  refine rd_seq fun D5 k5' r5 => ?_
  trivial
  obtain ⟨p7, o7⟩ := W7.obj
  refine ⟨_, _, o7, machF_n3 _ _ _ _ _ _ _ _, ?_⟩
  refine W7.draw (m := m + 997) (lim := 2) (by decide) (by decide) fun x2 H8 hx2 W8 e8 => ?_
  refine W8.draw (m := m + 996) (lim := C.L) L0.1 (by omega) fun y H9 hy W9 e9 => ⟨_, rfl, _, rfl, .inl ⟨by omega, by omega⟩, ?_⟩
  have xy : x2 * y ≤ 1 * 100000 := Nat.mul_le_mul (by omega) (by omega)
  rw [show ((x2 : Int) * (y : Int)) = ((x2 * y : Nat) : Int) from (Int.natCast_mul ..).symm]
  refine W9.run S (Nat.zero_le _) (by omega) fun H10 W10 e10 => k5' _ _ ?_
  clear k5'
  have e6 : Keep (a.T d q) H6 H10 := ((e7.trans e8).trans e9).trans e10
  clear e7 e8 e9 e10 W7 W8 W9 W o7
  generalize 0 + x2 * y = t10 at W10
  refine rd_seq fun D6 k6' r6 => ?_
  refine ⟨_, rfl, (C.e : Nat), rfl, by omega, by omega, ?_⟩
  rw [show ((C.e : Nat) : Int).toNat = C.e from rfl]
  refine for_range (lo := 0) (n := C.e) (fun i σ H' => Keep (a.T d q) H6 H' ∧ (∃ kk t f, kk + 40 * i = m + 900 ∧ f ≤ i ∧ Wl K C ⟨m0 C.n ws, fun _ => 0⟩ H' a d q kk t f) ∧ ∃ (pz : Int) (o1 o2 : Option V), σ = [some (.ref d), some (.int (C.e : Nat)), some (.int (C.K : Nat)), some (.ref rp), some (.ref st), some (.ref sl), some (.ref lt), some (.ref a.mc), some (.int (C.L : Nat)), some (.int (bd : Nat)), some (.int pz), o1, o2]) ⟨e6, ⟨m + 900, t10, 0, rfl, Nat.le_refl _, W10.less (by omega)⟩, _, _, _, rfl⟩ ?_ ?_
  · rintro i σ H1 hi ⟨f1, ⟨kk, t, f, hk, hf, W1⟩, pz, o1, o2, rfl⟩
    rw [Int.zero_add]
    have hrp1 := hrp6.keep f1
    have sts1 := sts6.keep f1 sn
    have hlt1 := f1.t _ _ hlt6
    obtain ⟨kk, rfl⟩ : ∃ k', kk = k' + 40 := ⟨kk - 40, by omega⟩
    refine rd_seq fun D7 k7 r7 => ?_
    trivial
    obtain ⟨rvs, hr1, hr2⟩ := id hrp1
    refine ⟨_, .inr (SqT.of hr1), by decide, fun kt hkt => ?_⟩
    have ck : Keep [] H1 (upd H1 kt (.tup [.ref lt, .int (rvs.length + 2), .int (C.K : Nat)])) := Keep.new hkt
    refine ⟨C, _, a, d, q, lt, kt, kk + 10, t, f, pz, rfl, W1.new ck, S, by omega, by rw [upd_same, hr2.len, B.len]; rfl, ck.t _ _ hlt1, fun t2 fp fl H2 W2 hfl okf e2 => k7 _ _ ?_⟩
    clear k7
    have f2 := f1.trans (ck.nil.trans e2)
    clear ck e2 f1 hr1 hr2 hkt
    refine rd_seq fun D8 k8 r8 => ?_
    trivial
    refine W2.only S (by omega) sm (hrp6.keep f2) (sts6.keep f2 sn) fun H3 W3 e3 => ⟨true, rfl, iteF' (fun z => by cases z) (k8 _ _ ?_)⟩
    clear k8
    refine rd_seq fun D9 k9 r9 => ?_
    trivial
    obtain ⟨p3, o3⟩ := W3.obj
    refine ⟨_, rfl, a.mc, _, _, rfl, o3, machF_n4 _ _ _ _ _ _ _ _, _, rfl, C, _, a, t2, f, fp, fl, rfl, W3.mach, S.ok, by omega, hfl.keep e3, okf, fun f' H4 l1 l2 M4 e4 => k9 _ _ ?_⟩
    clear k9
    have W4 := W3.runs e4 M4
    have f4 := (f2.trans e3).trans (e4.mono (a.tS d q))
    clear e3 e4 M4 o3 hfl
    refine rd_seq fun D10 k10 r10 => ?_
    trivial
    refine W4.only S (by omega) sm (hrp6.keep f4) (sts6.keep f4 sn) fun H5 W5 e5 => ⟨true, rfl, iteF' (fun z => by cases z) (k10 _ _ ?_)⟩
    clear k10
    trivial
    refine W5.draw (m := kk + 9) (lim := 5) (by decide) (by decide) fun x H7 hx W7 e7 => ⟨by decide, fun lp hlp => ?_⟩
    have lpn : lp ∉ [d, q] := by
      obtain ⟨_, _, _, g1, g2, _⟩ := W7.deck
      intro z
      rcases List.mem_cons.mp z with z | z
      · rw [z, g1] at hlp; cases hlp
      · rcases List.mem_cons.mp z with z | z
        · rw [z, g2] at hlp; cases hlp
        · cases z
    refine ((W7.new (Keep.new hlp (o := .lst [.int pz, .int x]))).less (m' := kk + 8 + 1) (Nat.le_refl _)).pick upd_same lpn (by simp) (by show 2 < 1000; decide) fun v H8 hv W8 e8 => ?_
    have f8 : Keep (a.T d q) H6 H8 := ((f4.trans e5).trans e7).trans ((Keep.new hlp).trans e8)
    refine ⟨f8, ⟨kk, by omega, _, f', by omega, W8.less (by omega)⟩, ?_⟩
    simp only [List.mem_cons, List.not_mem_nil, or_false] at hv
    rcases hv with rfl | rfl
    · exact ⟨_, rfl⟩
    · exact ⟨_, rfl⟩
  · rintro σ H1 ⟨f1, ⟨kk, t, f, hk, hf, W1⟩, pz, o1, o2, rfl⟩
    refine k6' _ _ ?_
    clear k6'
    refine rd_seq fun D7 k7 r7 => ?_
    refine ⟨6, rfl, by decide, by decide, ?_⟩
    refine for_range (lo := 0) (n := 6) (fun i σ H' => Keep (a.T d q) H6 H' ∧ (∃ kk t f, kk + i = m + 600 ∧ f ≤ C.e ∧ Wl K C ⟨m0 C.n ws, fun _ => 0⟩ H' a d q kk t f) ∧ ∃ (o1 o2 o3 : Option V), σ = [some (.ref d), some (.int (C.e : Nat)), some (.int (C.K : Nat)), some (.ref rp), some (.ref st), some (.ref sl), some (.ref lt), some (.ref a.mc), some (.int (C.L : Nat)), some (.int (bd : Nat)), o1, o2, o3]) ⟨f1, ⟨m + 600, t, f, rfl, hf, W1.less (by omega)⟩, _, _, _, rfl⟩ ?_ ?_
    · clear hk hf W1 f1
      rintro i σ H1 hi ⟨f1, ⟨kk, t, f, hk, hf, W1⟩, o1, o2, o3, rfl⟩
      rw [Int.zero_add]
      obtain ⟨kk, rfl⟩ : ∃ k', kk = k' + 1 := ⟨kk - 1, by omega⟩
      refine rd_seq fun D8 k8 r8 => ?_
      trivial
      obtain ⟨p3, o3⟩ := W1.obj
      refine ⟨_, _, o3, machF_n3 _ _ _ _ _ _ _ _, ⟨_, _, o3⟩, W1.get _ ⟨_, rfl, ?_⟩⟩
      by_cases lt : ((t : Nat) : Int) < (bd : Nat)
      · rw [if_pos lt]
        refine ⟨⟨_, _, o3⟩, W1.get _ ⟨_, rfl, ?_⟩⟩
        have lok := lim_ok (x := ((bd : Nat) : Int) - (t : Nat)) (L := (C.L : Nat)) (by omega) (by omega)
        generalize (if (if ((bd : Nat) : Int) - (t : Nat) < (C.L : Nat) then ((bd : Nat) : Int) - (t : Nat) else (C.L : Nat)) > 1 then if ((bd : Nat) : Int) - (t : Nat) < (C.L : Nat) then ((bd : Nat) : Int) - (t : Nat) else (C.L : Nat) else 1) = lim at lok ⊢
        refine W1.drawI (m := kk) lok.1 (by omega) fun y H2 hy W2 e2 => W2.run S hf (by omega) fun H3 W3 e3 => k8 _ _ ?_
        clear k8
        have f3 := (f1.trans e2).trans e3
        trivial
        refine W3.only S hf sm (hrp6.keep f3) (sts6.keep f3 sn) fun H4 W4 e4 => ⟨true, rfl, iteF' (fun z => by cases z) ⟨f3.trans e4, kk, by omega, _, f, hf, W4⟩⟩
      · rw [if_neg lt]
        refine (W1.less (m' := kk) (by omega)).run (k := 0) S hf (by decide) fun H3 W3 e3 => k8 _ _ ?_
        clear k8
        have f3 := f1.trans e3
        trivial
        refine W3.only S hf sm (hrp6.keep f3) (sts6.keep f3 sn) fun H4 W4 e4 => ⟨true, rfl, iteF' (fun z => by cases z) ⟨f3.trans e4, kk, by omega, _, f, hf, W4⟩⟩
    · clear hk hf W1 f1
      rintro σ H1 ⟨f1, ⟨kk, t, f, hk, hf, W1⟩, o1, o2, o3, rfl⟩
      refine k7 _ _ ?_
      clear k7
      refine rd_seq fun D8 k8 r8 => ?_
      trivial
      obtain ⟨p3, o3⟩ := W1.obj
      refine ⟨_, _, o3, machF_n3 _ _ _ _ _ _ _ _, ⟨_, _, o3⟩, W1.get _ ⟨_, rfl, ?_⟩⟩
      obtain ⟨y, hy, hyb, hy2⟩ : ∃ y : Nat, (if ((bd : Nat) : Int) - (t : Nat) > 0 then ((bd : Nat) : Int) - (t : Nat) else 0) = (y : Int) ∧ bd ≤ t + y ∧ y ≤ bd := by
        by_cases z : ((bd : Nat) : Int) - (t : Nat) > 0
        · rw [if_pos z]
          exact ⟨bd - t, by omega, by omega, by omega⟩
        · rw [if_neg z]
          exact ⟨0, rfl, by omega, by omega⟩
      rw [hy]
      refine W1.run S hf (by omega) fun H2 W2 e2 => k8 _ _ ?_
      clear k8
      have f2 := f1.trans e2
      refine rd_seq fun D9 k9 r9 => ?_
      refine ⟨6, rfl, by decide, by decide, ?_⟩
      refine for_range (lo := 0) (n := 6) (fun i σ H' => Keep (a.T d q) H6 H' ∧ (∃ kk t, kk + i = m + 500 ∧ bd ≤ t ∧ Wl K C ⟨m0 C.n ws, fun _ => 0⟩ H' a d q kk t f) ∧ ∃ (o1 o2 o3 : Option V), σ = [some (.ref d), some (.int (C.e : Nat)), some (.int (C.K : Nat)), some (.ref rp), some (.ref st), some (.ref sl), some (.ref lt), some (.ref a.mc), some (.int (C.L : Nat)), some (.int (bd : Nat)), o1, o2, o3]) ⟨f2, ⟨m + 500, _, rfl, hyb, W2.less (by omega)⟩, _, _, _, rfl⟩ ?_ ?_
      · clear hk W1 f1 W2 f2 e2 o3
        rintro i σ H1 hi ⟨f1, ⟨kk, t, hk, ht, W1⟩, o1, o2, o3, rfl⟩
        rw [Int.zero_add]
        obtain ⟨kk, rfl⟩ : ∃ k', kk = k' + 1 := ⟨kk - 1, by omega⟩
        refine rd_seq fun D10 k10 r10 => ?_
        trivial
        refine W1.final S hf sm (sts6.keep f1 sn) (by rw [hbd]; exact ht) fun H2 W2 e2 => ?_
        obtain ⟨p2, o2'⟩ := W2.obj
        refine ⟨true, rfl, iteF' (fun z => by cases z) ⟨⟨_, _, o2'⟩, W2.get (fun _ f => (f : Int)) ⟨_, rfl, iteF' (by omega) (k10 _ _ ?_)⟩⟩⟩
        clear k10
        trivial
        refine ⟨_, _, o2', machF_n3 _ _ _ _ _ _ _ _, ⟨by decide, by decide⟩, ?_⟩
        rw [Int.fdiv_eq_ediv_of_nonneg _ (by decide)]
        refine W2.drawI (m := kk) (by omega) (by omega) fun y H3 hy W3 e3 => W3.run S hf (by omega) fun H4 W4 e4 => ⟨((f1.trans e2).trans e3).trans e4, kk, by omega, _, by omega, W4⟩
      · rintro σ H1 ⟨f1, ⟨kk, t, hk, ht, W1⟩, o1, o2, o3, rfl⟩
        refine k9 _ _ ?_
        exact h _ (W1.deck.less (by omega))
end
end Wk
end

section
set_option Elab.async false
set_option linter.all false
set_option maxRecDepth 100000
set_option maxHeartbeats 4000000
/-! the walk: the law -/
namespace Wk
open PySem PySem.Spec PyProof.Rows L2 StX
local macro_rules | `(tactic| trivial) => `(tactic| try simp only [spInt, spWord, spIdx, spNum, spReg, isi_ii, isi_ib, isi_ss, eq_ii, ne_ii, eq_ss, ne_ss, cxK, wipe, rLenS, rSlL, rSlT, tRevL, tDisp, tPairs, rCat, rRep, rExtend, rAdd, rSub, rSetD, rPop, rAppend, rIxL, rIxT, rSetL, tVar, tC, t2I, tB, tAnd, tOr, tNot, tAndV, tOrV, tNotV, tIf, tNext, tSeq, tDrop, tRet, tRetN, tIfS, tNever, tAsg, tPar, tOp, tUn, rI, rI0, rU, tTest, tChain, tFld, tCon, tNil, tCons, tTup, tLst, tCall, tMeth, tProp, tCB, tSl, tNoPart, tPart, tBM, tBM0, gName, gTup, gNil, gCons, gSub, sFld, L2.start, tDGet, tDIn, tDNotIn, tDNewK, tDNewT, sDPut, tDGet2, and_assoc, exists_and_left, exists_and_right, exists_eq_left', exists_eq_left, exists_eq_right, exists_eq', V.int.injEq, V.str.injEq, V.bl.injEq, V.ref.injEq, List.cons.injEq, and_true, true_and, List.append_nil, List.map_cons, List.map_nil, List.length_cons, List.length_nil, List.cons_append, List.nil_append, Nat.reduceAdd, Nat.reduceSub, List.reduceReplicate, List.getElem?_cons_succ, List.getElem?_cons_zero, List.set_cons_succ, List.set_cons_zero, Option.some.injEq, if_true, Bool.false_eq_true, if_false, decide_eq_true_eq, Bool.not_true, Bool.not_false, Bool.not_eq_true', decide_eq_false_iff_not, decide_true, decide_false, Bool.true_and, Bool.and_true, Bool.false_and, Int.reduceEq, Int.reduceLT, Int.reduceLE, Int.reduceNeg, reduceCtorEq, not_false_eq_true, not_true_eq_false])
def spLaw (K : PySem.W.Frag) : Sp := fun vs H Q _ => ∃ (a : Addr) (ns : List Int), vs = [V.ref a] ∧ SqL K H a (ns.map V.int) ∧ ns.length ≤ 63 ∧ ∀ H', Q (.bl true) H'
section
variable {P : Program} {w : World} {K : PySem.W.Frag} {mg : Str → Option Value} {base : Heap}
theorem D_law (F : Fx K mg) : Dg P w K mg base 10 "law" ["_law_script"] (spLaw K) := by
  refine dg_mk F.f_law F.g_law sc_law (fun _ _ _ _ _ _ us hl => match us, hl with | [_], _ => rfl) (by rintro vs H Q E ⟨_, _, rfl, _⟩; rfl) ?_
  rintro cdv A outer s H vs Q E gd hr ⟨a, ns, rfl, hl, hn, h⟩
  refine ⟨_, (pss_cons (ps_set (i := 1) sc_law.nd rfl (by first | exact .inl rfl | exact .inr rfl) (sk_call (D__law_deck F) hr (pa_cons (pv 0) pa_nil)))
    (pss_cons (ps_for PassesOwn.never rfl (pi_range1 (by rfl) F.b_range (pa_cons pe_int pa_nil)) (pg_name (i := 2) sc_law.nd rfl (by first | exact .inl rfl | exact .inr rfl)) (pss_one (ps_if (pt_not (pt_val (sk_callG (D__law_plan_right F) hr gd (pa_cons (pv 1) (pa_cons pe_int (pa_cons (sk_call (D__law_pick F) hr (pa_cons (pv 1) (pa_cons (pe_lst (pa_cons pe_int (pa_cons pe_int (pa_cons pe_int (pa_cons pe_int (pa_cons pe_int pa_nil)))))) pa_nil))) pa_nil)))))) (pss_one (ps_ret pe_bl)) pss_nil)))
    (pss_one (ps_ret (sk_callG (D__law_plan_right F) hr gd (pa_cons (pv 1) (pa_cons pe_int (pa_cons pe_int pa_nil)))))))), ?_⟩
  refine rd_seq fun D1 k1' r1 => ?_
  trivial
  refine ⟨a, ns, rfl, hl, hn, fun d q H1 _ _ dk _ => k1' _ _ ?_⟩
  clear k1'
  refine rd_seq fun D2 k2' r2 => ?_
  refine ⟨6, rfl, by decide, by decide, ?_⟩
  obtain ⟨M, hM⟩ : ∃ M, 1000000000 = M + 6 * 3000 + 2000 := ⟨999980000, rfl⟩
  rw [hM] at dk
  refine for_range (lo := 0) (n := 6) (fun i σ H' => (∃ m, m + i * 3000 = M + 6 * 3000 + 2000 ∧ DeckA H' d q m) ∧ ∃ (o : Option V), σ = [some (.ref a), some (.ref d), o]) ⟨⟨_, by omega, dk⟩, _, rfl⟩ ?_ ?_
  · rintro i σ H2 hi ⟨⟨m, hm, dk⟩, o, rfl⟩
    rw [Int.zero_add]
    obtain ⟨m, rfl⟩ : ∃ m', m = m' + 3000 := ⟨m - 3000, by omega⟩
    trivial
    refine ⟨by decide, fun lp hlp => ?_⟩
    have lpn : lp ∉ [d, q] := by
      obtain ⟨_, _, _, g1, g2, _⟩ := id dk
      intro z
      rcases List.mem_cons.mp z with z | z
      · rw [z, g1] at hlp; cases hlp
      · rcases List.mem_cons.mp z with z | z
        · rw [z, g2] at hlp; cases hlp
        · cases z
    refine pick_at (k := m + 2999) (dk.keep (S := []) (Keep.new hlp) (by simp) (by simp)) upd_same lpn (by simp) (by decide) fun v H3 hv dk3 _ => ?_
    obtain ⟨k, rfl, k3, k5⟩ : ∃ k : Nat, v = V.int k ∧ 3 ≤ k ∧ k ≤ 5 := by
      simp only [List.mem_cons, List.not_mem_nil, or_false] at hv
      rcases hv with rfl | rfl | rfl | rfl | rfl
      · exact ⟨3, rfl, by decide, by decide⟩
      · exact ⟨3, rfl, by decide, by decide⟩
      · exact ⟨3, rfl, by decide, by decide⟩
      · exact ⟨4, rfl, by decide, by decide⟩
      · exact ⟨5, rfl, by decide, by decide⟩
    refine ⟨d, q, m, 1, k, rfl, dk3.less (by omega), by decide, by decide, by omega, by omega, .inl ⟨rfl, k3⟩, fun H4 dk4 => ⟨true, rfl, iteF' (fun z => by cases z) ⟨m, by omega, dk4⟩⟩⟩
  · rintro σ H2 ⟨⟨m, hm, dk⟩, o, rfl⟩
    refine k2' _ _ ?_
    exact ⟨_, rfl, d, q, M, 2, 9, rfl, dk.less (by omega), by decide, by decide, by decide, by decide, .inr (by decide), fun H' _ => h H'⟩
end
end Wk
end

section
set_option Elab.async false
set_option linter.all false
set_option maxRecDepth 100000
set_option maxHeartbeats 4000000
/-! the end: a law that is called where no repr is under way -/
namespace Wk
open PySem PySem.Spec PyProof.Rows L2
theorem end_call {P : Program} {w : World} {K : PySem.W.Frag} {mg mb : Str → Option Value} {k : Nat} {fa a : Addr} {x : Str} {sp : Sp} {σ : Shared} {vs : List Value} {ns : List Int}
    (kin : K.In σ.heap) (gl : σ.heap.Ns mainGlobals mg) (bu : σ.heap.Ns builtinsNs mb) (bb : ∀ y : Str, y ≠ "__name__" → mb y = bootBuiltins y) (nol : σ.heap.NoLimit) (gens : σ.gens = #[])
    (at_ : σ.heap.get? a = some { cls := .type "list", data := .seq vs.toArray }) (nums : IntsAre vs ns) (few : ns.length ≤ sizeLine) (room : Room k callerA)
    (F : ∀ base : Heap, K.In base → base.Ns mainGlobals mg → ∃ fd, Binds K fd [x] [] ∧ FnG P w K mg base k fa fd [x] sp)
    (keeps : ∀ H : Hp, SqL K H a (ns.map V.int) → sp [.ref a] H (fun v _ => v = .bl true) fun _ _ _ => False) :
    codeAny (model P w) callerA (.call (.ref fa) ⟨[.ref a], []⟩) (fun r s' => r = .ok (.ret (.bool true)) ∧ OldK σ.heap s'.heap ∧ s'.os = σ.os ∧ AllBare s'.gens) σ := by
  have vv := vals_ints nums
  have vlen := nums.length
  -- the script is tracked, unless it is an object of the top
  obtain ⟨H, def_⟩ : ∃ H : Hp, ∀ b, H b = if b = a ∧ K.lookup a = none then some (.frz { cls := .type "list", data := .seq vs.toArray } (.lst (ns.map V.int))) else none := ⟨_, fun _ => rfl⟩
  have yes : ∀ b u, H b = some u → b = a ∧ K.lookup a = none ∧ u = .frz { cls := .type "list", data := .seq vs.toArray } (.lst (ns.map V.int)) := fun b u e => by
    rw [def_] at e
    by_cases z : b = a ∧ K.lookup a = none
    · rw [if_pos z] at e
      exact ⟨z.1, z.2, (Option.some.inj e).symm⟩
    · rw [if_neg z] at e
      cases e
  have under : ∀ b o, σ.heap.get? b = some o → (b = a → K.lookup a = none → False) → (hidT σ.heap H).get? b = some o := fun b o e n => hidT_get e (by rw [def_, if_neg fun z => n z.1 z.2])
  have names : ∀ b m, σ.heap.Ns b m → (hidT σ.heap H).Ns b m := fun b m q => by
    obtain ⟨o, es, ep, q1, q2, q3⟩ := q
    refine ⟨o, es, ep, under b o q1 fun z _ => ?_, q2, q3⟩
    rw [z, at_] at q1
    rw [← Option.some.inj q1] at q2
    exact nomatch (show Data.seq vs.toArray _ = Data.dict es ep from q2)
  have inBase : K.In (hidT σ.heap H) := fun b o e => under b o (kin b o e) fun z y => by
    rw [z, y] at e
    cases e
  have script : SqL K H a (ns.map V.int) := by
    cases q : K.lookup a with
    | none => exact .inl (.inr ⟨_, by rw [def_, if_pos ⟨rfl, q⟩]⟩)
    | some o =>
      have e := kin a o q
      rw [at_] at e
      rw [← Option.some.inj e] at q
      exact .inr ⟨_, vs.toArray, _, q, rfl, rfl, rfl, by rw [List.size_toArray, vlen]; exact few, by simpa using vv⟩
  have heapOk : HOk P w H σ.heap := fun b u e => by
    obtain ⟨rfl, _, rfl⟩ := yes b u e
    exact ⟨at_, by rw [List.length_map]; exact few, vs, _, vv, at_⟩
  obtain ⟨ml, nol1, nol2⟩ := nol
  have start : Env0 P w K mg (hidT σ.heap H) callerA [] σ H := ⟨rfl, ⟨inBase, names _ _ gl, ⟨mb, names _ _ bu, bb⟩, ⟨ml, names _ _ nol1, nol2⟩⟩, fun b o e => of_hidT e, Nat.le_of_eq (hidT_size _ _), trivial, (fun b (z : b ∈ ([] : List Addr)) => by cases z), heapOk, .of_eq gens⟩
  obtain ⟨fd, bind, law⟩ := F _ inBase (names _ _ gl)
  have bound := bind σ [.ref a] kin rfl
  rw [List.append_nil] at bound
  refine codeAny_mono (law.go callerA [] σ H ⟨[.ref a], []⟩ [.ref a] [.ref a] _ _ room rfl start bound (.cons rfl .nil) (keeps H script)) ?_
  rintro (er | fl) s' out
  · exact False.elim out
  cases fl with
  | ret u =>
    obtain ⟨v, H', os, bare, un, ok', rel, rfl⟩ := out
    cases (show u = Value.bool true from rel)
    refine ⟨rfl, OldK.of_keep fun b o e => ?_, os, bare⟩
    cases q : H b with
    | none => exact un.keep b o e q (fun (z : b ∈ ([] : List Addr)) => by cases z) (by simp)
    | some u =>
      obtain ⟨rfl, _, rfl⟩ := yes b u q
      rw [at_] at e
      rw [← Option.some.inj e]
      exact (ok' _ _ (un.frzs _ _ _ q)).1
  | next => exact False.elim out
  | brk => exact False.elim out
  | cont => exact False.elim out
theorem end_walk {l : PySem.W.OpenLaw} {n k : Nat} {q : Program} {loose : List Str} {XP : (Str → Option Value) → Heap → Prop} {YP : World → Heap → Prop} {d : DefRec} {x : Str}
    (most : l.most = some n) (fits : n ≤ sizeLine) (dfl : d.params.defaults = []) (room : Room k callerA)
    (F : ∀ (w : World) (mg : Str → Option Value) (fa : Addr) (h : Heap), YP w h → h.Ns mainGlobals mg → mg d.name = some (.ref fa) →
      ∃ (K : PySem.W.Frag) (sp : Sp), K.In h ∧
        (∀ (H : Hp) (a : Addr) (ns : List Int), ns.length ≤ n → SqL K H a (ns.map V.int) → sp [.ref a] H (fun v _ => v = .bl true) fun _ _ _ => False) ∧
        ∀ base : Heap, K.In base → base.Ns mainGlobals mg → ∃ fd, Binds K fd [x] [] ∧ FnG l.prog w K mg base k fa fd [x] sp) :
    PySem.W.WalkO q loose XP YP l.row.toRowW d [] (fun f vs => PySem.call f vs) := by
  refine Att.attach_call most dfl fun w _ σ mg mb fa o pm cd doc a vs ns T Y _ _ _ hm at_ nums len gens => ?_
  obtain ⟨K, sp, kin, keeps, all⟩ := F w mg fa _ Y T.T.g hm
  exact end_call kin T.T.g T.T.b T.T.builtins T.T.nolimit gens at_ nums (Nat.le_trans len fits) room all fun H z => keeps H a ns len z
end Wk
end

open PySem PySem.W PySem.Calls PyProof.Rows
set_option Elab.async false
set_option maxRecDepth 100000 in
set_option maxHeartbeats 0 in
theorem PySem.Challenge.cw_struckring_k43_whole_faults_by_plan_holds : PySem.Challenge.rw_struckring_k43_whole_faults_by_plan.Holds := by
  w_on; o_law
  refine HandSHeadRun.head_any (r := WkTop.R) (q := WkTop.qv) (H := Wk.hkH) (ob := WkTop.obR) (M := 8000) (loose := WkTop.names) (d := HandSHeadRun.topDef WkTop.R.prog 97) (kwd := []) WkTop.obR_eq
    (by kernel_rfl) (fun s => by kernel_rfl) WkTop.run (by kernel_rfl) (by kernel_rfl) (by kernel_rfl) (by rfl) (by first | assumption | decide +kernel) (by decide +kernel) ⟨rfl, rfl, rfl, rfl, rfl, by decide +kernel⟩ ?hw ?hc
  case hw => w_witness2
  case hc =>
    refine Wk.end_walk (l := PySem.Challenge.rw_struckring_k43_whole_faults_by_plan) (n := 63) (k := 10) (x := "_law_script") rfl (by decide) (by kernel_rfl) ⟨rfl, by decide, by decide⟩ ?_
    intro w mg fa h Y G hm
    obtain ⟨K, kin, c⟩ := Y
    have hl : mg ("law" : PySem.Str) = some (.ref fa) := by
      rw [← show (HandSHeadRun.topDef WkTop.R.prog 97).name = ("law" : PySem.Str) from by kernel_rfl]
      exact hm
    have F := Wk.Fx.of kin G c
    refine ⟨K, Wk.spLaw K, kin, fun H a ns few seq => ⟨a, ns, rfl, seq, few, fun _ => rfl⟩, fun base _ _ => ?_⟩
    obtain ⟨f, fd, e1, _, e3, e4⟩ := (Wk.D_law (P := PySem.Challenge.rw_struckring_k43_whole_faults_by_plan.prog) (w := w) (base := base) F).ex
    rw [hl] at e1
    cases e1
    exact ⟨fd, e3, e4⟩
