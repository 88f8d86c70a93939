import PyProof.Rows.All
import Wide.All
import OpenK.AllK
import Wide.FinOn
import KE.KStateDown
import Lean
import HandS.ForMost
import HandS.Wide
import HandS.WideBits
import HandS.Style
import HandS.IsInst
import HandS.Conv
import HandS.Defaults
import HandS.Exc
import HandS.Evl
import HandS.Flow
import HandS.Head0
import HandS.Head1
import HandS.Head2
import HandS.HeadEnd
import HandS.HeadHook1
import HandS.HeadHook2
import HandS.HeadHook3
import HandS.HeadHook4
import PySem.Challenge.RW_formkeep_k45_whole_fits_stand_in_lengths
import KE.OsSort
set_option Elab.async false
set_option linter.all false
set_option maxRecDepth 100000
set_option maxHeartbeats 4000000
namespace Fk
open PySem PySem.Spec PyProof.Rows L2
/-! ### the text by places -/
def top (i : Nat) : Stmt := PySem.Challenge.pw_formkeep_k45_whole_fits_stand_in_lengths.main.body.getD i (.Pass ⟨0, 0, 0, 0⟩)
abbrev s_told_fields : Stmt := top 2
abbrev s_default_of : Stmt := top 3
abbrev s_seven_bytes : Stmt := top 4
abbrev s_mark_width : Stmt := top 5
abbrev s_text_width : Stmt := top 6
abbrev s_field_width : Stmt := top 7
abbrev s_case_fields : Stmt := top 8
abbrev s_width_for : Stmt := top 9
abbrev s_control_number : Stmt := top 10
abbrev s_filled_of : Stmt := top 11
abbrev s_field_full : Stmt := top 12
abbrev s_list_full : Stmt := top 13
abbrev s_full : Stmt := top 14
abbrev s_order_of_sevens : Stmt := top 16
abbrev s_sevens : Stmt := top 17
abbrev s_cut : Stmt := top 23
abbrev s_members : Stmt := top 24
abbrev s_summed : Stmt := top 25
abbrev s_times_summed : Stmt := top 26
abbrev s_steered_by : Stmt := top 27
abbrev s_place_of : Stmt := top 28
abbrev s_whole_bytes : Stmt := top 29
abbrev s_with_bytes_behind : Stmt := top 30
abbrev s_has_default : Stmt := top 31
abbrev s_inner_lengths : Stmt := top 32
abbrev s_possible : Stmt := top 33
abbrev s_lets_of : Stmt := top 34
abbrev s_let_of : Stmt := top 35
abbrev s_text_lengths : Stmt := top 36
abbrev s_row_lengths : Stmt := top 37
abbrev s_case_lengths : Stmt := top 38
abbrev s_lengths_of : Stmt := top 39
abbrev s_list_lengths : Stmt := top 40
abbrev s_is_number : Stmt := top 43
abbrev s_further : Stmt := top 44
abbrev s_lets_for : Stmt := top 45
abbrev s_number_misfit : Stmt := top 46
abbrev s_fits_count : Stmt := top 47
abbrev s_text_misfit : Stmt := top 48
abbrev s_row_misfit : Stmt := top 49
abbrev s_choice_misfit : Stmt := top 50
abbrev s_maybe_misfit : Stmt := top 51
abbrev s_sized_misfit : Stmt := top 52
abbrev s_field_misfit : Stmt := top 53
abbrev s_lacking : Stmt := top 54
abbrev s_is_rest : Stmt := top 55
abbrev s_keys_fit : Stmt := top 56
abbrev s_list_misfit : Stmt := top 57
abbrev s_misfit : Stmt := top 58
abbrev s_power_of : Stmt := top 60
abbrev s_Field_init : Stmt := inClass (top 61) 0
abbrev s_Field_kind : Stmt := inClass (top 61) 1
abbrev s_Field_steers : Stmt := inClass (top 61) 3
abbrev s_Number_init : Stmt := inClass (top 62) 0
abbrev s_Number_kind : Stmt := inClass (top 62) 1
abbrev s_Number_least : Stmt := inClass (top 62) 2
abbrev s_Number_greatest : Stmt := inClass (top 62) 3
abbrev s_Seven_init : Stmt := inClass (top 63) 0
abbrev s_Seven_kind : Stmt := inClass (top 63) 1
abbrev s_Text_init : Stmt := inClass (top 64) 0
abbrev s_Text_kind : Stmt := inClass (top 64) 1
abbrev s_Text_steers : Stmt := inClass (top 64) 2
abbrev s_Row_init : Stmt := inClass (top 65) 0
abbrev s_Row_kind : Stmt := inClass (top 65) 1
abbrev s_Row_steers : Stmt := inClass (top 65) 3
abbrev s_Choice_init : Stmt := inClass (top 66) 0
abbrev s_Choice_kind : Stmt := inClass (top 66) 1
abbrev s_Choice_steers : Stmt := inClass (top 66) 3
abbrev s_Maybe_init : Stmt := inClass (top 67) 0
abbrev s_Maybe_kind : Stmt := inClass (top 67) 1
abbrev s_Maybe_steers : Stmt := inClass (top 67) 3
abbrev s_Group_init : Stmt := inClass (top 68) 0
abbrev s_Group_kind : Stmt := inClass (top 68) 1
abbrev s_Sized_init : Stmt := inClass (top 69) 0
abbrev s_Sized_kind : Stmt := inClass (top 69) 1
abbrev s_Sized_steers : Stmt := inClass (top 69) 3
abbrev s_Check_init : Stmt := inClass (top 70) 0
abbrev s_Check_kind : Stmt := inClass (top 70) 1
abbrev s_Spot_init : Stmt := inClass (top 71) 0
abbrev s_Spot_kind : Stmt := inClass (top 71) 1
abbrev s_Layout_init : Stmt := inClass (top 73) 0
abbrev s__law_cell_at : Stmt := top 75
abbrev s__law_next : Stmt := top 76
abbrev s__law_name : Stmt := top 77
abbrev s__law_number : Stmt := top 78
abbrev s__law_control : Stmt := top 79
abbrev s__law_leaf : Stmt := top 80
abbrev s__law_row : Stmt := top 81
abbrev s__law_choice : Stmt := top 82
abbrev s__law_sized : Stmt := top 83
abbrev s__law_grow : Stmt := top 84
abbrev s__law_unit : Stmt := top 85
abbrev s__law_list : Stmt := top 86
abbrev s__law_layout : Stmt := top 87
abbrev s__law_most : Stmt := top 88
abbrev s__law_greatest : Stmt := top 89
abbrev s__law_told : Stmt := top 90
abbrev s__law_let : Stmt := top 91
abbrev s__law_text : Stmt := top 92
abbrev s__law_count : Stmt := top 93
abbrev s__law_value : Stmt := top 94
abbrev s__law_grown : Stmt := top 95
abbrev s__law_plain : Stmt := top 96
abbrev s__law_dict : Stmt := top 97
abbrev s__law_one_width : Stmt := top 98
abbrev s__law_width : Stmt := top 99
abbrev s__law_places : Stmt := top 100
abbrev s__law_stands : Stmt := top 101
abbrev s_law : Stmt := top 102
theorem sc_told_fields : FnScope ["fields", "controls", "field"] ["fields"] (defScope s_told_fields) := ⟨rfl, rfl, rfl, by decide +kernel, rfl, by decide +kernel, by decide +kernel⟩
theorem sc_default_of : FnScope ["field"] ["field"] (defScope s_default_of) := ⟨rfl, rfl, rfl, by decide +kernel, rfl, by decide +kernel, by decide +kernel⟩
theorem sc_seven_bytes : FnScope ["number", "count"] ["number"] (defScope s_seven_bytes) := ⟨rfl, rfl, rfl, by decide +kernel, rfl, by decide +kernel, by decide +kernel⟩
theorem sc_mark_width : FnScope ["field"] ["field"] (defScope s_mark_width) := ⟨rfl, rfl, rfl, by decide +kernel, rfl, by decide +kernel, by decide +kernel⟩
theorem sc_text_width : FnScope ["field", "value"] ["field", "value"] (defScope s_text_width) := ⟨rfl, rfl, rfl, by decide +kernel, rfl, by decide +kernel, by decide +kernel⟩
theorem sc_field_width : FnScope ["field", "value", "kind", "item"] ["field", "value"] (defScope s_field_width) := ⟨rfl, rfl, rfl, by decide +kernel, rfl, by decide +kernel, by decide +kernel⟩
theorem sc_case_fields : FnScope ["field", "number", "case", "fields"] ["field", "number"] (defScope s_case_fields) := ⟨rfl, rfl, rfl, by decide +kernel, rfl, by decide +kernel, by decide +kernel⟩
theorem sc_width_for : FnScope ["fields", "value", "names", "width", "field"] ["fields", "value"] (defScope s_width_for) := ⟨rfl, rfl, rfl, by decide +kernel, rfl, by decide +kernel, by decide +kernel⟩
theorem sc_control_number : FnScope ["field", "value", "kind"] ["field", "value"] (defScope s_control_number) := ⟨rfl, rfl, rfl, by decide +kernel, rfl, by decide +kernel, by decide +kernel⟩
theorem sc_filled_of : FnScope ["fields", "value", "found", "field"] ["fields", "value"] (defScope s_filled_of) := ⟨rfl, rfl, rfl, by decide +kernel, rfl, by decide +kernel, by decide +kernel⟩
theorem sc_field_full : FnScope ["field", "value", "kind", "item"] ["field", "value"] (defScope s_field_full) := ⟨rfl, rfl, rfl, by decide +kernel, rfl, by decide +kernel, by decide +kernel⟩
theorem sc_list_full : FnScope ["fields", "value", "found", "field"] ["fields", "value"] (defScope s_list_full) := ⟨rfl, rfl, rfl, by decide +kernel, rfl, by decide +kernel, by decide +kernel⟩
theorem sc_full : FnScope ["layout", "value"] ["layout", "value"] (defScope s_full) := ⟨rfl, rfl, rfl, by decide +kernel, rfl, by decide +kernel, by decide +kernel⟩
theorem sc_order_of_sevens : FnScope ["many", "order", "part", "left", "place"] ["many"] (defScope s_order_of_sevens) := ⟨rfl, rfl, rfl, by decide +kernel, rfl, by decide +kernel, by decide +kernel⟩
theorem sc_sevens : FnScope ["high", "loose", "found", "many", "low", "most"] ["high", "loose"] (defScope s_sevens) := ⟨rfl, rfl, rfl, by decide +kernel, rfl, by decide +kernel, by decide +kernel⟩
theorem sc_cut : FnScope ["mask"] ["mask"] (defScope s_cut) := ⟨rfl, rfl, rfl, by decide +kernel, rfl, by decide +kernel, by decide +kernel⟩
theorem sc_members : FnScope ["mask", "found"] ["mask"] (defScope s_members) := ⟨rfl, rfl, rfl, by decide +kernel, rfl, by decide +kernel, by decide +kernel⟩
theorem sc_summed : FnScope ["one", "other", "some", "rest", "found", "length"] ["one", "other"] (defScope s_summed) := ⟨rfl, rfl, rfl, by decide +kernel, rfl, by decide +kernel, by decide +kernel⟩
theorem sc_times_summed : FnScope ["mask", "many", "found", "turn"] ["mask", "many"] (defScope s_times_summed) := ⟨rfl, rfl, rfl, by decide +kernel, rfl, by decide +kernel, by decide +kernel⟩
theorem sc_steered_by : FnScope ["fields", "name", "field"] ["fields", "name"] (defScope s_steered_by) := ⟨rfl, rfl, rfl, by decide +kernel, rfl, by decide +kernel, by decide +kernel⟩
theorem sc_place_of : FnScope ["fields", "name", "place", "field"] ["fields", "name"] (defScope s_place_of) := ⟨rfl, rfl, rfl, by decide +kernel, rfl, by decide +kernel, by decide +kernel⟩
theorem sc_whole_bytes : FnScope ["mask", "length"] ["mask"] (defScope s_whole_bytes) := ⟨rfl, rfl, rfl, by decide +kernel, rfl, by decide +kernel, by decide +kernel⟩
theorem sc_with_bytes_behind : FnScope ["mask", "found", "count"] ["mask"] (defScope s_with_bytes_behind) := ⟨rfl, rfl, rfl, by decide +kernel, rfl, by decide +kernel, by decide +kernel⟩
theorem sc_has_default : FnScope ["field"] ["field"] (defScope s_has_default) := ⟨rfl, rfl, rfl, by decide +kernel, rfl, by decide +kernel, by decide +kernel⟩
theorem sc_inner_lengths : FnScope ["field", "head", "mask", "found", "one"] ["field"] (defScope s_inner_lengths) := ⟨rfl, rfl, rfl, by decide +kernel, rfl, by decide +kernel, by decide +kernel⟩
theorem sc_possible : FnScope ["field", "number", "fields"] ["field"] (defScope s_possible) := ⟨rfl, rfl, rfl, by decide +kernel, rfl, by decide +kernel, by decide +kernel⟩
theorem sc_lets_of : FnScope ["fields", "number", "control", "field", "one"] ["fields", "number"] (defScope s_lets_of) := ⟨rfl, rfl, rfl, by decide +kernel, rfl, by decide +kernel, by decide +kernel⟩
theorem sc_let_of : FnScope ["fields", "field"] ["fields", "field"] (defScope s_let_of) := ⟨rfl, rfl, rfl, by decide +kernel, rfl, by decide +kernel, by decide +kernel⟩
theorem sc_text_lengths : FnScope ["field", "let", "found", "count"] ["field", "let"] (defScope s_text_lengths) := ⟨rfl, rfl, rfl, by decide +kernel, rfl, by decide +kernel, by decide +kernel⟩
theorem sc_row_lengths : FnScope ["field", "let", "item", "found", "mask", "masks", "count"] ["field", "let"] (defScope s_row_lengths) := ⟨rfl, rfl, rfl, by decide +kernel, rfl, by decide +kernel, by decide +kernel⟩
theorem sc_case_lengths : FnScope ["field", "let", "found", "number", "fields"] ["field", "let"] (defScope s_case_lengths) := ⟨rfl, rfl, rfl, by decide +kernel, rfl, by decide +kernel, by decide +kernel⟩
theorem sc_lengths_of : FnScope ["field", "let", "found", "count", "way"] ["field", "let"] (defScope s_lengths_of) := ⟨rfl, rfl, rfl, by decide +kernel, rfl, by decide +kernel, by decide +kernel⟩
theorem sc_list_lengths : FnScope ["fields", "found", "field"] ["fields"] (defScope s_list_lengths) := ⟨rfl, rfl, rfl, by decide +kernel, rfl, by decide +kernel, by decide +kernel⟩
theorem sc_is_number : FnScope ["value"] ["value"] (defScope s_is_number) := ⟨rfl, rfl, rfl, by decide +kernel, rfl, by decide +kernel, by decide +kernel⟩
theorem sc_further : FnScope ["road", "name"] ["road", "name"] (defScope s_further) := ⟨rfl, rfl, rfl, by decide +kernel, rfl, by decide +kernel, by decide +kernel⟩
theorem sc_lets_for : FnScope ["fields", "field", "places", "number", "other"] ["fields", "field"] (defScope s_lets_for) := ⟨rfl, rfl, rfl, by decide +kernel, rfl, by decide +kernel, by decide +kernel⟩
theorem sc_number_misfit : FnScope ["value", "low", "high", "road"] ["value", "low", "high", "road"] (defScope s_number_misfit) := ⟨rfl, rfl, rfl, by decide +kernel, rfl, by decide +kernel, by decide +kernel⟩
theorem sc_fits_count : FnScope ["fields", "field", "many"] ["fields", "field", "many"] (defScope s_fits_count) := ⟨rfl, rfl, rfl, by decide +kernel, rfl, by decide +kernel, by decide +kernel⟩
theorem sc_text_misfit : FnScope ["fields", "field", "value", "road", "sign"] ["fields", "field", "value", "road"] (defScope s_text_misfit) := ⟨rfl, rfl, rfl, by decide +kernel, rfl, by decide +kernel, by decide +kernel⟩
theorem sc_row_misfit : FnScope ["fields", "field", "value", "road", "number", "item", "found"] ["fields", "field", "value", "road"] (defScope s_row_misfit) := ⟨rfl, rfl, rfl, by decide +kernel, rfl, by decide +kernel, by decide +kernel⟩
theorem sc_choice_misfit : FnScope ["fields", "field", "value", "road"] ["fields", "field", "value", "road"] (defScope s_choice_misfit) := ⟨rfl, rfl, rfl, by decide +kernel, rfl, by decide +kernel, by decide +kernel⟩
theorem sc_maybe_misfit : FnScope ["fields", "field", "value", "road", "let"] ["fields", "field", "value", "road"] (defScope s_maybe_misfit) := ⟨rfl, rfl, rfl, by decide +kernel, rfl, by decide +kernel, by decide +kernel⟩
theorem sc_sized_misfit : FnScope ["fields", "field", "value", "road", "found"] ["fields", "field", "value", "road"] (defScope s_sized_misfit) := ⟨rfl, rfl, rfl, by decide +kernel, rfl, by decide +kernel, by decide +kernel⟩
theorem sc_field_misfit : FnScope ["fields", "field", "value", "road", "kind"] ["fields", "field", "value", "road"] (defScope s_field_misfit) := ⟨rfl, rfl, rfl, by decide +kernel, rfl, by decide +kernel, by decide +kernel⟩
theorem sc_lacking : FnScope ["fields", "value", "grows", "told", "place", "field", "later"] ["fields", "value", "grows"] (defScope s_lacking) := ⟨rfl, rfl, rfl, by decide +kernel, rfl, by decide +kernel, by decide +kernel⟩
theorem sc_is_rest : FnScope ["rest", "one"] ["rest"] (defScope s_is_rest) := ⟨rfl, rfl, rfl, by decide +kernel, rfl, by decide +kernel, by decide +kernel⟩
theorem sc_keys_fit : FnScope ["fields", "value", "grows", "names", "field", "key"] ["fields", "value", "grows"] (defScope s_keys_fit) := ⟨rfl, rfl, rfl, by decide +kernel, rfl, by decide +kernel, by decide +kernel⟩
theorem sc_list_misfit : FnScope ["fields", "value", "road", "grows", "lost", "field", "found"] ["fields", "value", "road", "grows"] (defScope s_list_misfit) := ⟨rfl, rfl, rfl, by decide +kernel, rfl, by decide +kernel, by decide +kernel⟩
theorem sc_misfit : FnScope ["layout", "value"] ["layout", "value"] (defScope s_misfit) := ⟨rfl, rfl, rfl, by decide +kernel, rfl, by decide +kernel, by decide +kernel⟩
theorem sc_power_of : FnScope ["width"] ["width"] (defScope s_power_of) := ⟨rfl, rfl, rfl, by decide +kernel, rfl, by decide +kernel, by decide +kernel⟩
theorem sc_Field_init : FnScope ["self", "name"] ["self", "name"] (defScope s_Field_init) := ⟨rfl, rfl, rfl, by decide +kernel, rfl, by decide +kernel, by decide +kernel⟩
theorem sc_Field_kind : FnScope ["self"] ["self"] (defScope s_Field_kind) := ⟨rfl, rfl, rfl, by decide +kernel, rfl, by decide +kernel, by decide +kernel⟩
theorem sc_Field_steers : FnScope ["self"] ["self"] (defScope s_Field_steers) := ⟨rfl, rfl, rfl, by decide +kernel, rfl, by decide +kernel, by decide +kernel⟩
theorem sc_Number_init : FnScope ["self", "name", "width", "signed", "little", "low", "high", "default"] ["self", "name", "width", "signed", "little", "low", "high", "default"] (defScope s_Number_init) := ⟨rfl, rfl, rfl, by decide +kernel, rfl, by decide +kernel, by decide +kernel⟩
theorem sc_Number_kind : FnScope ["self"] ["self"] (defScope s_Number_kind) := ⟨rfl, rfl, rfl, by decide +kernel, rfl, by decide +kernel, by decide +kernel⟩
theorem sc_Number_least : FnScope ["self"] ["self"] (defScope s_Number_least) := ⟨rfl, rfl, rfl, by decide +kernel, rfl, by decide +kernel, by decide +kernel⟩
theorem sc_Number_greatest : FnScope ["self"] ["self"] (defScope s_Number_greatest) := ⟨rfl, rfl, rfl, by decide +kernel, rfl, by decide +kernel, by decide +kernel⟩
theorem sc_Seven_init : FnScope ["self", "name", "high", "loose", "default"] ["self", "name", "high", "loose", "default"] (defScope s_Seven_init) := ⟨rfl, rfl, rfl, by decide +kernel, rfl, by decide +kernel, by decide +kernel⟩
theorem sc_Seven_kind : FnScope ["self"] ["self"] (defScope s_Seven_kind) := ⟨rfl, rfl, rfl, by decide +kernel, rfl, by decide +kernel, by decide +kernel⟩
theorem sc_Text_init : FnScope ["self", "name", "how", "count", "default"] ["self", "name", "how", "count", "default"] (defScope s_Text_init) := ⟨rfl, rfl, rfl, by decide +kernel, rfl, by decide +kernel, by decide +kernel⟩
theorem sc_Text_kind : FnScope ["self"] ["self"] (defScope s_Text_kind) := ⟨rfl, rfl, rfl, by decide +kernel, rfl, by decide +kernel, by decide +kernel⟩
theorem sc_Text_steers : FnScope ["self"] ["self"] (defScope s_Text_steers) := ⟨rfl, rfl, rfl, by decide +kernel, rfl, by decide +kernel, by decide +kernel⟩
theorem sc_Row_init : FnScope ["self", "name", "how", "count", "fields", "mark"] ["self", "name", "how", "count", "fields", "mark"] (defScope s_Row_init) := ⟨rfl, rfl, rfl, by decide +kernel, rfl, by decide +kernel, by decide +kernel⟩
theorem sc_Row_kind : FnScope ["self"] ["self"] (defScope s_Row_kind) := ⟨rfl, rfl, rfl, by decide +kernel, rfl, by decide +kernel, by decide +kernel⟩
theorem sc_Row_steers : FnScope ["self"] ["self"] (defScope s_Row_steers) := ⟨rfl, rfl, rfl, by decide +kernel, rfl, by decide +kernel, by decide +kernel⟩
theorem sc_Choice_init : FnScope ["self", "name", "control", "cases", "number", "fields"] ["self", "name", "control", "cases"] (defScope s_Choice_init) := ⟨rfl, rfl, rfl, by decide +kernel, rfl, by decide +kernel, by decide +kernel⟩
theorem sc_Choice_kind : FnScope ["self"] ["self"] (defScope s_Choice_kind) := ⟨rfl, rfl, rfl, by decide +kernel, rfl, by decide +kernel, by decide +kernel⟩
theorem sc_Choice_steers : FnScope ["self"] ["self"] (defScope s_Choice_steers) := ⟨rfl, rfl, rfl, by decide +kernel, rfl, by decide +kernel, by decide +kernel⟩
theorem sc_Maybe_init : FnScope ["self", "name", "control", "fields"] ["self", "name", "control", "fields"] (defScope s_Maybe_init) := ⟨rfl, rfl, rfl, by decide +kernel, rfl, by decide +kernel, by decide +kernel⟩
theorem sc_Maybe_kind : FnScope ["self"] ["self"] (defScope s_Maybe_kind) := ⟨rfl, rfl, rfl, by decide +kernel, rfl, by decide +kernel, by decide +kernel⟩
theorem sc_Maybe_steers : FnScope ["self"] ["self"] (defScope s_Maybe_steers) := ⟨rfl, rfl, rfl, by decide +kernel, rfl, by decide +kernel, by decide +kernel⟩
theorem sc_Group_init : FnScope ["self", "name", "fields"] ["self", "name", "fields"] (defScope s_Group_init) := ⟨rfl, rfl, rfl, by decide +kernel, rfl, by decide +kernel, by decide +kernel⟩
theorem sc_Group_kind : FnScope ["self"] ["self"] (defScope s_Group_kind) := ⟨rfl, rfl, rfl, by decide +kernel, rfl, by decide +kernel, by decide +kernel⟩
theorem sc_Sized_init : FnScope ["self", "name", "control", "fields", "grows"] ["self", "name", "control", "fields", "grows"] (defScope s_Sized_init) := ⟨rfl, rfl, rfl, by decide +kernel, rfl, by decide +kernel, by decide +kernel⟩
theorem sc_Sized_kind : FnScope ["self"] ["self"] (defScope s_Sized_kind) := ⟨rfl, rfl, rfl, by decide +kernel, rfl, by decide +kernel, by decide +kernel⟩
theorem sc_Sized_steers : FnScope ["self"] ["self"] (defScope s_Sized_steers) := ⟨rfl, rfl, rfl, by decide +kernel, rfl, by decide +kernel, by decide +kernel⟩
theorem sc_Check_init : FnScope ["self", "name", "how", "width", "first"] ["self", "name", "how", "width", "first"] (defScope s_Check_init) := ⟨rfl, rfl, rfl, by decide +kernel, rfl, by decide +kernel, by decide +kernel⟩
theorem sc_Check_kind : FnScope ["self"] ["self"] (defScope s_Check_kind) := ⟨rfl, rfl, rfl, by decide +kernel, rfl, by decide +kernel, by decide +kernel⟩
theorem sc_Spot_init : FnScope ["self", "name", "width", "target"] ["self", "name", "width", "target"] (defScope s_Spot_init) := ⟨rfl, rfl, rfl, by decide +kernel, rfl, by decide +kernel, by decide +kernel⟩
theorem sc_Spot_kind : FnScope ["self"] ["self"] (defScope s_Spot_kind) := ⟨rfl, rfl, rfl, by decide +kernel, rfl, by decide +kernel, by decide +kernel⟩
theorem sc_Layout_init : FnScope ["self", "name", "fields"] ["self", "name", "fields"] (defScope s_Layout_init) := ⟨rfl, rfl, rfl, by decide +kernel, rfl, by decide +kernel, by decide +kernel⟩
theorem sc__law_cell_at : FnScope ["_law_script", "_law_k"] ["_law_script", "_law_k"] (defScope s__law_cell_at) := ⟨rfl, rfl, rfl, by decide +kernel, rfl, by decide +kernel, by decide +kernel⟩
theorem sc__law_next : FnScope ["_law_state"] ["_law_state"] (defScope s__law_next) := ⟨rfl, rfl, rfl, by decide +kernel, rfl, by decide +kernel, by decide +kernel⟩
theorem sc__law_name : FnScope ["_law_state", "_law_letters", "_law_number_here", "_law_one", "_law_base", "_law_k"] ["_law_state"] (defScope s__law_name) := ⟨rfl, rfl, rfl, by decide +kernel, rfl, by decide +kernel, by decide +kernel⟩
theorem sc__law_number : FnScope ["_law_state", "_law_width_here", "_law_signed", "_law_little", "_law_way", "_law_low"] ["_law_state"] (defScope s__law_number) := ⟨rfl, rfl, rfl, by decide +kernel, rfl, by decide +kernel, by decide +kernel⟩
theorem sc__law_control : FnScope ["_law_state", "_law_low", "_law_high", "_law_width_here"] ["_law_state", "_law_low", "_law_high"] (defScope s__law_control) := ⟨rfl, rfl, rfl, by decide +kernel, rfl, by decide +kernel, by decide +kernel⟩
theorem sc__law_leaf : FnScope ["_law_state", "_law_closed", "_law_way", "_law_width_here", "_law_high", "_law_low", "_law_control_here"] ["_law_state", "_law_closed"] (defScope s__law_leaf) := ⟨rfl, rfl, rfl, by decide +kernel, rfl, by decide +kernel, by decide +kernel⟩
theorem sc__law_row : FnScope ["_law_state", "_law_deep", "_law_closed", "_law_way", "_law_name_here", "_law_low", "_law_control_here", "_law_inner"] ["_law_state", "_law_deep", "_law_closed"] (defScope s__law_row) := ⟨rfl, rfl, rfl, by decide +kernel, rfl, by decide +kernel, by decide +kernel⟩
theorem sc__law_choice : FnScope ["_law_state", "_law_deep", "_law_closed", "_law_number_here", "_law_numbers", "_law_control_here", "_law_cases", "_law_one"] ["_law_state", "_law_deep", "_law_closed"] (defScope s__law_choice) := ⟨rfl, rfl, rfl, by decide +kernel, rfl, by decide +kernel, by decide +kernel⟩
theorem sc__law_sized : FnScope ["_law_state", "_law_deep", "_law_inner", "_law_found", "_law_low", "_law_control_here"] ["_law_state", "_law_deep"] (defScope s__law_sized) := ⟨rfl, rfl, rfl, by decide +kernel, rfl, by decide +kernel, by decide +kernel⟩
theorem sc__law_grow : FnScope ["_law_state", "_law_inner", "_law_k", "_law_way", "_law_far", "_law_control_here"] ["_law_state"] (defScope s__law_grow) := ⟨rfl, rfl, rfl, by decide +kernel, rfl, by decide +kernel, by decide +kernel⟩
theorem sc__law_unit : FnScope ["_law_state", "_law_deep", "_law_closed", "_law_way", "_law_low", "_law_high", "_law_control_here"] ["_law_state", "_law_deep", "_law_closed"] (defScope s__law_unit) := ⟨rfl, rfl, rfl, by decide +kernel, rfl, by decide +kernel, by decide +kernel⟩
theorem sc__law_list : FnScope ["_law_state", "_law_deep", "_law_closed", "_law_found", "_law_k", "_law_inner", "_law_target", "_law_how", "_law_width_here"] ["_law_state", "_law_deep", "_law_closed"] (defScope s__law_list) := ⟨rfl, rfl, rfl, by decide +kernel, rfl, by decide +kernel, by decide +kernel⟩
theorem sc__law_layout : FnScope ["_law_script", "_law_first", "_law_narrow", "_law_seed", "_law_cell", "_law_state", "_law_fields"] ["_law_script", "_law_first", "_law_narrow"] (defScope s__law_layout) := ⟨rfl, rfl, rfl, by decide +kernel, rfl, by decide +kernel, by decide +kernel⟩
theorem sc__law_most : FnScope ["_law_fields", "_law_field"] ["_law_fields"] (defScope s__law_most) := ⟨rfl, rfl, rfl, by decide +kernel, rfl, by decide +kernel, by decide +kernel⟩
theorem sc__law_greatest : FnScope ["_law_fields", "_law_field", "_law_kind", "_law_high", "_law_other", "_law_case"] ["_law_fields", "_law_field"] (defScope s__law_greatest) := ⟨rfl, rfl, rfl, by decide +kernel, rfl, by decide +kernel, by decide +kernel⟩
theorem sc__law_told : FnScope ["_law_fields", "_law_controls", "_law_field"] ["_law_fields"] (defScope s__law_told) := ⟨rfl, rfl, rfl, by decide +kernel, rfl, by decide +kernel, by decide +kernel⟩
theorem sc__law_let : FnScope ["_law_fields", "_law_field", "_law_control_here", "_law_other"] ["_law_fields", "_law_field"] (defScope s__law_let) := ⟨rfl, rfl, rfl, by decide +kernel, rfl, by decide +kernel, by decide +kernel⟩
theorem sc__law_text : FnScope ["_law_state", "_law_size", "_law_signs", "_law_k"] ["_law_state", "_law_size"] (defScope s__law_text) := ⟨rfl, rfl, rfl, by decide +kernel, rfl, by decide +kernel, by decide +kernel⟩
theorem sc__law_count : FnScope ["_law_state", "_law_fields", "_law_field", "_law_low", "_law_high"] ["_law_state", "_law_fields", "_law_field"] (defScope s__law_count) := ⟨rfl, rfl, rfl, by decide +kernel, rfl, by decide +kernel, by decide +kernel⟩
theorem sc__law_value : FnScope ["_law_state", "_law_fields", "_law_field", "_law_kind", "_law_low", "_law_high", "_law_some", "_law_cases", "_law_number_here", "_law_inner", "_law_k", "_law_case"] ["_law_state", "_law_fields", "_law_field"] (defScope s__law_value) := ⟨rfl, rfl, rfl, by decide +kernel, rfl, by decide +kernel, by decide +kernel⟩
theorem sc__law_grown : FnScope ["_law_state", "_law_field", "_law_high", "_law_found", "_law_asked", "_law_late", "_law_lost", "_law_one", "_law_room", "_law_k"] ["_law_state", "_law_field", "_law_high"] (defScope s__law_grown) := ⟨rfl, rfl, rfl, by decide +kernel, rfl, by decide +kernel, by decide +kernel⟩
theorem sc__law_plain : FnScope [] [] (defScope s__law_plain) := ⟨rfl, rfl, rfl, by decide +kernel, rfl, by decide +kernel, by decide +kernel⟩
theorem sc__law_dict : FnScope ["_law_state", "_law_fields", "_law_pairs", "_law_field"] ["_law_state", "_law_fields"] (defScope s__law_dict) := ⟨rfl, rfl, rfl, by decide +kernel, rfl, by decide +kernel, by decide +kernel⟩
theorem sc__law_one_width : FnScope ["_law_field", "_law_value_here", "_law_kind", "_law_item", "_law_case"] ["_law_field", "_law_value_here"] (defScope s__law_one_width) := ⟨rfl, rfl, rfl, by decide +kernel, rfl, by decide +kernel, by decide +kernel⟩
theorem sc__law_width : FnScope ["_law_fields", "_law_value_here", "_law_asked", "_law_found", "_law_field"] ["_law_fields", "_law_value_here"] (defScope s__law_width) := ⟨rfl, rfl, rfl, by decide +kernel, rfl, by decide +kernel, by decide +kernel⟩
theorem sc__law_places : FnScope ["_law_fields", "_law_value_here", "_law_road", "_law_field", "_law_found", "_law_ahead_of", "_law_one", "_law_name_here", "_law_held", "_law_k", "_law_inner", "_law_case"] ["_law_fields", "_law_value_here", "_law_road", "_law_field", "_law_found"] (defScope s__law_places) := ⟨rfl, rfl, rfl, by decide +kernel, rfl, by decide +kernel, by decide +kernel⟩
theorem sc__law_stands : FnScope ["_law_fields", "_law_value_here", "_law_numbers", "_law_names", "_law_name_here", "_law_field"] ["_law_fields", "_law_value_here"] (defScope s__law_stands) := ⟨rfl, rfl, rfl, by decide +kernel, rfl, by decide +kernel, by decide +kernel⟩
theorem sc_law : FnScope ["_law_script", "_law_state", "_law_fields", "_law_layout_here", "_law_turn", "_law_value_here", "_law_place", "_law_found"] ["_law_script"] (defScope s_law) := ⟨rfl, rfl, rfl, by decide +kernel, rfl, by decide +kernel, by decide +kernel⟩
end Fk

set_option Elab.async false
set_option linter.all false
set_option maxRecDepth 100000
set_option maxHeartbeats 4000000
namespace Fk
open PySem PySem.Spec PyProof.Rows L2
/-! ### what the head tells -/
def d_told_fields : He.DefD := ⟨("told_fields", none), "told_fields", "told_fields", defArgs s_told_fields, defBody s_told_fields, defScope s_told_fields, [], []⟩
def d_default_of : He.DefD := ⟨("default_of", none), "default_of", "default_of", defArgs s_default_of, defBody s_default_of, defScope s_default_of, [], []⟩
def d_seven_bytes : He.DefD := ⟨("seven_bytes", none), "seven_bytes", "seven_bytes", defArgs s_seven_bytes, defBody s_seven_bytes, defScope s_seven_bytes, [], []⟩
def d_mark_width : He.DefD := ⟨("mark_width", none), "mark_width", "mark_width", defArgs s_mark_width, defBody s_mark_width, defScope s_mark_width, [], []⟩
def d_text_width : He.DefD := ⟨("text_width", none), "text_width", "text_width", defArgs s_text_width, defBody s_text_width, defScope s_text_width, [], []⟩
def d_field_width : He.DefD := ⟨("field_width", none), "field_width", "field_width", defArgs s_field_width, defBody s_field_width, defScope s_field_width, [], []⟩
def d_case_fields : He.DefD := ⟨("case_fields", none), "case_fields", "case_fields", defArgs s_case_fields, defBody s_case_fields, defScope s_case_fields, [], []⟩
def d_width_for : He.DefD := ⟨("width_for", none), "width_for", "width_for", defArgs s_width_for, defBody s_width_for, defScope s_width_for, [], []⟩
def d_control_number : He.DefD := ⟨("control_number", none), "control_number", "control_number", defArgs s_control_number, defBody s_control_number, defScope s_control_number, [], []⟩
def d_filled_of : He.DefD := ⟨("filled_of", none), "filled_of", "filled_of", defArgs s_filled_of, defBody s_filled_of, defScope s_filled_of, [], []⟩
def d_field_full : He.DefD := ⟨("field_full", none), "field_full", "field_full", defArgs s_field_full, defBody s_field_full, defScope s_field_full, [], []⟩
def d_list_full : He.DefD := ⟨("list_full", none), "list_full", "list_full", defArgs s_list_full, defBody s_list_full, defScope s_list_full, [], []⟩
def d_full : He.DefD := ⟨("full", none), "full", "full", defArgs s_full, defBody s_full, defScope s_full, [], []⟩
def d_order_of_sevens : He.DefD := ⟨("order_of_sevens", none), "order_of_sevens", "order_of_sevens", defArgs s_order_of_sevens, defBody s_order_of_sevens, defScope s_order_of_sevens, [], []⟩
def d_sevens : He.DefD := ⟨("sevens", none), "sevens", "sevens", defArgs s_sevens, defBody s_sevens, defScope s_sevens, [], []⟩
def d_cut : He.DefD := ⟨("cut", none), "cut", "cut", defArgs s_cut, defBody s_cut, defScope s_cut, [], []⟩
def d_members : He.DefD := ⟨("members", none), "members", "members", defArgs s_members, defBody s_members, defScope s_members, [], []⟩
def d_summed : He.DefD := ⟨("summed", none), "summed", "summed", defArgs s_summed, defBody s_summed, defScope s_summed, [], []⟩
def d_times_summed : He.DefD := ⟨("times_summed", none), "times_summed", "times_summed", defArgs s_times_summed, defBody s_times_summed, defScope s_times_summed, [], []⟩
def d_steered_by : He.DefD := ⟨("steered_by", none), "steered_by", "steered_by", defArgs s_steered_by, defBody s_steered_by, defScope s_steered_by, [], []⟩
def d_place_of : He.DefD := ⟨("place_of", none), "place_of", "place_of", defArgs s_place_of, defBody s_place_of, defScope s_place_of, [], []⟩
def d_whole_bytes : He.DefD := ⟨("whole_bytes", none), "whole_bytes", "whole_bytes", defArgs s_whole_bytes, defBody s_whole_bytes, defScope s_whole_bytes, [], []⟩
def d_with_bytes_behind : He.DefD := ⟨("with_bytes_behind", none), "with_bytes_behind", "with_bytes_behind", defArgs s_with_bytes_behind, defBody s_with_bytes_behind, defScope s_with_bytes_behind, [], []⟩
def d_has_default : He.DefD := ⟨("has_default", none), "has_default", "has_default", defArgs s_has_default, defBody s_has_default, defScope s_has_default, [], []⟩
def d_inner_lengths : He.DefD := ⟨("inner_lengths", none), "inner_lengths", "inner_lengths", defArgs s_inner_lengths, defBody s_inner_lengths, defScope s_inner_lengths, [], []⟩
def d_possible : He.DefD := ⟨("possible", none), "possible", "possible", defArgs s_possible, defBody s_possible, defScope s_possible, [], []⟩
def d_lets_of : He.DefD := ⟨("lets_of", none), "lets_of", "lets_of", defArgs s_lets_of, defBody s_lets_of, defScope s_lets_of, [], []⟩
def d_let_of : He.DefD := ⟨("let_of", none), "let_of", "let_of", defArgs s_let_of, defBody s_let_of, defScope s_let_of, [], []⟩
def d_text_lengths : He.DefD := ⟨("text_lengths", none), "text_lengths", "text_lengths", defArgs s_text_lengths, defBody s_text_lengths, defScope s_text_lengths, [], []⟩
def d_row_lengths : He.DefD := ⟨("row_lengths", none), "row_lengths", "row_lengths", defArgs s_row_lengths, defBody s_row_lengths, defScope s_row_lengths, [], []⟩
def d_case_lengths : He.DefD := ⟨("case_lengths", none), "case_lengths", "case_lengths", defArgs s_case_lengths, defBody s_case_lengths, defScope s_case_lengths, [], []⟩
def d_lengths_of : He.DefD := ⟨("lengths_of", none), "lengths_of", "lengths_of", defArgs s_lengths_of, defBody s_lengths_of, defScope s_lengths_of, [], []⟩
def d_list_lengths : He.DefD := ⟨("list_lengths", none), "list_lengths", "list_lengths", defArgs s_list_lengths, defBody s_list_lengths, defScope s_list_lengths, [], []⟩
def d_is_number : He.DefD := ⟨("is_number", none), "is_number", "is_number", defArgs s_is_number, defBody s_is_number, defScope s_is_number, [], []⟩
def d_further : He.DefD := ⟨("further", none), "further", "further", defArgs s_further, defBody s_further, defScope s_further, [], []⟩
def d_lets_for : He.DefD := ⟨("lets_for", none), "lets_for", "lets_for", defArgs s_lets_for, defBody s_lets_for, defScope s_lets_for, [], []⟩
def d_number_misfit : He.DefD := ⟨("number_misfit", none), "number_misfit", "number_misfit", defArgs s_number_misfit, defBody s_number_misfit, defScope s_number_misfit, [], []⟩
def d_fits_count : He.DefD := ⟨("fits_count", none), "fits_count", "fits_count", defArgs s_fits_count, defBody s_fits_count, defScope s_fits_count, [], []⟩
def d_text_misfit : He.DefD := ⟨("text_misfit", none), "text_misfit", "text_misfit", defArgs s_text_misfit, defBody s_text_misfit, defScope s_text_misfit, [], []⟩
def d_row_misfit : He.DefD := ⟨("row_misfit", none), "row_misfit", "row_misfit", defArgs s_row_misfit, defBody s_row_misfit, defScope s_row_misfit, [], []⟩
def d_choice_misfit : He.DefD := ⟨("choice_misfit", none), "choice_misfit", "choice_misfit", defArgs s_choice_misfit, defBody s_choice_misfit, defScope s_choice_misfit, [], []⟩
def d_maybe_misfit : He.DefD := ⟨("maybe_misfit", none), "maybe_misfit", "maybe_misfit", defArgs s_maybe_misfit, defBody s_maybe_misfit, defScope s_maybe_misfit, [], []⟩
def d_sized_misfit : He.DefD := ⟨("sized_misfit", none), "sized_misfit", "sized_misfit", defArgs s_sized_misfit, defBody s_sized_misfit, defScope s_sized_misfit, [], []⟩
def d_field_misfit : He.DefD := ⟨("field_misfit", none), "field_misfit", "field_misfit", defArgs s_field_misfit, defBody s_field_misfit, defScope s_field_misfit, [], []⟩
def d_lacking : He.DefD := ⟨("lacking", none), "lacking", "lacking", defArgs s_lacking, defBody s_lacking, defScope s_lacking, [], []⟩
def d_is_rest : He.DefD := ⟨("is_rest", none), "is_rest", "is_rest", defArgs s_is_rest, defBody s_is_rest, defScope s_is_rest, [], []⟩
def d_keys_fit : He.DefD := ⟨("keys_fit", none), "keys_fit", "keys_fit", defArgs s_keys_fit, defBody s_keys_fit, defScope s_keys_fit, [], []⟩
def d_list_misfit : He.DefD := ⟨("list_misfit", none), "list_misfit", "list_misfit", defArgs s_list_misfit, defBody s_list_misfit, defScope s_list_misfit, [], []⟩
def d_misfit : He.DefD := ⟨("misfit", none), "misfit", "misfit", defArgs s_misfit, defBody s_misfit, defScope s_misfit, [], []⟩
def d_power_of : He.DefD := ⟨("power_of", none), "power_of", "power_of", defArgs s_power_of, defBody s_power_of, defScope s_power_of, [], []⟩
def d__law_cell_at : He.DefD := ⟨("_law_cell_at", none), "_law_cell_at", "_law_cell_at", defArgs s__law_cell_at, defBody s__law_cell_at, defScope s__law_cell_at, [], []⟩
def d__law_next : He.DefD := ⟨("_law_next", none), "_law_next", "_law_next", defArgs s__law_next, defBody s__law_next, defScope s__law_next, [], []⟩
def d__law_name : He.DefD := ⟨("_law_name", none), "_law_name", "_law_name", defArgs s__law_name, defBody s__law_name, defScope s__law_name, [], []⟩
def d__law_number : He.DefD := ⟨("_law_number", none), "_law_number", "_law_number", defArgs s__law_number, defBody s__law_number, defScope s__law_number, [], []⟩
def d__law_control : He.DefD := ⟨("_law_control", none), "_law_control", "_law_control", defArgs s__law_control, defBody s__law_control, defScope s__law_control, [], []⟩
def d__law_leaf : He.DefD := ⟨("_law_leaf", none), "_law_leaf", "_law_leaf", defArgs s__law_leaf, defBody s__law_leaf, defScope s__law_leaf, [], []⟩
def d__law_row : He.DefD := ⟨("_law_row", none), "_law_row", "_law_row", defArgs s__law_row, defBody s__law_row, defScope s__law_row, [], []⟩
def d__law_choice : He.DefD := ⟨("_law_choice", none), "_law_choice", "_law_choice", defArgs s__law_choice, defBody s__law_choice, defScope s__law_choice, [], []⟩
def d__law_sized : He.DefD := ⟨("_law_sized", none), "_law_sized", "_law_sized", defArgs s__law_sized, defBody s__law_sized, defScope s__law_sized, [], []⟩
def d__law_grow : He.DefD := ⟨("_law_grow", none), "_law_grow", "_law_grow", defArgs s__law_grow, defBody s__law_grow, defScope s__law_grow, [], []⟩
def d__law_unit : He.DefD := ⟨("_law_unit", none), "_law_unit", "_law_unit", defArgs s__law_unit, defBody s__law_unit, defScope s__law_unit, [], []⟩
def d__law_list : He.DefD := ⟨("_law_list", none), "_law_list", "_law_list", defArgs s__law_list, defBody s__law_list, defScope s__law_list, [], []⟩
def d__law_layout : He.DefD := ⟨("_law_layout", none), "_law_layout", "_law_layout", defArgs s__law_layout, defBody s__law_layout, defScope s__law_layout, [], []⟩
def d__law_most : He.DefD := ⟨("_law_most", none), "_law_most", "_law_most", defArgs s__law_most, defBody s__law_most, defScope s__law_most, [], []⟩
def d__law_greatest : He.DefD := ⟨("_law_greatest", none), "_law_greatest", "_law_greatest", defArgs s__law_greatest, defBody s__law_greatest, defScope s__law_greatest, [], []⟩
def d__law_told : He.DefD := ⟨("_law_told", none), "_law_told", "_law_told", defArgs s__law_told, defBody s__law_told, defScope s__law_told, [], []⟩
def d__law_let : He.DefD := ⟨("_law_let", none), "_law_let", "_law_let", defArgs s__law_let, defBody s__law_let, defScope s__law_let, [], []⟩
def d__law_text : He.DefD := ⟨("_law_text", none), "_law_text", "_law_text", defArgs s__law_text, defBody s__law_text, defScope s__law_text, [], []⟩
def d__law_count : He.DefD := ⟨("_law_count", none), "_law_count", "_law_count", defArgs s__law_count, defBody s__law_count, defScope s__law_count, [], []⟩
def d__law_value : He.DefD := ⟨("_law_value", none), "_law_value", "_law_value", defArgs s__law_value, defBody s__law_value, defScope s__law_value, [], []⟩
def d__law_grown : He.DefD := ⟨("_law_grown", none), "_law_grown", "_law_grown", defArgs s__law_grown, defBody s__law_grown, defScope s__law_grown, [], []⟩
def d__law_plain : He.DefD := ⟨("_law_plain", none), "_law_plain", "_law_plain", defArgs s__law_plain, defBody s__law_plain, defScope s__law_plain, [], []⟩
def d__law_dict : He.DefD := ⟨("_law_dict", none), "_law_dict", "_law_dict", defArgs s__law_dict, defBody s__law_dict, defScope s__law_dict, [], []⟩
def d__law_one_width : He.DefD := ⟨("_law_one_width", none), "_law_one_width", "_law_one_width", defArgs s__law_one_width, defBody s__law_one_width, defScope s__law_one_width, [], []⟩
def d__law_width : He.DefD := ⟨("_law_width", none), "_law_width", "_law_width", defArgs s__law_width, defBody s__law_width, defScope s__law_width, [], []⟩
def d__law_places : He.DefD := ⟨("_law_places", none), "_law_places", "_law_places", defArgs s__law_places, defBody s__law_places, defScope s__law_places, [], []⟩
def d__law_stands : He.DefD := ⟨("_law_stands", none), "_law_stands", "_law_stands", defArgs s__law_stands, defBody s__law_stands, defScope s__law_stands, [], []⟩
def d_law : He.DefD := ⟨("law", none), "law", "law", defArgs s_law, defBody s_law, defScope s_law, [], []⟩
def d_Field_init : He.DefD := ⟨("Field", some "__init__"), "__init__", "Field.__init__", defArgs s_Field_init, defBody s_Field_init, defScope s_Field_init, [], []⟩
def d_Number_init : He.DefD := ⟨("Number", some "__init__"), "__init__", "Number.__init__", defArgs s_Number_init, defBody s_Number_init, defScope s_Number_init, [.bl false, .bl false, .non, .non, .non], []⟩
def d_Seven_init : He.DefD := ⟨("Seven", some "__init__"), "__init__", "Seven.__init__", defArgs s_Seven_init, defBody s_Seven_init, defScope s_Seven_init, [.bl false, .non], []⟩
def d_Text_init : He.DefD := ⟨("Text", some "__init__"), "__init__", "Text.__init__", defArgs s_Text_init, defBody s_Text_init, defScope s_Text_init, [.non], []⟩
def d_Row_init : He.DefD := ⟨("Row", some "__init__"), "__init__", "Row.__init__", defArgs s_Row_init, defBody s_Row_init, defScope s_Row_init, [.non], []⟩
def d_Choice_init : He.DefD := ⟨("Choice", some "__init__"), "__init__", "Choice.__init__", defArgs s_Choice_init, defBody s_Choice_init, defScope s_Choice_init, [], []⟩
def d_Maybe_init : He.DefD := ⟨("Maybe", some "__init__"), "__init__", "Maybe.__init__", defArgs s_Maybe_init, defBody s_Maybe_init, defScope s_Maybe_init, [], []⟩
def d_Group_init : He.DefD := ⟨("Group", some "__init__"), "__init__", "Group.__init__", defArgs s_Group_init, defBody s_Group_init, defScope s_Group_init, [], []⟩
def d_Sized_init : He.DefD := ⟨("Sized", some "__init__"), "__init__", "Sized.__init__", defArgs s_Sized_init, defBody s_Sized_init, defScope s_Sized_init, [.bl false], []⟩
def d_Check_init : He.DefD := ⟨("Check", some "__init__"), "__init__", "Check.__init__", defArgs s_Check_init, defBody s_Check_init, defScope s_Check_init, [], []⟩
def d_Spot_init : He.DefD := ⟨("Spot", some "__init__"), "__init__", "Spot.__init__", defArgs s_Spot_init, defBody s_Spot_init, defScope s_Spot_init, [], []⟩
def d_Layout_init : He.DefD := ⟨("Layout", some "__init__"), "__init__", "Layout.__init__", defArgs s_Layout_init, defBody s_Layout_init, defScope s_Layout_init, [], []⟩
def d_Number_kind : He.DefD := ⟨("Number", some "kind"), "kind", "Number.kind", defArgs s_Number_kind, defBody s_Number_kind, defScope s_Number_kind, [], []⟩
def d_Number_steers : He.DefD := ⟨("Number", some "steers"), "steers", "Field.steers", defArgs s_Field_steers, defBody s_Field_steers, defScope s_Field_steers, [], []⟩
def d_Seven_kind : He.DefD := ⟨("Seven", some "kind"), "kind", "Seven.kind", defArgs s_Seven_kind, defBody s_Seven_kind, defScope s_Seven_kind, [], []⟩
def d_Seven_steers : He.DefD := ⟨("Seven", some "steers"), "steers", "Field.steers", defArgs s_Field_steers, defBody s_Field_steers, defScope s_Field_steers, [], []⟩
def d_Text_kind : He.DefD := ⟨("Text", some "kind"), "kind", "Text.kind", defArgs s_Text_kind, defBody s_Text_kind, defScope s_Text_kind, [], []⟩
def d_Text_steers : He.DefD := ⟨("Text", some "steers"), "steers", "Text.steers", defArgs s_Text_steers, defBody s_Text_steers, defScope s_Text_steers, [], []⟩
def d_Row_kind : He.DefD := ⟨("Row", some "kind"), "kind", "Row.kind", defArgs s_Row_kind, defBody s_Row_kind, defScope s_Row_kind, [], []⟩
def d_Row_steers : He.DefD := ⟨("Row", some "steers"), "steers", "Row.steers", defArgs s_Row_steers, defBody s_Row_steers, defScope s_Row_steers, [], []⟩
def d_Choice_kind : He.DefD := ⟨("Choice", some "kind"), "kind", "Choice.kind", defArgs s_Choice_kind, defBody s_Choice_kind, defScope s_Choice_kind, [], []⟩
def d_Choice_steers : He.DefD := ⟨("Choice", some "steers"), "steers", "Choice.steers", defArgs s_Choice_steers, defBody s_Choice_steers, defScope s_Choice_steers, [], []⟩
def d_Maybe_kind : He.DefD := ⟨("Maybe", some "kind"), "kind", "Maybe.kind", defArgs s_Maybe_kind, defBody s_Maybe_kind, defScope s_Maybe_kind, [], []⟩
def d_Maybe_steers : He.DefD := ⟨("Maybe", some "steers"), "steers", "Maybe.steers", defArgs s_Maybe_steers, defBody s_Maybe_steers, defScope s_Maybe_steers, [], []⟩
def d_Group_kind : He.DefD := ⟨("Group", some "kind"), "kind", "Group.kind", defArgs s_Group_kind, defBody s_Group_kind, defScope s_Group_kind, [], []⟩
def d_Group_steers : He.DefD := ⟨("Group", some "steers"), "steers", "Field.steers", defArgs s_Field_steers, defBody s_Field_steers, defScope s_Field_steers, [], []⟩
def d_Sized_kind : He.DefD := ⟨("Sized", some "kind"), "kind", "Sized.kind", defArgs s_Sized_kind, defBody s_Sized_kind, defScope s_Sized_kind, [], []⟩
def d_Sized_steers : He.DefD := ⟨("Sized", some "steers"), "steers", "Sized.steers", defArgs s_Sized_steers, defBody s_Sized_steers, defScope s_Sized_steers, [], []⟩
def d_Check_kind : He.DefD := ⟨("Check", some "kind"), "kind", "Check.kind", defArgs s_Check_kind, defBody s_Check_kind, defScope s_Check_kind, [], []⟩
def d_Check_steers : He.DefD := ⟨("Check", some "steers"), "steers", "Field.steers", defArgs s_Field_steers, defBody s_Field_steers, defScope s_Field_steers, [], []⟩
def d_Spot_kind : He.DefD := ⟨("Spot", some "kind"), "kind", "Spot.kind", defArgs s_Spot_kind, defBody s_Spot_kind, defScope s_Spot_kind, [], []⟩
def d_Spot_steers : He.DefD := ⟨("Spot", some "steers"), "steers", "Field.steers", defArgs s_Field_steers, defBody s_Field_steers, defScope s_Field_steers, [], []⟩
def d_Number_least : He.DefD := ⟨("Number", some "least"), "least", "Number.least", defArgs s_Number_least, defBody s_Number_least, defScope s_Number_least, [], []⟩
def d_Number_greatest : He.DefD := ⟨("Number", some "greatest"), "greatest", "Number.greatest", defArgs s_Number_greatest, defBody s_Number_greatest, defScope s_Number_greatest, [], []⟩
def fnL0 : List He.DefD := [d_told_fields, d_default_of, d_seven_bytes, d_mark_width, d_text_width, d_field_width, d_case_fields, d_width_for, d_control_number, d_filled_of, d_field_full, d_list_full, d_full, d_order_of_sevens, d_sevens, d_cut, d_members, d_summed, d_times_summed, d_steered_by]
def fnL1 : List He.DefD := [d_place_of, d_whole_bytes, d_with_bytes_behind, d_has_default, d_inner_lengths, d_possible, d_lets_of, d_let_of, d_text_lengths, d_row_lengths, d_case_lengths, d_lengths_of, d_list_lengths, d_is_number, d_further, d_lets_for, d_number_misfit, d_fits_count, d_text_misfit, d_row_misfit]
def fnL2 : List He.DefD := [d_choice_misfit, d_maybe_misfit, d_sized_misfit, d_field_misfit, d_lacking, d_is_rest, d_keys_fit, d_list_misfit, d_misfit, d_power_of, d__law_cell_at, d__law_next, d__law_name, d__law_number, d__law_control, d__law_leaf, d__law_row, d__law_choice, d__law_sized, d__law_grow]
def fnL3 : List He.DefD := [d__law_unit, d__law_list, d__law_layout, d__law_most, d__law_greatest, d__law_told, d__law_let, d__law_text, d__law_count, d__law_value, d__law_grown, d__law_plain, d__law_dict, d__law_one_width, d__law_width, d__law_places, d__law_stands, d_law, d_Field_init, d_Number_init]
def fnL4 : List He.DefD := [d_Seven_init, d_Text_init, d_Row_init, d_Choice_init, d_Maybe_init, d_Group_init, d_Sized_init, d_Check_init, d_Spot_init, d_Layout_init, d_Number_kind, d_Number_steers, d_Seven_kind, d_Seven_steers, d_Text_kind, d_Text_steers, d_Row_kind, d_Row_steers, d_Choice_kind, d_Choice_steers]
def fnL5 : List He.DefD := [d_Maybe_kind, d_Maybe_steers, d_Group_kind, d_Group_steers, d_Sized_kind, d_Sized_steers, d_Check_kind, d_Check_steers, d_Spot_kind, d_Spot_steers, d_Number_least, d_Number_greatest]
def fnL : List He.DefD := fnL0 ++ (fnL1 ++ (fnL2 ++ (fnL3 ++ (fnL4 ++ (fnL5)))))
def faL0 : List He.Fa := [.glo "told_fields", .glo "default_of", .glo "seven_bytes", .glo "mark_width", .glo "text_width", .glo "field_width", .glo "case_fields", .glo "width_for", .glo "control_number", .glo "filled_of", .glo "field_full", .glo "list_full", .glo "full", .glo "order_of_sevens", .glo "sevens", .glo "cut", .glo "members", .glo "summed", .glo "times_summed", .glo "steered_by"]
def faL1 : List He.Fa := [.glo "place_of", .glo "whole_bytes", .glo "with_bytes_behind", .glo "has_default", .glo "inner_lengths", .glo "possible", .glo "lets_of", .glo "let_of", .glo "text_lengths", .glo "row_lengths", .glo "case_lengths", .glo "lengths_of", .glo "list_lengths", .glo "is_number", .glo "further", .glo "lets_for", .glo "number_misfit", .glo "fits_count", .glo "text_misfit", .glo "row_misfit"]
def faL2 : List He.Fa := [.glo "choice_misfit", .glo "maybe_misfit", .glo "sized_misfit", .glo "field_misfit", .glo "lacking", .glo "is_rest", .glo "keys_fit", .glo "list_misfit", .glo "misfit", .glo "power_of", .glo "_law_cell_at", .glo "_law_next", .glo "_law_name", .glo "_law_number", .glo "_law_control", .glo "_law_leaf", .glo "_law_row", .glo "_law_choice", .glo "_law_sized", .glo "_law_grow"]
def faL3 : List He.Fa := [.glo "_law_unit", .glo "_law_list", .glo "_law_layout", .glo "_law_most", .glo "_law_greatest", .glo "_law_told", .glo "_law_let", .glo "_law_text", .glo "_law_count", .glo "_law_value", .glo "_law_grown", .glo "_law_plain", .glo "_law_dict", .glo "_law_one_width", .glo "_law_width", .glo "_law_places", .glo "_law_stands", .glo "law", .glo "Field", .glo "Number"]
def faL4 : List He.Fa := [.glo "Seven", .glo "Text", .glo "Row", .glo "Choice", .glo "Maybe", .glo "Group", .glo "Sized", .glo "Check", .glo "Spot", .glo "Layout", .free "len", .free "isinstance", .free "int", .free "bool", .free "str", .free "list", .free "tuple", .free "dict", .free "range", .free "sum"]
def faL5 : List He.Fa := [.free "min", .free "max", .free "sorted", .free "enumerate", .free "all", .free "ord", .free "abs", .int "MOST_BITS" 2040, .int "MOST_SIGNS" 60, .int "MOST_ITEMS" 40, .int "BYTE" 8, .int "PERCENT" 37, .cls "Number", .mkr "Number", .noat "Number" "name", .noat "Number" "width", .noat "Number" "signed", .noat "Number" "little", .noat "Number" "low", .noat "Number" "high"]
def faL6 : List He.Fa := [.noat "Number" "default", .cls "Seven", .mkr "Seven", .noat "Seven" "name", .noat "Seven" "high", .noat "Seven" "loose", .noat "Seven" "default", .cls "Text", .mkr "Text", .noat "Text" "name", .noat "Text" "how", .noat "Text" "count", .noat "Text" "default", .cls "Row", .mkr "Row", .noat "Row" "name", .noat "Row" "how", .noat "Row" "count", .noat "Row" "fields", .noat "Row" "mark"]
def faL7 : List He.Fa := [.cls "Choice", .mkr "Choice", .noat "Choice" "name", .noat "Choice" "control", .noat "Choice" "cases", .cls "Maybe", .mkr "Maybe", .noat "Maybe" "name", .noat "Maybe" "control", .noat "Maybe" "fields", .cls "Group", .mkr "Group", .noat "Group" "name", .noat "Group" "fields", .cls "Sized", .mkr "Sized", .noat "Sized" "name", .noat "Sized" "control", .noat "Sized" "fields", .noat "Sized" "grows"]
def faL8 : List He.Fa := [.cls "Check", .mkr "Check", .noat "Check" "name", .noat "Check" "how", .noat "Check" "width", .noat "Check" "first", .cls "Spot", .mkr "Spot", .noat "Spot" "name", .noat "Spot" "width", .noat "Spot" "target", .cls "Layout", .mkr "Layout", .noat "Layout" "name", .noat "Layout" "fields", .meth "Number" "kind", .meth "Number" "steers", .meth "Number" "least", .meth "Number" "greatest", .meth "Seven" "kind"]
def faL9 : List He.Fa := [.meth "Seven" "steers", .meth "Text" "kind", .meth "Text" "steers", .meth "Row" "kind", .meth "Row" "steers", .meth "Choice" "kind", .meth "Choice" "steers", .meth "Maybe" "kind", .meth "Maybe" "steers", .meth "Group" "kind", .meth "Group" "steers", .meth "Sized" "kind", .meth "Sized" "steers", .meth "Check" "kind", .meth "Check" "steers", .meth "Spot" "kind", .meth "Spot" "steers"]
def faL : List He.Fa := faL0 ++ (faL1 ++ (faL2 ++ (faL3 ++ (faL4 ++ (faL5 ++ (faL6 ++ (faL7 ++ (faL8 ++ (faL9)))))))))
/-- the class Field's own __init__, read off the class -/
def exB (K : PySem.W.Frag) : Bool := PySem.W.readsIn K (He.ga K "Field") (.type "type") &&
  (He.eqO (PySem.W.specialIn K (.ref (He.ga K "Field")) "__getattribute__") (some (some (.builtin "type.__getattribute__"))) &&
  (match PySem.W.findCls K (.ref (He.ga K "Field")) (.type "type") "__init__" with
    | some (.val (.ref a)) => decide (a = He.fAd K ("Field", some "__init__"))
    | _ => false))
/-- what the walk asks of the top -/
structure Tx (K : PySem.W.Frag) (mg : Str → Option Value) : Prop where
  c : He.SaysD faL fnL K
  ex : exB K = true
  hg : ∃ h : Heap, K.In h ∧ h.Ns mainGlobals mg
/-- a def as it stands behind the top -/
def Df (K : PySem.W.Frag) (x qual : Str) (st : Stmt) (dvs : List V) (f : Addr) : Prop := ∃ fd, FunD K x qual (defArgs st) (defBody st) (defScope st) dvs [] f fd
section
variable {K : PySem.W.Frag} {mg : Str → Option Value} (T : Tx K mg)
include T
theorem Tx.d_told_fields : Df K "told_fields" "told_fields" s_told_fields [] (He.fAd K ("told_fields", none)) := T.c.def_ 0 (d := Fk.d_told_fields) rfl
theorem Tx.d_default_of : Df K "default_of" "default_of" s_default_of [] (He.fAd K ("default_of", none)) := T.c.def_ 1 (d := Fk.d_default_of) rfl
theorem Tx.d_seven_bytes : Df K "seven_bytes" "seven_bytes" s_seven_bytes [] (He.fAd K ("seven_bytes", none)) := T.c.def_ 2 (d := Fk.d_seven_bytes) rfl
theorem Tx.d_mark_width : Df K "mark_width" "mark_width" s_mark_width [] (He.fAd K ("mark_width", none)) := T.c.def_ 3 (d := Fk.d_mark_width) rfl
theorem Tx.d_text_width : Df K "text_width" "text_width" s_text_width [] (He.fAd K ("text_width", none)) := T.c.def_ 4 (d := Fk.d_text_width) rfl
theorem Tx.d_field_width : Df K "field_width" "field_width" s_field_width [] (He.fAd K ("field_width", none)) := T.c.def_ 5 (d := Fk.d_field_width) rfl
theorem Tx.d_case_fields : Df K "case_fields" "case_fields" s_case_fields [] (He.fAd K ("case_fields", none)) := T.c.def_ 6 (d := Fk.d_case_fields) rfl
theorem Tx.d_width_for : Df K "width_for" "width_for" s_width_for [] (He.fAd K ("width_for", none)) := T.c.def_ 7 (d := Fk.d_width_for) rfl
theorem Tx.d_control_number : Df K "control_number" "control_number" s_control_number [] (He.fAd K ("control_number", none)) := T.c.def_ 8 (d := Fk.d_control_number) rfl
theorem Tx.d_filled_of : Df K "filled_of" "filled_of" s_filled_of [] (He.fAd K ("filled_of", none)) := T.c.def_ 9 (d := Fk.d_filled_of) rfl
theorem Tx.d_field_full : Df K "field_full" "field_full" s_field_full [] (He.fAd K ("field_full", none)) := T.c.def_ 10 (d := Fk.d_field_full) rfl
theorem Tx.d_list_full : Df K "list_full" "list_full" s_list_full [] (He.fAd K ("list_full", none)) := T.c.def_ 11 (d := Fk.d_list_full) rfl
theorem Tx.d_full : Df K "full" "full" s_full [] (He.fAd K ("full", none)) := T.c.def_ 12 (d := Fk.d_full) rfl
theorem Tx.d_order_of_sevens : Df K "order_of_sevens" "order_of_sevens" s_order_of_sevens [] (He.fAd K ("order_of_sevens", none)) := T.c.def_ 13 (d := Fk.d_order_of_sevens) rfl
theorem Tx.d_sevens : Df K "sevens" "sevens" s_sevens [] (He.fAd K ("sevens", none)) := T.c.def_ 14 (d := Fk.d_sevens) rfl
theorem Tx.d_cut : Df K "cut" "cut" s_cut [] (He.fAd K ("cut", none)) := T.c.def_ 15 (d := Fk.d_cut) rfl
theorem Tx.d_members : Df K "members" "members" s_members [] (He.fAd K ("members", none)) := T.c.def_ 16 (d := Fk.d_members) rfl
theorem Tx.d_summed : Df K "summed" "summed" s_summed [] (He.fAd K ("summed", none)) := T.c.def_ 17 (d := Fk.d_summed) rfl
theorem Tx.d_times_summed : Df K "times_summed" "times_summed" s_times_summed [] (He.fAd K ("times_summed", none)) := T.c.def_ 18 (d := Fk.d_times_summed) rfl
theorem Tx.d_steered_by : Df K "steered_by" "steered_by" s_steered_by [] (He.fAd K ("steered_by", none)) := T.c.def_ 19 (d := Fk.d_steered_by) rfl
theorem Tx.d_place_of : Df K "place_of" "place_of" s_place_of [] (He.fAd K ("place_of", none)) := T.c.def_ 20 (d := Fk.d_place_of) rfl
theorem Tx.d_whole_bytes : Df K "whole_bytes" "whole_bytes" s_whole_bytes [] (He.fAd K ("whole_bytes", none)) := T.c.def_ 21 (d := Fk.d_whole_bytes) rfl
theorem Tx.d_with_bytes_behind : Df K "with_bytes_behind" "with_bytes_behind" s_with_bytes_behind [] (He.fAd K ("with_bytes_behind", none)) := T.c.def_ 22 (d := Fk.d_with_bytes_behind) rfl
theorem Tx.d_has_default : Df K "has_default" "has_default" s_has_default [] (He.fAd K ("has_default", none)) := T.c.def_ 23 (d := Fk.d_has_default) rfl
theorem Tx.d_inner_lengths : Df K "inner_lengths" "inner_lengths" s_inner_lengths [] (He.fAd K ("inner_lengths", none)) := T.c.def_ 24 (d := Fk.d_inner_lengths) rfl
theorem Tx.d_possible : Df K "possible" "possible" s_possible [] (He.fAd K ("possible", none)) := T.c.def_ 25 (d := Fk.d_possible) rfl
theorem Tx.d_lets_of : Df K "lets_of" "lets_of" s_lets_of [] (He.fAd K ("lets_of", none)) := T.c.def_ 26 (d := Fk.d_lets_of) rfl
theorem Tx.d_let_of : Df K "let_of" "let_of" s_let_of [] (He.fAd K ("let_of", none)) := T.c.def_ 27 (d := Fk.d_let_of) rfl
theorem Tx.d_text_lengths : Df K "text_lengths" "text_lengths" s_text_lengths [] (He.fAd K ("text_lengths", none)) := T.c.def_ 28 (d := Fk.d_text_lengths) rfl
theorem Tx.d_row_lengths : Df K "row_lengths" "row_lengths" s_row_lengths [] (He.fAd K ("row_lengths", none)) := T.c.def_ 29 (d := Fk.d_row_lengths) rfl
theorem Tx.d_case_lengths : Df K "case_lengths" "case_lengths" s_case_lengths [] (He.fAd K ("case_lengths", none)) := T.c.def_ 30 (d := Fk.d_case_lengths) rfl
theorem Tx.d_lengths_of : Df K "lengths_of" "lengths_of" s_lengths_of [] (He.fAd K ("lengths_of", none)) := T.c.def_ 31 (d := Fk.d_lengths_of) rfl
theorem Tx.d_list_lengths : Df K "list_lengths" "list_lengths" s_list_lengths [] (He.fAd K ("list_lengths", none)) := T.c.def_ 32 (d := Fk.d_list_lengths) rfl
theorem Tx.d_is_number : Df K "is_number" "is_number" s_is_number [] (He.fAd K ("is_number", none)) := T.c.def_ 33 (d := Fk.d_is_number) rfl
theorem Tx.d_further : Df K "further" "further" s_further [] (He.fAd K ("further", none)) := T.c.def_ 34 (d := Fk.d_further) rfl
theorem Tx.d_lets_for : Df K "lets_for" "lets_for" s_lets_for [] (He.fAd K ("lets_for", none)) := T.c.def_ 35 (d := Fk.d_lets_for) rfl
theorem Tx.d_number_misfit : Df K "number_misfit" "number_misfit" s_number_misfit [] (He.fAd K ("number_misfit", none)) := T.c.def_ 36 (d := Fk.d_number_misfit) rfl
theorem Tx.d_fits_count : Df K "fits_count" "fits_count" s_fits_count [] (He.fAd K ("fits_count", none)) := T.c.def_ 37 (d := Fk.d_fits_count) rfl
theorem Tx.d_text_misfit : Df K "text_misfit" "text_misfit" s_text_misfit [] (He.fAd K ("text_misfit", none)) := T.c.def_ 38 (d := Fk.d_text_misfit) rfl
theorem Tx.d_row_misfit : Df K "row_misfit" "row_misfit" s_row_misfit [] (He.fAd K ("row_misfit", none)) := T.c.def_ 39 (d := Fk.d_row_misfit) rfl
theorem Tx.d_choice_misfit : Df K "choice_misfit" "choice_misfit" s_choice_misfit [] (He.fAd K ("choice_misfit", none)) := T.c.def_ 40 (d := Fk.d_choice_misfit) rfl
theorem Tx.d_maybe_misfit : Df K "maybe_misfit" "maybe_misfit" s_maybe_misfit [] (He.fAd K ("maybe_misfit", none)) := T.c.def_ 41 (d := Fk.d_maybe_misfit) rfl
theorem Tx.d_sized_misfit : Df K "sized_misfit" "sized_misfit" s_sized_misfit [] (He.fAd K ("sized_misfit", none)) := T.c.def_ 42 (d := Fk.d_sized_misfit) rfl
theorem Tx.d_field_misfit : Df K "field_misfit" "field_misfit" s_field_misfit [] (He.fAd K ("field_misfit", none)) := T.c.def_ 43 (d := Fk.d_field_misfit) rfl
theorem Tx.d_lacking : Df K "lacking" "lacking" s_lacking [] (He.fAd K ("lacking", none)) := T.c.def_ 44 (d := Fk.d_lacking) rfl
theorem Tx.d_is_rest : Df K "is_rest" "is_rest" s_is_rest [] (He.fAd K ("is_rest", none)) := T.c.def_ 45 (d := Fk.d_is_rest) rfl
theorem Tx.d_keys_fit : Df K "keys_fit" "keys_fit" s_keys_fit [] (He.fAd K ("keys_fit", none)) := T.c.def_ 46 (d := Fk.d_keys_fit) rfl
theorem Tx.d_list_misfit : Df K "list_misfit" "list_misfit" s_list_misfit [] (He.fAd K ("list_misfit", none)) := T.c.def_ 47 (d := Fk.d_list_misfit) rfl
theorem Tx.d_misfit : Df K "misfit" "misfit" s_misfit [] (He.fAd K ("misfit", none)) := T.c.def_ 48 (d := Fk.d_misfit) rfl
theorem Tx.d_power_of : Df K "power_of" "power_of" s_power_of [] (He.fAd K ("power_of", none)) := T.c.def_ 49 (d := Fk.d_power_of) rfl
theorem Tx.d__law_cell_at : Df K "_law_cell_at" "_law_cell_at" s__law_cell_at [] (He.fAd K ("_law_cell_at", none)) := T.c.def_ 50 (d := Fk.d__law_cell_at) rfl
theorem Tx.d__law_next : Df K "_law_next" "_law_next" s__law_next [] (He.fAd K ("_law_next", none)) := T.c.def_ 51 (d := Fk.d__law_next) rfl
theorem Tx.d__law_name : Df K "_law_name" "_law_name" s__law_name [] (He.fAd K ("_law_name", none)) := T.c.def_ 52 (d := Fk.d__law_name) rfl
theorem Tx.d__law_number : Df K "_law_number" "_law_number" s__law_number [] (He.fAd K ("_law_number", none)) := T.c.def_ 53 (d := Fk.d__law_number) rfl
theorem Tx.d__law_control : Df K "_law_control" "_law_control" s__law_control [] (He.fAd K ("_law_control", none)) := T.c.def_ 54 (d := Fk.d__law_control) rfl
theorem Tx.d__law_leaf : Df K "_law_leaf" "_law_leaf" s__law_leaf [] (He.fAd K ("_law_leaf", none)) := T.c.def_ 55 (d := Fk.d__law_leaf) rfl
theorem Tx.d__law_row : Df K "_law_row" "_law_row" s__law_row [] (He.fAd K ("_law_row", none)) := T.c.def_ 56 (d := Fk.d__law_row) rfl
theorem Tx.d__law_choice : Df K "_law_choice" "_law_choice" s__law_choice [] (He.fAd K ("_law_choice", none)) := T.c.def_ 57 (d := Fk.d__law_choice) rfl
theorem Tx.d__law_sized : Df K "_law_sized" "_law_sized" s__law_sized [] (He.fAd K ("_law_sized", none)) := T.c.def_ 58 (d := Fk.d__law_sized) rfl
theorem Tx.d__law_grow : Df K "_law_grow" "_law_grow" s__law_grow [] (He.fAd K ("_law_grow", none)) := T.c.def_ 59 (d := Fk.d__law_grow) rfl
theorem Tx.d__law_unit : Df K "_law_unit" "_law_unit" s__law_unit [] (He.fAd K ("_law_unit", none)) := T.c.def_ 60 (d := Fk.d__law_unit) rfl
theorem Tx.d__law_list : Df K "_law_list" "_law_list" s__law_list [] (He.fAd K ("_law_list", none)) := T.c.def_ 61 (d := Fk.d__law_list) rfl
theorem Tx.d__law_layout : Df K "_law_layout" "_law_layout" s__law_layout [] (He.fAd K ("_law_layout", none)) := T.c.def_ 62 (d := Fk.d__law_layout) rfl
theorem Tx.d__law_most : Df K "_law_most" "_law_most" s__law_most [] (He.fAd K ("_law_most", none)) := T.c.def_ 63 (d := Fk.d__law_most) rfl
theorem Tx.d__law_greatest : Df K "_law_greatest" "_law_greatest" s__law_greatest [] (He.fAd K ("_law_greatest", none)) := T.c.def_ 64 (d := Fk.d__law_greatest) rfl
theorem Tx.d__law_told : Df K "_law_told" "_law_told" s__law_told [] (He.fAd K ("_law_told", none)) := T.c.def_ 65 (d := Fk.d__law_told) rfl
theorem Tx.d__law_let : Df K "_law_let" "_law_let" s__law_let [] (He.fAd K ("_law_let", none)) := T.c.def_ 66 (d := Fk.d__law_let) rfl
theorem Tx.d__law_text : Df K "_law_text" "_law_text" s__law_text [] (He.fAd K ("_law_text", none)) := T.c.def_ 67 (d := Fk.d__law_text) rfl
theorem Tx.d__law_count : Df K "_law_count" "_law_count" s__law_count [] (He.fAd K ("_law_count", none)) := T.c.def_ 68 (d := Fk.d__law_count) rfl
theorem Tx.d__law_value : Df K "_law_value" "_law_value" s__law_value [] (He.fAd K ("_law_value", none)) := T.c.def_ 69 (d := Fk.d__law_value) rfl
theorem Tx.d__law_grown : Df K "_law_grown" "_law_grown" s__law_grown [] (He.fAd K ("_law_grown", none)) := T.c.def_ 70 (d := Fk.d__law_grown) rfl
theorem Tx.d__law_plain : Df K "_law_plain" "_law_plain" s__law_plain [] (He.fAd K ("_law_plain", none)) := T.c.def_ 71 (d := Fk.d__law_plain) rfl
theorem Tx.d__law_dict : Df K "_law_dict" "_law_dict" s__law_dict [] (He.fAd K ("_law_dict", none)) := T.c.def_ 72 (d := Fk.d__law_dict) rfl
theorem Tx.d__law_one_width : Df K "_law_one_width" "_law_one_width" s__law_one_width [] (He.fAd K ("_law_one_width", none)) := T.c.def_ 73 (d := Fk.d__law_one_width) rfl
theorem Tx.d__law_width : Df K "_law_width" "_law_width" s__law_width [] (He.fAd K ("_law_width", none)) := T.c.def_ 74 (d := Fk.d__law_width) rfl
theorem Tx.d__law_places : Df K "_law_places" "_law_places" s__law_places [] (He.fAd K ("_law_places", none)) := T.c.def_ 75 (d := Fk.d__law_places) rfl
theorem Tx.d__law_stands : Df K "_law_stands" "_law_stands" s__law_stands [] (He.fAd K ("_law_stands", none)) := T.c.def_ 76 (d := Fk.d__law_stands) rfl
theorem Tx.d_law : Df K "law" "law" s_law [] (He.fAd K ("law", none)) := T.c.def_ 77 (d := Fk.d_law) rfl
theorem Tx.d_Field_init : Df K "__init__" "Field.__init__" s_Field_init [] (He.fAd K ("Field", some "__init__")) := T.c.def_ 78 (d := Fk.d_Field_init) rfl
theorem Tx.d_Number_init : Df K "__init__" "Number.__init__" s_Number_init [.bl false, .bl false, .non, .non, .non] (He.fAd K ("Number", some "__init__")) := T.c.def_ 79 (d := Fk.d_Number_init) rfl
theorem Tx.d_Seven_init : Df K "__init__" "Seven.__init__" s_Seven_init [.bl false, .non] (He.fAd K ("Seven", some "__init__")) := T.c.def_ 80 (d := Fk.d_Seven_init) rfl
theorem Tx.d_Text_init : Df K "__init__" "Text.__init__" s_Text_init [.non] (He.fAd K ("Text", some "__init__")) := T.c.def_ 81 (d := Fk.d_Text_init) rfl
theorem Tx.d_Row_init : Df K "__init__" "Row.__init__" s_Row_init [.non] (He.fAd K ("Row", some "__init__")) := T.c.def_ 82 (d := Fk.d_Row_init) rfl
theorem Tx.d_Choice_init : Df K "__init__" "Choice.__init__" s_Choice_init [] (He.fAd K ("Choice", some "__init__")) := T.c.def_ 83 (d := Fk.d_Choice_init) rfl
theorem Tx.d_Maybe_init : Df K "__init__" "Maybe.__init__" s_Maybe_init [] (He.fAd K ("Maybe", some "__init__")) := T.c.def_ 84 (d := Fk.d_Maybe_init) rfl
theorem Tx.d_Group_init : Df K "__init__" "Group.__init__" s_Group_init [] (He.fAd K ("Group", some "__init__")) := T.c.def_ 85 (d := Fk.d_Group_init) rfl
theorem Tx.d_Sized_init : Df K "__init__" "Sized.__init__" s_Sized_init [.bl false] (He.fAd K ("Sized", some "__init__")) := T.c.def_ 86 (d := Fk.d_Sized_init) rfl
theorem Tx.d_Check_init : Df K "__init__" "Check.__init__" s_Check_init [] (He.fAd K ("Check", some "__init__")) := T.c.def_ 87 (d := Fk.d_Check_init) rfl
theorem Tx.d_Spot_init : Df K "__init__" "Spot.__init__" s_Spot_init [] (He.fAd K ("Spot", some "__init__")) := T.c.def_ 88 (d := Fk.d_Spot_init) rfl
theorem Tx.d_Layout_init : Df K "__init__" "Layout.__init__" s_Layout_init [] (He.fAd K ("Layout", some "__init__")) := T.c.def_ 89 (d := Fk.d_Layout_init) rfl
theorem Tx.d_Number_kind : Df K "kind" "Number.kind" s_Number_kind [] (He.fAd K ("Number", some "kind")) := T.c.def_ 90 (d := Fk.d_Number_kind) rfl
theorem Tx.d_Number_steers : Df K "steers" "Field.steers" s_Field_steers [] (He.fAd K ("Number", some "steers")) := T.c.def_ 91 (d := Fk.d_Number_steers) rfl
theorem Tx.d_Seven_kind : Df K "kind" "Seven.kind" s_Seven_kind [] (He.fAd K ("Seven", some "kind")) := T.c.def_ 92 (d := Fk.d_Seven_kind) rfl
theorem Tx.d_Seven_steers : Df K "steers" "Field.steers" s_Field_steers [] (He.fAd K ("Seven", some "steers")) := T.c.def_ 93 (d := Fk.d_Seven_steers) rfl
theorem Tx.d_Text_kind : Df K "kind" "Text.kind" s_Text_kind [] (He.fAd K ("Text", some "kind")) := T.c.def_ 94 (d := Fk.d_Text_kind) rfl
theorem Tx.d_Text_steers : Df K "steers" "Text.steers" s_Text_steers [] (He.fAd K ("Text", some "steers")) := T.c.def_ 95 (d := Fk.d_Text_steers) rfl
theorem Tx.d_Row_kind : Df K "kind" "Row.kind" s_Row_kind [] (He.fAd K ("Row", some "kind")) := T.c.def_ 96 (d := Fk.d_Row_kind) rfl
theorem Tx.d_Row_steers : Df K "steers" "Row.steers" s_Row_steers [] (He.fAd K ("Row", some "steers")) := T.c.def_ 97 (d := Fk.d_Row_steers) rfl
theorem Tx.d_Choice_kind : Df K "kind" "Choice.kind" s_Choice_kind [] (He.fAd K ("Choice", some "kind")) := T.c.def_ 98 (d := Fk.d_Choice_kind) rfl
theorem Tx.d_Choice_steers : Df K "steers" "Choice.steers" s_Choice_steers [] (He.fAd K ("Choice", some "steers")) := T.c.def_ 99 (d := Fk.d_Choice_steers) rfl
theorem Tx.d_Maybe_kind : Df K "kind" "Maybe.kind" s_Maybe_kind [] (He.fAd K ("Maybe", some "kind")) := T.c.def_ 100 (d := Fk.d_Maybe_kind) rfl
theorem Tx.d_Maybe_steers : Df K "steers" "Maybe.steers" s_Maybe_steers [] (He.fAd K ("Maybe", some "steers")) := T.c.def_ 101 (d := Fk.d_Maybe_steers) rfl
theorem Tx.d_Group_kind : Df K "kind" "Group.kind" s_Group_kind [] (He.fAd K ("Group", some "kind")) := T.c.def_ 102 (d := Fk.d_Group_kind) rfl
theorem Tx.d_Group_steers : Df K "steers" "Field.steers" s_Field_steers [] (He.fAd K ("Group", some "steers")) := T.c.def_ 103 (d := Fk.d_Group_steers) rfl
theorem Tx.d_Sized_kind : Df K "kind" "Sized.kind" s_Sized_kind [] (He.fAd K ("Sized", some "kind")) := T.c.def_ 104 (d := Fk.d_Sized_kind) rfl
theorem Tx.d_Sized_steers : Df K "steers" "Sized.steers" s_Sized_steers [] (He.fAd K ("Sized", some "steers")) := T.c.def_ 105 (d := Fk.d_Sized_steers) rfl
theorem Tx.d_Check_kind : Df K "kind" "Check.kind" s_Check_kind [] (He.fAd K ("Check", some "kind")) := T.c.def_ 106 (d := Fk.d_Check_kind) rfl
theorem Tx.d_Check_steers : Df K "steers" "Field.steers" s_Field_steers [] (He.fAd K ("Check", some "steers")) := T.c.def_ 107 (d := Fk.d_Check_steers) rfl
theorem Tx.d_Spot_kind : Df K "kind" "Spot.kind" s_Spot_kind [] (He.fAd K ("Spot", some "kind")) := T.c.def_ 108 (d := Fk.d_Spot_kind) rfl
theorem Tx.d_Spot_steers : Df K "steers" "Field.steers" s_Field_steers [] (He.fAd K ("Spot", some "steers")) := T.c.def_ 109 (d := Fk.d_Spot_steers) rfl
theorem Tx.d_Number_least : Df K "least" "Number.least" s_Number_least [] (He.fAd K ("Number", some "least")) := T.c.def_ 110 (d := Fk.d_Number_least) rfl
theorem Tx.d_Number_greatest : Df K "greatest" "Number.greatest" s_Number_greatest [] (He.fAd K ("Number", some "greatest")) := T.c.def_ 111 (d := Fk.d_Number_greatest) rfl
theorem Tx.g_told_fields : mg "told_fields" = some (.ref (He.ga K "told_fields")) := let ⟨_, X, G⟩ := T.hg; He.glo_ok X G (T.c.fact 0 (f := .glo "told_fields") rfl)
theorem Tx.g_default_of : mg "default_of" = some (.ref (He.ga K "default_of")) := let ⟨_, X, G⟩ := T.hg; He.glo_ok X G (T.c.fact 1 (f := .glo "default_of") rfl)
theorem Tx.g_seven_bytes : mg "seven_bytes" = some (.ref (He.ga K "seven_bytes")) := let ⟨_, X, G⟩ := T.hg; He.glo_ok X G (T.c.fact 2 (f := .glo "seven_bytes") rfl)
theorem Tx.g_mark_width : mg "mark_width" = some (.ref (He.ga K "mark_width")) := let ⟨_, X, G⟩ := T.hg; He.glo_ok X G (T.c.fact 3 (f := .glo "mark_width") rfl)
theorem Tx.g_text_width : mg "text_width" = some (.ref (He.ga K "text_width")) := let ⟨_, X, G⟩ := T.hg; He.glo_ok X G (T.c.fact 4 (f := .glo "text_width") rfl)
theorem Tx.g_field_width : mg "field_width" = some (.ref (He.ga K "field_width")) := let ⟨_, X, G⟩ := T.hg; He.glo_ok X G (T.c.fact 5 (f := .glo "field_width") rfl)
theorem Tx.g_case_fields : mg "case_fields" = some (.ref (He.ga K "case_fields")) := let ⟨_, X, G⟩ := T.hg; He.glo_ok X G (T.c.fact 6 (f := .glo "case_fields") rfl)
theorem Tx.g_width_for : mg "width_for" = some (.ref (He.ga K "width_for")) := let ⟨_, X, G⟩ := T.hg; He.glo_ok X G (T.c.fact 7 (f := .glo "width_for") rfl)
theorem Tx.g_control_number : mg "control_number" = some (.ref (He.ga K "control_number")) := let ⟨_, X, G⟩ := T.hg; He.glo_ok X G (T.c.fact 8 (f := .glo "control_number") rfl)
theorem Tx.g_filled_of : mg "filled_of" = some (.ref (He.ga K "filled_of")) := let ⟨_, X, G⟩ := T.hg; He.glo_ok X G (T.c.fact 9 (f := .glo "filled_of") rfl)
theorem Tx.g_field_full : mg "field_full" = some (.ref (He.ga K "field_full")) := let ⟨_, X, G⟩ := T.hg; He.glo_ok X G (T.c.fact 10 (f := .glo "field_full") rfl)
theorem Tx.g_list_full : mg "list_full" = some (.ref (He.ga K "list_full")) := let ⟨_, X, G⟩ := T.hg; He.glo_ok X G (T.c.fact 11 (f := .glo "list_full") rfl)
theorem Tx.g_full : mg "full" = some (.ref (He.ga K "full")) := let ⟨_, X, G⟩ := T.hg; He.glo_ok X G (T.c.fact 12 (f := .glo "full") rfl)
theorem Tx.g_order_of_sevens : mg "order_of_sevens" = some (.ref (He.ga K "order_of_sevens")) := let ⟨_, X, G⟩ := T.hg; He.glo_ok X G (T.c.fact 13 (f := .glo "order_of_sevens") rfl)
theorem Tx.g_sevens : mg "sevens" = some (.ref (He.ga K "sevens")) := let ⟨_, X, G⟩ := T.hg; He.glo_ok X G (T.c.fact 14 (f := .glo "sevens") rfl)
theorem Tx.g_cut : mg "cut" = some (.ref (He.ga K "cut")) := let ⟨_, X, G⟩ := T.hg; He.glo_ok X G (T.c.fact 15 (f := .glo "cut") rfl)
theorem Tx.g_members : mg "members" = some (.ref (He.ga K "members")) := let ⟨_, X, G⟩ := T.hg; He.glo_ok X G (T.c.fact 16 (f := .glo "members") rfl)
theorem Tx.g_summed : mg "summed" = some (.ref (He.ga K "summed")) := let ⟨_, X, G⟩ := T.hg; He.glo_ok X G (T.c.fact 17 (f := .glo "summed") rfl)
theorem Tx.g_times_summed : mg "times_summed" = some (.ref (He.ga K "times_summed")) := let ⟨_, X, G⟩ := T.hg; He.glo_ok X G (T.c.fact 18 (f := .glo "times_summed") rfl)
theorem Tx.g_steered_by : mg "steered_by" = some (.ref (He.ga K "steered_by")) := let ⟨_, X, G⟩ := T.hg; He.glo_ok X G (T.c.fact 19 (f := .glo "steered_by") rfl)
theorem Tx.g_place_of : mg "place_of" = some (.ref (He.ga K "place_of")) := let ⟨_, X, G⟩ := T.hg; He.glo_ok X G (T.c.fact 20 (f := .glo "place_of") rfl)
theorem Tx.g_whole_bytes : mg "whole_bytes" = some (.ref (He.ga K "whole_bytes")) := let ⟨_, X, G⟩ := T.hg; He.glo_ok X G (T.c.fact 21 (f := .glo "whole_bytes") rfl)
theorem Tx.g_with_bytes_behind : mg "with_bytes_behind" = some (.ref (He.ga K "with_bytes_behind")) := let ⟨_, X, G⟩ := T.hg; He.glo_ok X G (T.c.fact 22 (f := .glo "with_bytes_behind") rfl)
theorem Tx.g_has_default : mg "has_default" = some (.ref (He.ga K "has_default")) := let ⟨_, X, G⟩ := T.hg; He.glo_ok X G (T.c.fact 23 (f := .glo "has_default") rfl)
theorem Tx.g_inner_lengths : mg "inner_lengths" = some (.ref (He.ga K "inner_lengths")) := let ⟨_, X, G⟩ := T.hg; He.glo_ok X G (T.c.fact 24 (f := .glo "inner_lengths") rfl)
theorem Tx.g_possible : mg "possible" = some (.ref (He.ga K "possible")) := let ⟨_, X, G⟩ := T.hg; He.glo_ok X G (T.c.fact 25 (f := .glo "possible") rfl)
theorem Tx.g_lets_of : mg "lets_of" = some (.ref (He.ga K "lets_of")) := let ⟨_, X, G⟩ := T.hg; He.glo_ok X G (T.c.fact 26 (f := .glo "lets_of") rfl)
theorem Tx.g_let_of : mg "let_of" = some (.ref (He.ga K "let_of")) := let ⟨_, X, G⟩ := T.hg; He.glo_ok X G (T.c.fact 27 (f := .glo "let_of") rfl)
theorem Tx.g_text_lengths : mg "text_lengths" = some (.ref (He.ga K "text_lengths")) := let ⟨_, X, G⟩ := T.hg; He.glo_ok X G (T.c.fact 28 (f := .glo "text_lengths") rfl)
theorem Tx.g_row_lengths : mg "row_lengths" = some (.ref (He.ga K "row_lengths")) := let ⟨_, X, G⟩ := T.hg; He.glo_ok X G (T.c.fact 29 (f := .glo "row_lengths") rfl)
theorem Tx.g_case_lengths : mg "case_lengths" = some (.ref (He.ga K "case_lengths")) := let ⟨_, X, G⟩ := T.hg; He.glo_ok X G (T.c.fact 30 (f := .glo "case_lengths") rfl)
theorem Tx.g_lengths_of : mg "lengths_of" = some (.ref (He.ga K "lengths_of")) := let ⟨_, X, G⟩ := T.hg; He.glo_ok X G (T.c.fact 31 (f := .glo "lengths_of") rfl)
theorem Tx.g_list_lengths : mg "list_lengths" = some (.ref (He.ga K "list_lengths")) := let ⟨_, X, G⟩ := T.hg; He.glo_ok X G (T.c.fact 32 (f := .glo "list_lengths") rfl)
theorem Tx.g_is_number : mg "is_number" = some (.ref (He.ga K "is_number")) := let ⟨_, X, G⟩ := T.hg; He.glo_ok X G (T.c.fact 33 (f := .glo "is_number") rfl)
theorem Tx.g_further : mg "further" = some (.ref (He.ga K "further")) := let ⟨_, X, G⟩ := T.hg; He.glo_ok X G (T.c.fact 34 (f := .glo "further") rfl)
theorem Tx.g_lets_for : mg "lets_for" = some (.ref (He.ga K "lets_for")) := let ⟨_, X, G⟩ := T.hg; He.glo_ok X G (T.c.fact 35 (f := .glo "lets_for") rfl)
theorem Tx.g_number_misfit : mg "number_misfit" = some (.ref (He.ga K "number_misfit")) := let ⟨_, X, G⟩ := T.hg; He.glo_ok X G (T.c.fact 36 (f := .glo "number_misfit") rfl)
theorem Tx.g_fits_count : mg "fits_count" = some (.ref (He.ga K "fits_count")) := let ⟨_, X, G⟩ := T.hg; He.glo_ok X G (T.c.fact 37 (f := .glo "fits_count") rfl)
theorem Tx.g_text_misfit : mg "text_misfit" = some (.ref (He.ga K "text_misfit")) := let ⟨_, X, G⟩ := T.hg; He.glo_ok X G (T.c.fact 38 (f := .glo "text_misfit") rfl)
theorem Tx.g_row_misfit : mg "row_misfit" = some (.ref (He.ga K "row_misfit")) := let ⟨_, X, G⟩ := T.hg; He.glo_ok X G (T.c.fact 39 (f := .glo "row_misfit") rfl)
theorem Tx.g_choice_misfit : mg "choice_misfit" = some (.ref (He.ga K "choice_misfit")) := let ⟨_, X, G⟩ := T.hg; He.glo_ok X G (T.c.fact 40 (f := .glo "choice_misfit") rfl)
theorem Tx.g_maybe_misfit : mg "maybe_misfit" = some (.ref (He.ga K "maybe_misfit")) := let ⟨_, X, G⟩ := T.hg; He.glo_ok X G (T.c.fact 41 (f := .glo "maybe_misfit") rfl)
theorem Tx.g_sized_misfit : mg "sized_misfit" = some (.ref (He.ga K "sized_misfit")) := let ⟨_, X, G⟩ := T.hg; He.glo_ok X G (T.c.fact 42 (f := .glo "sized_misfit") rfl)
theorem Tx.g_field_misfit : mg "field_misfit" = some (.ref (He.ga K "field_misfit")) := let ⟨_, X, G⟩ := T.hg; He.glo_ok X G (T.c.fact 43 (f := .glo "field_misfit") rfl)
theorem Tx.g_lacking : mg "lacking" = some (.ref (He.ga K "lacking")) := let ⟨_, X, G⟩ := T.hg; He.glo_ok X G (T.c.fact 44 (f := .glo "lacking") rfl)
theorem Tx.g_is_rest : mg "is_rest" = some (.ref (He.ga K "is_rest")) := let ⟨_, X, G⟩ := T.hg; He.glo_ok X G (T.c.fact 45 (f := .glo "is_rest") rfl)
theorem Tx.g_keys_fit : mg "keys_fit" = some (.ref (He.ga K "keys_fit")) := let ⟨_, X, G⟩ := T.hg; He.glo_ok X G (T.c.fact 46 (f := .glo "keys_fit") rfl)
theorem Tx.g_list_misfit : mg "list_misfit" = some (.ref (He.ga K "list_misfit")) := let ⟨_, X, G⟩ := T.hg; He.glo_ok X G (T.c.fact 47 (f := .glo "list_misfit") rfl)
theorem Tx.g_misfit : mg "misfit" = some (.ref (He.ga K "misfit")) := let ⟨_, X, G⟩ := T.hg; He.glo_ok X G (T.c.fact 48 (f := .glo "misfit") rfl)
theorem Tx.g_power_of : mg "power_of" = some (.ref (He.ga K "power_of")) := let ⟨_, X, G⟩ := T.hg; He.glo_ok X G (T.c.fact 49 (f := .glo "power_of") rfl)
theorem Tx.g__law_cell_at : mg "_law_cell_at" = some (.ref (He.ga K "_law_cell_at")) := let ⟨_, X, G⟩ := T.hg; He.glo_ok X G (T.c.fact 50 (f := .glo "_law_cell_at") rfl)
theorem Tx.g__law_next : mg "_law_next" = some (.ref (He.ga K "_law_next")) := let ⟨_, X, G⟩ := T.hg; He.glo_ok X G (T.c.fact 51 (f := .glo "_law_next") rfl)
theorem Tx.g__law_name : mg "_law_name" = some (.ref (He.ga K "_law_name")) := let ⟨_, X, G⟩ := T.hg; He.glo_ok X G (T.c.fact 52 (f := .glo "_law_name") rfl)
theorem Tx.g__law_number : mg "_law_number" = some (.ref (He.ga K "_law_number")) := let ⟨_, X, G⟩ := T.hg; He.glo_ok X G (T.c.fact 53 (f := .glo "_law_number") rfl)
theorem Tx.g__law_control : mg "_law_control" = some (.ref (He.ga K "_law_control")) := let ⟨_, X, G⟩ := T.hg; He.glo_ok X G (T.c.fact 54 (f := .glo "_law_control") rfl)
theorem Tx.g__law_leaf : mg "_law_leaf" = some (.ref (He.ga K "_law_leaf")) := let ⟨_, X, G⟩ := T.hg; He.glo_ok X G (T.c.fact 55 (f := .glo "_law_leaf") rfl)
theorem Tx.g__law_row : mg "_law_row" = some (.ref (He.ga K "_law_row")) := let ⟨_, X, G⟩ := T.hg; He.glo_ok X G (T.c.fact 56 (f := .glo "_law_row") rfl)
theorem Tx.g__law_choice : mg "_law_choice" = some (.ref (He.ga K "_law_choice")) := let ⟨_, X, G⟩ := T.hg; He.glo_ok X G (T.c.fact 57 (f := .glo "_law_choice") rfl)
theorem Tx.g__law_sized : mg "_law_sized" = some (.ref (He.ga K "_law_sized")) := let ⟨_, X, G⟩ := T.hg; He.glo_ok X G (T.c.fact 58 (f := .glo "_law_sized") rfl)
theorem Tx.g__law_grow : mg "_law_grow" = some (.ref (He.ga K "_law_grow")) := let ⟨_, X, G⟩ := T.hg; He.glo_ok X G (T.c.fact 59 (f := .glo "_law_grow") rfl)
theorem Tx.g__law_unit : mg "_law_unit" = some (.ref (He.ga K "_law_unit")) := let ⟨_, X, G⟩ := T.hg; He.glo_ok X G (T.c.fact 60 (f := .glo "_law_unit") rfl)
theorem Tx.g__law_list : mg "_law_list" = some (.ref (He.ga K "_law_list")) := let ⟨_, X, G⟩ := T.hg; He.glo_ok X G (T.c.fact 61 (f := .glo "_law_list") rfl)
theorem Tx.g__law_layout : mg "_law_layout" = some (.ref (He.ga K "_law_layout")) := let ⟨_, X, G⟩ := T.hg; He.glo_ok X G (T.c.fact 62 (f := .glo "_law_layout") rfl)
theorem Tx.g__law_most : mg "_law_most" = some (.ref (He.ga K "_law_most")) := let ⟨_, X, G⟩ := T.hg; He.glo_ok X G (T.c.fact 63 (f := .glo "_law_most") rfl)
theorem Tx.g__law_greatest : mg "_law_greatest" = some (.ref (He.ga K "_law_greatest")) := let ⟨_, X, G⟩ := T.hg; He.glo_ok X G (T.c.fact 64 (f := .glo "_law_greatest") rfl)
theorem Tx.g__law_told : mg "_law_told" = some (.ref (He.ga K "_law_told")) := let ⟨_, X, G⟩ := T.hg; He.glo_ok X G (T.c.fact 65 (f := .glo "_law_told") rfl)
theorem Tx.g__law_let : mg "_law_let" = some (.ref (He.ga K "_law_let")) := let ⟨_, X, G⟩ := T.hg; He.glo_ok X G (T.c.fact 66 (f := .glo "_law_let") rfl)
theorem Tx.g__law_text : mg "_law_text" = some (.ref (He.ga K "_law_text")) := let ⟨_, X, G⟩ := T.hg; He.glo_ok X G (T.c.fact 67 (f := .glo "_law_text") rfl)
theorem Tx.g__law_count : mg "_law_count" = some (.ref (He.ga K "_law_count")) := let ⟨_, X, G⟩ := T.hg; He.glo_ok X G (T.c.fact 68 (f := .glo "_law_count") rfl)
theorem Tx.g__law_value : mg "_law_value" = some (.ref (He.ga K "_law_value")) := let ⟨_, X, G⟩ := T.hg; He.glo_ok X G (T.c.fact 69 (f := .glo "_law_value") rfl)
theorem Tx.g__law_grown : mg "_law_grown" = some (.ref (He.ga K "_law_grown")) := let ⟨_, X, G⟩ := T.hg; He.glo_ok X G (T.c.fact 70 (f := .glo "_law_grown") rfl)
theorem Tx.g__law_plain : mg "_law_plain" = some (.ref (He.ga K "_law_plain")) := let ⟨_, X, G⟩ := T.hg; He.glo_ok X G (T.c.fact 71 (f := .glo "_law_plain") rfl)
theorem Tx.g__law_dict : mg "_law_dict" = some (.ref (He.ga K "_law_dict")) := let ⟨_, X, G⟩ := T.hg; He.glo_ok X G (T.c.fact 72 (f := .glo "_law_dict") rfl)
theorem Tx.g__law_one_width : mg "_law_one_width" = some (.ref (He.ga K "_law_one_width")) := let ⟨_, X, G⟩ := T.hg; He.glo_ok X G (T.c.fact 73 (f := .glo "_law_one_width") rfl)
theorem Tx.g__law_width : mg "_law_width" = some (.ref (He.ga K "_law_width")) := let ⟨_, X, G⟩ := T.hg; He.glo_ok X G (T.c.fact 74 (f := .glo "_law_width") rfl)
theorem Tx.g__law_places : mg "_law_places" = some (.ref (He.ga K "_law_places")) := let ⟨_, X, G⟩ := T.hg; He.glo_ok X G (T.c.fact 75 (f := .glo "_law_places") rfl)
theorem Tx.g__law_stands : mg "_law_stands" = some (.ref (He.ga K "_law_stands")) := let ⟨_, X, G⟩ := T.hg; He.glo_ok X G (T.c.fact 76 (f := .glo "_law_stands") rfl)
theorem Tx.g_law : mg "law" = some (.ref (He.ga K "law")) := let ⟨_, X, G⟩ := T.hg; He.glo_ok X G (T.c.fact 77 (f := .glo "law") rfl)
theorem Tx.g_Field : mg "Field" = some (.ref (He.ga K "Field")) := let ⟨_, X, G⟩ := T.hg; He.glo_ok X G (T.c.fact 78 (f := .glo "Field") rfl)
theorem Tx.g_Number : mg "Number" = some (.ref (He.ga K "Number")) := let ⟨_, X, G⟩ := T.hg; He.glo_ok X G (T.c.fact 79 (f := .glo "Number") rfl)
theorem Tx.g_Seven : mg "Seven" = some (.ref (He.ga K "Seven")) := let ⟨_, X, G⟩ := T.hg; He.glo_ok X G (T.c.fact 80 (f := .glo "Seven") rfl)
theorem Tx.g_Text : mg "Text" = some (.ref (He.ga K "Text")) := let ⟨_, X, G⟩ := T.hg; He.glo_ok X G (T.c.fact 81 (f := .glo "Text") rfl)
theorem Tx.g_Row : mg "Row" = some (.ref (He.ga K "Row")) := let ⟨_, X, G⟩ := T.hg; He.glo_ok X G (T.c.fact 82 (f := .glo "Row") rfl)
theorem Tx.g_Choice : mg "Choice" = some (.ref (He.ga K "Choice")) := let ⟨_, X, G⟩ := T.hg; He.glo_ok X G (T.c.fact 83 (f := .glo "Choice") rfl)
theorem Tx.g_Maybe : mg "Maybe" = some (.ref (He.ga K "Maybe")) := let ⟨_, X, G⟩ := T.hg; He.glo_ok X G (T.c.fact 84 (f := .glo "Maybe") rfl)
theorem Tx.g_Group : mg "Group" = some (.ref (He.ga K "Group")) := let ⟨_, X, G⟩ := T.hg; He.glo_ok X G (T.c.fact 85 (f := .glo "Group") rfl)
theorem Tx.g_Sized : mg "Sized" = some (.ref (He.ga K "Sized")) := let ⟨_, X, G⟩ := T.hg; He.glo_ok X G (T.c.fact 86 (f := .glo "Sized") rfl)
theorem Tx.g_Check : mg "Check" = some (.ref (He.ga K "Check")) := let ⟨_, X, G⟩ := T.hg; He.glo_ok X G (T.c.fact 87 (f := .glo "Check") rfl)
theorem Tx.g_Spot : mg "Spot" = some (.ref (He.ga K "Spot")) := let ⟨_, X, G⟩ := T.hg; He.glo_ok X G (T.c.fact 88 (f := .glo "Spot") rfl)
theorem Tx.g_Layout : mg "Layout" = some (.ref (He.ga K "Layout")) := let ⟨_, X, G⟩ := T.hg; He.glo_ok X G (T.c.fact 89 (f := .glo "Layout") rfl)
theorem Tx.b_len : mg "len" = none := let ⟨_, X, G⟩ := T.hg; He.free_ok X G (T.c.fact 90 (f := .free "len") rfl)
theorem Tx.b_isinstance : mg "isinstance" = none := let ⟨_, X, G⟩ := T.hg; He.free_ok X G (T.c.fact 91 (f := .free "isinstance") rfl)
theorem Tx.b_int : mg "int" = none := let ⟨_, X, G⟩ := T.hg; He.free_ok X G (T.c.fact 92 (f := .free "int") rfl)
theorem Tx.b_bool : mg "bool" = none := let ⟨_, X, G⟩ := T.hg; He.free_ok X G (T.c.fact 93 (f := .free "bool") rfl)
theorem Tx.b_str : mg "str" = none := let ⟨_, X, G⟩ := T.hg; He.free_ok X G (T.c.fact 94 (f := .free "str") rfl)
theorem Tx.b_list : mg "list" = none := let ⟨_, X, G⟩ := T.hg; He.free_ok X G (T.c.fact 95 (f := .free "list") rfl)
theorem Tx.b_tuple : mg "tuple" = none := let ⟨_, X, G⟩ := T.hg; He.free_ok X G (T.c.fact 96 (f := .free "tuple") rfl)
theorem Tx.b_dict : mg "dict" = none := let ⟨_, X, G⟩ := T.hg; He.free_ok X G (T.c.fact 97 (f := .free "dict") rfl)
theorem Tx.b_range : mg "range" = none := let ⟨_, X, G⟩ := T.hg; He.free_ok X G (T.c.fact 98 (f := .free "range") rfl)
theorem Tx.b_sum : mg "sum" = none := let ⟨_, X, G⟩ := T.hg; He.free_ok X G (T.c.fact 99 (f := .free "sum") rfl)
theorem Tx.b_min : mg "min" = none := let ⟨_, X, G⟩ := T.hg; He.free_ok X G (T.c.fact 100 (f := .free "min") rfl)
theorem Tx.b_max : mg "max" = none := let ⟨_, X, G⟩ := T.hg; He.free_ok X G (T.c.fact 101 (f := .free "max") rfl)
theorem Tx.b_sorted : mg "sorted" = none := let ⟨_, X, G⟩ := T.hg; He.free_ok X G (T.c.fact 102 (f := .free "sorted") rfl)
theorem Tx.b_enumerate : mg "enumerate" = none := let ⟨_, X, G⟩ := T.hg; He.free_ok X G (T.c.fact 103 (f := .free "enumerate") rfl)
theorem Tx.b_all : mg "all" = none := let ⟨_, X, G⟩ := T.hg; He.free_ok X G (T.c.fact 104 (f := .free "all") rfl)
theorem Tx.b_ord : mg "ord" = none := let ⟨_, X, G⟩ := T.hg; He.free_ok X G (T.c.fact 105 (f := .free "ord") rfl)
theorem Tx.b_abs : mg "abs" = none := let ⟨_, X, G⟩ := T.hg; He.free_ok X G (T.c.fact 106 (f := .free "abs") rfl)
theorem Tx.c_MOST_BITS : ∃ t, mg "MOST_BITS" = some (.int 2040 t) := let ⟨_, X, G⟩ := T.hg; He.int_ok X G (T.c.fact 107 (f := .int "MOST_BITS" 2040) rfl)
theorem Tx.c_MOST_SIGNS : ∃ t, mg "MOST_SIGNS" = some (.int 60 t) := let ⟨_, X, G⟩ := T.hg; He.int_ok X G (T.c.fact 108 (f := .int "MOST_SIGNS" 60) rfl)
theorem Tx.c_MOST_ITEMS : ∃ t, mg "MOST_ITEMS" = some (.int 40 t) := let ⟨_, X, G⟩ := T.hg; He.int_ok X G (T.c.fact 109 (f := .int "MOST_ITEMS" 40) rfl)
theorem Tx.c_BYTE : ∃ t, mg "BYTE" = some (.int 8 t) := let ⟨_, X, G⟩ := T.hg; He.int_ok X G (T.c.fact 110 (f := .int "BYTE" 8) rfl)
theorem Tx.c_PERCENT : ∃ t, mg "PERCENT" = some (.int 37 t) := let ⟨_, X, G⟩ := T.hg; He.int_ok X G (T.c.fact 111 (f := .int "PERCENT" 37) rfl)
theorem Tx.cl_Number : Cls K (He.ga K "Number") := He.cls_ok (T.c.fact 112 (f := .cls "Number") rfl)
theorem Tx.mk_Number : Mk K (He.ga K "Number") (He.fAd K ("Number", some "__init__")) := He.mkr_ok (T.c.fact 113 (f := .mkr "Number") rfl)
theorem Tx.na_Number_name : NoAttr K (He.ga K "Number") "name" := He.noat_ok (T.c.fact 114 (f := .noat "Number" "name") rfl)
theorem Tx.na_Number_width : NoAttr K (He.ga K "Number") "width" := He.noat_ok (T.c.fact 115 (f := .noat "Number" "width") rfl)
theorem Tx.na_Number_signed : NoAttr K (He.ga K "Number") "signed" := He.noat_ok (T.c.fact 116 (f := .noat "Number" "signed") rfl)
theorem Tx.na_Number_little : NoAttr K (He.ga K "Number") "little" := He.noat_ok (T.c.fact 117 (f := .noat "Number" "little") rfl)
theorem Tx.na_Number_low : NoAttr K (He.ga K "Number") "low" := He.noat_ok (T.c.fact 118 (f := .noat "Number" "low") rfl)
theorem Tx.na_Number_high : NoAttr K (He.ga K "Number") "high" := He.noat_ok (T.c.fact 119 (f := .noat "Number" "high") rfl)
theorem Tx.na_Number_default : NoAttr K (He.ga K "Number") "default" := He.noat_ok (T.c.fact 120 (f := .noat "Number" "default") rfl)
theorem Tx.cl_Seven : Cls K (He.ga K "Seven") := He.cls_ok (T.c.fact 121 (f := .cls "Seven") rfl)
theorem Tx.mk_Seven : Mk K (He.ga K "Seven") (He.fAd K ("Seven", some "__init__")) := He.mkr_ok (T.c.fact 122 (f := .mkr "Seven") rfl)
theorem Tx.na_Seven_name : NoAttr K (He.ga K "Seven") "name" := He.noat_ok (T.c.fact 123 (f := .noat "Seven" "name") rfl)
theorem Tx.na_Seven_high : NoAttr K (He.ga K "Seven") "high" := He.noat_ok (T.c.fact 124 (f := .noat "Seven" "high") rfl)
theorem Tx.na_Seven_loose : NoAttr K (He.ga K "Seven") "loose" := He.noat_ok (T.c.fact 125 (f := .noat "Seven" "loose") rfl)
theorem Tx.na_Seven_default : NoAttr K (He.ga K "Seven") "default" := He.noat_ok (T.c.fact 126 (f := .noat "Seven" "default") rfl)
theorem Tx.cl_Text : Cls K (He.ga K "Text") := He.cls_ok (T.c.fact 127 (f := .cls "Text") rfl)
theorem Tx.mk_Text : Mk K (He.ga K "Text") (He.fAd K ("Text", some "__init__")) := He.mkr_ok (T.c.fact 128 (f := .mkr "Text") rfl)
theorem Tx.na_Text_name : NoAttr K (He.ga K "Text") "name" := He.noat_ok (T.c.fact 129 (f := .noat "Text" "name") rfl)
theorem Tx.na_Text_how : NoAttr K (He.ga K "Text") "how" := He.noat_ok (T.c.fact 130 (f := .noat "Text" "how") rfl)
theorem Tx.na_Text_count : NoAttr K (He.ga K "Text") "count" := He.noat_ok (T.c.fact 131 (f := .noat "Text" "count") rfl)
theorem Tx.na_Text_default : NoAttr K (He.ga K "Text") "default" := He.noat_ok (T.c.fact 132 (f := .noat "Text" "default") rfl)
theorem Tx.cl_Row : Cls K (He.ga K "Row") := He.cls_ok (T.c.fact 133 (f := .cls "Row") rfl)
theorem Tx.mk_Row : Mk K (He.ga K "Row") (He.fAd K ("Row", some "__init__")) := He.mkr_ok (T.c.fact 134 (f := .mkr "Row") rfl)
theorem Tx.na_Row_name : NoAttr K (He.ga K "Row") "name" := He.noat_ok (T.c.fact 135 (f := .noat "Row" "name") rfl)
theorem Tx.na_Row_how : NoAttr K (He.ga K "Row") "how" := He.noat_ok (T.c.fact 136 (f := .noat "Row" "how") rfl)
theorem Tx.na_Row_count : NoAttr K (He.ga K "Row") "count" := He.noat_ok (T.c.fact 137 (f := .noat "Row" "count") rfl)
theorem Tx.na_Row_fields : NoAttr K (He.ga K "Row") "fields" := He.noat_ok (T.c.fact 138 (f := .noat "Row" "fields") rfl)
theorem Tx.na_Row_mark : NoAttr K (He.ga K "Row") "mark" := He.noat_ok (T.c.fact 139 (f := .noat "Row" "mark") rfl)
theorem Tx.cl_Choice : Cls K (He.ga K "Choice") := He.cls_ok (T.c.fact 140 (f := .cls "Choice") rfl)
theorem Tx.mk_Choice : Mk K (He.ga K "Choice") (He.fAd K ("Choice", some "__init__")) := He.mkr_ok (T.c.fact 141 (f := .mkr "Choice") rfl)
theorem Tx.na_Choice_name : NoAttr K (He.ga K "Choice") "name" := He.noat_ok (T.c.fact 142 (f := .noat "Choice" "name") rfl)
theorem Tx.na_Choice_control : NoAttr K (He.ga K "Choice") "control" := He.noat_ok (T.c.fact 143 (f := .noat "Choice" "control") rfl)
theorem Tx.na_Choice_cases : NoAttr K (He.ga K "Choice") "cases" := He.noat_ok (T.c.fact 144 (f := .noat "Choice" "cases") rfl)
theorem Tx.cl_Maybe : Cls K (He.ga K "Maybe") := He.cls_ok (T.c.fact 145 (f := .cls "Maybe") rfl)
theorem Tx.mk_Maybe : Mk K (He.ga K "Maybe") (He.fAd K ("Maybe", some "__init__")) := He.mkr_ok (T.c.fact 146 (f := .mkr "Maybe") rfl)
theorem Tx.na_Maybe_name : NoAttr K (He.ga K "Maybe") "name" := He.noat_ok (T.c.fact 147 (f := .noat "Maybe" "name") rfl)
theorem Tx.na_Maybe_control : NoAttr K (He.ga K "Maybe") "control" := He.noat_ok (T.c.fact 148 (f := .noat "Maybe" "control") rfl)
theorem Tx.na_Maybe_fields : NoAttr K (He.ga K "Maybe") "fields" := He.noat_ok (T.c.fact 149 (f := .noat "Maybe" "fields") rfl)
theorem Tx.cl_Group : Cls K (He.ga K "Group") := He.cls_ok (T.c.fact 150 (f := .cls "Group") rfl)
theorem Tx.mk_Group : Mk K (He.ga K "Group") (He.fAd K ("Group", some "__init__")) := He.mkr_ok (T.c.fact 151 (f := .mkr "Group") rfl)
theorem Tx.na_Group_name : NoAttr K (He.ga K "Group") "name" := He.noat_ok (T.c.fact 152 (f := .noat "Group" "name") rfl)
theorem Tx.na_Group_fields : NoAttr K (He.ga K "Group") "fields" := He.noat_ok (T.c.fact 153 (f := .noat "Group" "fields") rfl)
theorem Tx.cl_Sized : Cls K (He.ga K "Sized") := He.cls_ok (T.c.fact 154 (f := .cls "Sized") rfl)
theorem Tx.mk_Sized : Mk K (He.ga K "Sized") (He.fAd K ("Sized", some "__init__")) := He.mkr_ok (T.c.fact 155 (f := .mkr "Sized") rfl)
theorem Tx.na_Sized_name : NoAttr K (He.ga K "Sized") "name" := He.noat_ok (T.c.fact 156 (f := .noat "Sized" "name") rfl)
theorem Tx.na_Sized_control : NoAttr K (He.ga K "Sized") "control" := He.noat_ok (T.c.fact 157 (f := .noat "Sized" "control") rfl)
theorem Tx.na_Sized_fields : NoAttr K (He.ga K "Sized") "fields" := He.noat_ok (T.c.fact 158 (f := .noat "Sized" "fields") rfl)
theorem Tx.na_Sized_grows : NoAttr K (He.ga K "Sized") "grows" := He.noat_ok (T.c.fact 159 (f := .noat "Sized" "grows") rfl)
theorem Tx.cl_Check : Cls K (He.ga K "Check") := He.cls_ok (T.c.fact 160 (f := .cls "Check") rfl)
theorem Tx.mk_Check : Mk K (He.ga K "Check") (He.fAd K ("Check", some "__init__")) := He.mkr_ok (T.c.fact 161 (f := .mkr "Check") rfl)
theorem Tx.na_Check_name : NoAttr K (He.ga K "Check") "name" := He.noat_ok (T.c.fact 162 (f := .noat "Check" "name") rfl)
theorem Tx.na_Check_how : NoAttr K (He.ga K "Check") "how" := He.noat_ok (T.c.fact 163 (f := .noat "Check" "how") rfl)
theorem Tx.na_Check_width : NoAttr K (He.ga K "Check") "width" := He.noat_ok (T.c.fact 164 (f := .noat "Check" "width") rfl)
theorem Tx.na_Check_first : NoAttr K (He.ga K "Check") "first" := He.noat_ok (T.c.fact 165 (f := .noat "Check" "first") rfl)
theorem Tx.cl_Spot : Cls K (He.ga K "Spot") := He.cls_ok (T.c.fact 166 (f := .cls "Spot") rfl)
theorem Tx.mk_Spot : Mk K (He.ga K "Spot") (He.fAd K ("Spot", some "__init__")) := He.mkr_ok (T.c.fact 167 (f := .mkr "Spot") rfl)
theorem Tx.na_Spot_name : NoAttr K (He.ga K "Spot") "name" := He.noat_ok (T.c.fact 168 (f := .noat "Spot" "name") rfl)
theorem Tx.na_Spot_width : NoAttr K (He.ga K "Spot") "width" := He.noat_ok (T.c.fact 169 (f := .noat "Spot" "width") rfl)
theorem Tx.na_Spot_target : NoAttr K (He.ga K "Spot") "target" := He.noat_ok (T.c.fact 170 (f := .noat "Spot" "target") rfl)
theorem Tx.cl_Layout : Cls K (He.ga K "Layout") := He.cls_ok (T.c.fact 171 (f := .cls "Layout") rfl)
theorem Tx.mk_Layout : Mk K (He.ga K "Layout") (He.fAd K ("Layout", some "__init__")) := He.mkr_ok (T.c.fact 172 (f := .mkr "Layout") rfl)
theorem Tx.na_Layout_name : NoAttr K (He.ga K "Layout") "name" := He.noat_ok (T.c.fact 173 (f := .noat "Layout" "name") rfl)
theorem Tx.na_Layout_fields : NoAttr K (He.ga K "Layout") "fields" := He.noat_ok (T.c.fact 174 (f := .noat "Layout" "fields") rfl)
theorem Tx.me_Number_kind : Meth K (He.ga K "Number") "kind" (He.fAd K ("Number", some "kind")) := He.meth_ok (T.c.fact 175 (f := .meth "Number" "kind") rfl)
theorem Tx.me_Number_steers : Meth K (He.ga K "Number") "steers" (He.fAd K ("Number", some "steers")) := He.meth_ok (T.c.fact 176 (f := .meth "Number" "steers") rfl)
theorem Tx.me_Number_least : Meth K (He.ga K "Number") "least" (He.fAd K ("Number", some "least")) := He.meth_ok (T.c.fact 177 (f := .meth "Number" "least") rfl)
theorem Tx.me_Number_greatest : Meth K (He.ga K "Number") "greatest" (He.fAd K ("Number", some "greatest")) := He.meth_ok (T.c.fact 178 (f := .meth "Number" "greatest") rfl)
theorem Tx.me_Seven_kind : Meth K (He.ga K "Seven") "kind" (He.fAd K ("Seven", some "kind")) := He.meth_ok (T.c.fact 179 (f := .meth "Seven" "kind") rfl)
theorem Tx.me_Seven_steers : Meth K (He.ga K "Seven") "steers" (He.fAd K ("Seven", some "steers")) := He.meth_ok (T.c.fact 180 (f := .meth "Seven" "steers") rfl)
theorem Tx.me_Text_kind : Meth K (He.ga K "Text") "kind" (He.fAd K ("Text", some "kind")) := He.meth_ok (T.c.fact 181 (f := .meth "Text" "kind") rfl)
theorem Tx.me_Text_steers : Meth K (He.ga K "Text") "steers" (He.fAd K ("Text", some "steers")) := He.meth_ok (T.c.fact 182 (f := .meth "Text" "steers") rfl)
theorem Tx.me_Row_kind : Meth K (He.ga K "Row") "kind" (He.fAd K ("Row", some "kind")) := He.meth_ok (T.c.fact 183 (f := .meth "Row" "kind") rfl)
theorem Tx.me_Row_steers : Meth K (He.ga K "Row") "steers" (He.fAd K ("Row", some "steers")) := He.meth_ok (T.c.fact 184 (f := .meth "Row" "steers") rfl)
theorem Tx.me_Choice_kind : Meth K (He.ga K "Choice") "kind" (He.fAd K ("Choice", some "kind")) := He.meth_ok (T.c.fact 185 (f := .meth "Choice" "kind") rfl)
theorem Tx.me_Choice_steers : Meth K (He.ga K "Choice") "steers" (He.fAd K ("Choice", some "steers")) := He.meth_ok (T.c.fact 186 (f := .meth "Choice" "steers") rfl)
theorem Tx.me_Maybe_kind : Meth K (He.ga K "Maybe") "kind" (He.fAd K ("Maybe", some "kind")) := He.meth_ok (T.c.fact 187 (f := .meth "Maybe" "kind") rfl)
theorem Tx.me_Maybe_steers : Meth K (He.ga K "Maybe") "steers" (He.fAd K ("Maybe", some "steers")) := He.meth_ok (T.c.fact 188 (f := .meth "Maybe" "steers") rfl)
theorem Tx.me_Group_kind : Meth K (He.ga K "Group") "kind" (He.fAd K ("Group", some "kind")) := He.meth_ok (T.c.fact 189 (f := .meth "Group" "kind") rfl)
theorem Tx.me_Group_steers : Meth K (He.ga K "Group") "steers" (He.fAd K ("Group", some "steers")) := He.meth_ok (T.c.fact 190 (f := .meth "Group" "steers") rfl)
theorem Tx.me_Sized_kind : Meth K (He.ga K "Sized") "kind" (He.fAd K ("Sized", some "kind")) := He.meth_ok (T.c.fact 191 (f := .meth "Sized" "kind") rfl)
theorem Tx.me_Sized_steers : Meth K (He.ga K "Sized") "steers" (He.fAd K ("Sized", some "steers")) := He.meth_ok (T.c.fact 192 (f := .meth "Sized" "steers") rfl)
theorem Tx.me_Check_kind : Meth K (He.ga K "Check") "kind" (He.fAd K ("Check", some "kind")) := He.meth_ok (T.c.fact 193 (f := .meth "Check" "kind") rfl)
theorem Tx.me_Check_steers : Meth K (He.ga K "Check") "steers" (He.fAd K ("Check", some "steers")) := He.meth_ok (T.c.fact 194 (f := .meth "Check" "steers") rfl)
theorem Tx.me_Spot_kind : Meth K (He.ga K "Spot") "kind" (He.fAd K ("Spot", some "kind")) := He.meth_ok (T.c.fact 195 (f := .meth "Spot" "kind") rfl)
theorem Tx.me_Spot_steers : Meth K (He.ga K "Spot") "steers" (He.fAd K ("Spot", some "steers")) := He.meth_ok (T.c.fact 196 (f := .meth "Spot" "steers") rfl)
end
end Fk

set_option Elab.async false
set_option linter.all false
set_option maxRecDepth 100000
set_option maxHeartbeats 0
namespace FkHead
open PySem PySem.W PySem.Calls PyProof.Rows
abbrev R : OpenRow := OpenLaw.row PySem.Challenge.rw_formkeep_k45_whole_fits_stand_in_lengths
abbrev qv : Program := view R.prog [102]
def names0 : List PySem.Str := ["_wall", "told_fields", "default_of", "seven_bytes", "mark_width", "text_width", "field_width", "case_fields", "width_for", "control_number", "filled_of", "field_full"]
def names1 : List PySem.Str := ["list_full", "full", "order_of_sevens", "sevens", "MOST_BITS", "MOST_SIGNS", "MOST_ITEMS", "BYTE", "cut", "members", "summed", "times_summed"]
def names2 : List PySem.Str := ["steered_by", "place_of", "whole_bytes", "with_bytes_behind", "has_default", "inner_lengths", "possible", "lets_of", "let_of", "text_lengths", "row_lengths", "case_lengths"]
def names3 : List PySem.Str := ["lengths_of", "list_lengths", "PERCENT", "is_number", "further", "lets_for", "number_misfit", "fits_count", "text_misfit", "row_misfit", "choice_misfit", "maybe_misfit"]
def names4 : List PySem.Str := ["sized_misfit", "field_misfit", "lacking", "is_rest", "keys_fit", "list_misfit", "misfit", "power_of", "Field", "Number", "Seven", "Text"]
def names5 : List PySem.Str := ["Row", "Choice", "Maybe", "Group", "Sized", "Check", "Spot", "Layout", "_law_cell_at", "_law_next", "_law_name", "_law_number"]
def names6 : List PySem.Str := ["_law_control", "_law_leaf", "_law_row", "_law_choice", "_law_sized", "_law_grow", "_law_unit", "_law_list", "_law_layout", "_law_most", "_law_greatest", "_law_told"]
def names7 : List PySem.Str := ["_law_let", "_law_text", "_law_count", "_law_value", "_law_grown", "_law_plain", "_law_dict", "_law_one_width", "_law_width", "_law_places", "_law_stands"]
def names : List PySem.Str := names0 ++ (names1 ++ (names2 ++ (names3 ++ (names4 ++ (names5 ++ (names6 ++ (names7)))))))
open He in
/-- the addresses that the facts lean on: the module's names, their codes and defaults; the classes' dicts, the methods, their codes and defaults -/
def fnRefs (o : Obj) : List Addr := match o.data with
  | .func fd => refV fd.code ++ refV fd.defaults
  | _ => []
open He in
def dictRefs (g : Addr → Option Obj) (a : Addr) : List Addr := match g a with
  | some ⟨_, _, .dict es _, _⟩ => es.toList.flatMap fun e => match e.val with
    | .ref b => b :: (match g b with
      | some o => fnRefs o
      | none => [])
    | _ => []
  | _ => []
def clsDicts (g : Addr → Option Obj) (as : List Addr) : List Addr := as.flatMap fun a => match g a with
  | some ⟨_, _, .cls cd, _⟩ => cd.ns :: dictRefs g cd.ns
  | _ => []
def asZ (g : Addr → Option Obj) : List Addr := (fun l => mainGlobals :: cStatics :: (l ++ clsDicts g l)) (dictRefs g mainGlobals)
abbrev AlZ : Type := He.AlD × Bool
def obsZ (fa : List He.Fa) (fn : List He.DefD) (ex : Frag → Bool) (g : Addr → Option Obj) : AlZ := (fun K => (He.obsD fa fn K, ex K)) (He.frG g (asZ g))
def hookZ (fa : List He.Fa) (fn : List He.DefD) (ex : Frag → Bool) : Hook where
  α := AlZ
  obs := fun s => obsZ fa fn ex s.heap.get?
  val := fun _ => (He.valD fn, true)
  says := fun _ h => ∃ K : Frag, K.In h ∧ He.SaysD fa fn K ∧ ex K = true
  of := fun _ _ e => ⟨_, He.frG_in, congrArg (fun z : AlZ => z.1) e, congrArg (fun z : AlZ => z.2) e⟩
  keeps := fun _ _ _ ⟨K, hK, c⟩ k => ⟨K, Frag.In.keeps hK k, c⟩
theorem obsZ_eq {fa : List He.Fa} {fn : List He.DefD} {ex : Frag → Bool} {g : Addr → Option Obj} {s : Shared} (h : ∀ a, g a = s.heap.get? a) : obsZ fa fn ex g = (hookZ fa fn ex).obs s := by
  have e : g = s.heap.get? := funext h
  rw [e]
  rfl
abbrev hk : Hook := hookZ Fk.faL Fk.fnL Fk.exB
def ob (s : SharedT) : AlZ := obsZ Fk.faL Fk.fnL Fk.exB (HandSHeadRun.getT s)
theorem ob_eq (s : SharedT) : ob s = hk.obs s.abs := obsZ_eq (HandSHeadRun.getT_eq s)
theorem run (w : World) : HandSHeadRun.RunEq R qv hk ob 20000 names w := by
  intro os
  kernel_rfl
end FkHead

set_option Elab.async false
set_option linter.all false
set_option maxRecDepth 100000
set_option maxHeartbeats 0
namespace FkTop
open PySem PySem.W PySem.Calls PyProof.Rows
abbrev d0 : DefRec := HandSHeadRun.topDef FkHead.R.prog 102
theorem name_eq : d0.name = ("law" : PySem.Str) := by kernel_rfl
theorem h1 : opening FkHead.R.prog = plainProg FkHead.R.prog.main.scope.names := by kernel_rfl
theorem h2 : ∀ s, fenceModules? FkHead.R.prog s = some s := fun s => by kernel_rfl
theorem h3 : defOf FkHead.qv FkHead.R.name = some (d0, []) := by kernel_rfl
theorem h4 : FkHead.R.prog.theDef FkHead.R.name = some (d0.params, d0.body, d0.scope) := by kernel_rfl
theorem h5 : kwWritten? d0.params.kwonlyargs d0.params.kw_defaults = some [] := by kernel_rfl
theorem h6 : (!FkHead.R.writes || FkHead.R.records.isEmpty) = true := by rfl
theorem h8 : (chainsOk FkHead.qv && opensWell FkHead.R.prog && (frees FkHead.R.toRowW && FkHead.R.within.isEmpty)) = true := by decide +kernel
theorem h9 : FkHead.R.prog.bare := ⟨rfl, rfl, rfl, rfl, rfl, by decide +kernel⟩
theorem h10 : FkHead.R.toRowW.promised := by w_witness2
theorem top (h7 : FkHead.R.wellSaid = true) (call : WalkO FkHead.qv FkHead.names (XL FkHead.qv []) FkHead.hk.says FkHead.R.toRowW d0 [] fun f vs => PySem.call f vs) : FkHead.R.Holds :=
  HandSHeadRun.head_any (r := FkHead.R) (q := FkHead.qv) (H := FkHead.hk) (ob := FkHead.ob) (M := 20000) (loose := FkHead.names) (d := d0) (kwd := []) FkHead.ob_eq h1 h2 FkHead.run h3 h4 h5 h6 h7 h8 h9 h10 call
theorem holds_of (call : WalkO FkHead.qv FkHead.names (XL FkHead.qv []) FkHead.hk.says FkHead.R.toRowW d0 [] fun f vs => PySem.call f vs) : PySem.Challenge.rw_formkeep_k45_whole_fits_stand_in_lengths.Holds := by
  w_on; o_law
  exact top (by assumption) call
end FkTop

set_option Elab.async false
set_option linter.all false
set_option maxRecDepth 100000
set_option maxHeartbeats 4000000
namespace Fk
open PySem PySem.Spec PyProof.Rows L2
/-! ### promises by name -/
section
variable (P : Program) (w : World) (K : PySem.W.Frag) (mg : Str → Option Value) (base : Heap)
/-- the module's def x keeps sp -/
def Pr (k : Nat) (x : Str) (sp : Sp) : Prop :=
  mg x = some (.ref (He.ga K x)) ∧ PySem.W.keepIn K (.ref (He.ga K x)) = true ∧ ∃ fd ps, FnOk P w K mg base CX0 k (He.ga K x) fd ps sp ∧ Binds K fd ps []
/-- a new instance of the class C: its address goes to Q -/
def PrNew (k : Nat) (C : Str) (sp : Sp) : Prop :=
  mg C = some (.ref (He.ga K C)) ∧ ∃ f fd ps dvs ds spI, Mk K (He.ga K C) f ∧ FnOk P w K mg base CX0 k f fd ps spI ∧ Binds K fd ps ds ∧ Vals dvs ds ∧
    ∀ vs H (Q : VK), sp vs H Q E0 → ∀ x dx, H x = none → H dx = none → dx ≠ x → spI (.ref x :: (vs ++ dvs)) (upd (upd H dx (.own x)) x (.ins (He.ga K C) dx [])) (fun v H2 => v = .non ∧ Q (.ref x) H2) E0
/-- a method without arguments, whatever the instance's class -/
def PrU (k : Nat) (m : Str) (sp : Sp) : Prop :=
  ∀ x H (Q : VK), sp [x] H Q E0 → ∃ a C dx fs f fd ps spm, x = .ref a ∧ H a = some (.ins C dx fs) ∧ fs.lookup m = none ∧ Cls K C ∧ Meth K C m f ∧ FnOk P w K mg base CX0 k f fd ps spm ∧ Binds K fd ps [] ∧ spm [x] H Q E0
/-- C.m as a plain def of the class C -/
def PrC (k : Nat) (C m : Str) (sp : Sp) : Prop :=
  mg C = some (.ref (He.ga K C)) ∧ ∃ f fd ps mc, PySem.W.readsIn K (He.ga K C) mc = true ∧ PySem.W.specialIn K (.ref (He.ga K C)) "__getattribute__" = some (some (.builtin "type.__getattribute__")) ∧
    PySem.W.findCls K (.ref (He.ga K C)) mc m = some (.val (.ref f)) ∧ PySem.W.keepIn K (.ref f) = true ∧ FnOk P w K mg base CX0 k f fd ps sp ∧ Binds K fd ps []
end
def tFn (sp : Sp) (t : TA) : TE := fun σ H Q => t σ H fun vs H1 => sp vs H1 Q E0
def tMU (sp : Sp) (ta : TE) : TE := fun σ H Q => ta σ H fun x H1 => sp [x] H1 Q E0
section
variable {X : Cx} {k : Nat} {x C m : Str} {sp : Sp} {p pos apos : Pos} {e o : Expr} {es : List Expr} {ta : TE} {t : TA}
theorem pe_fn (G : Pr X.prog X.w X.K X.mg X.base k x sp) (hr : Room k X.A) (hg : Gl X x) (ha : PA X (e :: es) t)
    (hdb : (x == ("__debug__" : Str)) = false := by decide) (he : starEach (e :: es) X.env = (false, eval e X.env) :: starEach es X.env := by rfl) (hpl : (backTo pos (starEach es X.env)).any (·.1) = false := by rfl) :
    PE X (.Call (.Name x p) (e :: es) [] pos) (tFn sp t) := by
  obtain ⟨hm, hk, fd, ps, F, hb⟩ := G
  refine ⟨fun pins s σ H Q I h => (pe_call F hr hg hm hk hb .nil pass0 ha hdb he hpl).run pins s σ H Q I ?_⟩
  have e1 : (fun vs H1 => sp (vs ++ []) H1 Q E0) = fun vs H1 => sp vs H1 Q E0 := by
    funext vs H1
    rw [List.append_nil]
  show t σ H fun vs H1 => sp (vs ++ []) H1 Q E0
  rw [e1]
  exact h
theorem pe_fn0 (G : Pr X.prog X.w X.K X.mg X.base k x sp) (hr : Room k X.A) (hg : Gl X x) (hdb : (x == ("__debug__" : Str)) = false := by decide) : PE X (.Call (.Name x p) [] [] pos) (tFn sp tNil) := by
  obtain ⟨hm, hk, fd, ps, F, hb⟩ := G
  exact ⟨fun pins s σ H Q I h => (pe_call0 F hr hg hm hk hb .nil pass0 hdb).run pins s σ H Q I h⟩
theorem pe_new (G : PrNew X.prog X.w X.K X.mg X.base k C sp) (hr : Room (k + 1) X.A) (hg : Gl X C) (ha : PA X (e :: es) t)
    (hdb : (C == ("__debug__" : Str)) = false := by decide) (he : starEach (e :: es) X.env = (false, eval e X.env) :: starEach es X.env := by rfl) (hpl : (backTo pos (starEach es X.env)).any (·.1) = false := by rfl) :
    PE X (.Call (.Name C p) (e :: es) [] pos) (tFn sp t) := by
  obtain ⟨hm, f, fd, ps, dvs, ds, spI, M, F, hb, hd, hs⟩ := G
  refine ⟨fun pins s σ H Q I h => ?_⟩
  refine wpAny_Call_Name_kw (ld_glob I hg hm ?_ hdb)
  refine PySem.W.callWith_K (h₀ := X.base) I.ok.mod.kin M.kp (thn (ha.run pos pins s σ H _ I h) fun us s1 ⟨vs, H1, I1, r, q⟩ => ⟨I1.kIn, ?_⟩) he hpl
  exact run_make M F hr hb hd pass0 I1 r fun x dx nx nd ne => hs vs H1 Q q x dx nx nd ne
theorem pe_mU {pl : Sem Bool} (G : PrU X.prog X.w X.K X.mg X.base k m sp) (hr : Room k X.A) (ho : PE X o ta)
    (ht : eval (.Call (.Attribute o m apos) [] [] pos) X.env = (do
      let ov ← eval o X.env
      standAt apos.atName
      let (f, first) ← holding [ov] (getMethod ov m pl)
      callWith pos f first (backTo pos (starEach [] X.env)) (backToKw pos (keywordEach [] X.env))) := by rfl) :
    PE X (.Call (.Attribute o m apos) [] [] pos) (tMU sp ta) := by
  refine ⟨fun pins s σ H Q I h => ?_⟩
  refine PySem.W.methodCall_KW (pl := pl) (thn (ho.run pins s σ H _ I h) fun u s1 ⟨x, H1, I1, rx, q⟩ => ?_) ht
  obtain ⟨a, C, dx, fs, f, fd, ps, spm, ex, ea, l, c, hm, F, hb, q⟩ := G x H1 Q q
  subst ex
  obtain rfl : u = Value.ref a := rx
  refine getmeth_ok I1 ea c hm l ?_
  exact PySem.W.callWith_K0 (first := [.ref a]) I1.kIn hm.kp (run_fn (us := [.ref a]) (vs := [.ref a]) F hr hb .nil pass0 I1 (.cons rfl .nil) q)
theorem pe_cls {pc : Pos} {pl : Sem Bool} (G : PrC X.prog X.w X.K X.mg X.base k C m sp) (hr : Room k X.A) (hg : Gl X C) (ha : PA X (e :: es) t) (hdb : (C == ("__debug__" : Str)) = false := by decide)
    (he : starEach (e :: es) X.env = (false, eval e X.env) :: starEach es X.env := by rfl) (hpl : (backTo pos (starEach es X.env)).any (·.1) = false := by rfl)
    (ht : eval (.Call (.Attribute (.Name C pc) m apos) (e :: es) [] pos) X.env = (do
      let ov ← eval (.Name C pc) X.env
      standAt apos.atName
      let (f, first) ← holding [ov] (getMethod ov m pl)
      callWith pos f first (backTo pos (starEach (e :: es) X.env)) (backToKw pos (keywordEach [] X.env))) := by rfl) :
    PE X (.Call (.Attribute (.Name C pc) m apos) (e :: es) [] pos) (tFn sp t) := by
  obtain ⟨hm, f, fd, ps, mc, h1, h2, h3, h4, F, hb⟩ := G
  refine ⟨fun pins s σ H Q I h => ?_⟩
  refine PySem.W.methodCall_KW (pl := pl) (ld_glob I hg hm ?_ hdb) ht
  refine PySem.W.method_cls I.kIn h2 (PySem.W.cls_value I.kIn h1 h3 rfl ?_)
  refine PySem.W.callWith_K (first := []) (h₀ := X.base) I.ok.mod.kin h4 (thn (ha.run pos pins _ σ H _ (I.tok _) h) fun us s1 ⟨vs, H1, I1, r, q⟩ => ⟨I1.kIn, ?_⟩) he hpl
  exact run_fn F hr hb .nil pass0 I1 r (by rw [List.append_nil]; exact q)
/-- a text times nought or one -/
theorem op_mul_s01 : OpR X (binaryOp .Mult) (fun x y H Q => ∃ (z : Str) (b : Bool), x = .str z ∧ y = .int (if b then 1 else 0) ∧ Q (.str (if b then z else Str.empty)) H) := by
  intro pins s σ H x y v u Q I rx ry h
  obtain ⟨z, b, rfl, rfl, q⟩ := h
  obtain ⟨t, rfl⟩ := (show ∃ t, v = Value.str z t from rx)
  obtain ⟨t', rfl⟩ := (show ∃ t', u = Value.int (if b then 1 else 0) t' from ry)
  cases b with
  | true =>
    refine SB.mul (n := 1) ⟨by decide, fun _ h => absurd h (by simp), fun _ h => absurd h (by simp)⟩ fun t2 k2 => ?_
    exact ⟨.str z, H, I.tok _, ⟨t2, by rw [show Txt.mul z 1 = z by simp [Txt.mul]]⟩, q⟩
  | false =>
    refine SB.mul (n := 0) ⟨by decide, fun h => absurd h (by decide), fun h => absurd h (by decide)⟩ fun t2 k2 => ?_
    exact ⟨.str Str.empty, H, I.tok _, ⟨t2, by rw [show Txt.mul z 0 = Str.empty by simp [Txt.mul]]⟩, q⟩
theorem pe_gint {i : Int} {x : Str} (hg : Gl X x) (h : ∃ t, X.mg x = some (.int i t)) (hd : (x == ("__debug__" : Str)) = false := by decide) : PE X (.Name x pos) (tC (.int i)) := by
  obtain ⟨t, h⟩ := h
  exact pe_glob hg h ⟨t, rfl⟩ hd
end
/-! ### the rules that name X.K, with K named -/
section
variable {X : Cx} {K : PySem.W.Frag} {pos p tpos : Pos} {e o : Expr} {es elts : List Expr} {ta : TE} {t : TA} {tg : TGs} {f : Str} {kk n : Nat} {target : Expr}
theorem op_inK (hK : X.K = K) : OpR X (compareOp .In) (rIn K false) := by subst hK; exact op_in_seq
theorem op_niK (hK : X.K = K) : OpR X (compareOp .NotIn) (rIn K true) := by subst hK; exact op_notIn_seq
theorem ixLK (hK : X.K = K) : IxR X (rIxL K) := by subst hK; exact ix_list
theorem ixTK (hK : X.K = K) : IxR X (rIxT K) := by subst hK; exact ix_tup
theorem slLK (hK : X.K = K) : SlR X (rSlL K) := by subst hK; exact sl_list
def rLenV (K : PySem.W.Frag) : List V → Hp → VK → Prop := fun xs H Q => ∃ x n, xs = [x] ∧ LenV K x H n ∧ Q (.int n) H
theorem lenK (hK : X.K = K) : CallR X (.builtin "len") (rLenV K) := by subst hK; exact call_len
theorem isiK (hK : X.K = K) : CallR X (.builtin "isinstance") (rIsi K) := by subst hK; exact call_isi
theorem sumK (hK : X.K = K) (hc : X.calm = true) : CallR X (.builtin "sum") (rSum K) := by subst hK; exact cr_sum hc
theorem maxK (hK : X.K = K) (hc : X.calm = true) : CallR X (.builtin "max") (rMax K) := by subst hK; exact cr_max hc
theorem allK (hK : X.K = K) (hc : X.calm = true) : CallR X (.builtin "all") (rAll K) := by subst hK; exact cr_all hc
theorem sortedK (hK : X.K = K) : CallR X (.builtin "sorted") (rSorted K) := by subst hK; exact cr_sorted
def rLstOf (K : PySem.W.Frag) : List V → Hp → VK → Prop := fun xs H Q => ∃ p ys, xs = [.ref p] ∧ (SqL K H p ys ∨ SqT K H p ys) ∧ ∀ l, H l = none → Q (.ref l) (upd H l (.lst ys))
theorem lstK (hK : X.K = K) : CallR X (.type "list") (rLstOf K) := by subst hK; exact call_list_of
def rTupOf (K : PySem.W.Frag) : List V → Hp → VK → Prop := fun xs H Q => ∃ p ys, xs = [.ref p] ∧ ((SqL K H p ys ∧ ∀ l, H l = none → Q (.ref l) (upd H l (.tup ys))) ∨ (SqT K H p ys ∧ Q (.ref p) H))
theorem tupK (hK : X.K = K) : CallR X (.type "tuple") (rTupOf K) := by subst hK; exact call_tuple_of
def rDictP (K : PySem.W.Frag) : List V → Hp → VK → Prop := fun xs H Q => ∃ (a : Addr) (ps : List Addr) (kvs : List (Key × V)), xs = [.ref a] ∧ SqL K H a (ps.map V.ref) ∧ Paired (fun p kv => SqT K H p [kV kv.1, kv.2]) ps kvs ∧
    ∀ p, H p = none → Q (.ref p) (upd H p (.dK (mergeK [] kvs)))
theorem dictK (hK : X.K = K) (hc : X.calm = true) : CallR X (.type "dict") (rDictP K) := by subst hK; exact call_dictP hc
theorem fldK (hK : X.K = K) (he : PE X e ta) (hb : attributeBase e f X.env (eval e X.env) = eval e X.env) : PE X (.Attribute e f pos) (tFld K ta f) := by subst hK; exact pe_fld he hb
theorem pgTK (hK : X.K = K) (hc : X.calm = true) (h : PGs X es tg)
    (hn : (assignEach es X.env).length = n := by rfl) (hst : (assignEach es X.env).findIdx? (·.1) = none := by rfl) : PG X (.Tuple es kk pos) (gTup K n tg) := by subst hK; exact pg_tup hc h hn hst
theorem piLK {l : Expr} {tl : TE} (hK : X.K = K) (hl : PE X l tl) : PI X target l (iList K tl) := by subst hK; exact pi_list hl
theorem piEK (hK : X.K = K) (hg : Gl X "enumerate") (hm : X.mg "enumerate" = none) (ha : PA X [e] t) (hs : starEach [e] X.env = [(false, eval e X.env)] := by rfl) :
    PI X (.Tuple elts kk tpos) (.Call (.Name "enumerate" p) [e] [] pos) (iEnum K t) := by subst hK; exact pi_enum hg hm ha hs
def rApp : V → List V → Hp → VK → Prop := rAppend
theorem pe_appK {apos cpos : Pos} (hK : X.K = K) (ho : PE X o ta) (ha : PA X [e] t)
    (hbase : attributeBase o "append" X.env (eval o X.env) = eval o X.env := by rfl)
    (hfew : ((backTo cpos (starEach [e] X.env)).all (fun x => !x.1) && (backToKw cpos (keywordEach [] X.env)).all (fun x => x.1.isSome)
      && decide (([e] : List Expr).length + ([] : List Keyword).length + (if ([] : List Keyword).isEmpty then 0 else 1) < 30)) = true := by rfl)
    (hline : (apos.endLine == cpos.line) = true := by rfl) (hs : starEach [e] X.env = (false, eval e X.env) :: starEach [] X.env := by rfl) (hplain : (backTo cpos (starEach [] X.env)).any (·.1) = false := by rfl) :
    PE X (.Call (.Attribute o "append" apos) [e] [] cpos) (tBM K "list" rAppend ta t) := by
  subst hK
  exact pe_bm PySem.F.plainAttrs_list PySem.F.slot_list_append PySem.F.type_list_append mt_append ho ha hbase hfew hline hs hplain
theorem pe_indexK {apos cpos : Pos} (hK : X.K = K) (ho : PE X o ta) (ha : PA X [e] t)
    (hbase : attributeBase o "index" X.env (eval o X.env) = eval o X.env := by rfl)
    (hfew : ((backTo cpos (starEach [e] X.env)).all (fun x => !x.1) && (backToKw cpos (keywordEach [] X.env)).all (fun x => x.1.isSome)
      && decide (([e] : List Expr).length + ([] : List Keyword).length + (if ([] : List Keyword).isEmpty then 0 else 1) < 30)) = true := by rfl)
    (hline : (apos.endLine == cpos.line) = true := by rfl) (hs : starEach [e] X.env = (false, eval e X.env) :: starEach [] X.env := by rfl) (hplain : (backTo cpos (starEach [] X.env)).any (·.1) = false := by rfl) :
    PE X (.Call (.Attribute o "index" apos) [e] [] cpos) (tBM K "list" (rIndex K) ta t) := by
  subst hK
  exact pe_bm PySem.F.plainAttrs_list PySem.F.slot_list_index PySem.F.type_list_index mt_index ho ha hbase hfew hline hs hplain
/-- an addition that is not of whole numbers in K: nothing of K in it -/
theorem revLK {k : Nat} {p1 p2 p3 : Pos} (hK : X.K = K) (he : PE X e ta) : PE X (.Subscript e (.Slice none none (some (.UnaryOp .USub (.Constant (.int 1) k p1) p2)) p3) pos) (tRevL K ta) := by subst hK; exact pe_revL he
end
/-! ### a list against an empty list -/
section
open PySem.SeqAt PySem.SeqRoads2
variable {X : Cx}
def rEqNil : R2 := fun x y H Q => ∃ l b xs, x = .ref l ∧ y = .ref b ∧ H l = some (.lst xs) ∧ H b = some (.lst []) ∧ Q (.bl xs.isEmpty) H
def rNeNil : R2 := fun x y H Q => ∃ l b xs, x = .ref l ∧ y = .ref b ∧ H l = some (.lst xs) ∧ H b = some (.lst []) ∧ Q (.bl (!xs.isEmpty)) H
theorem op_eqNil (hu : X.A.units + 1 < cLine) : OpR X (compareOp .Eq) rEqNil := by
  intro pins s σ H x y v u Q I rx ry h
  obtain ⟨l, b, xs, rfl, rfl, hl, hb, q⟩ := h
  cases (show v = Value.ref l from rx)
  cases (show u = Value.ref b from ry)
  obtain ⟨_, its, n, r, hlen, e⟩ := I.lstM hl
  obtain ⟨_, its2, n2, r2, hlen2, e2⟩ := I.lstM hb
  have h2 : its2 = [] := List.length_eq_zero_iff.mp hlen2.symm
  subst h2
  have hu' : X.A.units < cLine := by omega
  cases xs with
  | nil =>
    have h1 : its = [] := List.length_eq_zero_iff.mp hlen.symm
    subst h1
    exact P.eq_list (e := fun _ => true) (items := #[]) (items2 := #[]) e e2 rfl (fun j h1 _ => absurd h1 (by simp)) hu' ⟨.bl true, H, I, rfl, q⟩
  | cons a t =>
    refine P.eq_list_lengths e e2 ?_ hu' ⟨.bl false, H, I, rfl, q⟩
    rw [List.length_cons] at hlen
    simp
    intro z
    rw [z] at hlen
    cases hlen
theorem op_neNil (hu : X.A.units + 1 < cLine) : OpR X (compareOp .NotEq) rNeNil := by
  intro pins s σ H x y v u Q I rx ry h
  obtain ⟨l, b, xs, rfl, rfl, hl, hb, q⟩ := h
  cases (show v = Value.ref l from rx)
  cases (show u = Value.ref b from ry)
  obtain ⟨_, its, n, r, hlen, e⟩ := I.lstM hl
  obtain ⟨_, its2, n2, r2, hlen2, e2⟩ := I.lstM hb
  have h2 : its2 = [] := List.length_eq_zero_iff.mp hlen2.symm
  subst h2
  have hu' : X.A.units < cLine := by omega
  cases xs with
  | nil =>
    have h1 : its = [] := List.length_eq_zero_iff.mp hlen.symm
    subst h1
    exact richCompare_meets_room (op := .NotEq) ⟨_, e, rfl⟩ ⟨_, e2, rfl⟩ F.slot_list_ne F.entry_list_ne (F.args_list_ne_2 _ _) (list_neAt l b #[] #[] n n2 none none #[] #[] rfl fun _ => true)
      ⟨e, e2, fun j h1 _ => absurd h1 (by simp), show Value.bool false ≠ Value.notImplemented ∧ EP X pins σ Q (.bool false) s from ⟨(fun x => nomatch x), ⟨.bl false, H, I, rfl, q⟩⟩⟩ hu'
  | cons a t =>
    have hz : (its.toArray.size != (#[] : Array Value).size) = true := by
      rw [List.length_cons] at hlen
      simp
      intro z
      rw [z] at hlen
      cases hlen
    exact richCompare_meets_room (op := .NotEq) ⟨_, e, rfl⟩ ⟨_, e2, rfl⟩ F.slot_list_ne F.entry_list_ne (F.args_list_ne_2 _ _) (list_ne_lengthsAt l b its.toArray #[] n n2 none none #[] #[] hz)
      ⟨e, e2, show Value.bool true ≠ Value.notImplemented ∧ EP X pins σ Q (.bool true) s from ⟨(fun x => nomatch x), ⟨.bl true, H, I, rfl, q⟩⟩⟩ hu'
end
end Fk

set_option Elab.async false
set_option linter.all false
set_option maxRecDepth 100000
set_option maxHeartbeats 4000000
namespace Fk
open PySem PySem.Spec PyProof.Rows L2 Evl
/-! ### fields as data -/
/-- how a text or row is counted: by a control: its name, its least and greatest number -/
inductive How where
  | fix (n : Nat) | by_ (c : Str) (lo hi : Int) | end_ (n : Nat)
/-- what a field is, but for the lists in it. A Number tells whether it is a control; what is steered tells its control's name, least and greatest -/
inductive Kd where
  | num (w : Nat) (sg lt : Bool) (lo hi df : Option Int) (ctl : Bool)
  | sev (hi : Int) (loose : Bool) (df : Option Int)
  | txt (how : How) (df : Option Str)
  | row (how : How) (mark : V)
  | cho (c : Str) (lo hi : Int)
  | may (c : Str) (lo hi : Int)
  | grp
  | siz (c : Str) (lo hi : Int) (gr : Bool)
  | chk (how : Str) (w : Nat) (first : Str)
  | spt (w : Nat) (tg : Str)
/-- a field: its object, its name, what it is, its list (of fields, of cases); the lists in it: of a case its pair and number, of each its list and the fields -/
inductive Fld where
  | mk (p : Addr) (nm : Str) (k : Kd) (l : Addr) (subs : List (Addr × Int × Addr × List Fld))
namespace Fld
def p : Fld → Addr | mk p _ _ _ _ => p
def nm : Fld → Str | mk _ n _ _ _ => n
def k : Fld → Kd | mk _ _ k _ _ => k
def l : Fld → Addr | mk _ _ _ l _ => l
def subs : Fld → List (Addr × Int × Addr × List Fld) | mk _ _ _ _ s => s
def v (f : Fld) : V := .ref f.p
/-- the one list in it -/
def fs (f : Fld) : List Fld := match f.subs with
  | s :: _ => s.2.2.2
  | [] => []
end Fld
def How.word : How → Str | .fix _ => "fixed" | .by_ _ _ _ => "by" | .end_ _ => "end"
def How.cnt : How → V | .fix n => .int n | .by_ c _ _ => .str c | .end_ n => .int n
def How.bds : How → Option (Str × Int × Int) | .by_ c lo hi => some (c, lo, hi) | _ => none
def How.isEnd : How → Bool | .end_ _ => true | _ => false
def ov : Option Int → V | some i => .int i | none => .non
def osv : Option Str → V | some s => .str s | none => .non
namespace Kd
def word : Kd → Str
  | num .. => "number" | sev .. => "seven" | txt .. => "text" | row .. => "row" | cho .. => "choice" | may .. => "maybe" | grp => "group" | siz .. => "sized" | chk .. => "check" | spt .. => "spot"
def cls : Kd → Str
  | num .. => "Number" | sev .. => "Seven" | txt .. => "Text" | row .. => "Row" | cho .. => "Choice" | may .. => "Maybe" | grp => "Group" | siz .. => "Sized" | chk .. => "Check" | spt .. => "Spot"
/-- its control's name, least and greatest -/
def bds : Kd → Option (Str × Int × Int)
  | txt h _ => h.bds | row h _ => h.bds | cho c lo hi => some (c, lo, hi) | may c lo hi => some (c, lo, hi) | siz c lo hi _ => some (c, lo, hi) | _ => none
def st (k : Kd) : Option Str := k.bds.map (·.1)
def isCtl : Kd → Bool | num _ _ _ _ _ _ c => c | _ => false
def told : Kd → Bool | num _ _ _ _ _ _ c => !c | chk .. => false | spt .. => false | _ => true
def width : Kd → Nat | num w _ _ _ _ _ _ => w | chk _ w _ => w | spt w _ => w | _ => 0
def least : Kd → Int | num w sg _ lo _ _ _ => lo.getD (if sg then -(2 ^ (w - 1)) else 0) | _ => 0
def greatest : Kd → Int | num w sg _ _ hi _ _ => hi.getD (if sg then 2 ^ (w - 1) - 1 else 2 ^ w - 1) | _ => 0
/-- its default -/
def dfl : Kd → V | num _ _ _ _ _ df _ => ov df | sev _ _ df => ov df | txt _ df => osv df | _ => .non
def one : Kd → Bool | row .. => true | may .. => true | grp => true | siz .. => true | _ => false
def leaf : Kd → Bool | num .. => true | sev .. => true | txt .. => true | chk .. => true | spt .. => true | _ => false
end Kd
def stV (k : Kd) : V := osv k.st
/-- the attributes, in the order in which they are stored -/
def Fld.attrs (f : Fld) : List (Str × V) := match f.k with
  | .num w sg lt lo hi df _ => [("name", .str f.nm), ("width", .int w), ("signed", .bl sg), ("little", .bl lt), ("low", ov lo), ("high", ov hi), ("default", ov df)]
  | .sev hi lo df => [("name", .str f.nm), ("high", .int hi), ("loose", .bl lo), ("default", ov df)]
  | .txt h df => [("name", .str f.nm), ("how", .str h.word), ("count", h.cnt), ("default", osv df)]
  | .row h mark => [("name", .str f.nm), ("how", .str h.word), ("count", h.cnt), ("fields", .ref f.l), ("mark", mark)]
  | .cho c _ _ => [("name", .str f.nm), ("control", .str c), ("cases", .ref f.l)]
  | .may c _ _ => [("name", .str f.nm), ("control", .str c), ("fields", .ref f.l)]
  | .grp => [("name", .str f.nm), ("fields", .ref f.l)]
  | .siz c _ _ gr => [("name", .str f.nm), ("control", .str c), ("fields", .ref f.l), ("grows", .bl gr)]
  | .chk how w first => [("name", .str f.nm), ("how", .str how), ("width", .int w), ("first", .str first)]
  | .spt w tg => [("name", .str f.nm), ("width", .int w), ("target", .str tg)]
/-- the lists in a field lie as its kind has them -/
def Fld.shape (f : Fld) : Prop := (f.k.one = true → ∃ fs, f.subs = [(0, 0, f.l, fs)]) ∧ (f.k.leaf = true → f.subs = [])
/-! ### fields in the heap -/
section
variable (K : PySem.W.Frag) (H : Hp)
/-- a field's object and what it holds; L: a list of fields in it -/
structure FAtB (L : Addr → List Fld → Prop) (f : Fld) : Prop where
  ob : ∃ dx, H f.p = some (.ins (He.ga K f.k.cls) dx f.attrs)
  sh : f.shape
  cs : f.k.one = false → f.k.leaf = false → H f.l = some (.lst (f.subs.map fun s => .ref s.1)) ∧ ∀ s ∈ f.subs, H s.1 = some (.tup [.int s.2.1, .ref s.2.2.1])
  sub : ∀ s ∈ f.subs, L s.2.2.1 s.2.2.2
/-- a list of fields, at most n deep -/
def LAt : Nat → Addr → List Fld → Prop
  | 0, _, _ => False
  | n + 1, l, fs => H l = some (.lst (fs.map Fld.v)) ∧ ∀ f ∈ fs, FAtB K H (LAt n) f
abbrev FAt (n : Nat) (f : Fld) : Prop := FAtB K H (LAt K H n) f
end
theorem FAtB.imp {K : PySem.W.Frag} {H H' : Hp} {L L' : Addr → List Fld → Prop} {f : Fld} (e : Ex H H') (h : FAtB K H L f) (hl : ∀ l fs, L l fs → L' l fs) : FAtB K H' L' f :=
  ⟨let ⟨dx, q⟩ := h.ob; ⟨dx, e _ _ q⟩, h.sh, fun a b => let ⟨c1, c2⟩ := h.cs a b; ⟨e _ _ c1, fun s hs => e _ _ (c2 s hs)⟩, fun s hs => hl _ _ (h.sub s hs)⟩
theorem LAt.mono {K : PySem.W.Frag} {H H' : Hp} (e : Ex H H') : ∀ {n : Nat} {l : Addr} {fs : List Fld}, LAt K H n l fs → LAt K H' n l fs
  | 0, _, _, h => h.elim
  | _ + 1, _, _, ⟨h1, h2⟩ => ⟨e _ _ h1, fun f hf => (h2 f hf).imp e fun _ _ z => LAt.mono e z⟩
theorem LAt.succ {K : PySem.W.Frag} {H : Hp} : ∀ {n : Nat} {l : Addr} {fs : List Fld}, LAt K H n l fs → LAt K H (n + 1) l fs
  | 0, _, _, h => h.elim
  | _ + 1, _, _, ⟨h1, h2⟩ => ⟨h1, fun f hf => (h2 f hf).imp (Ex.refl _) fun _ _ z => LAt.succ z⟩
theorem FAtB.mono {K : PySem.W.Frag} {H H' : Hp} {n : Nat} {f : Fld} (e : Ex H H') (h : FAt K H n f) : FAt K H' n f := h.imp e fun _ _ z => LAt.mono e z
theorem LAt.lst {K : PySem.W.Frag} {H : Hp} {n : Nat} {l : Addr} {fs : List Fld} (h : LAt K H n l fs) : H l = some (.lst (fs.map Fld.v)) := by
  cases n with
  | zero => exact h.elim
  | succ n => exact h.1
theorem LAt.seq {K : PySem.W.Frag} {H : Hp} {n : Nat} {l : Addr} {fs : List Fld} (h : LAt K H n l fs) : SqL K H l (fs.map Fld.v) := .inl (.inl h.lst)
/-! ### in how many bits a list can stand -/
/-- in how many bytes of seven bits a number stands -/
def sevB (n : Nat) : Nat := if n ≤ 127 then 1 else if n ≤ 16383 then 2 else if n ≤ 2097151 then 3 else 4
def How.ok (lim : Nat) : How → Nat → Prop
  | .fix n, m => m = n
  | .by_ _ lo hi, m => m ≤ lim ∧ lo ≤ m ∧ m ≤ hi
  | .end_ n, m => m ≤ n
def How.e (h : How) : Nat := if h.isEnd then 8 else 0
/-- a sum of widths, one of each -/
def SumB (F : Fld → Nat → Prop) : List Fld → Nat → Prop
  | [], W => W = 0
  | f :: r, W => ∃ a b, F f a ∧ SumB F r b ∧ W = a + b
/-- the first fields' widths, those behind left out, or all and bytes behind -/
def GrowB (F : Fld → Nat → Prop) (fs : List Fld) (W : Nat) : Prop :=
  ∃ j a r, SumB F (fs.take j) a ∧ (∀ f ∈ fs.drop j, f.k.dfl ≠ .non) ∧ (r = 0 ∨ fs.length ≤ j) ∧ W = a + 8 * r
def LenB (L G : List Fld → Nat → Prop) (f : Fld) (w : Nat) : Prop := match f.k with
  | .num w0 _ _ _ _ _ _ => w = w0
  | .chk _ w0 _ => w = w0
  | .spt w0 _ => w = w0
  | .sev hi _ _ => ∃ i : Nat, (i : Int) ≤ hi ∧ w = 8 * sevB i
  | .txt h _ => ∃ m : Nat, h.ok 60 m ∧ w = 8 * m + h.e
  | .row h _ => ∃ Ws : List Nat, h.ok 40 Ws.length ∧ (∀ W ∈ Ws, L f.fs W) ∧ w = Ws.sum + h.e
  | .cho _ lo hi => ∃ s ∈ f.subs, lo ≤ s.2.1 ∧ s.2.1 ≤ hi ∧ L s.2.2.2 w
  | .may _ lo hi => (lo ≤ 0 ∧ 0 ≤ hi ∧ w = 0) ∨ (lo ≤ 1 ∧ 1 ≤ hi ∧ L f.fs w)
  | .grp => L f.fs w
  | .siz _ lo hi gr => w % 8 = 0 ∧ w ≤ 2040 ∧ lo ≤ (w / 8 : Nat) ∧ ((w / 8 : Nat) : Int) ≤ hi ∧ (if gr = true then G f.fs w else L f.fs w)
/-- the lengths of a list at most n deep; of one that grows -/
def LLG : Nat → (List Fld → Nat → Prop) × (List Fld → Nat → Prop)
  | 0 => (fun _ _ => False, fun _ _ => False)
  | n + 1 => (SumB (LenB (LLG n).1 (LLG n).2), GrowB (LenB (LLG n).1 (LLG n).2))
abbrev LL (n : Nat) : List Fld → Nat → Prop := (LLG n).1
abbrev LG (n : Nat) : List Fld → Nat → Prop := (LLG n).2
abbrev LF (n : Nat) : Fld → Nat → Prop := LenB (LL n) (LG n)
/-! ### values that fit -/
def okSign (c : Nat) : Bool := 32 ≤ c && c ≤ 126 && c != 37
def okText (s : Str) : Prop := ∀ c ∈ s.cps.toList, okSign c = true
inductive All2 {α β : Type} (R : α → β → Prop) : List α → List β → Prop where
  | nil : All2 R [] []
  | cons {a : α} {b : β} {as : List α} {bs : List β} (h : R a b) (t : All2 R as bs) : All2 R (a :: as) (b :: bs)
abbrev Kvs := List (Key × V)
abbrev kn (x : Str) : Key := Sum.inr x
section
variable (H : Hp) (D G : List Fld → V → Nat → Prop)
/-- a value u fits the field f in w bits; D, G: a dict fits a list, one that grows -/
def FOkB (f : Fld) (u : V) (w : Nat) : Prop := match f.k with
  | .num w0 _ _ _ _ _ _ => ∃ i, u = .int i ∧ f.k.least ≤ i ∧ i ≤ f.k.greatest ∧ w = w0
  | .sev hi _ _ => ∃ i : Nat, u = .int i ∧ (i : Int) ≤ hi ∧ w = 8 * sevB i
  | .txt h _ => ∃ s : Str, u = .str s ∧ okText s ∧ h.ok 60 s.length ∧ s.length ≤ 60 ∧ w = 8 * s.length + h.e
  | .row h _ => ∃ (p : Addr) (xs : List V) (Ws : List Nat), u = .ref p ∧ H p = some (.lst xs) ∧ h.ok 40 xs.length ∧ xs.length ≤ 40 ∧ All2 (D f.fs) xs Ws ∧ w = Ws.sum + h.e
  | .cho _ lo hi => ∃ (p : Addr) (d : V), ∃ s ∈ f.subs, u = .ref p ∧ H p = some (.tup [.int s.2.1, d]) ∧ lo ≤ s.2.1 ∧ s.2.1 ≤ hi ∧ D s.2.2.2 d w
  | .may _ lo hi => (u = .non ∧ lo ≤ 0 ∧ 0 ≤ hi ∧ w = 0) ∨ (lo ≤ 1 ∧ 1 ≤ hi ∧ D f.fs u w)
  | .grp => D f.fs u w
  | .siz _ lo hi gr => w % 8 = 0 ∧ w ≤ 2040 ∧ lo ≤ (w / 8 : Nat) ∧ ((w / 8 : Nat) : Int) ≤ hi ∧ (if gr = true then G f.fs u w else D f.fs u w)
  | _ => False
/-- the fields' widths by the values of a dict -/
def PVB (kvs : Kvs) : List Fld → Nat → Prop := SumB fun f w => if f.k.told = true then ∃ u, valV kvs (kn f.nm) = some u ∧ FOkB H D G f u w else w = f.k.width
structure DOkB (fs : List Fld) (u : V) (W : Nat) : Prop where
  ex : ∃ (p : Addr) (kvs : Kvs), u = .ref p ∧ H p = some (.dK kvs) ∧ (kvs.map (·.1)).Nodup ∧ (∀ q ∈ kvs, ∃ f ∈ fs, f.k.told = true ∧ q.1 = kn f.nm) ∧ PVB H D G kvs fs W
/-- of a list that grows: the fields behind the first j lack; a rest of bytes only where none lacks -/
structure GOkB (fs : List Fld) (u : V) (W : Nat) : Prop where
  ex : ∃ (p : Addr) (kvs : Kvs) (j a : Nat), u = .ref p ∧ H p = some (.dK kvs) ∧ (kvs.map (·.1)).Nodup ∧ (∀ q ∈ kvs, (∃ f ∈ fs, f.k.told = true ∧ q.1 = kn f.nm) ∨ q.1 = kn "rest") ∧ PVB H D G kvs (fs.take j) a ∧
    (∀ f ∈ fs.drop j, f.k.dfl ≠ .non ∧ valV kvs (kn f.nm) = none) ∧
    ((valV kvs (kn "rest") = none ∧ W = a) ∨ (fs.length ≤ j ∧ ∃ (q : Addr) (bs : List Int), valV kvs (kn "rest") = some (.ref q) ∧ H q = some (.lst (bs.map V.int)) ∧ bs ≠ [] ∧ (∀ b ∈ bs, 0 ≤ b ∧ b ≤ 255) ∧ W = a + 8 * bs.length))
end
def DG (H : Hp) : Nat → (List Fld → V → Nat → Prop) × (List Fld → V → Nat → Prop)
  | 0 => (fun _ _ _ => False, fun _ _ _ => False)
  | n + 1 => (DOkB H (DG H n).1 (DG H n).2, GOkB H (DG H n).1 (DG H n).2)
abbrev DOk (H : Hp) (n : Nat) : List Fld → V → Nat → Prop := (DG H n).1
abbrev GOk (H : Hp) (n : Nat) : List Fld → V → Nat → Prop := (DG H n).2
abbrev FOk (H : Hp) (n : Nat) : Fld → V → Nat → Prop := FOkB H (DOk H n) (GOk H n)
/-! ### lists that are well drawn -/
section
variable (W : List Fld → Prop) (L : List Fld → Nat → Prop)
/-- of one field: Wd: a list in it is well drawn; L: the lengths of such -/
def FWB (f : Fld) : Prop := match f.k with
  | .num w _ _ _ _ df _ => 1 ≤ w ∧ w ≤ 32 ∧ f.k.least ≤ f.k.greatest ∧ ∀ i, df = some i → f.k.least ≤ i ∧ i ≤ f.k.greatest
  | .sev hi _ df => 0 ≤ hi ∧ hi < 2 ^ 28 ∧ ∀ i, df = some i → 0 ≤ i ∧ i ≤ hi
  | .txt h df => (match h with | .fix n => n ≤ 60 | .by_ _ lo hi => 0 ≤ lo ∧ lo ≤ hi ∧ hi ≤ 60 | .end_ n => n ≤ 60) ∧ ∀ s, df = some s → okText s ∧ h.ok 60 s.length ∧ h.bds = none
  | .row h _ => (match h with | .fix n => n ≤ 4 | .by_ _ lo hi => 0 ≤ lo ∧ lo ≤ hi ∧ hi ≤ 4 | .end_ n => n ≤ 4 ∧ ∃ g r, f.fs = g :: r ∧ g.k.width = 8 ∧ g.k.word = "number") ∧ W f.fs
  | .cho _ lo hi => (f.subs.map fun s => s.2.1).Nodup ∧ f.subs.length ≤ 3 ∧ (∃ s ∈ f.subs, lo ≤ s.2.1 ∧ s.2.1 ≤ hi) ∧ ∀ s ∈ f.subs, 0 ≤ s.2.1 ∧ s.2.1 ≤ 255 ∧ W s.2.2.2
  | .may _ lo hi => 0 ≤ lo ∧ lo ≤ 1 ∧ lo ≤ hi ∧ W f.fs
  | .grp => W f.fs
  | .siz _ lo hi gr => lo = 0 ∧ W f.fs ∧ (∀ w, L f.fs w → w ≤ 2040 ∧ ((w / 8 : Nat) : Int) ≤ hi) ∧ (gr = true → ∃ a b, f.fs = a ++ b ∧ (∀ g ∈ a, g.k.dfl = .non) ∧ (∀ g ∈ b, g.k.dfl ≠ .non) ∧ (∀ g ∈ f.fs, g.k.leaf = true ∧ g.k.word ≠ "check" ∧ g.k.word ≠ "spot") ∧ hi ≤ 255 ∧ ∀ g ∈ b, g.k.width % 8 = 0)
  | .chk _ w _ => 1 ≤ w ∧ w ≤ 32
  | .spt w _ => 1 ≤ w ∧ w ≤ 32
/-- names, controls, fields, lengths -/
structure WDB (LS : List Fld → Nat → Prop) (fs : List Fld) : Prop where
  nd : (fs.map Fld.nm).Nodup
  nr : ∀ f ∈ fs, f.nm ≠ "rest"
  nl : ∀ f ∈ fs, f.nm.length ≤ 100
  sz : fs.length ≤ 26
  st : ∀ f ∈ fs, ∀ c lo hi, f.k.bds = some (c, lo, hi) → ∃ g ∈ fs, g.nm = c ∧ g.k.isCtl = true ∧ lo = g.k.least ∧ hi = g.k.greatest
  ct : ∀ g ∈ fs, g.k.isCtl = true → g.k.dfl = .non ∧ ∃ f ∈ fs, f.k.st = some g.nm
  us : (fs.filterMap fun f => f.k.st).Nodup
  fw : ∀ f ∈ fs, FWB W L f
  m8 : ∀ w, LS fs w → w % 8 = 0
  inh : ∃ w, LS fs w
end
def WD : Nat → List Fld → Prop
  | 0 => fun _ => False
  | n + 1 => WDB (WD n) (LL n) (LL (n + 1))
abbrev FW (n : Nat) : Fld → Prop := FWB (WD n) (LL n)
end Fk

set_option Elab.async false
set_option linter.all false
set_option maxRecDepth 100000
set_option maxHeartbeats 4000000
namespace Fk
open PySem PySem.Spec PyProof.Rows L2 Evl
/-! ### values that a reading comes to, over a heap that only grows -/
section
variable {K : PySem.W.Frag} {σ : L2.St} {H H' : Hp} {ta tb te td ty tx : TE} {x y z v : V} {t : TA} {tt uu : TT} {tu tw tz : TS} {D : Ends}
theorem ev_fn {sp : Sp} {vs : List V} (h : EvA t σ H vs) (hs : SpV sp vs H z) : Ev (tFn sp t) σ H z := fun H1 e Q q =>
  h H1 e _ fun H2 e2 => hs H2 (e.trans e2) Q (fun H3 e3 => q H3 (e2.trans e3)) E0
theorem el_fn {sp : Sp} {vs xs : List V} (h : EvA t σ H vs) (hs : SpL sp vs H xs) : EvL (tFn sp t) σ H xs := fun H1 e Q q =>
  h H1 e _ fun H2 e2 => hs H2 (e.trans e2) Q (fun p H3 hp e3 h3 => q p H3 (fresh_back e2 hp) (e2.trans e3) h3) E0
theorem ev_mU {sp : Sp} (h : Ev ta σ H x) (hs : SpV sp [x] H z) : Ev (tMU sp ta) σ H z := fun H1 e Q q =>
  h H1 e _ fun H2 e2 => hs H2 (e.trans e2) Q (fun H3 e3 => q H3 (e2.trans e3)) E0
/-- a field of an instance -/
theorem ev_fldA {a C dx : Addr} {fs : List (Str × V)} {f : Str} (h : Ev ta σ H (.ref a)) (ho : H a = some (.ins C dx fs)) (hc : Cls K C) (hn : NoAttr K C f) (hl : fs.lookup f = some v) : Ev (tFld K ta f) σ H v := fun H1 e Q q =>
  h H1 e _ fun H2 e2 => ⟨a, C, dx, fs, v, rfl, e2 _ _ (e _ _ ho), hc, hn, hl, q H2 e2⟩
theorem ev_dget {d : Addr} {kvs : Kvs} {k : Key} (ho : Ev td σ H (.ref d)) (hk : Ev ty σ H (kV k)) (hd : Rd H d (.dK kvs)) (hv : valV kvs k = some v) : Ev (tDGet td ty) σ H v := fun H1 e Q q =>
  ho H1 e _ fun H2 e2 => hk H2 (e.trans e2) _ fun H3 e3 => ⟨d, v, rfl, .inl ⟨kvs, k, ex_rd ((e.trans e2).trans e3) hd, rfl, hv.symm⟩, q H3 (e2.trans e3)⟩
theorem ev_din {d : Addr} {kvs : Kvs} {k : Key} (hk : Ev ty σ H (kV k)) (ho : Ev td σ H (.ref d)) (hd : Rd H d (.dK kvs)) : Ev (tDIn ty td) σ H (.bl (valV kvs k).isSome) := fun H1 e Q q =>
  hk H1 e _ fun H2 e2 => ho H2 (e.trans e2) _ fun H3 e3 => ⟨d, _, rfl, .inl ⟨kvs, k, ex_rd ((e.trans e2).trans e3) hd, rfl, rfl⟩, q H3 (e2.trans e3)⟩
/-- len -/
theorem lenV_mono {n : Nat} (e : Ex H H') (h : LenV K x H n) : LenV K x H' n := by
  cases x with
  | str s => exact h
  | byt b => exact h
  | ref p =>
    rcases h with ⟨xs, h1, h2⟩ | ⟨xs, h1, h2⟩
    · exact .inl ⟨xs, ex_l e h1, h2⟩
    · exact .inr ⟨xs, ex_t e h1, h2⟩
  | _ => exact h
theorem ev_lenV {n : Nat} (h : Ev ta σ H x) (hl : LenV K x H n) : Ev (tCB (rLenV K) (tCons ta tNil)) σ H (.int n) := fun H1 e Q q =>
  h H1 e _ fun H2 e2 => ⟨x, n, rfl, lenV_mono (e.trans e2) hl, q H2 e2⟩
theorem ev_lenL {xs : List V} (h : EvL ta σ H xs) : Ev (tCB (rLenV K) (tCons ta tNil)) σ H (.int (xs.length : Nat)) := fun H1 e Q q =>
  h H1 e _ fun p H2 _ e2 h2 => ⟨.ref p, _, rfl, .inl ⟨xs, sq_of h2, rfl⟩, q H2 e2⟩
theorem lenV_lst {p : Addr} {xs : List V} (h : SqL K H p xs) : LenV K (.ref p) H xs.length := .inl ⟨xs, h, rfl⟩
theorem lenV_tup {p : Addr} {xs : List V} (h : SqT K H p xs) : LenV K (.ref p) H xs.length := .inr ⟨xs, h, rfl⟩
theorem lenV_str {s : Str} (h : s.length ≤ 100000) : LenV K (.str s) H s.length := ⟨sz_of h, rfl⟩
theorem ev_cmp {b : Bool} (h : Ev te σ H (.bl b)) : EvT (tTest te) σ H b := et_test h
theorem ev_isn (h : Ev ta σ H x) : Ev (tOp (fun x y H Q => y = .non ∧ Q (.bl (decide (x = .non))) H) ta (tC .non)) σ H (.bl (decide (x = .non))) := ev_op h ev_c fun H1 _ _ q => ⟨rfl, q H1 (Ex.refl _)⟩
theorem ev_notn (h : Ev ta σ H x) : Ev (tOp (fun x y H Q => y = .non ∧ Q (.bl (!decide (x = .non))) H) ta (tC .non)) σ H (.bl (!decide (x = .non))) := ev_op h ev_c fun H1 _ _ q => ⟨rfl, q H1 (Ex.refl _)⟩
/-- a new list of a range -/
theorem el_lstRg {n : Int} (h : Ev ta σ H (.int n)) (hn : 0 ≤ n ∧ n ≤ 100000) : EvL (tLstRg (tRg1 ta)) σ H (rgV 0 n) := fun H1 e Q q =>
  h H1 e _ fun H2 e2 => ⟨n, rfl, RgOk.of_le (by omega) (by omega) (by omega) (by omega), fun l hl => q l _ (fresh_back e2 hl) (e2.trans (Ex.new hl)) upd_same⟩
theorem el_lstOf {p : Addr} {xs : List V} (h : Ev ta σ H (.ref p)) (hx : SqL K H p xs ∨ SqT K H p xs) : EvL (tCB (rLstOf K) (tCons ta tNil)) σ H xs := fun H1 e Q q =>
  h H1 e _ fun H2 e2 => ⟨p, xs, rfl, hx.imp (ex_l (e.trans e2)) (ex_t (e.trans e2)), fun l hl => q l _ (fresh_back e2 hl) (e2.trans (Ex.new hl)) upd_same⟩
/-- an addition of lists, the operands new -/
theorem el_catLL {xs ys : List V} (ha : EvL ta σ H xs) (hb : EvL tb σ H ys) (hz : xs.length + ys.length ≤ 100000) : EvL (tOp rCat ta tb) σ H (xs ++ ys) := fun H1 e Q k =>
  ha H1 e _ fun p H2 hp0 e2 hp => hb H2 (e.trans e2) _ fun q H3 _ e3 hq => ⟨p, q, xs, ys, rfl, rfl, e3 _ _ hp, hq, sz_of hz, fun l hl => k l _ (fresh_back (e2.trans e3) hl) ((e2.trans e3).trans (Ex.new hl)) upd_same⟩
theorem el_catVL {p : Addr} {xs ys : List V} (ha : Ev ta σ H (.ref p)) (hp : H p = some (.lst xs)) (hb : EvL tb σ H ys) (hz : xs.length + ys.length ≤ 100000) : EvL (tOp rCat ta tb) σ H (xs ++ ys) := fun H1 e Q k =>
  ha H1 e _ fun H2 e2 => hb H2 (e.trans e2) _ fun q H3 _ e3 hq => ⟨p, q, xs, ys, rfl, rfl, e3 _ _ (e2 _ _ (e _ _ hp)), hq, sz_of hz, fun l hl => k l _ (fresh_back (e2.trans e3) hl) ((e2.trans e3).trans (Ex.new hl)) upd_same⟩
/-! ### statements: what is known stays known at H -/
def SV (tu : TS) (D : Ends) (σ : L2.St) (H : Hp) : Prop := ∀ H1, Ex H H1 → tu D σ H1
theorem SV.mono (e : Ex H H') (h : SV tu D σ H) : SV tu D σ H' := fun H1 e1 => h H1 (e.trans e1)
theorem SV.here (h : SV tu D σ H) : tu D σ H := h H (Ex.refl _)
theorem ex_upd {p : Addr} {o : HO} {H2 : Hp} (hp : H p = none) (e : Ex H H2) (h : H2 p = some o) : Ex (upd H p o) H2 := fun a u ha => by
  by_cases q : a = p
  · subst q
    rw [upd_same] at ha
    rw [h, ha]
  · rw [upd_ne q] at ha
    exact e a u ha
theorem sv_ret (h : Ev te σ H v) (k : RetV v H D.rt) : SV (tRet te) D σ H := fun H1 e => h H1 e _ fun H2 e2 => k H2 (e.trans e2)
theorem sv_retL {xs : List V} (h : EvL te σ H xs) (k : RetL xs H D.rt) : SV (tRet te) D σ H := fun H1 e => h H1 e _ fun p H2 hp e2 h2 => k p H2 (fresh_back e hp) (e.trans e2) h2
theorem sv_retU {xs : List V} (h : EvU te σ H xs) (k : ∀ p H2, H p = none → Ex H H2 → H2 p = some (.tup xs) → D.rt (.ref p) H2) : SV (tRet te) D σ H := fun H1 e => h H1 e _ fun p H2 hp e2 h2 => k p H2 (fresh_back e hp) (e.trans e2) h2
theorem sv_asg {i : Nat} (h : Ev te σ H v) (k : SV tz D (σ.set i (some v)) H) : SV (tSeq (tAsg te (gName i)) tz) D σ H := fun H1 e => h H1 e _ fun H2 e2 => k H2 (e.trans e2)
theorem sv_asgL {i : Nat} {xs : List V} (h : EvL te σ H xs) (k : ∀ p, H p = none → SV tz D (σ.set i (some (.ref p))) (upd H p (.lst xs))) : SV (tSeq (tAsg te (gName i)) tz) D σ H := fun H1 e =>
  h H1 e _ fun p H2 hp e2 h2 => k p (fresh_back e hp) H2 (ex_upd (fresh_back e hp) (e.trans e2) h2)
theorem sv_asgU {i : Nat} {xs : List V} (h : EvU te σ H xs) (k : ∀ p, H p = none → SV tz D (σ.set i (some (.ref p))) (upd H p (.tup xs))) : SV (tSeq (tAsg te (gName i)) tz) D σ H := fun H1 e =>
  h H1 e _ fun p H2 hp e2 h2 => k p (fresh_back e hp) H2 (ex_upd (fresh_back e hp) (e.trans e2) h2)
theorem sv_asg1 {i : Nat} (h : Ev te σ H v) (k : ∀ H1, Ex H H1 → D.nx (σ.set i (some v)) H1) : SV (tAsg te (gName i)) D σ H := fun H1 e => h H1 e _ fun H2 e2 => k H2 (e.trans e2)
theorem sv_if {b : Bool} (h : EvT tt σ H b) (h1 : b = true → SV tu D σ H) (h2 : b = false → SV tw D σ H) : SV (tIfS tt tu tw) D σ H := fun H1 e => h H1 e _ fun H2 e2 => by
  cases b with
  | true =>
    show tu D σ H2
    exact h1 rfl H2 (e.trans e2)
  | false =>
    show tw D σ H2
    exact h2 rfl H2 (e.trans e2)
theorem sv_when {b : Bool} (h : EvT tt σ H b) (h1 : b = true → SV tu { D with nx := tz D } σ H) (h2 : b = false → SV tz D σ H) : SV (tSeq (tIfS tt tu tNext) tz) D σ H := sv_if (D := { D with nx := tz D }) h h1 h2
theorem sv_ifs {b : Bool} (h : EvT tt σ H b) (h1 : b = true → SV tu { D with nx := tz D } σ H) (h2 : b = false → SV tw { D with nx := tz D } σ H) : SV (tSeq (tIfS tt tu tw) tz) D σ H := sv_if (D := { D with nx := tz D }) h h1 h2
theorem sv_cut {M : L2.St → Hp → Prop} (h : SV tu { D with nx := M } σ H) (k : ∀ σ' H', M σ' H' → tz D σ' H') : SV (tCut tu tz) D σ H := fun H1 e => ⟨M, h H1 e, k⟩
theorem sv_nx (k : ∀ H1, Ex H H1 → D.nx σ H1) : SV tNext D σ H := k
theorem sv_aug {i : Nat} {f : Int → Int → Int} {a b : Int} (hx : σ[i]? = some (some (.int a))) (h : Ev te σ H (.int b)) (k : SV tz D (σ.set i (some (.int (f a b)))) H) : SV (tSeq (tAug i te (ipI f)) tz) D σ H := fun H1 e =>
  ⟨.int a, hx, h H1 e _ fun H2 e2 => ⟨a, b, rfl, rfl, k H2 (e.trans e2)⟩⟩
theorem sv_aug1 {i : Nat} {f : Int → Int → Int} {a b : Int} (hx : σ[i]? = some (some (.int a))) (h : Ev te σ H (.int b)) (k : ∀ H1, Ex H H1 → D.nx (σ.set i (some (.int (f a b)))) H1) : SV (tAug i te (ipI f)) D σ H := fun H1 e =>
  ⟨.int a, hx, h H1 e _ fun H2 e2 => ⟨a, b, rfl, rfl, k H2 (e.trans e2)⟩⟩
/-- over a list, the slots alone change -/
theorem sv_forL {a : Addr} {xs : List V} {tl : TE} {g : TG} (h : Ev tl σ H (.ref a)) (hx : SqL K H a xs) (Pv : Nat → L2.St → Prop) (h0 : Pv 0 σ)
    (hs : ∀ i x σ', xs[i]? = some x → Pv i σ' → ∀ H1, Ex H H1 → g x σ' H1 fun σ2 H2 => tu { D with nx := fun σ3 H3 => Pv (i + 1) σ3 ∧ Ex H H3, ct := fun σ3 H3 => Pv (i + 1) σ3 ∧ Ex H H3, bk := tz D } σ2 H2) (hd : ∀ σ', Pv xs.length σ' → SV tz D σ' H) : SV (tSeq (tFor (iList K tl) g tu) tz) D σ H := fun H1 e =>
  h H1 e _ fun H2 e2 => ⟨a, rfl, ⟨xs, ex_l (e.trans e2) hx⟩, for_list (D := { D with nx := tz D }) (fun i σ' H' => Pv i σ' ∧ Ex H H') ⟨h0, e.trans e2⟩ (fun i σ' H' _ p => ex_l p.2 hx) (fun i x σ' H' hi p => hs i x σ' hi p.1 H' p.2) fun σ' H' p => hd σ' p.1 H' p.2⟩
theorem sv_forLn {a : Addr} {xs : List V} {tl : TE} {j : Nat} (h : Ev tl σ H (.ref a)) (hx : SqL K H a xs) (Pv : Nat → L2.St → Prop) (h0 : Pv 0 σ)
    (hs : ∀ i x σ', xs[i]? = some x → Pv i σ' → SV tu { D with nx := fun σ3 H3 => Pv (i + 1) σ3 ∧ Ex H H3, ct := fun σ3 H3 => Pv (i + 1) σ3 ∧ Ex H H3, bk := tz D } (σ'.set j (some x)) H) (hd : ∀ σ', Pv xs.length σ' → SV tz D σ' H) : SV (tSeq (tFor (iList K tl) (gName j) tu) tz) D σ H :=
  sv_forL h hx Pv h0 (fun i x σ' hi p H1 e => hs i x σ' hi p H1 e) hd
/-- over a new list at p -/
theorem sv_forNLn {xs : List V} {tl : TE} {j : Nat} (h : EvL tl σ H xs) (Pv : Nat → L2.St → Prop) (h0 : Pv 0 σ)
    (hs : ∀ p, H p = none → ∀ i x σ', xs[i]? = some x → Pv i σ' → SV tu { D with nx := fun σ3 H3 => Pv (i + 1) σ3 ∧ Ex (upd H p (.lst xs)) H3, ct := fun σ3 H3 => Pv (i + 1) σ3 ∧ Ex (upd H p (.lst xs)) H3, bk := tz D } (σ'.set j (some x)) (upd H p (.lst xs)))
    (hd : ∀ p, H p = none → ∀ σ', Pv xs.length σ' → SV tz D σ' (upd H p (.lst xs))) : SV (tSeq (tFor (iList K tl) (gName j) tu) tz) D σ H := fun H1 e =>
  h H1 e _ fun p H2 hp e2 h2 => ⟨p, rfl, ⟨xs, sq_of h2⟩, for_list (D := { D with nx := tz D }) (fun i σ' H' => Pv i σ' ∧ Ex (upd H p (.lst xs)) H') ⟨h0, ex_upd (fresh_back e hp) (e.trans e2) h2⟩ (fun i σ' H' _ q => sq_of (q.2 _ _ upd_same)) (fun i x σ' H' hi q =>
    hs p (fresh_back e hp) i x σ' hi q.1 H' q.2) fun σ' H' q => hd p (fresh_back e hp) σ' q.1 H' q.2⟩
/-- over a range -/
theorem sv_forR1 {j : Nat} {n : Int} (h : EvA t σ H [.int n]) (hn : 0 ≤ n ∧ n ≤ 100000) (Pv : Nat → L2.St → Prop) (h0 : Pv 0 σ)
    (hs : ∀ (i : Nat) σ', (i : Int) < n → Pv i σ' → SV tu { D with nx := fun σ3 H3 => Pv (i + 1) σ3 ∧ Ex H H3, ct := fun σ3 H3 => Pv (i + 1) σ3 ∧ Ex H H3, bk := tz D } (σ'.set j (some (.int (i : Int)))) H) (hd : ∀ σ', Pv n.toNat σ' → SV tz D σ' H) : SV (tSeq (tFor (iRng1 t) (gName j) tu) tz) D σ H := fun H1 e =>
  q_forR1 (h := fun H2 e2 Q q => h H2 (e.trans e2) Q q) hn (fun i σ' H' => Pv i σ' ∧ Ex H H') (fun H2 e2 => ⟨h0, e.trans e2⟩) (fun i σ' H' hi p => hs i σ' hi p.1 H' p.2) fun σ' H' p => hd σ' p.1 H' p.2
/-! ### comprehensions over a list: what is kept, what it gives -/
theorem map_get {α : Type} {xs : List α} {f : α → V} {i : Nat} {y : V} (h : (xs.map f)[i]? = some y) : ∃ x, xs[i]? = some x ∧ x ∈ xs ∧ y = f x := by
  rw [List.getElem?_map] at h
  cases q : xs[i]? with
  | none => rw [q] at h; cases h
  | some x =>
    rw [q] at h
    exact ⟨x, rfl, List.mem_of_getElem? q, (Option.some.inj h).symm⟩
theorem filt_take {α : Type} {xs : List α} {p : α → Bool} {g : α → V} {i : Nat} {x : α} (h : xs[i]? = some x) : ((xs.take (i + 1)).filter p).map g = ((xs.take i).filter p).map g ++ (if p x = true then [g x] else []) := by
  rw [List.take_add_one, h, List.filter_append, List.map_append]
  show _ ++ (List.filter p [x]).map g = _
  rw [List.filter_cons]
  cases p x <;> rfl
theorem comp_core {α : Type} {a Dl : Addr} {H0 H1 : Hp} {xs : List α} {val g : α → V} {p : α → Bool} {j : Nat} {Q : VK} (e : Ex H H1) (e1 : Ex H0 H1) (hx : SqL K H1 a (xs.map val)) (hz : xs.length ≤ 40000)
    (ht : ∀ x ∈ xs, EvT tt ((wipe σ [j]).set j (some (val x))) H (p x)) (he : ∀ x ∈ xs, p x = true → Ev te ((wipe σ [j]).set j (some (val x))) H (g x)) (hD : H1 Dl = none)
    (q : ∀ H2, H0 Dl = none → Ex H0 H2 → H2 Dl = some (.lst ((xs.filter p).map g)) → Q (.ref Dl) H2) :
    ∃ W : Nat → Nat → Hp → Prop, (∃ m, W 0 m (upd H1 Dl (.lst []))) ∧ ∀ i m H, W i m H →
      ((Itl K a).stop i H ∧ Q (.ref Dl) H) ∨ ((Itl K a).go i H ∧ ∃ Nx : Hp → Prop, (∀ H', Nx H' → ∃ m', m' < m ∧ W (i + 1) m' H') ∧ ∀ x H', (Itl K a).yld i H x H' → gName j x (wipe σ [j]) H' fun σ2 H2 => wipe σ2 [j] = wipe σ [j] ∧ tt σ2 H2 fun b H3 =>
        if b = true then te σ2 H3 fun y H4 => ∃ acc, H4 Dl = some (.lst acc) ∧ acc.length < sizeLine ∧ Nx (upd H4 Dl (.lst (acc ++ [y]))) else Nx H3) :=
  lc_list (xs := xs.map val) (fun i H' => Ex H1 H' ∧ H' Dl = some (.lst (((xs.take i).filter p).map g))) ⟨Ex.new hD, upd_same⟩ (fun i H' _ c => ex_l c.1 hx) (fun i y H' hi c => by
      obtain ⟨x, hxi, hm, rfl⟩ := map_get hi
      refine ⟨?_, ht x hm H' (e.trans c.1) _ fun H3 e3 => ?_⟩
      · show wipe ((wipe σ [j]).set j (some (val x))) [j] = wipe σ [j]
        simp [wipe]
      · have e03 := e.trans (c.1.trans e3)
        cases hp : p x with
        | true =>
          show te _ H3 _
          refine he x hm hp H3 e03 _ fun H4 e4 => ⟨_, e4 _ _ (e3 _ _ c.2), ?_, Ex.mut ((c.1.trans e3).trans e4) hD, ?_⟩
          · have l1 : (((xs.take i).filter p).map g).length ≤ xs.length := by
              rw [List.length_map]
              exact Nat.le_trans (List.length_filter_le _ _) (by rw [List.length_take]; omega)
            exact sz_lt (by omega)
          · rw [upd_same, filt_take hxi, hp]
            rfl
        | false =>
          show Ex H1 H3 ∧ H3 Dl = _
          refine ⟨c.1.trans e3, ?_⟩
          rw [e3 _ _ c.2, filt_take hxi, hp]
          simp) (fun H' c => q H' (fresh_back e1 hD) (e1.trans c.1) (by rw [c.2, List.length_map, List.take_length]))
theorem el_comp {α : Type} {a : Addr} {xs : List α} {val g : α → V} {p : α → Bool} {tl : TE} {j : Nat} (h : Ev tl σ H (.ref a)) (hx : SqL K H a (xs.map val)) (hz : xs.length ≤ 40000)
    (ht : ∀ x ∈ xs, EvT tt ((wipe σ [j]).set j (some (val x))) H (p x)) (he : ∀ x ∈ xs, p x = true → Ev te ((wipe σ [j]).set j (some (val x))) H (g x)) : EvL (tLc (iList K tl) (gName j) tt te [j]) σ H ((xs.filter p).map g) := fun H0 e Q q => h H0 e _ fun H1 e1 =>
  ⟨a, rfl, ⟨_, ex_l (e.trans e1) hx⟩, fun Dl hD => comp_core (e.trans e1) e1 (ex_l (e.trans e1) hx) hz ht he hD (q Dl)⟩
/-- .. over a new list -/
theorem el_compN {α : Type} {xs : List α} {val g : α → V} {p : α → Bool} {tl : TE} {j : Nat} (h : EvL tl σ H (xs.map val)) (hz : xs.length ≤ 40000)
    (ht : ∀ x ∈ xs, EvT tt ((wipe σ [j]).set j (some (val x))) H (p x)) (he : ∀ x ∈ xs, p x = true → Ev te ((wipe σ [j]).set j (some (val x))) H (g x)) : EvL (tLc (iList K tl) (gName j) tt te [j]) σ H ((xs.filter p).map g) := fun H0 e Q q => h H0 e _ fun a H1 ha e1 hx =>
  ⟨a, rfl, ⟨_, sq_of hx⟩, fun Dl hD => comp_core (e.trans e1) e1 (sq_of hx) hz ht he hD (q Dl)⟩
theorem el_is {xs ys : List V} (h : EvL te σ H xs) (hx : xs = ys) : EvL te σ H ys := hx ▸ h
theorem et_yes : EvT tYes σ H true := fun H1 _ _ q => q H1 (Ex.refl _)
/-! ### enumerate -/
theorem for_enum {a : Addr} {xs : List V} {g : TG} (Pv : Nat → L2.St → Hp → Prop) (h0 : Pv 0 σ H) (hl : ∀ i σ H, i ≤ xs.length → Pv i σ H → SqL K H a xs)
    (hs : ∀ i x σ H T, xs[i]? = some x → Pv i σ H → H T = none → g (.ref T) σ (upd H T (.tup [.int (i : Nat), x])) fun σ2 H2 => tu { D with nx := Pv (i + 1), ct := Pv (i + 1), bk := D.nx } σ2 H2) (hd : ∀ σ H, Pv xs.length σ H → D.nx σ H) :
    ∃ W : Nat → Nat → L2.St → Hp → Prop, (∃ m, W 0 m σ H) ∧ ∀ i m σ H, W i m σ H →
      ((Ite K a).stop i H ∧ D.nx σ H) ∨ ((Ite K a).go i H ∧ ∃ N : L2.St → Hp → Prop, (∀ σ' H', N σ' H' → ∃ m', m' < m ∧ W (i + 1) m' σ' H') ∧ ∀ x H', (Ite K a).yld i H x H' → g x σ H' fun σ2 H2 => tu { D with nx := N, ct := N, bk := D.nx } σ2 H2) := by
  refine ⟨fun i m σ H => m = xs.length - i ∧ i ≤ xs.length ∧ Pv i σ H, ⟨xs.length, by simp, Nat.zero_le _, h0⟩, ?_⟩
  rintro i m σ H ⟨rfl, hi, p⟩
  have q := hl i σ H hi p
  by_cases hlt : i < xs.length
  · refine .inr ⟨⟨xs, xs[i], q, by simp [hlt]⟩, Pv (i + 1), fun σ' H' p' => ⟨xs.length - (i + 1), by omega, rfl, hlt, p'⟩, fun x H' y => ?_⟩
    obtain ⟨T, z, rfl, hT, rfl, y⟩ := y
    exact hs i z σ H T (y xs q) p hT
  · have e : i = xs.length := by omega
    subst e
    exact .inl ⟨⟨xs, q, Nat.le_refl _⟩, hd σ H p⟩
/-- for place, x in enumerate(list) -/
theorem sv_forE {a : Addr} {xs : List V} {j1 j2 : Nat} (h : EvA t σ H [.ref a]) (hx : SqL K H a xs) (Pv : Nat → L2.St → Prop) (h0 : Pv 0 σ)
    (hs : ∀ i x σ', xs[i]? = some x → Pv i σ' → SV tu { D with nx := fun σ3 H3 => Pv (i + 1) σ3 ∧ Ex H H3, ct := fun σ3 H3 => Pv (i + 1) σ3 ∧ Ex H H3, bk := tz D } ((σ'.set j1 (some (.int (i : Nat)))).set j2 (some x)) H) (hd : ∀ σ', Pv xs.length σ' → SV tz D σ' H) :
    SV (tSeq (tFor (iEnum K t) (gTup K 2 (gCons (gName j1) (gCons (gName j2) gNil))) tu) tz) D σ H := fun H1 e =>
  h H1 e _ fun H2 e2 => ⟨a, xs, rfl, ex_l (e.trans e2) hx, for_enum (D := { D with nx := tz D }) (fun i σ' H' => Pv i σ' ∧ Ex H H') ⟨h0, e.trans e2⟩ (fun i σ' H' _ p => ex_l p.2 hx) (fun i x σ' H' T hi p hT =>
    ⟨T, _, rfl, st_of upd_same, rfl, _, _, rfl, _, _, rfl, rfl, hs i x σ' hi p.1 _ (p.2.trans (Ex.new hT))⟩) fun σ' H' p => hd σ' p.1 H' p.2⟩
theorem lc_enum {a Dl : Addr} {xs : List V} {g : TG} {vs : List Nat} {H1 : Hp} {Qd : Hp → Prop} (Pv : Nat → Hp → Prop) (h0 : Pv 0 (upd H1 Dl (.lst []))) (hl : ∀ i H, i ≤ xs.length → Pv i H → SqL K H a xs)
    (hs : ∀ i x H T, xs[i]? = some x → Pv i H → H T = none → g (.ref T) (wipe σ vs) (upd H T (.tup [.int (i : Nat), x])) fun σ2 H2 => wipe σ2 vs = wipe σ vs ∧ tt σ2 H2 fun b H3 =>
      if b = true then te σ2 H3 fun y H4 => ∃ acc, H4 Dl = some (.lst acc) ∧ acc.length < sizeLine ∧ Pv (i + 1) (upd H4 Dl (.lst (acc ++ [y]))) else Pv (i + 1) H3) (hd : ∀ H, Pv xs.length H → Qd H) :
    ∃ W : Nat → Nat → Hp → Prop, (∃ m, W 0 m (upd H1 Dl (.lst []))) ∧ ∀ i m H, W i m H →
      ((Ite K a).stop i H ∧ Qd H) ∨ ((Ite K a).go i H ∧ ∃ Nx : Hp → Prop, (∀ H', Nx H' → ∃ m', m' < m ∧ W (i + 1) m' H') ∧ ∀ x H', (Ite K a).yld i H x H' → g x (wipe σ vs) H' fun σ2 H2 => wipe σ2 vs = wipe σ vs ∧ tt σ2 H2 fun b H3 =>
        if b = true then te σ2 H3 fun y H4 => ∃ acc, H4 Dl = some (.lst acc) ∧ acc.length < sizeLine ∧ Nx (upd H4 Dl (.lst (acc ++ [y]))) else Nx H3) := by
  refine ⟨fun i m H => m = xs.length - i ∧ i ≤ xs.length ∧ Pv i H, ⟨xs.length, by simp, Nat.zero_le _, h0⟩, ?_⟩
  rintro i m H ⟨rfl, hi, p⟩
  have q := hl i H hi p
  by_cases hlt : i < xs.length
  · refine .inr ⟨⟨xs, xs[i], q, by simp [hlt]⟩, Pv (i + 1), fun H' p' => ⟨xs.length - (i + 1), by omega, rfl, hlt, p'⟩, fun x H' y => ?_⟩
    obtain ⟨T, z, rfl, hT, rfl, y⟩ := y
    exact hs i z H T (y xs q) p hT
  · have e : i = xs.length := by omega
    subst e
    exact .inl ⟨⟨xs, q, Nat.le_refl _⟩, hd H p⟩
theorem filt_zip {α : Type} {xs : List α} {p : α × Nat → Bool} {g : α × Nat → V} {i : Nat} {x : α} (h : xs[i]? = some x) : ((xs.zipIdx.take (i + 1)).filter p).map g = ((xs.zipIdx.take i).filter p).map g ++ (if p (x, i) = true then [g (x, i)] else []) :=
  filt_take (by rw [List.getElem?_zipIdx, h]; simp)
theorem wipe2 {σ : L2.St} {j1 j2 : Nat} (hj : j1 ≠ j2) (a b : Option V) : wipe (((wipe σ [j1, j2]).set j1 a).set j2 b) [j1, j2] = wipe σ [j1, j2] := by
  have s1 : ∀ X : L2.St, (X.set j2 b).set j2 none = X.set j2 none := fun X => List.set_set ..
  have s2 : ∀ X : L2.St, (X.set j1 a).set j1 none = X.set j1 none := fun X => List.set_set ..
  have s3 : ∀ X : L2.St, (X.set j1 a).set j2 none = (X.set j2 none).set j1 a := fun X => List.set_comm _ _ hj
  have s4 : ∀ X : L2.St, (X.set j1 none).set j2 none = (X.set j2 none).set j1 none := fun X => List.set_comm _ _ hj
  have s5 : ∀ X : L2.St, (X.set j2 none).set j2 none = X.set j2 none := fun X => List.set_set ..
  have s6 : ∀ X : L2.St, (X.set j1 none).set j1 none = X.set j1 none := fun X => List.set_set ..
  show ((((((σ.set j2 none).set j1 none).set j1 a).set j2 b).set j2 none).set j1 none) = (σ.set j2 none).set j1 none
  rw [s1, s3, s2, s4, s5, s6]
/-- [e for place, x in enumerate(list) if ..] -/
theorem el_compE {α : Type} {a : Addr} {xs : List α} {val : α → V} {g : α × Nat → V} {p : α × Nat → Bool} {j1 j2 : Nat} (hj : j1 ≠ j2) (h : EvA t σ H [.ref a]) (hx : SqL K H a (xs.map val)) (hz : xs.length ≤ 40000)
    (ht : ∀ x i, xs[i]? = some x → EvT tt (((wipe σ [j1, j2]).set j1 (some (.int (i : Nat)))).set j2 (some (val x))) H (p (x, i))) (he : ∀ x i, xs[i]? = some x → p (x, i) = true → Ev te (((wipe σ [j1, j2]).set j1 (some (.int (i : Nat)))).set j2 (some (val x))) H (g (x, i))) :
    EvL (tLc (iEnum K t) (gTup K 2 (gCons (gName j1) (gCons (gName j2) gNil))) tt te [j1, j2]) σ H ((xs.zipIdx.filter p).map g) := fun H0 e Q q => h H0 e _ fun H1 e1 =>
  ⟨a, _, rfl, ex_l (e.trans e1) hx, fun Dl hD => lc_enum (xs := xs.map val) (fun i H' => Ex H1 H' ∧ H' Dl = some (.lst (((xs.zipIdx.take i).filter p).map g))) ⟨Ex.new hD, upd_same⟩ (fun i H' _ c => ex_l ((e.trans e1).trans c.1) hx) (fun i y H' T hi c hT => by
      obtain ⟨x, hxi, hm, rfl⟩ := map_get hi
      refine ⟨T, _, rfl, st_of upd_same, rfl, _, _, rfl, _, _, rfl, rfl, ?_, ?_⟩
      · show wipe (((wipe σ [j1, j2]).set j1 _).set j2 _) [j1, j2] = wipe σ [j1, j2]
        exact wipe2 hj _ _
      · have eT := (e.trans e1).trans (c.1.trans (Ex.new hT (o := .tup [.int (i : Nat), val x])))
        refine ht x i hxi _ eT _ fun H3 e3 => ?_
        have hDT : Dl ≠ T := ne_of_none c.2 hT
        have c2 : (upd H' T (.tup [.int (i : Nat), val x])) Dl = some (.lst (((xs.zipIdx.take i).filter p).map g)) := by rw [upd_ne hDT]; exact c.2
        have c1 := c.1.trans (Ex.new hT (o := .tup [.int (i : Nat), val x]))
        cases hp : p (x, i) with
        | true =>
          show te _ H3 _
          refine he x i hxi hp H3 (eT.trans e3) _ fun H4 e4 => ⟨_, e4 _ _ (e3 _ _ c2), ?_, Ex.mut ((c1.trans e3).trans e4) hD, ?_⟩
          · have l1 : (((xs.zipIdx.take i).filter p).map g).length ≤ xs.length := by
              rw [List.length_map]
              exact Nat.le_trans (List.length_filter_le _ _) (by rw [List.length_take, List.length_zipIdx]; omega)
            exact sz_lt (by omega)
          · rw [upd_same, filt_zip hxi, hp]
            rfl
        | false =>
          show Ex H1 H3 ∧ H3 Dl = _
          refine ⟨c1.trans e3, ?_⟩
          rw [e3 _ _ c2, filt_zip hxi, hp]
          simp) (fun H' c => q Dl H' (fresh_back e1 hD) (e1.trans c.1) (by rw [c.2, List.length_map, List.take_of_length_le (by rw [List.length_zipIdx]; omega)]))⟩
end
end Fk

set_option Elab.async false
set_option linter.all false
set_option maxRecDepth 100000
set_option maxHeartbeats 4000000
namespace Fk
open PySem PySem.Spec PyProof.Rows L2 Evl
/-! ### a def and its promise, by the number of its parameters -/
abbrev A1 := V → Hp → VK → Prop
abbrev A2 := V → V → Hp → VK → Prop
abbrev A3 := V → V → V → Hp → VK → Prop
abbrev A4 := V → V → V → V → Hp → VK → Prop
abbrev A5 := V → V → V → V → V → Hp → VK → Prop
def Sp1 (A : A1) : Sp := fun vs H Q _ => ∃ a, vs = [a] ∧ A a H Q
def Sp2 (A : A2) : Sp := fun vs H Q _ => ∃ a b, vs = [a, b] ∧ A a b H Q
def Sp3 (A : A3) : Sp := fun vs H Q _ => ∃ a b c, vs = [a, b, c] ∧ A a b c H Q
def Sp4 (A : A4) : Sp := fun vs H Q _ => ∃ a b c d, vs = [a, b, c, d] ∧ A a b c d H Q
def Sp5 (A : A5) : Sp := fun vs H Q _ => ∃ a b c d e, vs = [a, b, c, d, e] ∧ A a b c d e H Q
section
variable {P : Program} {w : World} {K : PySem.W.Frag} {mg : Str → Option Value} {base : Heap} {x qual : Str} {st : Stmt} {dvs : List V} {f : Addr} {fd : FuncData} {N : List Str} {k : Nat}
theorem def_ok {ps : List Str} {sp : Sp} (F : FunD K x qual (defArgs st) (defBody st) (defScope st) dvs [] f fd) (S : FnScope N ps (defScope st)) (len : ∀ vs H Q E, sp vs H Q E → vs.length = ps.length)
    (hbody : ∀ (cdv : Value) (A : Around) (outer : List Env) (s : Shared) (H : Hp) (vs : List V) (Q : VK) (E : XK), Room k (A.deeper (envOfC qual (defScope st) s.heap.objs.size f cdv)) → sp vs H Q E →
      ∃ t, PSs (cxOf CX0 P w K mg base N qual (defScope st) f cdv A outer s H E).nox (defBody st) t ∧ t { nx := fun _ H' => Q .non H', rt := Q } (start N vs) H) : FnOk P w K mg base CX0 (k + 1) f fd ps sp :=
  F.ok S len fun cdv A outer s H vs Q E hr h => let ⟨t, h1, h2⟩ := hbody cdv A outer s H vs Q E hr h; ⟨t, h1.nox, h2⟩
/-- a body's walk, the callee's room known -/
abbrev BodyOk (P : Program) (w : World) (K : PySem.W.Frag) (mg : Str → Option Value) (base : Heap) (qual : Str) (st : Stmt) (f : Addr) (N : List Str) (k : Nat) (vs : List V) (H : Hp) (Q : VK) : Prop :=
  ∀ (cdv : Value) (A : Around) (outer : List Env) (s : Shared) (E : XK), Room k (A.deeper (envOfC qual (defScope st) s.heap.objs.size f cdv)) → (A.deeper (envOfC qual (defScope st) s.heap.objs.size f cdv)).units + 1 < cLine →
    ∃ t, PSs (cxOf CX0 P w K mg base N qual (defScope st) f cdv A outer s H E).nox (defBody st) t ∧ t { nx := fun _ H' => Q .non H', rt := Q } (start N vs) H
theorem fn_ok1 {p0 : Str} {A : A1} (F : FunD K x qual (defArgs st) (defBody st) (defScope st) dvs [] f fd) (S : FnScope N [p0] (defScope st)) (h : ∀ a H Q, A a H Q → BodyOk P w K mg base qual st f N k [a] H Q) : FnOk P w K mg base CX0 (k + 1) f fd [p0] (Sp1 A) :=
  def_ok F S (fun vs H Q E h => by obtain ⟨_, rfl, _⟩ := h; rfl) fun cdv A outer s H vs Q E hr q => by
    obtain ⟨a, rfl, q⟩ := q
    exact h a H Q q cdv A outer s E hr (hu_of hr)
theorem pr1 {p0 : Str} {A : A1} (D : Df K x x st [] (He.fAd K (x, none))) (hm : mg x = some (.ref (He.ga K x))) (S : FnScope N [p0] (defScope st))
    (bd : ∀ (kV doc pm : Value) (an : Option Addr) (cdv ct : Value) (us : List Value), us.length = [p0].length → bindArgs (PySem.W.fnOf x x (defArgs st) (defBody st) (defScope st) .none kV doc pm an cdv ct) ⟨us, []⟩ = pure (([p0] : List Str).zip us))
    (h : ∀ a H Q, A a H Q → BodyOk P w K mg base x st (He.ga K x) N k [a] H Q) : Pr P w K mg base (k + 1) x (Sp1 A) := by
  obtain ⟨fd, F⟩ := D
  exact ⟨hm, F.kp, fd, _, fn_ok1 F S h, F.bindsN bd⟩
theorem fn_ok2 {p0 p1 : Str} {A : A2} (F : FunD K x qual (defArgs st) (defBody st) (defScope st) dvs [] f fd) (S : FnScope N [p0, p1] (defScope st)) (h : ∀ a b H Q, A a b H Q → BodyOk P w K mg base qual st f N k [a, b] H Q) : FnOk P w K mg base CX0 (k + 1) f fd [p0, p1] (Sp2 A) :=
  def_ok F S (fun vs H Q E h => by obtain ⟨_, _, rfl, _⟩ := h; rfl) fun cdv A outer s H vs Q E hr q => by
    obtain ⟨a, b, rfl, q⟩ := q
    exact h a b H Q q cdv A outer s E hr (hu_of hr)
theorem pr2 {p0 p1 : Str} {A : A2} (D : Df K x x st [] (He.fAd K (x, none))) (hm : mg x = some (.ref (He.ga K x))) (S : FnScope N [p0, p1] (defScope st))
    (bd : ∀ (kV doc pm : Value) (an : Option Addr) (cdv ct : Value) (us : List Value), us.length = [p0, p1].length → bindArgs (PySem.W.fnOf x x (defArgs st) (defBody st) (defScope st) .none kV doc pm an cdv ct) ⟨us, []⟩ = pure (([p0, p1] : List Str).zip us))
    (h : ∀ a b H Q, A a b H Q → BodyOk P w K mg base x st (He.ga K x) N k [a, b] H Q) : Pr P w K mg base (k + 1) x (Sp2 A) := by
  obtain ⟨fd, F⟩ := D
  exact ⟨hm, F.kp, fd, _, fn_ok2 F S h, F.bindsN bd⟩
theorem fn_ok3 {p0 p1 p2 : Str} {A : A3} (F : FunD K x qual (defArgs st) (defBody st) (defScope st) dvs [] f fd) (S : FnScope N [p0, p1, p2] (defScope st)) (h : ∀ a b c H Q, A a b c H Q → BodyOk P w K mg base qual st f N k [a, b, c] H Q) : FnOk P w K mg base CX0 (k + 1) f fd [p0, p1, p2] (Sp3 A) :=
  def_ok F S (fun vs H Q E h => by obtain ⟨_, _, _, rfl, _⟩ := h; rfl) fun cdv A outer s H vs Q E hr q => by
    obtain ⟨a, b, c, rfl, q⟩ := q
    exact h a b c H Q q cdv A outer s E hr (hu_of hr)
theorem pr3 {p0 p1 p2 : Str} {A : A3} (D : Df K x x st [] (He.fAd K (x, none))) (hm : mg x = some (.ref (He.ga K x))) (S : FnScope N [p0, p1, p2] (defScope st))
    (bd : ∀ (kV doc pm : Value) (an : Option Addr) (cdv ct : Value) (us : List Value), us.length = [p0, p1, p2].length → bindArgs (PySem.W.fnOf x x (defArgs st) (defBody st) (defScope st) .none kV doc pm an cdv ct) ⟨us, []⟩ = pure (([p0, p1, p2] : List Str).zip us))
    (h : ∀ a b c H Q, A a b c H Q → BodyOk P w K mg base x st (He.ga K x) N k [a, b, c] H Q) : Pr P w K mg base (k + 1) x (Sp3 A) := by
  obtain ⟨fd, F⟩ := D
  exact ⟨hm, F.kp, fd, _, fn_ok3 F S h, F.bindsN bd⟩
theorem fn_ok4 {p0 p1 p2 p3 : Str} {A : A4} (F : FunD K x qual (defArgs st) (defBody st) (defScope st) dvs [] f fd) (S : FnScope N [p0, p1, p2, p3] (defScope st)) (h : ∀ a b c d H Q, A a b c d H Q → BodyOk P w K mg base qual st f N k [a, b, c, d] H Q) : FnOk P w K mg base CX0 (k + 1) f fd [p0, p1, p2, p3] (Sp4 A) :=
  def_ok F S (fun vs H Q E h => by obtain ⟨_, _, _, _, rfl, _⟩ := h; rfl) fun cdv A outer s H vs Q E hr q => by
    obtain ⟨a, b, c, d, rfl, q⟩ := q
    exact h a b c d H Q q cdv A outer s E hr (hu_of hr)
theorem pr4 {p0 p1 p2 p3 : Str} {A : A4} (D : Df K x x st [] (He.fAd K (x, none))) (hm : mg x = some (.ref (He.ga K x))) (S : FnScope N [p0, p1, p2, p3] (defScope st))
    (bd : ∀ (kV doc pm : Value) (an : Option Addr) (cdv ct : Value) (us : List Value), us.length = [p0, p1, p2, p3].length → bindArgs (PySem.W.fnOf x x (defArgs st) (defBody st) (defScope st) .none kV doc pm an cdv ct) ⟨us, []⟩ = pure (([p0, p1, p2, p3] : List Str).zip us))
    (h : ∀ a b c d H Q, A a b c d H Q → BodyOk P w K mg base x st (He.ga K x) N k [a, b, c, d] H Q) : Pr P w K mg base (k + 1) x (Sp4 A) := by
  obtain ⟨fd, F⟩ := D
  exact ⟨hm, F.kp, fd, _, fn_ok4 F S h, F.bindsN bd⟩
theorem fn_ok5 {p0 p1 p2 p3 p4 : Str} {A : A5} (F : FunD K x qual (defArgs st) (defBody st) (defScope st) dvs [] f fd) (S : FnScope N [p0, p1, p2, p3, p4] (defScope st)) (h : ∀ a b c d e H Q, A a b c d e H Q → BodyOk P w K mg base qual st f N k [a, b, c, d, e] H Q) : FnOk P w K mg base CX0 (k + 1) f fd [p0, p1, p2, p3, p4] (Sp5 A) :=
  def_ok F S (fun vs H Q E h => by obtain ⟨_, _, _, _, _, rfl, _⟩ := h; rfl) fun cdv A outer s H vs Q E hr q => by
    obtain ⟨a, b, c, d, e, rfl, q⟩ := q
    exact h a b c d e H Q q cdv A outer s E hr (hu_of hr)
theorem pr5 {p0 p1 p2 p3 p4 : Str} {A : A5} (D : Df K x x st [] (He.fAd K (x, none))) (hm : mg x = some (.ref (He.ga K x))) (S : FnScope N [p0, p1, p2, p3, p4] (defScope st))
    (bd : ∀ (kV doc pm : Value) (an : Option Addr) (cdv ct : Value) (us : List Value), us.length = [p0, p1, p2, p3, p4].length → bindArgs (PySem.W.fnOf x x (defArgs st) (defBody st) (defScope st) .none kV doc pm an cdv ct) ⟨us, []⟩ = pure (([p0, p1, p2, p3, p4] : List Str).zip us))
    (h : ∀ a b c d e H Q, A a b c d e H Q → BodyOk P w K mg base x st (He.ga K x) N k [a, b, c, d, e] H Q) : Pr P w K mg base (k + 1) x (Sp5 A) := by
  obtain ⟨fd, F⟩ := D
  exact ⟨hm, F.kp, fd, _, fn_ok5 F S h, F.bindsN bd⟩
end
end Fk

set_option Elab.async false
set_option linter.all false
set_option maxRecDepth 100000
set_option maxHeartbeats 4000000
namespace Fk
open PySem PySem.Spec PyProof.Rows L2 Evl
section
variable {P : Program} {w : World} {K : PySem.W.Frag} {mg : Str → Option Value} {base : Heap} {x qual : Str} {st : Stmt} {f : Addr} {N : List Str} {k : Nat}
theorem mth1 {A : A1} (D : Df K x qual st [] f) (S : FnScope N ["self"] (defScope st))
    (bd : ∀ (kV doc pm : Value) (an : Option Addr) (cdv ct : Value) (us : List Value), us.length = 1 → bindArgs (PySem.W.fnOf x qual (defArgs st) (defBody st) (defScope st) .none kV doc pm an cdv ct) ⟨us, []⟩ = pure ((["self"] : List Str).zip us))
    (h : ∀ a H Q, A a H Q → BodyOk P w K mg base qual st f N k [a] H Q) : ∃ fd, FnOk P w K mg base CX0 (k + 1) f fd ["self"] (Sp1 A) ∧ Binds K fd ["self"] [] := by
  obtain ⟨fd, F⟩ := D
  exact ⟨fd, fn_ok1 F S h, F.bindsN bd⟩
abbrev Ob (K : PySem.W.Frag) (H : Hp) (f : Fld) : Prop := ∃ dx, H f.p = some (.ins (He.ga K f.k.cls) dx f.attrs)
theorem Tx.cls (T : Tx K mg) (k : Kd) : Cls K (He.ga K k.cls) := by
  cases k with
  | num w0 sg lt lo hi df c => exact T.cl_Number
  | sev hi lo df => exact T.cl_Seven
  | txt h df => exact T.cl_Text
  | row h mark => exact T.cl_Row
  | cho c lo hi => exact T.cl_Choice
  | may c lo hi => exact T.cl_Maybe
  | grp => exact T.cl_Group
  | siz c lo hi gr => exact T.cl_Sized
  | chk how w0 first => exact T.cl_Check
  | spt w0 tg => exact T.cl_Spot
/-- an attribute of a field: its value, and that the class has none of that name -/
def HasAt (K : PySem.W.Frag) (f : Fld) (a : Str) (v : V) : Prop := f.attrs.lookup a = some v ∧ NoAttr K (He.ga K f.k.cls) a
theorem ev_at {σ : L2.St} {H : Hp} {ta : TE} {v : V} {a : Str} {f : Fld} (T : Tx K mg) (h : Ev ta σ H (.ref f.p)) (ho : Ob K H f) (ha : HasAt K f a v) : Ev (tFld K ta a) σ H v := by
  obtain ⟨dx, ho⟩ := ho
  exact ev_fldA h ho (T.cls _) ha.2 ha.1
theorem at_name (T : Tx K mg) (f : Fld) : HasAt K f "name" (.str f.nm) := by
  obtain ⟨p, nm, k, l, ss⟩ := f
  cases k with
  | num w0 sg lt lo hi df c => exact ⟨rfl, T.na_Number_name⟩
  | sev hi lo df => exact ⟨rfl, T.na_Seven_name⟩
  | txt h df => exact ⟨rfl, T.na_Text_name⟩
  | row h mark => exact ⟨rfl, T.na_Row_name⟩
  | cho c lo hi => exact ⟨rfl, T.na_Choice_name⟩
  | may c lo hi => exact ⟨rfl, T.na_Maybe_name⟩
  | grp => exact ⟨rfl, T.na_Group_name⟩
  | siz c lo hi gr => exact ⟨rfl, T.na_Sized_name⟩
  | chk how w0 first => exact ⟨rfl, T.na_Check_name⟩
  | spt w0 tg => exact ⟨rfl, T.na_Spot_name⟩
theorem kind_Number (T : Tx K mg) : ∃ fd, FnOk P w K mg base CX0 1 (He.fAd K ("Number", some "kind")) fd ["self"] (Sp1 fun a H Q => Q (.str "number") H) ∧ Binds K fd ["self"] [] :=
  mth1 T.d_Number_kind sc_Number_kind (fun _ _ _ _ _ _ us hl => match us, hl with | [_], _ => rfl) fun a H Q h cdv A outer s E hr hu => ⟨_, (pss_one (ps_ret pe_str)), h⟩
theorem kind_Seven (T : Tx K mg) : ∃ fd, FnOk P w K mg base CX0 1 (He.fAd K ("Seven", some "kind")) fd ["self"] (Sp1 fun a H Q => Q (.str "seven") H) ∧ Binds K fd ["self"] [] :=
  mth1 T.d_Seven_kind sc_Seven_kind (fun _ _ _ _ _ _ us hl => match us, hl with | [_], _ => rfl) fun a H Q h cdv A outer s E hr hu => ⟨_, (pss_one (ps_ret pe_str)), h⟩
theorem kind_Text (T : Tx K mg) : ∃ fd, FnOk P w K mg base CX0 1 (He.fAd K ("Text", some "kind")) fd ["self"] (Sp1 fun a H Q => Q (.str "text") H) ∧ Binds K fd ["self"] [] :=
  mth1 T.d_Text_kind sc_Text_kind (fun _ _ _ _ _ _ us hl => match us, hl with | [_], _ => rfl) fun a H Q h cdv A outer s E hr hu => ⟨_, (pss_one (ps_ret pe_str)), h⟩
theorem kind_Row (T : Tx K mg) : ∃ fd, FnOk P w K mg base CX0 1 (He.fAd K ("Row", some "kind")) fd ["self"] (Sp1 fun a H Q => Q (.str "row") H) ∧ Binds K fd ["self"] [] :=
  mth1 T.d_Row_kind sc_Row_kind (fun _ _ _ _ _ _ us hl => match us, hl with | [_], _ => rfl) fun a H Q h cdv A outer s E hr hu => ⟨_, (pss_one (ps_ret pe_str)), h⟩
theorem kind_Choice (T : Tx K mg) : ∃ fd, FnOk P w K mg base CX0 1 (He.fAd K ("Choice", some "kind")) fd ["self"] (Sp1 fun a H Q => Q (.str "choice") H) ∧ Binds K fd ["self"] [] :=
  mth1 T.d_Choice_kind sc_Choice_kind (fun _ _ _ _ _ _ us hl => match us, hl with | [_], _ => rfl) fun a H Q h cdv A outer s E hr hu => ⟨_, (pss_one (ps_ret pe_str)), h⟩
theorem kind_Maybe (T : Tx K mg) : ∃ fd, FnOk P w K mg base CX0 1 (He.fAd K ("Maybe", some "kind")) fd ["self"] (Sp1 fun a H Q => Q (.str "maybe") H) ∧ Binds K fd ["self"] [] :=
  mth1 T.d_Maybe_kind sc_Maybe_kind (fun _ _ _ _ _ _ us hl => match us, hl with | [_], _ => rfl) fun a H Q h cdv A outer s E hr hu => ⟨_, (pss_one (ps_ret pe_str)), h⟩
theorem kind_Group (T : Tx K mg) : ∃ fd, FnOk P w K mg base CX0 1 (He.fAd K ("Group", some "kind")) fd ["self"] (Sp1 fun a H Q => Q (.str "group") H) ∧ Binds K fd ["self"] [] :=
  mth1 T.d_Group_kind sc_Group_kind (fun _ _ _ _ _ _ us hl => match us, hl with | [_], _ => rfl) fun a H Q h cdv A outer s E hr hu => ⟨_, (pss_one (ps_ret pe_str)), h⟩
theorem kind_Sized (T : Tx K mg) : ∃ fd, FnOk P w K mg base CX0 1 (He.fAd K ("Sized", some "kind")) fd ["self"] (Sp1 fun a H Q => Q (.str "sized") H) ∧ Binds K fd ["self"] [] :=
  mth1 T.d_Sized_kind sc_Sized_kind (fun _ _ _ _ _ _ us hl => match us, hl with | [_], _ => rfl) fun a H Q h cdv A outer s E hr hu => ⟨_, (pss_one (ps_ret pe_str)), h⟩
theorem kind_Check (T : Tx K mg) : ∃ fd, FnOk P w K mg base CX0 1 (He.fAd K ("Check", some "kind")) fd ["self"] (Sp1 fun a H Q => Q (.str "check") H) ∧ Binds K fd ["self"] [] :=
  mth1 T.d_Check_kind sc_Check_kind (fun _ _ _ _ _ _ us hl => match us, hl with | [_], _ => rfl) fun a H Q h cdv A outer s E hr hu => ⟨_, (pss_one (ps_ret pe_str)), h⟩
theorem kind_Spot (T : Tx K mg) : ∃ fd, FnOk P w K mg base CX0 1 (He.fAd K ("Spot", some "kind")) fd ["self"] (Sp1 fun a H Q => Q (.str "spot") H) ∧ Binds K fd ["self"] [] :=
  mth1 T.d_Spot_kind sc_Spot_kind (fun _ _ _ _ _ _ us hl => match us, hl with | [_], _ => rfl) fun a H Q h cdv A outer s E hr hu => ⟨_, (pss_one (ps_ret pe_str)), h⟩
theorem steers_Number (T : Tx K mg) : ∃ fd, FnOk P w K mg base CX0 1 (He.fAd K ("Number", some "steers")) fd ["self"] (Sp1 fun a H Q => Q .non H) ∧ Binds K fd ["self"] [] :=
  mth1 T.d_Number_steers sc_Field_steers (fun _ _ _ _ _ _ us hl => match us, hl with | [_], _ => rfl) fun a H Q h cdv A outer s E hr hu => by
    refine ⟨_, (pss_one (ps_ret pe_non)), ?_⟩
    exact h
theorem steers_Seven (T : Tx K mg) : ∃ fd, FnOk P w K mg base CX0 1 (He.fAd K ("Seven", some "steers")) fd ["self"] (Sp1 fun a H Q => Q .non H) ∧ Binds K fd ["self"] [] :=
  mth1 T.d_Seven_steers sc_Field_steers (fun _ _ _ _ _ _ us hl => match us, hl with | [_], _ => rfl) fun a H Q h cdv A outer s E hr hu => by
    refine ⟨_, (pss_one (ps_ret pe_non)), ?_⟩
    exact h
theorem steers_Text (T : Tx K mg) : ∃ fd, FnOk P w K mg base CX0 1 (He.fAd K ("Text", some "steers")) fd ["self"] (Sp1 fun a H Q => ∃ p dx fs hw cv, a = .ref p ∧ H p = some (.ins (He.ga K "Text") dx fs) ∧ fs.lookup ("how" : Str) = some (V.str hw) ∧ fs.lookup ("count" : Str) = some cv ∧ Q (if hw = "by" then cv else .non) H) ∧ Binds K fd ["self"] [] :=
  mth1 T.d_Text_steers sc_Text_steers (fun _ _ _ _ _ _ us hl => match us, hl with | [_], _ => rfl) fun a H Q h cdv A outer s E hr hu => by
    refine ⟨_, (pss_cons (ps_if (pt_cmpR op_eq (fldK (K := K) rfl (pv 0) rfl) pe_str (by rfl)) (pss_one (ps_ret (fldK (K := K) rfl (pv 0) rfl))) pss_nil)
      (pss_one (ps_ret pe_non))), ?_⟩
    obtain ⟨p, dx, fs, hw, cv, rfl, ho, hh, hc, q⟩ := h
    refine ⟨_, rfl, p, _, dx, fs, _, rfl, ho, T.cl_Text, T.na_Text_how, hh, rfl, _, rfl, ?_⟩
    by_cases e : hw = "by"
    · rw [if_pos e] at q
      rw [if_pos (decide_eq_true (congrArg V.str e))]
      exact ⟨_, rfl, p, _, dx, fs, _, rfl, ho, T.cl_Text, T.na_Text_count, hc, q⟩
    · rw [if_neg e] at q
      rw [if_neg (fun z => e (V.str.inj (of_decide_eq_true z)))]
      exact q
theorem steers_Row (T : Tx K mg) : ∃ fd, FnOk P w K mg base CX0 1 (He.fAd K ("Row", some "steers")) fd ["self"] (Sp1 fun a H Q => ∃ p dx fs hw cv, a = .ref p ∧ H p = some (.ins (He.ga K "Row") dx fs) ∧ fs.lookup ("how" : Str) = some (V.str hw) ∧ fs.lookup ("count" : Str) = some cv ∧ Q (if hw = "by" then cv else .non) H) ∧ Binds K fd ["self"] [] :=
  mth1 T.d_Row_steers sc_Row_steers (fun _ _ _ _ _ _ us hl => match us, hl with | [_], _ => rfl) fun a H Q h cdv A outer s E hr hu => by
    refine ⟨_, (pss_cons (ps_if (pt_cmpR op_eq (fldK (K := K) rfl (pv 0) rfl) pe_str (by rfl)) (pss_one (ps_ret (fldK (K := K) rfl (pv 0) rfl))) pss_nil)
      (pss_one (ps_ret pe_non))), ?_⟩
    obtain ⟨p, dx, fs, hw, cv, rfl, ho, hh, hc, q⟩ := h
    refine ⟨_, rfl, p, _, dx, fs, _, rfl, ho, T.cl_Row, T.na_Row_how, hh, rfl, _, rfl, ?_⟩
    by_cases e : hw = "by"
    · rw [if_pos e] at q
      rw [if_pos (decide_eq_true (congrArg V.str e))]
      exact ⟨_, rfl, p, _, dx, fs, _, rfl, ho, T.cl_Row, T.na_Row_count, hc, q⟩
    · rw [if_neg e] at q
      rw [if_neg (fun z => e (V.str.inj (of_decide_eq_true z)))]
      exact q
theorem steers_Choice (T : Tx K mg) : ∃ fd, FnOk P w K mg base CX0 1 (He.fAd K ("Choice", some "steers")) fd ["self"] (Sp1 fun a H Q => ∃ p dx fs v, a = .ref p ∧ H p = some (.ins (He.ga K "Choice") dx fs) ∧ fs.lookup ("control" : Str) = some v ∧ Q v H) ∧ Binds K fd ["self"] [] :=
  mth1 T.d_Choice_steers sc_Choice_steers (fun _ _ _ _ _ _ us hl => match us, hl with | [_], _ => rfl) fun a H Q h cdv A outer s E hr hu => by
    refine ⟨_, (pss_one (ps_ret (fldK (K := K) rfl (pv 0) rfl))), ?_⟩
    obtain ⟨p, dx, fs, v, rfl, ho, hc, q⟩ := h
    exact ⟨_, rfl, p, _, dx, fs, _, rfl, ho, T.cl_Choice, T.na_Choice_control, hc, q⟩
theorem steers_Maybe (T : Tx K mg) : ∃ fd, FnOk P w K mg base CX0 1 (He.fAd K ("Maybe", some "steers")) fd ["self"] (Sp1 fun a H Q => ∃ p dx fs v, a = .ref p ∧ H p = some (.ins (He.ga K "Maybe") dx fs) ∧ fs.lookup ("control" : Str) = some v ∧ Q v H) ∧ Binds K fd ["self"] [] :=
  mth1 T.d_Maybe_steers sc_Maybe_steers (fun _ _ _ _ _ _ us hl => match us, hl with | [_], _ => rfl) fun a H Q h cdv A outer s E hr hu => by
    refine ⟨_, (pss_one (ps_ret (fldK (K := K) rfl (pv 0) rfl))), ?_⟩
    obtain ⟨p, dx, fs, v, rfl, ho, hc, q⟩ := h
    exact ⟨_, rfl, p, _, dx, fs, _, rfl, ho, T.cl_Maybe, T.na_Maybe_control, hc, q⟩
theorem steers_Group (T : Tx K mg) : ∃ fd, FnOk P w K mg base CX0 1 (He.fAd K ("Group", some "steers")) fd ["self"] (Sp1 fun a H Q => Q .non H) ∧ Binds K fd ["self"] [] :=
  mth1 T.d_Group_steers sc_Field_steers (fun _ _ _ _ _ _ us hl => match us, hl with | [_], _ => rfl) fun a H Q h cdv A outer s E hr hu => by
    refine ⟨_, (pss_one (ps_ret pe_non)), ?_⟩
    exact h
theorem steers_Sized (T : Tx K mg) : ∃ fd, FnOk P w K mg base CX0 1 (He.fAd K ("Sized", some "steers")) fd ["self"] (Sp1 fun a H Q => ∃ p dx fs v, a = .ref p ∧ H p = some (.ins (He.ga K "Sized") dx fs) ∧ fs.lookup ("control" : Str) = some v ∧ Q v H) ∧ Binds K fd ["self"] [] :=
  mth1 T.d_Sized_steers sc_Sized_steers (fun _ _ _ _ _ _ us hl => match us, hl with | [_], _ => rfl) fun a H Q h cdv A outer s E hr hu => by
    refine ⟨_, (pss_one (ps_ret (fldK (K := K) rfl (pv 0) rfl))), ?_⟩
    obtain ⟨p, dx, fs, v, rfl, ho, hc, q⟩ := h
    exact ⟨_, rfl, p, _, dx, fs, _, rfl, ho, T.cl_Sized, T.na_Sized_control, hc, q⟩
theorem steers_Check (T : Tx K mg) : ∃ fd, FnOk P w K mg base CX0 1 (He.fAd K ("Check", some "steers")) fd ["self"] (Sp1 fun a H Q => Q .non H) ∧ Binds K fd ["self"] [] :=
  mth1 T.d_Check_steers sc_Field_steers (fun _ _ _ _ _ _ us hl => match us, hl with | [_], _ => rfl) fun a H Q h cdv A outer s E hr hu => by
    refine ⟨_, (pss_one (ps_ret pe_non)), ?_⟩
    exact h
theorem steers_Spot (T : Tx K mg) : ∃ fd, FnOk P w K mg base CX0 1 (He.fAd K ("Spot", some "steers")) fd ["self"] (Sp1 fun a H Q => Q .non H) ∧ Binds K fd ["self"] [] :=
  mth1 T.d_Spot_steers sc_Field_steers (fun _ _ _ _ _ _ us hl => match us, hl with | [_], _ => rfl) fun a H Q h cdv A outer s E hr hu => by
    refine ⟨_, (pss_one (ps_ret pe_non)), ?_⟩
    exact h
def spKind (K : PySem.W.Frag) : Sp := Sp1 fun a H Q => ∃ f : Fld, a = f.v ∧ Ob K H f ∧ Q (.str f.k.word) H
def spSteers (K : PySem.W.Frag) : Sp := Sp1 fun a H Q => ∃ f : Fld, a = f.v ∧ Ob K H f ∧ Q (stV f.k) H
theorem pr_kind (T : Tx K mg) : PrU P w K mg base 1 "kind" (spKind K) := by
  rintro x H Q ⟨_, ⟨⟩, f, rfl, ⟨dx, ho⟩, q⟩
  obtain ⟨p, nm, k, l, ss⟩ := f
  cases k with
  | num w0 sg lt lo hi df c =>
    obtain ⟨fd, F, b⟩ := kind_Number (P := P) (w := w) (base := base) T
    exact ⟨p, _, dx, _, _, fd, _, _, rfl, ho, rfl, T.cl_Number, T.me_Number_kind, F, b, _, rfl, q⟩
  | sev hi lo df =>
    obtain ⟨fd, F, b⟩ := kind_Seven (P := P) (w := w) (base := base) T
    exact ⟨p, _, dx, _, _, fd, _, _, rfl, ho, rfl, T.cl_Seven, T.me_Seven_kind, F, b, _, rfl, q⟩
  | txt h df =>
    obtain ⟨fd, F, b⟩ := kind_Text (P := P) (w := w) (base := base) T
    exact ⟨p, _, dx, _, _, fd, _, _, rfl, ho, rfl, T.cl_Text, T.me_Text_kind, F, b, _, rfl, q⟩
  | row h mark =>
    obtain ⟨fd, F, b⟩ := kind_Row (P := P) (w := w) (base := base) T
    exact ⟨p, _, dx, _, _, fd, _, _, rfl, ho, rfl, T.cl_Row, T.me_Row_kind, F, b, _, rfl, q⟩
  | cho c lo hi =>
    obtain ⟨fd, F, b⟩ := kind_Choice (P := P) (w := w) (base := base) T
    exact ⟨p, _, dx, _, _, fd, _, _, rfl, ho, rfl, T.cl_Choice, T.me_Choice_kind, F, b, _, rfl, q⟩
  | may c lo hi =>
    obtain ⟨fd, F, b⟩ := kind_Maybe (P := P) (w := w) (base := base) T
    exact ⟨p, _, dx, _, _, fd, _, _, rfl, ho, rfl, T.cl_Maybe, T.me_Maybe_kind, F, b, _, rfl, q⟩
  | grp =>
    obtain ⟨fd, F, b⟩ := kind_Group (P := P) (w := w) (base := base) T
    exact ⟨p, _, dx, _, _, fd, _, _, rfl, ho, rfl, T.cl_Group, T.me_Group_kind, F, b, _, rfl, q⟩
  | siz c lo hi gr =>
    obtain ⟨fd, F, b⟩ := kind_Sized (P := P) (w := w) (base := base) T
    exact ⟨p, _, dx, _, _, fd, _, _, rfl, ho, rfl, T.cl_Sized, T.me_Sized_kind, F, b, _, rfl, q⟩
  | chk how w0 first =>
    obtain ⟨fd, F, b⟩ := kind_Check (P := P) (w := w) (base := base) T
    exact ⟨p, _, dx, _, _, fd, _, _, rfl, ho, rfl, T.cl_Check, T.me_Check_kind, F, b, _, rfl, q⟩
  | spt w0 tg =>
    obtain ⟨fd, F, b⟩ := kind_Spot (P := P) (w := w) (base := base) T
    exact ⟨p, _, dx, _, _, fd, _, _, rfl, ho, rfl, T.cl_Spot, T.me_Spot_kind, F, b, _, rfl, q⟩
theorem pr_steers (T : Tx K mg) : PrU P w K mg base 1 "steers" (spSteers K) := by
  rintro x H Q ⟨_, ⟨⟩, f, rfl, ⟨dx, ho⟩, q⟩
  obtain ⟨p, nm, k, l, ss⟩ := f
  cases k with
  | num w0 sg lt lo hi df c =>
    obtain ⟨fd, F, b⟩ := steers_Number (P := P) (w := w) (base := base) T
    exact ⟨p, _, dx, _, _, fd, _, _, rfl, ho, rfl, T.cl_Number, T.me_Number_steers, F, b, _, rfl, q⟩
  | sev hi lo df =>
    obtain ⟨fd, F, b⟩ := steers_Seven (P := P) (w := w) (base := base) T
    exact ⟨p, _, dx, _, _, fd, _, _, rfl, ho, rfl, T.cl_Seven, T.me_Seven_steers, F, b, _, rfl, q⟩
  | txt h df =>
    obtain ⟨fd, F, b⟩ := steers_Text (P := P) (w := w) (base := base) T
    exact ⟨p, _, dx, _, _, fd, _, _, rfl, ho, rfl, T.cl_Text, T.me_Text_steers, F, b, _, rfl, p, dx, _, _, _, rfl, ho, rfl, rfl, (by cases h <;> exact q)⟩
  | row h mark =>
    obtain ⟨fd, F, b⟩ := steers_Row (P := P) (w := w) (base := base) T
    exact ⟨p, _, dx, _, _, fd, _, _, rfl, ho, rfl, T.cl_Row, T.me_Row_steers, F, b, _, rfl, p, dx, _, _, _, rfl, ho, rfl, rfl, (by cases h <;> exact q)⟩
  | cho c lo hi =>
    obtain ⟨fd, F, b⟩ := steers_Choice (P := P) (w := w) (base := base) T
    exact ⟨p, _, dx, _, _, fd, _, _, rfl, ho, rfl, T.cl_Choice, T.me_Choice_steers, F, b, _, rfl, p, dx, _, _, rfl, ho, rfl, q⟩
  | may c lo hi =>
    obtain ⟨fd, F, b⟩ := steers_Maybe (P := P) (w := w) (base := base) T
    exact ⟨p, _, dx, _, _, fd, _, _, rfl, ho, rfl, T.cl_Maybe, T.me_Maybe_steers, F, b, _, rfl, p, dx, _, _, rfl, ho, rfl, q⟩
  | grp =>
    obtain ⟨fd, F, b⟩ := steers_Group (P := P) (w := w) (base := base) T
    exact ⟨p, _, dx, _, _, fd, _, _, rfl, ho, rfl, T.cl_Group, T.me_Group_steers, F, b, _, rfl, q⟩
  | siz c lo hi gr =>
    obtain ⟨fd, F, b⟩ := steers_Sized (P := P) (w := w) (base := base) T
    exact ⟨p, _, dx, _, _, fd, _, _, rfl, ho, rfl, T.cl_Sized, T.me_Sized_steers, F, b, _, rfl, p, dx, _, _, rfl, ho, rfl, q⟩
  | chk how w0 first =>
    obtain ⟨fd, F, b⟩ := steers_Check (P := P) (w := w) (base := base) T
    exact ⟨p, _, dx, _, _, fd, _, _, rfl, ho, rfl, T.cl_Check, T.me_Check_steers, F, b, _, rfl, q⟩
  | spt w0 tg =>
    obtain ⟨fd, F, b⟩ := steers_Spot (P := P) (w := w) (base := base) T
    exact ⟨p, _, dx, _, _, fd, _, _, rfl, ho, rfl, T.cl_Spot, T.me_Spot_steers, F, b, _, rfl, q⟩
end
end Fk

set_option Elab.async false
set_option linter.all false
set_option maxRecDepth 100000
set_option maxHeartbeats 4000000
namespace Fk
open PySem PySem.Spec PyProof.Rows L2 Evl
section
variable {P : Program} {w : World} {K : PySem.W.Frag} {mg : Str → Option Value} {base : Heap}
theorem rv_shl {H : Hp} {i : Int} {j : Nat} (n : Nat) (h : i.natAbs < 2 ^ n) (hn : n + j ≤ 134217728) : RV (rI CShl fun i j => .int (i * 2 ^ j.toNat)) (.int i) (.int (j : Nat)) H (.int (i * 2 ^ j)) := fun H1 _ _ q => ⟨i, j, rfl, rfl, shl_ok h hn, q H1 (Ex.refl _)⟩
abbrev aPower : A1 := fun a H Q => ∃ n : Nat, a = .int n ∧ n ≤ 100 ∧ RetV (.int ((2 ^ n : Nat) : Int)) H Q
theorem ok_power_of (T : Tx K mg) : Pr P w K mg base 1 "power_of" (Sp1 aPower) :=
  pr1 T.d_power_of T.g_power_of sc_power_of (fun _ _ _ _ _ _ us hl => match us, hl with | [_], _ => rfl) fun a H Q h cdv A outer s E hr hu => by
    obtain ⟨n, rfl, hn, q⟩ := h
    refine ⟨_, (pss_one (ps_ret (pe_op op_shlW pe_int (pv 0)))), ?_⟩
    refine (sv_ret (ev_is (ev_op ev_c (ev_var rfl) (rv_shl (j := n) 1 (by decide) (by omega))) ?_) q).here
    simp
/-- numbers' ends -/
abbrev aLeast (K : PySem.W.Frag) : A1 := fun a H Q => ∃ f : Fld, a = f.v ∧ Ob K H f ∧ (∃ w sg lt lo hi df c, f.k = .num w sg lt lo hi df c ∧ 1 ≤ w ∧ w ≤ 32) ∧ RetV (.int f.k.least) H Q
abbrev aGreatest (K : PySem.W.Frag) : A1 := fun a H Q => ∃ f : Fld, a = f.v ∧ Ob K H f ∧ (∃ w sg lt lo hi df c, f.k = .num w sg lt lo hi df c ∧ 1 ≤ w ∧ w ≤ 32) ∧ RetV (.int f.k.greatest) H Q
theorem ev_power {σ : L2.St} {H : Hp} {ta : TE} {n : Nat} (h : Ev ta σ H (.int n)) (hn : n ≤ 100) : Ev (tFn (Sp1 aPower) (tCons ta tNil)) σ H (.int ((2 ^ n : Nat) : Int)) :=
  ev_fn (ea_cons h ea_nil) fun H1 _ Q q E => ⟨_, rfl, n, rfl, hn, q⟩
theorem pr_least (T : Tx K mg) : PrU P w K mg base 2 "least" (Sp1 (aLeast K)) := by
  rintro x H Q ⟨_, ⟨⟩, f, rfl, ⟨dx, ho⟩, ⟨w0, sg, lt, lo, hi, df, c, hk, h1, h2⟩, q⟩
  obtain ⟨p, nm, k, l, ss⟩ := f
  obtain rfl : k = .num w0 sg lt lo hi df c := hk
  have G_power_of := ok_power_of (P := P) (w := w) (base := base) T
  obtain ⟨fd, F, b⟩ := mth1 (P := P) (w := w) (base := base) (k := 1) (A := fun a H Q => a = .ref p ∧ Ob K H (.mk p nm (.num w0 sg lt lo hi df c) l ss) ∧ RetV (.int (Kd.num w0 sg lt lo hi df c).least) H Q) T.d_Number_least sc_Number_least (fun _ _ _ _ _ _ us hl => match us, hl with | [_], _ => rfl) fun a H Q h cdv A outer s E hr hu => by
    obtain ⟨rfl, ob, q⟩ := h
    refine ⟨_, (pss_cons (ps_if (pt_cmpR op_notN (fldK (K := K) rfl (pv 0) rfl) pe_non (by rfl)) (pss_one (ps_ret (fldK (K := K) rfl (pv 0) rfl))) pss_nil)
      (pss_cons (ps_if (pt_val (fldK (K := K) rfl (pv 0) rfl)) (pss_one (ps_ret (pe_op op_sub pe_int (pe_fn G_power_of (hr.mono (by omega)) (by rfl) (pa_cons (pe_op op_sub (fldK (K := K) rfl (pv 0) rfl) pe_int) pa_nil))))) pss_nil)
      (pss_one (ps_ret pe_int)))), ?_⟩
    have hl := ev_at (σ := start ["self"] [V.ref p]) T (ev_var (i := 0) rfl) ob ⟨rfl, T.na_Number_low⟩
    have hs := ev_at (σ := start ["self"] [V.ref p]) T (ev_var (i := 0) rfl) ob ⟨rfl, T.na_Number_signed⟩
    have hw := ev_at (σ := start ["self"] [V.ref p]) T (ev_var (i := 0) rfl) ob ⟨rfl, T.na_Number_width⟩
    refine (sv_when (et_test (ev_notn hl)) (fun e => ?_) fun e => ?_).here
    · cases lo with
      | none => cases e
      | some i => exact sv_ret hl q
    · cases lo with
      | some i => cases e
      | none =>
        refine sv_when (et_B hs) (fun e2 => ?_) fun e2 => ?_
        · subst e2
          refine sv_ret (ev_is (ev_op ev_c (ev_power (n := w0 - 1) (ev_is (ev_op hw ev_c rv_I0) (congrArg V.int (by omega))) (by omega)) rv_I0) ?_) q
          show V.int (0 - ((2 ^ (w0 - 1) : Nat) : Int)) = V.int (-(2 ^ (w0 - 1)))
          congr 1
          push_cast
          omega
        · subst e2
          exact sv_ret ev_c q
  exact ⟨p, _, dx, _, _, fd, _, _, rfl, ho, rfl, T.cl_Number, T.me_Number_least, F, b, _, rfl, rfl, ⟨dx, ho⟩, q⟩
theorem pr_greatest (T : Tx K mg) : PrU P w K mg base 2 "greatest" (Sp1 (aGreatest K)) := by
  rintro x H Q ⟨_, ⟨⟩, f, rfl, ⟨dx, ho⟩, ⟨w0, sg, lt, lo, hi, df, c, hk, h1, h2⟩, q⟩
  obtain ⟨p, nm, k, l, ss⟩ := f
  obtain rfl : k = .num w0 sg lt lo hi df c := hk
  have G_power_of := ok_power_of (P := P) (w := w) (base := base) T
  obtain ⟨fd, F, b⟩ := mth1 (P := P) (w := w) (base := base) (k := 1) (A := fun a H Q => a = .ref p ∧ Ob K H (.mk p nm (.num w0 sg lt lo hi df c) l ss) ∧ RetV (.int (Kd.num w0 sg lt lo hi df c).greatest) H Q) T.d_Number_greatest sc_Number_greatest (fun _ _ _ _ _ _ us hl => match us, hl with | [_], _ => rfl) fun a H Q h cdv A outer s E hr hu => by
    obtain ⟨rfl, ob, q⟩ := h
    refine ⟨_, (pss_cons (ps_if (pt_cmpR op_notN (fldK (K := K) rfl (pv 0) rfl) pe_non (by rfl)) (pss_one (ps_ret (fldK (K := K) rfl (pv 0) rfl))) pss_nil)
      (pss_cons (ps_if (pt_val (fldK (K := K) rfl (pv 0) rfl)) (pss_one (ps_ret (pe_op op_sub (pe_fn G_power_of (hr.mono (by omega)) (by rfl) (pa_cons (pe_op op_sub (fldK (K := K) rfl (pv 0) rfl) pe_int) pa_nil)) pe_int))) pss_nil)
      (pss_one (ps_ret (pe_op op_sub (pe_fn G_power_of (hr.mono (by omega)) (by rfl) (pa_cons (fldK (K := K) rfl (pv 0) rfl) pa_nil)) pe_int))))), ?_⟩
    have hl := ev_at (σ := start ["self"] [V.ref p]) T (ev_var (i := 0) rfl) ob ⟨rfl, T.na_Number_high⟩
    have hs := ev_at (σ := start ["self"] [V.ref p]) T (ev_var (i := 0) rfl) ob ⟨rfl, T.na_Number_signed⟩
    have hw := ev_at (σ := start ["self"] [V.ref p]) T (ev_var (i := 0) rfl) ob ⟨rfl, T.na_Number_width⟩
    refine (sv_when (et_test (ev_notn hl)) (fun e => ?_) fun e => ?_).here
    · cases hi with
      | none => cases e
      | some i => exact sv_ret hl q
    · cases hi with
      | some i => cases e
      | none =>
        refine sv_when (et_B hs) (fun e2 => ?_) fun e2 => ?_
        · subst e2
          refine sv_ret (ev_is (ev_op (ev_power (n := w0 - 1) (ev_is (ev_op hw ev_c rv_I0) (congrArg V.int (by omega))) (by omega)) ev_c rv_I0) ?_) q
          show V.int (((2 ^ (w0 - 1) : Nat) : Int) - 1) = V.int (2 ^ (w0 - 1) - 1)
          exact congrArg V.int (by push_cast; rfl)
        · subst e2
          refine sv_ret (ev_is (ev_op (ev_power (n := w0) hw (by omega)) ev_c rv_I0) ?_) q
          exact congrArg V.int (by push_cast; rfl)
  exact ⟨p, _, dx, _, _, fd, _, _, rfl, ho, rfl, T.cl_Number, T.me_Number_greatest, F, b, _, rfl, rfl, ⟨dx, ho⟩, q⟩
end
end Fk

set_option Elab.async false
set_option linter.all false
set_option maxRecDepth 100000
set_option maxHeartbeats 4000000
namespace Fk
/-! ### masks: sets of lengths up to 2040 -/
def bitsM (m : Nat) : List Nat := (List.range 2041).filter fun i => m.testBit i
theorem mem_bitsM {m i : Nat} : i ∈ bitsM m ↔ i ≤ 2040 ∧ m.testBit i = true := by
  unfold bitsM
  rw [List.mem_filter, List.mem_range]
  constructor
  · rintro ⟨a, b⟩; exact ⟨by omega, b⟩
  · rintro ⟨a, b⟩; exact ⟨by omega, b⟩
theorem bitsM_len (m : Nat) : (bitsM m).length ≤ 2041 := by
  unfold bitsM
  exact Nat.le_trans (List.length_filter_le _ _) (by simp)
theorem odd_part : ∀ m : Nat, 0 < m → ∃ k q, m = 2 ^ k * (2 * q + 1) := by
  intro m
  induction m using Nat.strongRecOn with
  | _ m ih =>
    intro h
    by_cases e : m % 2 = 1
    · exact ⟨0, m / 2, by omega⟩
    · obtain ⟨k, q, hk⟩ := ih (m / 2) (by omega) (by omega)
      refine ⟨k + 1, q, ?_⟩
      rw [Nat.pow_succ, Nat.mul_comm (2 ^ k) 2, Nat.mul_assoc, ← hk]
      omega
theorem low_bit {m : Nat} (h : 0 < m) : ∃ k, m.testBit k = true ∧ (∀ j, j < k → m.testBit j = false) ∧ (m &&& (m - 1)) + 2 ^ k = m ∧ ∀ j, (m &&& (m - 1)).testBit j = (m.testBit j && decide (j ≠ k)) := by
  obtain ⟨k, q, e⟩ := odd_part m h
  have hp : 0 < 2 ^ k := Nat.two_pow_pos k
  have t1 : ∀ j, m.testBit j = if j < k then false else (2 * q + 1).testBit (j - k) := fun j => by
    rw [e, show 2 ^ k * (2 * q + 1) = 2 ^ k * (2 * q + 1) + 0 from rfl, Nat.testBit_two_pow_mul_add _ hp]
    simp
  have e2 : m - 1 = 2 ^ k * (2 * q) + (2 ^ k - 1) := by
    rw [e, Nat.mul_add]
    omega
  have t2 : ∀ j, (m - 1).testBit j = if j < k then true else (2 * q).testBit (j - k) := fun j => by
    rw [e2, Nat.testBit_two_pow_mul_add _ (by omega)]
    by_cases hj : j < k
    · rw [if_pos hj, if_pos hj, Nat.testBit_two_pow_sub_one]
      simp [hj]
    · rw [if_neg hj, if_neg hj]
  have t3 : ∀ i, (2 * q + 1).testBit (i + 1) = (2 * q).testBit (i + 1) := fun i => by
    rw [Nat.testBit_succ, Nat.testBit_succ, show (2 * q + 1) / 2 = q by omega, show 2 * q / 2 = q by omega]
  have t4 : (2 * q + 1).testBit 0 = true := by
    rw [Nat.testBit_zero]
    exact decide_eq_true (by omega)
  have t5 : (2 * q).testBit 0 = false := by
    rw [Nat.testBit_zero]
    simp
  have key : ∀ j, (m &&& (m - 1)).testBit j = (m.testBit j && decide (j ≠ k)) := fun j => by
    rw [Nat.testBit_and, t1, t2]
    by_cases h1 : j < k
    · simp [h1]
    · rw [if_neg h1, if_neg h1]
      by_cases h2 : j = k
      · subst h2
        simp [t5]
      · obtain ⟨i, hi⟩ : ∃ i, j - k = i + 1 := ⟨j - k - 1, by omega⟩
        rw [hi, t3]
        simp [h2]
  refine ⟨k, ?_, fun j hj => ?_, ?_, key⟩
  · rw [t1, if_neg (Nat.lt_irrefl _), Nat.sub_self, t4]
  · rw [t1, if_pos hj]
  · have e3 : (m &&& (m - 1)) = 2 ^ k * (2 * q) := by
      apply Nat.eq_of_testBit_eq
      intro j
      rw [key, t1, show 2 ^ k * (2 * q) = 2 ^ k * (2 * q) + 0 from rfl, Nat.testBit_two_pow_mul_add _ hp]
      by_cases h1 : j < k
      · simp [h1]
      · rw [if_neg h1, if_neg h1]
        by_cases h2 : j = k
        · subst h2
          simp [t5]
        · obtain ⟨i, hi⟩ : ∃ i, j - k = i + 1 := ⟨j - k - 1, by omega⟩
          rw [hi, t3]
          simp [h2]
    rw [e3, e, Nat.mul_add]
    omega
theorem filter_low {l : List Nat} {p : Nat → Bool} {k : Nat} (hs : l.Pairwise (· < ·)) (hk : k ∈ l) (hp : p k = true) (hb : ∀ j, j < k → p j = false) : l.filter p = k :: l.filter fun j => p j && decide (j ≠ k) := by
  induction l with
  | nil => cases hk
  | cons a r ih =>
    rw [List.pairwise_cons] at hs
    by_cases e : a = k
    · subst e
      rw [List.filter_cons, if_pos hp, List.filter_cons, if_neg (by simp)]
      congr 1
      apply List.filter_congr
      intro j hj
      have := hs.1 j hj
      simp [show j ≠ a by omega]
    · have hk' : k ∈ r := by
        rcases List.mem_cons.mp hk with h | h
        · exact absurd h.symm e
        · exact h
      have hak := hs.1 k hk'
      rw [List.filter_cons, if_neg (by rw [hb a hak]; decide), ih hs.2 hk', List.filter_cons, if_neg (by rw [hb a hak]; simp)]
theorem bitsM_step {m : Nat} (h : 0 < m) (hm : m < 2 ^ 2041) : ∃ k, bitsM m = k :: bitsM (m &&& (m - 1)) ∧ (m &&& (m - 1)) + 2 ^ k = m ∧ k ≤ 2040 := by
  obtain ⟨k, h1, h2, h3, h4⟩ := low_bit h
  have hk : k ≤ 2040 := by
    have := Nat.ge_two_pow_of_testBit h1
    have : 2 ^ k < 2 ^ 2041 := by omega
    have := (Nat.pow_lt_pow_iff_right (by decide : 1 < 2)).mp this
    omega
  refine ⟨k, ?_, h3, hk⟩
  unfold bitsM
  rw [filter_low (k := k) List.pairwise_lt_range (List.mem_range.mpr (by omega)) h1 h2]
  congr 1
  apply List.filter_congr
  intro j _
  exact (h4 j).symm
theorem bitsM_zero : bitsM 0 = [] := by
  unfold bitsM
  rw [List.filter_eq_nil_iff]
  intro a _
  simp
def cutM (m : Nat) : Nat := m % 2 ^ 2041
theorem cutM_lt (m : Nat) : cutM m < 2 ^ 2041 := Nat.mod_lt _ (Nat.two_pow_pos _)
theorem cutM_bit {m i : Nat} : (cutM m).testBit i = (decide (i < 2041) && m.testBit i) := by
  unfold cutM
  rw [Nat.testBit_mod_two_pow]
/-- the union of shifted masks -/
def orsM (r : Nat) (s : List Nat) : Nat := s.foldl (fun a l => a ||| r <<< l) 0
theorem ors_from {r i : Nat} : ∀ {s : List Nat} {a : Nat}, (s.foldl (fun a l => a ||| r <<< l) a).testBit i = (a.testBit i || s.any fun l => (r <<< l).testBit i)
  | [], a => by simp
  | l :: s, a => by
    rw [List.foldl_cons, ors_from, Nat.testBit_or, List.any_cons, Bool.or_assoc]
theorem ors_lt {r n : Nat} : ∀ {s : List Nat} {a : Nat}, a < 2 ^ n → (∀ l ∈ s, r <<< l < 2 ^ n) → s.foldl (fun a l => a ||| r <<< l) a < 2 ^ n
  | [], _, h, _ => h
  | l :: s, a, h, hs => by
    rw [List.foldl_cons]
    exact ors_lt (Nat.or_lt_two_pow h (hs l (by simp))) fun x hx => hs x (by simp [hx])
def sumM (a b : Nat) : Nat := if (bitsM b).length < (bitsM a).length then cutM (orsM a (bitsM b)) else cutM (orsM b (bitsM a))
theorem sumM_lt (a b : Nat) : sumM a b < 2 ^ 2041 := by
  unfold sumM
  split <;> exact cutM_lt _
theorem orsM_bit {r i j : Nat} {s : List Nat} (hi : i ∈ s) (hj : r.testBit j = true) : (orsM r s).testBit (i + j) = true := by
  unfold orsM
  rw [ors_from, Bool.or_eq_true]
  refine .inr (List.any_eq_true.mpr ⟨i, hi, ?_⟩)
  rw [Nat.testBit_shiftLeft]
  simp [hj]
theorem sumM_bit {a b i j : Nat} (hi : a.testBit i = true) (hj : b.testBit j = true) (h : i + j ≤ 2040) : (sumM a b).testBit (i + j) = true := by
  unfold sumM
  split
  · rw [cutM_bit, Nat.add_comm i j, orsM_bit (mem_bitsM.mpr ⟨by omega, hj⟩) hi]
    simp
    omega
  · rw [cutM_bit, orsM_bit (mem_bitsM.mpr ⟨by omega, hi⟩) hj]
    simp
    omega
theorem shl_lt {r l a b : Nat} (h : r < 2 ^ a) (hl : l ≤ b) : r <<< l < 2 ^ (a + b) := by
  rw [Nat.shiftLeft_eq, Nat.pow_add]
  have h1 : 2 ^ l ≤ 2 ^ b := Nat.pow_le_pow_right (by decide) hl
  calc r * 2 ^ l ≤ r * 2 ^ b := Nat.mul_le_mul_left _ h1
    _ < 2 ^ a * 2 ^ b := Nat.mul_lt_mul_of_pos_right h (Nat.two_pow_pos _)
theorem bitsM_le {m l : Nat} (h : l ∈ bitsM m) : l ≤ 2040 := (mem_bitsM.mp h).1
/-- the masks of none, one, .. n of a mask -/
def timesM (a : Nat) : Nat → List Nat
  | 0 => [1]
  | n + 1 => timesM a n ++ [sumM ((timesM a n).getD n 0) a]
theorem timesM_len (a : Nat) : ∀ n, (timesM a n).length = n + 1
  | 0 => rfl
  | n + 1 => by
    show (timesM a n ++ [_]).length = n + 2
    rw [List.length_append, timesM_len a n]
    rfl
theorem timesM_lt (a : Nat) : ∀ n, ∀ x ∈ timesM a n, x < 2 ^ 2041
  | 0, x, h => by
    have : x = 1 := by simpa [timesM] using h
    subst this
    decide +kernel
  | n + 1, x, h => by
    rcases List.mem_append.mp (show x ∈ timesM a n ++ [_] from h) with h | h
    · exact timesM_lt a n x h
    · rw [List.mem_singleton.mp h]
      exact sumM_lt _ _
theorem timesM_get (a : Nat) : ∀ n k, k ≤ n → (timesM a n).getD k 0 = (timesM a k).getD k 0
  | 0, k, h => by
    have : k = 0 := by omega
    subst this
    rfl
  | n + 1, k, h => by
    by_cases e : k = n + 1
    · subst e
      rfl
    · have hk : k ≤ n := by omega
      show (timesM a n ++ [_]).getD k 0 = _
      rw [List.getD_eq_getElem?_getD, List.getElem?_append_left (by rw [timesM_len]; omega), ← List.getD_eq_getElem?_getD]
      exact timesM_get a n k hk
theorem timesM_bit {a : Nat} : ∀ {Ws : List Nat}, (∀ W ∈ Ws, W ≤ 2040 → a.testBit W = true) → Ws.sum ≤ 2040 → ((timesM a Ws.length).getD Ws.length 0).testBit Ws.sum = true
  | [], _, _ => by
    show (1 : Nat).testBit 0 = true
    decide
  | W :: Ws, h, hs => by
    rw [List.sum_cons] at hs ⊢
    have ih := timesM_bit (a := a) (Ws := Ws) (fun x hx => h x (by simp [hx])) (by omega)
    have e : (timesM a (Ws.length + 1)).getD (Ws.length + 1) 0 = sumM ((timesM a Ws.length).getD Ws.length 0) a := by
      show (timesM a Ws.length ++ [_]).getD (Ws.length + 1) 0 = _
      have hl := timesM_len a Ws.length
      rw [List.getD_eq_getElem?_getD, List.getElem?_append_right (by omega), hl, Nat.sub_self]
      rfl
    rw [List.length_cons, e, Nat.add_comm W Ws.sum]
    exact sumM_bit ih (h W (by simp) (by omega)) (by omega)
def wholeM (m : Nat) : List Nat := ((bitsM m).filter fun l => decide (l % 8 = 0)).map fun l => l / 8
theorem wholeM_mem {m w : Nat} (h : m.testBit w = true) (hw : w ≤ 2040) (h8 : w % 8 = 0) : w / 8 ∈ wholeM m := List.mem_map.mpr ⟨w, List.mem_filter.mpr ⟨mem_bitsM.mpr ⟨hw, h⟩, by simp [h8]⟩, rfl⟩
theorem wholeM_le {m c : Nat} (h : c ∈ wholeM m) : c ≤ 255 := by
  obtain ⟨l, hl, rfl⟩ := List.mem_map.mp h
  have := bitsM_le (List.mem_filter.mp hl).1
  omega
/-- any whole bytes behind -/
def behindM (m : Nat) : Nat := cutM (orsM m ((List.range 256).map fun c => 8 * c))
theorem behindM_lt (m : Nat) : behindM m < 2 ^ 2041 := cutM_lt _
theorem behindM_bit {m w r : Nat} (h : m.testBit w = true) (hw : w + 8 * r ≤ 2040) : (behindM m).testBit (w + 8 * r) = true := by
  unfold behindM
  rw [cutM_bit, Nat.add_comm w, orsM_bit (List.mem_map.mpr ⟨r, List.mem_range.mpr (by omega), rfl⟩) h]
  simp
  omega
/-- the union of some masks -/
def unionM (s : List Nat) : Nat := s.foldl (fun a m => a ||| m) 0
theorem union_from {i : Nat} : ∀ {s : List Nat} {a : Nat}, (s.foldl (fun a m => a ||| m) a).testBit i = (a.testBit i || s.any fun m => m.testBit i)
  | [], a => by simp
  | l :: s, a => by
    rw [List.foldl_cons, union_from, Nat.testBit_or, List.any_cons, Bool.or_assoc]
theorem union_bit {s : List Nat} {m i : Nat} (hm : m ∈ s) (h : m.testBit i = true) : (unionM s).testBit i = true := by
  unfold unionM
  rw [union_from, Bool.or_eq_true]
  exact .inr (List.any_eq_true.mpr ⟨m, hm, h⟩)
theorem union_lt {n : Nat} : ∀ {s : List Nat} {a : Nat}, a < 2 ^ n → (∀ m ∈ s, m < 2 ^ n) → s.foldl (fun a m => a ||| m) a < 2 ^ n
  | [], _, h, _ => h
  | l :: s, a, h, hs => by
    rw [List.foldl_cons]
    exact union_lt (Nat.or_lt_two_pow h (hs l (by simp))) fun x hx => hs x (by simp [hx])
theorem foldl_take {α β : Type} {f : β → α → β} {b : β} {l : List α} {i : Nat} {x : α} (h : l[i]? = some x) : (l.take (i + 1)).foldl f b = f ((l.take i).foldl f b) x := by
  rw [List.take_add_one, h, List.foldl_append]
  rfl
end Fk

set_option Elab.async false
set_option linter.all false
set_option maxRecDepth 100000
set_option maxHeartbeats 4000000
set_option exponentiation.threshold 3000
namespace Fk
open PySem PySem.Spec PyProof.Rows L2
/-! ### the lengths as the program reckons them -/
def sortI (ns : List Int) : List Int := ns.mergeSort fun x y => decide (x ≤ y)
theorem mem_sortI {ns : List Int} {x : Int} : x ∈ sortI ns ↔ x ∈ ns := (List.mergeSort_perm ns _).mem_iff
/-- by how many bytes a seven to hi can stand -/
def sevLow (m : Nat) (loose : Bool) : Int := if 1 < m ∧ loose = false then ((2 ^ (7 * m - 7) : Nat) : Int) else 0
def sevMost (hi : Int) (m : Nat) : Int := if ((2 ^ (7 * m) : Nat) : Int) - 1 < hi then ((2 ^ (7 * m) : Nat) : Int) - 1 else hi
def sevWays (hi : Int) (loose : Bool) : List Nat := ((List.range (if loose then 5 else 4)).map fun i => i + 1).filter fun m => decide (sevLow m loose ≤ sevMost hi m)
def sevM (hi : Int) (loose : Bool) : Nat := ((sevWays hi loose).map fun m => 2 ^ (8 * m)).sum
def rangeI (n : Nat) : List Int := (List.range n).map fun (i : Nat) => (i : Int)
section
variable (L : List Fld → Nat) (E : Fld → Nat)
def growM : List Fld → Nat → Nat → Nat × Nat
  | [], m, f => (m, f)
  | g :: r, m, f => growM r (sumM m (E g)) (f ||| sumM m (E g))
def hasD (f : Fld) : Bool := decide (f.k.dfl ≠ .non)
def innerB (gr : Bool) (fs : List Fld) : Nat :=
  if gr = true then (let hd := fs.filter fun f => !hasD f; let r := growM E (fs.drop hd.length) (L hd) (L hd); r.2 ||| behindM r.1) else L fs
def possB (f : Fld) : List Int := match f.k with
  | .txt .. => rangeI 61
  | .row .. => rangeI 41
  | .cho .. => sortI (f.subs.map fun s => s.2.1)
  | .may .. => [0, 1]
  | .siz _ _ _ gr => (wholeM (innerB L E gr f.fs)).map fun (c : Nat) => (c : Int)
  | _ => []
/-- the numbers that its control can be -/
def letB (f : Fld) : List Int := match f.k.bds with
  | some (_, lo, hi) => (possB L E f).filter fun x => decide (lo ≤ x ∧ x ≤ hi)
  | none => []
def maxI (l : List Int) : Nat := l.foldl (fun a x => max a x.toNat) 0
def lenB (f : Fld) : Nat := match f.k with
  | .num w _ _ _ _ _ _ => 2 ^ w
  | .chk _ w _ => 2 ^ w
  | .spt w _ => 2 ^ w
  | .sev hi loose _ => sevM hi loose
  | .txt h _ => (match h with
    | .fix n => 2 ^ (8 * n)
    | .end_ n => unionM ((List.range (n + 1)).map fun c => 2 ^ (8 * (c + 1)))
    | .by_ _ _ _ => unionM ((letB L E f).map fun c => 2 ^ (8 * c.toNat)))
  | .row h _ => (match h with
    | .fix n => (timesM (L f.fs) n).getD n 0
    | .end_ n => cutM (unionM (timesM (L f.fs) n) <<< 8)
    | .by_ _ _ _ => unionM ((letB L E f).map fun c => (timesM (L f.fs) (maxI (letB L E f))).getD c.toNat 0))
  | .cho _ _ _ => unionM ((f.subs.filter fun s => decide (s.2.1 ∈ letB L E f)).map fun s => L s.2.2.2)
  | .may _ _ _ => (if (0 : Int) ∈ letB L E f then 1 else 0) ||| (if (1 : Int) ∈ letB L E f then L f.fs else 0)
  | .grp => L f.fs
  | .siz _ _ _ _ => cutM (unionM ((letB L E f).map fun c => 2 ^ (8 * c.toNat)))
end
def LME : Nat → (List Fld → Nat) × (Fld → Nat)
  | 0 => (fun _ => 0, fun _ => 0)
  | n + 1 => (fun fs => fs.foldl (fun a f => sumM a (lenB (LME n).1 (LME n).2 f)) 1, lenB (LME n).1 (LME n).2)
/-- list_lengths of a list at most n deep; lengths_of of a field in such a list -/
abbrev LM (n : Nat) : List Fld → Nat := (LME n).1
abbrev LE (n : Nat) : Fld → Nat := (LME n).2
abbrev letM (n : Nat) : Fld → List Int := letB (LM n) (LE n)
abbrev lenM (n : Nat) : Fld → Nat := lenB (LM n) (LE n)
/-! ### they are small -/
theorem LM_lt (n : Nat) (fs : List Fld) : LM n fs < 2 ^ 2041 := by
  cases n with
  | zero => show 0 < 2 ^ 2041; exact Nat.two_pow_pos _
  | succ n =>
    show fs.foldl (fun a f => sumM a (lenB (LME n).1 (LME n).2 f)) 1 < 2 ^ 2041
    have : ∀ (fs : List Fld) (a : Nat), a < 2 ^ 2041 → fs.foldl (fun a f => sumM a (lenB (LME n).1 (LME n).2 f)) a < 2 ^ 2041 := by
      intro fs
      induction fs with
      | nil => intro a h; exact h
      | cons f r ih => intro a _; exact ih _ (sumM_lt _ _)
    exact this fs 1 (Nat.one_lt_two_pow (by decide))
theorem pow_bit (n : Nat) : (2 ^ n).testBit n = true := by simp [Nat.testBit_two_pow]
theorem sev_bit {hi : Int} {loose : Bool} {i : Nat} (h : (i : Int) ≤ hi) (h2 : hi < 2 ^ 28) : (sevM hi loose).testBit (8 * sevB i) = true := by
  have e1 : ∀ m, decide (sevLow m loose ≤ sevMost hi m) = true ↔ sevLow m loose ≤ sevMost hi m := fun m => decide_eq_true_iff
  have main : ∀ b1 b2 b3 b4 b5 : Bool, ∀ j, j < 5 → [b1, b2, b3, b4, b5][j]? = some true → (((([1, 2, 3, 4, 5].zip [b1, b2, b3, b4, b5]).filter fun (q : Nat × Bool) => q.2).map fun (q : Nat × Bool) => 2 ^ (8 * q.1)).sum).testBit (8 * (j + 1)) = true := by decide +kernel
  have main4 : ∀ b1 b2 b3 b4 : Bool, ∀ j, j < 4 → [b1, b2, b3, b4][j]? = some true → (((([1, 2, 3, 4].zip [b1, b2, b3, b4]).filter fun (q : Nat × Bool) => q.2).map fun (q : Nat × Bool) => 2 ^ (8 * q.1)).sum).testBit (8 * (j + 1)) = true := by decide +kernel
  have key : ∀ (l : List Nat) (p : Nat → Bool), ((l.zip (l.map p)).filter fun (q : Nat × Bool) => q.2).map (fun (q : Nat × Bool) => 2 ^ (8 * q.1)) = (l.filter p).map fun m => 2 ^ (8 * m) := by
    intro l p
    induction l with
    | nil => rfl
    | cons a r ih =>
      rw [List.map_cons, List.zip_cons_cons, List.filter_cons, List.filter_cons]
      cases p a with
      | true => exact congrArg (2 ^ (8 * a) :: ·) ih
      | false => exact ih
  obtain ⟨j, hj, es, hl⟩ : ∃ j, j < 4 ∧ sevB i = j + 1 ∧ sevLow (j + 1) loose ≤ sevMost hi (j + 1) := by
    unfold sevB sevLow sevMost
    by_cases h1 : i ≤ 127
    · rw [if_pos h1]
      refine ⟨0, by decide, rfl, ?_⟩
      rw [if_neg (by omega)]
      split <;> omega
    · rw [if_neg h1]
      by_cases h3 : i ≤ 16383
      · rw [if_pos h3]
        refine ⟨1, by decide, rfl, ?_⟩
        split <;> split <;> omega
      · rw [if_neg h3]
        by_cases h4 : i ≤ 2097151
        · rw [if_pos h4]
          refine ⟨2, by decide, rfl, ?_⟩
          split <;> split <;> omega
        · rw [if_neg h4]
          refine ⟨3, by decide, rfl, ?_⟩
          split <;> split <;> omega
  rw [es]
  unfold sevM sevWays
  rw [← key]
  cases loose with
  | true =>
    show (((([1, 2, 3, 4, 5].zip ([1, 2, 3, 4, 5].map fun m => decide (sevLow m true ≤ sevMost hi m))).filter fun (q : Nat × Bool) => q.2).map fun (q : Nat × Bool) => 2 ^ (8 * q.1)).sum).testBit (8 * (j + 1)) = true
    refine main _ _ _ _ _ j (by omega) ?_
    have hl := decide_eq_true hl
    rcases j with _ | _ | _ | _ | j
    · exact congrArg some hl
    · exact congrArg some hl
    · exact congrArg some hl
    · exact congrArg some hl
    · omega
  | false =>
    show (((([1, 2, 3, 4].zip ([1, 2, 3, 4].map fun m => decide (sevLow m false ≤ sevMost hi m))).filter fun (q : Nat × Bool) => q.2).map fun (q : Nat × Bool) => 2 ^ (8 * q.1)).sum).testBit (8 * (j + 1)) = true
    refine main4 _ _ _ _ j hj ?_
    have hl := decide_eq_true hl
    rcases j with _ | _ | _ | _ | j
    · exact congrArg some hl
    · exact congrArg some hl
    · exact congrArg some hl
    · exact congrArg some hl
    · omega
theorem maxI_ge : ∀ {l : List Int} {x : Int}, x ∈ l → x.toNat ≤ maxI l := by
  have gen : ∀ (l : List Int) (a : Nat), a ≤ l.foldl (fun a x => max a x.toNat) a ∧ ∀ x ∈ l, x.toNat ≤ l.foldl (fun a x => max a x.toNat) a := by
    intro l
    induction l with
    | nil => intro a; exact ⟨Nat.le_refl _, fun x h => by cases h⟩
    | cons y r ih =>
      intro a
      obtain ⟨i1, i2⟩ := ih (max a y.toNat)
      refine ⟨Nat.le_trans (Nat.le_max_left _ _) i1, fun x hx => ?_⟩
      rcases List.mem_cons.mp hx with e | e
      · subst e
        exact Nat.le_trans (Nat.le_max_right _ _) i1
      · exact i2 x e
  intro l x h
  exact (gen l 0).2 x h
theorem mem_rangeI {n : Nat} {m : Nat} (h : m < n) : (m : Int) ∈ rangeI n := List.mem_map.mpr ⟨m, List.mem_range.mpr h, rfl⟩
/-! ### every length is in the mask -/
theorem list_bit {n : Nat} (ih : ∀ f w, LF n f w → w ≤ 2040 → FW n f → (lenM n f).testBit w = true) : ∀ (fs : List Fld) (a W W0 : Nat), (∀ f ∈ fs, FW n f) → a.testBit W0 = true → SumB (LF n) fs W → W0 + W ≤ 2040 →
    (fs.foldl (fun a f => sumM a (lenM n f)) a).testBit (W0 + W) = true
  | [], a, W, W0, _, h, hs, _ => by
    obtain rfl : W = 0 := hs
    exact h
  | f :: r, a, W, W0, hf, h, hs, hw => by
    obtain ⟨x, y, h1, h2, rfl⟩ := hs
    rw [List.foldl_cons, show W0 + (x + y) = W0 + x + y by omega]
    exact list_bit ih r _ y (W0 + x) (fun g hg => hf g (by simp [hg])) (sumM_bit h (ih f x h1 (by omega) (hf f (by simp))) (by omega)) h2 (by omega)
theorem grow_bit {n : Nat} (ih : ∀ f w, LF n f w → w ≤ 2040 → FW n f → (lenM n f).testBit w = true) : ∀ (b : List Fld) (m f0 W W0 j : Nat), (∀ f ∈ b, FW n f) → m.testBit W0 = true → f0.testBit W0 = true → SumB (LF n) (b.take j) W → W0 + W ≤ 2040 →
    (growM (lenM n) b m f0).2.testBit (W0 + W) = true ∧ (b.length ≤ j → (growM (lenM n) b m f0).1.testBit (W0 + W) = true)
  | [], m, f0, W, W0, j, _, h, h', hs, _ => by
    rw [List.take_nil] at hs
    obtain rfl : W = 0 := hs
    exact ⟨h', fun _ => h⟩
  | g :: r, m, f0, W, W0, 0, hf, h, h', hs, hw => by
    obtain rfl : W = 0 := hs
    refine ⟨?_, fun z => absurd z (by simp)⟩
    have : ∀ (b : List Fld) (m f0 : Nat), f0.testBit W0 = true → (growM (lenM n) b m f0).2.testBit W0 = true := by
      intro b
      induction b with
      | nil => intro m f0 h; exact h
      | cons g r ih2 => intro m f0 h; exact ih2 _ _ (by rw [Nat.testBit_or, h]; rfl)
    exact this _ _ _ h'
  | g :: r, m, f0, W, W0, j + 1, hf, h, h', hs, hw => by
    rw [List.take_succ_cons] at hs
    obtain ⟨x, y, h1, h2, rfl⟩ := hs
    have s1 := sumM_bit h (ih g x h1 (by omega) (hf g (by simp))) (show W0 + x ≤ 2040 by omega)
    obtain ⟨i1, i2⟩ := grow_bit ih r (sumM m (lenM n g)) (f0 ||| sumM m (lenM n g)) y (W0 + x) j (fun g hg => hf g (by simp [hg])) s1 (by rw [Nat.testBit_or, s1, Bool.or_true]) h2 (by omega)
    rw [show W0 + (x + y) = W0 + x + y by omega]
    exact ⟨i1, fun z => i2 (by rw [List.length_cons] at z; omega)⟩
theorem filt_split {a b : List Fld} (ha : ∀ g ∈ a, g.k.dfl = .non) (hb : ∀ g ∈ b, g.k.dfl ≠ .non) : (a ++ b).filter (fun f => !hasD f) = a := by
  rw [List.filter_append, List.filter_eq_self.mpr (fun g hg => by simp [hasD, ha g hg]), List.filter_eq_nil_iff.mpr (fun g hg => by simp [hasD, hb g hg]), List.append_nil]
theorem mem_letM {n : Nat} {f : Fld} {c : Str} {lo hi x : Int} (hb : f.k.bds = some (c, lo, hi)) : x ∈ letM n f ↔ x ∈ possB (LM n) (LE n) f ∧ lo ≤ x ∧ x ≤ hi := by
  unfold letM letB
  rw [hb]
  show x ∈ List.filter _ _ ↔ _
  rw [List.mem_filter, decide_eq_true_iff]
theorem LE_succ (n : Nat) : LE (n + 1) = lenM n := rfl
theorem inner_bit {n : Nat} {fs : List Fld} {gr : Bool} {w : Nat} (hL : ∀ fs w, LL n fs w → w ≤ 2040 → WD n fs → (LM n fs).testBit w = true)
    (hG : gr = true → ∃ m a b, n = m + 1 ∧ fs = a ++ b ∧ (∀ g ∈ a, g.k.dfl = .non) ∧ (∀ g ∈ b, g.k.dfl ≠ .non) ∧ (∀ f w, LF m f w → w ≤ 2040 → FW m f → (lenM m f).testBit w = true)) (hw : w ≤ 2040) (wd : WD n fs)
    (h : if gr = true then LG n fs w else LL n fs w) : (innerB (LM n) (LE n) gr fs).testBit w = true := by
  unfold innerB
  cases gr with
  | false => exact hL fs w h hw wd
  | true =>
    obtain ⟨m, a, b, rfl, rfl, ha, hb, ih⟩ := hG rfl
    have fwa : ∀ f ∈ a ++ b, FW m f := wd.fw
    rw [if_pos rfl]
    show ((growM (LE (m + 1)) ((a ++ b).drop ((a ++ b).filter fun f => !hasD f).length) (LM (m + 1) ((a ++ b).filter fun f => !hasD f)) (LM (m + 1) ((a ++ b).filter fun f => !hasD f))).2 ||| behindM (growM (LE (m + 1)) ((a ++ b).drop ((a ++ b).filter fun f => !hasD f).length) (LM (m + 1) ((a ++ b).filter fun f => !hasD f)) (LM (m + 1) ((a ++ b).filter fun f => !hasD f))).1).testBit w = true
    rw [filt_split ha hb, List.drop_left, LE_succ]
    obtain ⟨j, x, r, hs, hd, hr, e⟩ := h
    -- all of a stands
    have hja : a.length ≤ j := by
      rcases Nat.lt_or_ge j a.length with z | z
      · exfalso
        have q : a[j] ∈ (a ++ b).drop j := by
          rw [List.drop_append_of_le_length (by omega)]
          exact List.mem_append_left _ (by rw [List.drop_eq_getElem_cons z]; exact List.mem_cons_self)
        exact hd _ q (ha _ (List.getElem_mem z))
      · exact z
    rw [List.take_append, List.take_of_length_le hja] at hs
    obtain ⟨u, v, hu, hv, rfl⟩ : ∃ u v, SumB (LF m) a u ∧ SumB (LF m) (b.take (j - a.length)) v ∧ x = u + v := by
      have split : ∀ (a b : List Fld) (x : Nat), SumB (LF m) (a ++ b) x → ∃ u v, SumB (LF m) a u ∧ SumB (LF m) b v ∧ x = u + v := by
        intro a
        induction a with
        | nil => intro b x h; exact ⟨0, x, rfl, h, by omega⟩
        | cons f r ih2 =>
          intro b x h
          obtain ⟨p, q, h1, h2, rfl⟩ := h
          obtain ⟨u, v, i1, i2, rfl⟩ := ih2 b q h2
          exact ⟨p + u, v, ⟨p, u, h1, i1, rfl⟩, i2, by omega⟩
      exact split a _ x hs
    have h0 : (LM (m + 1) a).testBit u = true := by
      have := list_bit ih a 1 u 0 (fun f hf => fwa f (List.mem_append_left _ hf)) (by decide) hu (by omega)
      rw [Nat.zero_add] at this
      exact this
    obtain ⟨g1, g2⟩ := grow_bit ih b (LM (m + 1) a) (LM (m + 1) a) v u (j - a.length) (fun f hf => fwa f (List.mem_append_right _ hf)) h0 h0 hv (by omega)
    rw [Nat.testBit_or, Bool.or_eq_true]
    rcases hr with rfl | hr
    · left
      rw [e, Nat.mul_zero, Nat.add_zero]
      exact g1
    · right
      rw [List.length_append] at hr
      rw [e]
      exact behindM_bit (g2 (by omega)) (by omega)
theorem field_bit {n : Nat} (hL : ∀ fs w, LL n fs w → w ≤ 2040 → WD n fs → (LM n fs).testBit w = true) (hI : ∀ m, n = m + 1 → ∀ f w, LF m f w → w ≤ 2040 → FW m f → (lenM m f).testBit w = true)
    (f : Fld) (w : Nat) (h : LF n f w) (hw : w ≤ 2040) (wf : FW n f) : (lenM n f).testBit w = true := by
  obtain ⟨p, nm, k, l, ss⟩ := f
  cases k with
  | num w0 sg lt lo hi df c =>
    obtain rfl : w = w0 := h
    exact pow_bit w
  | chk how w0 first =>
    obtain rfl : w = w0 := h
    exact pow_bit w
  | spt w0 tg =>
    obtain rfl : w = w0 := h
    exact pow_bit w
  | sev hi lo df =>
    obtain ⟨i, h1, rfl⟩ := (show ∃ i : Nat, (i : Int) ≤ hi ∧ w = 8 * sevB i from h)
    exact sev_bit h1 wf.2.1
  | txt how df =>
    obtain ⟨m, h1, e⟩ := (show ∃ m : Nat, how.ok 60 m ∧ w = 8 * m + how.e from h)
    cases how with
    | fix n0 =>
      obtain rfl : m = n0 := h1
      rw [e]
      exact pow_bit _
    | end_ n0 =>
      have h1 : m ≤ n0 := h1
      rw [e]
      exact union_bit (List.mem_map.mpr ⟨m, List.mem_range.mpr (by omega), rfl⟩) (by show (2 ^ (8 * (m + 1))).testBit (8 * m + 8) = true; rw [show 8 * (m + 1) = 8 * m + 8 by omega]; exact pow_bit _)
    | by_ c lo hi =>
      obtain ⟨h1, h2, h3⟩ : m ≤ 60 ∧ lo ≤ m ∧ (m : Int) ≤ hi := h1
      rw [e]
      refine union_bit (List.mem_map.mpr ⟨(m : Int), (mem_letM rfl).mpr ⟨mem_rangeI (n := 61) (by omega), h2, h3⟩, rfl⟩) ?_
      exact pow_bit _
  | row how mark =>
    obtain ⟨Ws, h1, h2, e⟩ := (show ∃ Ws : List Nat, how.ok 40 Ws.length ∧ (∀ W ∈ Ws, LL n (Fld.mk p nm (.row how mark) l ss).fs W) ∧ w = Ws.sum + how.e from h)
    have hb : ∀ W ∈ Ws, W ≤ 2040 → (LM n (Fld.mk p nm (.row how mark) l ss).fs).testBit W = true := fun W hW hz => hL _ _ (h2 W hW) hz wf.2
    have h3 := timesM_bit hb (by omega)
    cases how with
    | fix n0 =>
      obtain rfl : Ws.length = n0 := h1
      rw [e]
      exact h3
    | end_ n0 =>
      have h1 : Ws.length ≤ n0 := h1
      rw [e]
      show (cutM (unionM (timesM (LM n _) n0) <<< 8)).testBit (Ws.sum + 8) = true
      have e8 : How.e (.end_ n0) = 8 := rfl
      rw [cutM_bit, Nat.testBit_shiftLeft, show Ws.sum + 8 - 8 = Ws.sum by omega, ← timesM_get _ n0 _ h1] at *
      have q : (unionM (timesM (LM n (Fld.mk p nm (.row (.end_ n0) mark) l ss).fs) n0)).testBit Ws.sum = true := by
        refine union_bit ?_ h3
        rw [List.getD_eq_getElem?_getD]
        have hl := timesM_len (LM n (Fld.mk p nm (.row (.end_ n0) mark) l ss).fs) n0
        rw [List.getElem?_eq_getElem (by omega)]
        exact List.getElem_mem _
      rw [q]
      simp
      omega
    | by_ c lo hi =>
      obtain ⟨h1, h4, h5⟩ : Ws.length ≤ 40 ∧ lo ≤ Ws.length ∧ (Ws.length : Int) ≤ hi := h1
      have hm : ((Ws.length : Nat) : Int) ∈ letM n (Fld.mk p nm (.row (.by_ c lo hi) mark) l ss) := (mem_letM rfl).mpr ⟨mem_rangeI (n := 41) (by omega), h4, h5⟩
      rw [e]
      refine union_bit (List.mem_map.mpr ⟨_, hm, rfl⟩) ?_
      show (((timesM _ _).getD Ws.length 0)).testBit (Ws.sum + 0) = true
      rw [timesM_get _ _ Ws.length (by have q := maxI_ge hm; rw [Int.toNat_natCast] at q; exact q)]
      exact h3
  | cho c lo hi =>
    obtain ⟨s, hs, h1, h2, h3⟩ := (show ∃ s ∈ ss, lo ≤ s.2.1 ∧ s.2.1 ≤ hi ∧ LL n s.2.2.2 w from h)
    refine union_bit (List.mem_map.mpr ⟨s, List.mem_filter.mpr ⟨hs, decide_eq_true ((mem_letM rfl).mpr ⟨mem_sortI.mpr (List.mem_map.mpr ⟨s, hs, rfl⟩), h1, h2⟩)⟩, rfl⟩) ?_
    exact hL _ _ h3 hw (wf.2.2.2 s hs).2.2
  | may c lo hi =>
    show ((if (0 : Int) ∈ letM n _ then 1 else 0) ||| (if (1 : Int) ∈ letM n _ then LM n _ else 0)).testBit w = true
    rw [Nat.testBit_or, Bool.or_eq_true]
    rcases (show (lo ≤ 0 ∧ 0 ≤ hi ∧ w = 0) ∨ (lo ≤ 1 ∧ 1 ≤ hi ∧ LL n (Fld.mk p nm (.may c lo hi) l ss).fs w) from h) with ⟨h1, h2, rfl⟩ | ⟨h1, h2, h3⟩
    · left
      rw [if_pos ((mem_letM rfl).mpr ⟨List.mem_cons_self, h1, h2⟩)]
      rfl
    · right
      rw [if_pos ((mem_letM rfl).mpr ⟨List.mem_cons_of_mem _ List.mem_cons_self, h1, h2⟩)]
      exact hL _ _ h3 hw wf.2.2.2
  | grp => exact hL _ _ h hw wf
  | siz c lo hi gr =>
    obtain ⟨h8, h1, h2, h3, h4⟩ := (show w % 8 = 0 ∧ w ≤ 2040 ∧ lo ≤ (w / 8 : Nat) ∧ ((w / 8 : Nat) : Int) ≤ hi ∧ (if gr = true then LG n (Fld.mk p nm (.siz c lo hi gr) l ss).fs w else LL n (Fld.mk p nm (.siz c lo hi gr) l ss).fs w) from h)
    obtain ⟨_, wf1, wf2, wf3⟩ := wf
    have hi2 := inner_bit hL (fun hg => by
      obtain ⟨a, b, e, ha, hb, _⟩ := wf3 hg
      cases n with
      | zero => exact absurd wf1 (by intro z; exact z)
      | succ m => exact ⟨m, a, b, rfl, e, ha, hb, hI m rfl⟩) hw wf1 h4
    show (cutM (unionM _)).testBit w = true
    rw [cutM_bit]
    have q : ((w / 8 : Nat) : Int) ∈ letM n (Fld.mk p nm (.siz c lo hi gr) l ss) := (mem_letM rfl).mpr ⟨List.mem_map.mpr ⟨_, wholeM_mem hi2 hw h8, rfl⟩, h2, h3⟩
    have q2 : (unionM ((letM n (Fld.mk p nm (.siz c lo hi gr) l ss)).map fun c => 2 ^ (8 * c.toNat))).testBit w = true := by
      refine union_bit (List.mem_map.mpr ⟨_, q, rfl⟩) ?_
      show (2 ^ (8 * ((w / 8 : Nat) : Int).toNat)).testBit w = true
      rw [Int.toNat_natCast, show 8 * (w / 8) = w by omega]
      exact pow_bit w
    rw [q2]
    simp
    omega
theorem len_bits : ∀ n, (∀ fs w, LL n fs w → w ≤ 2040 → WD n fs → (LM n fs).testBit w = true) ∧ ∀ f w, LF n f w → w ≤ 2040 → FW n f → (lenM n f).testBit w = true
  | 0 => ⟨fun fs w (h : LL 0 fs w) => False.elim h, fun f w h hw wf => field_bit (fun fs w (h : LL 0 fs w) => False.elim h) (fun m e => absurd e (by omega)) f w h hw wf⟩
  | n + 1 => by
    have ih := len_bits n
    have h1 : ∀ fs w, LL (n + 1) fs w → w ≤ 2040 → WD (n + 1) fs → (LM (n + 1) fs).testBit w = true := fun fs w h hw wd => by
      have := list_bit ih.2 fs 1 w 0 wd.fw (by decide) h (by omega)
      rw [Nat.zero_add] at this
      exact this
    exact ⟨h1, fun f w h hw wf => field_bit h1 (fun m e => by
      have e2 : m = n := by omega
      subst e2
      exact ih.2) f w h hw wf⟩
end Fk

set_option Elab.async false
set_option linter.all false
set_option maxRecDepth 100000
set_option maxHeartbeats 4000000
set_option exponentiation.threshold 3000
namespace Fk
open PySem PySem.Spec PyProof.Rows L2 Evl
abbrev vN (n : Nat) : V := .int (n : Int)
abbrev vNs (l : List Nat) : List V := l.map vN
theorem vNs_snoc (l : List Nat) (k : Nat) : vNs (l ++ [k]) = vNs l ++ [vN k] := List.map_append
theorem intBits_pow (k : Nat) : Builtin.Int.intBits ((2 ^ k : Nat) : Int) = k + 1 := by
  unfold Builtin.Int.intBits
  have hp : 0 < 2 ^ k := Nat.two_pow_pos k
  rw [if_neg (by rw [beq_iff_eq]; omega), Int.natAbs_natCast, Nat.log2_two_pow]
theorem and_neg {m k : Nat} (h : (m &&& (m - 1)) + 2 ^ k = m) (hm : 0 < m) : Builtin.bitAnd (m : Int) (0 - (m : Int)) = ((2 ^ k : Nat) : Int) := by
  rw [bitAnd_pn (by omega) (by omega)]
  have e : (Builtin.bitNot (0 - (m : Int))).toNat = m - 1 := by
    unfold Builtin.bitNot
    omega
  rw [e, Int.toNat_natCast]
  omega
theorem and_pred {m : Nat} (hm : 0 < m) : Builtin.bitAnd (m : Int) ((m : Int) - 1) = ((m &&& (m - 1) : Nat) : Int) := by
  rw [bitAnd_pp (by omega) (by omega), show ((m : Int) - 1).toNat = m - 1 by omega, Int.toNat_natCast]
theorem or_nat (a b : Nat) : Builtin.bitOr (a : Int) (b : Int) = ((a ||| b : Nat) : Int) := by
  rw [bitOr_nn (by omega) (by omega), Int.toNat_natCast, Int.toNat_natCast]
theorem last_vN {l : List Nat} {i : Nat} (h : l.length = i + 1) : atI (vNs l) (-1) = some (vN (l.getD i 0)) := by
  rcases List.eq_nil_or_concat l with e | ⟨d, x, e⟩
  · subst e
    cases h
  · subst e
    have hd : d.length = i := by simpa using h
    have e2 : (d ++ [x]).getD i 0 = x := by
      rw [List.getD_eq_getElem?_getD, List.getElem?_append_right (by omega), hd, Nat.sub_self]
      rfl
    rw [List.concat_eq_append, e2, vNs_snoc]
    exact atI_last _ _
section
variable {P : Program} {w : World} {K : PySem.W.Frag} {mg : Str → Option Value} {base : Heap}
theorem ev_bits {σ : L2.St} {H : Hp} {te : TE} {i : Int} (h : Ev te σ H (.int i)) : Ev (tBits te) σ H (vN (Builtin.Int.intBits i)) := fun H1 e Q q => h H1 e _ fun H2 e2 => ⟨i, rfl, q H2 e2⟩
abbrev aMembers : A1 := fun a H Q => ∃ m : Nat, a = vN m ∧ m < 2 ^ 2041 ∧ RetL (vNs (bitsM m)) H Q
theorem ok_members (T : Tx K mg) : Pr P w K mg base 1 "members" (Sp1 aMembers) :=
  pr1 T.d_members T.g_members sc_members (fun _ _ _ _ _ _ us hl => match us, hl with | [_], _ => rfl) fun a H Q h cdv A outer s E hr hu => by
    obtain ⟨m, rfl, hm, q⟩ := h
    refine ⟨_, (pss_cons (ps_set (i := 1) sc_members.nd rfl (.inl rfl) (pe_lst pa_nil))
      (pss_cons (ps_while PassesOwn.never (pt_cmpR op_gt (pv 0) pe_int (by rfl)) (pss_cons (ps_expr (pe_appK (K := K) rfl (pv 1) (pa_cons (pe_op op_sub (pe_bits (pe_op op_and (pv 0) (pe_op op_sub pe_int (pv 0)))) pe_int) pa_nil)))
      (pss_one (ps_set (i := 0) sc_members.nd rfl (.inl rfl) (pe_op op_and (pv 0) (pe_op op_sub (pv 0) pe_int))))))
      (pss_one (ps_ret (pv 1))))), ?_⟩
    refine q_asgL (el_lst ea_nil (by decide)) fun p H1 hp e1 h1 => ?_
    refine q_while (fun x σ' H' => ∃ done : List Nat, σ' = [some (vN x), some (.ref p)] ∧ Ex H H' ∧ H' p = some (.lst (vNs done)) ∧ done ++ bitsM x = bitsM m ∧ x < 2 ^ 2041) m ⟨[], rfl, e1, h1, rfl, hm⟩ ?_
    rintro x σ' H' ⟨done, rfl, e2, h2, hd, hx⟩
    refine ⟨decide (0 < (x : Int)), et_test (ev_op (ev_var rfl) ev_c rv_I0), fun hb H2 e3 => ?_, fun hb H2 e3 => ?_⟩
    · have hx0 : 0 < x := by have := of_decide_eq_true hb; omega
      obtain ⟨k, hk1, hk2, hk3⟩ := bitsM_step hx0 hx
      refine ⟨fun σ2 H4 => ∃ done : List Nat, σ2 = [some (vN (x &&& (x - 1))), some (.ref p)] ∧ Ex H H4 ∧ H4 p = some (.lst (vNs done)) ∧ done ++ bitsM (x &&& (x - 1)) = bitsM m, fun σ2 H4 ⟨dn, a1, a2, a3, a4⟩ => ⟨_, ?_, dn, a1, a2, a3, a4, Nat.lt_of_le_of_lt Nat.and_le_left hx⟩, ?_⟩
      · have := Nat.two_pow_pos k
        omega
      · have hl : done.length < 100000 := by
          have l1 := congrArg List.length hd
          rw [List.length_append] at l1
          have := bitsM_len m
          omega
        refine q_app (xs := vNs done) (v := vN k) (e3 _ _ h2) (ev_var rfl) ?_ (by rw [List.length_map]; exact hl) fun H4 e4 => ?_
        · refine ev_is (ev_op (ev_bits (ev_is (ev_op (ev_var rfl) (ev_op ev_c (ev_var rfl) rv_I0) rv_I0) (congrArg V.int (and_neg hk2 hx0)))) ev_c rv_I0) ?_
          rw [intBits_pow]
          exact congrArg V.int (by omega)
        · have e5 : Ex H (upd H4 p (.lst (vNs done ++ [vN k]))) := Ex.mut ((e2.trans e3).trans e4) hp
          refine s_asg (ev_is (ev_op (ev_var rfl) (ev_op (ev_var rfl) ev_c rv_I0) rv_I0) (congrArg V.int (and_pred hx0))) fun H5 e6 => ?_
          refine ⟨done ++ [k], rfl, e5.trans e6, ?_, ?_⟩
          · rw [e6 _ _ upd_same, vNs_snoc]
          · rw [List.append_assoc, ← hd, hk1]
            rfl
    · have hx0 : x = 0 := by have := of_decide_eq_false hb; omega
      subst hx0
      rw [bitsM_zero, List.append_nil] at hd
      subst hd
      exact s_ret (ev_var rfl) fun H3 e4 => q p H3 hp ((e2.trans e3).trans e4) (e4 _ _ (e3 _ _ h2))
theorem el_members {σ : L2.St} {H : Hp} {ta : TE} {m : Nat} (h : Ev ta σ H (vN m)) (hm : m < 2 ^ 2041) : EvL (tFn (Sp1 aMembers) (tCons ta tNil)) σ H (vNs (bitsM m)) :=
  el_fn (ea_cons h ea_nil) fun H1 _ Q q E => ⟨_, rfl, m, rfl, hm, fun p H2 hp e h2 => q p H2 hp e h2⟩
abbrev aCut : A1 := fun a H Q => ∃ m : Nat, a = vN m ∧ RetV (vN (cutM m)) H Q
theorem ok_cut (T : Tx K mg) : Pr P w K mg base 1 "cut" (Sp1 aCut) :=
  pr1 T.d_cut T.g_cut sc_cut (fun _ _ _ _ _ _ us hl => match us, hl with | [_], _ => rfl) fun a H Q h cdv A outer s E hr hu => by
    obtain ⟨m, rfl, q⟩ := h
    refine ⟨_, (pss_one (ps_ret (pe_op op_and (pv 0) (pe_op op_sub (pe_op op_shlW pe_int (pe_op op_add (pe_gint (by rfl) T.c_MOST_BITS) pe_int)) pe_int)))), ?_⟩
    refine (sv_ret (ev_is (ev_op (ev_var rfl) (ev_op (ev_op ev_c (ev_is (ev_op ev_c ev_c rv_I0) (show V.int (2040 + 1) = vN 2041 from rfl)) (rv_shl 1 (by decide) (by decide))) ev_c rv_I0) rv_I0) ?_) q).here
    refine congrArg V.int ?_
    have hp : 0 < 2 ^ 2041 := Nat.two_pow_pos _
    rw [show (1 : Int) * 2 ^ 2041 - 1 = ((2 ^ 2041 - 1 : Nat) : Int) by rw [Int.one_mul]; omega, bitAnd_pp (by omega) (by omega), Int.toNat_natCast, Int.toNat_natCast, Nat.and_two_pow_sub_one_eq_mod]
    rfl
theorem ev_cut {σ : L2.St} {H : Hp} {ta : TE} {m : Nat} (h : Ev ta σ H (vN m)) : Ev (tFn (Sp1 aCut) (tCons ta tNil)) σ H (vN (cutM m)) :=
  ev_fn (ea_cons h ea_nil) fun H1 _ Q q E => ⟨_, rfl, m, rfl, q⟩
theorem rv_shlN {H : Hp} {i j n : Nat} (h : i < 2 ^ n) (hn : n + j ≤ 134217728) : RV (rI CShl fun i j => .int (i * 2 ^ j.toNat)) (vN i) (vN j) H (vN (i <<< j)) := by
  have e : ((i : Int) * 2 ^ j) = ((i <<< j : Nat) : Int) := by
    rw [Nat.shiftLeft_eq]
    push_cast
    rfl
  have q := rv_shl (H := H) (i := (i : Int)) (j := j) n (by rw [Int.natAbs_natCast]; exact h) hn
  rw [e] at q
  exact q
theorem get_vN {l : List Nat} {i : Nat} {x : V} (h : (vNs l)[i]? = some x) : ∃ y, l[i]? = some y ∧ y ∈ l ∧ x = vN y := map_get h
abbrev aSummed : A2 := fun a b H Q => ∃ x y : Nat, a = vN x ∧ b = vN y ∧ x < 2 ^ 2041 ∧ y < 2 ^ 2041 ∧ RetV (vN (sumM x y)) H Q
theorem ok_summed (T : Tx K mg) : Pr P w K mg base 2 "summed" (Sp2 aSummed) := by
  have G_members := ok_members (P := P) (w := w) (base := base) T
  have G_cut := ok_cut (P := P) (w := w) (base := base) T
  refine pr2 T.d_summed T.g_summed sc_summed (fun _ _ _ _ _ _ us hl => match us, hl with | [_, _], _ => rfl) fun a b H Q h cdv A outer s E hr hu => ?_
  obtain ⟨x, y, rfl, rfl, hx, hy, q⟩ := h
  refine ⟨_, (pss_cons (ps_set (i := 2) sc_summed.nd rfl (.inl rfl) (pe_fn G_members (hr.mono (by omega)) (by rfl) (pa_cons (pv 0) pa_nil)))
      (pss_cons (ps_set (i := 3) sc_summed.nd rfl (.inl rfl) (pv 1))
      (pss_cut (ps_if (pt_cmpR op_lt (pe_callB (lenK (K := K) rfl) (by rfl) T.b_len (by decide +kernel) (pa_cons (pe_fn G_members (hr.mono (by omega)) (by rfl) (pa_cons (pv 1) pa_nil)) pa_nil)) (pe_callB (lenK (K := K) rfl) (by rfl) T.b_len (by decide +kernel) (pa_cons (pv 2) pa_nil)) (by rfl)) (pss_cons (ps_set (i := 2) sc_summed.nd rfl (.inl rfl) (pe_fn G_members (hr.mono (by omega)) (by rfl) (pa_cons (pv 1) pa_nil)))
      (pss_one (ps_set (i := 3) sc_summed.nd rfl (.inl rfl) (pv 0)))) pss_nil)
      (pss_cons (ps_set (i := 4) sc_summed.nd rfl (.inl rfl) pe_int)
      (pss_cons (ps_for PassesOwn.never rfl (piLK (K := K) rfl (pv 2)) (pg_name (i := 5) sc_summed.nd rfl (.inl rfl)) (pss_one (ps_set (i := 4) sc_summed.nd rfl (.inl rfl) (pe_op op_or (pv 4) (pe_op op_shlW (pv 3) (pv 5))))))
      (pss_one (ps_ret (pe_fn G_cut (hr.mono (by omega)) (by rfl) (pa_cons (pv 4) pa_nil))))))))), ?_⟩
  refine (sv_asgL (el_members (ev_var rfl) hx) fun p hp => ?_).here
  have hs : SqL K (upd H p (.lst (vNs (bitsM x)))) p (vNs (bitsM x)) := sq_of upd_same
  refine sv_asg (ev_var rfl) ?_
  refine sv_cut (M := fun σ' H' => Ex H H' ∧ ∃ (s r : Nat) (l : Addr), σ' = [some (vN x), some (vN y), some (.ref l), some (vN r), none, none] ∧ H' l = some (.lst (vNs (bitsM s))) ∧ r < 2 ^ 2041 ∧ cutM (orsM r (bitsM s)) = sumM x y) ?_ ?_
  · refine sv_if (et_test (ev_op (ev_lenL (el_members (ev_var rfl) hy)) (ev_lenV (ev_var rfl) (lenV_lst hs)) rv_I0)) (fun e => ?_) fun e => ?_
    · have e := of_decide_eq_true e
      rw [List.length_map, List.length_map] at e
      refine sv_asgL (el_members (ev_var rfl) hy) fun p2 hp2 => ?_
      refine sv_asg1 (ev_var rfl) fun H1 e1 => ⟨(Ex.new hp).trans ((Ex.new hp2).trans e1), y, x, p2, rfl, e1 _ _ upd_same, hx, ?_⟩
      unfold sumM
      rw [if_pos (by omega)]
    · have e := of_decide_eq_false e
      rw [List.length_map, List.length_map] at e
      refine sv_nx fun H1 e1 => ⟨(Ex.new hp).trans e1, x, y, p, rfl, e1 _ _ upd_same, hy, ?_⟩
      unfold sumM
      rw [if_neg (by omega)]
  · rintro σ' H' ⟨e1, s, r, l, rfl, hl, hr2, es⟩
    have q' : RetV (vN (sumM x y)) H' Q := fun H2 e2 => q H2 (e1.trans e2)
    refine (sv_asg ev_c ?_).here
    refine sv_forLn (xs := vNs (bitsM s)) (ev_var rfl) (sq_of hl) (fun i σ' => ∃ z, σ' = [some (vN x), some (vN y), some (.ref l), some (vN r), some (vN (orsM r ((bitsM s).take i))), z]) ⟨none, rfl⟩ ?_ ?_
    · rintro i v σ' hv ⟨z, rfl⟩
      obtain ⟨k, hk, hm, rfl⟩ := get_vN hv
      have hk2 := bitsM_le hm
      refine sv_asg1 (ev_is (ev_op (ev_var rfl) (ev_op (ev_var rfl) (ev_var rfl) (rv_shlN hr2 (by omega))) rv_I0) (congrArg V.int (or_nat _ _))) fun H1 e2 => ⟨⟨some (vN k), ?_⟩, e2⟩
      unfold orsM
      rw [foldl_take hk]
      rfl
    · rintro σ' ⟨z, rfl⟩
      refine sv_ret (ev_is (ev_cut (ev_var rfl)) ?_) q'
      rw [List.length_map, List.take_length, es]
theorem ev_summed {σ : L2.St} {H : Hp} {ta tb : TE} {x y : Nat} (ha : Ev ta σ H (vN x)) (hb : Ev tb σ H (vN y)) (hx : x < 2 ^ 2041) (hy : y < 2 ^ 2041) : Ev (tFn (Sp2 aSummed) (tCons ta (tCons tb tNil))) σ H (vN (sumM x y)) :=
  ev_fn (ea_cons ha (ea_cons hb ea_nil)) fun H1 _ Q q E => ⟨_, _, rfl, x, y, rfl, rfl, hx, hy, q⟩
abbrev aTimes : A2 := fun a b H Q => ∃ m n : Nat, a = vN m ∧ b = vN n ∧ m < 2 ^ 2041 ∧ n ≤ 255 ∧ RetL (vNs (timesM m n)) H Q
theorem ok_times (T : Tx K mg) : Pr P w K mg base 3 "times_summed" (Sp2 aTimes) := by
  have G_summed := ok_summed (P := P) (w := w) (base := base) T
  refine pr2 T.d_times_summed T.g_times_summed sc_times_summed (fun _ _ _ _ _ _ us hl => match us, hl with | [_, _], _ => rfl) fun a b H Q h cdv A outer s E hr hu => ?_
  obtain ⟨m, n, rfl, rfl, hm, hn, q⟩ := h
  refine ⟨_, (pss_cons (ps_set (i := 2) sc_times_summed.nd rfl (.inl rfl) (pe_lst (pa_cons pe_int pa_nil)))
      (pss_cons (ps_for PassesOwn.never rfl (pi_range1 (by rfl) T.b_range (pa_cons (pv 1) pa_nil)) (pg_name (i := 3) sc_times_summed.nd rfl (.inl rfl)) (pss_one (ps_expr (pe_appK (K := K) rfl (pv 2) (pa_cons (pe_fn G_summed (hr.mono (by omega)) (by rfl) (pa_cons (pe_ix (ixLK (K := K) rfl) (pv 2) (pe_un un_neg pe_int) (fun _ _ => rfl)) (pa_cons (pv 0) pa_nil))) pa_nil)))))
      (pss_one (ps_ret (pv 2))))), ?_⟩
  refine q_asgL (el_lst (ea_cons ev_c ea_nil) (by decide)) fun p H1 hp e1 h1 => ?_
  refine q_forR1 (n := (n : Int)) (ea_cons (ev_var rfl) ea_nil) (by omega) (fun i σ' H' => ∃ z, σ' = [some (vN m), some (vN n), some (.ref p), z] ∧ Ex H H' ∧ H' p = some (.lst (vNs (timesM m i)))) (fun H2 e2 => ⟨none, rfl, e1.trans e2, e2 _ _ h1⟩) ?_ ?_
  · rintro i σ' H' hi ⟨z, rfl, e2, h2⟩
    have hl : (vNs (timesM m i)).length = i + 1 := by rw [List.length_map, timesM_len]
    have hg : atI (vNs (timesM m i)) (-1) = some (vN ((timesM m i).getD i 0)) := last_vN (timesM_len m i)
    have hlt : (timesM m i).getD i 0 < 2 ^ 2041 := by
      have hlen := timesM_len m i
      rw [List.getD_eq_getElem?_getD, List.getElem?_eq_getElem (by omega)]
      exact timesM_lt m i _ (List.getElem_mem _)
    refine s_app (xs := vNs (timesM m i)) h2 (ev_var rfl) (ev_summed (ev_op (ev_var rfl) (ev_un ev_c ru_neg) (rv_ixL (sq_of h2) hg)) (ev_var rfl) hlt hm) (by rw [hl]; omega) fun H3 e3 => ⟨_, rfl, Ex.mut (e2.trans e3) hp, ?_⟩
    rw [upd_same]
    show some (HO.lst (vNs (timesM m i) ++ [vN _])) = some (HO.lst (vNs (timesM m i ++ [_])))
    rw [vNs_snoc]
  · rintro σ' H' ⟨z, rfl, e2, h2⟩
    exact s_ret (ev_var rfl) fun H3 e4 => q p H3 hp (e2.trans e4) (e4 _ _ h2)
theorem el_times {σ : L2.St} {H : Hp} {ta tb : TE} {m n : Nat} (ha : Ev ta σ H (vN m)) (hb : Ev tb σ H (vN n)) (hm : m < 2 ^ 2041) (hn : n ≤ 255) : EvL (tFn (Sp2 aTimes) (tCons ta (tCons tb tNil))) σ H (vNs (timesM m n)) :=
  el_fn (ea_cons ha (ea_cons hb ea_nil)) fun H1 _ Q q E => ⟨_, _, rfl, m, n, rfl, rfl, hm, hn, fun p H2 hp e h2 => q p H2 hp e h2⟩
abbrev aWhole : A1 := fun a H Q => ∃ m : Nat, a = vN m ∧ m < 2 ^ 2041 ∧ RetL (vNs (wholeM m)) H Q
theorem ok_whole (T : Tx K mg) : Pr P w K mg base 2 "whole_bytes" (Sp1 aWhole) := by
  have G_members := ok_members (P := P) (w := w) (base := base) T
  refine pr1 T.d_whole_bytes T.g_whole_bytes sc_whole_bytes (fun _ _ _ _ _ _ us hl => match us, hl with | [_], _ => rfl) fun a H Q h cdv A outer s E hr hu => ?_
  obtain ⟨m, rfl, hm, q⟩ := h
  refine ⟨_, (pss_one (ps_ret (pe_lc (own := [("length", 1)]) rfl sc_whole_bytes.nd (piLK (K := K) rfl (pe_fn G_members (hr.mono (by omega)) (by rfl) (pa_cons (pv 0) pa_nil))) (blkOk_by (N := ["mask", "length"]) (sc := defScope s_whole_bytes) (by decide +kernel)) (fun _ _ _ _ _ => (pg_name (i := 1) sc_whole_bytes.nd rfl (Or.inl rfl))) (fun _ _ _ _ _ => (pts_one (pt_cmpR op_eq (pe_op op_mod (pv 1) (pe_gint (by rfl) T.c_BYTE)) pe_int (by rfl)))) (fun _ _ _ _ _ => (pe_op op_fdiv (pv 1) (pe_gint (by rfl) T.c_BYTE)))))), ?_⟩
  refine (sv_retL (el_is (el_compN (val := vN) (g := fun l => vN (l / 8)) (p := fun l => decide (l % 8 = 0)) (el_members (ev_var rfl) hm) (Nat.le_trans (bitsM_len m) (by decide)) ?_ ?_) ?_) q).here
  · intro x hx
    refine et_test (ev_is (ev_op (ev_op (ev_var rfl) ev_c (rv_I (show (0 : Int) < 8 by decide))) ev_c (rv_eq rfl)) ?_)
    refine congrArg V.bl ?_
    rw [decide_eq_decide]
    constructor
    · intro e
      have e := V.int.inj e
      omega
    · intro e
      exact congrArg V.int (by omega)
  · intro x hx _
    refine ev_is (ev_op (ev_var rfl) ev_c (rv_I (show CDiv _ _ from ⟨by decide, by decide⟩))) ?_
    exact congrArg V.int (by omega)
  · unfold wholeM
    rw [vNs, List.map_map]
    rfl
theorem el_whole {σ : L2.St} {H : Hp} {ta : TE} {m : Nat} (h : Ev ta σ H (vN m)) (hm : m < 2 ^ 2041) : EvL (tFn (Sp1 aWhole) (tCons ta tNil)) σ H (vNs (wholeM m)) :=
  el_fn (ea_cons h ea_nil) fun H1 _ Q q E => ⟨_, rfl, m, rfl, hm, fun p H2 hp e h2 => q p H2 hp e h2⟩
abbrev aBehind : A1 := fun a H Q => ∃ m : Nat, a = vN m ∧ m < 2 ^ 2041 ∧ RetV (vN (behindM m)) H Q
theorem ok_behind (T : Tx K mg) : Pr P w K mg base 2 "with_bytes_behind" (Sp1 aBehind) := by
  have G_cut := ok_cut (P := P) (w := w) (base := base) T
  refine pr1 T.d_with_bytes_behind T.g_with_bytes_behind sc_with_bytes_behind (fun _ _ _ _ _ _ us hl => match us, hl with | [_], _ => rfl) fun a H Q h cdv A outer s E hr hu => ?_
  obtain ⟨m, rfl, hm, q⟩ := h
  refine ⟨_, (pss_cons (ps_set (i := 1) sc_with_bytes_behind.nd rfl (.inl rfl) pe_int)
      (pss_cons (ps_for PassesOwn.never rfl (pi_range1 (by rfl) T.b_range (pa_cons (pe_op op_add (pe_op op_fdiv (pe_gint (by rfl) T.c_MOST_BITS) (pe_gint (by rfl) T.c_BYTE)) pe_int) pa_nil)) (pg_name (i := 2) sc_with_bytes_behind.nd rfl (.inl rfl)) (pss_one (ps_set (i := 1) sc_with_bytes_behind.nd rfl (.inl rfl) (pe_op op_or (pv 1) (pe_op op_shlW (pv 0) (pe_op op_mul (pe_gint (by rfl) T.c_BYTE) (pv 2)))))))
      (pss_one (ps_ret (pe_fn G_cut (hr.mono (by omega)) (by rfl) (pa_cons (pv 1) pa_nil)))))), ?_⟩
  refine (sv_asg ev_c ?_).here
  refine sv_forR1 (n := 256) (ea_cons (ev_is (ev_op (ev_op ev_c ev_c (rv_I (show CDiv _ _ from ⟨by decide, by decide⟩))) ev_c rv_I0) (by rfl)) ea_nil) (by decide) (fun i σ' => ∃ z, σ' = [some (vN m), some (vN (orsM m ((List.range i).map fun c => 8 * c))), z]) ⟨none, rfl⟩ ?_ ?_
  · rintro i σ' hi ⟨z, rfl⟩
    refine sv_asg1 (ev_is (ev_op (ev_var rfl) (ev_op (ev_var rfl) (ev_is (ev_op ev_c (ev_var rfl) (rv_I (show CMul _ _ from .inl (by decide)))) (show V.int (8 * (i : Int)) = vN (8 * i) from congrArg V.int (by omega))) (rv_shlN hm (by omega))) rv_I0) (congrArg V.int (or_nat _ _))) fun H1 e2 => ⟨⟨some (vN i), ?_⟩, e2⟩
    unfold orsM
    rw [List.range_succ, List.map_append, List.foldl_append]
    rfl
  · rintro σ' ⟨z, rfl⟩
    exact sv_ret (ev_cut (ev_var rfl)) q
end
end Fk

set_option Elab.async false
set_option linter.all false
set_option maxRecDepth 100000
set_option maxHeartbeats 4000000
set_option exponentiation.threshold 3000
namespace Fk
open PySem PySem.Spec PyProof.Rows L2 Evl
section
variable {P : Program} {w : World} {K : PySem.W.Frag} {mg : Str → Option Value} {base : Heap} {σ : L2.St} {H H' : Hp} {ta tb : TE} {f : Fld}
theorem Ob.mono (e : Ex H H') (h : Ob K H f) : Ob K H' f := let ⟨dx, q⟩ := h; ⟨dx, e _ _ q⟩
theorem ev_kind (h : Ev ta σ H f.v) (ho : Ob K H f) : Ev (tMU (spKind K) ta) σ H (.str f.k.word) := ev_mU h fun H1 e Q q E => ⟨_, rfl, f, rfl, ho.mono e, q _ (Ex.refl _)⟩
theorem ev_steers (h : Ev ta σ H f.v) (ho : Ob K H f) : Ev (tMU (spSteers K) ta) σ H (stV f.k) := ev_mU h fun H1 e Q q E => ⟨_, rfl, f, rfl, ho.mono e, q _ (Ex.refl _)⟩
theorem ev_name (T : Tx K mg) (h : Ev ta σ H f.v) (ho : Ob K H f) : Ev (tFld K ta "name") σ H (.str f.nm) := ev_at T h ho (at_name T f)
abbrev IsNum (f : Fld) : Prop := ∃ w sg lt lo hi df c, f.k = .num w sg lt lo hi df c ∧ 1 ≤ w ∧ w ≤ 32
theorem ev_least (h : Ev ta σ H f.v) (ho : Ob K H f) (hn : IsNum f) : Ev (tMU (Sp1 (aLeast K)) ta) σ H (.int f.k.least) := ev_mU h fun H1 e Q q E => ⟨_, rfl, f, rfl, ho.mono e, hn, q⟩
theorem ev_greatest (h : Ev ta σ H f.v) (ho : Ob K H f) (hn : IsNum f) : Ev (tMU (Sp1 (aGreatest K)) ta) σ H (.int f.k.greatest) := ev_mU h fun H1 e Q q E => ⟨_, rfl, f, rfl, ho.mono e, hn, q⟩
theorem flat_stV (k : Kd) : flatV (stV k) = true := by
  unfold stV
  cases k.st <;> rfl
theorem flat_st (fs : List Fld) : (fs.map fun f => stV f.k).all flatV = true := by
  rw [List.all_map, List.all_eq_true]
  exact fun f _ => flat_stV f.k
/-! ### which fields are told -/
/-- by its kind and the controls of its list a field is told just where it says so -/
def TC (fs : List Fld) : Prop := ∀ f ∈ fs, (!inV (.str f.k.word) [.str "check", .str "spot"] && !inV (.str f.nm) (fs.map fun g => stV g.k)) = f.k.told
theorem map_all {α : Type} (xs : List α) (g : α → V) : (xs.filter fun _ => true).map g = xs.map g := by rw [List.filter_eq_self.mpr fun _ _ => rfl]
abbrev toldV (fs : List Fld) : List V := (fs.filter fun f => f.k.told).map Fld.v
abbrev aTold (K : PySem.W.Frag) : A1 := fun a H Q => ∃ l fs, a = .ref l ∧ SqL K H l (fs.map Fld.v) ∧ (∀ f ∈ fs, Ob K H f) ∧ TC fs ∧ fs.length ≤ 60 ∧ RetL (toldV fs) H Q
theorem ok_told_fields (T : Tx K mg) : Pr P w K mg base 2 "told_fields" (Sp1 (aTold K)) := by
  have G_kind := pr_kind (P := P) (w := w) (base := base) T
  have G_steers := pr_steers (P := P) (w := w) (base := base) T
  refine pr1 T.d_told_fields T.g_told_fields sc_told_fields (fun _ _ _ _ _ _ us hl => match us, hl with | [_], _ => rfl) fun a H Q h cdv A outer s E hr hu => ?_
  obtain ⟨l, fs, rfl, hS, ob, tc, hz, q⟩ := h
  refine ⟨_, (pss_cons (ps_set (i := 1) sc_told_fields.nd rfl (.inr rfl) (pe_lc (own := [("field", 2)]) rfl sc_told_fields.nd (piLK (K := K) rfl (pv 0)) (blkOk_by (N := ["fields", "controls", "field"]) (sc := defScope s_told_fields) (by decide +kernel)) (fun _ _ _ _ _ => (pg_name (i := 2) sc_told_fields.nd rfl (Or.inl rfl))) (fun _ _ _ _ _ => pts_nil) (fun _ _ _ _ _ => (pe_mU G_steers (hr.mono (by omega)) (pv 2)))))
      (pss_one (ps_ret (pe_lc (own := [("field", 2)]) rfl sc_told_fields.nd (piLK (K := K) rfl (pv 0)) (blkOk_by (N := ["fields", "controls", "field"]) (sc := defScope s_told_fields) (by decide +kernel)) (fun _ _ _ _ _ => (pg_name (i := 2) sc_told_fields.nd rfl (Or.inl rfl))) (fun _ _ _ _ _ => (pts_one (PW.pt (pw_and (pt_cmpR (op_niK (K := K) rfl) (pe_mU G_kind (hr.mono (by omega)) (pv 2)) (pe_tup (pa_cons pe_str (pa_cons pe_str pa_nil))) (by rfl)) (pw_and1 (pt_cmpR (op_niK (K := K) rfl) (fldK (K := K) rfl (pv 2) rfl) (pv 1) (by rfl))))))) (fun _ _ _ _ _ => (pv 2)))))), ?_⟩
  refine (sv_asgL (el_is (el_comp (val := Fld.v) (g := fun f => stV f.k) (p := fun _ => true) (ev_var rfl) hS (by omega) (fun _ _ => et_yes) fun f hf _ => ev_steers (ev_var rfl) (ob f hf)) (map_all _ _)) fun p hp => ?_).here
  have e1 := Ex.new hp (o := .lst (fs.map fun f => stV f.k))
  refine sv_retL (el_comp (val := Fld.v) (g := Fld.v) (p := fun f => f.k.told) (ev_var rfl) (ex_l e1 hS) (by omega) (fun f hf => ?_) fun f hf _ => ev_var rfl) fun p2 H2 h1 e2 h2 => q p2 H2 (fresh_back e1 h1) (e1.trans e2) h2
  have obf := (ob f hf).mono e1
  refine et_is (et_and (et_test (ev_niU (ev_kind (ev_var rfl) obf) (eu_tup (ea_cons ev_c (ea_cons ev_c ea_nil)) (by decide)) rfl rfl)) fun _ => et_test (ev_op (ev_name T (ev_var rfl) obf) (ev_var rfl) (rv_niL (sq_of upd_same) rfl (flat_st fs)))) (tc f hf)
theorem ok_law_told (T : Tx K mg) : Pr P w K mg base 2 "_law_told" (Sp1 (aTold K)) := by
  have G_kind := pr_kind (P := P) (w := w) (base := base) T
  have G_steers := pr_steers (P := P) (w := w) (base := base) T
  refine pr1 T.d__law_told T.g__law_told sc__law_told (fun _ _ _ _ _ _ us hl => match us, hl with | [_], _ => rfl) fun a H Q h cdv A outer s E hr hu => ?_
  obtain ⟨l, fs, rfl, hS, ob, tc, hz, q⟩ := h
  refine ⟨_, (pss_cons (ps_set (i := 1) sc__law_told.nd rfl (.inr rfl) (pe_lc (own := [("_law_field", 2)]) rfl sc__law_told.nd (piLK (K := K) rfl (pv 0)) (blkOk_by (N := ["_law_fields", "_law_controls", "_law_field"]) (sc := defScope s__law_told) (by decide +kernel)) (fun _ _ _ _ _ => (pg_name (i := 2) sc__law_told.nd rfl (Or.inl rfl))) (fun _ _ _ _ _ => pts_nil) (fun _ _ _ _ _ => (pe_mU G_steers (hr.mono (by omega)) (pv 2)))))
      (pss_one (ps_ret (pe_lc (own := [("_law_field", 2)]) rfl sc__law_told.nd (piLK (K := K) rfl (pv 0)) (blkOk_by (N := ["_law_fields", "_law_controls", "_law_field"]) (sc := defScope s__law_told) (by decide +kernel)) (fun _ _ _ _ _ => (pg_name (i := 2) sc__law_told.nd rfl (Or.inl rfl))) (fun _ _ _ _ _ => (pts_one (PW.pt (pw_and (pt_cmpR (op_niK (K := K) rfl) (pe_mU G_kind (hr.mono (by omega)) (pv 2)) (pe_tup (pa_cons pe_str (pa_cons pe_str pa_nil))) (by rfl)) (pw_and1 (pt_cmpR (op_niK (K := K) rfl) (fldK (K := K) rfl (pv 2) rfl) (pv 1) (by rfl))))))) (fun _ _ _ _ _ => (pv 2)))))), ?_⟩
  refine (sv_asgL (el_is (el_comp (val := Fld.v) (g := fun f => stV f.k) (p := fun _ => true) (ev_var rfl) hS (by omega) (fun _ _ => et_yes) fun f hf _ => ev_steers (ev_var rfl) (ob f hf)) (map_all _ _)) fun p hp => ?_).here
  have e1 := Ex.new hp (o := .lst (fs.map fun f => stV f.k))
  refine sv_retL (el_comp (val := Fld.v) (g := Fld.v) (p := fun f => f.k.told) (ev_var rfl) (ex_l e1 hS) (by omega) (fun f hf => ?_) fun f hf _ => ev_var rfl) fun p2 H2 h1 e2 h2 => q p2 H2 (fresh_back e1 h1) (e1.trans e2) h2
  have obf := (ob f hf).mono e1
  refine et_is (et_and (et_test (ev_niU (ev_kind (ev_var rfl) obf) (eu_tup (ea_cons ev_c (ea_cons ev_c ea_nil)) (by decide)) rfl rfl)) fun _ => et_test (ev_op (ev_name T (ev_var rfl) obf) (ev_var rfl) (rv_niL (sq_of upd_same) rfl (flat_st fs)))) (tc f hf)
theorem el_told {l : Addr} {fs : List Fld} (h : Ev ta σ H (.ref l)) (hS : SqL K H l (fs.map Fld.v)) (ob : ∀ f ∈ fs, Ob K H f) (tc : TC fs) (hz : fs.length ≤ 60) : EvL (tFn (Sp1 (aTold K)) (tCons ta tNil)) σ H (toldV fs) :=
  el_fn (ea_cons h ea_nil) fun H1 e Q q E => ⟨_, rfl, l, fs, rfl, ex_l e hS, fun f hf => (ob f hf).mono e, tc, hz, fun p H2 hp e h2 => q p H2 hp e h2⟩
/-! ### defaults -/
def Kd.isDf : Kd → Bool | .num .. => true | .sev .. => true | .txt .. => true | _ => false
theorem in_isDf (k : Kd) : inV (.str k.word) [.str "number", .str "seven", .str "text"] = k.isDf := by cases k <;> rfl
theorem dfl_no {k : Kd} (h : k.isDf = false) : k.dfl = .non := by cases k <;> first | rfl | cases h
theorem ev_dfl (T : Tx K mg) (h : Ev ta σ H f.v) (ho : Ob K H f) (hd : f.k.isDf = true) : Ev (tFld K ta "default") σ H f.k.dfl := by
  refine ev_at T h ho ?_
  obtain ⟨p, nm, k, l, ss⟩ := f
  cases k <;> first | exact ⟨rfl, T.na_Number_default⟩ | exact ⟨rfl, T.na_Seven_default⟩ | exact ⟨rfl, T.na_Text_default⟩ | cases hd
theorem ev_inDf (h : Ev ta σ H f.v) (ho : Ob K H f) : Ev (tOp (rIn K false) (tMU (spKind K) ta) (tTup (tCons (tC (.str "number")) (tCons (tC (.str "seven")) (tCons (tC (.str "text")) tNil))))) σ H (.bl f.k.isDf) :=
  ev_is (ev_inU (ev_kind h ho) (eu_tup (ea_cons ev_c (ea_cons ev_c (ea_cons ev_c ea_nil))) (by decide)) rfl rfl) (congrArg V.bl (in_isDf f.k))
abbrev aDfl (K : PySem.W.Frag) : A1 := fun a H Q => ∃ f : Fld, a = f.v ∧ Ob K H f ∧ RetV f.k.dfl H Q
theorem ok_default_of (T : Tx K mg) : Pr P w K mg base 2 "default_of" (Sp1 (aDfl K)) := by
  have G_kind := pr_kind (P := P) (w := w) (base := base) T
  refine pr1 T.d_default_of T.g_default_of sc_default_of (fun _ _ _ _ _ _ us hl => match us, hl with | [_], _ => rfl) fun a H Q h cdv A outer s E hr hu => ?_
  obtain ⟨f, rfl, ob, q⟩ := h
  refine ⟨_, (pss_cons (ps_if (pt_cmpR (op_inK (K := K) rfl) (pe_mU G_kind (hr.mono (by omega)) (pv 0)) (pe_tup (pa_cons pe_str (pa_cons pe_str (pa_cons pe_str pa_nil)))) (by rfl)) (pss_one (ps_ret (fldK (K := K) rfl (pv 0) rfl))) pss_nil)
      (pss_one (ps_ret pe_non))), ?_⟩
  refine (sv_when (et_test (ev_inDf (ev_var rfl) ob)) (fun e => sv_ret (ev_dfl T (ev_var rfl) ob e) q) fun e => sv_ret (ev_is ev_c (dfl_no e).symm) q).here
theorem ev_default (h : Ev ta σ H f.v) (ho : Ob K H f) : Ev (tFn (Sp1 (aDfl K)) (tCons ta tNil)) σ H f.k.dfl := ev_fn (ea_cons h ea_nil) fun H1 e Q q E => ⟨_, rfl, f, rfl, ho.mono e, q⟩
abbrev aHasD (K : PySem.W.Frag) : A1 := fun a H Q => ∃ f : Fld, a = f.v ∧ Ob K H f ∧ RetV (.bl (hasD f)) H Q
theorem ok_has_default (T : Tx K mg) : Pr P w K mg base 2 "has_default" (Sp1 (aHasD K)) := by
  have G_kind := pr_kind (P := P) (w := w) (base := base) T
  refine pr1 T.d_has_default T.g_has_default sc_has_default (fun _ _ _ _ _ _ us hl => match us, hl with | [_], _ => rfl) fun a H Q h cdv A outer s E hr hu => ?_
  obtain ⟨f, rfl, ob, q⟩ := h
  refine ⟨_, (pss_one (ps_ret (pe_and (pe_cmpR (op_inK (K := K) rfl) (pe_mU G_kind (hr.mono (by omega)) (pv 0)) (pe_tup (pa_cons pe_str (pa_cons pe_str (pa_cons pe_str pa_nil)))) (by rfl)) (pe_one (pe_cmpR op_notN (fldK (K := K) rfl (pv 0) rfl) pe_non (by rfl)))))), ?_⟩
  cases e : f.k.isDf with
  | true => exact (sv_ret (ev_is (ev_andV (ev_is (ev_inDf (ev_var rfl) ob) (congrArg V.bl e)) fun _ => ev_notn (ev_dfl T (ev_var rfl) ob e)) (by unfold hasD; simp)) q).here
  | false => exact (sv_ret (ev_is (ev_andV (b := true) (ev_is (ev_inDf (ev_var rfl) ob) (congrArg V.bl e)) fun z => nomatch z) (by unfold hasD; rw [dfl_no e]; rfl)) q).here
theorem ev_hasD (h : Ev ta σ H f.v) (ho : Ob K H f) : Ev (tFn (Sp1 (aHasD K)) (tCons ta tNil)) σ H (.bl (hasD f)) := ev_fn (ea_cons h ea_nil) fun H1 e Q q E => ⟨_, rfl, f, rfl, ho.mono e, q⟩
/-! ### widths of plain things -/
theorem sevB_step {x : Nat} (h : 127 < x) (h2 : x < 2 ^ 28) : sevB x = sevB (x / 128) + 1 := by
  unfold sevB
  rw [if_neg (by omega)]
  by_cases h3 : x ≤ 16383
  · rw [if_pos h3, if_pos (by omega)]
  · rw [if_neg h3, if_neg (show ¬ x / 128 ≤ 127 by omega)]
    by_cases h4 : x ≤ 2097151
    · rw [if_pos h4, if_pos (by omega)]
    · rw [if_neg h4, if_neg (show ¬ x / 128 ≤ 16383 by omega), if_pos (by omega)]
abbrev aSevB : A1 := fun a H Q => ∃ n : Nat, a = vN n ∧ n < 2 ^ 28 ∧ RetV (vN (sevB n)) H Q
theorem ok_seven_bytes (T : Tx K mg) : Pr P w K mg base 1 "seven_bytes" (Sp1 aSevB) := by
  refine pr1 T.d_seven_bytes T.g_seven_bytes sc_seven_bytes (fun _ _ _ _ _ _ us hl => match us, hl with | [_], _ => rfl) fun a H Q h cdv A outer s E hr hu => ?_
  obtain ⟨n, rfl, hn, q⟩ := h
  refine ⟨_, (pss_cons (ps_set (i := 1) sc_seven_bytes.nd rfl (.inl rfl) pe_int)
      (pss_cons (ps_while PassesOwn.never (pt_cmpR op_gt (pv 0) pe_int (by rfl)) (pss_cons (ps_set (i := 0) sc_seven_bytes.nd rfl (.inl rfl) (pe_op op_shr (pv 0) pe_int))
      (pss_one (ps_aug (i := 1) sc_seven_bytes.nd rfl (.inl rfl) pe_int ip_add))))
      (pss_one (ps_ret (pv 1))))), ?_⟩
  refine (sv_asg ev_c fun H1 e1 => ?_).here
  refine q_while (fun x σ' H' => ∃ c : Nat, σ' = [some (vN x), some (vN c)] ∧ Ex H H' ∧ x < 2 ^ 28 ∧ c + sevB x = sevB n + 1) n ⟨1, rfl, e1, hn, by omega⟩ ?_
  rintro x σ' H' ⟨c, rfl, e2, hx, hc⟩
  refine ⟨decide (127 < (x : Int)), et_test (ev_op (ev_var rfl) ev_c rv_I0), fun hb H2 e3 => ?_, fun hb H2 e3 => ?_⟩
  · have hx0 : 127 < x := by have := of_decide_eq_true hb; omega
    refine ⟨fun σ2 H4 => σ2 = [some (vN (x / 128)), some (vN (c + 1))] ∧ Ex H H4, fun σ2 H4 ⟨a1, a2⟩ => ⟨_, by omega, c + 1, a1, a2, by omega, by have := sevB_step hx0 hx; omega⟩, ?_⟩
    refine q_asg (v := vN (x / 128)) (ev_is (ev_op (ev_var rfl) ev_c (rv_I (show (0 : Int) ≤ 7 by decide))) (congrArg V.int (show (x : Int) / 2 ^ (7 : Int).toNat = ((x / 128 : Nat) : Int) by show (x : Int) / 128 = _; omega))) fun H4 e4 => ?_
    exact s_aug rfl ev_c fun H5 e5 => ⟨rfl, ((e2.trans e3).trans e4).trans e5⟩
  · have hx0 : x ≤ 127 := by have := of_decide_eq_false hb; omega
    refine (sv_ret (ev_is (ev_var rfl) ?_) fun H4 e4 => q H4 ((e2.trans e3).trans e4)).here
    have e : sevB x = 1 := by unfold sevB; rw [if_pos hx0]
    exact congrArg vN (by omega)
theorem ev_sevB {n : Nat} (h : Ev ta σ H (vN n)) (hn : n < 2 ^ 28) : Ev (tFn (Sp1 aSevB) (tCons ta tNil)) σ H (vN (sevB n)) := ev_fn (ea_cons h ea_nil) fun H1 e Q q E => ⟨_, rfl, n, rfl, hn, q⟩
theorem word_end (h : How) : decide (V.str h.word = V.str "end") = h.isEnd := by cases h <;> rfl
theorem word_fix (h : How) : decide (V.str h.word = V.str "fixed") = (match h with | .fix _ => true | _ => false) := by cases h <;> rfl
theorem ev_how (T : Tx K mg) (h : Ev ta σ H f.v) (ho : Ob K H f) {hw : How} (hk : (∃ df, f.k = .txt hw df) ∨ ∃ mk, f.k = .row hw mk) : Ev (tFld K ta "how") σ H (.str hw.word) := by
  refine ev_at T h ho ?_
  obtain ⟨p, nm, k, l, ss⟩ := f
  rcases hk with ⟨df, rfl⟩ | ⟨mk, rfl⟩
  · exact ⟨rfl, T.na_Text_how⟩
  · exact ⟨rfl, T.na_Row_how⟩
theorem ev_count (T : Tx K mg) (h : Ev ta σ H f.v) (ho : Ob K H f) {hw : How} (hk : (∃ df, f.k = .txt hw df) ∨ ∃ mk, f.k = .row hw mk) : Ev (tFld K ta "count") σ H hw.cnt := by
  refine ev_at T h ho ?_
  obtain ⟨p, nm, k, l, ss⟩ := f
  rcases hk with ⟨df, rfl⟩ | ⟨mk, rfl⟩
  · exact ⟨rfl, T.na_Text_count⟩
  · exact ⟨rfl, T.na_Row_count⟩
theorem ev_width (T : Tx K mg) (h : Ev ta σ H f.v) (ho : Ob K H f) (hk : f.k.told = false ∨ f.k.word = "number") (hk2 : f.k.isCtl = true ∨ f.k.told = false ∨ f.k.word = "number") : Ev (tFld K ta "width") σ H (vN f.k.width) := by
  refine ev_at T h ho ?_
  obtain ⟨p, nm, k, l, ss⟩ := f
  cases k with
  | num w0 sg lt lo hi df c => exact ⟨rfl, T.na_Number_width⟩
  | chk how w0 first => exact ⟨rfl, T.na_Check_width⟩
  | spt w0 tg => exact ⟨rfl, T.na_Spot_width⟩
  | _ => exact absurd hk (by intro z; rcases z with z | z <;> first | cases z | exact absurd z (by decide +kernel))
theorem ev_fields (T : Tx K mg) (h : Ev ta σ H f.v) (ho : Ob K H f) (hk : f.k.one = true) : Ev (tFld K ta "fields") σ H (.ref f.l) := by
  refine ev_at T h ho ?_
  obtain ⟨p, nm, k, l, ss⟩ := f
  cases k <;> first | exact ⟨rfl, T.na_Row_fields⟩ | exact ⟨rfl, T.na_Maybe_fields⟩ | exact ⟨rfl, T.na_Group_fields⟩ | exact ⟨rfl, T.na_Sized_fields⟩ | cases hk
abbrev aTextW (K : PySem.W.Frag) : A2 := fun a b H Q => ∃ (f : Fld) (hw : How) (df : Option Str) (s : Str), a = f.v ∧ b = .str s ∧ Ob K H f ∧ f.k = .txt hw df ∧ s.length ≤ 1000 ∧ RetV (vN (8 * s.length + hw.e)) H Q
theorem ok_text_width (T : Tx K mg) : Pr P w K mg base 1 "text_width" (Sp2 (aTextW K)) := by
  refine pr2 T.d_text_width T.g_text_width sc_text_width (fun _ _ _ _ _ _ us hl => match us, hl with | [_, _], _ => rfl) fun a b H Q h cdv A outer s E hr hu => ?_
  obtain ⟨f, hw, df, z, rfl, rfl, ob, hk, hz, q⟩ := h
  refine ⟨_, (pss_cons (ps_if (pt_cmpR op_eq (fldK (K := K) rfl (pv 0) rfl) pe_str (by rfl)) (pss_one (ps_ret (pe_op op_add (pe_op op_mul pe_int (pe_callB (lenK (K := K) rfl) (by rfl) T.b_len (by decide +kernel) (pa_cons (pv 1) pa_nil))) pe_int))) pss_nil)
      (pss_one (ps_ret (pe_op op_mul pe_int (pe_callB (lenK (K := K) rfl) (by rfl) T.b_len (by decide +kernel) (pa_cons (pv 1) pa_nil)))))), ?_⟩
  have lz : Ev (tCB (rLenV K) (tCons (tVar 1) tNil)) (start ["field", "value"] [f.v, .str z]) H (vN z.length) := ev_lenV (ev_var rfl) (lenV_str (by omega))
  refine (sv_when (et_test (ev_is (ev_op (ev_how T (ev_var rfl) ob (.inl ⟨df, hk⟩)) ev_c (rv_eq rfl)) (congrArg V.bl (word_end hw)))) (fun e => ?_) fun e => ?_).here
  · refine sv_ret (ev_is (ev_op (ev_op ev_c lz (rv_I (show CMul _ _ from .inl (by decide)))) ev_c rv_I0) ?_) q
    unfold How.e
    rw [e]
    exact congrArg V.int (by push_cast; rfl)
  · refine sv_ret (ev_is (ev_op ev_c lz (rv_I (show CMul _ _ from .inl (by decide)))) ?_) q
    unfold How.e
    rw [e]
    exact congrArg V.int (by push_cast; rfl)
theorem ev_textW {hw : How} {df : Option Str} {s : Str} (ha : Ev ta σ H f.v) (hb : Ev tb σ H (.str s)) (ho : Ob K H f) (hk : f.k = .txt hw df) (hs : s.length ≤ 1000) : Ev (tFn (Sp2 (aTextW K)) (tCons ta (tCons tb tNil))) σ H (vN (8 * s.length + hw.e)) :=
  ev_fn (ea_cons ha (ea_cons hb ea_nil)) fun H1 e Q q E => ⟨_, _, rfl, f, hw, df, s, rfl, rfl, ho.mono e, hk, hs, q⟩
abbrev aMarkW (K : PySem.W.Frag) : A1 := fun a H Q => ∃ (f : Fld) (hw : How) (mk : V), a = f.v ∧ Ob K H f ∧ f.k = .row hw mk ∧ (hw.isEnd = true → ∃ g r, SqL K H f.l (Fld.v g :: r) ∧ Ob K H g ∧ g.k.width = 8 ∧ g.k.word = "number") ∧ RetV (vN hw.e) H Q
theorem ok_mark_width (T : Tx K mg) : Pr P w K mg base 1 "mark_width" (Sp1 (aMarkW K)) := by
  refine pr1 T.d_mark_width T.g_mark_width sc_mark_width (fun _ _ _ _ _ _ us hl => match us, hl with | [_], _ => rfl) fun a H Q h cdv A outer s E hr hu => ?_
  obtain ⟨f, hw, mk, rfl, ob, hk, hm, q⟩ := h
  refine ⟨_, (pss_cons (ps_if (pt_cmpR op_eq (fldK (K := K) rfl (pv 0) rfl) pe_str (by rfl)) (pss_one (ps_ret (fldK (K := K) rfl (pe_ix (ixLK (K := K) rfl) (fldK (K := K) rfl (pv 0) rfl) pe_int (fun _ _ => rfl)) rfl))) pss_nil)
      (pss_one (ps_ret pe_int))), ?_⟩
  refine (sv_when (et_test (ev_is (ev_op (ev_how T (ev_var rfl) ob (.inr ⟨mk, hk⟩)) ev_c (rv_eq rfl)) (congrArg V.bl (word_end hw)))) (fun e => ?_) fun e => ?_).here
  · obtain ⟨g, r, h1, h2, h3, h4⟩ := hm e
    refine sv_ret (ev_is (ev_width T (ev_op (ev_fields T (ev_var rfl) ob (by rw [hk]; rfl)) ev_c (rv_ixL h1 (atI_nat (j := 0) rfl))) h2 (.inr h4) (.inr (.inr h4))) ?_) q
    unfold How.e
    rw [e, h3]
    rfl
  · refine sv_ret (ev_is ev_c ?_) q
    unfold How.e
    rw [e]
    rfl
theorem ev_markW {hw : How} {mk : V} (h : Ev ta σ H f.v) (ho : Ob K H f) (hk : f.k = .row hw mk) (hm : hw.isEnd = true → ∃ g r, SqL K H f.l (Fld.v g :: r) ∧ Ob K H g ∧ g.k.width = 8 ∧ g.k.word = "number") : Ev (tFn (Sp1 (aMarkW K)) (tCons ta tNil)) σ H (vN hw.e) :=
  ev_fn (ea_cons h ea_nil) fun H1 e Q q E => ⟨_, rfl, f, hw, mk, rfl, ho.mono e, hk, fun z => let ⟨g, r, a, b, c⟩ := hm z; ⟨g, r, ex_l e a, b.mono e, c⟩, q⟩
end
end Fk

set_option Elab.async false
set_option linter.all false
set_option maxRecDepth 100000
set_option maxHeartbeats 4000000
set_option exponentiation.threshold 3000
namespace Fk
open PySem PySem.Spec PyProof.Rows L2 Evl
theorem inV_str {c : Str} {xs : List Str} : inV (.str c) (xs.map V.str) = decide (c ∈ xs) := by
  unfold inV
  rw [List.any_map, Bool.eq_iff_iff, List.any_eq_true, decide_eq_true_iff]
  constructor
  · rintro ⟨y, hy, e⟩
    have e : (y == c) = true := e
    rw [beq_iff_eq] at e
    exact e ▸ hy
  · intro h
    exact ⟨c, h, show (c == c) = true from beq_self_eq_true c⟩
theorem inV_int {c : Int} {xs : List Int} : inV (.int c) (xs.map V.int) = decide (c ∈ xs) := by
  unfold inV
  rw [List.any_map, Bool.eq_iff_iff, List.any_eq_true, decide_eq_true_iff]
  constructor
  · rintro ⟨y, hy, e⟩
    have e : (y == c) = true := e
    rw [beq_iff_eq] at e
    exact e ▸ hy
  · intro h
    exact ⟨c, h, show (c == c) = true from beq_self_eq_true c⟩
theorem flat_int (xs : List Int) : (xs.map V.int).all flatV = true := by
  rw [List.all_map, List.all_eq_true]
  exact fun _ _ => rfl
theorem flat_str (xs : List Str) : (xs.map V.str).all flatV = true := by
  rw [List.all_map, List.all_eq_true]
  exact fun _ _ => rfl
section
variable {P : Program} {w : World} {K : PySem.W.Frag} {mg : Str → Option Value} {base : Heap} {σ : L2.St} {H H' : Hp} {ta tb tc : TE} {f : Fld}
/-! ### isinstance, int, str -/
theorem tyX_mono {x : V} {t : String} (h : ∀ p, x = .ref p → ∃ o, H p = some o ∧ ∀ H1 : Hp, H1 p = some o → TyX K H1 x (.type t)) (h2 : (∀ p, x ≠ .ref p) → ∀ H1 : Hp, TyX K H1 x (.type t)) : ∀ H1, Ex H H1 → TyX K H1 x (.type t) := fun H1 e => by
  by_cases q : ∃ p, x = .ref p
  · obtain ⟨p, q⟩ := q
    obtain ⟨o, a, b⟩ := h p q
    exact b H1 (e _ _ a)
  · exact h2 (fun p z => q ⟨p, z⟩) H1
theorem ev_isi {x : V} {t c : String} {b : Bool} (h : Ev ta σ H x) (ht : ∀ H1, Ex H H1 → TyX K H1 x (.type t)) (hb : kitB t c = some b) : Ev (tCB (rIsi K) (tCons ta (tCons (tC (.ty c)) tNil))) σ H (.bl b) := fun H1 e Q q =>
  h H1 e _ fun H2 e2 => ⟨x, .ty c, _, _, b, rfl, .ty c, ht H2 (e.trans e2), kit_ty hb, q H2 e2⟩
theorem ty_int {i : Int} : ∀ H1, Ex H H1 → TyX K H1 (.int i) (.type "int") := fun _ _ => .base (.int i)
theorem ty_str {s : Str} : ∀ H1, Ex H H1 → TyX K H1 (.str s) (.type "str") := fun _ _ => .base (.str s)
theorem ty_non : ∀ H1, Ex H H1 → TyX K H1 .non (.type "NoneType") := fun _ _ => .base .non
theorem ty_dict {p : Addr} {kvs : Kvs} (h : H p = some (.dK kvs)) : ∀ H1, Ex H H1 → TyX K H1 (.ref p) (.type "dict") := fun _ e => .base (.dK (e _ _ h))
theorem ty_list {p : Addr} {xs : List V} (h : H p = some (.lst xs)) : ∀ H1, Ex H H1 → TyX K H1 (.ref p) (.type "list") := fun _ e => .base (.lst (e _ _ h))
theorem ty_tup {p : Addr} {xs : List V} (h : H p = some (.tup xs)) : ∀ H1, Ex H H1 → TyX K H1 (.ref p) (.type "tuple") := fun _ e => .base (.tup (e _ _ h))
theorem ev_int1b {b : Bool} (h : Ev ta σ H (.bl b)) : Ev (tCB (fun xs H Q => (∃ i, xs = [.int i] ∧ Q (.int i) H) ∨ ∃ k, xs = [.bl k] ∧ Q (.int (if k then 1 else 0)) H) (tCons ta tNil)) σ H (.int (if b then 1 else 0)) := fun H1 e Q q =>
  h H1 e _ fun H2 e2 => .inr ⟨b, rfl, q H2 e2⟩
abbrev aIsNum : A1 := fun a H Q => ∃ i : Int, a = .int i ∧ RetV (.bl true) H Q
theorem ok_is_number (T : Tx K mg) : Pr P w K mg base 1 "is_number" (Sp1 aIsNum) := by
  refine pr1 T.d_is_number T.g_is_number sc_is_number (fun _ _ _ _ _ _ us hl => match us, hl with | [_], _ => rfl) fun a H Q h cdv A outer s E hr hu => ?_
  obtain ⟨i, rfl, q⟩ := h
  refine ⟨_, (pss_one (ps_ret (pe_and (pe_callB (isiK (K := K) rfl) (by rfl) T.b_isinstance (by decide +kernel) (pa_cons (pv 0) (pa_cons (pe_bltn (v := .ty "int") (by rfl) T.b_int (by decide +kernel) rfl) pa_nil))) (pe_one (pe_not (pe_callB (isiK (K := K) rfl) (by rfl) T.b_isinstance (by decide +kernel) (pa_cons (pv 0) (pa_cons (pe_bltn (v := .ty "bool") (by rfl) T.b_bool (by decide +kernel) rfl) pa_nil)))))))), ?_⟩
  exact (sv_ret (ev_is (ev_andV (ev_isi (ev_var rfl) ty_int (b := true) (by decide +kernel)) fun _ => ev_notV (ev_isi (ev_var rfl) ty_int (b := false) (by decide +kernel))) (show V.bl (true && !false) = V.bl true from rfl)) q).here
theorem ev_isNum {i : Int} (h : Ev ta σ H (.int i)) : Ev (tFn (Sp1 aIsNum) (tCons ta tNil)) σ H (.bl true) := ev_fn (ea_cons h ea_nil) fun H1 e Q q E => ⟨_, rfl, i, rfl, q⟩
def fur (r n : Str) : Str := if r = "" then n else r ++ "/" ++ n
theorem fur_len (r n : Str) : (fur r n).length ≤ r.length + n.length + 1 := by
  unfold fur
  split
  · omega
  · rw [PySem.Str.length_append, PySem.Str.length_append]
    have : ("/" : Str).length = 1 := rfl
    omega
abbrev aFur : A2 := fun a b H Q => ∃ r n : Str, a = .str r ∧ b = .str n ∧ r.length ≤ 90000 ∧ n.length ≤ 1000 ∧ RetV (.str (fur r n)) H Q
theorem ok_further (T : Tx K mg) : Pr P w K mg base 1 "further" (Sp2 aFur) := by
  refine pr2 T.d_further T.g_further sc_further (fun _ _ _ _ _ _ us hl => match us, hl with | [_, _], _ => rfl) fun a b H Q h cdv A outer s E hr hu => ?_
  obtain ⟨r, n, rfl, rfl, hr1, hn1, q⟩ := h
  refine ⟨_, (pss_cons (ps_if (pt_cmpR op_eq (pv 0) pe_str (by rfl)) (pss_one (ps_ret (pv 1))) pss_nil)
      (pss_one (ps_ret (pe_op op_add_str (pe_op op_add_str (pv 0) pe_str) (pv 1))))), ?_⟩
  have l1 : ("/" : Str).length = 1 := rfl
  refine (sv_when (et_test (ev_op (ev_var rfl) ev_c (rv_eq rfl))) (fun e => sv_ret (ev_is (ev_var rfl) ?_) q) fun e => sv_ret (ev_is (ev_op (ev_op (ev_var rfl) ev_c (rv_val fun H1 _ Q q => ⟨_, _, rfl, rfl, sz_of (by omega), q⟩)) (ev_var rfl) (rv_val fun H1 _ Q q => ⟨_, _, rfl, rfl, sz_of (by rw [PySem.Str.length_append]; omega), q⟩)) ?_) q).here
  · have e := V.str.inj (of_decide_eq_true e)
    unfold fur
    rw [if_pos e]
  · have e : ¬ r = "" := fun z => of_decide_eq_false e (congrArg V.str z)
    unfold fur
    rw [if_neg e]
theorem ev_fur {r n : Str} (ha : Ev ta σ H (.str r)) (hb : Ev tb σ H (.str n)) (h1 : r.length ≤ 90000) (h2 : n.length ≤ 1000) : Ev (tFn (Sp2 aFur) (tCons ta (tCons tb tNil))) σ H (.str (fur r n)) := ev_fn (ea_cons ha (ea_cons hb ea_nil)) fun H1 e Q q E => ⟨_, _, rfl, r, n, rfl, rfl, h1, h2, q⟩
abbrev aNumMis : A4 := fun a b c d H Q => ∃ i lo hi : Int, a = .int i ∧ b = .int lo ∧ c = .int hi ∧ lo ≤ i ∧ i ≤ hi ∧ RetV .non H Q
theorem ok_number_misfit (T : Tx K mg) : Pr P w K mg base 2 "number_misfit" (Sp4 aNumMis) := by
  have G_is_number := ok_is_number (P := P) (w := w) (base := base) T
  refine pr4 T.d_number_misfit T.g_number_misfit sc_number_misfit (fun _ _ _ _ _ _ us hl => match us, hl with | [_, _, _, _], _ => rfl) fun a b c d H Q h cdv A outer s E hr hu => ?_
  obtain ⟨i, lo, hi, rfl, rfl, rfl, h1, h2, q⟩ := h
  refine ⟨_, (pss_cons (ps_if (pt_not (pt_val (pe_fn G_is_number (hr.mono (by omega)) (by rfl) (pa_cons (pv 0) pa_nil)))) (pss_one (ps_ret (pe_tup (pa_cons (pv 3) (pa_cons pe_str pa_nil))))) pss_nil)
      (pss_cons (ps_if (PW.pt (pw_or (pt_cmpR op_lt (pv 0) (pv 1) (by rfl)) (pw_or1 (pt_cmpR op_gt (pv 0) (pv 2) (by rfl))))) (pss_one (ps_ret (pe_tup (pa_cons (pv 3) (pa_cons pe_str pa_nil))))) pss_nil)
      (pss_one (ps_ret pe_non)))), ?_⟩
  refine (sv_when (et_not (et_test (ev_isNum (ev_var rfl)))) (fun e => nomatch e) fun _ => ?_).here
  refine sv_when (et_or (et_test (ev_op (ev_var rfl) (ev_var rfl) rv_I0)) fun _ => et_test (ev_op (ev_var rfl) (ev_var rfl) rv_I0)) (fun e => ?_) fun _ => sv_ret ev_c q
  rw [Bool.or_eq_true] at e
  exact absurd e (by intro z; rcases z with z | z <;> (have := of_decide_eq_true z; omega))
theorem ev_numMis {i lo hi : Int} {v : V} (ha : Ev ta σ H (.int i)) (hb : Ev tb σ H (.int lo)) (hc : Ev tc σ H (.int hi)) {td : TE} (hd : Ev td σ H v) (h1 : lo ≤ i) (h2 : i ≤ hi) : Ev (tFn (Sp4 aNumMis) (tCons ta (tCons tb (tCons tc (tCons td tNil))))) σ H .non :=
  ev_fn (ea_cons ha (ea_cons hb (ea_cons hc (ea_cons hd ea_nil)))) fun H1 e Q q E => ⟨_, _, _, _, rfl, i, lo, hi, rfl, rfl, rfl, h1, h2, q⟩
/-! ### cases -/
abbrev CaseAt (K : PySem.W.Frag) (H : Hp) (f : Fld) : Prop := SqL K H f.l (f.subs.map fun s => V.ref s.1) ∧ ∀ s ∈ f.subs, SqT K H s.1 [.int s.2.1, .ref s.2.2.1]
theorem CaseAt.mono (e : Ex H H') (h : CaseAt K H f) : CaseAt K H' f := ⟨ex_l e h.1, fun s hs => ex_t e (h.2 s hs)⟩
theorem ev_cases (T : Tx K mg) (h : Ev ta σ H f.v) (ho : Ob K H f) {c : Str} {lo hi : Int} (hk : f.k = .cho c lo hi) : Ev (tFld K ta "cases") σ H (.ref f.l) := by
  refine ev_at T h ho ?_
  obtain ⟨p, nm, k, l, ss⟩ := f
  subst hk
  exact ⟨rfl, T.na_Choice_cases⟩
abbrev aCase (K : PySem.W.Frag) : A2 := fun a b H Q => ∃ (f : Fld) (c : Str) (lo hi : Int) (s : Addr × Int × Addr × List Fld), a = f.v ∧ b = .int s.2.1 ∧ Ob K H f ∧ f.k = .cho c lo hi ∧ CaseAt K H f ∧ s ∈ f.subs ∧ (f.subs.map fun s => s.2.1).Nodup ∧ RetV (.ref s.2.2.1) H Q
theorem nodup_inj {α β : Type} {g : α → β} {xs : List α} (h : (xs.map g).Nodup) {a b : α} (ha : a ∈ xs) (hb : b ∈ xs) (e : g a = g b) : a = b := by
  induction xs with
  | nil => cases ha
  | cons x r ih =>
    rw [List.map_cons, List.nodup_cons] at h
    rcases List.mem_cons.mp ha with q1 | q1
    · rcases List.mem_cons.mp hb with q2 | q2
      · rw [q1, q2]
      · exact absurd (List.mem_map.mpr ⟨b, q2, by rw [← e, q1]⟩ : g x ∈ r.map g) h.1
    · rcases List.mem_cons.mp hb with q2 | q2
      · exact absurd (List.mem_map.mpr ⟨a, q1, by rw [e, q2]⟩ : g x ∈ r.map g) h.1
      · exact ih h.2 q1 q2
theorem ok_case_fields (T : Tx K mg) : Pr P w K mg base 1 "case_fields" (Sp2 (aCase K)) := by
  refine pr2 T.d_case_fields T.g_case_fields sc_case_fields (fun _ _ _ _ _ _ us hl => match us, hl with | [_, _], _ => rfl) fun a b H Q h cdv A outer s E hr hu => ?_
  obtain ⟨f, c, lo, hi, z, rfl, rfl, ob, hk, hc, hz, nd, q⟩ := h
  refine ⟨_, (pss_cons (ps_for PassesOwn.never rfl (piLK (K := K) rfl (fldK (K := K) rfl (pv 0) rfl)) (pgTK (K := K) (n := 2) rfl rfl (pgs_cons (pg_name (i := 2) sc_case_fields.nd rfl (.inl rfl)) (pgs_cons (pg_name (i := 3) sc_case_fields.nd rfl (.inl rfl)) pgs_nil))) (pss_one (ps_if (pt_cmpR op_eq (pv 2) (pv 1) (by rfl)) (pss_one (ps_ret (pv 3))) pss_nil)))
      (pss_one (ps_ret (pe_lst pa_nil)))), ?_⟩
  refine (sv_forL (ev_cases T (ev_var rfl) ob hk) hc.1 (fun i σ' => (∃ x y, σ' = [some f.v, some (.int z.2.1), x, y]) ∧ z ∉ f.subs.take i) ⟨⟨none, none, rfl⟩, fun h => nomatch h⟩ ?_ ?_).here
  · rintro i x σ' hx ⟨⟨u, v, rfl⟩, hn⟩ H1 e
    obtain ⟨t, ht, hm, rfl⟩ := map_get hx
    refine ⟨t.1, _, rfl, ex_t e (hc.2 t hm), rfl, _, _, rfl, _, _, rfl, rfl, ?_⟩
    refine sv_if (et_test (ev_op (ev_var rfl) (ev_var rfl) (rv_eq rfl))) (fun e1 => ?_) (fun e1 => ?_) H1 e
    · have e1 := V.int.inj (of_decide_eq_true e1)
      have e2 := nodup_inj nd hm hz e1
      exact sv_ret (ev_is (ev_var rfl) (by rw [e2])) fun H2 e3 => q H2 e3
    · refine sv_nx fun H2 e3 => ⟨⟨⟨_, _, rfl⟩, ?_⟩, e3⟩
      rw [List.take_add_one, ht]
      intro h
      rcases List.mem_append.mp h with h | h
      · exact hn h
      · have h : z = t := by simpa using h
        subst h
        exact of_decide_eq_false e1 rfl
  · rintro σ' ⟨_, hn⟩
    rw [List.length_map, List.take_length] at hn
    exact absurd hz hn
theorem ev_case {c : Str} {lo hi : Int} {s : Addr × Int × Addr × List Fld} (ha : Ev ta σ H f.v) (hb : Ev tb σ H (.int s.2.1)) (ho : Ob K H f) (hk : f.k = .cho c lo hi) (hc : CaseAt K H f) (hs : s ∈ f.subs) (nd : (f.subs.map fun s => s.2.1).Nodup) : Ev (tFn (Sp2 (aCase K)) (tCons ta (tCons tb tNil))) σ H (.ref s.2.2.1) :=
  ev_fn (ea_cons ha (ea_cons hb ea_nil)) fun H1 e Q q E => ⟨_, _, rfl, f, c, lo, hi, s, rfl, rfl, ho.mono e, hk, hc.mono e, hs, nd, q⟩
/-! ### the steered one; a place -/
theorem sc_stV (k : Kd) (c : Str) : scal (stV k) (.str c) = true := by
  unfold stV
  cases k.st <;> rfl
theorem stV_eq (k : Kd) (c : Str) : decide (stV k = .str c) = decide (k.st = some c) := by
  unfold stV
  cases k.st with
  | none => rfl
  | some d =>
    rw [decide_eq_decide]
    show V.str d = V.str c ↔ some d = some c
    rw [V.str.injEq, Option.some.injEq]
abbrev aSteered (K : PySem.W.Frag) : A2 := fun a b H Q => ∃ (l : Addr) (fs : List Fld) (f : Fld) (c : Str), a = .ref l ∧ b = .str c ∧ SqL K H l (fs.map Fld.v) ∧ (∀ f ∈ fs, Ob K H f) ∧ f ∈ fs ∧ f.k.st = some c ∧ (∀ g ∈ fs, g.k.st = some c → g = f) ∧ RetV f.v H Q
theorem ok_steered_by (T : Tx K mg) : Pr P w K mg base 2 "steered_by" (Sp2 (aSteered K)) := by
  have G_steers := pr_steers (P := P) (w := w) (base := base) T
  refine pr2 T.d_steered_by T.g_steered_by sc_steered_by (fun _ _ _ _ _ _ us hl => match us, hl with | [_, _], _ => rfl) fun a b H Q h cdv A outer s E hr hu => ?_
  obtain ⟨l, fs, f, c, rfl, rfl, hS, ob, hf, hc, hq, q⟩ := h
  refine ⟨_, (pss_cons (ps_for PassesOwn.never rfl (piLK (K := K) rfl (pv 0)) (pg_name (i := 2) sc_steered_by.nd rfl (.inl rfl)) (pss_one (ps_if (pt_cmpR op_eq (pe_mU G_steers (hr.mono (by omega)) (pv 2)) (pv 1) (by rfl)) (pss_one (ps_ret (pv 2))) pss_nil)))
      (pss_one (ps_ret pe_non))), ?_⟩
  refine (sv_forLn (ev_var rfl) hS (fun i σ' => (∃ x, σ' = [some (.ref l), some (.str c), x]) ∧ f ∉ fs.take i) ⟨⟨none, rfl⟩, fun h => nomatch h⟩ ?_ ?_).here
  · rintro i x σ' hx ⟨⟨u, rfl⟩, hn⟩
    obtain ⟨g, ht, hm, rfl⟩ := map_get hx
    refine sv_if (et_test (ev_is (ev_op (ev_steers (ev_var rfl) (ob g hm)) (ev_var rfl) (rv_eq (sc_stV g.k c))) (congrArg V.bl (stV_eq g.k c)))) (fun e1 => ?_) (fun e1 => ?_)
    · have e2 := hq g hm (of_decide_eq_true e1)
      exact sv_ret (ev_is (ev_var rfl) (by rw [e2])) fun H2 e3 => q H2 e3
    · refine sv_nx fun H2 e3 => ⟨⟨⟨_, rfl⟩, ?_⟩, e3⟩
      rw [List.take_add_one, ht]
      intro h
      rcases List.mem_append.mp h with h | h
      · exact hn h
      · have h : f = g := by simpa using h
        subst h
        exact of_decide_eq_false e1 hc
  · rintro σ' ⟨_, hn⟩
    rw [List.length_map, List.take_length] at hn
    exact absurd hf hn
theorem ev_steered {l : Addr} {fs : List Fld} {c : Str} (ha : Ev ta σ H (.ref l)) (hb : Ev tb σ H (.str c)) (hS : SqL K H l (fs.map Fld.v)) (ob : ∀ f ∈ fs, Ob K H f) (hf : f ∈ fs) (hc : f.k.st = some c) (hq : ∀ g ∈ fs, g.k.st = some c → g = f) : Ev (tFn (Sp2 (aSteered K)) (tCons ta (tCons tb tNil))) σ H f.v :=
  ev_fn (ea_cons ha (ea_cons hb ea_nil)) fun H1 e Q q E => ⟨_, _, rfl, l, fs, f, c, rfl, rfl, ex_l e hS, fun f hf => (ob f hf).mono e, hf, hc, hq, q⟩
abbrev aPlace (K : PySem.W.Frag) : A2 := fun a b H Q => ∃ (l : Addr) (fs : List Fld) (g : Fld) (j : Nat), a = .ref l ∧ b = .str g.nm ∧ SqL K H l (fs.map Fld.v) ∧ (∀ f ∈ fs, Ob K H f) ∧ fs[j]? = some g ∧ (fs.map Fld.nm).Nodup ∧ RetV (vN j) H Q
theorem ok_place_of (T : Tx K mg) : Pr P w K mg base 1 "place_of" (Sp2 (aPlace K)) := by
  refine pr2 T.d_place_of T.g_place_of sc_place_of (fun _ _ _ _ _ _ us hl => match us, hl with | [_, _], _ => rfl) fun a b H Q h cdv A outer s E hr hu => ?_
  obtain ⟨l, fs, g, j, rfl, rfl, hS, ob, hj, nd, q⟩ := h
  refine ⟨_, (pss_cons (ps_for PassesOwn.never rfl (piEK (K := K) rfl (by rfl) T.b_enumerate (pa_cons (pv 0) pa_nil)) (pgTK (K := K) (n := 2) rfl rfl (pgs_cons (pg_name (i := 2) sc_place_of.nd rfl (.inl rfl)) (pgs_cons (pg_name (i := 3) sc_place_of.nd rfl (.inl rfl)) pgs_nil))) (pss_one (ps_if (pt_cmpR op_eq (fldK (K := K) rfl (pv 3) rfl) (pv 1) (by rfl)) (pss_one (ps_ret (pv 2))) pss_nil)))
      (pss_one (ps_ret pe_non))), ?_⟩
  refine (sv_forE (ea_cons (ev_var rfl) ea_nil) hS (fun i σ' => (∃ x y, σ' = [some (.ref l), some (.str g.nm), x, y]) ∧ i ≤ j) ⟨⟨none, none, rfl⟩, Nat.zero_le _⟩ ?_ ?_).here
  · rintro i x σ' hx ⟨⟨u, v, rfl⟩, hn⟩
    obtain ⟨t, ht, hm, rfl⟩ := map_get hx
    refine sv_if (et_test (ev_op (ev_name T (ev_var rfl) (ob t hm)) (ev_var rfl) (rv_eq rfl))) (fun e1 => ?_) (fun e1 => ?_)
    · have e1 : t.nm = g.nm := V.str.inj (of_decide_eq_true e1)
      have e2 : i = j := by
        have l1 := (List.getElem?_eq_some_iff.mp ht)
        have l2 := (List.getElem?_eq_some_iff.mp hj)
        obtain ⟨l1, k1⟩ := l1
        obtain ⟨l2, k2⟩ := l2
        have m1 : i < (fs.map Fld.nm).length := by rw [List.length_map]; exact l1
        have m2 : j < (fs.map Fld.nm).length := by rw [List.length_map]; exact l2
        have e3 : (fs.map Fld.nm)[i] = (fs.map Fld.nm)[j] := by rw [List.getElem_map, List.getElem_map, k1, k2, e1]
        have pw := List.pairwise_iff_getElem.mp nd
        rcases Nat.lt_trichotomy i j with h | h | h
        · exact absurd e3 (pw i j m1 m2 h)
        · exact h
        · exact absurd e3.symm (pw j i m2 m1 h)
      exact sv_ret (ev_is (ev_var rfl) (by rw [e2])) fun H2 e3 => q H2 e3
    · refine sv_nx fun H2 e3 => ⟨⟨⟨_, _, rfl⟩, ?_⟩, e3⟩
      rcases Nat.lt_or_ge i j with h | h
      · exact h
      · have e2 : i = j := by omega
        subst e2
        rw [ht] at hj
        cases hj
        exact absurd rfl (of_decide_eq_false e1)
  · rintro σ' ⟨_, hn⟩
    rw [List.length_map] at hn
    have := (List.getElem?_eq_some_iff.mp hj).1
    omega
theorem ev_place {l : Addr} {fs : List Fld} {g : Fld} {j : Nat} (ha : Ev ta σ H (.ref l)) (hb : Ev tb σ H (.str g.nm)) (hS : SqL K H l (fs.map Fld.v)) (ob : ∀ f ∈ fs, Ob K H f) (hj : fs[j]? = some g) (nd : (fs.map Fld.nm).Nodup) : Ev (tFn (Sp2 (aPlace K)) (tCons ta (tCons tb tNil))) σ H (vN j) :=
  ev_fn (ea_cons ha (ea_cons hb ea_nil)) fun H1 e Q q E => ⟨_, _, rfl, l, fs, g, j, rfl, rfl, ex_l e hS, fun f hf => (ob f hf).mono e, hj, nd, q⟩
end
end Fk

set_option Elab.async false
set_option linter.all false
set_option maxRecDepth 100000
set_option maxHeartbeats 4000000
set_option exponentiation.threshold 3000
namespace Fk
open PySem PySem.Spec PyProof.Rows L2 Evl
section
variable {P : Program} {w : World} {K : PySem.W.Frag} {mg : Str → Option Value} {base : Heap} {σ : L2.St} {H H' : Hp} {ta tb tc : TE} {f : Fld}
theorem given_all (n : Nat) (v : Nat → V) : (given n (fun _ => true) v).length = n := by
  unfold given
  rw [List.length_map, List.filter_eq_self.mpr fun _ _ => rfl, List.length_range]
theorem s_appX {σ : L2.St} {D : Ends} {l : Addr} {xs : List V} {te : TE} (hl : H l = some (.lst xs)) (ha : Ev ta σ H (.ref l)) (h : ∀ H1, Ex H H1 → te σ H1 fun v H2 => rAppend (.ref l) [v] H2 fun _ H3 => D.nx σ H3) :
    tDrop (tBM K "list" rAppend ta (tCons te tNil)) D σ H := ha H (Ex.refl H) _ fun H1 e1 => ⟨Or.inl ⟨rfl, xs, sq_of (e1 l _ hl)⟩, h H1 e1⟩
theorem te_tup3 {σ : L2.St} {Q : VK} (h : ta σ H fun x H1 => tb σ H1 fun y H2 => tc σ H2 fun z H3 => ([x, y, z] : List V).length ≤ sizeLine ∧ ∀ p, H3 p = none → Q (.ref p) (upd H3 p (.tup [x, y, z]))) : tTup (tCons ta (tCons tb (tCons tc tNil))) σ H Q := h
theorem te_tup2 {σ : L2.St} {Q : VK} (h : ta σ H fun x H1 => tb σ H1 fun y H2 => ([x, y] : List V).length ≤ sizeLine ∧ ∀ p, H2 p = none → Q (.ref p) (upd H2 p (.tup [x, y]))) : tTup (tCons ta (tCons tb tNil)) σ H Q := h
theorem te_tup1 {σ : L2.St} {Q : VK} (h : ta σ H fun x H1 => ([x] : List V).length ≤ sizeLine ∧ ∀ p, H1 p = none → Q (.ref p) (upd H1 p (.tup [x]))) : tTup (tCons ta tNil) σ H Q := h
theorem te_fn1 {σ : L2.St} {Q : VK} {sp : Sp} (h : ta σ H fun x H1 => sp [x] H1 Q E0) : tFn sp (tCons ta tNil) σ H Q := h
abbrev aOrder : A1 := fun a H Q => ∃ m : Nat, a = vN m ∧ m ≤ 5 ∧ ∀ p H2 xs, H p = none → Ex H H2 → H2 p = some (.tup xs) → xs.length = 8 * m → Q (.ref p) H2
theorem ok_order (T : Tx K mg) : Pr P w K mg base 1 "order_of_sevens" (Sp1 aOrder) := by
  refine pr1 T.d_order_of_sevens T.g_order_of_sevens sc_order_of_sevens (fun _ _ _ _ _ _ us hl => match us, hl with | [_], _ => rfl) fun a H Q h cdv A outer s E hr hu => ?_
  obtain ⟨m, rfl, hm, q⟩ := h
  refine ⟨_, (pss_cons (ps_set (i := 1) sc_order_of_sevens.nd rfl (.inl rfl) (pe_lst pa_nil))
      (pss_cons (ps_for PassesOwn.never rfl (pi_range1 (by rfl) T.b_range (pa_cons (pv 0) pa_nil)) (pg_name (i := 2) sc_order_of_sevens.nd rfl (.inl rfl)) (pss_cons (ps_set (i := 3) sc_order_of_sevens.nd rfl (.inr rfl) (pe_op op_sub (pe_op op_sub (pv 0) pe_int) (pv 2)))
      (pss_cons (ps_expr (pe_appK (K := K) rfl (pv 1) (pa_cons (pe_ix (ixLK (K := K) rfl) (pe_lst (pa_cons (pe_op op_sub pe_int pe_int) (pa_cons (pe_op op_sub pe_int pe_int) pa_nil))) (pe_callTy call_int1 (by rfl) T.b_int (by decide +kernel) (pa_cons (pe_cmpR op_gt (pv 3) pe_int (by rfl)) pa_nil)) (fun _ _ => rfl)) pa_nil)))
      (pss_one (ps_aug (i := 1) sc_order_of_sevens.nd rfl (.inl rfl) (pe_lc (own := [("place", 4)]) rfl sc_order_of_sevens.nd (pi_range1 (by rfl) T.b_range (pa_cons pe_int pa_nil)) (blkOk_by (N := ["many", "order", "part", "left", "place"]) (sc := defScope s_order_of_sevens) (by decide +kernel)) (fun _ _ _ _ _ => (pg_name (i := 4) sc_order_of_sevens.nd rfl (Or.inl rfl))) (fun _ _ _ _ _ => pts_nil) (fun _ _ _ _ _ => (pe_op op_sub (pe_op op_add (pe_op op_mul pe_int (pv 3)) pe_int) (pv 4)))) iop_ext)))))
      (pss_one (ps_ret (pe_callTy (tupK (K := K) rfl) (by rfl) T.b_tuple (by decide +kernel) (pa_cons (pv 1) pa_nil)))))), ?_⟩
  refine q_asgL (el_lst ea_nil (by decide)) fun p H1 hp e1 h1 => ?_
  refine q_forR1 (n := (m : Int)) (ea_cons (ev_var rfl) ea_nil) (by omega) (fun i σ' H' => ∃ z y xs, σ' = [some (vN m), some (.ref p), z, y, none] ∧ Ex H H' ∧ H' p = some (.lst xs) ∧ xs.length = 8 * i) (fun H2 e2 => ⟨none, none, [], rfl, e1.trans e2, e2 _ _ h1, rfl⟩) ?_ ?_
  · rintro i σ' H' hi ⟨z, y, xs, rfl, e2, h2, hl⟩
    refine q_asg (v := .int ((m : Int) - 1 - i)) (ev_op (ev_op (ev_var rfl) ev_c rv_I0) (ev_var rfl) rv_I0) fun H2 e3 => ?_
    refine q_app (xs := xs) (v := if 0 < (m : Int) - 1 - i then .int (0 - 2) else .int (0 - 1)) (e3 _ _ h2) (ev_var rfl) (ev_opL1 (xs := [.int (0 - 1), .int (0 - 2)]) (el_lst (ea_cons (ev_op ev_c ev_c rv_I0) (ea_cons (ev_op ev_c ev_c rv_I0) ea_nil)) (by decide)) (fun H3 _ => ev_int1b (b := decide (0 < (m : Int) - 1 - i)) (ev_op (ev_var rfl) ev_c rv_I0)) fun p3 H3 h3 _ => ?_) (by rw [hl]; omega) fun H3 e4 => ?_
    · by_cases c : 0 < (m : Int) - 1 - i
      · rw [decide_eq_true c, if_pos c]
        exact rv_ixL (sq_of h3) (atI_nat (j := 1) rfl)
      · rw [decide_eq_false c, if_neg c]
        exact rv_ixL (sq_of h3) (atI_nat (j := 0) rfl)
    · generalize hv : (if 0 < (m : Int) - 1 - i then V.int (0 - 2) else V.int (0 - 1)) = v
      have e5 : Ex H (upd H3 p (.lst (xs ++ [v]))) := Ex.mut ((e2.trans e3).trans e4) hp
      refine ⟨.ref p, rfl, el_lcR1 (n := 7) (fun _ => true) (fun j => .int (7 * ((m : Int) - 1 - i) + 6 - j)) (ea_cons ev_c ea_nil) (by decide) (fun _ => rfl) (fun _ _ _ _ => et_yes) (fun j H4 _ _ _ => ev_op (ev_op (ev_op ev_c (ev_var (i := 3) rfl) (rv_I (show CMul _ _ from .inl (by decide)))) ev_c rv_I0) (ev_var (i := 4) rfl) rv_I0) _ (Ex.refl _) _ fun p4 H4 hp4 e6 h4 => ⟨p, p4, _, _, rfl, rfl, e6 _ _ upd_same, h4, ?_, ?_⟩⟩
      · rw [given_all, List.length_append, hl]
        exact sz_of (by simp; omega)
      · refine ⟨_, _, _, rfl, Ex.mut (e5.trans e6) hp, upd_same, ?_⟩
        rw [List.length_append, List.length_append, given_all, hl]
        simp
        omega
  · rintro σ' H' ⟨z, y, xs, rfl, e2, h2, hl⟩
    refine (ev_var (i := 1) (v := .ref p) (H := H') rfl) H' (Ex.refl _) _ fun H3 e3 => ⟨p, xs, rfl, .inl ⟨sq_of (e3 _ _ h2), fun l hl2 => q l _ xs ?_ ?_ upd_same hl⟩⟩
    · exact fresh_back (e2.trans e3) hl2
    · exact (e2.trans e3).trans (Ex.new hl2)
/-- a way of a seven, in m bytes -/
def WayAt (K : PySem.W.Frag) (H : Hp) (m : Nat) (x : V) : Prop := ∃ q t n o ys, x = .ref q ∧ H q = some (.tup [n, .ref t, o]) ∧ H t = some (.tup ys) ∧ ys.length = 8 * m
theorem WayAt.mono {m : Nat} {x : V} (e : Ex H H') (h : WayAt K H m x) : WayAt K H' m x := let ⟨q, t, n, o, ys, a, b, c, d⟩ := h; ⟨q, t, n, o, ys, a, e _ _ b, e _ _ c, d⟩
theorem All2.imp {α β : Type} {R S : α → β → Prop} (h : ∀ a b, R a b → S a b) : ∀ {xs : List α} {ys : List β}, All2 R xs ys → All2 S xs ys
  | _, _, .nil => .nil
  | _, _, .cons a t => .cons (h _ _ a) (All2.imp h t)
theorem All2.snoc {α β : Type} {R : α → β → Prop} {a : α} {b : β} (h : R a b) : ∀ {xs : List α} {ys : List β}, All2 R xs ys → All2 R (xs ++ [a]) (ys ++ [b])
  | _, _, .nil => .cons h .nil
  | _, _, .cons c t => .cons c (All2.snoc h t)
theorem All2.len {α β : Type} {R : α → β → Prop} : ∀ {xs : List α} {ys : List β}, All2 R xs ys → xs.length = ys.length
  | _, _, .nil => rfl
  | _, _, .cons _ t => congrArg (· + 1) (All2.len t)
theorem All2.get {α β : Type} {R : α → β → Prop} {b : β} {xs : List α} {ys : List β} (h : All2 R xs ys) : ∀ {i : Nat}, ys[i]? = some b → ∃ a, xs[i]? = some a ∧ R a b := by
  induction h with
  | nil => intro i e; simp at e
  | cons hab t ih =>
    intro i e
    cases i with
    | zero => cases e; exact ⟨_, rfl, hab⟩
    | succ i => exact ih e
/-- the ways of the first i numbers of bytes -/
def waysTo (hi : Int) (loose : Bool) (i : Nat) : List Nat := ((List.range i).map fun i => i + 1).filter fun m => decide (sevLow m loose ≤ sevMost hi m)
theorem waysTo_succ (hi : Int) (loose : Bool) (i : Nat) : waysTo hi loose (i + 1) = waysTo hi loose i ++ (if sevLow (i + 1) loose ≤ sevMost hi (i + 1) then [i + 1] else []) := by
  unfold waysTo
  rw [List.range_succ, List.map_append, List.filter_append]
  show _ ++ List.filter _ [i + 1] = _
  rw [List.filter_cons]
  by_cases c : sevLow (i + 1) loose ≤ sevMost hi (i + 1)
  · rw [if_pos c, if_pos (decide_eq_true c)]
    rfl
  · rw [if_neg c, if_neg (by rw [decide_eq_false c]; decide)]
    rfl
abbrev aSevens (K : PySem.W.Frag) : A2 := fun a b H Q => ∃ (hi : Int) (loose : Bool), a = .int hi ∧ b = .bl loose ∧ ∀ p H2 xs, H p = none → Ex H H2 → H2 p = some (.lst xs) → All2 (WayAt K H2) (sevWays hi loose) xs → Q (.ref p) H2
theorem str_small {i : Nat} (h : i ≤ 40) : (toString (i : Int) : Str).length ≤ 2 := by
  have : ∀ i : Fin 41, (toString ((i.val : Nat) : Int) : Str).length ≤ 2 := by decide +kernel
  exact this ⟨i, by omega⟩
theorem ok_sevens (T : Tx K mg) : Pr P w K mg base 2 "sevens" (Sp2 (aSevens K)) := by
  have G_order_of_sevens := ok_order (P := P) (w := w) (base := base) T
  refine pr2 T.d_sevens T.g_sevens sc_sevens (fun _ _ _ _ _ _ us hl => match us, hl with | [_, _], _ => rfl) fun a b H Q h cdv A outer s E hr hu => ?_
  obtain ⟨hi, loose, rfl, rfl, q⟩ := h
  refine ⟨_, (pss_cons (ps_set (i := 2) sc_sevens.nd rfl (.inl rfl) (pe_lst pa_nil))
      (pss_cons (ps_for PassesOwn.never rfl (pi_range2 (by rfl) T.b_range (pa_cons pe_int (pa_cons (pe_op op_add pe_int (pe_callTy call_int1 (by rfl) T.b_int (by decide +kernel) (pa_cons (pv 1) pa_nil))) pa_nil))) (pg_name (i := 3) sc_sevens.nd rfl (.inl rfl)) (pss_cons (ps_set (i := 4) sc_sevens.nd rfl (.inl rfl) pe_int)
      (pss_cons (ps_if (PW.pt (pw_and (pt_cmpR op_gt (pv 3) pe_int (by rfl)) (pw_and1 (pt_not (pt_val (pv 1)))))) (pss_one (ps_set (i := 4) sc_sevens.nd rfl (.inl rfl) (pe_op op_shlW pe_int (pe_op op_sub (pe_op op_mul pe_int (pv 3)) pe_int)))) pss_nil)
      (pss_cons (ps_set (i := 5) sc_sevens.nd rfl (.inl rfl) (pe_callB (call_min2 rfl) (by rfl) T.b_min (by decide +kernel) (pa_cons (pv 0) (pa_cons (pe_op op_sub (pe_op op_shlW pe_int (pe_op op_mul pe_int (pv 3))) pe_int) pa_nil))))
      (pss_one (ps_if (pt_cmpR op_le (pv 4) (pv 5) (by rfl)) (pss_one (ps_expr (pe_appK (K := K) rfl (pv 2) (pa_cons (pe_tup (pa_cons (pe_op op_add_str pe_str (pe_callTy call_str_int (by rfl) T.b_str (by decide +kernel) (pa_cons (pv 3) pa_nil))) (pa_cons (pe_fn G_order_of_sevens (hr.mono (by omega)) (by rfl) (pa_cons (pv 3) pa_nil)) (pa_cons (pe_tup (pa_cons (pe_tup (pa_cons (pv 4) (pa_cons (pv 5) pa_nil))) pa_nil)) pa_nil)))) pa_nil)))) pss_nil))))))
      (pss_one (ps_ret (pv 2))))), ?_⟩
  refine q_asgL (el_lst ea_nil (by decide)) fun p H1 hp e1 h1 => ?_
  refine q_forR2 (lo := 1) (n := 5 + (if loose then 1 else 0)) (ea_cons ev_c (ea_cons (ev_op ev_c (ev_int1b (ev_var rfl)) rv_I0) ea_nil)) (by cases loose <;> decide) (fun i σ' H' => ∃ x y z xs, σ' = [some (.int hi), some (.bl loose), some (.ref p), x, y, z] ∧ Ex H H' ∧ H' p = some (.lst xs) ∧ All2 (WayAt K H') (waysTo hi loose i) xs ∧ ∀ x ∈ xs, x ≠ .ref p) (fun H2 e2 => ⟨none, none, none, [], rfl, e1.trans e2, e2 _ _ h1, .nil, fun _ h => nomatch h⟩) ?_ ?_
  · rintro i σ' H' hi2 ⟨x, y, z, xs, rfl, e2, h2, hw, hne⟩
    have hi3 : i < 5 := by cases loose <;> simp at hi2 <;> omega
    have em : (1 : Int) + (i : Int) = ((i + 1 : Nat) : Int) := by omega
    rw [em]
    refine q_asg ev_c fun H2 e3 => ?_
    refine q_ifAsg (b := decide (1 < i + 1) && !loose) (v := .int (sevLow (i + 1) loose)) (et_and (et_is (et_test (ev_op (ev_var rfl) ev_c rv_I0)) (by rw [decide_eq_decide]; omega)) fun _ => et_not (et_test (ev_var rfl))) (fun hb => ?_) (fun hb => ?_) fun H3 e4 => ?_
    · rw [Bool.and_eq_true, Bool.not_eq_true', decide_eq_true_iff] at hb
      unfold sevLow
      rw [if_pos hb]
      refine ev_is (ev_op ev_c (ev_is (ev_op (ev_op ev_c (ev_var rfl) (rv_I (show CMul _ _ from .inl (by decide)))) ev_c rv_I0) (show V.int (7 * ((i + 1 : Nat) : Int) - 7) = vN (7 * (i + 1) - 7) from congrArg V.int (by omega))) (rv_shlN (i := 1) (n := 1) (by decide) (by omega))) ?_
      rw [Nat.shiftLeft_eq, Nat.one_mul]
    · have hl : sevLow (i + 1) loose = 0 := by
        unfold sevLow
        rw [if_neg]
        rintro ⟨h1, h2⟩
        rw [h2, decide_eq_true h1] at hb
        exact absurd hb (by decide)
      rw [hl]
      rfl
    · refine q_asg (v := .int (sevMost hi (i + 1))) (ev_cb (ea_cons (ev_var rfl) (ea_cons (ev_is (ev_op (ev_op ev_c (ev_is (ev_op ev_c (ev_var rfl) (rv_I (show CMul _ _ from .inl (by decide)))) (show V.int (7 * ((i + 1 : Nat) : Int)) = vN (7 * (i + 1)) from congrArg V.int (by omega))) (rv_shlN (i := 1) (n := 1) (by decide) (by omega))) ev_c rv_I0) (show V.int (((1 <<< (7 * (i + 1)) : Nat) : Int) - 1) = V.int (((2 ^ (7 * (i + 1)) : Nat) : Int) - 1) by rw [Nat.shiftLeft_eq, Nat.one_mul])) ea_nil)) fun H5 _ Q5 q5 => ⟨hi, _, rfl, q5 H5 (Ex.refl _)⟩) fun H4 e5 => ?_
      have eA := ((e2.trans e3).trans e4).trans e5
      have hA := e5 _ _ (e4 _ _ (e3 _ _ h2))
      refine s_when (b := decide (sevLow (i + 1) loose ≤ sevMost hi (i + 1))) (et_test (ev_op (ev_var rfl) (ev_var rfl) rv_I0)) (fun hc H5 e6 => ?_) fun hc H5 e6 => ?_
      · refine s_appX (e6 _ _ hA) (ev_var rfl) fun Hz ez => te_tup3 ?_
        have ht : Ev (tOp (fun x y H Q => ∃ i j, x = .str i ∧ y = .str j ∧ i.length + j.length ≤ sizeLine ∧ Q (.str (i ++ j)) H) (tC (.str "seven ")) (tCB (fun xs H Q => ∃ i, xs = [.int i] ∧ i.natAbs.log2 < 1920 ∧ Q (.str (toString i)) H) (tCons (tVar 3) tNil))) [some (.int hi), some (.bl loose), some (.ref p), some (vN (i + 1)), some (.int (sevLow (i + 1) loose)), some (.int (sevMost hi (i + 1)))] H5 (.str ("seven " ++ toString ((i + 1 : Nat) : Int))) :=
          ev_op ev_c (ev_cb (ea_cons (ev_var rfl) ea_nil) (fun H6 _ Q6 q6 => ⟨((i + 1 : Nat) : Int), rfl, by rw [Int.natAbs_natCast]; have : (i + 1).log2 ≤ i + 1 := Nat.log2_le_self _; omega, q6 H6 (Ex.refl _)⟩)) (rv_val fun H6 _ Q6 q6 => ⟨_, _, rfl, rfl, sz_of (by have := str_small (i := i + 1) (by omega); have l6 : ("seven " : Str).length = 6 := rfl; omega), q6⟩)
        refine ht Hz ez _ fun H6 e7 => te_fn1 ?_
        replace e7 := ez.trans e7
        refine (ev_var (i := 3) (v := vN (i + 1)) (H := H6) rfl) H6 (Ex.refl _) _ fun H7 e8 => ⟨_, rfl, i + 1, rfl, by omega, fun t H8 ys ht2 e9 h9 hl9 => te_tup1 ?_⟩
        refine (eu_tup (ea_cons (ev_var (i := 4) rfl) (ea_cons (ev_var (i := 5) rfl) ea_nil)) (by simp) : EvU _ _ H8 [.int (sevLow (i + 1) loose), .int (sevMost hi (i + 1))]) H8 (Ex.refl _) _ fun p9 H9 _ e10 _ => ?_
        refine ⟨sz_of (by simp), fun p10 hp10 => ⟨sz_of (by simp), fun p11 hp11 => ?_⟩⟩
        have eB := (((((eA.trans e6).trans e7).trans e8).trans e9).trans e10).trans (Ex.new hp10 (o := .tup [.ref p9]))
        have eC := eB.trans (Ex.new hp11 (o := .tup [.str ("seven " ++ toString ((i + 1 : Nat) : Int)), .ref t, .ref p10]))
        have eT := (e10.trans (Ex.new hp10 (o := .tup [.ref p9]))).trans (Ex.new hp11 (o := .tup [.str ("seven " ++ toString ((i + 1 : Nat) : Int)), .ref t, .ref p10]))
        have eW := ((((((((e3.trans e4).trans e5).trans e6).trans e7).trans e8).trans e9).trans eT))
        have hP := eW _ _ h2
        have hne2 : p11 ≠ p := fun z => by
          have := ((((((((e3.trans e4).trans e5).trans e6).trans e7).trans e8).trans e9).trans e10).trans (Ex.new hp10 (o := .tup [.ref p9]))) _ _ h2
          rw [z, this] at hp11
          cases hp11
        have hnt : t ≠ p := fun z => by
          have := (((((e3.trans e4).trans e5).trans e6).trans e7).trans e8) _ _ h2
          rw [z, this] at ht2
          cases ht2
        refine ⟨p, xs, .ref p11, rfl, rfl, hP, sz_lt (by have := hw.len; have l2 : (waysTo hi loose i).length ≤ i := (by unfold waysTo; exact Nat.le_trans (List.length_filter_le _ _) (by rw [List.length_map, List.length_range]; exact Nat.le_refl _)); omega), ?_⟩
        refine ⟨_, _, _, xs ++ [.ref p11], rfl, Ex.mut eC hp, upd_same, ?_, ?_⟩
        · rw [waysTo_succ, if_pos (of_decide_eq_true hc)]
          refine All2.snoc ⟨p11, t, .str ("seven " ++ toString ((i + 1 : Nat) : Int)), .ref p10, ys, rfl, ?_, ?_, hl9⟩ ?_
          · have : ∀ {ms : List Nat} {zs : List V}, All2 (WayAt K H') ms zs → All2 (WayAt K (upd (upd (upd H9 p10 (.tup [.ref p9])) p11 (.tup [.str ("seven " ++ toString ((i + 1 : Nat) : Int)), .ref t, .ref p10])) p (.lst (xs ++ [.ref p11])))) ms zs := by
              intro ms zs hz
              refine hz.imp fun m x ⟨q1, t1, n1, o1, y1, a, b, c, d⟩ => ⟨q1, t1, n1, o1, y1, a, ?_, ?_, d⟩
              · rw [upd_ne (fun z => by rw [z, h2] at b; cases b)]
                exact eW _ _ b
              · rw [upd_ne (fun z => by rw [z, h2] at c; cases c)]
                exact eW _ _ c
            exact this hw
          · rw [upd_ne hne2, upd_same]
          · rw [upd_ne hnt]
            exact eT _ _ h9
        · intro x hx
          rcases List.mem_append.mp hx with h | h
          · exact hne x h
          · have h : x = .ref p11 := by simpa using h
            rw [h]
            exact fun z => hne2 (V.ref.inj z)
      · refine ⟨_, _, _, xs, rfl, eA.trans e6, e6 _ _ hA, ?_, hne⟩
        rw [waysTo_succ, if_neg (of_decide_eq_false hc), List.append_nil]
        exact hw.imp fun m x h => h.mono (((e3.trans e4).trans e5).trans e6)
  · rintro σ' H' ⟨x, y, z, xs, rfl, e2, h2, hw, _⟩
    refine s_ret (ev_var rfl) fun H3 e4 => q p H3 xs hp (e2.trans e4) (e4 _ _ h2) ?_
    have e : sevWays hi loose = waysTo hi loose ((5 + (if loose then 1 else 0) - 1 : Int)).toNat := by
      unfold sevWays waysTo
      cases loose <;> rfl
    rw [e]
    exact hw.imp fun m x h => h.mono e4
end
end Fk

set_option Elab.async false
set_option linter.all false
set_option maxRecDepth 100000
set_option maxHeartbeats 4000000
set_option exponentiation.threshold 3000
namespace Fk
open PySem PySem.Spec PyProof.Rows L2 Evl
/-! ### lists whose lengths are reckoned -/
structure LWB (F : Fld → Prop) (fs : List Fld) : Prop where
  nd : (fs.map Fld.nm).Nodup
  sz : fs.length ≤ 26
  st : ∀ f ∈ fs, ∀ c lo hi, f.k.bds = some (c, lo, hi) → ∃ g ∈ fs, g.nm = c ∧ g.k.isCtl = true ∧ lo = g.k.least ∧ hi = g.k.greatest
  us : (fs.filterMap fun f => f.k.st).Nodup
  fw : ∀ f ∈ fs, F f
def LW : Nat → List Fld → Prop
  | 0 => fun _ => False
  | n + 1 => LWB (FW n)
theorem WD.lw {n : Nat} {fs : List Fld} (h : WD n fs) : LW n fs := by
  cases n with
  | zero => exact h.elim
  | succ n => exact ⟨h.nd, h.sz, h.st, h.us, h.fw⟩
theorem filterMap_inj {α β : Type} {g : α → Option β} {xs : List α} {c : β} (h : (xs.filterMap g).Nodup) {a b : α} (ha : a ∈ xs) (hb : b ∈ xs) (ea : g a = some c) (eb : g b = some c) : a = b := by
  induction xs with
  | nil => cases ha
  | cons x r ih =>
    rcases List.mem_cons.mp ha with q1 | q1
    · rcases List.mem_cons.mp hb with q2 | q2
      · rw [q1, q2]
      · subst q1
        rw [List.filterMap_cons_some ea, List.nodup_cons] at h
        exact absurd (List.mem_filterMap.mpr ⟨b, q2, eb⟩) h.1
    · rcases List.mem_cons.mp hb with q2 | q2
      · subst q2
        rw [List.filterMap_cons_some eb, List.nodup_cons] at h
        exact absurd (List.mem_filterMap.mpr ⟨a, q1, ea⟩) h.1
      · refine ih ?_ q1 q2
        cases e : g x with
        | none => rwa [List.filterMap_cons_none e] at h
        | some y =>
          rw [List.filterMap_cons_some e, List.nodup_cons] at h
          exact h.2
theorem FW.num {n : Nat} {g : Fld} (h : FW n g) (hc : g.k.isCtl = true) : IsNum g := by
  obtain ⟨p, nm, k, l, ss⟩ := g
  cases k with
  | num w sg lt lo hi df c => exact ⟨w, sg, lt, lo, hi, df, c, rfl, h.1, h.2.1⟩
  | _ => cases hc
theorem unionM_lt {s : List Nat} (h : ∀ m ∈ s, m < 2 ^ 2041) : unionM s < 2 ^ 2041 := union_lt (Nat.two_pow_pos _) h
theorem or_lt {a b : Nat} (ha : a < 2 ^ 2041) (hb : b < 2 ^ 2041) : a ||| b < 2 ^ 2041 := Nat.or_lt_two_pow ha hb
theorem pow_lt {a : Nat} (h : a ≤ 2040) : 2 ^ a < 2 ^ 2041 := Nat.pow_lt_pow_right (by decide) (by omega)
theorem getD_lt {l : List Nat} {i b : Nat} (h : ∀ x ∈ l, x < b) (hb : 0 < b) : l.getD i 0 < b := by
  rw [List.getD_eq_getElem?_getD]
  cases e : l[i]? with
  | none => exact hb
  | some y => exact h y (List.mem_of_getElem? e)
theorem sevM_lt (hi : Int) (loose : Bool) : sevM hi loose < 2 ^ 2041 := by
  have h5 : ∀ (l : List Nat), (∀ m ∈ l, m ≤ 5) → l.length ≤ 5 → (l.map fun m => 2 ^ (8 * m)).sum ≤ l.length * 2 ^ 40 := by
    intro l
    induction l with
    | nil => intro _ _; exact Nat.le_refl 0
    | cons a r ih =>
      intro h1 h2
      rw [List.length_cons] at h2
      have := ih (fun m hm => h1 m (List.mem_cons_of_mem _ hm)) (by omega)
      have ha := h1 a (List.mem_cons_self ..)
      have hp : 2 ^ (8 * a) ≤ 2 ^ 40 := Nat.pow_le_pow_right (by decide) (by omega)
      rw [List.map_cons, List.sum_cons, List.length_cons, Nat.add_mul]
      omega
  have hm : ∀ m ∈ sevWays hi loose, m ≤ 5 := by
    intro m h
    obtain ⟨i, h2, rfl⟩ := List.mem_map.mp (List.mem_filter.mp h).1
    have := List.mem_range.mp h2
    cases loose <;> simp at this <;> omega
  have hl : (sevWays hi loose).length ≤ 5 := by
    refine Nat.le_trans (List.length_filter_le _ _) ?_
    rw [List.length_map, List.length_range]
    cases loose <;> decide
  have := h5 _ hm hl
  have h40 : 5 * 2 ^ 40 < 2 ^ 2041 := by decide +kernel
  have : (sevWays hi loose).length * 2 ^ 40 ≤ 5 * 2 ^ 40 := Nat.mul_le_mul_right _ hl
  unfold sevM
  omega
theorem rangeI_bd {n : Nat} {x : Int} (h : x ∈ rangeI n) : 0 ≤ x ∧ x < n := by
  obtain ⟨i, h2, rfl⟩ := List.mem_map.mp h
  have := List.mem_range.mp h2
  omega
theorem letM_bd {n : Nat} {f : Fld} {x : Int} (hf : FW n f) (h : x ∈ letM n f) : 0 ≤ x ∧ x ≤ 255 ∧ (f.k.word = "row" → x ≤ 40) ∧ (f.k.word = "text" → x ≤ 60) := by
  obtain ⟨p, nm, k, l, ss⟩ := f
  have key : ∀ {c lo hi}, k.bds = some (c, lo, hi) → x ∈ possB (LM n) (LE n) ⟨p, nm, k, l, ss⟩ := fun hb => ((mem_letM (f := ⟨p, nm, k, l, ss⟩) hb).mp h).1
  cases k with
  | num => cases h
  | sev => cases h
  | chk => cases h
  | spt => cases h
  | grp => cases h
  | txt hw df =>
    cases hw with
    | by_ c lo hi =>
      have := rangeI_bd (key (c := c) (lo := lo) (hi := hi) rfl)
      exact ⟨by omega, by omega, fun z => absurd (show ("text" : Str) = "row" from z) (by decide +kernel), fun _ => by omega⟩
    | _ => cases h
  | row hw mk =>
    cases hw with
    | by_ c lo hi =>
      have := rangeI_bd (key (c := c) (lo := lo) (hi := hi) rfl)
      exact ⟨by omega, by omega, fun _ => by omega, fun z => absurd (show ("row" : Str) = "text" from z) (by decide +kernel)⟩
    | _ => cases h
  | cho c lo hi =>
    have := mem_sortI.mp (key (c := c) (lo := lo) (hi := hi) rfl)
    obtain ⟨s, hs, rfl⟩ := List.mem_map.mp this
    have h2 := hf.2.2.2 s hs
    exact ⟨h2.1, h2.2.1, fun z => absurd (show ("choice" : Str) = "row" from z) (by decide +kernel), fun z => absurd (show ("choice" : Str) = "text" from z) (by decide +kernel)⟩
  | may c lo hi =>
    have := key (c := c) (lo := lo) (hi := hi) rfl
    have t : x ∈ ([0, 1] : List Int) := this
    have : x = 0 ∨ x = 1 := by simpa using t
    exact ⟨by omega, by omega, fun z => absurd (show ("maybe" : Str) = "row" from z) (by decide +kernel), fun z => absurd (show ("maybe" : Str) = "text" from z) (by decide +kernel)⟩
  | siz c lo hi gr =>
    have := key (c := c) (lo := lo) (hi := hi) rfl
    obtain ⟨i, hi2, rfl⟩ := List.mem_map.mp this
    have := wholeM_le hi2
    exact ⟨by omega, by omega, fun z => absurd (show ("sized" : Str) = "row" from z) (by decide +kernel), fun z => absurd (show ("sized" : Str) = "text" from z) (by decide +kernel)⟩
theorem lenM_lt {n : Nat} {f : Fld} (hf : FW n f) : lenM n f < 2 ^ 2041 := by
  have hbd := @letM_bd n f
  obtain ⟨p, nm, k, l, ss⟩ := f
  cases k with
  | num w sg lt lo hi df c => exact pow_lt (by have := hf.2.1; omega)
  | sev hi loose df => exact sevM_lt hi loose
  | chk how w fi => exact pow_lt (by have := hf.2; omega)
  | spt w tg => exact pow_lt (by have := hf.2; omega)
  | grp => exact LM_lt _ _
  | txt hw df =>
    cases hw with
    | fix m => exact pow_lt (by have : m ≤ 60 := hf.1; omega)
    | by_ c lo hi =>
      refine unionM_lt fun m hm => ?_
      obtain ⟨x, hx, rfl⟩ := List.mem_map.mp hm
      have := hbd hf hx
      exact pow_lt (by omega)
    | end_ m =>
      refine unionM_lt fun m hm => ?_
      obtain ⟨x, hx, rfl⟩ := List.mem_map.mp hm
      have := List.mem_range.mp hx
      have h2 := hf.1
      exact pow_lt (by omega)
  | row hw mk =>
    cases hw with
    | fix m => exact getD_lt (timesM_lt _ _) (Nat.two_pow_pos _)
    | by_ c lo hi =>
      refine unionM_lt fun m hm => ?_
      obtain ⟨x, hx, rfl⟩ := List.mem_map.mp hm
      exact getD_lt (timesM_lt _ _) (Nat.two_pow_pos _)
    | end_ m => exact cutM_lt _
  | cho c lo hi =>
    refine unionM_lt fun m hm => ?_
    obtain ⟨x, hx, rfl⟩ := List.mem_map.mp hm
    exact LM_lt _ _
  | may c lo hi =>
    refine or_lt ?_ ?_
    · split
      · exact pow_lt (a := 0) (by decide)
      · exact Nat.two_pow_pos _
    · split
      · exact LM_lt _ _
      · exact Nat.two_pow_pos _
  | siz c lo hi gr => exact cutM_lt _
theorem growM_lt (E : Fld → Nat) : ∀ (fs : List Fld) (m f : Nat), m < 2 ^ 2041 → f < 2 ^ 2041 → (growM E fs m f).1 < 2 ^ 2041 ∧ (growM E fs m f).2 < 2 ^ 2041
  | [], _, _, h1, h2 => ⟨h1, h2⟩
  | g :: r, m, f, h1, h2 => growM_lt E r _ _ (sumM_lt _ _) (or_lt h2 (sumM_lt _ _))
theorem innerB_lt (n : Nat) (E : Fld → Nat) (gr : Bool) (fs : List Fld) : innerB (LM n) E gr fs < 2 ^ 2041 := by
  unfold innerB
  split
  · exact or_lt (growM_lt E _ _ _ (LM_lt _ _) (LM_lt _ _)).2 (behindM_lt _)
  · exact LM_lt _ _
theorem FAtB.one {K : PySem.W.Frag} {H : Hp} {L : Addr → List Fld → Prop} {f : Fld} (h : FAtB K H L f) (ho : f.k.one = true) : L f.l f.fs := by
  obtain ⟨fs, e⟩ := h.sh.1 ho
  have e2 : f.fs = fs := by
    unfold Fld.fs
    rw [e]
  have := h.sub (0, 0, f.l, fs) (by rw [e]; exact List.mem_singleton_self _)
  rw [e2]
  exact this
theorem FAtB.cases {K : PySem.W.Frag} {H : Hp} {L : Addr → List Fld → Prop} {f : Fld} {c : Str} {lo hi : Int} (h : FAtB K H L f) (hk : f.k = .cho c lo hi) : CaseAt K H f :=
  let ⟨h1, h2⟩ := h.cs (by rw [hk]; rfl) (by rw [hk]; rfl)
  ⟨sq_of h1, fun s hs => st_of (h2 s hs)⟩
theorem LAt.ob {K : PySem.W.Frag} {H : Hp} {n : Nat} {l : Addr} {fs : List Fld} (h : LAt K H n l fs) : ∀ f ∈ fs, Ob K H f := by
  cases n with
  | zero => exact h.elim
  | succ n => exact fun f hf => (h.2 f hf).ob
section
variable {P : Program} {w : World} {K : PySem.W.Frag} {mg : Str → Option Value} {base : Heap} {σ : L2.St} {H H' : Hp} {te ta tb tc : TE} {tu tz : TS} {D : Ends} {f : Fld} {n : Nat}
/-! ### tests of kinds -/
theorem ev_kindW {s : Str} (h : Ev ta σ H f.v) (ho : Ob K H f) (hw : f.k.word = s) : Ev (tMU (spKind K) ta) σ H (.str s) := hw ▸ ev_kind h ho
theorem sv_skip {a b : Str} (h : Ev te σ H (.str a)) (hab : a ≠ b) (k : SV tz D σ H) : SV (tSeq (tIfS (tTest (tOp rEq te (tC (.str b)))) tu tNext) tz) D σ H :=
  sv_when (b := false) (et_test (ev_is (ev_op h ev_c (rv_eq rfl)) (congrArg V.bl (decide_eq_false fun z => hab (V.str.inj z))))) (fun e => nomatch e) fun _ => k
theorem sv_take {a b : Str} (h : Ev te σ H (.str a)) (hab : a = b) (k : SV tu { D with nx := tz D } σ H) : SV (tSeq (tIfS (tTest (tOp rEq te (tC (.str b)))) tu tNext) tz) D σ H :=
  sv_when (b := true) (et_test (ev_is (ev_op h ev_c (rv_eq rfl)) (congrArg V.bl (decide_eq_true (congrArg V.str hab))))) (fun _ => k) fun e => nomatch e
theorem et_in {x : V} {xs : List V} {b : Bool} {tr : TA} (h : Ev ta σ H x) (ha : EvA tr σ H xs) (hl : xs.length ≤ 100000) (hx : flatV x = true) (hf : xs.all flatV = true) (hb : inV x xs = b) : EvT (tTest (tOp (rIn K false) ta (tTup tr))) σ H b :=
  et_test (ev_is (ev_inU h (eu_tup ha hl) hx hf) (congrArg V.bl hb))
theorem sv_skipT {tt : TT} (h : EvT tt σ H false) (k : SV tz D σ H) : SV (tSeq (tIfS tt tu tNext) tz) D σ H := sv_when h (fun e => nomatch e) fun _ => k
theorem sv_takeT {tt : TT} (h : EvT tt σ H true) (k : SV tu { D with nx := tz D } σ H) : SV (tSeq (tIfS tt tu tNext) tz) D σ H := sv_when h (fun _ => k) fun e => nomatch e
theorem ev_shl8 {c : Nat} (h : Ev ta σ H (vN c)) (hc : c ≤ 1000) : Ev (tOp (rI CShl fun i j => .int (i * 2 ^ j.toNat)) (tC (.int 1)) ta) σ H (vN (2 ^ c)) :=
  ev_is (ev_op ev_c h (rv_shlN (i := 1) (n := 1) (by decide) (by omega))) (by rw [Nat.shiftLeft_eq, Nat.one_mul])
theorem ev_mul8 {c : Nat} (h : Ev ta σ H (vN c)) : Ev (tOp (rI CMul fun i j => .int (i * j)) (tC (.int 8)) ta) σ H (vN (8 * c)) :=
  ev_is (ev_op ev_c h (rv_I (show CMul _ _ from .inl (by decide)))) (congrArg V.int (by push_cast; rfl))
theorem ev_orN {a b : Nat} (ha : Ev ta σ H (vN a)) (hb : Ev tb σ H (vN b)) : Ev (tOp (rI0 fun i j => .int (Builtin.bitOr i j)) ta tb) σ H (vN (a ||| b)) := ev_is (ev_op ha hb rv_I0) (congrArg V.int (or_nat a b))
theorem unionM_snoc (s : List Nat) (m : Nat) : unionM (s ++ [m]) = unionM s ||| m := by
  unfold unionM
  rw [List.foldl_append]
  rfl
theorem unionM_take {α : Type} {s : List α} {g : α → Nat} {i : Nat} {x : α} (h : s[i]? = some x) : unionM ((s.take (i + 1)).map g) = unionM ((s.take i).map g) ||| g x := by
  rw [List.take_add_one, h, List.map_append]
  exact unionM_snoc _ _
/-! ### inner_lengths -/
abbrev aLL (K : PySem.W.Frag) (n : Nat) : A1 := fun a H Q => ∃ l fs, a = .ref l ∧ LAt K H n l fs ∧ LW n fs ∧ RetV (vN (LM n fs)) H Q
abbrev aLen (K : PySem.W.Frag) (n : Nat) : A2 := fun a b H Q => ∃ f : Fld, a = f.v ∧ FAt K H n f ∧ FW n f ∧ (f.k.bds ≠ none → ∃ l, b = .ref l ∧ H l = some (.lst ((letM n f).map V.int))) ∧ RetV (vN (lenM n f)) H Q
theorem ev_LL {l : Addr} {fs : List Fld} (h : Ev ta σ H (.ref l)) (hA : LAt K H n l fs) (hW : LW n fs) : Ev (tFn (Sp1 (aLL K n)) (tCons ta tNil)) σ H (vN (LM n fs)) :=
  ev_fn (ea_cons h ea_nil) fun H1 e Q q E => ⟨_, rfl, l, fs, rfl, hA.mono e, hW, q⟩
theorem ev_len0 {v : V} (ha : Ev ta σ H f.v) (hb : Ev tb σ H v) (hA : FAt K H n f) (hW : FW n f) (h0 : f.k.bds = none) : Ev (tFn (Sp2 (aLen K n)) (tCons ta (tCons tb tNil))) σ H (vN (lenM n f)) :=
  ev_fn (ea_cons ha (ea_cons hb ea_nil)) fun H1 e Q q E => ⟨_, _, rfl, f, rfl, hA.mono e, hW, fun z => absurd h0 z, q⟩
theorem ev_len1 (ha : Ev ta σ H f.v) (hb : EvL tb σ H ((letM n f).map V.int)) (hA : FAt K H n f) (hW : FW n f) : Ev (tFn (Sp2 (aLen K n)) (tCons ta (tCons tb tNil))) σ H (vN (lenM n f)) := fun H1 e Q q =>
  ha H1 e _ fun H2 e2 => hb H2 (e.trans e2) _ fun p H3 _ e3 h3 => ⟨_, _, rfl, f, rfl, hA.mono ((e.trans e2).trans e3), hW, fun _ => ⟨p, rfl, h3⟩, fun H4 e4 => q H4 ((e2.trans e3).trans e4)⟩
theorem ev_grows (T : Tx K mg) {c : Str} {lo hi : Int} {gr : Bool} (h : Ev ta σ H f.v) (ho : Ob K H f) (hk : f.k = .siz c lo hi gr) : Ev (tFld K ta "grows") σ H (.bl gr) := by
  refine ev_at T h ho ?_
  obtain ⟨p, nm, k, l, ss⟩ := f
  subst hk
  exact ⟨rfl, T.na_Sized_grows⟩
theorem cutV_drop (xs : List V) (i : Nat) (h : i ≤ xs.length) : cutV xs (some (i : Int)) none = xs.drop i := by
  unfold cutV
  have e1 : HT.sIx xs.length 0 (some (i : Int)) = i := by
    unfold HT.sIx
    simp
    rw [if_neg (by omega)]
    omega
  have e2 : HT.sIx xs.length xs.length none = xs.length := rfl
  rw [e1, e2]
  exact List.take_of_length_le (by rw [List.length_drop]; exact Nat.le_refl _)
/-- what grows: its head, what can lack -/
theorem grow_parts {fs : List Fld} {c : Str} {lo hi : Int} (hf : FW n f) (hk : f.k = .siz c lo hi true) : ∃ a b, f.fs = a ++ b ∧ (∀ g ∈ a, g.k.dfl = .non) ∧ (∀ g ∈ b, g.k.dfl ≠ .non) ∧ WD n f.fs := by
  unfold FW FWB at hf
  rw [hk] at hf
  obtain ⟨_, h1, _, h2⟩ := hf
  obtain ⟨a, b, h3, h4, h5, _⟩ := h2 rfl
  exact ⟨a, b, h3, h4, h5, h1⟩
theorem dfl_bds {g : Fld} (hf : FW n g) (h : g.k.dfl ≠ .non) : g.k.bds = none := by
  obtain ⟨p, nm, k, l, ss⟩ := g
  cases k with
  | txt hw df =>
    cases df with
    | none => exact absurd rfl h
    | some s => exact (hf.2 s rfl).2.2
  | row => exact absurd rfl h
  | cho => exact absurd rfl h
  | may => exact absurd rfl h
  | siz => exact absurd rfl h
  | _ => rfl
theorem LW.head {a b : List Fld} (h : WD n (a ++ b)) (hb : ∀ g ∈ b, g.k.dfl ≠ .non) : LW n a := by
  cases n with
  | zero => exact h.elim
  | succ m =>
    refine ⟨?_, ?_, ?_, ?_, fun f hf => h.fw f (List.mem_append_left _ hf)⟩
    · have := h.nd
      rw [List.map_append] at this
      exact (List.nodup_append.mp this).1
    · have := h.sz
      rw [List.length_append] at this
      omega
    · intro f hf c lo hi hbd
      obtain ⟨g, hg, e1, e2, e3⟩ := h.st f (List.mem_append_left _ hf) c lo hi hbd
      rcases List.mem_append.mp hg with q | q
      · exact ⟨g, q, e1, e2, e3⟩
      · exact absurd (h.ct g hg e2).1 (hb g q)
    · have := h.us
      rw [List.filterMap_append] at this
      exact (List.nodup_append.mp this).1
theorem LAt.head {l : Addr} {a b : List Fld} {p : Addr} (h : LAt K H n l (a ++ b)) (hp : H p = some (.lst (a.map Fld.v))) : LAt K H n p a := by
  cases n with
  | zero => exact h.elim
  | succ m => exact ⟨hp, fun f hf => h.2 f (List.mem_append_left _ hf)⟩
abbrev aInner (K : PySem.W.Frag) (n : Nat) : A1 := fun a H Q => ∃ (f : Fld) (c : Str) (lo hi : Int) (gr : Bool), a = f.v ∧ f.k = .siz c lo hi gr ∧ FAt K H n f ∧ FW n f ∧ RetV (vN (innerB (LM n) (LE n) gr f.fs)) H Q
theorem ok_inner (T : Tx K mg) (m : Nat) (hn : n = m + 1) (G_list_lengths : Pr P w K mg base (10 * n + 5) "list_lengths" (Sp1 (aLL K n))) (G_lengths_of : Pr P w K mg base (10 * m + 9) "lengths_of" (Sp2 (aLen K m))) : Pr P w K mg base (10 * n + 6) "inner_lengths" (Sp1 (aInner K n)) := by
  have G_has_default := ok_has_default (P := P) (w := w) (base := base) T
  have G_summed := ok_summed (P := P) (w := w) (base := base) T
  have G_with_bytes_behind := ok_behind (P := P) (w := w) (base := base) T
  refine pr1 T.d_inner_lengths T.g_inner_lengths sc_inner_lengths (fun _ _ _ _ _ _ us hl => match us, hl with | [_], _ => rfl) fun a H Q h cdv A outer s E hr hu => ?_
  obtain ⟨f, c, lo, hi, gr, rfl, hk, hA, hW, q⟩ := h
  refine ⟨_, (pss_cons (ps_if (pt_not (pt_val (fldK (K := K) rfl (pv 0) rfl))) (pss_one (ps_ret (pe_fn G_list_lengths (hr.mono (by omega)) (by rfl) (pa_cons (fldK (K := K) rfl (pv 0) rfl) pa_nil)))) pss_nil)
      (pss_cons (ps_setLc (i := 1) (own := [("one", 4)]) rfl sc_inner_lengths.nd rfl rfl (sw_true rfl rfl rfl (by decide +kernel)) (piLK (K := K) rfl (fldK (K := K) rfl (pv 0) rfl)) (blkOk_by (N := ["field", "head", "mask", "found", "one"]) (sc := defScope s_inner_lengths) (by decide +kernel)) (fun _ _ _ _ _ => (pg_name (i := 4) sc_inner_lengths.nd rfl (Or.inl rfl))) (fun _ _ _ _ _ => (pts_one (pt_not (pt_val (pe_fn G_has_default (hr.mono (by omega)) (by rfl) (pa_cons (pv 4) pa_nil)))))) (fun _ _ _ _ _ => (pv 4)))
      (pss_cons (ps_set (i := 2) sc_inner_lengths.nd rfl (.inl rfl) (pe_fn G_list_lengths (hr.mono (by omega)) (by rfl) (pa_cons (pv 1) pa_nil)))
      (pss_cons (ps_set (i := 3) sc_inner_lengths.nd rfl (.inl rfl) (pv 2))
      (pss_cons (ps_for PassesOwn.never rfl (piLK (K := K) rfl (pe_slice (slLK (K := K) rfl) (fldK (K := K) rfl (pv 0) rfl) (po_some (pe_callB (lenK (K := K) rfl) (by rfl) T.b_len (by decide +kernel) (pa_cons (pv 1) pa_nil))) po_none)) (pg_name (i := 4) sc_inner_lengths.nd rfl (.inl rfl)) (pss_cons (ps_set (i := 2) sc_inner_lengths.nd rfl (.inl rfl) (pe_fn G_summed (hr.mono (by omega)) (by rfl) (pa_cons (pv 2) (pa_cons (pe_fn G_lengths_of (hr.mono (by omega)) (by rfl) (pa_cons (pv 4) (pa_cons pe_non pa_nil))) pa_nil))))
      (pss_one (ps_set (i := 3) sc_inner_lengths.nd rfl (.inl rfl) (pe_op op_or (pv 3) (pv 2))))))
      (pss_one (ps_ret (pe_op op_or (pv 3) (pe_fn G_with_bytes_behind (hr.mono (by omega)) (by rfl) (pa_cons (pv 2) pa_nil)))))))))), ?_⟩
  have hone : f.k.one = true := by rw [hk]; rfl
  have hL := hA.one hone
  have ob := hA.ob
  refine (sv_when (et_not (et_test (ev_grows T (ev_var rfl) ob hk))) (fun e => ?_) (fun e => ?_)).here
  · have e : gr = false := by cases gr <;> first | rfl | cases e
    subst e
    refine sv_ret (ev_LL (ev_fields T (ev_var rfl) ob hone) hL ?_) q
    unfold FW FWB at hW
    rw [hk] at hW
    exact hW.2.1.lw
  · have e : gr = true := by cases gr <;> first | rfl | cases e
    subst e
    obtain ⟨ah, bt, e0, ha, hb, hWD⟩ := grow_parts (fs := f.fs) hW hk
    have hsz : f.fs.length ≤ 26 := by
      subst hn
      exact hWD.sz
    refine sv_asgL (el_is (el_comp (val := Fld.v) (g := Fld.v) (p := fun g => !hasD g) (ev_fields T (ev_var rfl) ob hone) hL.seq (by omega) (fun g hg => et_not (et_test (ev_hasD (ev_var rfl) (hL.ob g hg)))) fun g hg _ => ev_var rfl) (show _ = ah.map Fld.v by rw [e0, filt_split ha hb])) fun p hp => ?_
    have e1 := Ex.new hp (o := .lst (ah.map Fld.v))
    have hL1 := hL.mono e1
    have hH : LAt K (upd H p (.lst (ah.map Fld.v))) n p ah := LAt.head (e0 ▸ hL1) upd_same
    have hWH : LW n ah := LW.head (e0 ▸ hWD) hb
    refine sv_asg (ev_LL (ev_var rfl) hH hWH) (sv_asg (ev_var rfl) ?_)
    have eq1 : innerB (LM n) (LE n) true f.fs = (growM (LE n) bt (LM n ah) (LM n ah)).2 ||| behindM (growM (LE n) bt (LM n ah) (LM n ah)).1 := by
      unfold innerB
      rw [if_pos rfl, e0, filt_split ha hb]
      simp only [List.drop_left']
    refine sv_forNLn (xs := bt.map Fld.v) (el_is (el_sl (ev_fields T (ev_var rfl) (Ob.mono e1 ob) hone) (eo_some (ev_lenV (ev_var rfl) (lenV_lst (sq_of upd_same)))) eo_none hL1.seq) ?_) (fun i σ' => ∃ z, σ' = [some f.v, some (.ref p), some (vN (growM (LE n) (bt.take i) (LM n ah) (LM n ah)).1), some (vN (growM (LE n) (bt.take i) (LM n ah) (LM n ah)).2), z]) ⟨none, rfl⟩ ?_ ?_
    · rw [List.length_map, cutV_drop _ _ (by rw [List.length_map, e0, List.length_append]; omega), e0, List.map_append, List.drop_append_of_le_length (by rw [List.length_map]; exact Nat.le_refl _), List.drop_eq_nil_of_le (by rw [List.length_map]; exact Nat.le_refl _), List.nil_append]
    · rintro p2 hp2 i x σ' hx ⟨z, rfl⟩
      obtain ⟨g, hg, hm, rfl⟩ := map_get hx
      have hgf : g ∈ f.fs := by rw [e0]; exact List.mem_append_right _ hm
      subst hn
      have hgA : FAt K H m g := hL.2 g hgf
      have e2 := e1.trans (Ex.new hp2 (o := .lst (bt.map Fld.v)))
      have hgW : FW m g := hWD.fw g hgf
      have hlt := growM_lt (LE (m + 1)) (bt.take i) _ _ (LM_lt (m + 1) ah) (LM_lt (m + 1) ah)
      have hstep : ∀ (r : List Fld) (a b : Nat), growM (LE (m + 1)) (r ++ [g]) a b = (sumM (growM (LE (m + 1)) r a b).1 (LE (m + 1) g), (growM (LE (m + 1)) r a b).2 ||| sumM (growM (LE (m + 1)) r a b).1 (LE (m + 1) g)) := by
        intro r
        induction r with
        | nil => intro a b; rfl
        | cons y r ih => intro a b; exact ih _ _
      refine sv_asg (ev_summed (ev_var rfl) (ev_len0 (ev_var rfl) ev_c (hgA.mono e2) hgW (dfl_bds hgW (hb g hm))) hlt.1 (lenM_lt hgW)) ?_
      refine sv_asg1 (ev_orN (ev_var rfl) (ev_var rfl)) fun H1 e3 => ⟨⟨some g.v, ?_⟩, e3⟩
      rw [List.take_add_one, hg]
      show _ = [some f.v, some (.ref p), some (vN (growM (LE (m + 1)) (bt.take i ++ [g]) (LM (m + 1) ah) (LM (m + 1) ah)).1), some (vN (growM (LE (m + 1)) (bt.take i ++ [g]) (LM (m + 1) ah) (LM (m + 1) ah)).2), some g.v]
      rw [hstep]
      rfl
    · rintro p2 hp2 σ' ⟨z, rfl⟩
      rw [List.length_map, List.take_length]
      refine sv_ret (ev_is (ev_orN (ev_var rfl) (ev_fn (ea_cons (ev_var rfl) ea_nil) fun H1 e Q q E => ⟨_, rfl, (growM (LE n) bt (LM n ah) (LM n ah)).1, rfl, (growM_lt (LE n) bt _ _ (LM_lt n ah) (LM_lt n ah)).1, q⟩)) ?_) fun H2 e2 => q H2 ((e1.trans (Ex.new hp2)).trans e2)
      rw [eq1]
theorem ev_inner {c : Str} {lo hi : Int} {gr : Bool} (h : Ev ta σ H f.v) (hk : f.k = .siz c lo hi gr) (hA : FAt K H n f) (hW : FW n f) : Ev (tFn (Sp1 (aInner K n)) (tCons ta tNil)) σ H (vN (innerB (LM n) (LE n) gr f.fs)) :=
  ev_fn (ea_cons h ea_nil) fun H1 e Q q E => ⟨_, rfl, f, c, lo, hi, gr, rfl, hk, hA.mono e, hW, q⟩
end
end Fk

set_option Elab.async false
set_option linter.all false
set_option maxRecDepth 100000
set_option maxHeartbeats 4000000
set_option exponentiation.threshold 3000
namespace Fk
open PySem PySem.Spec PyProof.Rows L2 Evl
theorem rg_rangeI (n : Nat) : rgV 0 (n : Int) = (rangeI n).map V.int := by
  unfold rgV rangeI
  rw [List.map_map, show ((n : Int) - 0).toNat = n by omega]
  refine List.map_congr_left fun i _ => ?_
  show V.int (0 + (i : Int)) = V.int (i : Int)
  rw [Int.zero_add]
theorem maxI_le {b : Nat} : ∀ {l : List Int}, (∀ x ∈ l, x.toNat ≤ b) → maxI l ≤ b := by
  have : ∀ (l : List Int) (a : Nat), a ≤ b → (∀ x ∈ l, x.toNat ≤ b) → l.foldl (fun a x => max a x.toNat) a ≤ b := by
    intro l
    induction l with
    | nil => intro a h _; exact h
    | cons x r ih => intro a h h2; exact ih _ (Nat.max_le.mpr ⟨h, h2 x (List.mem_cons_self ..)⟩) fun y hy => h2 y (List.mem_cons_of_mem _ hy)
  exact fun {l} h => this l 0 (Nat.zero_le _) h
theorem maxI_is {l : List Int} {m : Int} (h0 : ∀ x ∈ l, 0 ≤ x) (hm : m ∈ l ++ [0]) (h : ∀ y ∈ l ++ [0], y ≤ m) : m = (maxI l : Int) := by
  have hz := h 0 (List.mem_append_right _ (List.mem_singleton_self _))
  have h1 : maxI l ≤ m.toNat := maxI_le fun x hx => by have := h x (List.mem_append_left _ hx); omega
  rcases List.mem_append.mp hm with q | q
  · have := maxI_ge q
    omega
  · have : m = 0 := by simpa using q
    omega
section
variable {P : Program} {w : World} {K : PySem.W.Frag} {mg : Str → Option Value} {base : Heap} {σ : L2.St} {H H' : Hp} {te ta tb tc tl : TE} {tt : TT} {tu tz : TS} {D : Ends} {f : Fld} {n : Nat}
theorem el_comp2 {α : Type} {a : Addr} {xs : List α} {pa : α → Addr} {v1 v2 g : α → V} {p : α → Bool} {j1 j2 : Nat} (hj : j1 ≠ j2) (h : Ev tl σ H (.ref a)) (hx : SqL K H a (xs.map fun s => V.ref (pa s))) (hp : ∀ x ∈ xs, SqT K H (pa x) [v1 x, v2 x]) (hz : xs.length ≤ 40000)
    (ht : ∀ x ∈ xs, EvT tt (((wipe σ [j1, j2]).set j1 (some (v1 x))).set j2 (some (v2 x))) H (p x)) (he : ∀ x ∈ xs, p x = true → Ev te (((wipe σ [j1, j2]).set j1 (some (v1 x))).set j2 (some (v2 x))) H (g x)) :
    EvL (tLc (iList K tl) (gTup K 2 (gCons (gName j1) (gCons (gName j2) gNil))) tt te [j1, j2]) σ H ((xs.filter p).map g) := fun H0 e Q q => h H0 e _ fun H1 e1 =>
  ⟨a, rfl, ⟨_, ex_l (e.trans e1) hx⟩, fun Dl hD => lc_list (xs := xs.map fun s => V.ref (pa s)) (fun i H' => Ex H1 H' ∧ H' Dl = some (.lst (((xs.take i).filter p).map g))) ⟨Ex.new hD, upd_same⟩ (fun i H' _ c => ex_l ((e.trans e1).trans c.1) hx) (fun i y H' hi c => by
      obtain ⟨x, hxi, hm, rfl⟩ := map_get hi
      have eA := (e.trans e1).trans c.1
      refine ⟨pa x, _, rfl, ex_t eA (hp x hm), rfl, _, _, rfl, _, _, rfl, rfl, ?_, ?_⟩
      · show wipe (((wipe σ [j1, j2]).set j1 _).set j2 _) [j1, j2] = wipe σ [j1, j2]
        exact wipe2 hj _ _
      · refine ht x hm _ eA _ fun H3 e3 => ?_
        cases hpx : p x with
        | true =>
          show te _ H3 _
          refine he x hm hpx H3 (eA.trans e3) _ fun H4 e4 => ⟨_, e4 _ _ (e3 _ _ c.2), ?_, Ex.mut ((c.1.trans e3).trans e4) hD, ?_⟩
          · have l1 : (((xs.take i).filter p).map g).length ≤ xs.length := by
              rw [List.length_map]
              exact Nat.le_trans (List.length_filter_le _ _) (by rw [List.length_take]; omega)
            exact sz_lt (by omega)
          · rw [upd_same, filt_take hxi, hpx]
            rfl
        | false =>
          show Ex H1 H3 ∧ H3 Dl = _
          refine ⟨c.1.trans e3, ?_⟩
          rw [e3 _ _ c.2, filt_take hxi, hpx]
          simp) (fun H' c => q Dl H' (fresh_back e1 hD) (e1.trans c.1) (by rw [c.2, List.length_map, List.take_length]))⟩
theorem el_sorted {xs : List Int} (h : EvL ta σ H (xs.map V.int)) (hz : xs.length < 64) : EvL (tCB (rSorted K) (tCons ta tNil)) σ H ((sortI xs).map V.int) := fun H1 e Q q =>
  h H1 e _ fun p H2 _ e2 h2 => ⟨p, xs, rfl, sq_of h2, hz, fun ns' l hpm hpw hl => q l _ (fresh_back e2 hl) (e2.trans (Ex.new hl)) (by rw [upd_same, PySem.W.os_sorted_mergeSort hpm hpw]; rfl)⟩
abbrev aPoss (K : PySem.W.Frag) (n : Nat) : A1 := fun a H Q => ∃ f : Fld, a = f.v ∧ FAt K H n f ∧ FW n f ∧ f.k.bds ≠ none ∧ RetL ((possB (LM n) (LE n) f).map V.int) H Q
theorem ok_possible (T : Tx K mg) (G_inner_lengths : Pr P w K mg base (10 * n + 6) "inner_lengths" (Sp1 (aInner K n))) : Pr P w K mg base (10 * n + 7) "possible" (Sp1 (aPoss K n)) := by
  have G_kind := pr_kind (P := P) (w := w) (base := base) T
  have G_whole_bytes := ok_whole (P := P) (w := w) (base := base) T
  refine pr1 T.d_possible T.g_possible sc_possible (fun _ _ _ _ _ _ us hl => match us, hl with | [_], _ => rfl) fun a H Q h cdv A outer s E hr hu => ?_
  obtain ⟨f, rfl, hA, hW, hb, q⟩ := h
  have ob := hA.ob
  refine ⟨_, (pss_cons (ps_if (pt_cmpR op_eq (pe_mU G_kind (hr.mono (by omega)) (pv 0)) pe_str (by rfl)) (pss_one (ps_ret (pe_listRg rfl (by rfl) T.b_list (prg_1 (by rfl) T.b_range (pe_op op_add (pe_gint (by rfl) T.c_MOST_SIGNS) pe_int))))) pss_nil)
      (pss_cons (ps_if (pt_cmpR op_eq (pe_mU G_kind (hr.mono (by omega)) (pv 0)) pe_str (by rfl)) (pss_one (ps_ret (pe_listRg rfl (by rfl) T.b_list (prg_1 (by rfl) T.b_range (pe_op op_add (pe_gint (by rfl) T.c_MOST_ITEMS) pe_int))))) pss_nil)
      (pss_cons (ps_if (pt_cmpR op_eq (pe_mU G_kind (hr.mono (by omega)) (pv 0)) pe_str (by rfl)) (pss_one (ps_ret (pe_callB (sortedK (K := K) rfl) (by rfl) T.b_sorted (by decide +kernel) (pa_cons (pe_lc (own := [("number", 1), ("fields", 2)]) rfl sc_possible.nd (piLK (K := K) rfl (fldK (K := K) rfl (pv 0) rfl)) (blkOk_by (N := ["field", "number", "fields"]) (sc := defScope s_possible) (by decide +kernel)) (fun _ _ _ _ _ => (pgTK (K := K) (n := 2) rfl rfl (pgs_cons (pg_name (i := 1) sc_possible.nd rfl (Or.inl rfl)) (pgs_cons (pg_name (i := 2) sc_possible.nd rfl (Or.inl rfl)) pgs_nil)))) (fun _ _ _ _ _ => pts_nil) (fun _ _ _ _ _ => (pv 1))) pa_nil)))) pss_nil)
      (pss_cons (ps_if (pt_cmpR op_eq (pe_mU G_kind (hr.mono (by omega)) (pv 0)) pe_str (by rfl)) (pss_one (ps_ret (pe_lst (pa_cons pe_int (pa_cons pe_int pa_nil))))) pss_nil)
      (pss_one (ps_ret (pe_fn G_whole_bytes (hr.mono (by omega)) (by rfl) (pa_cons (pe_fn G_inner_lengths (hr.mono (by omega)) (by rfl) (pa_cons (pv 0) pa_nil)) pa_nil)))))))), ?_⟩
  cases hk : f.k with
  | num => exact absurd (by rw [hk]; rfl) hb
  | sev => exact absurd (by rw [hk]; rfl) hb
  | chk => exact absurd (by rw [hk]; rfl) hb
  | spt => exact absurd (by rw [hk]; rfl) hb
  | grp => exact absurd (by rw [hk]; rfl) hb
  | txt hw df =>
    have hp : possB (LM n) (LE n) f = rangeI 61 := by unfold possB; rw [hk]
    rw [hp] at q
    refine (sv_take (ev_kindW (ev_var rfl) ob (by rw [hk]; rfl)) rfl ?_).here
    exact sv_retL (el_is (el_lstRg (n := 61) (ev_is (ev_op ev_c ev_c rv_I0) (by rfl)) (by decide)) (rg_rangeI 61)) q
  | row hw mk =>
    have hp : possB (LM n) (LE n) f = rangeI 41 := by unfold possB; rw [hk]
    rw [hp] at q
    refine (sv_skip (ev_kindW (s := "row") (ev_var rfl) ob (by rw [hk]; rfl)) (by decide +kernel) ?_).here
    refine sv_take (ev_kindW (ev_var rfl) ob (by rw [hk]; rfl)) rfl ?_
    exact sv_retL (el_is (el_lstRg (n := 41) (ev_is (ev_op ev_c ev_c rv_I0) (by rfl)) (by decide)) (rg_rangeI 41)) q
  | cho c lo hi =>
    have hp : possB (LM n) (LE n) f = sortI (f.subs.map fun s => s.2.1) := by unfold possB; rw [hk]
    rw [hp] at q
    have hc := hA.cases hk
    have h3 : f.subs.length ≤ 3 := by
      unfold FW FWB at hW
      rw [hk] at hW
      exact hW.2.1
    have kw : ∀ s, s = ("choice" : Str) → Ev (tMU (spKind K) (tVar 0)) (start ["field", "number", "fields"] [f.v]) H (.str s) := fun s hs => ev_kindW (ev_var rfl) ob (by rw [hk, hs]; rfl)
    refine (sv_skip (kw _ rfl) (by decide +kernel) (sv_skip (kw _ rfl) (by decide +kernel) (sv_take (kw _ rfl) rfl ?_))).here
    refine sv_retL (el_sorted (el_is (el_comp2 (xs := f.subs) (pa := fun s => s.1) (v1 := fun s => .int s.2.1) (v2 := fun s => .ref s.2.2.1) (g := fun s => .int s.2.1) (p := fun _ => true) (by decide) (ev_cases T (ev_var rfl) ob hk) hc.1 hc.2 (by omega) (fun _ _ => et_yes) fun s hs _ => ev_var rfl) ?_) (by rw [List.length_map]; omega)) q
    rw [map_all, List.map_map]
    rfl
  | may c lo hi =>
    have hp : possB (LM n) (LE n) f = [0, 1] := by unfold possB; rw [hk]
    rw [hp] at q
    have kw : ∀ s, s = ("maybe" : Str) → Ev (tMU (spKind K) (tVar 0)) (start ["field", "number", "fields"] [f.v]) H (.str s) := fun s hs => ev_kindW (ev_var rfl) ob (by rw [hk, hs]; rfl)
    refine (sv_skip (kw _ rfl) (by decide +kernel) (sv_skip (kw _ rfl) (by decide +kernel) (sv_skip (kw _ rfl) (by decide +kernel) (sv_take (kw _ rfl) rfl ?_)))).here
    exact sv_retL (el_lst (ea_cons ev_c (ea_cons ev_c ea_nil)) (by decide)) q
  | siz c lo hi gr =>
    have hp : possB (LM n) (LE n) f = (wholeM (innerB (LM n) (LE n) gr f.fs)).map fun (c : Nat) => (c : Int) := by unfold possB; rw [hk]
    rw [hp] at q
    have kw : ∀ s, s = ("sized" : Str) → Ev (tMU (spKind K) (tVar 0)) (start ["field", "number", "fields"] [f.v]) H (.str s) := fun s hs => ev_kindW (ev_var rfl) ob (by rw [hk, hs]; rfl)
    refine (sv_skip (kw _ rfl) (by decide +kernel) (sv_skip (kw _ rfl) (by decide +kernel) (sv_skip (kw _ rfl) (by decide +kernel) (sv_skip (kw _ rfl) (by decide +kernel) ?_)))).here
    refine sv_retL (el_is (el_whole (ev_inner (ev_var rfl) hk hA hW) (innerB_lt n _ gr _)) ?_) q
    rw [List.map_map]
    rfl
theorem el_poss (h : Ev ta σ H f.v) (hA : FAt K H n f) (hW : FW n f) (hb : f.k.bds ≠ none) : EvL (tFn (Sp1 (aPoss K n)) (tCons ta tNil)) σ H ((possB (LM n) (LE n) f).map V.int) :=
  el_fn (ea_cons h ea_nil) fun H1 e Q q E => ⟨_, rfl, f, rfl, hA.mono e, hW, hb, fun p H2 hp e h2 => q p H2 hp e h2⟩
theorem possB_len (hW : FW n f) : (possB (LM n) (LE n) f).length ≤ 2041 := by
  unfold FW FWB at hW
  unfold possB
  cases hk : f.k with
  | txt => show (rangeI 61).length ≤ _; unfold rangeI; rw [List.length_map, List.length_range]; decide
  | row => show (rangeI 41).length ≤ _; unfold rangeI; rw [List.length_map, List.length_range]; decide
  | cho c lo hi =>
    rw [hk] at hW
    show (sortI _).length ≤ _
    unfold sortI
    rw [List.length_mergeSort, List.length_map]
    have := hW.2.1
    omega
  | may => exact (by decide : 2 ≤ 2041)
  | siz c lo hi gr =>
    show ((wholeM _).map _).length ≤ _
    rw [List.length_map]
    unfold wholeM
    rw [List.length_map]
    exact Nat.le_trans (List.length_filter_le _ _) (bitsM_len _)
  | _ => exact Nat.zero_le _
/-! ### the numbers that a control can be -/
abbrev aLets (K : PySem.W.Frag) (n : Nat) : A2 := fun a b H Q => ∃ (l : Addr) (fs : List Fld) (f g : Fld) (lo hi : Int) (j : Nat), a = .ref l ∧ b = vN j ∧ LAt K H (n + 1) l fs ∧ LW (n + 1) fs ∧ f ∈ fs ∧ fs[j]? = some g ∧ f.k.bds = some (g.nm, lo, hi) ∧ RetL ((letM n f).map V.int) H Q
/-- a control and what it steers -/
theorem steer {fs : List Fld} {f g : Fld} {lo hi : Int} (hW : LW (n + 1) fs) (hf : f ∈ fs) (hg : g ∈ fs) (hb : f.k.bds = some (g.nm, lo, hi)) : IsNum g ∧ lo = g.k.least ∧ hi = g.k.greatest ∧ f.k.st = some g.nm ∧ ∀ x ∈ fs, x.k.st = some g.nm → x = f := by
  obtain ⟨g', hg', e1, e2, e3, e4⟩ := hW.st f hf _ _ _ hb
  have : g' = g := nodup_inj hW.nd hg' hg e1
  subst this
  have hs : f.k.st = some g'.nm := by unfold Kd.st; rw [hb]; rfl
  exact ⟨FW.num (hW.fw g' hg) e2, e3, e4, hs, fun x hx e => filterMap_inj (g := fun f => f.k.st) hW.us hx hf e hs⟩
theorem ok_lets_of (T : Tx K mg) (G_possible : Pr P w K mg base (10 * n + 7) "possible" (Sp1 (aPoss K n))) : Pr P w K mg base (10 * n + 8) "lets_of" (Sp2 (aLets K n)) := by
  have G_steered_by := ok_steered_by (P := P) (w := w) (base := base) T
  have G_least := pr_least (P := P) (w := w) (base := base) T
  have G_greatest := pr_greatest (P := P) (w := w) (base := base) T
  refine pr2 T.d_lets_of T.g_lets_of sc_lets_of (fun _ _ _ _ _ _ us hl => match us, hl with | [_, _], _ => rfl) fun a b H Q h cdv A outer s E hr hu => ?_
  obtain ⟨l, fs, f, g, lo, hi, j, rfl, rfl, hL, hW, hf, hg, hb, q⟩ := h
  have hgm := List.mem_of_getElem? hg
  obtain ⟨h1, h2, h3, h4, h5⟩ := steer hW hf hgm hb
  refine ⟨_, (pss_cons (ps_set (i := 2) sc_lets_of.nd rfl (.inr rfl) (pe_ix (ixLK (K := K) rfl) (pv 0) (pv 1) (fun _ _ => rfl)))
      (pss_cons (ps_set (i := 3) sc_lets_of.nd rfl (.inl rfl) (pe_fn G_steered_by (hr.mono (by omega)) (by rfl) (pa_cons (pv 0) (pa_cons (fldK (K := K) rfl (pv 2) rfl) pa_nil))))
      (pss_cons (ps_if (pt_cmpR op_isN (pv 3) pe_non (by rfl)) (pss_one (ps_ret pe_non)) pss_nil)
      (pss_one (ps_ret (pe_lc (own := [("one", 4)]) rfl sc_lets_of.nd (piLK (K := K) rfl (pe_fn G_possible (hr.mono (by omega)) (by rfl) (pa_cons (pv 3) pa_nil))) (blkOk_by (N := ["fields", "number", "control", "field", "one"]) (sc := defScope s_lets_of) (by decide +kernel)) (fun _ _ _ _ _ => (pg_name (i := 4) sc_lets_of.nd rfl (Or.inl rfl))) (fun _ _ _ _ _ => (pts_one (PW.pt (pw_and (pt_cmpR op_le (pe_mU G_least (hr.mono (by omega)) (pv 2)) (pv 4) (by rfl)) (pw_and1 (pt_cmpR op_le (pv 4) (pe_mU G_greatest (hr.mono (by omega)) (pv 2)) (by rfl))))))) (fun _ _ _ _ _ => (pv 4)))))))), ?_⟩
  refine (sv_asg (v := g.v) (ev_op (ev_var rfl) (ev_var rfl) (rv_ixL hL.seq (atI_nat (j := j) (by rw [List.getElem?_map, hg]; rfl)))) ?_).here
  refine sv_asg (ev_steered (ev_var rfl) (ev_name T (ev_var rfl) (hL.ob g hgm)) hL.seq hL.ob hf h4 h5) ?_
  refine sv_skipT (et_test (ev_is (ev_isn (ev_var rfl)) (congrArg V.bl (decide_eq_false fun z => nomatch z)))) ?_
  refine sv_retL (el_is (el_compN (val := V.int) (g := V.int) (p := fun x => decide (lo ≤ x ∧ x ≤ hi)) (el_poss (ev_var rfl) (hL.2 f hf) (hW.fw f hf) (by rw [hb]; exact fun z => nomatch z)) (Nat.le_trans (possB_len (hW.fw f hf)) (by decide)) ?_ ?_) ?_) q
  · intro x hx
    refine et_is (et_and (et_test (ev_op (ev_least (ev_var rfl) (hL.ob g hgm) h1) (ev_var rfl) rv_I0)) fun _ => et_test (ev_op (ev_var rfl) (ev_greatest (ev_var rfl) (hL.ob g hgm) h1) rv_I0)) ?_
    rw [h2, h3, ← Bool.decide_and]
  · exact fun x hx _ => ev_var rfl
  · unfold letM letB
    rw [hb]
theorem el_lets {l : Addr} {fs : List Fld} {g : Fld} {lo hi : Int} {j : Nat} (ha : Ev ta σ H (.ref l)) (hb : Ev tb σ H (vN j)) (hL : LAt K H (n + 1) l fs) (hW : LW (n + 1) fs) (hf : f ∈ fs) (hg : fs[j]? = some g) (hbd : f.k.bds = some (g.nm, lo, hi)) : EvL (tFn (Sp2 (aLets K n)) (tCons ta (tCons tb tNil))) σ H ((letM n f).map V.int) :=
  el_fn (ea_cons ha (ea_cons hb ea_nil)) fun H1 e Q q E => ⟨_, _, rfl, l, fs, f, g, lo, hi, j, rfl, rfl, hL.mono e, hW, hf, hg, hbd, fun p H2 hp e h2 => q p H2 hp e h2⟩
abbrev aLet (K : PySem.W.Frag) (n : Nat) : A2 := fun a b H Q => ∃ (l : Addr) (fs : List Fld) (f : Fld), a = .ref l ∧ b = f.v ∧ LAt K H (n + 1) l fs ∧ LW (n + 1) fs ∧ f ∈ fs ∧ (f.k.bds = none → RetV .non H Q) ∧ (f.k.bds ≠ none → RetL ((letM n f).map V.int) H Q)
theorem ok_let_of (T : Tx K mg) (G_lets_of : Pr P w K mg base (10 * n + 8) "lets_of" (Sp2 (aLets K n))) : Pr P w K mg base (10 * n + 9) "let_of" (Sp2 (aLet K n)) := by
  have G_steers := pr_steers (P := P) (w := w) (base := base) T
  have G_place_of := ok_place_of (P := P) (w := w) (base := base) T
  refine pr2 T.d_let_of T.g_let_of sc_let_of (fun _ _ _ _ _ _ us hl => match us, hl with | [_, _], _ => rfl) fun a b H Q h cdv A outer s E hr hu => ?_
  obtain ⟨l, fs, f, rfl, rfl, hL, hW, hf, q0, q1⟩ := h
  have ob := hL.ob f hf
  refine ⟨_, (pss_cons (ps_if (pt_cmpR op_isN (pe_mU G_steers (hr.mono (by omega)) (pv 1)) pe_non (by rfl)) (pss_one (ps_ret pe_non)) pss_nil)
      (pss_one (ps_ret (pe_fn G_lets_of (hr.mono (by omega)) (by rfl) (pa_cons (pv 0) (pa_cons (pe_fn G_place_of (hr.mono (by omega)) (by rfl) (pa_cons (pv 0) (pa_cons (pe_mU G_steers (hr.mono (by omega)) (pv 1)) pa_nil))) pa_nil)))))), ?_⟩
  cases hb : f.k.bds with
  | none =>
    have e : stV f.k = .non := by unfold stV Kd.st; rw [hb]; rfl
    refine (sv_takeT (et_test (ev_is (ev_isn (ev_steers (ev_var rfl) ob)) (congrArg V.bl (decide_eq_true e)))) ?_).here
    exact sv_ret ev_c (q0 hb)
  | some b =>
    obtain ⟨c, lo, hi⟩ := b
    obtain ⟨g, hg, rfl, _⟩ := hW.st f hf _ _ _ hb
    obtain ⟨j, hj⟩ := List.mem_iff_getElem?.mp hg
    have e : stV f.k = .str g.nm := by unfold stV Kd.st; rw [hb]; rfl
    refine (sv_skipT (et_test (ev_is (ev_isn (ev_steers (ev_var rfl) ob)) (congrArg V.bl (decide_eq_false (by rw [e]; exact fun z => nomatch z))))) ?_).here
    exact sv_retL (el_lets (ev_var rfl) (ev_place (ev_var rfl) (ev_is (ev_steers (ev_var rfl) ob) e) hL.seq hL.ob hj hW.nd) hL hW hf hj hb) (q1 (by rw [hb]; exact fun z => nomatch z))
end
end Fk

set_option Elab.async false
set_option linter.all false
set_option maxRecDepth 100000
set_option maxHeartbeats 4000000
set_option exponentiation.threshold 3000
namespace Fk
open PySem PySem.Spec PyProof.Rows L2 Evl
section
variable {P : Program} {w : World} {K : PySem.W.Frag} {mg : Str → Option Value} {base : Heap} {σ : L2.St} {H H' : Hp} {te ta tb tc tl : TE} {tt : TT} {tu tz : TS} {D : Ends} {f : Fld} {n : Nat}
theorem ne_end_fixed : ("end" : Str) ≠ "fixed" := by decide +kernel
theorem ne_by_fixed : ("by" : Str) ≠ "fixed" := by decide +kernel
theorem ne_by_end : ("by" : Str) ≠ "end" := by decide +kernel
abbrev aLenK (K : PySem.W.Frag) (n : Nat) (C : Kd → Prop) : A2 := fun a b H Q => ∃ f : Fld, a = f.v ∧ C f.k ∧ FAt K H n f ∧ FW n f ∧ (f.k.bds ≠ none → ∃ l, b = .ref l ∧ H l = some (.lst ((letM n f).map V.int))) ∧ RetV (vN (lenM n f)) H Q
theorem ev_lenK {C : Kd → Prop} {v : V} (ha : Ev ta σ H f.v) (hb : Ev tb σ H v) (hc : C f.k) (hA : FAt K H n f) (hW : FW n f) (h0 : f.k.bds ≠ none → ∃ l, v = .ref l ∧ H l = some (.lst ((letM n f).map V.int))) : Ev (tFn (Sp2 (aLenK K n C)) (tCons ta (tCons tb tNil))) σ H (vN (lenM n f)) :=
  ev_fn (ea_cons ha (ea_cons hb ea_nil)) fun H1 e Q q E => ⟨_, _, rfl, f, rfl, hc, hA.mono e, hW, fun z => let ⟨l, a, b⟩ := h0 z; ⟨l, a, e _ _ b⟩, q⟩
theorem int_nat {x : Int} (h : 0 ≤ x) : V.int x = vN x.toNat := congrArg V.int (by omega)
theorem ok_text_lengths (T : Tx K mg) : Pr P w K mg base 1 "text_lengths" (Sp2 (aLenK K n fun k => ∃ hw df, k = .txt hw df)) := by
  refine pr2 T.d_text_lengths T.g_text_lengths sc_text_lengths (fun _ _ _ _ _ _ us hl => match us, hl with | [_, _], _ => rfl) fun a b H Q h cdv A outer s E hr hu => ?_
  obtain ⟨f, rfl, ⟨hw, df, hk⟩, hA, hW, h0, q⟩ := h
  have hbd := fun x => @letM_bd n f x hW
  have hFW := hW
  have ob := hA.ob
  refine ⟨_, (pss_cons (ps_if (pt_cmpR op_eq (fldK (K := K) rfl (pv 0) rfl) pe_str (by rfl)) (pss_one (ps_ret (pe_op op_shlW pe_int (pe_op op_mul (pe_gint (by rfl) T.c_BYTE) (fldK (K := K) rfl (pv 0) rfl))))) pss_nil)
      (pss_cons (ps_set (i := 2) sc_text_lengths.nd rfl (.inl rfl) pe_int)
      (pss_cons (ps_if (pt_cmpR op_eq (fldK (K := K) rfl (pv 0) rfl) pe_str (by rfl)) (pss_cons (ps_for PassesOwn.never rfl (pi_range1 (by rfl) T.b_range (pa_cons (pe_op op_add (fldK (K := K) rfl (pv 0) rfl) pe_int) pa_nil)) (pg_name (i := 3) sc_text_lengths.nd rfl (.inl rfl)) (pss_one (ps_set (i := 2) sc_text_lengths.nd rfl (.inl rfl) (pe_op op_or (pv 2) (pe_op op_shlW pe_int (pe_op op_mul (pe_gint (by rfl) T.c_BYTE) (pe_op op_add (pv 3) pe_int)))))))
      (pss_one (ps_ret (pv 2)))) pss_nil)
      (pss_cons (ps_for PassesOwn.never rfl (piLK (K := K) rfl (pv 1)) (pg_name (i := 3) sc_text_lengths.nd rfl (.inl rfl)) (pss_one (ps_set (i := 2) sc_text_lengths.nd rfl (.inl rfl) (pe_op op_or (pv 2) (pe_op op_shlW pe_int (pe_op op_mul (pe_gint (by rfl) T.c_BYTE) (pv 3)))))))
      (pss_one (ps_ret (pv 2))))))), ?_⟩
  unfold FW FWB at hW
  rw [hk] at hW
  have hh : (∃ df, f.k = .txt hw df) ∨ ∃ mk, f.k = .row hw mk := .inl ⟨df, hk⟩
  cases hw with
  | fix m =>
    have hm : m ≤ 60 := hW.1
    have el : lenM n f = 2 ^ (8 * m) := by unfold lenM lenB; rw [hk]
    rw [el] at q
    refine (sv_take (ev_how T (ev_var rfl) ob hh) rfl ?_).here
    exact sv_ret (ev_shl8 (ev_mul8 (ev_count T (ev_var rfl) ob hh)) (by omega)) q
  | end_ m =>
    have hm : m ≤ 60 := hW.1
    have el : lenM n f = unionM ((List.range (m + 1)).map fun c => 2 ^ (8 * (c + 1))) := by unfold lenM lenB; rw [hk]
    rw [el] at q
    refine (sv_skip (ev_how T (ev_var rfl) ob hh) ne_end_fixed ?_).here
    refine sv_asg ev_c (sv_take (ev_how T (ev_var rfl) ob hh) rfl ?_)
    refine sv_forR1 (n := ((m + 1 : Nat) : Int)) (ea_cons (ev_is (ev_op (ev_count T (ev_var rfl) ob hh) ev_c rv_I0) (congrArg V.int (by push_cast; rfl))) ea_nil) (by omega) (fun i σ' => ∃ z y, σ' = [some f.v, y, some (vN (unionM ((List.range i).map fun c => 2 ^ (8 * (c + 1))))), z]) ⟨none, some b, rfl⟩ ?_ ?_
    · rintro i σ' hi ⟨z, y, rfl⟩
      refine sv_asg1 (ev_orN (ev_var rfl) (ev_shl8 (ev_mul8 (ev_is (ev_op (ev_var rfl) ev_c rv_I0) (show V.int ((i : Int) + 1) = vN (i + 1) from congrArg V.int (by push_cast; rfl)))) (by omega))) fun H1 e2 => ⟨⟨some (vN i), y, ?_⟩, e2⟩
      rw [List.range_succ, List.map_append]
      show _ = [some f.v, y, some (vN (unionM (_ ++ [_]))), _]
      rw [unionM_snoc]
      rfl
    · rintro σ' ⟨z, y, rfl⟩
      exact sv_ret (ev_var rfl) q
  | by_ c lo hi =>
    obtain ⟨l, rfl, hl⟩ := h0 (by rw [hk]; exact fun z => nomatch z)
    have el : lenM n f = unionM ((letM n f).map fun c => 2 ^ (8 * c.toNat)) := by unfold lenM lenB; rw [hk]
    rw [el] at q
    refine (sv_skip (ev_how T (ev_var rfl) ob hh) ne_by_fixed ?_).here
    refine sv_asg ev_c (sv_skip (ev_how T (ev_var rfl) ob hh) ne_by_end ?_)
    refine sv_forLn (ev_var rfl) (sq_of hl) (fun i σ' => ∃ z, σ' = [some f.v, some (.ref l), some (vN (unionM (((letM n f).take i).map fun c => 2 ^ (8 * c.toNat)))), z]) ⟨none, rfl⟩ ?_ ?_
    · rintro i x σ' hx ⟨z, rfl⟩
      obtain ⟨y, hy, hm, rfl⟩ := map_get hx
      have hb := hbd y hm
      have hb3 := hb.2.2.2 (by rw [hk]; rfl)
      refine sv_asg1 (ev_orN (ev_var rfl) (ev_shl8 (ev_mul8 (ev_is (ev_var rfl) (int_nat hb.1))) (by omega))) fun H1 e2 => ⟨⟨some (.int y), ?_⟩, e2⟩
      rw [unionM_take hy]
      rfl
    · rintro σ' ⟨z, rfl⟩
      rw [List.length_map, List.take_length]
      exact sv_ret (ev_var rfl) q
theorem ok_row_lengths (T : Tx K mg) (G_list_lengths : Pr P w K mg base (10 * n + 5) "list_lengths" (Sp1 (aLL K n))) : Pr P w K mg base (10 * n + 6) "row_lengths" (Sp2 (aLenK K n fun k => ∃ hw mk, k = .row hw mk)) := by
  have G_times_summed := ok_times (P := P) (w := w) (base := base) T
  have G_cut := ok_cut (P := P) (w := w) (base := base) T
  refine pr2 T.d_row_lengths T.g_row_lengths sc_row_lengths (fun _ _ _ _ _ _ us hl => match us, hl with | [_, _], _ => rfl) fun a b H Q h cdv A outer s E hr hu => ?_
  obtain ⟨f, rfl, ⟨hw, mk, hk⟩, hA, hW, h0, q⟩ := h
  have hbd := fun x => @letM_bd n f x hW
  have ob := hA.ob
  refine ⟨_, (pss_cons (ps_set (i := 2) sc_row_lengths.nd rfl (.inl rfl) (pe_fn G_list_lengths (hr.mono (by omega)) (by rfl) (pa_cons (fldK (K := K) rfl (pv 0) rfl) pa_nil)))
      (pss_cons (ps_if (pt_cmpR op_eq (fldK (K := K) rfl (pv 0) rfl) pe_str (by rfl)) (pss_one (ps_ret (pe_ix (ixLK (K := K) rfl) (pe_fn G_times_summed (hr.mono (by omega)) (by rfl) (pa_cons (pv 2) (pa_cons (fldK (K := K) rfl (pv 0) rfl) pa_nil))) (fldK (K := K) rfl (pv 0) rfl) (fun _ _ => rfl)))) pss_nil)
      (pss_cons (ps_if (pt_cmpR op_eq (fldK (K := K) rfl (pv 0) rfl) pe_str (by rfl)) (pss_cons (ps_set (i := 3) sc_row_lengths.nd rfl (.inl rfl) pe_int)
      (pss_cons (ps_for PassesOwn.never rfl (piLK (K := K) rfl (pe_fn G_times_summed (hr.mono (by omega)) (by rfl) (pa_cons (pv 2) (pa_cons (fldK (K := K) rfl (pv 0) rfl) pa_nil)))) (pg_name (i := 4) sc_row_lengths.nd rfl (.inl rfl)) (pss_one (ps_set (i := 3) sc_row_lengths.nd rfl (.inl rfl) (pe_op op_or (pv 3) (pv 4)))))
      (pss_one (ps_ret (pe_fn G_cut (hr.mono (by omega)) (by rfl) (pa_cons (pe_op op_shlW (pv 3) (fldK (K := K) rfl (pe_ix (ixLK (K := K) rfl) (fldK (K := K) rfl (pv 0) rfl) pe_int (fun _ _ => rfl)) rfl)) pa_nil)))))) pss_nil)
      (pss_cons (ps_set (i := 5) sc_row_lengths.nd rfl (.inl rfl) (pe_fn G_times_summed (hr.mono (by omega)) (by rfl) (pa_cons (pv 2) (pa_cons (pe_callB (maxK (K := K) rfl rfl) (by rfl) T.b_max (by decide +kernel) (pa_cons (pe_op op_cat (pv 1) (pe_lst (pa_cons pe_int pa_nil))) pa_nil)) pa_nil))))
      (pss_cons (ps_set (i := 3) sc_row_lengths.nd rfl (.inl rfl) pe_int)
      (pss_cons (ps_for PassesOwn.never rfl (piLK (K := K) rfl (pv 1)) (pg_name (i := 6) sc_row_lengths.nd rfl (.inl rfl)) (pss_one (ps_set (i := 3) sc_row_lengths.nd rfl (.inl rfl) (pe_op op_or (pv 3) (pe_ix (ixLK (K := K) rfl) (pv 5) (pv 6) (fun _ _ => rfl))))))
      (pss_one (ps_ret (pv 3))))))))), ?_⟩
  unfold FW FWB at hW
  rw [hk] at hW
  obtain ⟨hW1, hW2⟩ := hW
  have hone : f.k.one = true := by rw [hk]; rfl
  have hL := hA.one hone
  have hh : (∃ df, f.k = .txt hw df) ∨ ∃ mk, f.k = .row hw mk := .inr ⟨mk, hk⟩
  refine (sv_asg (ev_LL (ev_fields T (ev_var rfl) ob hone) hL hW2.lw) ?_).here
  have hlt := LM_lt n f.fs
  cases hw with
  | fix m =>
    have hm : m ≤ 4 := hW1
    have el : lenM n f = (timesM (LM n f.fs) m).getD m 0 := by unfold lenM lenB; rw [hk]
    rw [el] at q
    refine sv_take (ev_how T (ev_var rfl) ob hh) rfl ?_
    refine sv_ret (ev_opL1 (el_times (ev_var rfl) (ev_count T (ev_var rfl) ob hh) hlt (by omega)) (fun H1 e => ev_count T (ev_var rfl) (Ob.mono e ob) hh) fun p H1 hp e => rv_ixL (sq_of hp) (atI_nat (j := m) ?_)) q
    rw [List.getElem?_map, List.getD_eq_getElem?_getD, List.getElem?_eq_getElem (by rw [timesM_len]; omega)]
    rfl
  | end_ m =>
    have hm : m ≤ 4 := hW1.1
    obtain ⟨g, r, hg1, hg2, hg3⟩ := hW1.2
    have el : lenM n f = cutM (unionM (timesM (LM n f.fs) m) <<< 8) := by unfold lenM lenB; rw [hk]
    rw [el] at q
    refine sv_skip (ev_how T (ev_var rfl) ob hh) ne_end_fixed ?_
    refine sv_take (ev_how T (ev_var rfl) ob hh) rfl (sv_asg ev_c ?_)
    refine sv_forNLn (xs := vNs (timesM (LM n f.fs) m)) (el_times (ev_var rfl) (ev_count T (ev_var rfl) ob hh) hlt (by omega)) (fun i σ' => ∃ z y, σ' = [some f.v, y, some (vN (LM n f.fs)), some (vN (unionM ((timesM (LM n f.fs) m).take i))), z, none, none]) ⟨none, some b, rfl⟩ ?_ ?_
    · rintro p hp i x σ' hx ⟨z, y, rfl⟩
      obtain ⟨k, hk2, hm2, rfl⟩ := get_vN hx
      refine sv_asg1 (ev_orN (ev_var rfl) (ev_var rfl)) fun H1 e2 => ⟨⟨some (vN k), y, ?_⟩, e2⟩
      rw [List.take_add_one, hk2]
      show _ = [some f.v, y, _, some (vN (unionM (_ ++ [k]))), _, _, _]
      rw [unionM_snoc]
      rfl
    · rintro p hp σ' ⟨z, y, rfl⟩
      rw [List.length_map, List.take_length]
      have e1 := Ex.new hp (o := .lst (vNs (timesM (LM n f.fs) m)))
      have hg : g ∈ f.fs := by rw [hg1]; exact List.mem_cons_self ..
      have hS := (hL.mono e1).seq
      have hx : atI (f.fs.map Fld.v) 0 = some g.v := by rw [hg1]; exact atI_nat (j := 0) rfl
      refine sv_ret (ev_cut (ev_op (ev_var rfl) (ev_width T (ev_op (ev_fields T (ev_var rfl) (Ob.mono e1 ob) hone) ev_c (rv_ixL hS hx)) ((hL.mono e1).ob g hg) (.inr hg3) (.inr (.inr hg3))) (by rw [hg2]; exact rv_shlN (unionM_lt (timesM_lt _ _)) (by omega)))) fun H2 e2 => q H2 (e1.trans e2)
  | by_ c lo hi =>
    obtain ⟨l, rfl, hl⟩ := h0 (by rw [hk]; exact fun z => nomatch z)
    have el : lenM n f = unionM ((letM n f).map fun c => (timesM (LM n f.fs) (maxI (letM n f))).getD c.toNat 0) := by unfold lenM lenB; rw [hk]
    rw [el] at q
    have hrow : f.k.word = "row" := by rw [hk]; rfl
    have hmx : maxI (letM n f) ≤ 40 := maxI_le fun x hx => by have := hbd x hx; have := this.2.2.1 hrow; omega
    have hsz : (letM n f).length ≤ 41 := by
      unfold letM letB possB
      rw [hk]
      refine Nat.le_trans (List.length_filter_le _ _) ?_
      show (rangeI 41).length ≤ 41
      unfold rangeI
      rw [List.length_map, List.length_range]
      exact Nat.le_refl _
    refine sv_skip (ev_how T (ev_var rfl) ob hh) ne_by_fixed (sv_skip (ev_how T (ev_var rfl) ob hh) ne_by_end ?_)
    have hmax : Ev (tCB (rMax K) (tCons (tOp rCat (tVar 1) (tLst (tCons (tC (.int 0)) tNil))) tNil)) [some f.v, some (.ref l), some (vN (LM n f.fs)), none, none, none, none] H (vN (maxI (letM n f))) := fun H1 e Q q =>
      (el_catVL (ev_var rfl) hl (el_lst (ea_cons ev_c ea_nil) (by decide)) (by rw [List.length_map]; show _ + 1 ≤ _; omega) : EvL _ _ H ((letM n f).map V.int ++ [.int 0])) H1 e _ fun p H2 _ e2 h2 => ⟨p, letM n f ++ [0], rfl, sq_of (by rw [List.map_append]; exact h2), by simp, fun m hm hy => by
        rw [maxI_is (fun x hx => (hbd x hx).1) hm hy]
        exact q H2 e2⟩
    refine sv_asgL (el_times (ev_var rfl) hmax hlt (by omega)) fun p hp => ?_
    have e1 := Ex.new hp (o := .lst (vNs (timesM (LM n f.fs) (maxI (letM n f)))))
    refine sv_asg ev_c ?_
    refine sv_forLn (ev_var rfl) (sq_of (e1 _ _ hl)) (fun i σ' => ∃ z, σ' = [some f.v, some (.ref l), some (vN (LM n f.fs)), some (vN (unionM (((letM n f).take i).map fun c => (timesM (LM n f.fs) (maxI (letM n f))).getD c.toNat 0))), none, some (.ref p), z]) ⟨none, rfl⟩ ?_ ?_
    · rintro i x σ' hx ⟨z, rfl⟩
      obtain ⟨y, hy, hm, rfl⟩ := map_get hx
      have hb := hbd y hm
      have hle := maxI_ge hm
      refine sv_asg1 (ev_orN (ev_var rfl) (ev_op (ev_var rfl) (ev_is (ev_var rfl) (int_nat hb.1)) (rv_ixL (sq_of upd_same) (atI_nat (v := vN ((timesM (LM n f.fs) (maxI (letM n f))).getD y.toNat 0)) ?_)))) fun H1 e2 => ⟨⟨some (.int y), ?_⟩, e2⟩
      · rw [List.getElem?_map, List.getD_eq_getElem?_getD, List.getElem?_eq_getElem (by rw [timesM_len]; omega)]
        rfl
      · rw [unionM_take hy]
        rfl
    · rintro σ' ⟨z, rfl⟩
      rw [List.length_map, List.take_length]
      exact sv_ret (ev_var rfl) fun H2 e2 => q H2 (e1.trans e2)
theorem ok_case_lengths (T : Tx K mg) (G_list_lengths : Pr P w K mg base (10 * n + 5) "list_lengths" (Sp1 (aLL K n))) : Pr P w K mg base (10 * n + 6) "case_lengths" (Sp2 (aLenK K n fun k => ∃ c lo hi, k = .cho c lo hi)) := by
  refine pr2 T.d_case_lengths T.g_case_lengths sc_case_lengths (fun _ _ _ _ _ _ us hl => match us, hl with | [_, _], _ => rfl) fun a b H Q h cdv A outer s E hr hu => ?_
  obtain ⟨f, rfl, ⟨c, lo, hi, hk⟩, hA, hW, h0, q⟩ := h
  have hbd := fun x => @letM_bd n f x hW
  have ob := hA.ob
  refine ⟨_, (pss_cons (ps_set (i := 2) sc_case_lengths.nd rfl (.inl rfl) pe_int)
      (pss_cons (ps_for PassesOwn.never rfl (piLK (K := K) rfl (fldK (K := K) rfl (pv 0) rfl)) (pgTK (K := K) (n := 2) rfl rfl (pgs_cons (pg_name (i := 3) sc_case_lengths.nd rfl (.inl rfl)) (pgs_cons (pg_name (i := 4) sc_case_lengths.nd rfl (.inl rfl)) pgs_nil))) (pss_one (ps_if (pt_cmpR (op_inK (K := K) rfl) (pv 3) (pv 1) (by rfl)) (pss_one (ps_set (i := 2) sc_case_lengths.nd rfl (.inl rfl) (pe_op op_or (pv 2) (pe_fn G_list_lengths (hr.mono (by omega)) (by rfl) (pa_cons (pv 4) pa_nil))))) pss_nil)))
      (pss_one (ps_ret (pv 2))))), ?_⟩
  have hc := hA.cases hk
  unfold FW FWB at hW
  rw [hk] at hW
  obtain ⟨l, rfl, hl⟩ := h0 (by rw [hk]; exact fun z => nomatch z)
  have el : lenM n f = unionM ((f.subs.filter fun s => decide (s.2.1 ∈ letM n f)).map fun s => LM n s.2.2.2) := by unfold lenM lenB; rw [hk]
  rw [el] at q
  refine (sv_asg ev_c ?_).here
  refine sv_forL (ev_cases T (ev_var rfl) ob hk) hc.1 (fun i σ' => ∃ z y, σ' = [some f.v, some (.ref l), some (vN (unionM (((f.subs.take i).filter fun s => decide (s.2.1 ∈ letM n f)).map fun s => LM n s.2.2.2))), z, y]) ⟨none, none, rfl⟩ ?_ ?_
  · rintro i x σ' hx ⟨z, y, rfl⟩ H1 e
    obtain ⟨t, ht, hm, rfl⟩ := map_get hx
    refine ⟨t.1, _, rfl, ex_t e (hc.2 t hm), rfl, _, _, rfl, _, _, rfl, rfl, ?_⟩
    have hstep : unionM (((f.subs.take (i + 1)).filter fun s => decide (s.2.1 ∈ letM n f)).map fun s => LM n s.2.2.2) = if t.2.1 ∈ letM n f then unionM (((f.subs.take i).filter fun s => decide (s.2.1 ∈ letM n f)).map fun s => LM n s.2.2.2) ||| LM n t.2.2.2 else unionM (((f.subs.take i).filter fun s => decide (s.2.1 ∈ letM n f)).map fun s => LM n s.2.2.2) := by
      rw [List.take_add_one, ht, List.filter_append, List.map_append]
      show unionM (_ ++ (List.filter _ [t]).map _) = _
      rw [List.filter_cons]
      by_cases c : t.2.1 ∈ letM n f
      · rw [if_pos c, if_pos (decide_eq_true c)]
        exact unionM_snoc _ _
      · rw [if_neg c, if_neg (by rw [decide_eq_false c]; decide)]
        show unionM (_ ++ []) = _
        rw [List.append_nil]
    refine sv_if (b := decide (t.2.1 ∈ letM n f)) (et_test (ev_is (ev_op (ev_var rfl) (ev_var rfl) (rv_isL (sq_of hl) rfl (flat_int _))) (congrArg V.bl inV_int))) (fun e1 => ?_) (fun e1 => ?_) H1 e
    · rw [if_pos (of_decide_eq_true e1)] at hstep
      refine sv_asg1 (ev_orN (ev_var rfl) (ev_LL (ev_var rfl) (hA.sub t hm) (hW.2.2.2 t hm).2.2.lw)) fun H2 e2 => ⟨⟨some (.int t.2.1), some (.ref t.2.2.1), ?_⟩, e2⟩
      rw [hstep]
      rfl
    · rw [if_neg (of_decide_eq_false e1)] at hstep
      refine sv_nx fun H2 e2 => ⟨⟨some (.int t.2.1), some (.ref t.2.2.1), ?_⟩, e2⟩
      rw [hstep]
      rfl
  · rintro σ' ⟨z, y, rfl⟩
    rw [List.length_map, List.take_length]
    exact sv_ret (ev_var rfl) q
end
end Fk

set_option Elab.async false
set_option linter.all false
set_option maxRecDepth 100000
set_option maxHeartbeats 4000000
set_option exponentiation.threshold 3000
namespace Fk
open PySem PySem.Spec PyProof.Rows L2 Evl
theorem All2.zip {α β : Type} {R : α → β → Prop} : ∀ {xs : List α} {ys : List β}, All2 R xs ys → ∃ zs : List (α × β), zs.map Prod.fst = xs ∧ zs.map Prod.snd = ys ∧ ∀ z ∈ zs, R z.1 z.2
  | _, _, .nil => ⟨[], rfl, rfl, fun _ h => nomatch h⟩
  | _, _, .cons (a := a) (b := b) h t => let ⟨zs, e1, e2, e3⟩ := All2.zip t; ⟨(a, b) :: zs, by rw [List.map_cons, e1], by rw [List.map_cons, e2], fun z hz => by
      rcases List.mem_cons.mp hz with rfl | q
      · exact h
      · exact e3 z q⟩
theorem num_words {k : Kd} (h : k.word = "number" ∨ k.word = "check" ∨ k.word = "spot") : inV (.str k.word) [.str "number", .str "check", .str "spot"] = true := by
  rcases h with h | h | h <;> rw [h] <;> rfl
section
variable {P : Program} {w : World} {K : PySem.W.Frag} {mg : Str → Option Value} {base : Heap} {σ : L2.St} {H H' : Hp} {te ta tb tc tl : TE} {tt : TT} {tu tz : TS} {D : Ends} {f : Fld} {n : Nat}
theorem sum_pow (l : List Nat) (g : Nat → Nat) : (l.map fun m => ((g m : Nat) : Int)).sum = ((l.map g).sum : Nat) := by
  induction l with
  | nil => rfl
  | cons a r ih =>
    rw [List.map_cons, List.sum_cons, List.map_cons, List.sum_cons, ih]
    push_cast
    rfl
theorem ev_sumways {hi : Int} {loose : Bool} {j : Nat} (hj : ∀ v : V, ((wipe σ [j]).set j (some v))[j]? = some (some v)) (ha : Ev ta σ H (.int hi)) (hb : Ev tb σ H (.bl loose)) :
    Ev (tCB (rSum K) (tCons (tLc (iList K (tFn (Sp2 (aSevens K)) (tCons ta (tCons tb tNil)))) (gName j) tYes (tOp (rI CShl fun i j => .int (i * 2 ^ j.toNat)) (tC (.int 1)) (tCB (rLenV K) (tCons (tOp (rIxT K) (tVar j) (tC (.int 1))) tNil))) [j]) tNil)) σ H (vN (sevM hi loose)) := fun H0 e Q q =>
  ha H0 e _ fun H1 e1 => hb H1 (e.trans e1) _ fun H2 e2 => ⟨_, _, rfl, hi, loose, rfl, rfl, fun p H3 xs hp e3 h3 hw => by
    obtain ⟨zs, z1, z2, z3⟩ := hw.zip
    have hlen : zs.length ≤ 40000 := by
      have : (zs.map Prod.fst).length = (sevWays hi loose).length := by rw [z1]
      rw [List.length_map] at this
      rw [this]
      unfold sevWays
      refine Nat.le_trans (List.length_filter_le _ _) ?_
      rw [List.length_map, List.length_range]
      cases loose <;> decide
    refine ⟨p, rfl, ⟨xs, sq_of h3⟩, fun Dl hD => ?_⟩
    subst z2
    refine comp_core (Q := fun v H' => rSum K [v] H' Q) (K := K) (H0 := H3) (H := H3) (Ex.refl _) (Ex.refl _) (xs := zs) (val := Prod.snd) (g := fun z => vN (2 ^ (8 * z.1))) (p := fun _ => true) (sq_of h3) hlen (fun _ _ => et_yes) (fun z hz _ => ?_) hD fun H4 hD4 e4 h4 => ?_
    · obtain ⟨q1, t, m, o, ys, ez, a, b, c⟩ := z3 z hz
      refine ev_shl8 (ev_is (ev_lenV (ev_op (ev_var (v := z.2) ?_) ev_c (by rw [ez]; exact rv_ixT (st_of a) (atI_nat (j := 1) rfl))) (lenV_tup (st_of b))) (by rw [c])) ?_
      · exact hj _
      · have := hw.len
        have h5 : z.1 ∈ sevWays hi loose := by rw [← z1]; exact List.mem_map.mpr ⟨z, hz, rfl⟩
        obtain ⟨i, h2, e⟩ := List.mem_map.mp (List.mem_filter.mp h5).1
        have h3 := List.mem_range.mp h2
        have : i < 5 := by cases loose <;> simp at h3 <;> omega
        omega
    · refine ⟨Dl, (sevWays hi loose).map fun m => ((2 ^ (8 * m) : Nat) : Int), rfl, sq_of (by rw [h4, map_all, ← z1, List.map_map, List.map_map]; rfl), ?_⟩
      rw [sum_pow]
      exact q H4 (((e1.trans e2).trans e3).trans e4)⟩
theorem lenM_by {X : Nat} (hk : lenM n f = X) {Q : VK} (q : RetV (vN (lenM n f)) H Q) : RetV (vN X) H Q := hk ▸ q
theorem ok_lengths_of (T : Tx K mg) (G_list_lengths : Pr P w K mg base (10 * n + 5) "list_lengths" (Sp1 (aLL K n))) : Pr P w K mg base (10 * n + 9) "lengths_of" (Sp2 (aLen K n)) := by
  have G_kind := pr_kind (P := P) (w := w) (base := base) T
  have G_sevens := ok_sevens (P := P) (w := w) (base := base) T
  have G_cut := ok_cut (P := P) (w := w) (base := base) T
  have G_text_lengths := ok_text_lengths (P := P) (w := w) (base := base) (n := n) T
  have G_row_lengths := ok_row_lengths T G_list_lengths
  have G_case_lengths := ok_case_lengths T G_list_lengths
  refine pr2 T.d_lengths_of T.g_lengths_of sc_lengths_of (fun _ _ _ _ _ _ us hl => match us, hl with | [_, _], _ => rfl) fun a b H Q h cdv A outer s E hr hu => ?_
  obtain ⟨f, rfl, hA, hW, h0, q⟩ := h
  have hbd := fun x => @letM_bd n f x hW
  have hWW := hW
  unfold FW FWB at hWW
  have ob := hA.ob
  refine ⟨_, (pss_cons (ps_if (pt_cmpR (op_inK (K := K) rfl) (pe_mU G_kind (hr.mono (by omega)) (pv 0)) (pe_tup (pa_cons pe_str (pa_cons pe_str (pa_cons pe_str pa_nil)))) (by rfl)) (pss_one (ps_ret (pe_op op_shlW pe_int (fldK (K := K) rfl (pv 0) rfl)))) pss_nil)
      (pss_cons (ps_if (pt_cmpR op_eq (pe_mU G_kind (hr.mono (by omega)) (pv 0)) pe_str (by rfl)) (pss_one (ps_ret (pe_callB (sumK (K := K) rfl rfl) (by rfl) T.b_sum (by decide +kernel) (pa_cons (pe_lc (own := [("way", 4)]) rfl sc_lengths_of.nd (piLK (K := K) rfl (pe_fn G_sevens (hr.mono (by omega)) (by rfl) (pa_cons (fldK (K := K) rfl (pv 0) rfl) (pa_cons (fldK (K := K) rfl (pv 0) rfl) pa_nil)))) (blkOk_by (N := ["field", "let", "found", "count", "way"]) (sc := defScope s_lengths_of) (by decide +kernel)) (fun _ _ _ _ _ => (pg_name (i := 4) sc_lengths_of.nd rfl (Or.inl rfl))) (fun _ _ _ _ _ => pts_nil) (fun _ _ _ _ _ => (pe_op op_shlW pe_int (pe_callB (lenK (K := K) rfl) (by rfl) T.b_len (by decide +kernel) (pa_cons (pe_ix (ixTK (K := K) rfl) (pv 4) pe_int (fun _ _ => rfl)) pa_nil))))) pa_nil)))) pss_nil)
      (pss_cons (ps_if (pt_cmpR op_eq (pe_mU G_kind (hr.mono (by omega)) (pv 0)) pe_str (by rfl)) (pss_one (ps_ret (pe_fn G_text_lengths (hr.mono (by omega)) (by rfl) (pa_cons (pv 0) (pa_cons (pv 1) pa_nil))))) pss_nil)
      (pss_cons (ps_if (pt_cmpR op_eq (pe_mU G_kind (hr.mono (by omega)) (pv 0)) pe_str (by rfl)) (pss_one (ps_ret (pe_fn G_row_lengths (hr.mono (by omega)) (by rfl) (pa_cons (pv 0) (pa_cons (pv 1) pa_nil))))) pss_nil)
      (pss_cons (ps_if (pt_cmpR op_eq (pe_mU G_kind (hr.mono (by omega)) (pv 0)) pe_str (by rfl)) (pss_one (ps_ret (pe_fn G_case_lengths (hr.mono (by omega)) (by rfl) (pa_cons (pv 0) (pa_cons (pv 1) pa_nil))))) pss_nil)
      (pss_cons (ps_if (pt_cmpR op_eq (pe_mU G_kind (hr.mono (by omega)) (pv 0)) pe_str (by rfl)) (pss_one (ps_ret (pe_fn G_list_lengths (hr.mono (by omega)) (by rfl) (pa_cons (fldK (K := K) rfl (pv 0) rfl) pa_nil)))) pss_nil)
      (pss_cons (ps_set (i := 2) sc_lengths_of.nd rfl (.inl rfl) pe_int)
      (pss_cons (ps_if (pt_cmpR op_eq (pe_mU G_kind (hr.mono (by omega)) (pv 0)) pe_str (by rfl)) (pss_cons (ps_for PassesOwn.never rfl (piLK (K := K) rfl (pv 1)) (pg_name (i := 3) sc_lengths_of.nd rfl (.inl rfl)) (pss_one (ps_set (i := 2) sc_lengths_of.nd rfl (.inl rfl) (pe_op op_or (pv 2) (pe_op op_shlW pe_int (pe_op op_mul (pe_gint (by rfl) T.c_BYTE) (pv 3)))))))
      (pss_one (ps_ret (pe_fn G_cut (hr.mono (by omega)) (by rfl) (pa_cons (pv 2) pa_nil))))) pss_nil)
      (pss_cons (ps_if (pt_cmpR (op_inK (K := K) rfl) pe_int (pv 1) (by rfl)) (pss_one (ps_set (i := 2) sc_lengths_of.nd rfl (.inl rfl) pe_int)) pss_nil)
      (pss_cons (ps_if (pt_cmpR (op_inK (K := K) rfl) pe_int (pv 1) (by rfl)) (pss_one (ps_set (i := 2) sc_lengths_of.nd rfl (.inl rfl) (pe_op op_or (pv 2) (pe_fn G_list_lengths (hr.mono (by omega)) (by rfl) (pa_cons (fldK (K := K) rfl (pv 0) rfl) pa_nil))))) pss_nil)
      (pss_one (ps_ret (pv 2))))))))))))), ?_⟩
  have kw : ∀ s : Str, f.k.word = s → Ev (tMU (spKind K) (tVar 0)) (start ["field", "let", "found", "count", "way"] [f.v, b]) H (.str s) := fun s hs => ev_kindW (ev_var rfl) ob hs
  have kwf : ∀ (s : Str) (z y : Option V), f.k.word = s → Ev (tMU (spKind K) (tVar 0)) [some f.v, some b, z, y, none] H (.str s) := fun s z y hs => ev_kindW (ev_var rfl) ob hs
  have sk1 : ∀ {s : Str} {b0 : Bool} {tz : TS}, f.k.word = s → inV (.str s) [.str "number", .str "check", .str "spot"] = b0 → EvT (tTest (tOp (rIn K false) (tMU (spKind K) (tVar 0)) (tTup (tCons (tC (.str "number")) (tCons (tC (.str "check")) (tCons (tC (.str "spot")) tNil)))))) (start ["field", "let", "found", "count", "way"] [f.v, b]) H b0 :=
    fun hs hb => et_in (kw _ hs) (ea_cons ev_c (ea_cons ev_c (ea_cons ev_c ea_nil))) (by decide) rfl rfl hb
  cases hk : f.k with
  | num w0 sg lt lo hi df c =>
    refine (sv_takeT (sk1 (tz := tNext) (s := "number") (by rw [hk]; rfl) rfl) ?_).here
    rw [hk] at hWW
    have hwd : f.k.width = w0 := by rw [hk]; rfl
    refine sv_ret (ev_shl8 (hwd ▸ ev_width T (ev_var rfl) ob (.inr (by rw [hk]; rfl)) (.inr (.inr (by rw [hk]; rfl)))) (by have := hWW.2.1; omega)) (lenM_by ?_ q)
    unfold lenM lenB; rw [hk]
  | chk how w0 fi =>
    refine (sv_takeT (sk1 (tz := tNext) (s := "check") (by rw [hk]; rfl) rfl) ?_).here
    rw [hk] at hWW
    have hwd : f.k.width = w0 := by rw [hk]; rfl
    refine sv_ret (ev_shl8 (hwd ▸ ev_width T (ev_var rfl) ob (.inl (by rw [hk]; rfl)) (.inr (.inl (by rw [hk]; rfl)))) (by have := hWW.2; omega)) (lenM_by ?_ q)
    unfold lenM lenB; rw [hk]
  | spt w0 tg =>
    refine (sv_takeT (sk1 (tz := tNext) (s := "spot") (by rw [hk]; rfl) rfl) ?_).here
    rw [hk] at hWW
    have hwd : f.k.width = w0 := by rw [hk]; rfl
    refine sv_ret (ev_shl8 (hwd ▸ ev_width T (ev_var rfl) ob (.inl (by rw [hk]; rfl)) (.inr (.inl (by rw [hk]; rfl)))) (by have := hWW.2; omega)) (lenM_by ?_ q)
    unfold lenM lenB; rw [hk]
  | sev hi loose df =>
    refine (sv_skipT (sk1 (tz := tNext) (s := "seven") (by rw [hk]; rfl) rfl) ?_).here
    refine sv_take (kw "seven" (by rw [hk]; rfl)) rfl ?_
    refine sv_ret (ev_sumways (hi := hi) (loose := loose) (fun _ => rfl) ?_ ?_) (lenM_by ?_ q)
    · refine ev_at T (ev_var rfl) ob ?_
      obtain ⟨p, nm, k, l, ss⟩ := f
      subst hk
      exact ⟨rfl, T.na_Seven_high⟩
    · refine ev_at T (ev_var rfl) ob ?_
      obtain ⟨p, nm, k, l, ss⟩ := f
      subst hk
      exact ⟨rfl, T.na_Seven_loose⟩
    · unfold lenM lenB; rw [hk]
  | txt hw df =>
    refine (sv_skipT (sk1 (tz := tNext) (s := "text") (by rw [hk]; rfl) rfl) ?_).here
    refine sv_skip (kw "text" (by rw [hk]; rfl)) (by decide +kernel) (sv_take (kw "text" (by rw [hk]; rfl)) rfl ?_)
    exact sv_ret (ev_lenK (ev_var rfl) (ev_var rfl) ⟨hw, df, hk⟩ hA hW h0) q
  | row hw mk =>
    refine (sv_skipT (sk1 (tz := tNext) (s := "row") (by rw [hk]; rfl) rfl) ?_).here
    refine sv_skip (kw "row" (by rw [hk]; rfl)) (by decide +kernel) (sv_skip (kw "row" (by rw [hk]; rfl)) (by decide +kernel) (sv_take (kw "row" (by rw [hk]; rfl)) rfl ?_))
    exact sv_ret (ev_lenK (ev_var rfl) (ev_var rfl) ⟨hw, mk, hk⟩ hA hW h0) q
  | cho c lo hi =>
    refine (sv_skipT (sk1 (tz := tNext) (s := "choice") (by rw [hk]; rfl) rfl) ?_).here
    refine sv_skip (kw "choice" (by rw [hk]; rfl)) (by decide +kernel) (sv_skip (kw "choice" (by rw [hk]; rfl)) (by decide +kernel) (sv_skip (kw "choice" (by rw [hk]; rfl)) (by decide +kernel) (sv_take (kw "choice" (by rw [hk]; rfl)) rfl ?_)))
    exact sv_ret (ev_lenK (ev_var rfl) (ev_var rfl) ⟨c, lo, hi, hk⟩ hA hW h0) q
  | grp =>
    have hone : f.k.one = true := by rw [hk]; rfl
    rw [hk] at hWW
    refine (sv_skipT (sk1 (tz := tNext) (s := "group") (by rw [hk]; rfl) rfl) ?_).here
    refine sv_skip (kw "group" (by rw [hk]; rfl)) (by decide +kernel) (sv_skip (kw "group" (by rw [hk]; rfl)) (by decide +kernel) (sv_skip (kw "group" (by rw [hk]; rfl)) (by decide +kernel) (sv_skip (kw "group" (by rw [hk]; rfl)) (by decide +kernel) (sv_take (kw "group" (by rw [hk]; rfl)) rfl ?_))))
    refine sv_ret (ev_LL (ev_fields T (ev_var rfl) ob hone) (hA.one hone) (WD.lw hWW)) (lenM_by ?_ q)
    unfold lenM lenB; rw [hk]
  | may c lo hi =>
    have hone : f.k.one = true := by rw [hk]; rfl
    rw [hk] at hWW
    obtain ⟨l, rfl, hl⟩ := h0 (by rw [hk]; exact fun z => nomatch z)
    refine (sv_skipT (sk1 (tz := tNext) (s := "maybe") (by rw [hk]; rfl) rfl) ?_).here
    refine sv_skip (kw "maybe" (by rw [hk]; rfl)) (by decide +kernel) (sv_skip (kw "maybe" (by rw [hk]; rfl)) (by decide +kernel) (sv_skip (kw "maybe" (by rw [hk]; rfl)) (by decide +kernel) (sv_skip (kw "maybe" (by rw [hk]; rfl)) (by decide +kernel) (sv_skip (kw "maybe" (by rw [hk]; rfl)) (by decide +kernel) ?_))))
    refine sv_asg ev_c ?_
    refine sv_skip (kwf "maybe" _ _ (by rw [hk]; rfl)) (by decide +kernel) ?_
    have el : lenM n f = (if (0 : Int) ∈ letM n f then 1 else 0) ||| (if (1 : Int) ∈ letM n f then LM n f.fs else 0) := by unfold lenM lenB; rw [hk]
    have hin : ∀ (i : Int) (z : Option V), EvT (tTest (tOp (rIn K false) (tC (.int i)) (tVar 1))) [some f.v, some (.ref l), z, none, none] H (decide (i ∈ letM n f)) := fun i z => et_test (ev_is (ev_op ev_c (ev_var rfl) (rv_isL (sq_of hl) rfl (flat_int _))) (congrArg V.bl inV_int))
    have q2 := lenM_by el q
    have fin : ∀ m : Nat, m = (if (0 : Int) ∈ letM n f then 1 else 0) → SV (tSeq (tIfS (tTest (tOp (rIn K false) (tC (.int 1)) (tVar 1))) (tAsg (tOp (rI0 fun i j => .int (Builtin.bitOr i j)) (tVar 2) (tFn (Sp1 (aLL K n)) (tCons (tFld K (tVar 0) "fields") tNil))) (gName 2)) tNext) (tRet (tVar 2))) { nx := fun _ H' => Q .non H', rt := Q } [some f.v, some (.ref l), some (vN m), none, none] H := by
      intro m hm
      refine sv_when (hin 1 _) (fun e => ?_) (fun e => ?_)
      · refine sv_asg1 (ev_orN (ev_var rfl) (ev_LL (ev_fields T (ev_var rfl) ob hone) (hA.one hone) hWW.2.2.2.lw)) fun H1 e1 => (sv_ret (D := { nx := fun _ H' => Q .non H', rt := Q }) (ev_var (i := 2) rfl) fun H2 e2 => ?_) H1 (Ex.refl _)
        have := q2 H2 (e1.trans e2)
        rw [if_pos (of_decide_eq_true e)] at this
        rw [hm]
        exact this
      · refine sv_ret (ev_var rfl) fun H2 e2 => ?_
        have := q2 H2 e2
        rw [if_neg (of_decide_eq_false e), Nat.or_zero] at this
        rw [hm]
        exact this
    refine sv_when (hin 0 _) (fun e => ?_) (fun e => ?_)
    · exact sv_asg1 ev_c fun H1 e1 => fin 1 (by rw [if_pos (of_decide_eq_true e)]) H1 e1
    · exact fin 0 (by rw [if_neg (of_decide_eq_false e)])
  | siz c lo hi gr =>
    obtain ⟨l, rfl, hl⟩ := h0 (by rw [hk]; exact fun z => nomatch z)
    refine (sv_skipT (sk1 (tz := tNext) (s := "sized") (by rw [hk]; rfl) rfl) ?_).here
    refine sv_skip (kw "sized" (by rw [hk]; rfl)) (by decide +kernel) (sv_skip (kw "sized" (by rw [hk]; rfl)) (by decide +kernel) (sv_skip (kw "sized" (by rw [hk]; rfl)) (by decide +kernel) (sv_skip (kw "sized" (by rw [hk]; rfl)) (by decide +kernel) (sv_skip (kw "sized" (by rw [hk]; rfl)) (by decide +kernel) ?_))))
    refine sv_asg ev_c ?_
    refine sv_take (kwf "sized" _ _ (by rw [hk]; rfl)) rfl ?_
    have el : lenM n f = cutM (unionM ((letM n f).map fun c => 2 ^ (8 * c.toNat))) := by unfold lenM lenB; rw [hk]
    have q2 := lenM_by el q
    refine sv_forLn (ev_var rfl) (sq_of hl) (fun i σ' => ∃ z, σ' = [some f.v, some (.ref l), some (vN (unionM (((letM n f).take i).map fun c => 2 ^ (8 * c.toNat)))), z, none]) ⟨none, rfl⟩ ?_ ?_
    · rintro i x σ' hx ⟨z, rfl⟩
      obtain ⟨y, hy, hm, rfl⟩ := map_get hx
      have hb := hbd y hm
      refine sv_asg1 (ev_orN (ev_var rfl) (ev_is (ev_op ev_c (ev_mul8 (ev_is (ev_var rfl) (int_nat hb.1))) (rv_shlN (i := 1) (n := 1) (by decide) (by omega))) (by rw [Nat.shiftLeft_eq, Nat.one_mul]))) fun H1 e2 => ⟨⟨some (.int y), ?_⟩, e2⟩
      rw [unionM_take hy]
      rfl
    · rintro σ' ⟨z, rfl⟩
      rw [List.length_map, List.take_length]
      exact sv_ret (ev_cut (ev_var rfl)) q2
theorem ok_list_lengths (T : Tx K mg) (G_lengths_of : Pr P w K mg base (10 * n + 9) "lengths_of" (Sp2 (aLen K n))) (G_let_of : Pr P w K mg base (10 * n + 9) "let_of" (Sp2 (aLet K n))) : Pr P w K mg base (10 * (n + 1) + 5) "list_lengths" (Sp1 (aLL K (n + 1))) := by
  have G_summed := ok_summed (P := P) (w := w) (base := base) T
  refine pr1 (k := 10 * n + 14) T.d_list_lengths T.g_list_lengths sc_list_lengths (fun _ _ _ _ _ _ us hl => match us, hl with | [_], _ => rfl) fun a H Q h cdv A outer s E hr hu => ?_
  obtain ⟨l, fs, rfl, hL, hW, q⟩ := h
  refine ⟨_, (pss_cons (ps_set (i := 1) sc_list_lengths.nd rfl (.inl rfl) pe_int)
      (pss_cons (ps_for PassesOwn.never rfl (piLK (K := K) rfl (pv 0)) (pg_name (i := 2) sc_list_lengths.nd rfl (.inl rfl)) (pss_one (ps_set (i := 1) sc_list_lengths.nd rfl (.inl rfl) (pe_fn G_summed (hr.mono (by omega)) (by rfl) (pa_cons (pv 1) (pa_cons (pe_fn G_lengths_of (hr.mono (by omega)) (by rfl) (pa_cons (pv 2) (pa_cons (pe_fn G_let_of (hr.mono (by omega)) (by rfl) (pa_cons (pv 0) (pa_cons (pv 2) pa_nil))) pa_nil))) pa_nil))))))
      (pss_one (ps_ret (pv 1))))), ?_⟩
  have eq1 : LM (n + 1) fs = fs.foldl (fun a f => sumM a (lenM n f)) 1 := rfl
  refine (sv_asg ev_c ?_).here
  have hlt : ∀ xs : List Fld, xs.foldl (fun a f => sumM a (lenM n f)) 1 < 2 ^ 2041 := fun xs => LM_lt (n + 1) xs
  refine sv_forLn (ev_var rfl) hL.seq (fun i σ' => ∃ z, σ' = [some (.ref l), some (vN ((fs.take i).foldl (fun a f => sumM a (lenM n f)) 1)), z]) ⟨none, rfl⟩ ?_ ?_
  · rintro i x σ' hx ⟨z, rfl⟩
    obtain ⟨f, hf, hm, rfl⟩ := map_get hx
    have hfA := hL.2 f hm
    have hfW := hW.fw f hm
    have hlen : Ev (tFn (Sp2 (aLen K n)) (tCons (tVar 2) (tCons (tFn (Sp2 (aLet K n)) (tCons (tVar 0) (tCons (tVar 2) tNil))) tNil))) ([some (.ref l), some (vN ((fs.take i).foldl (fun a f => sumM a (lenM n f)) 1)), some f.v]) H (vN (lenM n f)) := by
      cases hb : f.k.bds with
      | none => exact ev_len0 (ev_var rfl) (ev_fn (z := .non) (ea_cons (ev_var rfl) (ea_cons (ev_var rfl) ea_nil)) fun H1 e Q q E => ⟨_, _, rfl, l, fs, f, rfl, rfl, hL.mono e, hW, hm, fun _ => q, fun z => absurd hb z⟩) hfA hfW hb
      | some b => exact ev_len1 (ev_var rfl) (el_fn (ea_cons (ev_var rfl) (ea_cons (ev_var rfl) ea_nil)) fun H1 e Q q E => ⟨_, _, rfl, l, fs, f, rfl, rfl, hL.mono e, hW, hm, fun z => by rw [hb] at z; (exact nomatch z), fun _ p H2 hp e h2 => q p H2 hp e h2⟩) hfA hfW
    refine sv_asg1 (ev_summed (ev_var rfl) hlen (hlt _) (lenM_lt hfW)) fun H1 e1 => ⟨⟨some f.v, ?_⟩, e1⟩
    rw [foldl_take hf]
    rfl
  · rintro σ' ⟨z, rfl⟩
    rw [List.length_map, List.take_length]
    exact sv_ret (ev_var rfl) q
/-- the lengths, at all depths -/
theorem lens (T : Tx K mg) : ∀ n, Pr P w K mg base (10 * n + 5) "list_lengths" (Sp1 (aLL K n)) ∧ Pr P w K mg base (10 * n + 8) "lets_of" (Sp2 (aLets K n))
  | 0 => by
    have h0 : Pr P w K mg base (10 * 0 + 5) "list_lengths" (Sp1 (aLL K 0)) := pr1 (k := 4) T.d_list_lengths T.g_list_lengths sc_list_lengths (fun _ _ _ _ _ _ us hl => match us, hl with | [_], _ => rfl) fun a H Q h => by
      obtain ⟨l, fs, rfl, hL, _⟩ := h
      exact hL.elim
    have hi : Pr P w K mg base (10 * 0 + 6) "inner_lengths" (Sp1 (aInner K 0)) := pr1 (k := 5) T.d_inner_lengths T.g_inner_lengths sc_inner_lengths (fun _ _ _ _ _ _ us hl => match us, hl with | [_], _ => rfl) fun a H Q h => by
      obtain ⟨f, c, lo, hi, gr, rfl, hk, hA, _⟩ := h
      exact (hA.one (by rw [hk]; rfl) : False).elim
    exact ⟨h0, ok_lets_of T (ok_possible T hi)⟩
  | n + 1 => by
    obtain ⟨h1, h2⟩ := lens T n
    have g1 := ok_lengths_of T h1
    have g2 := ok_list_lengths T g1 (ok_let_of T h2)
    exact ⟨g2, ok_lets_of T (ok_possible T (ok_inner T n rfl g2 g1))⟩
end
end Fk

set_option Elab.async false
set_option linter.all false
set_option maxRecDepth 100000
set_option maxHeartbeats 4000000
set_option exponentiation.threshold 3000
namespace Fk
open PySem PySem.Spec PyProof.Rows L2 Evl
/-! ### fitting values stay fitting -/
theorem SumB.imp {F G : Fld → Nat → Prop} : ∀ {fs : List Fld} {W : Nat}, SumB F fs W → (∀ f ∈ fs, ∀ w, F f w → G f w) → SumB G fs W
  | [], _, h, _ => h
  | f :: r, _, ⟨a, b, h1, h2, e⟩, k => ⟨a, b, k f (List.mem_cons_self ..) a h1, h2.imp fun g hg => k g (List.mem_cons_of_mem _ hg), e⟩
theorem SumB.two {F : Fld → Nat → Prop} : ∀ {fs : List Fld} {W : Nat}, SumB F fs W ↔ ∃ ws, All2 F fs ws ∧ W = ws.sum
  | [], W => ⟨fun h => ⟨[], .nil, h⟩, fun ⟨ws, h, e⟩ => by cases h; exact e⟩
  | f :: r, W => ⟨fun ⟨a, b, h1, h2, e⟩ => by
      obtain ⟨ws, h3, e3⟩ := SumB.two.mp h2
      exact ⟨a :: ws, .cons h1 h3, by rw [List.sum_cons, e, e3]⟩, fun ⟨ws, h, e⟩ => by
      cases h with
      | cons h1 h2 => exact ⟨_, _, h1, SumB.two.mpr ⟨_, h2, rfl⟩, by rw [e, List.sum_cons]⟩⟩
section
variable {H H' : Hp} {D D' G G' : List Fld → V → Nat → Prop}
theorem FOkB.imp {f : Fld} {u : V} {w : Nat} (e : Ex H H') (hD : ∀ fs u w, D fs u w → D' fs u w) (hG : ∀ fs u w, G fs u w → G' fs u w) (h : FOkB H D G f u w) : FOkB H' D' G' f u w := by
  unfold FOkB at *
  cases hk : f.k with
  | num => rw [hk] at h; exact h
  | sev => rw [hk] at h; exact h
  | txt => rw [hk] at h; exact h
  | chk => rw [hk] at h; exact h
  | spt => rw [hk] at h; exact h
  | grp => rw [hk] at h; exact hD _ _ _ h
  | row hw mk =>
    rw [hk] at h
    obtain ⟨p, xs, Ws, h1, h2, h3, h4, h5, h6⟩ := h
    exact ⟨p, xs, Ws, h1, e _ _ h2, h3, h4, h5.imp (hD _), h6⟩
  | cho c lo hi =>
    rw [hk] at h
    obtain ⟨p, d, s, hs, h1, h2, h3, h4, h5⟩ := h
    exact ⟨p, d, s, hs, h1, e _ _ h2, h3, h4, hD _ _ _ h5⟩
  | may c lo hi =>
    rw [hk] at h
    rcases h with h | ⟨h1, h2, h3⟩
    · exact .inl h
    · exact .inr ⟨h1, h2, hD _ _ _ h3⟩
  | siz c lo hi gr =>
    rw [hk] at h
    obtain ⟨h1, h2, h3, h4, h5⟩ := h
    refine ⟨h1, h2, h3, h4, ?_⟩
    cases gr with
    | true => exact hG _ _ _ h5
    | false => exact hD _ _ _ h5
theorem PVB.imp {kvs : Kvs} {fs : List Fld} {W : Nat} (k : ∀ f u w, FOkB H D G f u w → FOkB H' D' G' f u w) (h : PVB H D G kvs fs W) : PVB H' D' G' kvs fs W := SumB.imp h fun f _ w hf => by
  cases ht : f.k.told with
  | true =>
    rw [ht] at hf
    obtain ⟨u, h1, h2⟩ := hf
    exact ⟨u, h1, k _ _ _ h2⟩
  | false => rw [ht] at hf; exact hf
end
theorem DG.mono {H H' : Hp} (e : Ex H H') : ∀ {n : Nat}, (∀ fs u w, DOk H n fs u w → DOk H' n fs u w) ∧ ∀ fs u w, GOk H n fs u w → GOk H' n fs u w
  | 0 => ⟨fun _ _ _ h => h, fun _ _ _ h => h⟩
  | n + 1 => by
    obtain ⟨h1, h2⟩ := DG.mono e (n := n)
    have k : ∀ f u w, FOkB H (DOk H n) (GOk H n) f u w → FOkB H' (DOk H' n) (GOk H' n) f u w := fun f u w h => h.imp e h1 h2
    refine ⟨fun fs u w ⟨p, kvs, a, b, c, d, f⟩ => ⟨p, kvs, a, e _ _ b, c, d, f.imp k⟩, fun fs u w ⟨p, kvs, j, x, a, b, c, d, f, g, i⟩ => ⟨p, kvs, j, x, a, e _ _ b, c, d, f.imp k, g, ?_⟩⟩
    rcases i with i | ⟨i1, q, bs, i2, i3, i4⟩
    · exact .inl i
    · exact .inr ⟨i1, q, bs, i2, e _ _ i3, i4⟩
theorem FOk.mono {H H' : Hp} {n : Nat} {f : Fld} {u : V} {w : Nat} (e : Ex H H') (h : FOk H n f u w) : FOk H' n f u w := h.imp e (DG.mono e).1 (DG.mono e).2
/-! ### what fits has a length -/
theorem FOkB.len {H : Hp} {D G : List Fld → V → Nat → Prop} {L M : List Fld → Nat → Prop} (hD : ∀ fs u w, D fs u w → L fs w) (hG : ∀ fs u w, G fs u w → M fs w) {f : Fld} {u : V} {w : Nat} (h : FOkB H D G f u w) : LenB L M f w := by
  unfold FOkB at h
  unfold LenB
  cases hk : f.k with
  | num => rw [hk] at h; obtain ⟨i, _, _, _, e⟩ := h; exact e
  | sev => rw [hk] at h; obtain ⟨i, _, h1, h2⟩ := h; exact ⟨i, h1, h2⟩
  | txt => rw [hk] at h; obtain ⟨s, _, _, h1, _, h2⟩ := h; exact ⟨_, h1, h2⟩
  | chk => rw [hk] at h; exact h.elim
  | spt => rw [hk] at h; exact h.elim
  | grp => rw [hk] at h; exact hD _ _ _ h
  | row hw mk =>
    rw [hk] at h
    obtain ⟨p, xs, Ws, h1, h2, h3, h4, h5, h6⟩ := h
    refine ⟨Ws, h5.len ▸ h3, fun W hW => ?_, h6⟩
    obtain ⟨i, hi⟩ := List.mem_iff_getElem?.mp hW
    obtain ⟨x, _, hx⟩ := h5.get hi
    exact hD _ _ _ hx
  | cho c lo hi =>
    rw [hk] at h
    obtain ⟨p, d, s, hs, h1, h2, h3, h4, h5⟩ := h
    exact ⟨s, hs, h3, h4, hD _ _ _ h5⟩
  | may c lo hi =>
    rw [hk] at h
    rcases h with h | ⟨h1, h2, h3⟩
    · exact .inl h.2
    · exact .inr ⟨h1, h2, hD _ _ _ h3⟩
  | siz c lo hi gr =>
    rw [hk] at h
    obtain ⟨h1, h2, h3, h4, h5⟩ := h
    refine ⟨h1, h2, h3, h4, ?_⟩
    cases gr with
    | true => exact hG _ _ _ h5
    | false => exact hD _ _ _ h5
theorem nt_len {L M : List Fld → Nat → Prop} {f : Fld} {w : Nat} (h : f.k.told = false) (e : w = f.k.width) : LenB L M f w := by
  obtain ⟨p, nm, k, l, ss⟩ := f
  cases k with
  | num => exact e
  | chk => exact e
  | spt => exact e
  | _ => cases h
theorem PVB.len {H : Hp} {D G : List Fld → V → Nat → Prop} {L M : List Fld → Nat → Prop} (hD : ∀ fs u w, D fs u w → L fs w) (hG : ∀ fs u w, G fs u w → M fs w) {kvs : Kvs} {fs : List Fld} {W : Nat} (h : PVB H D G kvs fs W) : SumB (LenB L M) fs W :=
  SumB.imp h fun f _ w hf => by
    cases ht : f.k.told with
    | true =>
      rw [ht] at hf
      obtain ⟨u, h1, h2⟩ := hf
      exact h2.len hD hG
    | false => rw [ht] at hf; exact nt_len ht hf
theorem DG.len {H : Hp} : ∀ n, (∀ fs u w, DOk H n fs u w → LL n fs w) ∧ ∀ fs u w, GOk H n fs u w → LG n fs w
  | 0 => ⟨fun _ _ _ h => h, fun _ _ _ h => h⟩
  | n + 1 => by
    obtain ⟨h1, h2⟩ := DG.len (H := H) n
    refine ⟨fun fs u w ⟨p, kvs, a, b, c, d, f⟩ => f.len h1 h2, fun fs u w ⟨p, kvs, j, x, a, b, c, d, f, g, i⟩ => ?_⟩
    rcases i with ⟨_, i⟩ | ⟨i1, q, bs, _, _, _, _, i⟩
    · exact ⟨j, x, 0, f.len h1 h2, fun f hf => (g f hf).1, .inl rfl, i⟩
    · exact ⟨j, x, bs.length, f.len h1 h2, fun f hf => (g f hf).1, .inr i1, i⟩
theorem FOk.len {H : Hp} {n : Nat} {f : Fld} {u : V} {w : Nat} (h : FOk H n f u w) : LF n f w := FOkB.len (DG.len n).1 (DG.len n).2 h
/-! ### which fields are told -/
theorem mem_stV {c : Str} {fs : List Fld} : inV (.str c) (fs.map fun g => stV g.k) = true ↔ ∃ g ∈ fs, g.k.st = some c := by
  unfold inV
  rw [List.any_map, List.any_eq_true]
  constructor
  · rintro ⟨g, hg, e⟩
    refine ⟨g, hg, ?_⟩
    have e : eqV (stV g.k) (.str c) = true := e
    unfold stV at e
    cases hs : g.k.st with
    | none => rw [hs] at e; cases e
    | some d =>
      rw [hs] at e
      have e : (d == c) = true := e
      rw [beq_iff_eq] at e
      rw [e]
  · rintro ⟨g, hg, e⟩
    refine ⟨g, hg, ?_⟩
    show eqV (stV g.k) (.str c) = true
    unfold stV
    rw [e]
    exact beq_self_eq_true c
theorem WD.tc {n : Nat} {fs : List Fld} (h : WD n fs) : TC fs := by
  cases n with
  | zero => exact h.elim
  | succ n =>
    intro f hf
    have key : inV (.str f.nm) (fs.map fun g => stV g.k) = f.k.isCtl := by
      rw [Bool.eq_iff_iff, mem_stV]
      constructor
      · rintro ⟨g, hg, e⟩
        unfold Kd.st at e
        cases hb : g.k.bds with
        | none => rw [hb] at e; cases e
        | some b =>
          obtain ⟨c, lo, hi⟩ := b
          rw [hb] at e
          obtain ⟨g', hg', e1, e2, _⟩ := h.st g hg c lo hi hb
          have e : c = f.nm := Option.some.inj e
          have : g' = f := nodup_inj h.nd hg' hf (e1.trans e)
          rw [← this]
          exact e2
      · exact fun hc => (h.ct f hf hc).2
    rw [key]
    obtain ⟨p, nm, k, l, ss⟩ := f
    cases k with
    | num w0 sg lt lo hi df c => cases c <;> rfl
    | _ => rfl
theorem told_of_dfl {n : Nat} {fs : List Fld} (h : WD n fs) {f : Fld} (hf : f ∈ fs) (hd : f.k.dfl ≠ .non) : f.k.told = true := by
  cases n with
  | zero => exact h.elim
  | succ n =>
    have hc := fun hc => (h.ct f hf hc).1
    obtain ⟨p, nm, k, l, ss⟩ := f
    cases k with
    | num w0 sg lt lo hi df c =>
      cases c with
      | true => exact absurd (hc rfl) hd
      | false => rfl
    | chk => exact absurd rfl hd
    | spt => exact absurd rfl hd
    | _ => rfl
/-! ### a dict's values, by fields -/
def WFV (F : Fld → V → Nat → Prop) (kvs : Kvs) (f : Fld) (w : Nat) : Prop :=
  (f.k.told = true ∧ ∃ u, valV kvs (kn f.nm) = some u ∧ F f u w) ∨ (f.k.told = false ∧ valV kvs (kn f.nm) = none ∧ w = f.k.width) ∨ (f.k.told = true ∧ valV kvs (kn f.nm) = none ∧ f.k.dfl ≠ .non ∧ w = 0)
def RestOk (H : Hp) (kvs : Kvs) (r : Nat) : Prop := (valV kvs (kn "rest") = none ∧ r = 0) ∨ ∃ (q : Addr) (bs : List Int), valV kvs (kn "rest") = some (.ref q) ∧ H q = some (.lst (bs.map V.int)) ∧ bs.length = r ∧ bs ≠ [] ∧ ∀ b ∈ bs, 0 ≤ b ∧ b ≤ 255
structure VOk (H : Hp) (F : Fld → V → Nat → Prop) (fs : List Fld) (u : V) (W : Nat) : Prop where
  ex : ∃ (p : Addr) (kvs : Kvs) (ws : List Nat) (r : Nat), u = .ref p ∧ H p = some (.dK kvs) ∧ (kvs.map (·.1)).Nodup ∧ (∀ q ∈ kvs, (∃ f ∈ fs, f.k.told = true ∧ q.1 = kn f.nm) ∨ q.1 = kn "rest") ∧ All2 (WFV F kvs) fs ws ∧ RestOk H kvs r ∧ W = ws.sum + 8 * r
theorem val_none {kvs : Kvs} {x : Str} (h : ∀ q ∈ kvs, q.1 ≠ kn x) : valV kvs (kn x) = none := by
  cases e : valV kvs (kn x) with
  | none => rfl
  | some v =>
    obtain ⟨q, hq, e2⟩ := List.mem_map.mp (valV_in e)
    exact absurd e2 (h q hq)
theorem kn_inj {a b : Str} (h : kn a = kn b) : a = b := Sum.inr.inj h
theorem val_ctl {fs : List Fld} {kvs : Kvs} (nd : (fs.map Fld.nm).Nodup) (nr : ∀ f ∈ fs, f.nm ≠ "rest") (hk : ∀ q ∈ kvs, (∃ f ∈ fs, f.k.told = true ∧ q.1 = kn f.nm) ∨ q.1 = kn "rest") {f : Fld} (hf : f ∈ fs) (ht : f.k.told = false) : valV kvs (kn f.nm) = none :=
  val_none fun q hq e => by
    rcases hk q hq with ⟨g, hg, h1, h2⟩ | h2
    · have := nodup_inj nd hf hg (kn_inj (e.symm.trans h2))
      rw [this, h1] at ht
      cases ht
    · exact nr f hf (kn_inj (e.symm.trans h2))
theorem All2.of_imp {α β : Type} {R S : α → β → Prop} : ∀ {xs : List α} {ys : List β}, All2 R xs ys → (∀ a ∈ xs, ∀ b, R a b → S a b) → All2 S xs ys
  | _, _, .nil, _ => .nil
  | _, _, .cons h t, k => .cons (k _ (List.mem_cons_self ..) _ h) (All2.of_imp t fun a ha => k a (List.mem_cons_of_mem _ ha))
theorem All2.app {α β : Type} {R : α → β → Prop} : ∀ {xs : List α} {ys : List β} {xs' : List α} {ys' : List β}, All2 R xs ys → All2 R xs' ys' → All2 R (xs ++ xs') (ys ++ ys')
  | _, _, _, _, .nil, h => h
  | _, _, _, _, .cons a t, h => .cons a (All2.app t h)
theorem All2.rep {α β : Type} {R : α → β → Prop} {b : β} : ∀ {xs : List α}, (∀ a ∈ xs, R a b) → All2 R xs (List.replicate xs.length b)
  | [], _ => .nil
  | a :: r, h => .cons (h a (List.mem_cons_self ..)) (All2.rep fun x hx => h x (List.mem_cons_of_mem _ hx))
theorem DOkB.v {H : Hp} {n : Nat} {fs : List Fld} {u : V} {W : Nat} (h : DOk H (n + 1) fs u W) (hW : WD (n + 1) fs) : VOk H (FOk H n) fs u W ∧ ∃ (p : Addr) (kvs : Kvs), u = .ref p ∧ H p = some (.dK kvs) ∧ valV kvs (kn "rest") = none := by
  obtain ⟨p, kvs, rfl, h2, h3, h4, h5⟩ := h
  have hr : valV kvs (kn "rest") = none := val_none fun q hq e => by
    obtain ⟨f, hf, _, h⟩ := h4 q hq
    exact hW.nr f hf (kn_inj (h.symm.trans e))
  refine ⟨?_, p, kvs, rfl, h2, hr⟩
  obtain ⟨ws, h6, rfl⟩ := SumB.two.mp h5
  have h4' : ∀ q ∈ kvs, (∃ f ∈ fs, f.k.told = true ∧ q.1 = kn f.nm) ∨ q.1 = kn "rest" := fun q hq => .inl (h4 q hq)
  refine ⟨p, kvs, ws, 0, rfl, h2, h3, h4', h6.of_imp fun f hf w h => ?_, .inl ⟨hr, rfl⟩, by omega⟩
  cases ht : f.k.told with
  | true =>
    rw [ht] at h
    exact .inl ⟨ht, h⟩
  | false =>
    rw [ht] at h
    exact .inr (.inl ⟨ht, val_ctl hW.nd hW.nr h4' hf ht, h⟩)
theorem sum_rep0 : ∀ n, (List.replicate n 0).sum = 0
  | 0 => rfl
  | n + 1 => by rw [List.replicate_succ, List.sum_cons, sum_rep0 n]
theorem GOkB.v {H : Hp} {n : Nat} {fs : List Fld} {u : V} {W : Nat} (h : GOk H (n + 1) fs u W) (hW : WD (n + 1) fs) : VOk H (FOk H n) fs u W := by
  obtain ⟨p, kvs, j, a, rfl, h2, h3, h4, h5, h6, h7⟩ := h
  obtain ⟨ws, h8, rfl⟩ := SumB.two.mp h5
  have key : All2 (WFV (FOk H n) kvs) fs (ws ++ List.replicate (fs.drop j).length 0) := by
    rw [← List.take_append_drop j fs]
    refine All2.app (h8.of_imp fun f hf w h => ?_) ?_
    · have hf := List.mem_of_mem_take hf
      cases ht : f.k.told with
      | true =>
        rw [ht] at h
        exact .inl ⟨ht, h⟩
      | false =>
        rw [ht] at h
        exact .inr (.inl ⟨ht, val_ctl hW.nd hW.nr h4 hf ht, h⟩)
    · rw [List.take_append_drop]
      exact All2.rep fun f hf => .inr (.inr ⟨told_of_dfl hW (List.mem_of_mem_drop hf) (h6 f hf).1, (h6 f hf).2, (h6 f hf).1, rfl⟩)
  have hs : (ws ++ List.replicate (fs.drop j).length 0).sum = ws.sum := by
    rw [List.sum_append, sum_rep0]
    rfl
  rcases h7 with ⟨h7, e⟩ | ⟨h7, q, bs, h9, h10, h11, h12, e⟩
  · exact ⟨p, kvs, _, 0, rfl, h2, h3, h4, key, .inl ⟨h7, rfl⟩, by rw [hs]; omega⟩
  · exact ⟨p, kvs, _, bs.length, rfl, h2, h3, h4, key, .inr ⟨q, bs, h9, h10, rfl, h11, h12⟩, by rw [hs]; omega⟩
end Fk

set_option Elab.async false
set_option linter.all false
set_option maxRecDepth 100000
set_option maxHeartbeats 4000000
set_option exponentiation.threshold 3000
namespace Fk
open PySem PySem.Spec PyProof.Rows L2 Evl
section
variable {P : Program} {w : World} {K : PySem.W.Frag} {mg : Str → Option Value} {base : Heap} {σ : L2.St} {H H' : Hp} {te ta tb tc tl td ty tx : TE} {tt : TT} {tu tw tz : TS} {D : Ends} {f : Fld} {n : Nat}
theorem sum_vN (l : List Nat) : ((l.map fun (m : Nat) => (m : Int)).sum) = ((l.sum : Nat) : Int) := by
  induction l with
  | nil => rfl
  | cons a r ih =>
    rw [List.map_cons, List.sum_cons, List.sum_cons, ih]
    push_cast
    rfl
theorem ev_sumN {l : List Nat} (h : EvL tl σ H (vNs l)) : Ev (tCB (rSum K) (tCons tl tNil)) σ H (vN l.sum) := fun H1 e Q q =>
  h H1 e _ fun p H2 _ e2 h2 => ⟨p, l.map fun (m : Nat) => (m : Int), rfl, sq_of (by rw [h2, List.map_map]; rfl), by rw [sum_vN]; exact q H2 e2⟩
/-- x.get(y, new list) -/
theorem lenL_get {d : Addr} {kvs : Kvs} {k : Key} {xs : List V} {m : Nat} (ho : Ev td σ H (.ref d)) (hk : Ev ty σ H (kV k)) (hx : EvL tx σ H []) (hd : H d = some (.dK kvs))
    (hv : (valV kvs k = none ∧ m = 0) ∨ ∃ (q : Addr) (ys : List V), valV kvs k = some (.ref q) ∧ H q = some (.lst ys) ∧ ys.length = m) : Ev (tCB (rLenV K) (tCons (tDGet2 td ty tx) tNil)) σ H (vN m) := fun H1 e Q q =>
  ho H1 e _ fun H2 e2 => ⟨d, rfl, .inl ⟨kvs, .of (e2 _ _ (e _ _ hd))⟩, hk H2 (e.trans e2) _ fun H3 e3 => hx H3 ((e.trans e2).trans e3) _ fun p H4 _ e4 h4 => ⟨_, DGet.k (e4 _ _ (e3 _ _ (e2 _ _ (e _ _ hd)))), by
    rcases hv with ⟨hv, rfl⟩ | ⟨z, ys, hv, hz, rfl⟩
    · rw [hv]
      exact ⟨.ref p, 0, rfl, .inl ⟨[], sq_of h4, rfl⟩, q H4 ((e2.trans e3).trans e4)⟩
    · rw [hv]
      exact ⟨.ref z, ys.length, rfl, .inl ⟨ys, sq_of ((((e.trans e2).trans e3).trans e4) _ _ hz), rfl⟩, q H4 ((e2.trans e3).trans e4)⟩⟩⟩
abbrev aWFor (K : PySem.W.Frag) (n : Nat) : A2 := fun a b H Q => ∃ l fs W, a = .ref l ∧ LAt K H n l fs ∧ WD n fs ∧ (DOk H n fs b W ∨ GOk H n fs b W) ∧ RetV (vN W) H Q
abbrev aWFld (K : PySem.W.Frag) (n : Nat) : A2 := fun a b H Q => ∃ (f : Fld) (w : Nat), a = f.v ∧ FAt K H n f ∧ FW n f ∧ FOk H n f b w ∧ RetV (vN w) H Q
theorem ev_wfor {l : Addr} {fs : List Fld} {u : V} {W : Nat} (ha : Ev ta σ H (.ref l)) (hb : Ev tb σ H u) (hL : LAt K H n l fs) (hW : WD n fs) (hd : DOk H n fs u W ∨ GOk H n fs u W) : Ev (tFn (Sp2 (aWFor K n)) (tCons ta (tCons tb tNil))) σ H (vN W) :=
  ev_fn (ea_cons ha (ea_cons hb ea_nil)) fun H1 e Q q E => ⟨_, _, rfl, l, fs, W, rfl, hL.mono e, hW, hd.imp ((DG.mono e).1 _ _ _) ((DG.mono e).2 _ _ _), q⟩
theorem ev_wfld {u : V} {m : Nat} (ha : Ev ta σ H f.v) (hb : Ev tb σ H u) (hA : FAt K H n f) (hW : FW n f) (hf : FOk H n f u m) : Ev (tFn (Sp2 (aWFld K n)) (tCons ta (tCons tb tNil))) σ H (vN m) :=
  ev_fn (ea_cons ha (ea_cons hb ea_nil)) fun H1 e Q q E => ⟨_, _, rfl, f, m, rfl, hA.mono e, hW, hf.mono e, q⟩
theorem row_mark {hw : How} {mk : V} (hA : FAt K H n f) (hk : f.k = .row hw mk) (hW : FW n f) : hw.isEnd = true → ∃ g r, SqL K H f.l (Fld.v g :: r) ∧ Ob K H g ∧ g.k.width = 8 ∧ g.k.word = "number" := by
  have hL := hA.one (by rw [hk]; rfl)
  unfold FW FWB at hW
  rw [hk] at hW
  cases hw with
  | end_ m =>
    intro _
    obtain ⟨g, r, h1, h2, h3⟩ := hW.1.2
    refine ⟨g, r.map Fld.v, ?_, hL.ob g (by rw [h1]; exact List.mem_cons_self ..), h2, h3⟩
    have := hL.seq
    rw [h1] at this
    exact this
  | _ => exact fun z => nomatch z
theorem ok_field_width (T : Tx K mg) (G_width_for : Pr P w K mg base (10 * n + 3) "width_for" (Sp2 (aWFor K n))) : Pr P w K mg base (10 * n + 5) "field_width" (Sp2 (aWFld K n)) := by
  have G_kind := pr_kind (P := P) (w := w) (base := base) T
  have G_seven_bytes := ok_seven_bytes (P := P) (w := w) (base := base) T
  have G_text_width := ok_text_width (P := P) (w := w) (base := base) T
  have G_mark_width := ok_mark_width (P := P) (w := w) (base := base) T
  have G_case_fields := ok_case_fields (P := P) (w := w) (base := base) T
  refine pr2 T.d_field_width T.g_field_width sc_field_width (fun _ _ _ _ _ _ us hl => match us, hl with | [_, _], _ => rfl) fun a b H Q h cdv A outer s E hr hu => ?_
  obtain ⟨f, m, rfl, hA, hW, hF, q⟩ := h
  have ob := hA.ob
  have hWW := hW
  unfold FW FWB at hWW
  unfold FOk FOkB at hF
  refine ⟨_, (pss_cons (ps_set (i := 2) sc_field_width.nd rfl (.inl rfl) (pe_mU G_kind (hr.mono (by omega)) (pv 0)))
      (pss_cons (ps_if (pt_cmpR op_eq (pv 2) pe_str (by rfl)) (pss_one (ps_ret (fldK (K := K) rfl (pv 0) rfl))) pss_nil)
      (pss_cons (ps_if (pt_cmpR op_eq (pv 2) pe_str (by rfl)) (pss_one (ps_ret (pe_op op_mul pe_int (pe_fn G_seven_bytes (hr.mono (by omega)) (by rfl) (pa_cons (pv 1) pa_nil))))) pss_nil)
      (pss_cons (ps_if (pt_cmpR op_eq (pv 2) pe_str (by rfl)) (pss_one (ps_ret (pe_fn G_text_width (hr.mono (by omega)) (by rfl) (pa_cons (pv 0) (pa_cons (pv 1) pa_nil))))) pss_nil)
      (pss_cons (ps_if (pt_cmpR op_eq (pv 2) pe_str (by rfl)) (pss_one (ps_ret (pe_op op_add (pe_callB (sumK (K := K) rfl rfl) (by rfl) T.b_sum (by decide +kernel) (pa_cons (pe_lc (own := [("item", 3)]) rfl sc_field_width.nd (piLK (K := K) rfl (pv 1)) (blkOk_by (N := ["field", "value", "kind", "item"]) (sc := defScope s_field_width) (by decide +kernel)) (fun _ _ _ _ _ => (pg_name (i := 3) sc_field_width.nd rfl (Or.inl rfl))) (fun _ _ _ _ _ => pts_nil) (fun _ _ _ _ _ => (pe_fn G_width_for (hr.mono (by omega)) (by rfl) (pa_cons (fldK (K := K) rfl (pv 0) rfl) (pa_cons (pv 3) pa_nil))))) pa_nil)) (pe_fn G_mark_width (hr.mono (by omega)) (by rfl) (pa_cons (pv 0) pa_nil))))) pss_nil)
      (pss_cons (ps_if (pt_cmpR op_eq (pv 2) pe_str (by rfl)) (pss_one (ps_ret (pe_fn G_width_for (hr.mono (by omega)) (by rfl) (pa_cons (pe_fn G_case_fields (hr.mono (by omega)) (by rfl) (pa_cons (pv 0) (pa_cons (pe_ix (ixTK (K := K) rfl) (pv 1) pe_int (fun _ _ => rfl)) pa_nil))) (pa_cons (pe_ix (ixTK (K := K) rfl) (pv 1) pe_int (fun _ _ => rfl)) pa_nil))))) pss_nil)
      (pss_cons (ps_if (pt_cmpR op_isN (pv 1) pe_non (by rfl)) (pss_one (ps_ret pe_int)) pss_nil)
      (pss_one (ps_ret (pe_fn G_width_for (hr.mono (by omega)) (by rfl) (pa_cons (fldK (K := K) rfl (pv 0) rfl) (pa_cons (pv 1) pa_nil)))))))))))), ?_⟩
  obtain ⟨wd, hwd0⟩ : ∃ wd, wd = f.k.word := ⟨_, rfl⟩
  refine (sv_asg (v := .str wd) (ev_is (ev_kind (ev_var rfl) ob) (by rw [hwd0])) ?_).here
  have kw : ∀ s : Str, f.k.word = s → Ev (tVar 2) [some f.v, some b, some (.str wd), none] H (.str s) := fun s hs => ev_var (by rw [hwd0, hs]; rfl)
  cases hk : f.k with
  | num w0 sg lt lo hi df c =>
    rw [hk] at hF
    obtain ⟨i, rfl, _, _, rfl⟩ := hF
    have hwd : f.k.width = m := by rw [hk]; rfl
    refine sv_take (kw "number" (by rw [hk]; rfl)) rfl ?_
    exact sv_ret (hwd ▸ ev_width T (ev_var rfl) ob (.inr (by rw [hk]; rfl)) (.inr (.inr (by rw [hk]; rfl)))) q
  | chk => rw [hk] at hF; exact hF.elim
  | spt => rw [hk] at hF; exact hF.elim
  | sev hi loose df =>
    rw [hk] at hF hWW
    obtain ⟨i, rfl, h1, rfl⟩ := hF
    refine sv_skip (kw "seven" (by rw [hk]; rfl)) (by decide +kernel) (sv_take (kw "seven" (by rw [hk]; rfl)) rfl ?_)
    exact sv_ret (ev_mul8 (ev_sevB (ev_var rfl) (by have := hWW.2.1; omega))) q
  | txt hw df =>
    rw [hk] at hF
    obtain ⟨z, rfl, h1, h2, h3, rfl⟩ := hF
    refine sv_skip (kw "text" (by rw [hk]; rfl)) (by decide +kernel) (sv_skip (kw "text" (by rw [hk]; rfl)) (by decide +kernel) (sv_take (kw "text" (by rw [hk]; rfl)) rfl ?_))
    exact sv_ret (ev_textW (ev_var rfl) (ev_var rfl) ob hk (by omega)) q
  | row hw mk =>
    have hone : f.k.one = true := by rw [hk]; rfl
    have hmk := row_mark hA hk hW
    rw [hk] at hF hWW
    obtain ⟨p, xs, Ws, rfl, h2, h3, h4, h5, rfl⟩ := hF
    refine sv_skip (kw "row" (by rw [hk]; rfl)) (by decide +kernel) (sv_skip (kw "row" (by rw [hk]; rfl)) (by decide +kernel) (sv_skip (kw "row" (by rw [hk]; rfl)) (by decide +kernel) (sv_take (kw "row" (by rw [hk]; rfl)) rfl ?_)))
    obtain ⟨zs, z1, z2, z3⟩ := h5.zip
    have hzl : zs.length ≤ 40000 := by
      have : (zs.map Prod.fst).length = xs.length := by rw [z1]
      rw [List.length_map] at this
      omega
    refine sv_ret (ev_is (ev_op (ev_sumN (el_is (el_comp (xs := zs) (val := Prod.fst) (g := fun z => vN z.2) (p := fun _ => true) (ev_var rfl) (sq_of (by rw [h2, z1])) hzl (fun _ _ => et_yes) fun z hz _ => ev_wfor (ev_fields T (ev_var rfl) ob hone) (ev_var rfl) (hA.one hone) hWW.2 (.inl (z3 z hz))) (show _ = vNs Ws by rw [map_all, ← z2, vNs, List.map_map]; rfl))) (ev_markW (ev_var rfl) ob hk hmk) rv_I0) (congrArg V.int (by push_cast; rfl))) q
  | cho c lo hi =>
    have hc := hA.cases hk
    rw [hk] at hF hWW
    obtain ⟨p, d, t, ht, rfl, h2, h3, h4, h5⟩ := hF
    refine sv_skip (kw "choice" (by rw [hk]; rfl)) (by decide +kernel) (sv_skip (kw "choice" (by rw [hk]; rfl)) (by decide +kernel) (sv_skip (kw "choice" (by rw [hk]; rfl)) (by decide +kernel) (sv_skip (kw "choice" (by rw [hk]; rfl)) (by decide +kernel) (sv_take (kw "choice" (by rw [hk]; rfl)) rfl ?_))))
    exact sv_ret (ev_wfor (ev_case (ev_var rfl) (ev_op (ev_var rfl) ev_c (rv_ixT (st_of h2) (atI_nat (j := 0) rfl))) ob hk hc ht hWW.1) (ev_op (ev_var rfl) ev_c (rv_ixT (st_of h2) (atI_nat (j := 1) rfl))) (hA.sub t ht) (hWW.2.2.2 t ht).2.2 (.inl h5)) q
  | may c lo hi =>
    have hone : f.k.one = true := by rw [hk]; rfl
    rw [hk] at hF hWW
    refine sv_skip (kw "maybe" (by rw [hk]; rfl)) (by decide +kernel) (sv_skip (kw "maybe" (by rw [hk]; rfl)) (by decide +kernel) (sv_skip (kw "maybe" (by rw [hk]; rfl)) (by decide +kernel) (sv_skip (kw "maybe" (by rw [hk]; rfl)) (by decide +kernel) (sv_skip (kw "maybe" (by rw [hk]; rfl)) (by decide +kernel) ?_))))
    rcases hF with ⟨rfl, _, _, rfl⟩ | ⟨_, _, h⟩
    · exact sv_takeT (et_test (ev_is (ev_isn (ev_var rfl)) rfl)) (sv_ret ev_c q)
    · refine sv_skipT (et_test (ev_is (ev_isn (ev_var rfl)) (congrArg V.bl (decide_eq_false fun z => ?_)))) (sv_ret (ev_wfor (ev_fields T (ev_var rfl) ob hone) (ev_var rfl) (hA.one hone) hWW.2.2.2 (.inl h)) q)
      subst z
      cases n with
      | zero => exact h
      | succ n => obtain ⟨p, _, e, _⟩ := h; cases e
  | grp =>
    have hone : f.k.one = true := by rw [hk]; rfl
    rw [hk] at hF hWW
    refine sv_skip (kw "group" (by rw [hk]; rfl)) (by decide +kernel) (sv_skip (kw "group" (by rw [hk]; rfl)) (by decide +kernel) (sv_skip (kw "group" (by rw [hk]; rfl)) (by decide +kernel) (sv_skip (kw "group" (by rw [hk]; rfl)) (by decide +kernel) (sv_skip (kw "group" (by rw [hk]; rfl)) (by decide +kernel) ?_))))
    refine sv_skipT (et_test (ev_is (ev_isn (ev_var rfl)) (congrArg V.bl (decide_eq_false fun z => ?_)))) (sv_ret (ev_wfor (ev_fields T (ev_var rfl) ob hone) (ev_var rfl) (hA.one hone) hWW (.inl hF)) q)
    subst z
    cases n with
    | zero => exact hF
    | succ n => obtain ⟨p, _, e, _⟩ := hF; cases e
  | siz c lo hi gr =>
    have hone : f.k.one = true := by rw [hk]; rfl
    rw [hk] at hF hWW
    obtain ⟨_, _, _, _, hF⟩ := hF
    have hF : DOk H n f.fs b m ∨ GOk H n f.fs b m := by
      cases gr with
      | true => exact .inr hF
      | false => exact .inl hF
    refine sv_skip (kw "sized" (by rw [hk]; rfl)) (by decide +kernel) (sv_skip (kw "sized" (by rw [hk]; rfl)) (by decide +kernel) (sv_skip (kw "sized" (by rw [hk]; rfl)) (by decide +kernel) (sv_skip (kw "sized" (by rw [hk]; rfl)) (by decide +kernel) (sv_skip (kw "sized" (by rw [hk]; rfl)) (by decide +kernel) ?_))))
    refine sv_skipT (et_test (ev_is (ev_isn (ev_var rfl)) (congrArg V.bl (decide_eq_false fun z => ?_)))) (sv_ret (ev_wfor (ev_fields T (ev_var rfl) ob hone) (ev_var rfl) (hA.one hone) hWW.2.1 hF) q)
    subst z
    cases n with
    | zero => exact hF.elim id id
    | succ n => rcases hF with ⟨p, _, e, _⟩ | ⟨p, _, _, _, e, _⟩ <;> cases e
theorem VOk_of {fs : List Fld} {u : V} {W : Nat} (hW : WD (n + 1) fs) (h : DOk H (n + 1) fs u W ∨ GOk H (n + 1) fs u W) : VOk H (FOk H n) fs u W := h.elim (fun h => (DOkB.v h hW).1) fun h => GOkB.v h hW
theorem told_names {fs : List Fld} : ((fs.filter fun f => f.k.told).map fun f => V.str f.nm) = (((fs.filter fun f => f.k.told).map Fld.nm).map V.str) := by rw [List.map_map]; rfl
theorem in_told {fs : List Fld} (nd : (fs.map Fld.nm).Nodup) {f : Fld} (hf : f ∈ fs) : decide (f.nm ∈ (fs.filter fun f => f.k.told).map Fld.nm) = f.k.told := by
  rw [Bool.eq_iff_iff, decide_eq_true_iff]
  constructor
  · intro h
    obtain ⟨g, hg, e⟩ := List.mem_map.mp h
    have hg := List.mem_filter.mp hg
    have := nodup_inj nd hg.1 hf e
    rw [← this]
    exact hg.2
  · exact fun h => List.mem_map.mpr ⟨f, List.mem_filter.mpr ⟨hf, h⟩, rfl⟩
theorem sum_take {ws : List Nat} {i m : Nat} (h : ws[i]? = some m) : (ws.take (i + 1)).sum = (ws.take i).sum + m := by
  rw [List.take_add_one, h, List.sum_append]
  show _ + (m + 0) = _
  omega
theorem All2.at_ {α β : Type} {R : α → β → Prop} {a : α} {xs : List α} {ys : List β} (h : All2 R xs ys) : ∀ {i : Nat}, xs[i]? = some a → ∃ b, ys[i]? = some b ∧ R a b := by
  induction h with
  | nil => intro i e; simp at e
  | cons hab t ih =>
    intro i e
    cases i with
    | zero => cases e; exact ⟨_, rfl, hab⟩
    | succ i => exact ih e
theorem ok_width_for (T : Tx K mg) (G_field_width : Pr P w K mg base (10 * n + 5) "field_width" (Sp2 (aWFld K n))) : Pr P w K mg base (10 * (n + 1) + 3) "width_for" (Sp2 (aWFor K (n + 1))) := by
  have G_told_fields := ok_told_fields (P := P) (w := w) (base := base) T
  refine pr2 (k := 10 * n + 12) T.d_width_for T.g_width_for sc_width_for (fun _ _ _ _ _ _ us hl => match us, hl with | [_, _], _ => rfl) fun a b H Q h cdv A outer s E hr hu => ?_
  obtain ⟨l, fs, W, rfl, hL, hWD, hd, q⟩ := h
  obtain ⟨p, kvs, ws, r, rfl, hp, hnd, hkeys, hws, hrest, rfl⟩ := VOk_of hWD hd
  refine ⟨_, (pss_cons (ps_setLc (i := 2) (own := [("field", 4)]) rfl sc_width_for.nd rfl rfl (sw_true rfl rfl rfl (by decide +kernel)) (piLK (K := K) rfl (pe_fn G_told_fields (hr.mono (by omega)) (by rfl) (pa_cons (pv 0) pa_nil))) (blkOk_by (N := ["fields", "value", "names", "width", "field"]) (sc := defScope s_width_for) (by decide +kernel)) (fun _ _ _ _ _ => (pg_name (i := 4) sc_width_for.nd rfl (Or.inl rfl))) (fun _ _ _ _ _ => pts_nil) (fun _ _ _ _ _ => (fldK (K := K) rfl (pv 4) rfl)))
      (pss_cons (ps_set (i := 3) sc_width_for.nd rfl (.inl rfl) (pe_op op_mul pe_int (pe_callB (lenK (K := K) rfl) (by rfl) T.b_len (by decide +kernel) (pa_cons (pe_dget2 hu (pv 1) pe_str (pe_lst pa_nil) ⟨rfl, rfl, rfl, rfl⟩) pa_nil))))
      (pss_cons (ps_for PassesOwn.never rfl (piLK (K := K) rfl (pv 0)) (pg_name (i := 4) sc_width_for.nd rfl (.inl rfl)) (pss_one (ps_if (pt_cmp (pc_din hu (fldK (K := K) rfl (pv 4) rfl) (pv 1))) (pss_one (ps_aug (i := 3) sc_width_for.nd rfl (.inl rfl) (pe_fn G_field_width (hr.mono (by omega)) (by rfl) (pa_cons (pv 4) (pa_cons (pe_dget hu (pv 1) (fldK (K := K) rfl (pv 4) rfl) (fun _ _ => rfl)) pa_nil))) ip_add)) (pss_one (ps_if (pt_cmpR (op_niK (K := K) rfl) (fldK (K := K) rfl (pv 4) rfl) (pv 2) (by rfl)) (pss_one (ps_aug (i := 3) sc_width_for.nd rfl (.inl rfl) (fldK (K := K) rfl (pv 4) rfl) ip_add)) pss_nil)))))
      (pss_one (ps_ret (pv 3)))))), ?_⟩
  refine (sv_asgL (el_is (el_compN (val := Fld.v) (g := fun f => V.str f.nm) (p := fun _ => true) (el_told (ev_var rfl) hL.seq hL.ob hWD.tc (by have := hWD.sz; omega)) (Nat.le_trans (List.length_filter_le _ _) (by have := hWD.sz; omega)) (fun _ _ => et_yes) fun f hf _ => ev_name T (ev_var rfl) (hL.ob f (List.mem_filter.mp hf).1)) ((map_all _ _).trans told_names)) fun pn hpn => ?_).here
  have e1 := Ex.new hpn (o := .lst (((fs.filter fun f => f.k.told).map Fld.nm).map V.str))
  have hp1 := e1 _ _ hp
  refine sv_asg (ev_mul8 (c := r) (lenL_get (xs := []) (ev_var rfl) (k := kn "rest") ev_c (el_lst ea_nil (by decide)) hp1 ?_)) ?_
  · rcases hrest with ⟨h1, rfl⟩ | ⟨z, bs, h1, h2, h3, _⟩
    · exact .inl ⟨h1, rfl⟩
    · exact .inr ⟨z, bs.map V.int, h1, e1 _ _ h2, by rw [List.length_map, h3]⟩
  refine sv_forLn (ev_var rfl) (ex_l e1 hL.seq) (fun i σ' => ∃ z, σ' = [some (.ref l), some (.ref p), some (.ref pn), some (vN (8 * r + (ws.take i).sum)), z]) ⟨none, rfl⟩ ?_ ?_
  · rintro i x σ' hx ⟨z, rfl⟩
    obtain ⟨f, hf, hm, rfl⟩ := map_get hx
    obtain ⟨m, hm2, hwf⟩ := hws.at_ hf
    have hob := (hL.ob f hm).mono e1
    have hin : Ev (tDIn (tFld K (tVar 4) "name") (tVar 1)) [some (.ref l), some (.ref p), some (.ref pn), some (vN (8 * r + (ws.take i).sum)), some f.v] (upd H pn (.lst (((fs.filter fun f => f.k.told).map Fld.nm).map V.str))) (.bl (valV kvs (kn f.nm)).isSome) := ev_din (k := kn f.nm) (ev_name T (ev_var rfl) hob) (ev_var rfl) (.of hp1)
    have hadd : ∀ x : Nat, V.int (((8 * r + (ws.take i).sum : Nat) : Int) + (x : Int)) = vN (8 * r + ((ws.take i).sum + x)) := fun x => congrArg V.int (by push_cast; omega)
    rcases hwf with ⟨ht, u, hu1, hu2⟩ | ⟨ht, hv, rfl⟩ | ⟨ht, hv, _, rfl⟩
    · refine sv_if (b := true) (et_test (ev_is hin (by rw [hu1]; rfl))) (fun _ => ?_) fun z => nomatch z
      refine sv_aug1 rfl (ev_wfld (ev_var rfl) (ev_dget (k := kn f.nm) (ev_var rfl) (ev_name T (ev_var rfl) hob) (.of hp1) hu1) ((hL.2 f hm).mono e1) (hWD.fw f hm) (hu2.mono e1)) fun H1 e2 => ⟨⟨some f.v, ?_⟩, e2⟩
      rw [sum_take hm2, ← hadd]
      rfl
    · refine sv_if (b := false) (et_test (ev_is hin (by rw [hv]; rfl))) (fun z => nomatch z) fun _ => ?_
      refine sv_if (b := true) (et_test (ev_is (ev_op (ev_name T (ev_var rfl) hob) (ev_var rfl) (rv_niL (sq_of upd_same) rfl (flat_str _))) (by rw [inV_str, in_told hWD.nd hm, ht]; rfl))) (fun _ => ?_) fun z => nomatch z
      refine sv_aug1 rfl (ev_width T (ev_var rfl) hob (.inl ht) (.inr (.inl ht))) fun H1 e2 => ⟨⟨some f.v, ?_⟩, e2⟩
      rw [sum_take hm2, ← hadd]
      rfl
    · refine sv_if (b := false) (et_test (ev_is hin (by rw [hv]; rfl))) (fun z => nomatch z) fun _ => ?_
      refine sv_if (b := false) (et_test (ev_is (ev_op (ev_name T (ev_var rfl) hob) (ev_var rfl) (rv_niL (sq_of upd_same) rfl (flat_str _))) (by rw [inV_str, in_told hWD.nd hm, ht]; rfl))) (fun z => nomatch z) fun _ => ?_
      refine sv_nx fun H1 e2 => ⟨⟨some f.v, ?_⟩, e2⟩
      rw [sum_take hm2, ← hadd]
      rfl
  · rintro σ' ⟨z, rfl⟩
    rw [List.length_map, hws.len, List.take_length]
    exact sv_ret (ev_is (ev_var rfl) (congrArg vN (Nat.add_comm _ _))) fun H1 e2 => q H1 (e1.trans e2)
theorem widths (T : Tx K mg) : ∀ n, Pr P w K mg base (10 * n + 3) "width_for" (Sp2 (aWFor K n))
  | 0 => pr2 (k := 2) T.d_width_for T.g_width_for sc_width_for (fun _ _ _ _ _ _ us hl => match us, hl with | [_, _], _ => rfl) fun a b H Q h => by
      obtain ⟨l, fs, W, rfl, hL, _⟩ := h
      exact hL.elim
  | n + 1 => ok_width_for T (ok_field_width T (widths T n))
end
end Fk

set_option Elab.async false
set_option linter.all false
set_option maxRecDepth 100000
set_option maxHeartbeats 4000000
set_option exponentiation.threshold 3000
namespace Fk
open PySem PySem.Spec PyProof.Rows L2 Evl
/-! ### the control's number of a value -/
def CtlIs (H : Hp) (f : Fld) (u : V) (w : Nat) (x : Int) : Prop := match f.k with
  | .txt _ _ => ∃ s : Str, u = .str s ∧ s.length ≤ 100000 ∧ x = (s.length : Int)
  | .row _ _ => ∃ (p : Addr) (xs : List V), u = .ref p ∧ H p = some (.lst xs) ∧ x = (xs.length : Int)
  | .cho _ _ _ => ∃ (p : Addr) (d : V), u = .ref p ∧ H p = some (.tup [.int x, d])
  | .may _ _ _ => x = if u = .non then 0 else 1
  | .siz _ _ _ _ => x = ((w / 8 : Nat) : Int)
  | _ => False
theorem CtlIs.mono {H H' : Hp} {f : Fld} {u : V} {w : Nat} {x : Int} (e : Ex H H') (h : CtlIs H f u w x) : CtlIs H' f u w x := by
  unfold CtlIs at *
  cases hk : f.k with
  | txt => rw [hk] at h; exact h
  | row => rw [hk] at h; obtain ⟨p, xs, a, b, c⟩ := h; exact ⟨p, xs, a, e _ _ b, c⟩
  | cho => rw [hk] at h; obtain ⟨p, d, a, b⟩ := h; exact ⟨p, d, a, e _ _ b⟩
  | may => rw [hk] at h; exact h
  | siz => rw [hk] at h; exact h
  | _ => rw [hk] at h; exact h
theorem DOk.ne_non {H : Hp} {n : Nat} {fs : List Fld} {u : V} {W : Nat} (h : DOk H n fs u W) : u ≠ .non := by
  intro z
  subst z
  cases n with
  | zero => exact h
  | succ n => obtain ⟨p, _, e, _⟩ := h; cases e
theorem ctl_ok {H : Hp} {n : Nat} {f : Fld} {u : V} {w : Nat} (h : FOk H n f u w) (hW : FW n f) (hb : f.k.bds ≠ none) : ∃ x, CtlIs H f u w x ∧ x ∈ letM n f := by
  have hW0 := hW
  unfold FOk FOkB at h
  unfold FW FWB at hW
  unfold CtlIs
  cases hk : f.k with
  | num => rw [hk] at hb; exact absurd rfl hb
  | sev => rw [hk] at hb; exact absurd rfl hb
  | chk => rw [hk] at hb; exact absurd rfl hb
  | spt => rw [hk] at hb; exact absurd rfl hb
  | grp => rw [hk] at hb; exact absurd rfl hb
  | txt hw df =>
    rw [hk] at h hb
    obtain ⟨s, h1, h2, h3, h4, h5⟩ := h
    cases hw with
    | by_ c lo hi =>
      obtain ⟨a1, a2, a3⟩ := h3
      refine ⟨_, ⟨s, h1, by omega, rfl⟩, (mem_letM (c := c) (lo := lo) (hi := hi) (by rw [hk]; rfl)).mpr ⟨?_, a2, a3⟩⟩
      unfold possB
      rw [hk]
      exact mem_rangeI (by omega)
    | _ => exact absurd rfl hb
  | row hw mk =>
    rw [hk] at h hb
    obtain ⟨p, xs, Ws, h1, h2, h3, h4, _⟩ := h
    cases hw with
    | by_ c lo hi =>
      obtain ⟨a1, a2, a3⟩ := h3
      refine ⟨_, ⟨p, xs, h1, h2, rfl⟩, (mem_letM (c := c) (lo := lo) (hi := hi) (by rw [hk]; rfl)).mpr ⟨?_, a2, a3⟩⟩
      unfold possB
      rw [hk]
      exact mem_rangeI (by omega)
    | _ => exact absurd rfl hb
  | cho c lo hi =>
    rw [hk] at h
    obtain ⟨p, d, s, hs, h1, h2, h3, h4, h5⟩ := h
    refine ⟨s.2.1, ⟨p, d, h1, h2⟩, (mem_letM (c := c) (lo := lo) (hi := hi) (by rw [hk]; rfl)).mpr ⟨?_, h3, h4⟩⟩
    unfold possB
    rw [hk]
    exact mem_sortI.mpr (List.mem_map.mpr ⟨s, hs, rfl⟩)
  | may c lo hi =>
    rw [hk] at h
    refine ⟨_, rfl, ?_⟩
    refine (mem_letM (c := c) (lo := lo) (hi := hi) (by rw [hk]; rfl)).mpr ?_
    have hp : possB (LM n) (LE n) f = [0, 1] := by unfold possB; rw [hk]
    rw [hp]
    rcases h with ⟨h1, h2, h3, _⟩ | ⟨h1, h2, h3⟩
    · rw [if_pos h1]
      exact ⟨by simp, h2, h3⟩
    · rw [if_neg h3.ne_non]
      exact ⟨by simp, h1, h2⟩
  | siz c lo hi gr =>
    rw [hk] at h hW
    obtain ⟨h1, h2, h3, h4, h5⟩ := h
    refine ⟨_, rfl, (mem_letM (c := c) (lo := lo) (hi := hi) (by rw [hk]; rfl)).mpr ⟨?_, h3, h4⟩⟩
    have hp : possB (LM n) (LE n) f = (wholeM (innerB (LM n) (LE n) gr f.fs)).map fun (c : Nat) => (c : Int) := by unfold possB; rw [hk]
    rw [hp]
    refine List.mem_map.mpr ⟨w / 8, wholeM_mem ?_ h2 h1, rfl⟩
    refine inner_bit (len_bits n).1 ?_ h2 hW.2.1 ?_
    · intro e
      subst e
      obtain ⟨a, b, e0, ha, hb2, hWD⟩ := grow_parts (fs := f.fs) hW0 hk
      cases n with
      | zero => exact hWD.elim
      | succ m => exact ⟨m, a, b, rfl, e0, ha, hb2, (len_bits m).2⟩
    · cases gr with
      | true => exact (DG.len n).2 _ _ _ h5
      | false => exact (DG.len n).1 _ _ _ h5
section
variable {P : Program} {w : World} {K : PySem.W.Frag} {mg : Str → Option Value} {base : Heap} {σ : L2.St} {H H' : Hp} {te ta tb tc tl td ty tx : TE} {tt : TT} {tu tw tz : TS} {D : Ends} {f : Fld} {n : Nat}
abbrev aCtl (K : PySem.W.Frag) (n : Nat) : A2 := fun a b H Q => ∃ (f : Fld) (w : Nat) (x : Int), a = f.v ∧ FAt K H n f ∧ FW n f ∧ FOk H n f b w ∧ CtlIs H f b w x ∧ RetV (.int x) H Q
theorem ok_control_number (T : Tx K mg) : Pr P w K mg base (10 * n + 4) "control_number" (Sp2 (aCtl K n)) := by
  have G_kind := pr_kind (P := P) (w := w) (base := base) T
  have G_width_for := widths (P := P) (w := w) (base := base) T n
  refine pr2 T.d_control_number T.g_control_number sc_control_number (fun _ _ _ _ _ _ us hl => match us, hl with | [_, _], _ => rfl) fun a b H Q h cdv A outer s E hr hu => ?_
  obtain ⟨f, m, x, rfl, hA, hW, hF, hc, q⟩ := h
  have ob := hA.ob
  unfold FW FWB at hW
  unfold FOk FOkB at hF
  unfold CtlIs at hc
  refine ⟨_, (pss_cons (ps_set (i := 2) sc_control_number.nd rfl (.inl rfl) (pe_mU G_kind (hr.mono (by omega)) (pv 0)))
      (pss_cons (ps_if (pt_cmpR op_eq (pv 2) pe_str (by rfl)) (pss_one (ps_ret (pe_ix (ixTK (K := K) rfl) (pv 1) pe_int (fun _ _ => rfl)))) pss_nil)
      (pss_cons (ps_if (pt_cmpR op_eq (pv 2) pe_str (by rfl)) (pss_cons (ps_if (pt_cmpR op_isN (pv 1) pe_non (by rfl)) (pss_one (ps_ret pe_int)) pss_nil)
      (pss_one (ps_ret pe_int))) pss_nil)
      (pss_cons (ps_if (pt_cmpR op_eq (pv 2) pe_str (by rfl)) (pss_one (ps_ret (pe_op op_fdiv (pe_fn G_width_for (hr.mono (by omega)) (by rfl) (pa_cons (fldK (K := K) rfl (pv 0) rfl) (pa_cons (pv 1) pa_nil))) pe_int))) pss_nil)
      (pss_one (ps_ret (pe_callB (lenK (K := K) rfl) (by rfl) T.b_len (by decide +kernel) (pa_cons (pv 1) pa_nil)))))))), ?_⟩
  obtain ⟨wd, hwd0⟩ : ∃ wd, wd = f.k.word := ⟨_, rfl⟩
  refine (sv_asg (v := .str wd) (ev_is (ev_kind (ev_var rfl) ob) (by rw [hwd0])) ?_).here
  have kw : ∀ s : Str, f.k.word = s → Ev (tVar 2) [some f.v, some b, some (.str wd)] H (.str s) := fun s hs => ev_var (by rw [hwd0, hs]; rfl)
  cases hk : f.k with
  | num => rw [hk] at hc; exact hc.elim
  | sev => rw [hk] at hc; exact hc.elim
  | chk => rw [hk] at hc; exact hc.elim
  | spt => rw [hk] at hc; exact hc.elim
  | grp => rw [hk] at hc; exact hc.elim
  | cho c lo hi =>
    rw [hk] at hc
    obtain ⟨p, d, rfl, hp⟩ := hc
    exact sv_take (kw "choice" (by rw [hk]; rfl)) rfl (sv_ret (ev_op (ev_var rfl) ev_c (rv_ixT (st_of hp) (atI_nat (j := 0) rfl))) q)
  | may c lo hi =>
    rw [hk] at hc
    refine sv_skip (kw "maybe" (by rw [hk]; rfl)) (by decide +kernel) (sv_take (kw "maybe" (by rw [hk]; rfl)) rfl ?_)
    refine sv_when (et_test (ev_isn (ev_var rfl))) (fun e => ?_) (fun e => ?_)
    · rw [if_pos (of_decide_eq_true e)] at hc
      subst hc
      exact sv_ret ev_c q
    · rw [if_neg (of_decide_eq_false e)] at hc
      subst hc
      exact sv_ret ev_c q
  | siz c lo hi gr =>
    have hone : f.k.one = true := by rw [hk]; rfl
    rw [hk] at hc hF hW
    obtain ⟨_, _, _, _, hF⟩ := hF
    have hF : DOk H n f.fs b m ∨ GOk H n f.fs b m := by
      cases gr with
      | true => exact .inr hF
      | false => exact .inl hF
    refine sv_skip (kw "sized" (by rw [hk]; rfl)) (by decide +kernel) (sv_skip (kw "sized" (by rw [hk]; rfl)) (by decide +kernel) (sv_take (kw "sized" (by rw [hk]; rfl)) rfl ?_))
    refine sv_ret (ev_is (ev_op (ev_wfor (ev_fields T (ev_var rfl) ob hone) (ev_var rfl) (hA.one hone) hW.2.1 hF) ev_c (rv_I (show CDiv _ _ from ⟨by decide, by decide⟩))) ?_) q
    rw [hc]
    exact congrArg V.int (by omega)
  | txt hw df =>
    rw [hk] at hc
    obtain ⟨z, rfl, hz, rfl⟩ := hc
    refine sv_skip (kw "text" (by rw [hk]; rfl)) (by decide +kernel) (sv_skip (kw "text" (by rw [hk]; rfl)) (by decide +kernel) (sv_skip (kw "text" (by rw [hk]; rfl)) (by decide +kernel) ?_))
    exact sv_ret (ev_lenV (ev_var rfl) (lenV_str hz)) q
  | row hw mk =>
    rw [hk] at hc
    obtain ⟨p, xs, rfl, hp, rfl⟩ := hc
    refine sv_skip (kw "row" (by rw [hk]; rfl)) (by decide +kernel) (sv_skip (kw "row" (by rw [hk]; rfl)) (by decide +kernel) (sv_skip (kw "row" (by rw [hk]; rfl)) (by decide +kernel) ?_))
    exact sv_ret (ev_lenV (ev_var rfl) (lenV_lst (sq_of hp))) q
theorem ev_ctl {u : V} {m : Nat} {x : Int} (ha : Ev ta σ H f.v) (hb : Ev tb σ H u) (hA : FAt K H n f) (hW : FW n f) (hF : FOk H n f u m) (hc : CtlIs H f u m x) : Ev (tFn (Sp2 (aCtl K n)) (tCons ta (tCons tb tNil))) σ H (.int x) :=
  ev_fn (ea_cons ha (ea_cons hb ea_nil)) fun H1 e Q q E => ⟨_, _, rfl, f, m, x, rfl, hA.mono e, hW, hF.mono e, hc.mono e, q⟩
/-- the pairs of the controls and their numbers -/
def Filled (n : Nat) (fs : List Fld) (kvs : Kvs) : Prop := ∀ q ∈ kvs, ∃ f ∈ fs, ∃ g ∈ fs, ∃ lo hi x, f.k.bds = some (g.nm, lo, hi) ∧ q.1 = kn g.nm ∧ q.2 = .int x ∧ x ∈ letM n f
theorem putK_ln (kvs : Kvs) (k : Key) (v : V) : (putK kvs k v).length ≤ kvs.length + 1 := by
  unfold putK
  split
  · rw [List.length_map]
    omega
  · rw [List.length_append]
    exact Nat.le_refl _
theorem putK_mem {kvs : Kvs} {k : Key} {v : V} {q : Key × V} (h : q ∈ putK kvs k v) : q ∈ kvs ∨ q = (k, v) := by
  unfold putK at h
  split at h
  · obtain ⟨p, hp, e⟩ := List.mem_map.mp h
    split at e
    · rename_i hk
      exact .inr (by rw [← e, hk])
    · exact .inl (e ▸ hp)
  · rcases List.mem_append.mp h with h | h
    · exact .inl h
    · exact .inr (by simpa using h)
abbrev aFilled (K : PySem.W.Frag) (n : Nat) : A2 := fun a b H Q => ∃ l fs W, a = .ref l ∧ LAt K H (n + 1) l fs ∧ WD (n + 1) fs ∧ DOk H (n + 1) fs b W ∧ ∀ p H2 kvs, H p = none → Ex H H2 → H2 p = some (.dK kvs) → Filled n fs kvs → Q (.ref p) H2
theorem ok_filled_of (T : Tx K mg) : Pr P w K mg base (10 * n + 5) "filled_of" (Sp2 (aFilled K n)) := by
  have G_steers := pr_steers (P := P) (w := w) (base := base) T
  have G_control_number := ok_control_number (P := P) (w := w) (base := base) (n := n) T
  refine pr2 T.d_filled_of T.g_filled_of sc_filled_of (fun _ _ _ _ _ _ us hl => match us, hl with | [_, _], _ => rfl) fun a b H Q h cdv A outer s E hr hu => ?_
  obtain ⟨l, fs, W, rfl, hL, hWD, hd, q⟩ := h
  obtain ⟨p0, kvs0, ws, r, rfl, hp0, hnd, hkeys, hws, hrest, rfl⟩ := (DOkB.v hd hWD).1
  refine ⟨_, (pss_cons (ps_set (i := 2) sc_filled_of.nd rfl (.inl rfl) pe_dnewK)
      (pss_cons (ps_for PassesOwn.never rfl (piLK (K := K) rfl (pv 0)) (pg_name (i := 3) sc_filled_of.nd rfl (.inl rfl)) (pss_one (ps_if (pt_cmpR op_notN (pe_mU G_steers (hr.mono (by omega)) (pv 3)) pe_non (by rfl)) (pss_one (ps_dput hu (pv 2) (pe_mU G_steers (hr.mono (by omega)) (pv 3)) (pe_fn G_control_number (hr.mono (by omega)) (by rfl) (pa_cons (pv 3) (pa_cons (pe_dget hu (pv 1) (fldK (K := K) rfl (pv 3) rfl) (fun _ _ => rfl)) pa_nil))) rfl)) pss_nil)))
      (pss_one (ps_ret (pv 2))))), ?_⟩
  intro p hp
  have e1 := Ex.new hp (o := .dK [])
  refine q_forLn (ev_var rfl) (ex_l e1 hL.seq) (fun i σ' H' => ∃ z kvs, σ' = [some (.ref l), some (.ref p0), some (.ref p), z] ∧ Ex H H' ∧ H' p = some (.dK kvs) ∧ Filled n fs kvs ∧ kvs.length ≤ i) (fun H1 e2 => ⟨none, [], rfl, e1.trans e2, e2 _ _ upd_same, fun _ h => (by cases h), Nat.zero_le _⟩) (fun i σ' H' _ h => by obtain ⟨_, _, _, e, _⟩ := h; exact ex_l e hL.seq) ?_ ?_
  · rintro i x σ' H' hx ⟨z, kvs, rfl, e2, h2, hF, hl⟩
    obtain ⟨f, hf, hm, rfl⟩ := map_get hx
    have hi : i < 100 := by
      have := (List.getElem?_eq_some_iff.mp hf).1
      have := hWD.sz
      omega
    have hob := (hL.ob f hm).mono e2
    refine s_when (et_test (ev_notn (ev_steers (ev_var rfl) hob))) (fun hb H1 e3 => ?_) fun hb H1 e3 => ⟨_, kvs, rfl, e2.trans e3, e3 _ _ h2, hF, by omega⟩
    have hst : f.k.bds ≠ none := by
      intro z
      have : stV f.k = .non := by unfold stV Kd.st; rw [z]; rfl
      rw [this] at hb
      exact absurd hb (by decide)
    obtain ⟨⟨c, lo, hi2⟩, hbd⟩ := Option.ne_none_iff_exists'.mp hst
    obtain ⟨g, hg, rfl, _⟩ := hWD.lw.st f hm _ _ _ hbd
    obtain ⟨m, hm2, hwf⟩ := hws.at_ hf
    have hFW := hWD.fw f hm
    obtain ⟨u, hu1, hu2⟩ : ∃ u, valV kvs0 (kn f.nm) = some u ∧ FOk H n f u m := by
      rcases hwf with ⟨_, h⟩ | ⟨ht, _⟩ | ⟨_, _, hd, _⟩
      · exact h
      · exfalso
        obtain ⟨pp, nm, k, ll, ss⟩ := f
        cases k <;> first | exact absurd rfl hst | cases ht
      · exact absurd (dfl_bds hFW hd) hst
    obtain ⟨x, hx1, hx2⟩ := ctl_ok hu2 hFW hst
    have e23 := e2.trans e3
    have hs : stV f.k = .str g.nm := by unfold stV Kd.st; rw [hbd]; rfl
    refine (ev_ctl (x := x) (ev_var rfl) (ev_dget (k := kn f.nm) (ev_var rfl) (ev_name T (ev_var rfl) (hob.mono e3)) (.of (e23 _ _ hp0)) hu1) ((hL.2 f hm).mono e23) hFW (hu2.mono e23) (hx1.mono e23)) H1 (Ex.refl _) _ fun H4 e4 => ?_
    refine (ev_var (i := 2) (v := .ref p) (H := H4) rfl) H4 (Ex.refl _) _ fun H5 e5 => ?_
    refine (ev_is (ev_steers (H := H5) (ev_var (i := 3) rfl) (hob.mono ((e3.trans e4).trans e5))) hs) H5 (Ex.refl _) _ fun H6 e6 => ?_
    have e46 := (e4.trans e5).trans e6
    refine ⟨p, _, rfl, .inl ⟨kvs, kn g.nm, e46 _ _ (e3 _ _ h2), rfl, sz_lt (by omega), rfl⟩, _, _, rfl, Ex.mut (e23.trans e46) hp, upd_same, ?_, ?_⟩
    · intro qq hqq
      rcases putK_mem hqq with h | rfl
      · exact hF qq h
      · exact ⟨f, hm, g, hg, lo, hi2, x, hbd, rfl, rfl, hx2⟩
    · have := putK_ln kvs (kn g.nm) (.int x)
      omega
  · rintro σ' H' ⟨z, kvs, rfl, e2, h2, hF, _⟩
    exact s_ret (ev_var rfl) fun H1 e3 => q p H1 kvs hp (e2.trans e3) (e3 _ _ h2) hF
/-! ### a list's value stands in its lengths -/
theorem inV_N {c : Nat} {l : List Nat} : inV (vN c) (vNs l) = decide (c ∈ l) := by
  have e : vNs l = (l.map fun (m : Nat) => (m : Int)).map V.int := by rw [List.map_map]; rfl
  rw [e, inV_int, decide_eq_decide]
  constructor
  · intro h
    obtain ⟨m, hm, e⟩ := List.mem_map.mp h
    have : m = c := by omega
    exact this ▸ hm
  · exact fun h => List.mem_map.mpr ⟨c, h, rfl⟩
theorem flat_vN (l : List Nat) : (vNs l).all flatV = true := by
  rw [List.all_map, List.all_eq_true]
  exact fun _ _ => rfl
theorem q_asgF2 {sp : Sp} {i : Nat} {x y : V} (ha : Ev ta σ H x) (hb : Ev tb σ H y) (k : ∀ H1, Ex H H1 → sp [x, y] H1 (fun v H2 => tz D (σ.set i (some v)) H2) E0) : tSeq (tAsg (tFn sp (tCons ta (tCons tb tNil))) (gName i)) tz D σ H := ha H (Ex.refl _) _ fun H1 e1 => hb H1 e1 _ fun H2 e2 => k H2 (e1.trans e2)
abbrev aStands (K : PySem.W.Frag) (N : Nat) : A2 := fun a b H Q => ∃ l fs W n, n ≤ N ∧ a = .ref l ∧ LAt K H (n + 1) l fs ∧ WD (n + 1) fs ∧ DOk H (n + 1) fs b W ∧ W ≤ 2040 ∧ RetV (.bl true) H Q
theorem ok_law_stands (T : Tx K mg) (N : Nat) : Pr P w K mg base (10 * N + 16) "_law_stands" (Sp2 (aStands K N)) := by
  refine pr2 T.d__law_stands T.g__law_stands sc__law_stands (fun _ _ _ _ _ _ us hl => match us, hl with | [_, _], _ => rfl) fun a b H Q h cdv A outer s E hr hu => ?_
  obtain ⟨l, fs, W, n, hnN, rfl, hL, hWD, hd, hz, q⟩ := h
  have G_width_for := widths (P := P) (w := w) (base := base) T (n + 1)
  have G_members := ok_members (P := P) (w := w) (base := base) T
  have G_list_lengths := (lens (P := P) (w := w) (base := base) T (n + 1)).1
  have G_lets_of := (lens (P := P) (w := w) (base := base) T n).2
  have G_filled_of := ok_filled_of (P := P) (w := w) (base := base) (n := n) T
  refine ⟨_, (pss_cons (ps_if (pt_cmpR (op_niK (K := K) rfl) (pe_fn G_width_for (hr.mono (by omega)) (by rfl) (pa_cons (pv 0) (pa_cons (pv 1) pa_nil))) (pe_fn G_members (hr.mono (by omega)) (by rfl) (pa_cons (pe_fn G_list_lengths (hr.mono (by omega)) (by rfl) (pa_cons (pv 0) pa_nil)) pa_nil)) (by rfl)) (pss_one (ps_ret pe_bl)) pss_nil)
      (pss_cons (ps_set (i := 2) sc__law_stands.nd rfl (.inl rfl) (pe_fn G_filled_of (hr.mono (by omega)) (by rfl) (pa_cons (pv 0) (pa_cons (pv 1) pa_nil))))
      (pss_cons (ps_setLc (i := 3) (own := [("_law_field", 5)]) rfl sc__law_stands.nd rfl rfl (sw_true rfl rfl rfl (by decide +kernel)) (piLK (K := K) rfl (pv 0)) (blkOk_by (N := ["_law_fields", "_law_value_here", "_law_numbers", "_law_names", "_law_name_here", "_law_field"]) (sc := defScope s__law_stands) (by decide +kernel)) (fun _ _ _ _ _ => (pg_name (i := 5) sc__law_stands.nd rfl (Or.inl rfl))) (fun _ _ _ _ _ => pts_nil) (fun _ _ _ _ _ => (fldK (K := K) rfl (pv 5) rfl)))
      (pss_cons (ps_lock (ps_for PassesOwn.never rfl (pi_keys (pv 2)) (pg_name (i := 4) sc__law_stands.nd rfl (.inl rfl)) (pss_one (ps_if (pt_cmpR (op_niK (K := K) rfl) (pe_dget hu (pv 2) (pv 4) (fun _ _ => rfl)) (pe_fn G_lets_of (hr.mono (by omega)) (by rfl) (pa_cons (pv 0) (pa_cons (pe_indexK (K := K) rfl (pv 3) (pa_cons (pv 4) pa_nil)) pa_nil))) (by rfl)) (pss_one (ps_ret pe_bl)) pss_nil))))
      (pss_one (ps_ret pe_bl)))))), ?_⟩
  have hbit : (LM (n + 1) fs).testBit W = true := (len_bits (n + 1)).1 fs W ((DG.len (n + 1)).1 _ _ _ hd) hz hWD
  refine (sv_skipT (et_test (ev_is (ev_opL (ev_wfor (ev_var rfl) (ev_var rfl) hL hWD (.inl hd)) (el_members (ev_LL (ev_var rfl) hL hWD.lw) (LM_lt _ _)) fun p H1 hp _ => rv_niL (sq_of hp) rfl (flat_vN _)) (by rw [inV_N, decide_eq_true (mem_bitsM.mpr ⟨hz, hbit⟩)]; rfl))) ?_).here
  intro H1 e1
  refine q_asgF2 (x := .ref l) (y := b) (ev_var rfl) (ev_var rfl) fun H2 e2 => ?_
  have e12 := e1.trans e2
  refine ⟨_, _, rfl, l, fs, W, rfl, hL.mono e12, hWD, (DG.mono e12).1 _ _ _ hd, fun p H3 kvs hp e3 h3 hF => ?_⟩
  have e13 := e12.trans e3
  have hL3 := hL.mono e13
  refine (sv_asgL (el_is (el_comp (val := Fld.v) (g := fun f => V.str f.nm) (p := fun _ => true) (ev_var rfl) hL3.seq (by have := hWD.sz; omega) (fun _ _ => et_yes) fun f hf _ => ev_name T (ev_var rfl) (hL3.ob f hf)) ((map_all _ _).trans (show _ = (fs.map Fld.nm).map V.str by rw [List.map_map]; rfl))) fun pn hpn => ?_).here
  intro H4 e4
  have e34 := (Ex.new hpn).trans e4
  have hp4 : H4 p = some (.dK kvs) := e34 _ _ h3
  have hpn4 : H4 pn = some (.lst ((fs.map Fld.nm).map V.str)) := e4 _ _ upd_same
  have hHp : H p = none := fresh_back e12 hp
  refine ⟨p, .dK kvs, hp4, True.intro, fun od => ?_⟩
  have eL : Ex H (upd H4 p (.frz od (.dK kvs))) := Ex.mut (e13.trans e34) hHp
  refine ⟨.ref p, rfl, p, od, rfl, .inl ⟨kvs, upd_same, ?_⟩⟩
  have hpnp : pn ≠ p := fun z => by rw [z, h3] at hpn; cases hpn
  refine ⟨fun i m σ' H' => m = kvs.length - i ∧ i ≤ kvs.length ∧ (∃ z, σ' = [some (.ref l), some b, some (.ref p), some (.ref pn), z, none]) ∧ Ex H H' ∧ H' p = some (.frz od (.dK kvs)) ∧ H' pn = some (.lst ((fs.map Fld.nm).map V.str)), ⟨kvs.length, by simp, Nat.zero_le _, ⟨none, rfl⟩, eL, upd_same, by rw [upd_ne hpnp]; exact hpn4⟩, ?_⟩
  rintro i m σ' H' ⟨rfl, hi, ⟨z, rfl⟩, e5, h5, h6⟩
  by_cases hlt : i < kvs.length
  · refine .inr ⟨⟨h5, hlt⟩, fun σ' H' => (∃ z, σ' = [some (.ref l), some b, some (.ref p), some (.ref pn), z, none]) ∧ Ex H H' ∧ H' p = some (.frz od (.dK kvs)) ∧ H' pn = some (.lst ((fs.map Fld.nm).map V.str)), fun σ' H' h => ⟨kvs.length - (i + 1), by omega, rfl, hlt, h⟩, fun x H6 y => ?_⟩
    obtain ⟨e6, k, v, hkv, rfl⟩ := y
    replace e6 := e6.symm
    subst e6
    have hmem := List.mem_of_getElem? hkv
    obtain ⟨f, hf, g, hg, lo, hi2, x, hbd, hk, hv, hx⟩ := hF _ hmem
    have hk : k = kn g.nm := hk
    subst hk
    have hv : v = .int x := hv
    subst hv
    obtain ⟨v2, hv2⟩ : ∃ v2, valV kvs (kn g.nm) = some v2 := by
      cases e : valV kvs (kn g.nm) with
      | some v2 => exact ⟨v2, rfl⟩
      | none => exact absurd (List.mem_map.mpr ⟨_, hmem, rfl⟩) (valV_not e)
    obtain ⟨q2, hq2, hqe⟩ : ∃ q2 ∈ kvs, q2 = (kn g.nm, v2) := by
      unfold valV at hv2
      obtain ⟨q2, a1, a2⟩ := Option.map_eq_some_iff.mp hv2
      have a3 := List.find?_some a1
      have a4 := List.mem_of_find?_eq_some a1
      exact ⟨q2, a4, Prod.ext (of_decide_eq_true a3) a2⟩
    obtain ⟨f', hf', g', hg', lo', hi', x', hbd', hk', hv', hx'⟩ := hF _ hq2
    subst hqe
    have hgg : g' = g := nodup_inj hWD.nd hg' hg (kn_inj hk'.symm)
    subst hgg
    have hv' : v2 = .int x' := hv'
    subst hv'
    obtain ⟨j, hj⟩ := List.mem_iff_getElem?.mp hg
    have hL5 := hL.mono e5
    have hjx : Ev (tBM K "list" (rIndex K) (tVar 3) (tCons (tVar 4) tNil)) [some (.ref l), some b, some (.ref p), some (.ref pn), some (.str g'.nm), none] H' (vN j) := fun H7 e7 Q7 q7 => by
      refine ⟨_, rfl, Or.inl ⟨rfl, _, sq_of (e7 _ _ h6)⟩, _, rfl, pn, (fs.map Fld.nm).map V.str, .str g'.nm, j, .str g'.nm, rfl, rfl, sq_of (e7 _ _ h6), rfl, flat_str _, ?_, beq_self_eq_true g'.nm, ?_, q7 H7 (Ex.refl _)⟩
      · rw [List.getElem?_map, List.getElem?_map, hj]
        rfl
      · intro m z' hm hz'
        rw [List.getElem?_map, List.getElem?_map] at hz'
        obtain ⟨t1, ht1, rfl⟩ := Option.map_eq_some_iff.mp hz'
        obtain ⟨t, ht, rfl⟩ := Option.map_eq_some_iff.mp ht1
        show (t.nm == g'.nm) = false
        rw [beq_eq_false_iff_ne]
        intro hne
        obtain ⟨l1, k1⟩ := List.getElem?_eq_some_iff.mp ht
        obtain ⟨l2, k2⟩ := List.getElem?_eq_some_iff.mp hj
        have m1 : m < (fs.map Fld.nm).length := by rw [List.length_map]; exact l1
        have m2 : j < (fs.map Fld.nm).length := by rw [List.length_map]; exact l2
        have pw := List.pairwise_iff_getElem.mp hWD.nd m j m1 m2 hm
        rw [List.getElem_map, List.getElem_map, k1, k2] at pw
        exact pw hne
    have hgv : Ev (tDGet (tVar 2) (tVar 4)) [some (.ref l), some b, some (.ref p), some (.ref pn), some (.str g'.nm), none] H' (.int x') := fun H7 e7 Q7 q7 => ⟨_, rfl, _, rfl, p, _, rfl, .inl ⟨kvs, kn g'.nm, Or.inr ⟨od, e7 _ _ h5⟩, rfl, hv2.symm⟩, q7 H7 (Ex.refl _)⟩
    refine (sv_if (D := { nx := fun σ' H' => (∃ z, σ' = [some (.ref l), some b, some (.ref p), some (.ref pn), z, none]) ∧ Ex H H' ∧ H' p = some (.frz od (.dK kvs)) ∧ H' pn = some (.lst ((fs.map Fld.nm).map V.str)), rt := _, bk := _, ct := _ }) (b := false) (et_test (ev_is (ev_opL hgv (el_lets (ev_var rfl) hjx hL5 hWD.lw hf' hj hbd') fun p8 H8 hp8 _ => rv_niL (sq_of hp8) rfl (flat_int _)) (by rw [inV_int, decide_eq_true hx']; rfl))) (fun z => nomatch z) fun _ => sv_nx fun H7 e7 => ⟨⟨_, rfl⟩, e5.trans e7, e7 _ _ h5, e7 _ _ h6⟩).here
  · refine .inl ⟨⟨h5, by omega⟩, h5, ?_⟩
    show tRet (tC (.bl true)) { nx := fun _ H' => Q .non H', rt := Q } [some (.ref l), some b, some (.ref p), some (.ref pn), z, none] (upd H' p (.dK kvs))
    exact s_ret ev_c fun H7 e7 => q H7 ((Ex.mut e5 hHp).trans e7)
end
end Fk

set_option Elab.async false
set_option linter.all false
set_option maxRecDepth 100000
set_option maxHeartbeats 4000000
set_option exponentiation.threshold 3000
namespace Fk
open PySem PySem.Spec PyProof.Rows L2 Evl
section
variable {P : Program} {w : World} {K : PySem.W.Frag} {mg : Str → Option Value} {base : Heap} {σ : L2.St} {H H' : Hp} {te ta tb tc tl td ty tx : TE} {tt : TT} {tu tw tz : TS} {D : Ends} {f : Fld} {n : Nat}
/-- a loop over what yields N things -/
theorem for_it {J : It} {N : Nat} {g : TG} (Pv : Nat → L2.St → Hp → Prop) (h0 : Pv 0 σ H) (hgo : ∀ i σ H, i < N → Pv i σ H → J.go i H) (hst : ∀ σ H, Pv N σ H → J.stop N H)
    (hs : ∀ i x σ H H', i < N → Pv i σ H → J.yld i H x H' → g x σ H' fun σ2 H2 => tu { D with nx := Pv (i + 1), ct := Pv (i + 1), bk := D.nx } σ2 H2) (hd : ∀ σ H, Pv N σ H → D.nx σ H) :
    ∃ W : Nat → Nat → L2.St → Hp → Prop, (∃ m, W 0 m σ H) ∧ ∀ i m σ H, W i m σ H →
      (J.stop i H ∧ D.nx σ H) ∨ (J.go i H ∧ ∃ N : L2.St → Hp → Prop, (∀ σ' H', N σ' H' → ∃ m', m' < m ∧ W (i + 1) m' σ' H') ∧ ∀ x H', J.yld i H x H' → g x σ H' fun σ2 H2 => tu { D with nx := N, ct := N, bk := D.nx } σ2 H2) := by
  refine ⟨fun i m σ H => m = N - i ∧ i ≤ N ∧ Pv i σ H, ⟨N, rfl, Nat.zero_le _, h0⟩, ?_⟩
  rintro i m σ H ⟨rfl, hi, p⟩
  by_cases hlt : i < N
  · exact .inr ⟨hgo i σ H hlt p, Pv (i + 1), fun σ' H' p' => ⟨N - (i + 1), by omega, rfl, hlt, p'⟩, fun x H' y => hs i x σ H H' hlt p y⟩
  · have e : i = N := by omega
    subst e
    exact .inl ⟨hst σ H p, hd σ H p⟩
/-! ### the numbers for a field -/
theorem zip_one {fs : List Fld} (nd : (fs.map Fld.nm).Nodup) {g : Fld} {j : Nat} (hj : fs[j]? = some g) : ∀ k : Nat, (fs.zipIdx k).filter (fun z => decide (z.1.nm = g.nm)) = [(g, k + j)] := by
  induction fs generalizing j with
  | nil => simp at hj
  | cons x r ih =>
    intro k
    rw [List.map_cons, List.nodup_cons] at nd
    rw [List.zipIdx_cons, List.filter_cons]
    cases j with
    | zero =>
      have e : x = g := by simpa using hj
      subst e
      rw [if_pos (by simp)]
      have : (r.zipIdx (k + 1)).filter (fun z => decide (z.1.nm = x.nm)) = [] := by
        rw [List.filter_eq_nil_iff]
        rintro ⟨y, i⟩ hy hz
        have hz : y.nm = x.nm := of_decide_eq_true hz
        have hy2 : y ∈ r := by
          obtain ⟨_, _, h⟩ := List.mem_zipIdx hy
          rw [h]
          exact List.getElem_mem _
        exact nd.1 (hz ▸ List.mem_map.mpr ⟨y, hy2, rfl⟩)
      rw [this]
      rfl
    | succ j =>
      have hj2 : r[j]? = some g := hj
      have hg : g ∈ r := List.mem_of_getElem? hj2
      rw [if_neg (by
        intro z
        have z : x.nm = g.nm := of_decide_eq_true z
        exact nd.1 (z ▸ List.mem_map.mpr ⟨g, hg, rfl⟩)), ih nd.2 hj2 (k + 1)]
      rw [show k + 1 + j = k + (j + 1) by omega]
abbrev aLetsF (K : PySem.W.Frag) (n : Nat) : A2 := fun a b H Q => ∃ (l : Addr) (fs : List Fld) (f : Fld), a = .ref l ∧ b = f.v ∧ LAt K H (n + 1) l fs ∧ LW (n + 1) fs ∧ f ∈ fs ∧ f.k.bds ≠ none ∧ RetL ((letM n f).map V.int) H Q
theorem ok_lets_for (T : Tx K mg) : Pr P w K mg base (10 * n + 9) "lets_for" (Sp2 (aLetsF K n)) := by
  have G_steers := pr_steers (P := P) (w := w) (base := base) T
  have G_lets_of := (lens (P := P) (w := w) (base := base) T n).2
  refine pr2 T.d_lets_for T.g_lets_for sc_lets_for (fun _ _ _ _ _ _ us hl => match us, hl with | [_, _], _ => rfl) fun a b H Q h cdv A outer s E hr hu => ?_
  obtain ⟨l, fs, f, rfl, rfl, hL, hW, hf, hb, q⟩ := h
  obtain ⟨⟨c, lo, hi⟩, hbd⟩ := Option.ne_none_iff_exists'.mp hb
  obtain ⟨g, hg, rfl, _⟩ := hW.st f hf _ _ _ hbd
  obtain ⟨j, hj⟩ := List.mem_iff_getElem?.mp hg
  have hs : stV f.k = .str g.nm := by unfold stV Kd.st; rw [hbd]; rfl
  refine ⟨_, (pss_cons (ps_setLc (i := 2) (own := [("number", 3), ("other", 4)]) rfl sc_lets_for.nd rfl rfl (sw_true rfl rfl rfl (by decide +kernel)) (piEK (K := K) rfl (by rfl) T.b_enumerate (pa_cons (pv 0) pa_nil)) (blkOk_by (N := ["fields", "field", "places", "number", "other"]) (sc := defScope s_lets_for) (by decide +kernel)) (fun _ _ _ _ _ => (pgTK (K := K) (n := 2) rfl rfl (pgs_cons (pg_name (i := 3) sc_lets_for.nd rfl (Or.inl rfl)) (pgs_cons (pg_name (i := 4) sc_lets_for.nd rfl (Or.inl rfl)) pgs_nil)))) (fun _ _ _ _ _ => (pts_one (pt_cmpR op_eq (fldK (K := K) rfl (pv 4) rfl) (pe_mU G_steers (hr.mono (by omega)) (pv 1)) (by rfl)))) (fun _ _ _ _ _ => (pv 3)))
      (pss_one (ps_ret (pe_fn G_lets_of (hr.mono (by omega)) (by rfl) (pa_cons (pv 0) (pa_cons (pe_ix (ixLK (K := K) rfl) (pv 2) pe_int (fun _ _ => rfl)) pa_nil)))))), ?_⟩
  refine (sv_asgL (el_is (el_compE (xs := fs) (val := Fld.v) (g := fun z => vN z.2) (p := fun z => decide (z.1.nm = g.nm)) (by decide) (ea_cons (ev_var rfl) ea_nil) hL.seq (by have := hW.sz; omega) (fun x i hx => et_test (ev_is (ev_op (ev_name T (ev_var rfl) (hL.ob x (List.mem_of_getElem? hx))) (ev_is (ev_steers (ev_var (i := 1) rfl) (hL.ob f hf)) hs) (rv_eq rfl)) (congrArg V.bl (by rw [decide_eq_decide, V.str.injEq])))) fun x i hx _ => ev_var rfl) (show _ = [vN j] by rw [zip_one hW.nd hj 0, Nat.zero_add]; rfl)) fun p hp => ?_).here
  have e1 := Ex.new hp (o := .lst [vN j])
  exact sv_retL (el_lets (ev_var rfl) (ev_op (ev_var rfl) ev_c (rv_ixL (sq_of upd_same) (atI_nat (j := 0) rfl))) (hL.mono e1) hW hf hj hbd) fun p2 H2 h1 e2 h2 => q p2 H2 (fresh_back e1 h1) (e1.trans e2) h2
theorem el_letsF {l : Addr} {fs : List Fld} (ha : Ev ta σ H (.ref l)) (hb : Ev tb σ H f.v) (hL : LAt K H (n + 1) l fs) (hW : LW (n + 1) fs) (hf : f ∈ fs) (h0 : f.k.bds ≠ none) : EvL (tFn (Sp2 (aLetsF K n)) (tCons ta (tCons tb tNil))) σ H ((letM n f).map V.int) :=
  el_fn (ea_cons ha (ea_cons hb ea_nil)) fun H1 e Q q E => ⟨_, _, rfl, l, fs, f, rfl, rfl, hL.mono e, hW, hf, h0, fun p H2 hp e h2 => q p H2 hp e h2⟩
abbrev aFits (K : PySem.W.Frag) (n : Nat) : A3 := fun a b c H Q => ∃ (l : Addr) (fs : List Fld) (f : Fld) (hw : How) (m : Nat), a = .ref l ∧ b = f.v ∧ c = vN m ∧ LAt K H (n + 1) l fs ∧ LW (n + 1) fs ∧ f ∈ fs ∧ (((∃ df, f.k = .txt hw df) ∧ hw.ok 60 m) ∨ ((∃ mk, f.k = .row hw mk) ∧ hw.ok 40 m)) ∧ RetV (.bl true) H Q
theorem ok_fits_count (T : Tx K mg) : Pr P w K mg base (10 * n + 10) "fits_count" (Sp3 (aFits K n)) := by
  have G_lets_for := ok_lets_for (P := P) (w := w) (base := base) (n := n) T
  refine pr3 T.d_fits_count T.g_fits_count sc_fits_count (fun _ _ _ _ _ _ us hl => match us, hl with | [_, _, _], _ => rfl) fun a b c H Q h cdv A outer s E hr hu => ?_
  obtain ⟨l, fs, f, hw, m, rfl, rfl, rfl, hL, hW, hf, hok, q⟩ := h
  have ob := hL.ob f hf
  have hh : (∃ df, f.k = .txt hw df) ∨ ∃ mk, f.k = .row hw mk := hok.imp (·.1) (·.1)
  refine ⟨_, (pss_cons (ps_if (pt_cmpR op_eq (fldK (K := K) rfl (pv 1) rfl) pe_str (by rfl)) (pss_one (ps_ret (pe_cmpR op_eq (pv 2) (fldK (K := K) rfl (pv 1) rfl) (by rfl)))) pss_nil)
      (pss_cons (ps_if (pt_cmpR op_eq (fldK (K := K) rfl (pv 1) rfl) pe_str (by rfl)) (pss_one (ps_ret (pe_cmpR op_le (pv 2) (fldK (K := K) rfl (pv 1) rfl) (by rfl)))) pss_nil)
      (pss_one (ps_ret (pe_cmpR (op_inK (K := K) rfl) (pv 2) (pe_fn G_lets_for (hr.mono (by omega)) (by rfl) (pa_cons (pv 0) (pa_cons (pv 1) pa_nil))) (by rfl)))))), ?_⟩
  cases hw with
  | fix k =>
    have hk : m = k := hok.elim (·.2) (·.2)
    refine (sv_take (ev_how T (ev_var rfl) ob hh) rfl ?_).here
    refine sv_ret (ev_is (ev_op (ev_var rfl) (ev_count T (ev_var rfl) ob hh) (rv_eq rfl)) ?_) q
    rw [hk]
    exact congrArg V.bl (decide_eq_true rfl)
  | end_ k =>
    have hk : m ≤ k := hok.elim (·.2) (·.2)
    refine (sv_skip (ev_how T (ev_var rfl) ob hh) ne_end_fixed (sv_take (ev_how T (ev_var rfl) ob hh) rfl ?_)).here
    refine sv_ret (ev_is (ev_op (ev_var rfl) (ev_count T (ev_var rfl) ob hh) rv_I0) ?_) q
    exact congrArg V.bl (decide_eq_true (by omega))
  | by_ c lo hi =>
    refine (sv_skip (ev_how T (ev_var rfl) ob hh) ne_by_fixed (sv_skip (ev_how T (ev_var rfl) ob hh) ne_by_end ?_)).here
    have hbd : f.k.bds = some (c, lo, hi) := by rcases hh with ⟨df, h⟩ | ⟨mk, h⟩ <;> rw [h] <;> rfl
    have hin : (m : Int) ∈ letM n f := by
      rw [mem_letM hbd]
      rcases hok with ⟨⟨df, hk⟩, h1, h2, h3⟩ | ⟨⟨mk, hk⟩, h1, h2, h3⟩
      · refine ⟨?_, h2, h3⟩
        unfold possB
        rw [hk]
        exact mem_rangeI (by omega)
      · refine ⟨?_, h2, h3⟩
        unfold possB
        rw [hk]
        exact mem_rangeI (by omega)
    refine sv_ret (ev_opL (ev_var rfl) (el_letsF (ev_var rfl) (ev_var rfl) hL hW hf (by rw [hbd]; exact fun z => nomatch z)) fun p H1 hp _ => ?_) q
    have := rv_isL (K := K) (sq_of hp) (x := vN m) rfl (flat_int (letM n f))
    rw [inV_int, decide_eq_true hin] at this
    exact this
theorem ev_fits {l : Addr} {fs : List Fld} {hw : How} {m : Nat} (ha : Ev ta σ H (.ref l)) (hb : Ev tb σ H f.v) (hc : Ev tc σ H (vN m)) (hL : LAt K H (n + 1) l fs) (hW : LW (n + 1) fs) (hf : f ∈ fs) (hok : ((∃ df, f.k = .txt hw df) ∧ hw.ok 60 m) ∨ ((∃ mk, f.k = .row hw mk) ∧ hw.ok 40 m)) : Ev (tFn (Sp3 (aFits K n)) (tCons ta (tCons tb (tCons tc tNil)))) σ H (.bl true) :=
  ev_fn (ea_cons ha (ea_cons hb (ea_cons hc ea_nil))) fun H1 e Q q E => ⟨_, _, _, rfl, l, fs, f, hw, m, rfl, rfl, rfl, hL.mono e, hW, hf, hok, q⟩
/-! ### texts -/
theorem lt1 {a b : Nat} : ([a] < [b]) ↔ a < b := by
  rw [List.cons_lt_cons_iff]
  simp
abbrev aTextMis (K : PySem.W.Frag) (n : Nat) : A4 := fun a b c _ H Q => ∃ (l : Addr) (fs : List Fld) (f : Fld) (hw : How) (df : Option Str) (s : Str), a = .ref l ∧ b = f.v ∧ c = .str s ∧ LAt K H (n + 1) l fs ∧ LW (n + 1) fs ∧ f ∈ fs ∧ f.k = .txt hw df ∧ hw.ok 60 s.length ∧ okText s ∧ s.length ≤ 60 ∧ RetV .non H Q
theorem ok_text_misfit (T : Tx K mg) : Pr P w K mg base (10 * n + 11) "text_misfit" (Sp4 (aTextMis K n)) := by
  have G_fits_count := ok_fits_count (P := P) (w := w) (base := base) (n := n) T
  refine pr4 T.d_text_misfit T.g_text_misfit sc_text_misfit (fun _ _ _ _ _ _ us hl => match us, hl with | [_, _, _, _], _ => rfl) fun a b c d H Q h cdv A outer s E hr hu => ?_
  obtain ⟨l, fs, f, hw, df, z, rfl, rfl, rfl, hL, hW, hf, hk, hok, htx, hz, q⟩ := h
  refine ⟨_, (pss_cons (ps_if (pt_not (pt_val (pe_callB (isiK (K := K) rfl) (by rfl) T.b_isinstance (by decide +kernel) (pa_cons (pv 2) (pa_cons (pe_bltn (v := .ty "str") (by rfl) T.b_str (by decide +kernel) rfl) pa_nil))))) (pss_one (ps_ret (pe_tup (pa_cons (pv 3) (pa_cons pe_str pa_nil))))) pss_nil)
      (pss_cons (ps_for PassesOwn.never rfl (pi_str (pv 2)) (pg_name (i := 4) sc_text_misfit.nd rfl (.inl rfl)) (pss_one (ps_if (PW.pt (pw_or (pt_cmpR op_lt_str (pv 4) pe_str (by rfl)) (pw_or (pt_cmpR op_gt_str (pv 4) pe_str (by rfl)) (pw_or1 (pt_cmpR op_eq (pe_callB call_ord (by rfl) T.b_ord (by decide +kernel) (pa_cons (pv 4) pa_nil)) (pe_gint (by rfl) T.c_PERCENT) (by rfl)))))) (pss_one (ps_ret (pe_tup (pa_cons (pv 3) (pa_cons pe_str pa_nil))))) pss_nil)))
      (pss_cons (ps_if (pt_not (pt_val (pe_fn G_fits_count (hr.mono (by omega)) (by rfl) (pa_cons (pv 0) (pa_cons (pv 1) (pa_cons (pe_callB (lenK (K := K) rfl) (by rfl) T.b_len (by decide +kernel) (pa_cons (pv 2) pa_nil)) pa_nil)))))) (pss_one (ps_ret (pe_tup (pa_cons (pv 3) (pa_cons pe_str pa_nil))))) pss_nil)
      (pss_one (ps_ret pe_non))))), ?_⟩
  refine (sv_skipT (et_is (et_not (et_test (ev_isi (ev_var rfl) ty_str (b := true) (by decide +kernel)))) rfl) ?_).here
  intro H1 e1
  refine ⟨.str z, rfl, z, rfl, ?_⟩
  refine for_it (N := z.cps.size) (fun i σ' H' => (∃ y, σ' = [some (.ref l), some f.v, some (.str z), some d, y]) ∧ Ex H H') ⟨⟨none, rfl⟩, e1⟩ (fun i _ _ hi _ => hi) (fun _ _ _ => Nat.le_refl _) ?_ ?_
  · rintro i x σ' H2 H3 hi ⟨⟨y, rfl⟩, e2⟩ ⟨rfl, c, hc, rfl⟩
    have hcm : okSign c = true := htx c (Array.mem_toList_iff.mpr (Array.mem_of_getElem? hc))
    unfold okSign at hcm
    rw [Bool.and_eq_true, Bool.and_eq_true, decide_eq_true_iff, decide_eq_true_iff, bne_iff_ne] at hcm
    obtain ⟨⟨h1, h2⟩, h3⟩ := hcm
    refine s_when (b := false) (et_is (et_or (et_test (ev_op (ev_var rfl) ev_c (rv_val fun H4 _ Q4 q4 => ⟨_, _, rfl, rfl, q4⟩))) fun _ => et_or (et_test (ev_op (ev_var rfl) ev_c (rv_val fun H4 _ Q4 q4 => ⟨_, _, rfl, rfl, q4⟩))) fun _ => et_test (ev_op (ev_cb (ea_cons (ev_var (v := .str ⟨#[c]⟩) rfl) ea_nil) fun H4 _ Q4 q4 => ⟨⟨#[c]⟩, rfl, rfl, q4 H4 (Ex.refl _)⟩) ev_c (rv_eq rfl))) ?_) (fun z => nomatch z) fun _ H5 e5 => ⟨⟨_, rfl⟩, e2.trans e5⟩
    have g1 : ¬ ([c] < [32]) := fun z => by have := lt1.mp z; omega
    have g2 : ¬ ([126] < [c]) := fun z => by have := lt1.mp z; omega
    have g3 : ¬ ((c : Int) = 37) := by omega
    rw [Bool.or_eq_false_iff, Bool.or_eq_false_iff]
    refine ⟨decide_eq_false g1, decide_eq_false g2, decide_eq_false fun z => g3 (V.int.inj z)⟩
  · rintro σ' H2 ⟨⟨y, rfl⟩, e2⟩
    refine (sv_skipT (H := H2) (et_is (et_not (et_test (ev_fits (hw := hw) (ev_var rfl) (ev_var rfl) (ev_lenV (ev_var rfl) (lenV_str (by omega))) (hL.mono e2) hW hf (.inl ⟨⟨df, hk⟩, hok⟩)))) rfl) ?_).here
    exact sv_ret ev_c fun H3 e3 => q H3 (e2.trans e3)
theorem ev_textMis {l : Addr} {fs : List Fld} {hw : How} {df : Option Str} {s : Str} {v : V} (ha : Ev ta σ H (.ref l)) (hb : Ev tb σ H f.v) (hc : Ev tc σ H (.str s)) (hd : Ev td σ H v) (hL : LAt K H (n + 1) l fs) (hW : LW (n + 1) fs) (hf : f ∈ fs) (hk : f.k = .txt hw df) (hok : hw.ok 60 s.length) (ht : okText s) (hz : s.length ≤ 60) :
    Ev (tFn (Sp4 (aTextMis K n)) (tCons ta (tCons tb (tCons tc (tCons td tNil))))) σ H .non :=
  ev_fn (ea_cons ha (ea_cons hb (ea_cons hc (ea_cons hd ea_nil)))) fun H1 e Q q E => ⟨_, _, _, _, rfl, l, fs, f, hw, df, s, rfl, rfl, rfl, hL.mono e, hW, hf, hk, hok, ht, hz, q⟩
end
end Fk

set_option Elab.async false
set_option linter.all false
set_option maxRecDepth 100000
set_option maxHeartbeats 4000000
set_option exponentiation.threshold 3000
namespace Fk
open PySem PySem.Spec PyProof.Rows L2 Evl
/-- a value that fits, as a misfit is sought -/
structure MOk (H : Hp) (n : Nat) (fs : List Fld) (gr : Bool) (p : Addr) (kvs : Kvs) (A B : List Fld) : Prop where
  at_ : H p = some (.dK kvs)
  nd : (kvs.map (·.1)).Nodup
  ab : fs.filter (fun f => f.k.told) = A ++ B
  fa : ∀ f ∈ A, ∃ u w, valV kvs (kn f.nm) = some u ∧ FOk H n f u w
  fb : ∀ f ∈ B, valV kvs (kn f.nm) = none ∧ f.k.dfl ≠ .non
  no : gr = false → B = []
  ks : ∀ q ∈ kvs, (∃ f ∈ fs, f.k.told = true ∧ q.1 = kn f.nm) ∨ (gr = true ∧ q.1 = kn "rest")
  rs : valV kvs (kn "rest") = none ∨ (B = [] ∧ ∃ (q : Addr) (bs : List Int), valV kvs (kn "rest") = some (.ref q) ∧ H q = some (.lst (bs.map V.int)) ∧ bs ≠ [] ∧ bs.length ≤ 255 ∧ ∀ b ∈ bs, 0 ≤ b ∧ b ≤ 255)
theorem MOk.mono {H H' : Hp} {n : Nat} {fs : List Fld} {gr : Bool} {p : Addr} {kvs : Kvs} {A B : List Fld} (e : Ex H H') (h : MOk H n fs gr p kvs A B) : MOk H' n fs gr p kvs A B :=
  ⟨e _ _ h.at_, h.nd, h.ab, fun f hf => let ⟨u, w, a, b⟩ := h.fa f hf; ⟨u, w, a, b.mono e⟩, h.fb, h.no, h.ks, h.rs.imp id fun ⟨a, q, bs, b, c, d⟩ => ⟨a, q, bs, b, e _ _ c, d⟩⟩
theorem sum_get {F : Fld → Nat → Prop} : ∀ {fs : List Fld} {W : Nat}, SumB F fs W → ∀ f ∈ fs, ∃ w, F f w
  | [], _, _, _, h => nomatch h
  | g :: r, _, ⟨a, b, h1, h2, _⟩, f, h => by
    rcases List.mem_cons.mp h with rfl | h
    · exact ⟨a, h1⟩
    · exact sum_get h2 f h
theorem mok_of {H : Hp} {n : Nat} {fs : List Fld} {gr : Bool} {u : V} {W : Nat} (hW : WD (n + 1) fs) (hz : W ≤ 2040 ∨ gr = false) (h : if gr = true then GOk H (n + 1) fs u W else DOk H (n + 1) fs u W) : ∃ p kvs A B, u = .ref p ∧ MOk H n fs gr p kvs A B := by
  cases gr with
  | false =>
    obtain ⟨p, kvs, rfl, h2, h3, h4, h5⟩ := h
    refine ⟨p, kvs, fs.filter (fun f => f.k.told), [], rfl, h2, h3, by rw [List.append_nil], fun f hf => ?_, fun _ h => (by cases h), fun _ => rfl, fun q hq => .inl (h4 q hq), .inl (val_none fun q hq e => ?_)⟩
    · obtain ⟨hf, ht⟩ := List.mem_filter.mp hf
      obtain ⟨w, hw⟩ := sum_get h5 f hf
      have ht : f.k.told = true := ht
      rw [if_pos ht] at hw
      obtain ⟨u, a, b⟩ := hw
      exact ⟨u, w, a, b⟩
    · obtain ⟨f, hf, _, h⟩ := h4 q hq
      exact hW.nr f hf (kn_inj (h.symm.trans e))
  | true =>
    obtain ⟨p, kvs, j, a, rfl, h2, h3, h4, h5, h6, h7⟩ := h
    refine ⟨p, kvs, (fs.take j).filter (fun f => f.k.told), (fs.drop j).filter (fun f => f.k.told), rfl, h2, h3, by rw [← List.filter_append, List.take_append_drop], fun f hf => ?_, fun f hf => ?_, fun z => (by cases z), fun q hq => (h4 q hq).imp id fun h => ⟨rfl, h⟩, ?_⟩
    · obtain ⟨hf, ht⟩ := List.mem_filter.mp hf
      obtain ⟨w, hw⟩ := sum_get h5 f hf
      have ht : f.k.told = true := ht
      rw [if_pos ht] at hw
      obtain ⟨u, a, b⟩ := hw
      exact ⟨u, w, a, b⟩
    · have := h6 f (List.mem_filter.mp hf).1
      exact ⟨this.2, this.1⟩
    · rcases h7 with ⟨h7, _⟩ | ⟨h7, q, bs, h9, h10, h11, h12, e⟩
      · exact .inl h7
      · refine .inr ⟨by rw [List.drop_eq_nil_of_le h7]; rfl, q, bs, h9, h10, h11, ?_, h12⟩
        rcases hz with hz | hz
        · omega
        · cases hz
theorem DOk.dict {H : Hp} {n : Nat} {fs : List Fld} {u : V} {W : Nat} (h : DOk H n fs u W) : ∃ p kvs, u = .ref p ∧ H p = some (.dK kvs) := by
  cases n with
  | zero => exact h.elim
  | succ n => obtain ⟨p, kvs, e, h, _⟩ := h; exact ⟨p, kvs, e, h⟩
section
variable {P : Program} {w : World} {K : PySem.W.Frag} {mg : Str → Option Value} {base : Heap} {σ : L2.St} {H H' : Hp} {te ta tb tc tl td ty tx : TE} {tt : TT} {tu tw tz : TS} {D : Ends} {f : Fld} {n : Nat}
abbrev aRest : A1 := fun a H Q => ∃ (q : Addr) (bs : List Int), a = .ref q ∧ H q = some (.lst (bs.map V.int)) ∧ bs ≠ [] ∧ bs.length ≤ 255 ∧ (∀ b ∈ bs, 0 ≤ b ∧ b ≤ 255) ∧ RetV (.bl true) H Q
theorem ev_all {bs : List Bool} (h : EvL tl σ H (bs.map V.bl)) : Ev (tCB (rAll K) (tCons tl tNil)) σ H (.bl (bs.all id)) := fun H1 e Q q => h H1 e _ fun p H2 _ e2 h2 => ⟨p, bs, rfl, sq_of h2, q H2 e2⟩
theorem ev_chain {r r' : R2} {a b : Bool} {x y z : V} (ha : Ev ta σ H x) (hb : Ev tb σ H y) (hr : RV r x y H (.bl a)) (hc : Ev tc σ H z) (hr2 : RV r' y z H (.bl b)) (hab : a = true) : Ev (tChain r r' ta tb tc) σ H (.bl b) := by
  subst hab
  intro H1 e Q q
  refine ha H1 e _ fun H2 e2 => hb H2 (e.trans e2) _ fun H3 e3 => hr H3 ((e.trans e2).trans e3) _ fun H4 e4 => ⟨true, rfl, ?_⟩
  have eA := ((e.trans e2).trans e3).trans e4
  exact hc H4 eA _ fun H5 e5 => hr2 H5 (eA.trans e5) Q fun H6 e6 => q H6 ((((e2.trans e3).trans e4).trans e5).trans e6)
theorem ok_is_rest (T : Tx K mg) : Pr P w K mg base 2 "is_rest" (Sp1 aRest) := by
  have G_is_number := ok_is_number (P := P) (w := w) (base := base) T
  refine pr1 T.d_is_rest T.g_is_rest sc_is_rest (fun _ _ _ _ _ _ us hl => match us, hl with | [_], _ => rfl) fun a H Q h cdv A outer s E hr hu => ?_
  obtain ⟨p, bs, rfl, hp, hne, hz, hb, q⟩ := h
  refine ⟨_, (pss_cons (ps_if (PW.pt (pw_or (pt_not (pt_val (pe_callB (isiK (K := K) rfl) (by rfl) T.b_isinstance (by decide +kernel) (pa_cons (pv 0) (pa_cons (pe_bltn (v := .ty "list") (by rfl) T.b_list (by decide +kernel) rfl) pa_nil))))) (pw_or1 (pt_cmpR (op_eqNil hu) (pv 0) (pe_lst pa_nil) (by rfl))))) (pss_one (ps_ret pe_bl)) pss_nil)
      (pss_one (ps_ret (pe_callB (allK (K := K) rfl rfl) (by rfl) T.b_all (by decide +kernel) (pa_cons (pe_lc (own := [("one", 1)]) rfl sc_is_rest.nd (piLK (K := K) rfl (pv 0)) (blkOk_by (N := ["rest", "one"]) (sc := defScope s_is_rest) (by decide +kernel)) (fun _ _ _ _ _ => (pg_name (i := 1) sc_is_rest.nd rfl (Or.inl rfl))) (fun _ _ _ _ _ => pts_nil) (fun _ _ _ _ _ => (pe_and (pe_fn G_is_number (hr.mono (by omega)) (by rfl) (pa_cons (pv 1) pa_nil)) (pe_one (pe_chain op_le op_le pe_int (pv 1) pe_int))))) pa_nil))))), ?_⟩
  have hemp : (bs.map V.int).isEmpty = false := by
    cases bs with
    | nil => exact absurd rfl hne
    | cons => rfl
  have hall : (bs.map fun _ => true).all id = true := by
    rw [List.all_map, List.all_eq_true]
    exact fun _ _ => rfl
  refine (sv_skipT (et_is (et_or (b := false) (et_not (et_test (ev_isi (ev_var rfl) (ty_list hp) (b := true) (by decide +kernel)))) fun _ => et_test (ev_opL (ev_var rfl) (el_lst ea_nil (by decide)) fun p2 H1 hp2 e1 => rv_val fun H3 e3 Q3 q3 => ⟨p, p2, bs.map V.int, rfl, rfl, e3 _ _ (e1 _ _ hp), e3 _ _ hp2, by rw [hemp]; exact q3⟩)) rfl) ?_).here
  refine sv_ret (ev_is (ev_all (bs := bs.map fun _ => true) (el_is (el_comp (xs := bs) (val := V.int) (g := fun _ => .bl true) (p := fun _ => true) (ev_var rfl) (sq_of hp) (by omega) (fun _ _ => et_yes) fun b hbm _ => ev_andV (a := true) (b := true) (ev_isNum (ev_var rfl)) fun _ => ?_) (by rw [map_all, List.map_map]; rfl))) (congrArg V.bl hall)) q
  have := hb b hbm
  exact ev_is (ev_chain (a := decide (0 ≤ b)) (b := decide (b ≤ 255)) ev_c (ev_var rfl) rv_I0 ev_c rv_I0 (decide_eq_true this.1)) (congrArg V.bl (decide_eq_true this.2))
theorem ev_rest {q : Addr} {bs : List Int} (h : Ev ta σ H (.ref q)) (hq : H q = some (.lst (bs.map V.int))) (h1 : bs ≠ []) (h2 : bs.length ≤ 255) (h3 : ∀ b ∈ bs, 0 ≤ b ∧ b ≤ 255) : Ev (tFn (Sp1 aRest) (tCons ta tNil)) σ H (.bl true) :=
  ev_fn (ea_cons h ea_nil) fun H1 e Q q E => ⟨_, rfl, _, bs, rfl, e _ _ hq, h1, h2, h3, q⟩
theorem told_len {fs : List Fld} (h : fs.length ≤ 26) : (fs.filter fun f => f.k.told).length ≤ 26 := Nat.le_trans (List.length_filter_le _ _) h
/-! ### keys_fit -/
theorem lc_keys {d Dl : Addr} {o : Obj} {kvs : Kvs} {H1 : Hp} {g : Key → V} {j : Nat} {Q : VK} (hd : H1 d = some (.frz o (.dK kvs))) (hD : H1 Dl = none) (hz : kvs.length ≤ 40000) (he : ∀ q ∈ kvs, Ev te ((wipe σ [j]).set j (some (kV q.1))) H1 (g q.1)) (q : ∀ H2, Ex H1 H2 → H2 Dl = some (.lst (kvs.map fun q => g q.1)) → Q (.ref Dl) H2) :
    ∃ W : Nat → Nat → Hp → Prop, (∃ m, W 0 m (upd H1 Dl (.lst []))) ∧ ∀ i m H, W i m H →
      ((Itk d o kvs).stop i H ∧ Q (.ref Dl) H) ∨ ((Itk d o kvs).go i H ∧ ∃ Nx : Hp → Prop, (∀ H', Nx H' → ∃ m', m' < m ∧ W (i + 1) m' H') ∧ ∀ x H', (Itk d o kvs).yld i H x H' → gName j x (wipe σ [j]) H' fun σ2 H2 => wipe σ2 [j] = wipe σ [j] ∧ tYes σ2 H2 fun b H3 =>
        if b = true then te σ2 H3 fun y H4 => ∃ acc, H4 Dl = some (.lst acc) ∧ acc.length < sizeLine ∧ Nx (upd H4 Dl (.lst (acc ++ [y]))) else Nx H3) := by
  have hDd : d ≠ Dl := fun z => by rw [z, hD] at hd; cases hd
  refine ⟨fun i m H => m = kvs.length - i ∧ i ≤ kvs.length ∧ Ex H1 H ∧ H Dl = some (.lst ((kvs.take i).map fun q => g q.1)), ⟨kvs.length, by simp, Nat.zero_le _, Ex.new hD, upd_same⟩, ?_⟩
  rintro i m H ⟨rfl, hi, e, h⟩
  by_cases hlt : i < kvs.length
  · refine .inr ⟨⟨e _ _ hd, hlt⟩, fun H => Ex H1 H ∧ H Dl = some (.lst ((kvs.take (i + 1)).map fun q => g q.1)), fun H' p => ⟨kvs.length - (i + 1), by omega, rfl, hlt, p⟩, fun x H' y => ?_⟩
    obtain ⟨e6, k, v, hkv, rfl⟩ := y
    replace e6 := e6.symm
    subst e6
    refine ⟨?_, ?_⟩
    · show wipe ((wipe σ [j]).set j (some (kV k))) [j] = wipe σ [j]
      simp [wipe]
    · show te _ _ _
      refine he (k, v) (List.mem_of_getElem? hkv) H e _ fun H4 e4 => ⟨_, e4 _ _ h, ?_, Ex.mut (e.trans e4) hD, ?_⟩
      · rw [List.length_map, List.length_take]
        exact sz_lt (by omega)
      · rw [upd_same, List.take_add_one, hkv, List.map_append]
        rfl
  · refine .inl ⟨⟨e _ _ hd, by omega⟩, q H e ?_⟩
    rw [h, List.take_of_length_le (by omega)]
abbrev aKeys (K : PySem.W.Frag) (n : Nat) : A3 := fun a b c H Q => ∃ (l : Addr) (fs : List Fld) (gr : Bool) (p : Addr) (kvs : Kvs) (A B : List Fld), a = .ref l ∧ b = .ref p ∧ c = .bl gr ∧ LAt K H (n + 1) l fs ∧ WD (n + 1) fs ∧ MOk H n fs gr p kvs A B ∧ RetV (.bl true) H Q
theorem nd_sub {α : Type} [DecidableEq α] : ∀ {xs ys : List α}, xs.Nodup → (∀ x ∈ xs, x ∈ ys) → xs.length ≤ ys.length
  | [], _, _, _ => Nat.zero_le _
  | x :: r, ys, h, hs => by
    rw [List.nodup_cons] at h
    have hx := hs x (List.mem_cons_self ..)
    have := nd_sub (ys := ys.erase x) h.2 fun y hy => (List.mem_erase_of_ne (fun z => h.1 (by rw [← z]; exact hy))).mpr (hs y (List.mem_cons_of_mem _ hy))
    rw [List.length_erase_of_mem hx] at this
    have hp := List.length_pos_of_mem hx
    rw [List.length_cons]
    omega
theorem MOk.few {fs : List Fld} {gr : Bool} {p : Addr} {kvs : Kvs} {A B : List Fld} (h : MOk H n fs gr p kvs A B) (hz : fs.length ≤ 26) : kvs.length ≤ 27 := by
  have := nd_sub h.nd (ys := kn "rest" :: (fs.map fun f => kn f.nm)) fun k hk => by
    obtain ⟨q, hq, rfl⟩ := List.mem_map.mp hk
    rcases h.ks q hq with ⟨f, hf, _, e⟩ | ⟨_, e⟩
    · exact List.mem_cons_of_mem _ (List.mem_map.mpr ⟨f, hf, e.symm⟩)
    · rw [e]
      exact List.mem_cons_self ..
  rw [List.length_map, List.length_cons, List.length_map] at this
  omega
theorem ok_keys_fit (T : Tx K mg) : Pr P w K mg base 3 "keys_fit" (Sp3 (aKeys K n)) := by
  have G_told_fields := ok_told_fields (P := P) (w := w) (base := base) T
  refine pr3 T.d_keys_fit T.g_keys_fit sc_keys_fit (fun _ _ _ _ _ _ us hl => match us, hl with | [_, _, _], _ => rfl) fun a b c H Q h cdv A outer s E hr hu => ?_
  obtain ⟨l, fs, gr, p, kvs, A, B, rfl, rfl, rfl, hL, hW, hM, q⟩ := h
  refine ⟨_, (pss_cons (ps_if (pt_not (pt_val (pe_callB (isiK (K := K) rfl) (by rfl) T.b_isinstance (by decide +kernel) (pa_cons (pv 1) (pa_cons (pe_bltn (v := .ty "dict") (by rfl) T.b_dict (by decide +kernel) rfl) pa_nil))))) (pss_one (ps_ret pe_bl)) pss_nil)
      (pss_cons (ps_set (i := 3) sc_keys_fit.nd rfl (.inr rfl) (pe_lc (own := [("field", 4)]) rfl sc_keys_fit.nd (piLK (K := K) rfl (pe_fn G_told_fields (hr.mono (by omega)) (by rfl) (pa_cons (pv 0) pa_nil))) (blkOk_by (N := ["fields", "value", "grows", "names", "field", "key"]) (sc := defScope s_keys_fit) (by decide +kernel)) (fun _ _ _ _ _ => (pg_name (i := 4) sc_keys_fit.nd rfl (Or.inl rfl))) (fun _ _ _ _ _ => pts_nil) (fun _ _ _ _ _ => (fldK (K := K) rfl (pv 4) rfl))))
      (pss_cons (ps_if (pt_val (pv 2)) (pss_one (ps_expr (pe_appK (K := K) rfl (pv 3) (pa_cons pe_str pa_nil)))) pss_nil)
      (pss_one (ps_ret (pe_lock (pe_callB (allK (K := K) rfl rfl) (by rfl) T.b_all (by decide +kernel) (pa_cons (pe_lc (own := [("key", 5)]) rfl sc_keys_fit.nd (pi_keys (pv 1)) (blkOk_by (N := ["fields", "value", "grows", "names", "field", "key"]) (sc := defScope s_keys_fit) (by decide +kernel)) (fun _ _ _ _ _ => (pg_name (i := 5) sc_keys_fit.nd rfl (Or.inl rfl))) (fun _ _ _ _ _ => pts_nil) (fun _ _ _ _ _ => (pe_cmpR (op_inK (K := K) rfl) (pv 5) (pv 3) (by rfl)))) pa_nil)))))))), ?_⟩
  refine (sv_skipT (et_is (et_not (et_test (ev_isi (ev_var rfl) (ty_dict hM.at_) (b := true) (by decide +kernel)))) rfl) ?_).here
  refine sv_asgL (el_is (el_compN (val := Fld.v) (g := fun f => V.str f.nm) (p := fun _ => true) (el_told (ev_var rfl) hL.seq hL.ob hW.tc (by have := hW.sz; omega)) (Nat.le_trans (told_len hW.sz) (by decide)) (fun _ _ => et_yes) fun f hf _ => ev_name T (ev_var rfl) (hL.ob f (List.mem_filter.mp hf).1)) ((map_all _ _).trans told_names)) fun pn hpn => ?_
  have hkz := hM.few hW.sz
  have fin : ∀ (ns : List Str) (H1 : Hp), Ex H H1 → H1 pn = some (.lst (ns.map V.str)) → (∀ q ∈ kvs, ∃ x, q.1 = kn x ∧ x ∈ ns) → SV (tRet (tLockE (tCB (rAll K) (tCons (tLc (iKeys (tVar 1)) (gName 5) tYes (tOp (rIn K false) (tVar 5) (tVar 3)) [5]) tNil)))) { nx := fun _ H' => Q .non H', rt := Q } [some (.ref l), some (.ref p), some (.bl gr), some (.ref pn), none, none] H1 := by
    intro ns H1 e1 h1 hk H2 e2
    have e12 := e1.trans e2
    have hp2 := e12 _ _ hM.at_
    refine ⟨p, .dK kvs, hp2, True.intro, fun od => ?_⟩
    have hne : pn ≠ p := fun z => by rw [z, hM.at_] at hpn; cases hpn
    refine ⟨.ref p, rfl, p, od, rfl, .inl ⟨kvs, upd_same, fun Dl hD => ?_⟩⟩
    have hDp : Dl ≠ p := fun z => by rw [z, upd_same] at hD; cases hD
    refine lc_keys (g := fun _ => .bl true) (Q := fun v H3 => rAll K [v] H3 fun v H' => H' p = some (.frz od (.dK kvs)) ∧ Q v (upd H' p (.dK kvs))) upd_same hD (by omega) (fun qq hq => ?_) fun H3 e3 h3 => ?_
    · obtain ⟨x, hx, hn⟩ := hk qq hq
      rw [hx]
      exact ev_is (ev_op (ev_var rfl) (ev_var rfl) (rv_isL (x := .str x) (sq_of (by rw [upd_ne hne]; exact e2 _ _ h1)) rfl (flat_str ns))) (by rw [inV_str, decide_eq_true hn])
    · refine ⟨Dl, kvs.map fun _ => true, rfl, sq_of (by rw [h3, List.map_map]; rfl), e3 _ _ upd_same, ?_⟩
      have ha : (kvs.map fun _ => true).all id = true := by
        rw [List.all_map, List.all_eq_true]
        exact fun _ _ => rfl
      rw [ha]
      refine q _ fun a o ho => ?_
      by_cases hap : a = p
      · subst hap
        rw [upd_same]
        rw [hM.at_] at ho
        exact ho
      · rw [upd_ne hap]
        exact e3 _ _ (by rw [upd_ne hap]; exact e12 _ _ ho)
  have htold : ∀ q ∈ kvs, (∃ x, q.1 = kn x ∧ x ∈ (fs.filter fun f => f.k.told).map Fld.nm) ∨ (gr = true ∧ q.1 = kn "rest") := fun q hq => (hM.ks q hq).imp (fun ⟨f, hf, ht, e⟩ => ⟨f.nm, e, List.mem_map.mpr ⟨f, List.mem_filter.mpr ⟨hf, ht⟩, rfl⟩⟩) id
  cases gr with
  | false => exact sv_skipT (et_test (ev_var rfl)) (fin _ _ (Ex.new hpn) upd_same fun q hq => by rcases htold q hq with h | ⟨h, _⟩; exact h; cases h)
  | true =>
    refine sv_takeT (et_test (ev_var rfl)) fun H1 e1 => ?_
    refine s_app (xs := ((fs.filter fun f => f.k.told).map Fld.nm).map V.str) (v := .str "rest") (e1 _ _ upd_same) (ev_var rfl) ev_c (by rw [List.length_map, List.length_map]; have := told_len hW.sz; omega) fun H2 e2 => ?_
    refine fin (((fs.filter fun f => f.k.told).map Fld.nm) ++ [("rest" : Str)]) (upd H2 pn _) (Ex.mut (((Ex.new hpn).trans e1).trans e2) hpn) (by rw [upd_same, List.map_append]; rfl) (fun q hq => ?_) _ (Ex.refl _)
    rcases htold q hq with ⟨x, h1, h2⟩ | ⟨_, h⟩
    · exact ⟨x, h1, List.mem_append_left _ h2⟩
    · exact ⟨"rest", h, List.mem_append_right _ (List.mem_singleton_self _)⟩
theorem ev_keys {l : Addr} {fs : List Fld} {gr : Bool} {p : Addr} {kvs : Kvs} {A B : List Fld} (ha : Ev ta σ H (.ref l)) (hb : Ev tb σ H (.ref p)) (hc : Ev tc σ H (.bl gr)) (hL : LAt K H (n + 1) l fs) (hW : WD (n + 1) fs) (hM : MOk H n fs gr p kvs A B) : Ev (tFn (Sp3 (aKeys K n)) (tCons ta (tCons tb (tCons tc tNil)))) σ H (.bl true) :=
  ev_fn (ea_cons ha (ea_cons hb (ea_cons hc ea_nil))) fun H1 e Q q E => ⟨_, _, _, rfl, l, fs, gr, p, kvs, A, B, rfl, rfl, rfl, hL.mono e, hW, hM.mono e, q⟩
/-! ### lacking -/
theorem ok_lacking (T : Tx K mg) : Pr P w K mg base 3 "lacking" (Sp3 fun a b c H Q => ∃ (l : Addr) (fs : List Fld) (gr : Bool) (p : Addr) (kvs : Kvs) (A B : List Fld), a = .ref l ∧ b = .ref p ∧ c = .bl gr ∧ LAt K H (n + 1) l fs ∧ WD (n + 1) fs ∧ MOk H n fs gr p kvs A B ∧ RetV .non H Q) := by
  have G_told_fields := ok_told_fields (P := P) (w := w) (base := base) T
  have G_default_of := ok_default_of (P := P) (w := w) (base := base) T
  refine pr3 T.d_lacking T.g_lacking sc_lacking (fun _ _ _ _ _ _ us hl => match us, hl with | [_, _, _], _ => rfl) fun a b c H Q h cdv A outer s E hr hu => ?_
  obtain ⟨l, fs, gr, p, kvs, A, B, rfl, rfl, rfl, hL, hW, hM, q⟩ := h
  refine ⟨_, (pss_cons (ps_set (i := 3) sc_lacking.nd rfl (.inl rfl) (pe_fn G_told_fields (hr.mono (by omega)) (by rfl) (pa_cons (pv 0) pa_nil)))
      (pss_cons (ps_for PassesOwn.never rfl (piEK (K := K) rfl (by rfl) T.b_enumerate (pa_cons (pv 3) pa_nil)) (pgTK (K := K) (n := 2) rfl rfl (pgs_cons (pg_name (i := 4) sc_lacking.nd rfl (.inl rfl)) (pgs_cons (pg_name (i := 5) sc_lacking.nd rfl (.inl rfl)) pgs_nil))) (pss_cons (ps_if (pt_cmp (pc_din hu (fldK (K := K) rfl (pv 5) rfl) (pv 1))) (pss_one ps_continue) pss_nil)
      (pss_cons (ps_if (PW.pt (pw_or (pt_not (pt_val (pv 2))) (pw_or1 (pt_cmpR op_isN (pe_fn G_default_of (hr.mono (by omega)) (by rfl) (pa_cons (pv 5) pa_nil)) pe_non (by rfl))))) (pss_one (ps_ret (pv 5))) pss_nil)
      (pss_one (ps_if (pt_cmpR (op_neNil hu) (pe_lc (own := [("later", 6)]) rfl sc_lacking.nd (piLK (K := K) rfl (pe_slice (slLK (K := K) rfl) (pv 3) (po_some (pv 4)) po_none)) (blkOk_by (N := ["fields", "value", "grows", "told", "place", "field", "later"]) (sc := defScope s_lacking) (by decide +kernel)) (fun _ _ _ _ _ => (pg_name (i := 6) sc_lacking.nd rfl (Or.inl rfl))) (fun _ _ _ _ _ => (pts_one (pt_cmp (pc_din hu (fldK (K := K) rfl (pv 6) rfl) (pv 1))))) (fun _ _ _ _ _ => (pv 6))) (pe_lst pa_nil) (by rfl)) (pss_one (ps_ret (pv 5))) pss_nil)))))
      (pss_one (ps_ret pe_non)))), ?_⟩
  refine (sv_asgL (el_told (ev_var rfl) hL.seq hL.ob hW.tc (by have := hW.sz; omega)) fun pt hpt => ?_).here
  have e1 := Ex.new hpt (o := .lst (toldV fs))
  have hM1 := hM.mono e1
  have hlen := told_len hW.sz
  have hAB : toldV fs = (A ++ B).map Fld.v := by unfold toldV; rw [hM.ab]
  refine sv_forE (ea_cons (ev_var rfl) ea_nil) (sq_of upd_same) (fun i σ' => ∃ x y, σ' = [some (.ref l), some (.ref p), some (.bl gr), some (.ref pt), x, y, none]) ⟨none, none, rfl⟩ ?_ ?_
  · rintro i x σ' hx ⟨u, v, rfl⟩
    rw [hAB] at hx
    obtain ⟨f, hf, hm, rfl⟩ := map_get hx
    have hfs : f ∈ fs := by rw [← hM.ab] at hm; exact (List.mem_filter.mp hm).1
    have hob := (hL.ob f hfs).mono e1
    have hin : Ev (tDIn (tFld K (tVar 5) "name") (tVar 1)) [some (.ref l), some (.ref p), some (.bl gr), some (.ref pt), some (.int (i : Nat)), some f.v, none] (upd H pt (.lst (toldV fs))) (.bl (valV kvs (kn f.nm)).isSome) := ev_din (k := kn f.nm) (ev_name T (ev_var rfl) hob) (ev_var rfl) (.of hM1.at_)
    rcases List.mem_append.mp hm with hA | hB
    · obtain ⟨y, w', h1, _⟩ := hM1.fa f hA
      refine sv_takeT (et_test (ev_is hin (by rw [h1]; rfl))) fun H2 e2 => ⟨⟨_, _, rfl⟩, e2⟩
    · obtain ⟨h1, h2⟩ := hM1.fb f hB
      have hg : gr = true := by
        cases gr with
        | true => rfl
        | false => rw [hM.no rfl] at hB; cases hB
      subst hg
      refine sv_skipT (et_test (ev_is hin (by rw [h1]; rfl))) ?_
      refine sv_skipT (et_is (et_or (b := false) (et_not (et_test (ev_var rfl))) fun _ => et_test (ev_is (ev_isn (ev_default (ev_var rfl) hob)) (congrArg V.bl (decide_eq_false h2)))) rfl) ?_
      have hiA : A.length ≤ i := by
        rcases Nat.lt_or_ge i A.length with z | z
        · exfalso
          rw [List.getElem?_append_left z] at hf
          obtain ⟨y, w', h3, _⟩ := hM1.fa f (List.mem_of_getElem? hf)
          rw [h1] at h3
          cases h3
        · exact z
      have hcut : cutV (toldV fs) (some (i : Int)) none = (B.drop (i - A.length)).map Fld.v := by
        rw [hAB, cutV_drop _ _ (by rw [List.length_map]; have := (List.getElem?_eq_some_iff.mp hf).1; omega), ← List.map_drop, List.drop_append, List.drop_eq_nil_of_le hiA, List.nil_append]
      have hnone : ((B.drop (i - A.length)).filter fun g => (valV kvs (kn g.nm)).isSome) = [] := by
        rw [List.filter_eq_nil_iff]
        intro g hg
        rw [(hM1.fb g (List.mem_of_mem_drop hg)).1]
        decide
      have hBl : B.length ≤ 26 := by
        have := congrArg List.length hM.ab
        rw [List.length_append] at this
        omega
      refine sv_if (b := false) (et_test (ev_opLL (xs := []) (ys := []) (el_is (el_compN (xs := B.drop (i - A.length)) (val := Fld.v) (g := Fld.v) (p := fun g => (valV kvs (kn g.nm)).isSome) (el_is (el_sl (ev_var rfl) (eo_some (ev_var rfl)) eo_none (sq_of upd_same)) hcut) (by rw [List.length_drop]; omega) (fun g hg => et_test (ev_din (k := kn g.nm) (ev_name T (ev_var rfl) ((hL.ob g (by
        have : g ∈ fs.filter fun f => f.k.told := by rw [hM.ab]; exact List.mem_append_right _ (List.mem_of_mem_drop hg)
        exact (List.mem_filter.mp this).1)).mono e1)) (ev_var rfl) (.of hM1.at_))) fun g _ _ => ev_var rfl) (by rw [hnone]; rfl)) (el_lst ea_nil (by decide)) fun p1 p2 H2 h5 h6 _ => rv_val fun H3 e3 Q3 q3 => ⟨p1, p2, [], rfl, rfl, e3 _ _ h5, e3 _ _ h6, q3⟩)) (fun z => nomatch z) fun _ => sv_nx fun H2 e2 => ⟨⟨_, _, rfl⟩, e2⟩
  · rintro σ' ⟨x, y, rfl⟩
    exact sv_ret ev_c fun H1 e2 => q H1 (e1.trans e2)
end
end Fk

set_option Elab.async false
set_option linter.all false
set_option maxRecDepth 100000
set_option maxHeartbeats 4000000
set_option exponentiation.threshold 3000
namespace Fk
open PySem PySem.Spec PyProof.Rows L2 Evl
section
variable {P : Program} {w : World} {K : PySem.W.Frag} {mg : Str → Option Value} {base : Heap} {σ : L2.St} {H H' : Hp} {te ta tb tc tl td ty tx : TE} {tt : TT} {tu tw tz : TS} {D : Ends} {f : Fld} {n : Nat}
abbrev aLM (K : PySem.W.Frag) (n : Nat) : A4 := fun a b c d H Q => ∃ (l : Addr) (fs : List Fld) (r : Str) (gr : Bool) (W : Nat), a = .ref l ∧ c = .str r ∧ d = .bl gr ∧ LAt K H n l fs ∧ WD n fs ∧ r.length + 1000 * n ≤ 79500 ∧ (W ≤ 2040 ∨ gr = false) ∧ (if gr = true then GOk H n fs b W else DOk H n fs b W) ∧ RetV .non H Q
abbrev aFM (K : PySem.W.Frag) (n : Nat) (C : Kd → Prop) : A4 := fun a b c d H Q => ∃ (l : Addr) (fs : List Fld) (f : Fld) (r : Str) (w : Nat), a = .ref l ∧ b = f.v ∧ d = .str r ∧ C f.k ∧ LAt K H (n + 1) l fs ∧ WD (n + 1) fs ∧ f ∈ fs ∧ r.length + 1000 * n ≤ 79000 ∧ FOk H n f c w ∧ RetV .non H Q
theorem ev_LM {l : Addr} {fs : List Fld} {r : Str} {gr : Bool} {u : V} {W : Nat} (ha : Ev ta σ H (.ref l)) (hb : Ev tb σ H u) (hc : Ev tc σ H (.str r)) (hd : Ev td σ H (.bl gr)) (hL : LAt K H n l fs) (hW : WD n fs) (hr : r.length + 1000 * n ≤ 79500) (hz : W ≤ 2040 ∨ gr = false) (hv : if gr = true then GOk H n fs u W else DOk H n fs u W) :
    Ev (tFn (Sp4 (aLM K n)) (tCons ta (tCons tb (tCons tc (tCons td tNil))))) σ H .non :=
  ev_fn (ea_cons ha (ea_cons hb (ea_cons hc (ea_cons hd ea_nil)))) fun H1 e Q q E => ⟨_, _, _, _, rfl, l, fs, r, gr, W, rfl, rfl, rfl, hL.mono e, hW, hr, hz, by
    cases gr with
    | true => exact (DG.mono e).2 _ _ _ hv
    | false => exact (DG.mono e).1 _ _ _ hv, q⟩
theorem ev_FM {C : Kd → Prop} {l : Addr} {fs : List Fld} {r : Str} {u : V} {m : Nat} (ha : Ev ta σ H (.ref l)) (hb : Ev tb σ H f.v) (hc : Ev tc σ H u) (hd : Ev td σ H (.str r)) (hC : C f.k) (hL : LAt K H (n + 1) l fs) (hW : WD (n + 1) fs) (hf : f ∈ fs) (hr : r.length + 1000 * n ≤ 79000) (hv : FOk H n f u m) :
    Ev (tFn (Sp4 (aFM K n C)) (tCons ta (tCons tb (tCons tc (tCons td tNil))))) σ H .non :=
  ev_fn (ea_cons ha (ea_cons hb (ea_cons hc (ea_cons hd ea_nil)))) fun H1 e Q q E => ⟨_, _, _, _, rfl, l, fs, f, r, m, rfl, rfl, rfl, hC, hL.mono e, hW, hf, hr, hv.mono e, q⟩
theorem ev_strI {i : Nat} (h : Ev ta σ H (vN i)) (hi : i ≤ 1000) : Ev (tCB (fun xs H Q => ∃ i, xs = [.int i] ∧ i.natAbs.log2 < 1920 ∧ Q (.str (toString i)) H) (tCons ta tNil)) σ H (.str (toString (i : Int))) :=
  ev_cb (ea_cons h ea_nil) fun H6 _ Q6 q6 => ⟨(i : Int), rfl, by rw [Int.natAbs_natCast]; have : i.log2 ≤ i := Nat.log2_le_self _; omega, q6 H6 (Ex.refl _)⟩
theorem ok_row_misfit (T : Tx K mg) (G_list_misfit : Pr P w K mg base (10 * n + 10) "list_misfit" (Sp4 (aLM K n))) : Pr P w K mg base (10 * n + 12) "row_misfit" (Sp4 (aFM K n fun k => ∃ hw mk, k = .row hw mk)) := by
  have G_fits_count := ok_fits_count (P := P) (w := w) (base := base) (n := n) T
  have G_further := ok_further (P := P) (w := w) (base := base) T
  refine pr4 (k := 10 * n + 11) T.d_row_misfit T.g_row_misfit sc_row_misfit (fun _ _ _ _ _ _ us hl => match us, hl with | [_, _, _, _], _ => rfl) fun a b c d H Q h cdv A outer s E hr hu => ?_
  obtain ⟨l, fs, f, r, m, rfl, rfl, rfl, ⟨hw, mk, hk⟩, hL, hW, hf, hrd, hF, q⟩ := h
  have hA := hL.2 f hf
  have ob := hL.ob f hf
  have hone : f.k.one = true := by rw [hk]; rfl
  have hWW := hW.fw f hf
  unfold FW FWB at hWW
  unfold FOk FOkB at hF
  rw [hk] at hF hWW
  obtain ⟨p, xs, Ws, rfl, hp, hok, hz, hxs, rfl⟩ := hF
  refine ⟨_, (pss_cons (ps_if (pt_not (pt_val (pe_callB (isiK (K := K) rfl) (by rfl) T.b_isinstance (by decide +kernel) (pa_cons (pv 2) (pa_cons (pe_bltn (v := .ty "list") (by rfl) T.b_list (by decide +kernel) rfl) pa_nil))))) (pss_one (ps_ret (pe_tup (pa_cons (pv 3) (pa_cons pe_str pa_nil))))) pss_nil)
      (pss_cons (ps_if (pt_not (pt_val (pe_fn G_fits_count (hr.mono (by omega)) (by rfl) (pa_cons (pv 0) (pa_cons (pv 1) (pa_cons (pe_callB (lenK (K := K) rfl) (by rfl) T.b_len (by decide +kernel) (pa_cons (pv 2) pa_nil)) pa_nil)))))) (pss_one (ps_ret (pe_tup (pa_cons (pv 3) (pa_cons pe_str pa_nil))))) pss_nil)
      (pss_cons (ps_for PassesOwn.never rfl (piEK (K := K) rfl (by rfl) T.b_enumerate (pa_cons (pv 2) pa_nil)) (pgTK (K := K) (n := 2) rfl rfl (pgs_cons (pg_name (i := 4) sc_row_misfit.nd rfl (.inl rfl)) (pgs_cons (pg_name (i := 5) sc_row_misfit.nd rfl (.inl rfl)) pgs_nil))) (pss_cons (ps_set (i := 6) sc_row_misfit.nd rfl (.inl rfl) (pe_fn G_list_misfit (hr.mono (by omega)) (by rfl) (pa_cons (fldK (K := K) rfl (pv 1) rfl) (pa_cons (pv 5) (pa_cons (pe_fn G_further (hr.mono (by omega)) (by rfl) (pa_cons (pv 3) (pa_cons (pe_callTy call_str_int (by rfl) T.b_str (by decide +kernel) (pa_cons (pv 4) pa_nil)) pa_nil))) (pa_cons pe_bl pa_nil))))))
      (pss_one (ps_if (pt_cmpR op_notN (pv 6) pe_non (by rfl)) (pss_one (ps_ret (pv 6))) pss_nil))))
      (pss_one (ps_ret pe_non))))), ?_⟩
  refine (sv_skipT (et_is (et_not (et_test (ev_isi (ev_var rfl) (ty_list hp) (b := true) (by decide +kernel)))) rfl) ?_).here
  refine sv_skipT (et_is (et_not (et_test (ev_fits (hw := hw) (ev_var rfl) (ev_var rfl) (ev_lenV (ev_var rfl) (lenV_lst (sq_of hp))) hL hW.lw hf (.inr ⟨⟨mk, hk⟩, hok⟩)))) rfl) ?_
  refine sv_forE (ea_cons (ev_var rfl) ea_nil) (sq_of hp) (fun i σ' => ∃ x y z, σ' = [some (.ref l), some f.v, some (.ref p), some (.str r), x, y, z]) ⟨none, none, none, rfl⟩ ?_ ?_
  · rintro i x σ' hx ⟨u, v, z, rfl⟩
    obtain ⟨W, hW2, hx2⟩ := hxs.at_ hx
    have hi : i ≤ 40 := by have := (List.getElem?_eq_some_iff.mp hx).1; omega
    have hl := fur_len r (toString (i : Int) : Str)
    have hl2 := str_small hi
    refine sv_asg (ev_LM (gr := false) (W := W) (ev_fields T (ev_var rfl) ob hone) (ev_var rfl) (ev_fur (ev_var rfl) (ev_strI (ev_var rfl) (by omega)) (by omega) (by omega)) ev_c (hA.one hone) hWW.2 (by omega) (.inr rfl) hx2) ?_
    exact sv_if (b := false) (et_test (ev_is (ev_notn (ev_var rfl)) rfl)) (fun z => nomatch z) fun _ => sv_nx fun H2 e2 => ⟨⟨_, _, _, rfl⟩, e2⟩
  · rintro σ' ⟨x, y, z, rfl⟩
    exact sv_ret ev_c q
theorem ok_choice_misfit (T : Tx K mg) (G_list_misfit : Pr P w K mg base (10 * n + 10) "list_misfit" (Sp4 (aLM K n))) : Pr P w K mg base (10 * n + 12) "choice_misfit" (Sp4 (aFM K n fun k => ∃ c lo hi, k = .cho c lo hi)) := by
  have G_is_number := ok_is_number (P := P) (w := w) (base := base) T
  have G_lets_for := ok_lets_for (P := P) (w := w) (base := base) (n := n) T
  have G_case_fields := ok_case_fields (P := P) (w := w) (base := base) T
  refine pr4 (k := 10 * n + 11) T.d_choice_misfit T.g_choice_misfit sc_choice_misfit (fun _ _ _ _ _ _ us hl => match us, hl with | [_, _, _, _], _ => rfl) fun a b c d H Q h cdv A outer s E hr hu => ?_
  obtain ⟨l, fs, f, r, m, rfl, rfl, rfl, ⟨cn, lo, hi, hk⟩, hL, hW, hf, hrd, hF, q⟩ := h
  have hA := hL.2 f hf
  have ob := hL.ob f hf
  have hc := hA.cases hk
  have hFW := hW.fw f hf
  have hWW := hFW
  obtain ⟨x, hx1, hx2⟩ := ctl_ok hF hFW (by rw [hk]; exact fun z => nomatch z)
  unfold FW FWB at hWW
  unfold FOk FOkB at hF
  unfold CtlIs at hx1
  rw [hk] at hF hWW hx1
  obtain ⟨p, dv, t, ht, rfl, hp, h1, h2, hd⟩ := hF
  obtain ⟨p', d', e1, e2⟩ := hx1
  cases e1
  rw [hp] at e2
  cases e2
  obtain ⟨pd, kvd, rfl, hpd⟩ := hd.dict
  have hv0 : ∀ {H1 : Hp}, Ex H H1 → Ev (tOp (rIxT K) (tVar 2) (tC (.int 0))) [some (.ref l), some f.v, some (.ref p), some (.str r)] H1 (.int t.2.1) := fun e => ev_op (ev_var rfl) ev_c (rv_ixT (ex_t e (st_of hp)) (atI_nat (j := 0) rfl))
  have hv1 : ∀ {H1 : Hp}, Ex H H1 → Ev (tOp (rIxT K) (tVar 2) (tC (.int 1))) [some (.ref l), some f.v, some (.ref p), some (.str r)] H1 (.ref pd) := fun e => ev_op (ev_var rfl) ev_c (rv_ixT (ex_t e (st_of hp)) (atI_nat (j := 1) rfl))
  refine ⟨_, (pss_cons (ps_if (PW.pt (pw_or (pt_not (pt_val (pe_callB (isiK (K := K) rfl) (by rfl) T.b_isinstance (by decide +kernel) (pa_cons (pv 2) (pa_cons (pe_bltn (v := .ty "tuple") (by rfl) T.b_tuple (by decide +kernel) rfl) pa_nil))))) (pw_or1 (pt_cmpR op_ne (pe_callB (lenK (K := K) rfl) (by rfl) T.b_len (by decide +kernel) (pa_cons (pv 2) pa_nil)) pe_int (by rfl))))) (pss_one (ps_ret (pe_tup (pa_cons (pv 3) (pa_cons pe_str pa_nil))))) pss_nil)
      (pss_cons (ps_if (PW.pt (pw_or (pt_not (pt_val (pe_fn G_is_number (hr.mono (by omega)) (by rfl) (pa_cons (pe_ix (ixTK (K := K) rfl) (pv 2) pe_int (fun _ _ => rfl)) pa_nil)))) (pw_or1 (pt_not (pt_val (pe_callB (isiK (K := K) rfl) (by rfl) T.b_isinstance (by decide +kernel) (pa_cons (pe_ix (ixTK (K := K) rfl) (pv 2) pe_int (fun _ _ => rfl)) (pa_cons (pe_bltn (v := .ty "dict") (by rfl) T.b_dict (by decide +kernel) rfl) pa_nil)))))))) (pss_one (ps_ret (pe_tup (pa_cons (pv 3) (pa_cons pe_str pa_nil))))) pss_nil)
      (pss_cons (ps_if (pt_cmpR (op_niK (K := K) rfl) (pe_ix (ixTK (K := K) rfl) (pv 2) pe_int (fun _ _ => rfl)) (pe_fn G_lets_for (hr.mono (by omega)) (by rfl) (pa_cons (pv 0) (pa_cons (pv 1) pa_nil))) (by rfl)) (pss_one (ps_ret (pe_tup (pa_cons (pv 3) (pa_cons pe_str pa_nil))))) pss_nil)
      (pss_one (ps_ret (pe_fn G_list_misfit (hr.mono (by omega)) (by rfl) (pa_cons (pe_fn G_case_fields (hr.mono (by omega)) (by rfl) (pa_cons (pv 1) (pa_cons (pe_ix (ixTK (K := K) rfl) (pv 2) pe_int (fun _ _ => rfl)) pa_nil))) (pa_cons (pe_ix (ixTK (K := K) rfl) (pv 2) pe_int (fun _ _ => rfl)) (pa_cons (pv 3) (pa_cons pe_bl pa_nil)))))))))), ?_⟩
  refine (sv_skipT (et_is (et_or (b := false) (et_not (et_test (ev_isi (ev_var rfl) (ty_tup hp) (b := true) (by decide +kernel)))) fun _ => et_test (ev_op (ev_lenV (ev_var rfl) (lenV_tup (st_of hp))) ev_c (rv_ne rfl))) rfl) ?_).here
  refine sv_skipT (et_is (et_or (b := false) (et_not (et_test (ev_isNum (hv0 (Ex.refl _))))) fun _ => et_not (et_test (ev_isi (hv1 (Ex.refl _)) (ty_dict hpd) (b := true) (by decide +kernel)))) rfl) ?_
  refine sv_skipT (et_test (ev_is (ev_opL (hv0 (Ex.refl _)) (el_letsF (ev_var rfl) (ev_var rfl) hL hW.lw hf (by rw [hk]; exact fun z => nomatch z)) fun p8 H8 hp8 _ => rv_niL (sq_of hp8) rfl (flat_int _)) (by rw [inV_int, decide_eq_true hx2]; rfl))) ?_
  exact sv_ret (ev_LM (gr := false) (W := m) (ev_case (ev_var rfl) (hv0 (Ex.refl _)) ob hk hc ht hWW.1) (hv1 (Ex.refl _)) (ev_var rfl) ev_c (hA.sub t ht) (hWW.2.2.2 t ht).2.2 (by omega) (.inr rfl) hd) q
theorem ok_maybe_misfit (T : Tx K mg) (G_list_misfit : Pr P w K mg base (10 * n + 10) "list_misfit" (Sp4 (aLM K n))) : Pr P w K mg base (10 * n + 12) "maybe_misfit" (Sp4 (aFM K n fun k => ∃ c lo hi, k = .may c lo hi)) := by
  have G_lets_for := ok_lets_for (P := P) (w := w) (base := base) (n := n) T
  refine pr4 (k := 10 * n + 11) T.d_maybe_misfit T.g_maybe_misfit sc_maybe_misfit (fun _ _ _ _ _ _ us hl => match us, hl with | [_, _, _, _], _ => rfl) fun a b c d H Q h cdv A outer s E hr hu => ?_
  obtain ⟨l, fs, f, r, m, rfl, rfl, rfl, ⟨cn, lo, hi, hk⟩, hL, hW, hf, hrd, hF, q⟩ := h
  have hA := hL.2 f hf
  have ob := hL.ob f hf
  have hone : f.k.one = true := by rw [hk]; rfl
  have hFW := hW.fw f hf
  have hWW := hFW
  obtain ⟨x, hx1, hx2⟩ := ctl_ok hF hFW (by rw [hk]; exact fun z => nomatch z)
  unfold FW FWB at hWW
  unfold FOk FOkB at hF
  unfold CtlIs at hx1
  rw [hk] at hF hWW hx1
  refine ⟨_, (pss_cons (ps_if (PW.pt (pw_and (pt_cmpR op_notN (pv 2) pe_non (by rfl)) (pw_and1 (pt_not (pt_val (pe_callB (isiK (K := K) rfl) (by rfl) T.b_isinstance (by decide +kernel) (pa_cons (pv 2) (pa_cons (pe_bltn (v := .ty "dict") (by rfl) T.b_dict (by decide +kernel) rfl) pa_nil)))))))) (pss_one (ps_ret (pe_tup (pa_cons (pv 3) (pa_cons pe_str pa_nil))))) pss_nil)
      (pss_cons (ps_set (i := 4) sc_maybe_misfit.nd rfl (.inl rfl) (pe_fn G_lets_for (hr.mono (by omega)) (by rfl) (pa_cons (pv 0) (pa_cons (pv 1) pa_nil))))
      (pss_cons (ps_if (pt_cmpR op_isN (pv 2) pe_non (by rfl)) (pss_cons (ps_if (pt_cmpR (op_niK (K := K) rfl) pe_int (pv 4) (by rfl)) (pss_one (ps_ret (pe_tup (pa_cons (pv 3) (pa_cons pe_str pa_nil))))) pss_nil)
      (pss_one (ps_ret pe_non))) pss_nil)
      (pss_cons (ps_if (pt_cmpR (op_niK (K := K) rfl) pe_int (pv 4) (by rfl)) (pss_one (ps_ret (pe_tup (pa_cons (pv 3) (pa_cons pe_str pa_nil))))) pss_nil)
      (pss_one (ps_ret (pe_fn G_list_misfit (hr.mono (by omega)) (by rfl) (pa_cons (fldK (K := K) rfl (pv 1) rfl) (pa_cons (pv 2) (pa_cons (pv 3) (pa_cons pe_bl pa_nil))))))))))), ?_⟩
  rcases hF with ⟨rfl, _, _, rfl⟩ | ⟨_, _, hd⟩
  · have hx1 : x = 0 := hx1
    subst hx1
    refine (sv_skipT (et_is (et_and (a := false) (b := false) (et_test (ev_is (ev_notn (ev_var rfl)) rfl)) fun z => nomatch z) rfl) ?_).here
    refine sv_asgL (el_letsF (ev_var rfl) (ev_var rfl) hL hW.lw hf (by rw [hk]; exact fun z => nomatch z)) fun p hp => ?_
    refine sv_takeT (et_test (ev_is (ev_isn (ev_var rfl)) rfl)) ?_
    refine sv_skipT (et_test (ev_is (ev_op ev_c (ev_var rfl) (rv_niL (sq_of upd_same) rfl (flat_int _))) (by rw [inV_int, decide_eq_true hx2]; rfl))) ?_
    exact sv_ret ev_c fun H2 e2 => q H2 ((Ex.new hp).trans e2)
  · have hne := hd.ne_non
    rw [if_neg hne] at hx1
    subst hx1
    obtain ⟨pd, kvd, rfl, hpd⟩ := hd.dict
    refine (sv_skipT (et_is (et_and (a := true) (et_test (ev_is (ev_notn (ev_var rfl)) rfl)) fun _ => et_not (et_test (ev_isi (ev_var rfl) (ty_dict hpd) (b := true) (by decide +kernel)))) rfl) ?_).here
    refine sv_asgL (el_letsF (ev_var rfl) (ev_var rfl) hL hW.lw hf (by rw [hk]; exact fun z => nomatch z)) fun p hp => ?_
    have e1 := Ex.new hp (o := .lst ((letM n f).map V.int))
    refine sv_skipT (et_test (ev_is (ev_isn (ev_var rfl)) rfl)) ?_
    refine sv_skipT (et_test (ev_is (ev_op ev_c (ev_var rfl) (rv_niL (sq_of upd_same) rfl (flat_int _))) (by rw [inV_int, decide_eq_true hx2]; rfl))) ?_
    exact sv_ret (ev_LM (gr := false) (W := m) (ev_fields T (ev_var rfl) (Ob.mono e1 ob) hone) (ev_var rfl) (ev_var rfl) ev_c ((hA.one hone).mono e1) hWW.2.2.2 (by omega) (.inr rfl) ((DG.mono e1).1 _ _ _ hd)) fun H2 e2 => q H2 (e1.trans e2)
theorem ok_sized_misfit (T : Tx K mg) (G_list_misfit : Pr P w K mg base (10 * n + 10) "list_misfit" (Sp4 (aLM K n))) : Pr P w K mg base (10 * n + 12) "sized_misfit" (Sp4 (aFM K n fun k => ∃ c lo hi gr, k = .siz c lo hi gr)) := by
  have G_lets_for := ok_lets_for (P := P) (w := w) (base := base) (n := n) T
  have G_width_for := widths (P := P) (w := w) (base := base) T n
  refine pr4 (k := 10 * n + 11) T.d_sized_misfit T.g_sized_misfit sc_sized_misfit (fun _ _ _ _ _ _ us hl => match us, hl with | [_, _, _, _], _ => rfl) fun a b c d H Q h cdv A outer s E hr hu => ?_
  obtain ⟨l, fs, f, r, m, rfl, rfl, rfl, ⟨cn, lo, hi, gr, hk⟩, hL, hW, hf, hrd, hF, q⟩ := h
  have hA := hL.2 f hf
  have ob := hL.ob f hf
  have hone : f.k.one = true := by rw [hk]; rfl
  have hFW := hW.fw f hf
  have hWW := hFW
  obtain ⟨x, hx1, hx2⟩ := ctl_ok hF hFW (by rw [hk]; exact fun z => nomatch z)
  unfold FW FWB at hWW
  unfold FOk FOkB at hF
  unfold CtlIs at hx1
  rw [hk] at hF hWW hx1
  obtain ⟨h1, h2, h3, h4, hd⟩ := hF
  have hx1 : x = ((m / 8 : Nat) : Int) := hx1
  subst hx1
  have hd2 : DOk H n f.fs c m ∨ GOk H n f.fs c m := by
    cases gr with
    | true => exact .inr hd
    | false => exact .inl hd
  have hd3 : if gr = true then GOk H n f.fs c m else DOk H n f.fs c m := hd
  refine ⟨_, (pss_cons (ps_set (i := 4) sc_sized_misfit.nd rfl (.inl rfl) (pe_fn G_list_misfit (hr.mono (by omega)) (by rfl) (pa_cons (fldK (K := K) rfl (pv 1) rfl) (pa_cons (pv 2) (pa_cons (pv 3) (pa_cons (fldK (K := K) rfl (pv 1) rfl) pa_nil))))))
      (pss_cons (ps_if (PW.pt (pw_and (pt_cmpR op_isN (pv 4) pe_non (by rfl)) (pw_and1 (pt_cmpR (op_niK (K := K) rfl) (pe_op op_fdiv (pe_fn G_width_for (hr.mono (by omega)) (by rfl) (pa_cons (fldK (K := K) rfl (pv 1) rfl) (pa_cons (pv 2) pa_nil))) pe_int) (pe_fn G_lets_for (hr.mono (by omega)) (by rfl) (pa_cons (pv 0) (pa_cons (pv 1) pa_nil))) (by rfl))))) (pss_one (ps_ret (pe_tup (pa_cons (pv 3) (pa_cons pe_str pa_nil))))) pss_nil)
      (pss_one (ps_ret (pv 4))))), ?_⟩
  refine (sv_asg (ev_LM (gr := gr) (W := m) (ev_fields T (ev_var rfl) ob hone) (ev_var rfl) (ev_var rfl) (ev_grows T (ev_var rfl) ob hk) (hA.one hone) hWW.2.1 (by omega) (.inl h2) hd3) ?_).here
  refine sv_skipT (et_is (et_and (a := true) (et_test (ev_is (ev_isn (ev_var rfl)) rfl)) fun _ => et_test (ev_is (ev_opL (x := .int ((m / 8 : Nat) : Int)) (ev_is (ev_op (ev_wfor (ev_fields T (ev_var rfl) ob hone) (ev_var rfl) (hA.one hone) hWW.2.1 hd2) ev_c (rv_I (show CDiv _ _ from ⟨by decide, by decide⟩))) (congrArg V.int (by omega))) (el_letsF (ev_var rfl) (ev_var rfl) hL hW.lw hf (by rw [hk]; exact fun z => nomatch z)) fun p8 H8 hp8 _ => rv_niL (sq_of hp8) rfl (flat_int _)) (show V.bl _ = V.bl false by rw [inV_int, decide_eq_true hx2]; rfl))) rfl) ?_
  exact sv_ret (ev_var rfl) q
theorem ok_field_misfit (T : Tx K mg) (G_list_misfit : Pr P w K mg base (10 * n + 10) "list_misfit" (Sp4 (aLM K n))) : Pr P w K mg base (10 * n + 14) "field_misfit" (Sp4 (aFM K n fun _ => True)) := by
  have G_kind := pr_kind (P := P) (w := w) (base := base) T
  have G_least := pr_least (P := P) (w := w) (base := base) T
  have G_greatest := pr_greatest (P := P) (w := w) (base := base) T
  have G_number_misfit := ok_number_misfit (P := P) (w := w) (base := base) T
  have G_text_misfit := ok_text_misfit (P := P) (w := w) (base := base) (n := n) T
  have G_row_misfit := ok_row_misfit T G_list_misfit
  have G_choice_misfit := ok_choice_misfit T G_list_misfit
  have G_maybe_misfit := ok_maybe_misfit T G_list_misfit
  have G_sized_misfit := ok_sized_misfit T G_list_misfit
  refine pr4 (k := 10 * n + 13) T.d_field_misfit T.g_field_misfit sc_field_misfit (fun _ _ _ _ _ _ us hl => match us, hl with | [_, _, _, _], _ => rfl) fun a b c d H Q h cdv A outer s E hr hu => ?_
  obtain ⟨l, fs, f, r, m, rfl, rfl, rfl, _, hL, hW, hf, hrd, hF, q⟩ := h
  have hA := hL.2 f hf
  have ob := hL.ob f hf
  have hF0 := hF
  have hWW := hW.fw f hf
  unfold FW FWB at hWW
  unfold FOk FOkB at hF
  refine ⟨_, (pss_cons (ps_set (i := 4) sc_field_misfit.nd rfl (.inl rfl) (pe_mU G_kind (hr.mono (by omega)) (pv 1)))
      (pss_cons (ps_if (pt_cmpR op_eq (pv 4) pe_str (by rfl)) (pss_one (ps_ret (pe_fn G_number_misfit (hr.mono (by omega)) (by rfl) (pa_cons (pv 2) (pa_cons (pe_mU G_least (hr.mono (by omega)) (pv 1)) (pa_cons (pe_mU G_greatest (hr.mono (by omega)) (pv 1)) (pa_cons (pv 3) pa_nil))))))) pss_nil)
      (pss_cons (ps_if (pt_cmpR op_eq (pv 4) pe_str (by rfl)) (pss_one (ps_ret (pe_fn G_number_misfit (hr.mono (by omega)) (by rfl) (pa_cons (pv 2) (pa_cons pe_int (pa_cons (fldK (K := K) rfl (pv 1) rfl) (pa_cons (pv 3) pa_nil))))))) pss_nil)
      (pss_cons (ps_if (pt_cmpR op_eq (pv 4) pe_str (by rfl)) (pss_one (ps_ret (pe_fn G_text_misfit (hr.mono (by omega)) (by rfl) (pa_cons (pv 0) (pa_cons (pv 1) (pa_cons (pv 2) (pa_cons (pv 3) pa_nil))))))) pss_nil)
      (pss_cons (ps_if (pt_cmpR op_eq (pv 4) pe_str (by rfl)) (pss_one (ps_ret (pe_fn G_row_misfit (hr.mono (by omega)) (by rfl) (pa_cons (pv 0) (pa_cons (pv 1) (pa_cons (pv 2) (pa_cons (pv 3) pa_nil))))))) pss_nil)
      (pss_cons (ps_if (pt_cmpR op_eq (pv 4) pe_str (by rfl)) (pss_one (ps_ret (pe_fn G_choice_misfit (hr.mono (by omega)) (by rfl) (pa_cons (pv 0) (pa_cons (pv 1) (pa_cons (pv 2) (pa_cons (pv 3) pa_nil))))))) pss_nil)
      (pss_cons (ps_if (pt_cmpR op_eq (pv 4) pe_str (by rfl)) (pss_one (ps_ret (pe_fn G_maybe_misfit (hr.mono (by omega)) (by rfl) (pa_cons (pv 0) (pa_cons (pv 1) (pa_cons (pv 2) (pa_cons (pv 3) pa_nil))))))) pss_nil)
      (pss_cons (ps_if (pt_cmpR op_eq (pv 4) pe_str (by rfl)) (pss_one (ps_ret (pe_fn G_sized_misfit (hr.mono (by omega)) (by rfl) (pa_cons (pv 0) (pa_cons (pv 1) (pa_cons (pv 2) (pa_cons (pv 3) pa_nil))))))) pss_nil)
      (pss_one (ps_ret (pe_fn G_list_misfit (hr.mono (by omega)) (by rfl) (pa_cons (fldK (K := K) rfl (pv 1) rfl) (pa_cons (pv 2) (pa_cons (pv 3) (pa_cons pe_bl pa_nil))))))))))))))), ?_⟩
  obtain ⟨wd, hwd0⟩ : ∃ wd, wd = f.k.word := ⟨_, rfl⟩
  refine (sv_asg (v := .str wd) (ev_is (ev_kind (ev_var rfl) ob) (by rw [hwd0])) ?_).here
  have kw : ∀ s : Str, f.k.word = s → Ev (tVar 4) [some (.ref l), some f.v, some c, some (.str r), some (.str wd)] H (.str s) := fun s hs => ev_var (by rw [hwd0, hs]; rfl)
  cases hk : f.k with
  | num w0 sg lt lo hi df ct =>
    rw [hk] at hF hWW
    obtain ⟨i, rfl, h1, h2, rfl⟩ := hF
    have hn : IsNum f := ⟨m, sg, lt, lo, hi, df, ct, hk, hWW.1, hWW.2.1⟩
    refine sv_take (kw "number" (by rw [hk]; rfl)) rfl ?_
    exact sv_ret (ev_numMis (ev_var rfl) (ev_least (ev_var rfl) ob hn) (ev_greatest (ev_var rfl) ob hn) (ev_var rfl) (by rw [hk]; exact h1) (by rw [hk]; exact h2)) q
  | chk => rw [hk] at hF; exact hF.elim
  | spt => rw [hk] at hF; exact hF.elim
  | sev hi loose df =>
    rw [hk] at hF
    obtain ⟨i, rfl, h1, rfl⟩ := hF
    refine sv_skip (kw "seven" (by rw [hk]; rfl)) (by decide +kernel) (sv_take (kw "seven" (by rw [hk]; rfl)) rfl ?_)
    refine sv_ret (ev_numMis (hi := hi) (ev_var rfl) ev_c ?_ (ev_var rfl) (by omega) h1) q
    refine ev_at T (ev_var rfl) ob ?_
    obtain ⟨p, nm, k, ll, ss⟩ := f
    subst hk
    exact ⟨rfl, T.na_Seven_high⟩
  | txt hw df =>
    rw [hk] at hF
    obtain ⟨z, rfl, h1, h2, h3, rfl⟩ := hF
    refine sv_skip (kw "text" (by rw [hk]; rfl)) (by decide +kernel) (sv_skip (kw "text" (by rw [hk]; rfl)) (by decide +kernel) (sv_take (kw "text" (by rw [hk]; rfl)) rfl ?_))
    exact sv_ret (ev_textMis (ev_var rfl) (ev_var rfl) (ev_var rfl) (ev_var rfl) hL hW.lw hf hk h2 h1 h3) q
  | row hw mk =>
    refine sv_skip (kw "row" (by rw [hk]; rfl)) (by decide +kernel) (sv_skip (kw "row" (by rw [hk]; rfl)) (by decide +kernel) (sv_skip (kw "row" (by rw [hk]; rfl)) (by decide +kernel) (sv_take (kw "row" (by rw [hk]; rfl)) rfl ?_)))
    exact sv_ret (ev_FM (ev_var rfl) (ev_var rfl) (ev_var rfl) (ev_var rfl) ⟨hw, mk, hk⟩ hL hW hf hrd hF0) q
  | cho cn lo hi =>
    refine sv_skip (kw "choice" (by rw [hk]; rfl)) (by decide +kernel) (sv_skip (kw "choice" (by rw [hk]; rfl)) (by decide +kernel) (sv_skip (kw "choice" (by rw [hk]; rfl)) (by decide +kernel) (sv_skip (kw "choice" (by rw [hk]; rfl)) (by decide +kernel) (sv_take (kw "choice" (by rw [hk]; rfl)) rfl ?_))))
    exact sv_ret (ev_FM (ev_var rfl) (ev_var rfl) (ev_var rfl) (ev_var rfl) ⟨cn, lo, hi, hk⟩ hL hW hf hrd hF0) q
  | may cn lo hi =>
    refine sv_skip (kw "maybe" (by rw [hk]; rfl)) (by decide +kernel) (sv_skip (kw "maybe" (by rw [hk]; rfl)) (by decide +kernel) (sv_skip (kw "maybe" (by rw [hk]; rfl)) (by decide +kernel) (sv_skip (kw "maybe" (by rw [hk]; rfl)) (by decide +kernel) (sv_skip (kw "maybe" (by rw [hk]; rfl)) (by decide +kernel) (sv_take (kw "maybe" (by rw [hk]; rfl)) rfl ?_)))))
    exact sv_ret (ev_FM (ev_var rfl) (ev_var rfl) (ev_var rfl) (ev_var rfl) ⟨cn, lo, hi, hk⟩ hL hW hf hrd hF0) q
  | siz cn lo hi gr =>
    refine sv_skip (kw "sized" (by rw [hk]; rfl)) (by decide +kernel) (sv_skip (kw "sized" (by rw [hk]; rfl)) (by decide +kernel) (sv_skip (kw "sized" (by rw [hk]; rfl)) (by decide +kernel) (sv_skip (kw "sized" (by rw [hk]; rfl)) (by decide +kernel) (sv_skip (kw "sized" (by rw [hk]; rfl)) (by decide +kernel) (sv_skip (kw "sized" (by rw [hk]; rfl)) (by decide +kernel) (sv_take (kw "sized" (by rw [hk]; rfl)) rfl ?_))))))
    exact sv_ret (ev_FM (ev_var rfl) (ev_var rfl) (ev_var rfl) (ev_var rfl) ⟨cn, lo, hi, gr, hk⟩ hL hW hf hrd hF0) q
  | grp =>
    have hone : f.k.one = true := by rw [hk]; rfl
    rw [hk] at hF hWW
    refine sv_skip (kw "group" (by rw [hk]; rfl)) (by decide +kernel) (sv_skip (kw "group" (by rw [hk]; rfl)) (by decide +kernel) (sv_skip (kw "group" (by rw [hk]; rfl)) (by decide +kernel) (sv_skip (kw "group" (by rw [hk]; rfl)) (by decide +kernel) (sv_skip (kw "group" (by rw [hk]; rfl)) (by decide +kernel) (sv_skip (kw "group" (by rw [hk]; rfl)) (by decide +kernel) (sv_skip (kw "group" (by rw [hk]; rfl)) (by decide +kernel) ?_))))))
    exact sv_ret (ev_LM (gr := false) (W := m) (ev_fields T (ev_var rfl) ob hone) (ev_var rfl) (ev_var rfl) ev_c (hA.one hone) hWW (by omega) (.inr rfl) hF) q
theorem ok_list_misfit (T : Tx K mg) (G_field_misfit : Pr P w K mg base (10 * n + 14) "field_misfit" (Sp4 (aFM K n fun _ => True))) : Pr P w K mg base (10 * (n + 1) + 10) "list_misfit" (Sp4 (aLM K (n + 1))) := by
  have G_told_fields := ok_told_fields (P := P) (w := w) (base := base) T
  have G_keys_fit := ok_keys_fit (P := P) (w := w) (base := base) (n := n) T
  have G_lacking := ok_lacking (P := P) (w := w) (base := base) (n := n) T
  have G_further := ok_further (P := P) (w := w) (base := base) T
  have G_is_rest := ok_is_rest (P := P) (w := w) (base := base) T
  refine pr4 (k := 10 * n + 19) T.d_list_misfit T.g_list_misfit sc_list_misfit (fun _ _ _ _ _ _ us hl => match us, hl with | [_, _, _, _], _ => rfl) fun a b c d H Q h cdv A outer s E hr hu => ?_
  obtain ⟨l, fs, r, gr, W, rfl, rfl, rfl, hL, hW, hrd, hz, hv, q⟩ := h
  obtain ⟨p, kvs, FA, FB, rfl, hM⟩ := mok_of hW hz hv
  refine ⟨_, (pss_cons (ps_if (pt_not (pt_val (pe_fn G_keys_fit (hr.mono (by omega)) (by rfl) (pa_cons (pv 0) (pa_cons (pv 1) (pa_cons (pv 3) pa_nil)))))) (pss_one (ps_ret (pe_tup (pa_cons (pv 2) (pa_cons pe_str pa_nil))))) pss_nil)
      (pss_cons (ps_set (i := 4) sc_list_misfit.nd rfl (.inl rfl) (pe_fn G_lacking (hr.mono (by omega)) (by rfl) (pa_cons (pv 0) (pa_cons (pv 1) (pa_cons (pv 3) pa_nil)))))
      (pss_cons (ps_if (pt_cmpR op_notN (pv 4) pe_non (by rfl)) (pss_one (ps_ret (pe_tup (pa_cons (pe_fn G_further (hr.mono (by omega)) (by rfl) (pa_cons (pv 2) (pa_cons (fldK (K := K) rfl (pv 4) rfl) pa_nil))) (pa_cons pe_str pa_nil))))) pss_nil)
      (pss_cons (ps_for PassesOwn.never rfl (piLK (K := K) rfl (pe_fn G_told_fields (hr.mono (by omega)) (by rfl) (pa_cons (pv 0) pa_nil))) (pg_name (i := 5) sc_list_misfit.nd rfl (.inl rfl)) (pss_one (ps_if (pt_cmp (pc_din hu (fldK (K := K) rfl (pv 5) rfl) (pv 1))) (pss_cons (ps_set (i := 6) sc_list_misfit.nd rfl (.inl rfl) (pe_fn G_field_misfit (hr.mono (by omega)) (by rfl) (pa_cons (pv 0) (pa_cons (pv 5) (pa_cons (pe_dget hu (pv 1) (fldK (K := K) rfl (pv 5) rfl) (fun _ _ => rfl)) (pa_cons (pe_fn G_further (hr.mono (by omega)) (by rfl) (pa_cons (pv 2) (pa_cons (fldK (K := K) rfl (pv 5) rfl) pa_nil))) pa_nil))))))
      (pss_one (ps_if (pt_cmpR op_notN (pv 6) pe_non (by rfl)) (pss_one (ps_ret (pv 6))) pss_nil))) pss_nil)))
      (pss_cons (ps_if (pt_cmp (pc_din hu pe_str (pv 1))) (pss_one (ps_if (PW.pt (pw_or (pt_not (pt_val (pe_fn G_is_rest (hr.mono (by omega)) (by rfl) (pa_cons (pe_dget hu (pv 1) pe_str (fun _ _ => rfl)) pa_nil)))) (pw_or1 (pt_cmpR op_le (pe_callB call_lenD (by rfl) T.b_len (by decide +kernel) (pa_cons (pv 1) pa_nil)) (pe_callB (lenK (K := K) rfl) (by rfl) T.b_len (by decide +kernel) (pa_cons (pe_fn G_told_fields (hr.mono (by omega)) (by rfl) (pa_cons (pv 0) pa_nil)) pa_nil)) (by rfl))))) (pss_one (ps_ret (pe_tup (pa_cons (pe_fn G_further (hr.mono (by omega)) (by rfl) (pa_cons (pv 2) (pa_cons pe_str pa_nil))) (pa_cons pe_str pa_nil))))) pss_nil)) pss_nil)
      (pss_one (ps_ret pe_non))))))), ?_⟩
  refine (sv_skipT (et_is (et_not (et_test (ev_keys (ev_var rfl) (ev_var rfl) (ev_var rfl) hL hW hM))) rfl) ?_).here
  refine sv_asg (v := .non) (ev_fn (ea_cons (ev_var rfl) (ea_cons (ev_var rfl) (ea_cons (ev_var rfl) ea_nil))) fun H1 e Q q E => ⟨_, _, _, rfl, l, fs, gr, p, kvs, FA, FB, rfl, rfl, rfl, hL.mono e, hW, hM.mono e, q⟩) ?_
  refine sv_skipT (et_test (ev_is (ev_notn (ev_var rfl)) rfl)) ?_
  have htl := told_len hW.sz
  refine sv_forNLn (el_told (ev_var rfl) hL.seq hL.ob hW.tc (by have := hW.sz; omega)) (fun i σ' => ∃ x y, σ' = [some (.ref l), some (.ref p), some (.str r), some (.bl gr), some .non, x, y]) ⟨none, none, rfl⟩ ?_ ?_
  · rintro pt hpt i x σ' hx ⟨u, v, rfl⟩
    have e1 := Ex.new hpt (o := .lst (toldV fs))
    have hM1 := hM.mono e1
    obtain ⟨f, hf, hm, rfl⟩ := map_get hx
    have hfs : f ∈ fs := (List.mem_filter.mp hm).1
    have hob := (hL.ob f hfs).mono e1
    have hin : Ev (tDIn (tFld K (tVar 5) "name") (tVar 1)) [some (.ref l), some (.ref p), some (.str r), some (.bl gr), some .non, some f.v, v] (upd H pt (.lst (toldV fs))) (.bl (valV kvs (kn f.nm)).isSome) := ev_din (k := kn f.nm) (ev_name T (ev_var rfl) hob) (ev_var rfl) (.of hM1.at_)
    rw [hM.ab] at hm
    rcases List.mem_append.mp hm with hA | hB
    · obtain ⟨y, m, h1, h2⟩ := hM1.fa f hA
      have hl := fur_len r f.nm
      have hnl := hW.nl f hfs
      refine sv_if (b := true) (et_test (ev_is hin (by rw [h1]; rfl))) (fun _ => ?_) fun z => nomatch z
      refine sv_asg (ev_FM (m := m) (ev_var rfl) (ev_var rfl) (ev_dget (k := kn f.nm) (ev_var rfl) (ev_name T (ev_var rfl) hob) (.of hM1.at_) h1) (ev_fur (ev_var rfl) (ev_name T (ev_var rfl) hob) (by omega) (by omega)) True.intro (hL.mono e1) hW hfs (by omega) h2) ?_
      exact sv_if (b := false) (et_test (ev_is (ev_notn (ev_var rfl)) rfl)) (fun z => nomatch z) fun _ => sv_nx fun H2 e2 => ⟨⟨_, _, rfl⟩, e2⟩
    · obtain ⟨h1, _⟩ := hM1.fb f hB
      exact sv_if (b := false) (et_test (ev_is hin (by rw [h1]; rfl))) (fun z => nomatch z) fun _ => sv_nx fun H2 e2 => ⟨⟨_, _, rfl⟩, e2⟩
  · rintro pt hpt σ' ⟨u, v, rfl⟩
    have e1 := Ex.new hpt (o := .lst (toldV fs))
    have hM1 := hM.mono e1
    have q1 : RetV .non (upd H pt (.lst (toldV fs))) Q := fun H2 e2 => q H2 (e1.trans e2)
    have hin : Ev (tDIn (tC (.str "rest")) (tVar 1)) [some (.ref l), some (.ref p), some (.str r), some (.bl gr), some .non, u, v] (upd H pt (.lst (toldV fs))) (.bl (valV kvs (kn "rest")).isSome) := ev_din (k := kn "rest") ev_c (ev_var rfl) (.of hM1.at_)
    rcases hM1.rs with h1 | ⟨hB, qa, bs, h1, h2, h3, h4, h5⟩
    · exact sv_skipT (et_test (ev_is hin (by rw [h1]; rfl))) (sv_ret ev_c q1)
    · refine sv_takeT (et_test (ev_is hin (by rw [h1]; rfl))) ?_
      have hcnt : (fs.filter fun f => f.k.told).length < kvs.length := by
        have hnd : (kn "rest" :: (fs.filter fun f => f.k.told).map fun f => kn f.nm).Nodup := by
          rw [List.nodup_cons]
          refine ⟨fun h => ?_, ?_⟩
          · obtain ⟨f, hf, e⟩ := List.mem_map.mp h
            exact hW.nr f (List.mem_filter.mp hf).1 (kn_inj e)
          · have h := (List.filter_sublist (p := fun f : Fld => f.k.told) (l := fs)).map Fld.nm
            have := h.nodup hW.nd
            have e : ((fs.filter fun f => f.k.told).map fun f => kn f.nm) = ((fs.filter fun f => f.k.told).map Fld.nm).map Sum.inr := by rw [List.map_map]; rfl
            rw [e]
            exact List.Pairwise.map _ (fun a b hab z => hab (Sum.inr.inj z)) this
        have := nd_sub hnd (ys := kvs.map (·.1)) fun k hk => by
          rcases List.mem_cons.mp hk with rfl | hk
          · exact valV_in h1
          · obtain ⟨f, hf, rfl⟩ := List.mem_map.mp hk
            rw [hM.ab, hB, List.append_nil] at hf
            obtain ⟨y, m, h6, _⟩ := hM1.fa f hf
            exact valV_in h6
        rw [List.length_cons, List.length_map, List.length_map] at this
        omega
      refine (sv_if (D := { nx := tRet (tC .non) { nx := fun _ H' => Q .non H', rt := Q }, rt := Q }) (b := false) (et_is (et_or (b := false) (et_not (et_test (ev_rest (ev_dget (k := kn "rest") (ev_var rfl) ev_c (.of hM1.at_) h1) h2 h3 h4 h5))) fun _ => et_test (ev_is (ev_op (x := .int (kvs.length : Nat)) (y := .int ((fs.filter fun f => f.k.told).length : Nat)) ?_ ?_ rv_I0) (congrArg V.bl (decide_eq_false (by omega))))) rfl) (fun z => nomatch z) fun _ => sv_nx fun H2 e2 => (sv_ret (σ := [some (.ref l), some (.ref p), some (.str r), some (.bl gr), some .non, u, v]) (D := { nx := fun _ H' => Q .non H', rt := Q }) ev_c fun H3 e3 => q1 H3 (e2.trans e3)).here)
      · exact ev_cb (ea_cons (ev_var rfl) ea_nil) fun H6 e6 Q6 q6 => ⟨p, kvs, rfl, e6 _ _ hM1.at_, q6 H6 (Ex.refl _)⟩
      · exact ev_is (ev_lenL (el_told (ev_var rfl) (hL.mono e1).seq (hL.mono e1).ob hW.tc (by have := hW.sz; omega))) (by unfold toldV; rw [List.length_map])
theorem misfits (T : Tx K mg) : ∀ n, Pr P w K mg base (10 * n + 10) "list_misfit" (Sp4 (aLM K n))
  | 0 => pr4 (k := 9) T.d_list_misfit T.g_list_misfit sc_list_misfit (fun _ _ _ _ _ _ us hl => match us, hl with | [_, _, _, _], _ => rfl) fun a b c d H Q h => by
      obtain ⟨l, fs, r, gr, W, rfl, rfl, rfl, hL, _⟩ := h
      exact hL.elim
  | n + 1 => ok_list_misfit T (ok_field_misfit T (misfits T n))
end
end Fk

set_option Elab.async false
set_option linter.all false
set_option maxRecDepth 100000
set_option maxHeartbeats 4000000
set_option exponentiation.threshold 3000
namespace Fk
open PySem PySem.Spec PyProof.Rows L2 Evl
/-! ### what is built: a part of the heap that grows -/
structure Up (G H G' H' : Hp) : Prop where
  ex : Ex G G'
  eh : Ex H H'
  sub : Ex G' H'
  fr : ∀ a, G' a ≠ none → G a ≠ none ∨ H a = none
theorem Up.refl {G H : Hp} (e : Ex G H) : Up G H G H := ⟨Ex.refl _, Ex.refl _, e, fun _ h => .inl h⟩
theorem Up.trans {G H G1 H1 G2 H2 : Hp} (a : Up G H G1 H1) (b : Up G1 H1 G2 H2) : Up G H G2 H2 :=
  ⟨a.ex.trans b.ex, a.eh.trans b.eh, b.sub, fun x h => (b.fr x h).elim (a.fr x) fun q => .inr (fresh_back a.eh q)⟩
theorem Up.pre {G H H1 G2 H2 : Hp} (e : Ex H H1) (b : Up G H1 G2 H2) : Up G H G2 H2 := ⟨b.ex, e.trans b.eh, b.sub, fun x h => (b.fr x h).imp id fun q => fresh_back e q⟩
theorem Up.ext {G H G' H' H2 : Hp} (a : Up G H G' H') (e : Ex H' H2) : Up G H G' H2 := ⟨a.ex, a.eh.trans e, a.sub.trans e, a.fr⟩
/-- what H knows and G does not is not built -/
theorem Up.no {G H G' H' : Hp} (a : Up G H G' H') {p : Addr} {o : HO} (h : H p = some o) (hg : G p = none) : G' p = none := by
  cases e : G' p with
  | none => rfl
  | some x =>
    rcases a.fr p (by rw [e]; exact fun z => nomatch z) with q | q
    · exact absurd hg q
    · rw [h] at q
      cases q
/-- an object at a fresh address joins -/
theorem Up.add {G H G' H' : Hp} (a : Up G H G' H') {p : Addr} {o : HO} (hp : H p = none) (h : H' p = some o) (hg : G' p = none) : Up G H (upd G' p o) H' :=
  ⟨a.ex.trans (Ex.new hg), a.eh, fun x u hx => by
      by_cases q : x = p
      · subst q
        rw [upd_same] at hx
        rw [h, ← hx]
      · rw [upd_ne q] at hx
        exact a.sub x u hx, fun x h => by
      by_cases q : x = p
      · subst q
        exact .inr hp
      · rw [upd_ne q] at h
        exact a.fr x h⟩
/-- the heap may change at an address that H does not know -/
theorem Up.mut {G H G' H' : Hp} (a : Up G H G' H') {p : Addr} {o : HO} (hp : H p = none) (hg : G' p = none) : Up G H G' (upd H' p o) :=
  ⟨a.ex, Ex.mut a.eh hp, Ex.mut a.sub hg, a.fr⟩
theorem PVB_of {H : Hp} {n : Nat} {kvs : Kvs} : ∀ {fs : List Fld}, (∀ f ∈ fs, f.k.told = true → ∃ u w, valV kvs (kn f.nm) = some u ∧ FOk H n f u w) → ∃ W, PVB H (DOk H n) (GOk H n) kvs fs W
  | [], _ => ⟨0, rfl⟩
  | f :: r, h => by
    obtain ⟨W, hW⟩ := PVB_of (fs := r) fun g hg => h g (List.mem_cons_of_mem _ hg)
    cases ht : f.k.told with
    | true =>
      obtain ⟨u, w, h1, h2⟩ := h f (List.mem_cons_self ..) ht
      exact ⟨w + W, w, W, (by show if f.k.told = true then _ else _; rw [if_pos ht]; exact ⟨u, h1, h2⟩), hW, rfl⟩
    | false => exact ⟨f.k.width + W, f.k.width, W, (by show if f.k.told = true then _ else _; rw [if_neg (by rw [ht]; decide)]), hW, rfl⟩
theorem GOk.of {H : Hp} {n : Nat} {fs : List Fld} {u : V} {W : Nat} (hW : WD n fs) (h : DOk H n fs u W) : GOk H n fs u W := by
  cases n with
  | zero => exact h.elim
  | succ n =>
    obtain ⟨p, kvs, h1, h2, h3, h4, h5⟩ := h
    refine ⟨p, kvs, fs.length, W, h1, h2, h3, fun q hq => .inl (h4 q hq), by rw [List.take_length]; exact h5, fun f hf => (by rw [List.drop_length] at hf; cases hf), .inl ⟨val_none fun q hq e => ?_, rfl⟩⟩
    obtain ⟨f, hf, _, h⟩ := h4 q hq
    exact hW.nr f hf (kn_inj (h.symm.trans e))
theorem dfl_fits {H : Hp} {n : Nat} {f : Fld} (hW : FW n f) (hd : f.k.dfl ≠ .non) : ∃ w, FOk H n f f.k.dfl w := by
  unfold FW FWB at hW
  unfold FOk FOkB
  cases hk : f.k with
  | num w0 sg lt lo hi df c =>
    rw [hk] at hW hd
    cases df with
    | none => exact absurd rfl hd
    | some i =>
      have := hW.2.2.2 i rfl
      exact ⟨w0, i, rfl, this.1, this.2, rfl⟩
  | sev hi lo df =>
    rw [hk] at hW hd
    cases df with
    | none => exact absurd rfl hd
    | some i =>
      have := hW.2.2 i rfl
      refine ⟨_, i.toNat, ?_, by omega, rfl⟩
      exact int_nat this.1
  | txt hw df =>
    rw [hk] at hW hd
    cases df with
    | none => exact absurd rfl hd
    | some s =>
      obtain ⟨h1, h2, h3⟩ := hW.2 s rfl
      have hW1 := hW.1
      refine ⟨_, s, rfl, h1, h2, ?_, rfl⟩
      cases hw with
      | fix m => have h2 : s.length = m := h2; have : m ≤ 60 := hW1; omega
      | end_ m => have h2 : s.length ≤ m := h2; have : m ≤ 60 := hW1; omega
      | by_ => cases h3
  | _ => rw [hk] at hd; exact absurd rfl hd
section
variable {P : Program} {w : World} {K : PySem.W.Frag} {mg : Str → Option Value} {base : Heap} {σ : L2.St} {G H H' : Hp} {te ta tb tc tl td ty tx : TE} {tt : TT} {tu tw tz : TS} {D : Ends} {f : Fld} {n : Nat}
abbrev aLF (K : PySem.W.Frag) (n : Nat) : A2 := fun a b H Q => ∃ (l : Addr) (fs : List Fld) (gr : Bool) (W : Nat) (G : Hp), a = .ref l ∧ Ex G H ∧ LAt K G n l fs ∧ WD n fs ∧ (gr = true → ∀ g ∈ fs, g.k.leaf = true) ∧ (if gr = true then GOk G n fs b W else DOk G n fs b W) ∧
  ∀ u' H' G' W', Up G H G' H' → (DOk G' n fs u' W' ∨ (gr = true ∧ GOk G' n fs u' W' ∧ W' = W)) → Q u' H'
abbrev aFF (K : PySem.W.Frag) (n : Nat) : A2 := fun a b H Q => ∃ (f : Fld) (w : Nat) (G : Hp), a = f.v ∧ Ex G H ∧ FAt K G n f ∧ FW n f ∧ FOk G n f b w ∧ ∀ u' H' G' w', Up G H G' H' → FOk G' n f u' w' → (f.k.leaf = true → u' = b) → Q u' H'
theorem te_LF {Q : VK} {l : Addr} {fs : List Fld} {gr : Bool} {u : V} {W : Nat} (ha : Ev ta σ H (.ref l)) (hb : Ev tb σ H u) (hG : Ex G H) (hL : LAt K G n l fs) (hW : WD n fs) (hlf : gr = true → ∀ g ∈ fs, g.k.leaf = true) (hv : if gr = true then GOk G n fs u W else DOk G n fs u W)
    (k : ∀ u' H' G' W', Up G H G' H' → (DOk G' n fs u' W' ∨ (gr = true ∧ GOk G' n fs u' W' ∧ W' = W)) → Q u' H') : tFn (Sp2 (aLF K n)) (tCons ta (tCons tb tNil)) σ H Q :=
  ha H (Ex.refl _) _ fun H1 e1 => hb H1 e1 _ fun H2 e2 => ⟨_, _, rfl, l, fs, gr, W, G, rfl, hG.trans (e1.trans e2), hL, hW, hlf, hv, fun u' H' G' W' up d => k u' H' G' W' (up.pre (e1.trans e2)) d⟩
theorem te_FF {Q : VK} {u : V} {m : Nat} (ha : Ev ta σ H f.v) (hb : Ev tb σ H u) (hG : Ex G H) (hA : FAt K G n f) (hW : FW n f) (hv : FOk G n f u m)
    (k : ∀ u' H' G' w', Up G H G' H' → FOk G' n f u' w' → (f.k.leaf = true → u' = u) → Q u' H') : tFn (Sp2 (aFF K n)) (tCons ta (tCons tb tNil)) σ H Q :=
  ha H (Ex.refl _) _ fun H1 e1 => hb H1 e1 _ fun H2 e2 => ⟨_, _, rfl, f, m, G, rfl, hG.trans (e1.trans e2), hA, hW, hv, fun u' H' G' w' up d => k u' H' G' w' (up.pre (e1.trans e2)) d⟩
theorem ok_field_full (T : Tx K mg) (G_list_full : Pr P w K mg base (10 * n + 3) "list_full" (Sp2 (aLF K n))) : Pr P w K mg base (10 * n + 5) "field_full" (Sp2 (aFF K n)) := by
  have G_kind := pr_kind (P := P) (w := w) (base := base) T
  have G_case_fields := ok_case_fields (P := P) (w := w) (base := base) T
  refine pr2 T.d_field_full T.g_field_full sc_field_full (fun _ _ _ _ _ _ us hl => match us, hl with | [_, _], _ => rfl) fun a b H Q h cdv A outer s E hr hu => ?_
  obtain ⟨f, m, G, rfl, hG, hA, hW, hF, q⟩ := h
  have hAH := FAtB.mono hG hA
  have ob := hAH.ob
  have hF0 := hF
  have hWW := hW
  unfold FW FWB at hWW
  unfold FOk FOkB at hF
  refine ⟨_, (pss_cons (ps_set (i := 2) sc_field_full.nd rfl (.inl rfl) (pe_mU G_kind (hr.mono (by omega)) (pv 0)))
      (pss_cons (ps_if (pt_cmpR op_eq (pv 2) pe_str (by rfl)) (pss_one (ps_ret (pe_lc (own := [("item", 3)]) rfl sc_field_full.nd (piLK (K := K) rfl (pv 1)) (blkOk_by (N := ["field", "value", "kind", "item"]) (sc := defScope s_field_full) (by decide +kernel)) (fun _ _ _ _ _ => (pg_name (i := 3) sc_field_full.nd rfl (Or.inl rfl))) (fun _ _ _ _ _ => pts_nil) (fun _ _ _ _ _ => (pe_fn G_list_full (hr.mono (by omega)) (by rfl) (pa_cons (fldK (K := K) rfl (pv 0) rfl) (pa_cons (pv 3) pa_nil))))))) pss_nil)
      (pss_cons (ps_if (pt_cmpR op_eq (pv 2) pe_str (by rfl)) (pss_one (ps_ret (pe_tup (pa_cons (pe_ix (ixTK (K := K) rfl) (pv 1) pe_int (fun _ _ => rfl)) (pa_cons (pe_fn G_list_full (hr.mono (by omega)) (by rfl) (pa_cons (pe_fn G_case_fields (hr.mono (by omega)) (by rfl) (pa_cons (pv 0) (pa_cons (pe_ix (ixTK (K := K) rfl) (pv 1) pe_int (fun _ _ => rfl)) pa_nil))) (pa_cons (pe_ix (ixTK (K := K) rfl) (pv 1) pe_int (fun _ _ => rfl)) pa_nil))) pa_nil))))) pss_nil)
      (pss_cons (ps_if (PW.pt (pw_and (pt_cmpR (op_inK (K := K) rfl) (pv 2) (pe_tup (pa_cons pe_str (pa_cons pe_str (pa_cons pe_str pa_nil)))) (by rfl)) (pw_and1 (pt_cmpR op_notN (pv 1) pe_non (by rfl))))) (pss_one (ps_ret (pe_fn G_list_full (hr.mono (by omega)) (by rfl) (pa_cons (fldK (K := K) rfl (pv 0) rfl) (pa_cons (pv 1) pa_nil))))) pss_nil)
      (pss_one (ps_ret (pv 1))))))), ?_⟩
  obtain ⟨wd, hwd0⟩ : ∃ wd, wd = f.k.word := ⟨_, rfl⟩
  refine (sv_asg (v := .str wd) (ev_is (ev_kind (ev_var rfl) ob) (by rw [hwd0])) ?_).here
  have kw : ∀ s : Str, f.k.word = s → Ev (tVar 2) [some f.v, some b, some (.str wd), none] H (.str s) := fun s hs => ev_var (by rw [hwd0, hs]; rfl)
  have fin : SV (tRet (tVar 1)) { nx := fun _ H' => Q .non H', rt := Q } [some f.v, some b, some (.str wd), none] H := sv_ret (ev_var rfl) fun H1 e1 => q b H1 G m ((Up.refl hG).ext e1) hF0 fun _ => rfl
  have leaf : ∀ s : Str, f.k.word = s → s ≠ "row" → s ≠ "choice" → inV (.str s) [.str "maybe", .str "group", .str "sized"] = false → ∀ {t1 t2 t3 : TS} {t4 : TT}, SV (tSeq (tIfS (tTest (tOp rEq (tVar 2) (tC (.str "row")))) t1 tNext) (tSeq (tIfS (tTest (tOp rEq (tVar 2) (tC (.str "choice")))) t2 tNext) (tSeq (tIfS (tAnd (tTest (tOp (rIn K false) (tVar 2) (tTup (tCons (tC (.str "maybe")) (tCons (tC (.str "group")) (tCons (tC (.str "sized")) tNil)))))) t4) t3 tNext) (tRet (tVar 1))))) { nx := fun _ H' => Q .non H', rt := Q } [some f.v, some b, some (.str wd), none] H := fun s hs h1 h2 h3 _ _ _ _ =>
    sv_skip (kw s hs) h1 (sv_skip (kw s hs) h2 (sv_skipT (et_is (et_and (a := false) (b := false) (et_in (kw s hs) (ea_cons ev_c (ea_cons ev_c (ea_cons ev_c ea_nil))) (by decide) rfl rfl h3) fun z => nomatch z) rfl) fin))
  have inner : ∀ (s : Str) (gr : Bool), f.k.word = s → s ≠ "row" → s ≠ "choice" → inV (.str s) [.str "maybe", .str "group", .str "sized"] = true → b ≠ .non → f.k.one = true → WD n f.fs → (gr = true → ∀ g ∈ f.fs, g.k.leaf = true) → (if gr = true then GOk G n f.fs b m else DOk G n f.fs b m) →
      (∀ u' G' W', Ex G G' → (DOk G' n f.fs u' W' ∨ (gr = true ∧ GOk G' n f.fs u' W' ∧ W' = m)) → ∃ w', FOk G' n f u' w') → f.k.leaf = false → ∀ {t1 t2 : TS}, SV (tSeq (tIfS (tTest (tOp rEq (tVar 2) (tC (.str "row")))) t1 tNext) (tSeq (tIfS (tTest (tOp rEq (tVar 2) (tC (.str "choice")))) t2 tNext) (tSeq (tIfS (tAnd (tTest (tOp (rIn K false) (tVar 2) (tTup (tCons (tC (.str "maybe")) (tCons (tC (.str "group")) (tCons (tC (.str "sized")) tNil)))))) (tTest (tOp (fun x y H Q => y = .non ∧ Q (.bl (!decide (x = .non))) H) (tVar 1) (tC .non)))) (tRet (tFn (Sp2 (aLF K n)) (tCons (tFld K (tVar 0) "fields") (tCons (tVar 1) tNil)))) tNext) (tRet (tVar 1))))) { nx := fun _ H' => Q .non H', rt := Q } [some f.v, some b, some (.str wd), none] H := fun s gr hs h1 h2 h3 hb hone hWD hlf hv hk hl _ _ =>
    sv_skip (kw s hs) h1 (sv_skip (kw s hs) h2 (sv_takeT (et_is (et_and (a := true) (b := true) (et_in (kw s hs) (ea_cons ev_c (ea_cons ev_c (ea_cons ev_c ea_nil))) (by decide) rfl rfl h3) fun _ => et_test (ev_is (ev_notn (ev_var rfl)) (by rw [decide_eq_false hb]; rfl))) rfl) fun H1 e1 =>
      te_LF (gr := gr) (W := m) (ev_fields T (ev_var rfl) (Ob.mono e1 ob) hone) (ev_var rfl) (hG.trans e1) (hA.one hone) hWD hlf hv fun u' H' G' W' up d => by
        obtain ⟨w', hw'⟩ := hk u' G' W' up.ex d
        exact q u' H' G' w' (up.pre e1) hw' fun z => by rw [hl] at z; cases z))
  cases hk : f.k with
  | num => exact leaf "number" (by rw [hk]; rfl) (by decide +kernel) (by decide +kernel) rfl
  | sev => exact leaf "seven" (by rw [hk]; rfl) (by decide +kernel) (by decide +kernel) rfl
  | txt => exact leaf "text" (by rw [hk]; rfl) (by decide +kernel) (by decide +kernel) rfl
  | chk => rw [hk] at hF; exact hF.elim
  | spt => rw [hk] at hF; exact hF.elim
  | grp =>
    rw [hk] at hF hWW
    exact inner "group" false (by rw [hk]; rfl) (by decide +kernel) (by decide +kernel) rfl (DOk.ne_non hF) (by rw [hk]; rfl) hWW (fun z => nomatch z) hF (fun u' G' W' _ d => ⟨W', by
      unfold FOk FOkB
      rw [hk]
      exact d.elim id fun z => nomatch z.1⟩) (by rw [hk]; rfl)
  | may c lo hi =>
    rw [hk] at hF hWW
    rcases hF with ⟨rfl, h1, h2, rfl⟩ | ⟨h1, h2, hd⟩
    · refine sv_skip (kw "maybe" (by rw [hk]; rfl)) (by decide +kernel) (sv_skip (kw "maybe" (by rw [hk]; rfl)) (by decide +kernel) (sv_skipT (et_is (et_and (b := false) (et_in (kw "maybe" (by rw [hk]; rfl)) (ea_cons ev_c (ea_cons ev_c (ea_cons ev_c ea_nil))) (by decide) rfl rfl rfl) fun _ => et_test (ev_is (ev_notn (ev_var rfl)) rfl)) rfl) fin))
    · exact inner "maybe" false (by rw [hk]; rfl) (by decide +kernel) (by decide +kernel) rfl hd.ne_non (by rw [hk]; rfl) hWW.2.2.2 (fun z => nomatch z) hd (fun u' G' W' _ d => ⟨W', by
        unfold FOk FOkB
        rw [hk]
        exact .inr ⟨h1, h2, d.elim id fun z => nomatch z.1⟩⟩) (by rw [hk]; rfl)
  | siz c lo hi gr =>
    rw [hk] at hF hWW
    obtain ⟨h1, h2, h3, h4, hd⟩ := hF
    obtain ⟨w1, w2, w3, w4⟩ := hWW
    have hb : b ≠ .non := by
      intro z
      subst z
      cases n with
      | zero => exact w2
      | succ n =>
        cases gr with
        | true => obtain ⟨p, _, _, _, e, _⟩ := hd; cases e
        | false => obtain ⟨p, _, e, _⟩ := hd; cases e
    have hd3 : if gr = true then GOk G n f.fs b m else DOk G n f.fs b m := hd
    refine inner "sized" gr (by rw [hk]; rfl) (by decide +kernel) (by decide +kernel) rfl hb (by rw [hk]; rfl) w2 (fun z g hg => ?_) hd3 (fun u' G' W' _ d => ⟨W', ?_⟩) (by rw [hk]; rfl)
    · obtain ⟨_, _, _, _, _, h, _⟩ := w4 z
      exact (h g hg).1
    · unfold FOk FOkB
      rw [hk]
      rcases d with d | ⟨e, d, e2⟩
      · have hll := (DG.len n).1 _ _ _ d
        obtain ⟨a1, a2⟩ := w3 W' hll
        refine ⟨?_, a1, by omega, a2, ?_⟩
        · cases n with
          | zero => exact w2.elim
          | succ n => exact w2.m8 W' hll
        · cases gr with
          | true => exact GOk.of w2 d
          | false => exact d
      · subst e2
        exact ⟨h1, h2, h3, h4, by rw [if_pos e]; exact d⟩
  | row hw mk =>
    have hone : f.k.one = true := by rw [hk]; rfl
    rw [hk] at hF hWW
    obtain ⟨p, xs, Ws, rfl, hp, hok, hz, hxs, rfl⟩ := hF
    refine sv_take (kw "row" (by rw [hk]; rfl)) rfl fun H1 e1 => ?_
    have hGH1 := hG.trans e1
    refine ⟨.ref p, rfl, p, rfl, ⟨xs, sq_of (hGH1 _ _ hp)⟩, fun Dl hD => ?_⟩
    obtain ⟨H2, hH2⟩ : ∃ H2, H2 = H1 := ⟨_, rfl⟩
    have e2 : Ex H1 H2 := hH2 ▸ Ex.refl _
    rw [← hH2] at hD ⊢
    have hGH2 := hGH1.trans e2
    have hGD : G Dl = none := fresh_back hGH2 hD
    refine lc_list (xs := xs) (fun i H' => ∃ ys Ws' G', Up G H2 G' H' ∧ H' Dl = some (.lst ys) ∧ G' Dl = none ∧ All2 (DOk G' n f.fs) ys Ws' ∧ ys.length = i) ⟨[], [], G, (Up.refl hGH2).ext (Ex.new hD), upd_same, hGD, .nil, rfl⟩ (fun i H' _ c => by obtain ⟨_, _, _, up, _⟩ := c; exact sq_of (up.eh _ _ (hGH2 _ _ hp))) (fun i y H' hi c => ?_) fun H' c => ?_
    · obtain ⟨ys, Ws', G', up, h1, h2, h3, h4⟩ := c
      obtain ⟨W, hW2, hy⟩ := hxs.at_ hi
      have hil : i < 41 := by have := (List.getElem?_eq_some_iff.mp hi).1; omega
      refine ⟨rfl, ?_⟩
      show tFn (Sp2 (aLF K n)) (tCons (tFld K (tVar 0) "fields") (tCons (tVar 3) tNil)) ((wipe [some f.v, some (.ref p), some (.str wd), none] [3]).set 3 (some y)) H' _
      refine te_LF (gr := false) (W := W) (G := G') (ev_fields T (ev_var rfl) (Ob.mono (e1.trans (e2.trans up.eh)) ob) hone) (ev_var rfl) up.sub ((hA.one hone).mono up.ex) hWW.2 (fun z => nomatch z) ((DG.mono up.ex).1 _ _ _ hy) fun u' H3 G3 W3 up3 d => ⟨ys, up3.eh _ _ h1, sz_lt (by omega), ys ++ [u'], Ws' ++ [W3], G3, (up.trans up3).mut hD (up3.no h1 h2), upd_same, up3.no h1 h2, ?_, by rw [List.length_append, h4]; rfl⟩
      exact All2.snoc (d.elim id fun z => nomatch z.1) (h3.imp fun a b h => (DG.mono up3.ex).1 _ _ _ h)
    · obtain ⟨ys, Ws', G', up, h1, h2, h3, h4⟩ := c
      have upA := (up.pre (e1.trans e2))
      have hHD : H Dl = none := fresh_back (e1.trans e2) hD
      refine q (.ref Dl) _ (upd G' Dl (.lst ys)) (Ws'.sum + hw.e) (upA.add hHD h1 h2) ?_ fun z => by rw [hk] at z; cases z
      unfold FOk FOkB
      rw [hk]
      exact ⟨Dl, ys, Ws', rfl, upd_same, by rw [h4]; exact hok, by omega, h3.imp fun a b h => (DG.mono (Ex.new h2)).1 _ _ _ h, rfl⟩
  | cho c lo hi =>
    have hc := hAH.cases hk
    rw [hk] at hF hWW
    obtain ⟨p, d, t, ht, rfl, hp, h3, h4, h5⟩ := hF
    refine sv_skip (kw "choice" (by rw [hk]; rfl)) (by decide +kernel) (sv_take (kw "choice" (by rw [hk]; rfl)) rfl fun H1 e1 => te_tup2 ?_)
    have hv0 : ∀ {H1 : Hp}, Ex H H1 → Ev (tOp (rIxT K) (tVar 1) (tC (.int 0))) [some f.v, some (.ref p), some (.str wd), none] H1 (.int t.2.1) := fun e => ev_op (ev_var rfl) ev_c (rv_ixT (ex_t (hG.trans e) (st_of hp)) (atI_nat (j := 0) rfl))
    have hv1 : ∀ {H1 : Hp}, Ex H H1 → Ev (tOp (rIxT K) (tVar 1) (tC (.int 1))) [some f.v, some (.ref p), some (.str wd), none] H1 d := fun e => ev_op (ev_var rfl) ev_c (rv_ixT (ex_t (hG.trans e) (st_of hp)) (atI_nat (j := 1) rfl))
    refine hv0 e1 H1 (Ex.refl _) _ fun H2 e2 => ?_
    have e12 := e1.trans e2
    refine te_LF (gr := false) (W := m) (ev_case (ev_var rfl) (hv0 e12) (Ob.mono e12 ob) hk (hc.mono e12) ht hWW.1) (hv1 e12) (hG.trans e12) (hA.sub t ht) (hWW.2.2.2 t ht).2.2 (fun z => nomatch z) h5 fun u' H3 G' W' up dd => ⟨sz_of (by simp), fun pn hpn => ?_⟩
    have up2 := (up.pre e12).ext (Ex.new hpn (o := .tup [.int t.2.1, u']))
    have hgp : G' pn = none := fresh_back up.sub hpn
    have hHp : H pn = none := fresh_back (up.pre e12).eh hpn
    refine q (.ref pn) _ (upd G' pn (.tup [.int t.2.1, u'])) W' (up2.add hHp upd_same hgp) ?_ fun z => by rw [hk] at z; cases z
    unfold FOk FOkB
    rw [hk]
    refine ⟨pn, u', t, ht, rfl, upd_same, h3, h4, (DG.mono (Ex.new hgp)).1 _ _ _ (dd.elim id fun z => nomatch z.1)⟩
theorem putK_keys {kvs : Kvs} {k : Key} {v : V} (h : valV kvs k = none) : (putK kvs k v).map (·.1) = kvs.map (·.1) ++ [k] := by
  rw [putK_new v h, List.map_append]
  rfl
theorem val_of_keys {kvs : Kvs} {ks : List Key} (h : kvs.map (·.1) = ks) {k : Key} (hk : k ∉ ks) : valV kvs k = none := by
  cases e : valV kvs k with
  | none => rfl
  | some v => exact absurd (h ▸ valV_in e) hk
theorem ok_list_full (T : Tx K mg) (G_field_full : Pr P w K mg base (10 * n + 5) "field_full" (Sp2 (aFF K n))) : Pr P w K mg base (10 * (n + 1) + 3) "list_full" (Sp2 (aLF K (n + 1))) := by
  have G_told_fields := ok_told_fields (P := P) (w := w) (base := base) T
  have G_default_of := ok_default_of (P := P) (w := w) (base := base) T
  refine pr2 (k := 10 * n + 12) T.d_list_full T.g_list_full sc_list_full (fun _ _ _ _ _ _ us hl => match us, hl with | [_, _], _ => rfl) fun a b H Q h cdv A outer s E hr hu => ?_
  obtain ⟨l, fs, gr, W, G, rfl, hG, hL, hW, hlf, hv, q⟩ := h
  have hLH := hL.mono hG
  have htl := told_len hW.sz
  -- the value
  obtain ⟨p0, kvs0, FA, FB, rfl, hM⟩ : ∃ p kvs A B, b = .ref p ∧ (G p = some (.dK kvs) ∧ fs.filter (fun f => f.k.told) = A ++ B ∧ (∀ f ∈ A, ∃ u w, valV kvs (kn f.nm) = some u ∧ FOk G n f u w) ∧ (∀ f ∈ B, valV kvs (kn f.nm) = none ∧ f.k.dfl ≠ .non)) := by
    cases gr with
    | false =>
      obtain ⟨p, kvs, A, B, e, h⟩ := mok_of (gr := false) hW (.inr rfl) hv
      exact ⟨p, kvs, A, B, e, h.at_, h.ab, h.fa, h.fb⟩
    | true =>
      obtain ⟨p, kvs, j, a, rfl, h2, h3, h4, h5, h6, h7⟩ := hv
      refine ⟨p, kvs, (fs.take j).filter (fun f => f.k.told), (fs.drop j).filter (fun f => f.k.told), rfl, h2, by rw [← List.filter_append, List.take_append_drop], fun f hf => ?_, fun f hf => ?_⟩
      · obtain ⟨hf, ht⟩ := List.mem_filter.mp hf
        obtain ⟨w, hw⟩ := sum_get h5 f hf
        have ht : f.k.told = true := ht
        rw [if_pos ht] at hw
        obtain ⟨u, a, b⟩ := hw
        exact ⟨u, w, a, b⟩
      · have := h6 f (List.mem_filter.mp hf).1
        exact ⟨this.2, this.1⟩
  obtain ⟨hp0, hab, hfa, hfb⟩ := hM
  have hndt : ((fs.filter fun f => f.k.told).map fun f => kn f.nm).Nodup := by
    have h := (List.filter_sublist (p := fun f : Fld => f.k.told) (l := fs)).map Fld.nm
    have := h.nodup hW.nd
    have e : ((fs.filter fun f => f.k.told).map fun f => kn f.nm) = ((fs.filter fun f => f.k.told).map Fld.nm).map Sum.inr := by rw [List.map_map]; rfl
    rw [e]
    exact List.Pairwise.map _ (fun a b hab z => hab (Sum.inr.inj z)) this
  refine ⟨_, (pss_cons (ps_set (i := 2) sc_list_full.nd rfl (.inl rfl) pe_dnewK)
      (pss_cons (ps_for PassesOwn.never rfl (piLK (K := K) rfl (pe_fn G_told_fields (hr.mono (by omega)) (by rfl) (pa_cons (pv 0) pa_nil))) (pg_name (i := 3) sc_list_full.nd rfl (.inl rfl)) (pss_one (ps_if (pt_cmp (pc_din hu (fldK (K := K) rfl (pv 3) rfl) (pv 1))) (pss_one (ps_dput hu (pv 2) (fldK (K := K) rfl (pv 3) rfl) (pe_fn G_field_full (hr.mono (by omega)) (by rfl) (pa_cons (pv 3) (pa_cons (pe_dget hu (pv 1) (fldK (K := K) rfl (pv 3) rfl) (fun _ _ => rfl)) pa_nil))) rfl)) (pss_one (ps_dput hu (pv 2) (fldK (K := K) rfl (pv 3) rfl) (pe_fn G_default_of (hr.mono (by omega)) (by rfl) (pa_cons (pv 3) pa_nil)) rfl)))))
      (pss_cons (ps_if (pt_cmp (pc_din hu pe_str (pv 1))) (pss_one (ps_dput hu (pv 2) pe_str (pe_callTy (lstK (K := K) rfl) (by rfl) T.b_list (by decide +kernel) (pa_cons (pe_dget hu (pv 1) pe_str (fun _ _ => rfl)) pa_nil)) rfl)) pss_nil)
      (pss_one (ps_ret (pv 2)))))), ?_⟩
  intro p hp
  have e1 := Ex.new hp (o := .dK [])
  have hGp : G p = none := fresh_back hG hp
  refine q_forNLn (el_told (ev_var rfl) (hLH.mono e1).seq (hLH.mono e1).ob hW.tc (by have := hW.sz; omega)) (fun pt i σ' H' => ∃ z kvs G', σ' = [some (.ref l), some (.ref p0), some (.ref p), z] ∧ Up G H G' H' ∧ H' pt = some (.lst (toldV fs)) ∧ H' p = some (.dK kvs) ∧ G' p = none ∧ kvs.map (·.1) = ((fs.filter fun f => f.k.told).take i).map (fun f => kn f.nm) ∧
    ∀ f ∈ (fs.filter fun f => f.k.told).take i, ∃ u w, valV kvs (kn f.nm) = some u ∧ FOk G' n f u w ∧ ∀ u0, f.k.leaf = true → valV kvs0 (kn f.nm) = some u0 → u = u0) (fun pt H1 hpt e2 h2 => ⟨none, [], G, rfl, (Up.refl hG).ext (e1.trans e2), h2, e2 _ _ upd_same, hGp, rfl, fun _ h => (by cases h)⟩) (fun pt i σ' H' _ c => by obtain ⟨_, _, _, _, _, h, _⟩ := c; exact sq_of h) ?_ ?_
  · rintro pt i x σ' H' hx ⟨z, kvs, G', rfl, up, h2, h3, h4, h5, h6⟩
    obtain ⟨f, hf, hm, rfl⟩ := map_get hx
    have hfs : f ∈ fs := (List.mem_filter.mp hm).1
    have hob := (hLH.ob f hfs).mono up.eh
    have hi : i < 26 := by have := (List.getElem?_eq_some_iff.mp hf).1; omega
    have hklen : kvs.length ≤ 26 := by
      have := congrArg List.length h5
      rw [List.length_map, List.length_map, List.length_take] at this
      omega
    have htk : (fs.filter fun f => f.k.told).take (i + 1) = (fs.filter fun f => f.k.told).take i ++ [f] := by rw [List.take_add_one, hf]; rfl
    have hnew : valV kvs (kn f.nm) = none := by
      refine val_of_keys h5 fun hmem => ?_
      have hn := hndt
      rw [← List.take_append_drop (i + 1) (fs.filter fun f => f.k.told), htk, List.map_append, List.map_append] at hn
      have hn := (List.nodup_append.mp hn).1
      exact (List.nodup_append.mp hn).2.2 _ hmem _ (List.mem_singleton_self _) rfl
    have hin : Ev (tDIn (tFld K (tVar 3) "name") (tVar 1)) [some (.ref l), some (.ref p0), some (.ref p), some f.v] H' (.bl (valV kvs0 (kn f.nm)).isSome) := ev_din (k := kn f.nm) (ev_name T (ev_var rfl) hob) (ev_var rfl) (.of ((up.ex.trans up.sub) _ _ hp0))
    have store : ∀ (u : V) (H2 H5 : Hp) (G2 : Hp) (m : Nat), Up G H G2 H2 → Ex H' H2 → Ex G' G2 → Ex H2 H5 → G2 p = none → FOk G2 n f u m → (∀ u0, f.k.leaf = true → valV kvs0 (kn f.nm) = some u0 → u = u0) →
        ∃ a H6, V.ref p = V.ref a ∧ DPut H5 a (kV (kn f.nm)) u H6 ∧ ∃ z kvs G', [some (.ref l), some (.ref p0), some (.ref p), some f.v] = [some (.ref l), some (.ref p0), some (.ref p), z] ∧ Up G H G' H6 ∧ H6 pt = some (.lst (toldV fs)) ∧ H6 p = some (.dK kvs) ∧ G' p = none ∧ kvs.map (·.1) = ((fs.filter fun f => f.k.told).take (i + 1)).map (fun f => kn f.nm) ∧
          ∀ f ∈ (fs.filter fun f => f.k.told).take (i + 1), ∃ u w, valV kvs (kn f.nm) = some u ∧ FOk G' n f u w ∧ ∀ u0, f.k.leaf = true → valV kvs0 (kn f.nm) = some u0 → u = u0 := by
      intro u H2 H5 G2 m up2 eH eG e5 hG2 hFO hlf2
      have hptp : pt ≠ p := fun z => by rw [z, h3] at h2; cases h2
      refine ⟨p, _, rfl, .inl ⟨kvs, kn f.nm, e5 _ _ (eH _ _ h3), rfl, sz_lt (by omega), rfl⟩, _, _, G2, rfl, (up2.ext e5).mut hp hG2, by rw [upd_ne hptp]; exact e5 _ _ (eH _ _ h2), upd_same, hG2, ?_, ?_⟩
      · rw [putK_keys hnew, htk, List.map_append, h5]
        rfl
      · intro g hg
        rw [htk] at hg
        rcases List.mem_append.mp hg with hg | hg
        · obtain ⟨u1, w1, a1, a2, a3⟩ := h6 g hg
          have hne : kn g.nm ≠ kn f.nm := fun z => by
            rw [← z, a1] at hnew
            cases hnew
          exact ⟨u1, w1, by rw [valV_put, if_neg hne]; exact a1, a2.mono eG, a3⟩
        · have : g = f := by simpa using hg
          subst this
          exact ⟨u, m, by rw [valV_put, if_pos rfl], hFO, hlf2⟩
    have hfAB := hm
    rw [hab] at hfAB
    rcases List.mem_append.mp hfAB with hA | hB
    · obtain ⟨u, m, h7, h8⟩ := hfa f hA
      refine (sv_if (b := true) (et_test (ev_is hin (by rw [h7]; rfl))) (fun _ => ?_) fun z => nomatch z).here
      intro H1 e3
      refine te_FF (G := G') (ev_var rfl) (ev_dget (k := kn f.nm) (ev_var rfl) (ev_name T (ev_var rfl) (hob.mono e3)) (.of ((up.ex.trans (up.sub.trans e3)) _ _ hp0)) h7) (up.sub.trans e3) ((hL.2 f hfs).mono up.ex) (hW.fw f hfs) (h8.mono up.ex) fun u' H2 G2 w' up2 hF2 hu2 => ?_
      refine (ev_var (i := 2) (v := .ref p) (H := H2) rfl) H2 (Ex.refl _) _ fun H3 e4 => ?_
      refine (ev_name (H := H3) T (ev_var (i := 3) rfl) (hob.mono ((e3.trans up2.eh).trans e4))) H3 (Ex.refl _) _ fun H4 e5 => ?_
      exact store u' H2 H4 G2 w' ((up.ext e3).trans up2) (e3.trans up2.eh) up2.ex (e4.trans e5) (up2.no (e3 _ _ h3) h4) hF2 fun u0 hl hu0 => by
        rw [h7] at hu0
        cases hu0
        exact hu2 hl
    · obtain ⟨h7, h8⟩ := hfb f hB
      obtain ⟨w', hw'⟩ := dfl_fits (H := G') (hW.fw f hfs) h8
      refine (sv_if (b := false) (et_test (ev_is hin (by rw [h7]; rfl))) (fun z => nomatch z) fun _ => ?_).here
      intro H1 e3
      refine (ev_default (H := H1) (ev_var (i := 3) rfl) (hob.mono e3)) H1 (Ex.refl _) _ fun H2 e4 => ?_
      refine (ev_var (i := 2) (v := .ref p) (H := H2) rfl) H2 (Ex.refl _) _ fun H3 e5 => ?_
      refine (ev_name (H := H3) T (ev_var (i := 3) rfl) (hob.mono ((e3.trans e4).trans e5))) H3 (Ex.refl _) _ fun H4 e6 => ?_
      exact store f.k.dfl H1 H4 G' w' (up.ext e3) e3 (Ex.refl _) ((e4.trans e5).trans e6) h4 hw' fun u0 _ hu0 => by rw [h7] at hu0; cases hu0
  · rintro pt σ' H' ⟨z, kvs, G', rfl, up, h2, h3, h4, h5, h6⟩
    have hlen0 : (toldV fs).length = (fs.filter fun f => f.k.told).length := by unfold toldV; rw [List.length_map]
    rw [hlen0, List.take_length] at h5 h6
    have hnd : (kvs.map (·.1)).Nodup := by rw [h5]; exact hndt
    have hkz : kvs.length ≤ 26 := by
      have := congrArg List.length h5
      rw [List.length_map, List.length_map] at this
      omega
    have hin : Ev (tDIn (tC (.str "rest")) (tVar 1)) [some (.ref l), some (.ref p0), some (.ref p), z] H' (.bl (valV kvs0 (kn "rest")).isSome) := ev_din (k := kn "rest") ev_c (ev_var rfl) (.of ((up.ex.trans up.sub) _ _ hp0))
    have hkeys : ∀ q ∈ kvs, ∃ f ∈ fs, f.k.told = true ∧ q.1 = kn f.nm := fun q hq => by
      have : q.1 ∈ kvs.map (·.1) := List.mem_map.mpr ⟨q, hq, rfl⟩
      rw [h5] at this
      obtain ⟨f, hf, e⟩ := List.mem_map.mp this
      exact ⟨f, (List.mem_filter.mp hf).1, (List.mem_filter.mp hf).2, e.symm⟩
    have hvals : ∀ f ∈ fs, f.k.told = true → ∃ u w, valV kvs (kn f.nm) = some u ∧ FOk G' n f u w := fun f hf ht => let ⟨u, w, a, b, _⟩ := h6 f (List.mem_filter.mpr ⟨hf, ht⟩); ⟨u, w, a, b⟩
    refine (sv_when (H := H') (et_test hin) (fun hb => ?_) fun hb => ?_).here
    · -- a rest
      obtain ⟨v, hvr⟩ := Option.isSome_iff_exists.mp hb
      have hg : gr = true := by
        cases gr with
        | true => rfl
        | false =>
          exfalso
          obtain ⟨_, p', kvs', e, hp', hr'⟩ := DOkB.v hv hW
          cases e
          rw [hp0] at hp'
          cases hp'
          rw [hvr] at hr'
          cases hr'
      subst hg
      obtain ⟨p', kvs', j, a, e, g2, g3, g4, g5, g6, g7⟩ := (show GOk G (n + 1) fs (.ref p0) W from hv)
      cases e
      rw [hp0] at g2
      cases g2
      rcases g7 with ⟨g7, _⟩ | ⟨g7, qa, bs, g9, g10, g11, g12, eW⟩
      · rw [hvr] at g7
        cases g7
      · intro H1 e3
        refine (el_lstOf (K := K) (H := H1) (xs := bs.map V.int) (ev_dget (k := kn "rest") (ev_var (i := 1) rfl) ev_c (.of ((up.ex.trans (up.sub.trans e3)) _ _ hp0)) g9) (.inl (sq_of ((up.ex.trans (up.sub.trans e3)) _ _ g10)))) H1 (Ex.refl _) _ fun qb H2 hqb e4 h7 => ?_
        refine (ev_var (i := 2) (v := .ref p) (H := H2) rfl) H2 (Ex.refl _) _ fun H3 e5 => ?_
        refine ev_c (v := .str "rest") H3 (Ex.refl _) _ fun H4 e6 => ?_
        have e14 := ((e3.trans e4).trans e5).trans e6
        have hrn : valV kvs (kn "rest") = none := val_none fun q hq e => by
          obtain ⟨f, hf, _, h⟩ := hkeys q hq
          exact hW.nr f hf (kn_inj (h.symm.trans e))
        refine ⟨p, _, rfl, .inl ⟨kvs, kn "rest", e14 _ _ h3, rfl, sz_lt (by omega), rfl⟩, ?_⟩
        have hqp : qb ≠ p := fun z => by rw [z, e3 _ _ h3] at hqb; cases hqb
        have hG'q : G' qb = none := fresh_back (up.sub.trans e3) hqb
        have hHq : H qb = none := fresh_back (up.eh.trans e3) hqb
        have upB := ((up.ext e14).add hHq ((e5.trans e6) _ _ h7) hG'q)
        have hGp2 : (upd G' qb (.lst (bs.map V.int))) p = none := by rw [upd_ne hqp.symm]; exact h4
        have upC := (upB.mut (o := .dK (putK kvs (kn "rest") (.ref qb))) hp hGp2).add hp upd_same hGp2
        have eGG : Ex G' (upd (upd G' qb (.lst (bs.map V.int))) p (.dK (putK kvs (kn "rest") (.ref qb)))) := (Ex.new hG'q).trans (Ex.new hGp2)
        refine s_ret (ev_var (i := 2) (v := .ref p) rfl) fun H5 e7 => q (.ref p) H5 _ W (upC.ext e7) (.inr ⟨rfl, ?_, rfl⟩)
        have hj : fs.take j = fs := List.take_of_length_le g7
        rw [hj] at g5
        refine ⟨p, _, fs.length, a, rfl, upd_same, ?_, ?_, ?_, fun f hf => by rw [List.drop_length] at hf; exact absurd hf List.not_mem_nil, .inr ⟨Nat.le_refl _, qb, bs, by rw [valV_put, if_pos rfl], ?_, g11, g12, eW⟩⟩
        · exact nd_putK _ hnd hrn
        · intro qq hqq
          rcases putK_mem hqq with h | rfl
          · exact .inl (hkeys qq h)
          · exact .inr rfl
        · rw [List.take_length]
          refine SumB.imp g5 fun f hf w hw => ?_
          cases ht : f.k.told with
          | false =>
            rw [if_neg (by rw [ht]; decide)] at hw
            exact hw
          | true =>
            rw [if_pos ht] at hw
            obtain ⟨u0, a1, a2⟩ := hw
            obtain ⟨u, w1, b1, b2, b3⟩ := h6 f (List.mem_filter.mpr ⟨hf, ht⟩)
            have := b3 u0 (hlf rfl f hf) a1
            subst this
            have hne : kn f.nm ≠ kn "rest" := fun z => hW.nr f hf (kn_inj z)
            exact ⟨u, by rw [valV_put, if_neg hne]; exact b1, FOk.mono (up.ex.trans eGG) a2⟩
        · rw [upd_ne hqp, upd_same]
    · -- no rest
      refine sv_ret (ev_var (i := 2) (v := .ref p) rfl) fun H5 e7 => ?_
      obtain ⟨W', hW'⟩ := PVB_of hvals
      refine q (.ref p) H5 (upd G' p (.dK kvs)) W' ((up.ext e7).add hp (e7 _ _ h3) h4) (.inl ⟨p, kvs, rfl, upd_same, hnd, hkeys, hW'.imp fun f u w h => FOk.mono (Ex.new h4) h⟩)
theorem fulls (T : Tx K mg) : ∀ n, Pr P w K mg base (10 * n + 3) "list_full" (Sp2 (aLF K n))
  | 0 => pr2 (k := 2) T.d_list_full T.g_list_full sc_list_full (fun _ _ _ _ _ _ us hl => match us, hl with | [_, _], _ => rfl) fun a b H Q h => by
      obtain ⟨l, fs, gr, W, G, rfl, _, hL, _⟩ := h
      exact hL.elim
  | n + 1 => ok_list_full T (ok_field_full T (fulls T n))
end
end Fk

set_option Elab.async false
set_option linter.all false
set_option maxRecDepth 100000
set_option maxHeartbeats 4000000
set_option exponentiation.threshold 3000
namespace Fk
open PySem PySem.Spec PyProof.Rows L2 Evl
/-! ### what is built while the object at q changes -/
structure Us (q : Addr) (G H G' H' : Hp) : Prop where
  ex : Ex G G'
  eh : ∀ a o, a ≠ q → H a = some o → H' a = some o
  sub : Ex G' H'
  fr : ∀ a, G' a ≠ none → G a ≠ none ∨ (a ≠ q ∧ H a = none)
section
variable {q : Addr} {G H G' H' : Hp}
theorem Us.refl (e : Ex G H) : Us q G H G H := ⟨Ex.refl _, fun _ _ _ h => h, e, fun _ h => .inl h⟩
theorem Us.trans {G1 H1 G2 H2 : Hp} (a : Us q G H G1 H1) (b : Us q G1 H1 G2 H2) : Us q G H G2 H2 :=
  ⟨a.ex.trans b.ex, fun x o hx h => b.eh x o hx (a.eh x o hx h), b.sub, fun x h => (b.fr x h).elim (a.fr x) fun z => .inr ⟨z.1, by
    cases e : H x with
    | none => rfl
    | some o =>
      have := a.eh x o z.1 e
      rw [z.2] at this
      cases this⟩⟩
theorem Us.pre {H1 G2 H2 : Hp} (e : Ex H H1) (b : Us q G H1 G2 H2) : Us q G H G2 H2 := ⟨b.ex, fun a o ha h => b.eh a o ha (e a o h), b.sub, fun x h => (b.fr x h).imp id fun z => ⟨z.1, fresh_back e z.2⟩⟩
theorem Us.ext {H2 : Hp} (a : Us q G H G' H') (e : Ex H' H2) : Us q G H G' H2 := ⟨a.ex, fun x o hx h => e _ _ (a.eh x o hx h), a.sub.trans e, a.fr⟩
theorem Us.no (a : Us q G H G' H') {p : Addr} {o : HO} (h : H p = some o) (hg : G p = none) : G' p = none := by
  cases e : G' p with
  | none => rfl
  | some x =>
    rcases a.fr p (by rw [e]; exact fun z => nomatch z) with z | z
    · exact absurd hg z
    · rw [h] at z
      cases z.2
theorem Us.add (a : Us q G H G' H') {p : Addr} {o : HO} (hpq : p ≠ q) (hp : H p = none) (h : H' p = some o) (hg : G' p = none) : Us q G H (upd G' p o) H' :=
  ⟨a.ex.trans (Ex.new hg), a.eh, fun x u hx => by
      by_cases z : x = p
      · subst z
        rw [upd_same] at hx
        rw [h, ← hx]
      · rw [upd_ne z] at hx
        exact a.sub x u hx, fun x h => by
      by_cases z : x = p
      · subst z
        exact .inr ⟨hpq, hp⟩
      · rw [upd_ne z] at h
        exact a.fr x h⟩
theorem Us.mutq (a : Us q G H G' H') {o : HO} (hg : G' q = none) : Us q G H G' (upd H' q o) :=
  ⟨a.ex, fun x u hx h => by rw [upd_ne hx]; exact a.eh x u hx h, Ex.mut a.sub hg, a.fr⟩
theorem Us.mut (a : Us q G H G' H') {p : Addr} {o : HO} (hp : H p = none) (hg : G' p = none) : Us q G H G' (upd H' p o) :=
  ⟨a.ex, fun x u hx h => by rw [upd_ne (ne_of_none h hp)]; exact a.eh x u hx h, Ex.mut a.sub hg, a.fr⟩
end
theorem szM {n : Nat} (h : n < 16000000) : n < sizeLine := by rw [sizeLine_eq]; omega
def cnt : Nat → Nat
  | 0 => 0
  | n + 1 => 1 + 26 * (1 + 4 * cnt n)
def Std (K : PySem.W.Frag) (N : Nat) (G : Hp) (l : Addr) (u : V) : Prop := ∃ n fs W, n ≤ N ∧ LAt K G (n + 1) l fs ∧ WD (n + 1) fs ∧ DOk G (n + 1) fs u W ∧ W ≤ 2040
def Pl (K : PySem.W.Frag) (N : Nat) (G : Hp) (y : V) : Prop := ∃ (t l : Addr) (dv u : V) (r : Str) (nv : V), y = .ref t ∧ G t = some (.tup [.ref l, dv, u, .str r, nv]) ∧
  ((∃ s, nv = .str s) ∨ (nv = .non ∧ ((dv = .non ∧ Std K N G l u) ∨ ∃ g : Fld, dv = g.v ∧ Ob K G g ∧ ((∃ c lo hi, g.k = .siz c lo hi true) ∨ Std K N G l u))))
theorem Std.mono {K : PySem.W.Frag} {N : Nat} {G G' : Hp} {l : Addr} {u : V} (e : Ex G G') (h : Std K N G l u) : Std K N G' l u := let ⟨n, fs, W, a, b, c, d, f⟩ := h; ⟨n, fs, W, a, b.mono e, c, (DG.mono e).1 _ _ _ d, f⟩
theorem Pl.mono {K : PySem.W.Frag} {N : Nat} {G G' : Hp} {y : V} (e : Ex G G') (h : Pl K N G y) : Pl K N G' y := by
  obtain ⟨t, l, dv, u, r, nv, a, b, c⟩ := h
  refine ⟨t, l, dv, u, r, nv, a, e _ _ b, c.imp id fun ⟨c1, c2⟩ => ⟨c1, ?_⟩⟩
  rcases c2 with ⟨c2, c3⟩ | ⟨g, c2, c3, c4⟩
  · exact .inl ⟨c2, c3.mono e⟩
  · exact .inr ⟨g, c2, c3.mono e, c4.imp id fun z => z.mono e⟩
theorem le_sum {l : List Nat} {x : Nat} (h : x ∈ l) : x ≤ l.sum := by
  induction l with
  | nil => cases h
  | cons a r ih =>
    rw [List.sum_cons]
    rcases List.mem_cons.mp h with rfl | h
    · omega
    · have := ih h
      omega
/-- a told field's value, if it is there -/
theorem told_val {H : Hp} {n : Nat} {fs : List Fld} {gr : Bool} {u : V} {W : Nat} (hW : WD (n + 1) fs) (hv : if gr = true then GOk H (n + 1) fs u W else DOk H (n + 1) fs u W) :
    ∃ p kvs, u = .ref p ∧ H p = some (.dK kvs) ∧ ∀ f ∈ fs, f.k.told = true → valV kvs (kn f.nm) = none ∨ ∃ x w, valV kvs (kn f.nm) = some x ∧ FOk H n f x w ∧ w ≤ W := by
  have hV : VOk H (FOk H n) fs u W := VOk_of hW (by
    cases gr with
    | true => exact .inr hv
    | false => exact .inl hv)
  obtain ⟨p, kvs, ws, r, e, hp, _, _, hws, _, eW⟩ := hV
  refine ⟨p, kvs, e, hp, fun f hf ht => ?_⟩
  obtain ⟨i, hi⟩ := List.mem_iff_getElem?.mp hf
  obtain ⟨m, hm, hwf⟩ := hws.at_ hi
  rcases hwf with ⟨_, x, h1, h2⟩ | ⟨h1, _⟩ | ⟨_, h1, _⟩
  · have := le_sum (List.mem_of_getElem? hm)
    exact .inr ⟨x, m, h1, h2, by omega⟩
  · rw [ht] at h1
    cases h1
  · exact .inl h1
section
variable {P : Program} {w : World} {K : PySem.W.Frag} {mg : Str → Option Value} {base : Heap} {σ : L2.St} {G H H' : Hp} {te ta tb tc tl td ty tx : TE} {tt : TT} {tu tw tz : TS} {D : Ends} {f : Fld} {n N : Nat}
abbrev aPl (K : PySem.W.Frag) (N n : Nat) : A5 := fun a b c d e H Q => ∃ (l : Addr) (fs : List Fld) (gr : Bool) (W : Nat) (r : Str) (xs : List V) (q : Addr) (G : Hp), a = .ref l ∧ c = .str r ∧ e = .ref q ∧ Ex G H ∧ G q = none ∧ H q = some (.lst xs) ∧ xs.length + cnt n ≤ 1000000 ∧ r.length + 1000 * n ≤ 79500 ∧ LAt K G n l fs ∧ WD n fs ∧ (if gr = true then GOk G n fs b W else DOk G n fs b W) ∧ W ≤ 2040 ∧
  ((d = .non ∧ gr = false) ∨ ∃ g : Fld, d = g.v ∧ Ob K G g ∧ (gr = true → ∃ c lo hi, g.k = .siz c lo hi true)) ∧
  ∀ H' G' ys, Us q G H G' H' → H' q = some (.lst (xs ++ ys)) → ys.length ≤ cnt n → (∀ y ∈ ys, Pl K N G' y) → Q (.ref q) H'
theorem te_tup5 {te5 : TE} {Q : VK} (h : ta σ H fun x H1 => tb σ H1 fun y H2 => tc σ H2 fun z H3 => td σ H3 fun v H4 => te5 σ H4 fun w H5 => ([x, y, z, v, w] : List V).length ≤ sizeLine ∧ ∀ p, H5 p = none → Q (.ref p) (upd H5 p (.tup [x, y, z, v, w]))) : tTup (tCons ta (tCons tb (tCons tc (tCons td (tCons te5 tNil))))) σ H Q := h
theorem eu_tup5 {te5 : TE} {x y z v u : V} (ha : Ev ta σ H x) (hb : Ev tb σ H y) (hc : Ev tc σ H z) (hd : Ev td σ H v) (he : Ev te5 σ H u) : EvU (tTup (tCons ta (tCons tb (tCons tc (tCons td (tCons te5 tNil)))))) σ H [x, y, z, v, u] :=
  eu_tup (ea_cons ha (ea_cons hb (ea_cons hc (ea_cons hd (ea_cons he ea_nil))))) (by simp)
/-- the call: what is added to the list at q -/
theorem tdrop_PL {te5 : TE} {l : Addr} {fs : List Fld} {gr : Bool} {u dv : V} {W : Nat} {r : Str} {xs : List V} {q : Addr} (ha : Ev ta σ H (.ref l)) (hb : Ev tb σ H u) (hc : Ev tc σ H (.str r)) (hd : Ev td σ H dv) (he : Ev te5 σ H (.ref q)) (hG : Ex G H) (hq : G q = none) (hH : H q = some (.lst xs)) (hz : xs.length + cnt n ≤ 1000000) (hr : r.length + 1000 * n ≤ 79500)
    (hL : LAt K G n l fs) (hW : WD n fs) (hv : if gr = true then GOk G n fs u W else DOk G n fs u W) (hWz : W ≤ 2040) (hdv : (dv = .non ∧ gr = false) ∨ ∃ g : Fld, dv = g.v ∧ Ob K G g ∧ (gr = true → ∃ c lo hi, g.k = .siz c lo hi true))
    (k : ∀ H' G' ys, Us q G H G' H' → H' q = some (.lst (xs ++ ys)) → ys.length ≤ cnt n → (∀ y ∈ ys, Pl K N G' y) → D.nx σ H') : tDrop (tFn (Sp5 (aPl K N n)) (tCons ta (tCons tb (tCons tc (tCons td (tCons te5 tNil)))))) D σ H :=
  show tCons ta (tCons tb (tCons tc (tCons td (tCons te5 tNil)))) σ H (fun vs H1 => Sp5 (aPl K N n) vs H1 (fun _ H2 => D.nx σ H2) E0) from (ea_cons ha (ea_cons hb (ea_cons hc (ea_cons hd (ea_cons he ea_nil))))) H (Ex.refl _) _ fun H1 e1 => ⟨_, _, _, _, _, rfl, l, fs, gr, W, r, xs, q, G, rfl, rfl, rfl, hG.trans e1, hq, e1 _ _ hH, hz, hr, hL, hW, hv, hWz, hdv, fun H' G' ys us h1 h2 h3 => k H' G' ys (us.pre e1) h1 h2 h3⟩
theorem q_appUM {l : Addr} {xs ys : List V} (hl : H l = some (.lst xs)) (ha : Ev ta σ H (.ref l)) (h : EvU te σ H ys) (hz : xs.length < 16000000) (k : ∀ p H1, H p = none → Ex H H1 → H1 p = some (.tup ys) → tz D σ (upd H1 l (.lst (xs ++ [.ref p])))) :
    tSeq (tDrop (tBM K "list" rAppend ta (tCons te tNil))) tz D σ H := ha H (Ex.refl H) _ fun H1 e1 =>
  ⟨Or.inl ⟨rfl, xs, sq_of (e1 l _ hl)⟩, h H1 e1 _ fun p H2 hp e2 h2 => ⟨l, xs, .ref p, rfl, rfl, e2 l _ (e1 l _ hl), szM hz, k p H2 (fresh_back e1 hp) (e1.trans e2) h2⟩⟩
theorem ev_addS {r s : Str} (ha : Ev ta σ H (.str r)) (hb : Ev tb σ H (.str s)) (hz : r.length + s.length ≤ 1000000) : Ev (tOp (fun x y H Q => ∃ i j, x = .str i ∧ y = .str j ∧ i.length + j.length ≤ sizeLine ∧ Q (.str (i ++ j)) H) ta tb) σ H (.str (r ++ s)) :=
  ev_op ha hb (rv_val fun H1 _ Q q => ⟨_, _, rfl, rfl, Nat.le_of_lt (szM (by omega)), q⟩)
theorem ok_law_places (T : Tx K mg) (hnN : n ≤ N) (G__law_places : Pr P w K mg base (5 * n + 3) "_law_places" (Sp5 (aPl K N n))) : Pr P w K mg base (5 * (n + 1) + 3) "_law_places" (Sp5 (aPl K N (n + 1))) := by
  have G__law_told := ok_law_told (P := P) (w := w) (base := base) T
  have G_kind := pr_kind (P := P) (w := w) (base := base) T
  refine pr5 (k := 5 * n + 7) T.d__law_places T.g__law_places sc__law_places (fun _ _ _ _ _ _ us hl => match us, hl with | [_, _, _, _, _], _ => rfl) fun a b c d e H Q h cdv A outer s E hr hu => ?_
  obtain ⟨l, fs, gr, W, r, xs, q, G, rfl, rfl, rfl, hG, hGq, hHq, hz, hrd, hL, hW, hv, hWz, hdv, k⟩ := h
  have hv0 := hv
  obtain ⟨p, kvs, rfl, hp, hval⟩ := told_val hW hv
  have hcnt : cnt (n + 1) = 1 + 26 * (1 + 4 * cnt n) := rfl
  have htl := told_len hW.sz
  refine ⟨_, (pss_cons (ps_set (i := 5) sc__law_places.nd rfl (.inl rfl) (pe_op op_add_str (pv 2) (pe_op op_mul_s01 pe_str (pe_callTy call_int1 (by rfl) T.b_int (by decide +kernel) (pa_cons (pe_cmpR op_ne (pv 2) pe_str (by rfl)) pa_nil)))))
      (pss_cons (ps_expr (pe_appK (K := K) rfl (pv 4) (pa_cons (pe_tup (pa_cons (pv 0) (pa_cons (pv 3) (pa_cons (pv 1) (pa_cons (pv 2) (pa_cons pe_non pa_nil)))))) pa_nil)))
      (pss_cons (ps_for PassesOwn.never rfl (piLK (K := K) rfl (pe_fn G__law_told (hr.mono (by omega)) (by rfl) (pa_cons (pv 0) pa_nil))) (pg_name (i := 6) sc__law_places.nd rfl (.inl rfl)) (pss_one (ps_if (pt_cmp (pc_din hu (fldK (K := K) rfl (pv 6) rfl) (pv 1))) (pss_cons (ps_set (i := 7) sc__law_places.nd rfl (.inl rfl) (pe_op op_add_str (pv 5) (fldK (K := K) rfl (pv 6) rfl)))
      (pss_cons (ps_expr (pe_appK (K := K) rfl (pv 4) (pa_cons (pe_tup (pa_cons (pv 0) (pa_cons (pv 6) (pa_cons (pv 1) (pa_cons (pv 7) (pa_cons (fldK (K := K) rfl (pv 6) rfl) pa_nil)))))) pa_nil)))
      (pss_cons (ps_set (i := 8) sc__law_places.nd rfl (.inr rfl) (pe_dget hu (pv 1) (fldK (K := K) rfl (pv 6) rfl) (fun _ _ => rfl)))
      (pss_cons (ps_if (pt_cmpR op_eq (pe_mU G_kind (hr.mono (by omega)) (pv 6)) pe_str (by rfl)) (pss_one (ps_for PassesOwn.never rfl (pi_range1 (by rfl) T.b_range (pa_cons (pe_callB (lenK (K := K) rfl) (by rfl) T.b_len (by decide +kernel) (pa_cons (pv 8) pa_nil)) pa_nil)) (pg_name (i := 9) sc__law_places.nd rfl (.inl rfl)) (pss_one (ps_expr (pe_fn G__law_places (hr.mono (by omega)) (by rfl) (pa_cons (fldK (K := K) rfl (pv 6) rfl) (pa_cons (pe_ix (ixLK (K := K) rfl) (pv 8) (pv 9) (fun _ _ => rfl)) (pa_cons (pe_op op_add_str (pe_op op_add_str (pv 7) pe_str) (pe_callTy call_str_int (by rfl) T.b_str (by decide +kernel) (pa_cons (pv 9) pa_nil))) (pa_cons (pv 6) (pa_cons (pv 4) pa_nil)))))))))) pss_nil)
      (pss_cons (ps_if (pt_cmpR op_eq (pe_mU G_kind (hr.mono (by omega)) (pv 6)) pe_str (by rfl)) (pss_cons (ps_set (i := 10) sc__law_places.nd rfl (.inl rfl) (pe_ix (ixLK (K := K) rfl) (pe_lc (own := [("_law_case", 11)]) rfl sc__law_places.nd (piLK (K := K) rfl (fldK (K := K) rfl (pv 6) rfl)) (blkOk_by (N := ["_law_fields", "_law_value_here", "_law_road", "_law_field", "_law_found", "_law_ahead_of", "_law_one", "_law_name_here", "_law_held", "_law_k", "_law_inner", "_law_case"]) (sc := defScope s__law_places) (by decide +kernel)) (fun _ _ _ _ _ => (pg_name (i := 11) sc__law_places.nd rfl (Or.inl rfl))) (fun _ _ _ _ _ => (pts_one (pt_cmpR op_eq (pe_ix (ixTK (K := K) rfl) (pv 11) pe_int (fun _ _ => rfl)) (pe_ix (ixTK (K := K) rfl) (pv 8) pe_int (fun _ _ => rfl)) (by rfl)))) (fun _ _ _ _ _ => (pe_ix (ixTK (K := K) rfl) (pv 11) pe_int (fun _ _ => rfl)))) pe_int (fun _ _ => rfl)))
      (pss_one (ps_expr (pe_fn G__law_places (hr.mono (by omega)) (by rfl) (pa_cons (pv 10) (pa_cons (pe_ix (ixTK (K := K) rfl) (pv 8) pe_int (fun _ _ => rfl)) (pa_cons (pv 7) (pa_cons (pv 6) (pa_cons (pv 4) pa_nil))))))))) pss_nil)
      (pss_one (ps_if (PW.pt (pw_and (pt_cmpR (op_inK (K := K) rfl) (pe_mU G_kind (hr.mono (by omega)) (pv 6)) (pe_tup (pa_cons pe_str (pa_cons pe_str (pa_cons pe_str pa_nil)))) (by rfl)) (pw_and1 (pt_cmpR op_notN (pv 8) pe_non (by rfl))))) (pss_one (ps_expr (pe_fn G__law_places (hr.mono (by omega)) (by rfl) (pa_cons (fldK (K := K) rfl (pv 6) rfl) (pa_cons (pv 8) (pa_cons (pv 7) (pa_cons (pv 6) (pa_cons (pv 4) pa_nil)))))))) pss_nil))))))) pss_nil)))
      (pss_one (ps_ret (pv 4)))))), ?_⟩
  obtain ⟨ah, hah, hahl⟩ : ∃ ah : Str, ah = r ++ (if (!decide (V.str r = V.str "")) = true then ("/" : Str) else Str.empty) ∧ ah.length ≤ r.length + 1 := by
    refine ⟨_, rfl, ?_⟩
    rw [PySem.Str.length_append]
    split
    · exact Nat.le_refl _
    · exact Nat.le_succ _
  refine q_asg (v := .str ah) (ev_is (ev_addS (ev_var rfl) (ev_op (z := .str (if (!decide (V.str r = V.str "")) = true then ("/" : Str) else Str.empty)) ev_c (ev_int1b (ev_op (ev_var rfl) ev_c (rv_ne rfl))) (rv_val fun H1 _ Q q => ⟨_, _, rfl, rfl, q⟩)) ?_) (by rw [hah])) fun H1 e1 => ?_
  · have : (if (!decide (V.str r = V.str "")) = true then ("/" : Str) else Str.empty).length ≤ 1 := by
      split
      · exact Nat.le_refl _
      · exact Nat.zero_le _
    omega
  have hG1 := hG.trans e1
  refine q_appUM (xs := xs) (e1 _ _ hHq) (ev_var rfl) (eu_tup5 (ev_var rfl) (ev_var rfl) (ev_var rfl) (ev_var rfl) ev_c) (by omega) fun t H2 ht e2 h2 => ?_
  have hHt : H t = none := fresh_back e1 ht
  have htq : t ≠ q := fun z => by rw [z, e1 _ _ hHq] at ht; cases ht
  have hGt : G t = none := fresh_back hG hHt
  have us0 : Us q G H (upd G t (.tup [.ref l, d, .ref p, .str r, .non])) (upd H2 q (.lst (xs ++ [.ref t]))) := (((Us.refl (q := q) hG).ext (e1.trans e2)).mutq hGq).add htq hHt (by rw [upd_ne htq]; exact h2) hGt
  have pl0 : Pl K N (upd G t (.tup [.ref l, d, .ref p, .str r, .non])) (.ref t) := by
    refine ⟨t, l, d, .ref p, r, .non, rfl, upd_same, .inr ⟨rfl, ?_⟩⟩
    have hstd : gr = false → Std K N (upd G t (.tup [.ref l, d, .ref p, .str r, .non])) l (.ref p) := fun z => by
      subst z
      exact ⟨n, fs, W, hnN, hL.mono (Ex.new hGt), hW, (DG.mono (Ex.new hGt)).1 _ _ _ hv, hWz⟩
    rcases hdv with ⟨rfl, z⟩ | ⟨g, rfl, hg, z⟩
    · exact .inl ⟨rfl, hstd z⟩
    · refine .inr ⟨g, rfl, hg.mono (Ex.new hGt), ?_⟩
      cases hgr : gr with
      | true => exact .inl (z hgr)
      | false => exact .inr (hstd hgr)
  have hG2q : (upd G t (.tup [.ref l, d, .ref p, .str r, .non])) q = none := by rw [upd_ne htq.symm]; exact hGq
  have hLt : LAt K (upd H2 q (.lst (xs ++ [.ref t]))) (n + 1) l fs := hL.mono (us0.ex.trans us0.sub)
  refine q_forNLn (el_told (H := upd H2 q (.lst (xs ++ [.ref t]))) (ev_var rfl) hLt.seq hLt.ob hW.tc (by have := hW.sz; omega)) (fun pt i σ' H' => ∃ z1 z2 z3 z4 z5 G' ys, σ' = [some (.ref l), some (.ref p), some (.str r), some d, some (.ref q), some (.str ah), z1, z2, z3, z4, z5, none] ∧ Us q G H G' H' ∧ H' pt = some (.lst (toldV fs)) ∧ pt ≠ q ∧ H' q = some (.lst (xs ++ ys)) ∧ ys.length ≤ 1 + i * (1 + 4 * cnt n) ∧ ∀ y ∈ ys, Pl K N G' y)
    (fun pt H3 hpt e3 h3 => ⟨none, none, none, none, none, _, [.ref t], rfl, us0.ext e3, h3, (fun z => by rw [z, upd_same] at hpt; cases hpt), e3 _ _ upd_same, by simp, fun y hy => by rw [List.mem_singleton.mp hy]; exact pl0⟩) (fun pt i σ' H' _ c => by obtain ⟨_, _, _, _, _, _, _, _, _, h, _⟩ := c; exact sq_of h) ?_ ?_
  · rintro pt i x σ' H' hx ⟨z1, z2, z3, z4, z5, G', ys, rfl, us, hpt, hptq, hys, hyl, hpl⟩
    obtain ⟨f, hf, hm, rfl⟩ := map_get hx
    obtain ⟨hfs, hft⟩ := List.mem_filter.mp hm
    have hfG := (hL.2 f hfs).mono us.ex
    have hob : Ob K H' f := Ob.mono us.sub hfG.ob
    have hi : i < 26 := by have := (List.getElem?_eq_some_iff.mp hf).1; omega
    have hG'q : G' q = none := us.no hHq hGq
    have hmul : (i + 1) * (1 + 4 * cnt n) = i * (1 + 4 * cnt n) + (1 + 4 * cnt n) := Nat.succ_mul ..
    have hib : i * (1 + 4 * cnt n) ≤ 25 * (1 + 4 * cnt n) := Nat.mul_le_mul_right _ (by omega)
    have hpH : H' p = some (.dK kvs) := (us.ex.trans us.sub) _ _ hp
    have hin : Ev (tDIn (tFld K (tVar 6) "name") (tVar 1)) [some (.ref l), some (.ref p), some (.str r), some d, some (.ref q), some (.str ah), some f.v, z2, z3, z4, z5, none] H' (.bl (valV kvs (kn f.nm)).isSome) := ev_din (k := kn f.nm) (ev_name T (ev_var rfl) hob) (ev_var rfl) (.of hpH)
    rcases hval f hfs hft with h7 | ⟨u, m, h7, h8, h9⟩
    · refine s_if (b := false) (et_test (ev_is hin (by rw [h7]; rfl))) (fun z => nomatch z) fun _ H3 e3 => ?_
      exact ⟨_, _, _, _, _, G', ys, rfl, us.ext e3, e3 _ _ hpt, hptq, e3 _ _ hys, by omega, hpl⟩
    · have hnl := hW.nl f hfs
      refine s_if (b := true) (et_test (ev_is hin (by rw [h7]; rfl))) (fun _ H3 e3 => ?_) fun z => nomatch z
      have us3 := us.ext e3
      have hob3 : Ob K H3 f := hob.mono e3
      refine q_asg (v := .str (ah ++ f.nm)) (ev_addS (ev_var rfl) (ev_name T (ev_var rfl) hob3) (by omega)) fun H4 e4 => ?_
      have hob4 : Ob K H4 f := hob3.mono e4
      refine q_appUM (xs := xs ++ ys) (e4 _ _ (e3 _ _ hys)) (ev_var rfl) (eu_tup5 (ev_var rfl) (ev_var rfl) (ev_var rfl) (ev_var rfl) (ev_name T (ev_var rfl) hob4)) (by rw [List.length_append]; omega) fun t2 H5 ht2 e5 h5 => ?_
      have ht2' : H' t2 = none := fresh_back (e3.trans e4) ht2
      have ht2q : t2 ≠ q := fun z => by rw [z, e4 _ _ (e3 _ _ hys)] at ht2; cases ht2
      have hG't : G' t2 = none := fresh_back us.sub ht2'
      have us5 : Us q G' H' (upd G' t2 (.tup [.ref l, f.v, .ref p, .str (ah ++ f.nm), .str f.nm])) (upd H5 q (.lst ((xs ++ ys) ++ [.ref t2]))) := (((Us.refl (q := q) us.sub).ext ((e3.trans e4).trans e5)).mutq hG'q).add ht2q ht2' (by rw [upd_ne ht2q]; exact h5) hG't
      have pl5 : Pl K N (upd G' t2 (.tup [.ref l, f.v, .ref p, .str (ah ++ f.nm), .str f.nm])) (.ref t2) := ⟨t2, l, f.v, .ref p, ah ++ f.nm, .str f.nm, rfl, upd_same, .inl ⟨_, rfl⟩⟩
      obtain ⟨G5, hG5⟩ : ∃ G5, G5 = upd G' t2 (.tup [.ref l, f.v, .ref p, .str (ah ++ f.nm), .str f.nm]) := ⟨_, rfl⟩
      rw [← hG5] at us5 pl5
      obtain ⟨H6, hH6⟩ : ∃ H6, H6 = upd H5 q (.lst ((xs ++ ys) ++ [.ref t2])) := ⟨_, rfl⟩
      have hq6 : H6 q = some (.lst (xs ++ (ys ++ [.ref t2]))) := by rw [hH6, upd_same, List.append_assoc]
      rw [← hH6] at us5 ⊢
      have usA := us.trans us5
      have hpt6 : H6 pt = some (.lst (toldV fs)) := us5.eh _ _ hptq hpt
      have hf6 := (hL.2 f hfs).mono usA.ex
      have hob6 : Ob K H6 f := Ob.mono usA.sub hf6.ob
      have hG6q : G5 q = none := usA.no hHq hGq
      have hF6 : FOk G5 n f u m := h8.mono usA.ex
      have hp6 : H6 p = some (.dK kvs) := (usA.ex.trans usA.sub) _ _ hp
      have hpl6 : ∀ y ∈ ys ++ [V.ref t2], Pl K N G5 y := fun y hy => by
        rcases List.mem_append.mp hy with hy | hy
        · exact (hpl y hy).mono us5.ex
        · rw [List.mem_singleton.mp hy]
          exact pl5
      have hl6 : (ys ++ [V.ref t2]).length ≤ 1 + i * (1 + 4 * cnt n) + 1 := by rw [List.length_append]; show _ + 1 ≤ _; omega
      obtain ⟨wd, hwd0⟩ : ∃ wd, wd = f.k.word := ⟨_, rfl⟩
      refine q_asg (v := u) (ev_dget (k := kn f.nm) (ev_var rfl) (ev_name T (ev_var rfl) hob6) (.of hp6) h7) fun H7 e7 => ?_
      have usB := usA.ext e7
      have hFW := hW.fw f hfs
      have hFW0 := hFW
      unfold FW FWB at hFW
      unfold FOk FOkB at hF6
      -- what is left after the places within: the invariant again
      have done : ∀ (H8 G8 : Hp) (zs : List V) (y4 y5 : Option V), Us q G5 H7 G8 H8 → H8 q = some (.lst ((xs ++ (ys ++ [.ref t2])) ++ zs)) → zs.length ≤ 4 * cnt n → (∀ y ∈ zs, Pl K N G8 y) →
          ∃ z1 z2 z3 z4 z5 G' ys, [some (.ref l), some (.ref p), some (.str r), some d, some (.ref q), some (.str ah), some f.v, some (.str (ah ++ f.nm)), some u, y4, y5, none] = [some (.ref l), some (.ref p), some (.str r), some d, some (.ref q), some (.str ah), z1, z2, z3, z4, z5, none] ∧ Us q G H G' H8 ∧ H8 pt = some (.lst (toldV fs)) ∧ pt ≠ q ∧ H8 q = some (.lst (xs ++ ys)) ∧ ys.length ≤ 1 + (i + 1) * (1 + 4 * cnt n) ∧ ∀ y ∈ ys, Pl K N G' y := fun H8 G8 zs y4 y5 u8 q8 l8 p8 =>
        ⟨_, _, _, _, _, G8, (ys ++ [.ref t2]) ++ zs, rfl, usB.trans u8, u8.eh _ _ hptq (e7 _ _ hpt6), hptq, by rw [← List.append_assoc xs]; exact q8, by rw [List.length_append]; omega, fun y hy => by
          rcases List.mem_append.mp hy with hy | hy
          · exact (hpl6 y hy).mono u8.ex
          · exact p8 y hy⟩
      have hn6 : (ah ++ f.nm).length ≤ r.length + 101 := by rw [PySem.Str.length_append]; omega
      have kw : ∀ (s : Str) (y4 y5 : Option V) {H8 : Hp}, f.k.word = s → Ob K H8 f → Ev (tMU (spKind K) (tVar 6)) [some (.ref l), some (.ref p), some (.str r), some d, some (.ref q), some (.str ah), some f.v, some (.str (ah ++ f.nm)), some u, y4, y5, none] H8 (.str s) := fun s y4 y5 H8 hs ho => ev_kindW (ev_var rfl) ho hs
      have hob7 : Ob K H7 f := hob6.mono e7
      have sub7 : Ex G5 H7 := usB.sub
      have done0 := fun (H8 : Hp) (e8 : Ex H7 H8) (y4 y5 : Option V) => done H8 G5 [] y4 y5 ((Us.refl sub7).ext e8) (by rw [List.append_nil]; exact e8 _ _ (e7 _ _ hq6)) (Nat.zero_le _) (fun _ h => absurd h List.not_mem_nil)
      have fin : ∀ (s : Str) (y4 y5 : Option V) {H8 : Hp} {D : Ends} {t3 : TS} {t4 : TT}, f.k.word = s → inV (.str s) [.str "maybe", .str "group", .str "sized"] = false → Ob K H8 f → (∀ H9, Ex H8 H9 → D.nx [some (.ref l), some (.ref p), some (.str r), some d, some (.ref q), some (.str ah), some f.v, some (.str (ah ++ f.nm)), some u, y4, y5, none] H9) →
          tIfS (tAnd (tTest (tOp (rIn K false) (tMU (spKind K) (tVar 6)) (tTup (tCons (tC (.str "maybe")) (tCons (tC (.str "group")) (tCons (tC (.str "sized")) tNil)))))) t4) t3 tNext D [some (.ref l), some (.ref p), some (.str r), some d, some (.ref q), some (.str ah), some f.v, some (.str (ah ++ f.nm)), some u, y4, y5, none] H8 := fun s y4 y5 {H8 D t3 t4} hs hin ho kk =>
        s_when (b := false) (et_is (et_and (a := false) (b := false) (et_in (kw s y4 y5 hs ho) (ea_cons ev_c (ea_cons ev_c (ea_cons ev_c ea_nil))) (by decide) rfl rfl hin) fun z => nomatch z) rfl) (fun z => nomatch z) fun _ H9 e9 => kk H9 e9
      have leaf : ∀ (s : Str), f.k.word = s → s ≠ "row" → s ≠ "choice" → inV (.str s) [.str "maybe", .str "group", .str "sized"] = false → ∀ {D : Ends} {t1 t2 t3 : TS} {t4 : TT}, (∀ H9, Ex H7 H9 → D.nx [some (.ref l), some (.ref p), some (.str r), some d, some (.ref q), some (.str ah), some f.v, some (.str (ah ++ f.nm)), some u, z4, z5, none] H9) →
          tSeq (tIfS (tTest (tOp rEq (tMU (spKind K) (tVar 6)) (tC (.str "row")))) t1 tNext) (tSeq (tIfS (tTest (tOp rEq (tMU (spKind K) (tVar 6)) (tC (.str "choice")))) t2 tNext) (tIfS (tAnd (tTest (tOp (rIn K false) (tMU (spKind K) (tVar 6)) (tTup (tCons (tC (.str "maybe")) (tCons (tC (.str "group")) (tCons (tC (.str "sized")) tNil)))))) t4) t3 tNext)) D [some (.ref l), some (.ref p), some (.str r), some d, some (.ref q), some (.str ah), some f.v, some (.str (ah ++ f.nm)), some u, z4, z5, none] H7 := fun s hs h1 h2 h3 {D t1 t2 t3 t4} kk =>
        (sv_skip (H := H7) (kw s _ _ hs hob7) h1 fun H8 e8 => (sv_skip (H := H8) (kw s _ _ hs (hob7.mono e8)) h2 fun H9 e9 => fin s _ _ hs h3 (hob7.mono (e8.trans e9)) fun H10 e10 => kk H10 ((e8.trans e9).trans e10)).here).here
      have inner : ∀ (s : Str) (gr : Bool) (W : Nat), f.k.word = s → s ≠ "row" → s ≠ "choice" → inV (.str s) [.str "maybe", .str "group", .str "sized"] = true → u ≠ .non → f.k.one = true → WD n f.fs → (if gr = true then GOk G5 n f.fs u W else DOk G5 n f.fs u W) → W ≤ 2040 → (gr = true → ∃ c lo hi, f.k = .siz c lo hi true) → ∀ {D : Ends} {x1 x2 : TS}, (∀ H8 G8 zs, Us q G5 H7 G8 H8 → H8 q = some (.lst ((xs ++ (ys ++ [.ref t2])) ++ zs)) → zs.length ≤ cnt n → (∀ y ∈ zs, Pl K N G8 y) → D.nx [some (.ref l), some (.ref p), some (.str r), some d, some (.ref q), some (.str ah), some f.v, some (.str (ah ++ f.nm)), some u, z4, z5, none] H8) →
          tSeq (tIfS (tTest (tOp rEq (tMU (spKind K) (tVar 6)) (tC (.str "row")))) x1 tNext) (tSeq (tIfS (tTest (tOp rEq (tMU (spKind K) (tVar 6)) (tC (.str "choice")))) x2 tNext) (tIfS (tAnd (tTest (tOp (rIn K false) (tMU (spKind K) (tVar 6)) (tTup (tCons (tC (.str "maybe")) (tCons (tC (.str "group")) (tCons (tC (.str "sized")) tNil)))))) (tTest (tOp (fun x y H Q => y = .non ∧ Q (.bl (!decide (x = .non))) H) (tVar 8) (tC .non)))) (tDrop (tFn (Sp5 (aPl K N n)) (tCons (tFld K (tVar 6) "fields") (tCons (tVar 8) (tCons (tVar 7) (tCons (tVar 6) (tCons (tVar 4) tNil))))))) tNext)) D [some (.ref l), some (.ref p), some (.str r), some d, some (.ref q), some (.str ah), some f.v, some (.str (ah ++ f.nm)), some u, z4, z5, none] H7 := fun s gr W hs h1 h2 h3 hne hone hWD hvv hWW2 hgr {D x1 x2} kk =>
        (sv_skip (H := H7) (kw s _ _ hs hob7) h1 fun H8 e8 => (sv_skip (H := H8) (kw s _ _ hs (hob7.mono e8)) h2 fun H9 e9 => by
          have e79 := e8.trans e9
          refine s_when (b := true) (et_is (et_and (a := true) (b := true) (et_in (kw s _ _ hs (hob7.mono e79)) (ea_cons ev_c (ea_cons ev_c (ea_cons ev_c ea_nil))) (by decide) rfl rfl h3) fun _ => et_test (ev_is (ev_notn (ev_var rfl)) (by rw [decide_eq_false hne]; rfl))) rfl) (fun _ H10 e10 => ?_) fun z => nomatch z
          have e710 := e79.trans e10
          exact tdrop_PL (gr := gr) (W := W) (r := ah ++ f.nm) (xs := xs ++ (ys ++ [.ref t2])) (G := G5) (dv := f.v) (ev_fields T (ev_var rfl) (hob7.mono e710) hone) (ev_var rfl) (ev_var rfl) (ev_var rfl) (ev_var rfl) (sub7.trans e710) hG6q (e710 _ _ (e7 _ _ hq6)) (by rw [List.length_append]; omega) (by omega) (hf6.one hone) hWD hvv hWW2 (.inr ⟨f, rfl, hf6.ob, hgr⟩) fun H8 G8 zs u8 q8 l8 p8 => kk H8 G8 zs (u8.pre e710) q8 l8 p8).here).here
      cases hk : f.k with
      | num => exact leaf "number" (by rw [hk]; rfl) (by decide +kernel) (by decide +kernel) rfl fun H9 e9 => done0 H9 e9 _ _
      | sev => exact leaf "seven" (by rw [hk]; rfl) (by decide +kernel) (by decide +kernel) rfl fun H9 e9 => done0 H9 e9 _ _
      | txt => exact leaf "text" (by rw [hk]; rfl) (by decide +kernel) (by decide +kernel) rfl fun H9 e9 => done0 H9 e9 _ _
      | chk => rw [hk] at hF6; exact hF6.elim
      | spt => rw [hk] at hF6; exact hF6.elim
      | grp =>
        rw [hk] at hF6 hFW
        exact inner "group" false m (by rw [hk]; rfl) (by decide +kernel) (by decide +kernel) rfl (DOk.ne_non hF6) (by rw [hk]; rfl) hFW hF6 (by omega) (fun z => nomatch z) fun H8 G8 zs u8 q8 l8 p8 => done H8 G8 zs _ _ u8 q8 (by omega) p8
      | may cn lo hi =>
        rw [hk] at hF6 hFW
        rcases hF6 with ⟨rfl, _, _, rfl⟩ | ⟨_, _, hd⟩
        · refine (sv_skip (H := H7) (kw "maybe" _ _ (by rw [hk]; rfl) hob7) (by decide +kernel) fun H8 e8 => (sv_skip (H := H8) (kw "maybe" _ _ (by rw [hk]; rfl) (hob7.mono e8)) (by decide +kernel) fun H9 e9 => ?_).here).here
          exact s_when (b := false) (et_is (et_and (b := false) (et_in (kw "maybe" _ _ (by rw [hk]; rfl) (hob7.mono (e8.trans e9))) (ea_cons ev_c (ea_cons ev_c (ea_cons ev_c ea_nil))) (by decide) rfl rfl rfl) fun _ => et_test (ev_is (ev_notn (ev_var rfl)) rfl)) rfl) (fun z => nomatch z) fun _ H10 e10 => done0 H10 ((e8.trans e9).trans e10) _ _
        · exact inner "maybe" false m (by rw [hk]; rfl) (by decide +kernel) (by decide +kernel) rfl hd.ne_non (by rw [hk]; rfl) hFW.2.2.2 hd (by omega) (fun z => nomatch z) fun H8 G8 zs u8 q8 l8 p8 => done H8 G8 zs _ _ u8 q8 (by omega) p8
      | siz cn lo hi gr2 =>
        rw [hk] at hF6 hFW
        obtain ⟨_, h2', _, _, hd⟩ := hF6
        have hd3 : if gr2 = true then GOk G5 n f.fs u m else DOk G5 n f.fs u m := hd
        refine inner "sized" gr2 m (by rw [hk]; rfl) (by decide +kernel) (by decide +kernel) rfl ?_ (by rw [hk]; rfl) hFW.2.1 hd3 h2' (fun z => ⟨cn, lo, hi, by rw [hk, z]⟩) fun H8 G8 zs u8 q8 l8 p8 => done H8 G8 zs _ _ u8 q8 (by omega) p8
        intro z
        subst z
        cases n with
        | zero => exact hFW.2.1
        | succ n =>
          cases gr2 with
          | true => obtain ⟨p, _, _, _, e, _⟩ := hd; cases e
          | false => obtain ⟨p, _, e, _⟩ := hd; cases e
      | cho cn lo hi =>
        have hc := hf6.cases hk
        rw [hk] at hF6 hFW
        obtain ⟨p1, dv1, s1, hs1, rfl, hp1, _, _, hd1⟩ := hF6
        refine (sv_skip (H := H7) (kw "choice" _ _ (by rw [hk]; rfl) hob7) (by decide +kernel) fun H8 e8 => (sv_take (H := H8) (kw "choice" _ _ (by rw [hk]; rfl) (hob7.mono e8)) rfl fun H9 e9 => ?_).here).here
        have e79 := e8.trans e9
        have sub9 := sub7.trans e79
        have hv0 : ∀ {H1 : Hp} {y4 y5 y6 : Option V}, Ex G5 H1 → Ev (tOp (rIxT K) (tVar 8) (tC (.int 0))) [some (.ref l), some (.ref p), some (.str r), some d, some (.ref q), some (.str ah), some f.v, some (.str (ah ++ f.nm)), some (.ref p1), y4, y5, y6] H1 (.int s1.2.1) := fun e => ev_op (ev_var rfl) ev_c (rv_ixT (ex_t e (st_of hp1)) (atI_nat (j := 0) rfl))
        have hflt : f.subs.filter (fun s => decide (s.2.1 = s1.2.1)) = [s1] := by
          have nd := hFW.1
          have : ∀ (L : List (Addr × Int × Addr × List Fld)), (L.map fun s => s.2.1).Nodup → s1 ∈ L → L.filter (fun s => decide (s.2.1 = s1.2.1)) = [s1] := by
            intro L
            induction L with
            | nil => intro _ h; cases h
            | cons x rr ih =>
              intro hnd hin
              rw [List.map_cons, List.nodup_cons] at hnd
              rw [List.filter_cons]
              by_cases hx : x.2.1 = s1.2.1
              · have hx1 : s1 = x := by
                  rcases List.mem_cons.mp hin with h | h
                  · exact h
                  · exact absurd (List.mem_map.mpr ⟨s1, h, hx.symm⟩) hnd.1
                rw [if_pos (decide_eq_true hx), ← hx1]
                congr 1
                rw [List.filter_eq_nil_iff]
                intro y hy hye
                exact hnd.1 (List.mem_map.mpr ⟨y, hy, (of_decide_eq_true hye).trans hx.symm⟩)
              · rw [if_neg (by rw [decide_eq_false hx]; decide)]
                rcases List.mem_cons.mp hin with h | h
                · exact absurd (congrArg (fun s : Addr × Int × Addr × List Fld => s.2.1) h).symm hx
                · exact ih hnd.2 h
          exact this f.subs nd hs1
        refine q_asg (v := .ref s1.2.2.1) (ev_opL1 (xs := [.ref s1.2.2.1]) (el_is (el_comp (xs := f.subs) (val := fun s => V.ref s.1) (g := fun s => V.ref s.2.2.1) (p := fun s => decide (s.2.1 = s1.2.1)) (ev_cases T (ev_var rfl) (hob7.mono e79) hk) (ex_l sub9 hc.1) (by have := hFW.2.1; omega) (fun s hs => et_test (ev_is (ev_op (ev_op (ev_var rfl) ev_c (rv_ixT (ex_t sub9 (hc.2 s hs)) (atI_nat (j := 0) rfl))) (hv0 sub9) (rv_eq rfl)) (congrArg V.bl (by rw [decide_eq_decide, V.int.injEq])))) fun s hs _ => ev_op (ev_var rfl) ev_c (rv_ixT (ex_t sub9 (hc.2 s hs)) (atI_nat (j := 1) rfl))) (by rw [hflt]; rfl)) (fun H1 _ => ev_c) fun p8 H8 hp8 _ => rv_ixL (sq_of hp8) (atI_nat (j := 0) rfl)) fun H10 e10 => ?_
        have e710 := e79.trans e10
        refine tdrop_PL (gr := false) (W := m) (r := ah ++ f.nm) (xs := xs ++ (ys ++ [.ref t2])) (G := G5) (dv := f.v) (ev_var rfl) (ev_op (ev_var rfl) ev_c (rv_ixT (ex_t (sub7.trans e710) (st_of hp1)) (atI_nat (j := 1) rfl))) (ev_var rfl) (ev_var rfl) (ev_var rfl) (sub7.trans e710) hG6q (e710 _ _ (e7 _ _ hq6)) (by rw [List.length_append]; omega) (by omega) (hf6.sub s1 hs1) (hFW.2.2.2 s1 hs1).2.2 hd1 (by omega) (.inr ⟨f, rfl, hf6.ob, fun z => nomatch z⟩) fun H8 G8 zs u8 q8 l8 p8 => ?_
        exact fin "choice" _ _ (by rw [hk]; rfl) rfl (Ob.mono u8.sub ((hf6.mono u8.ex).ob)) fun H11 e11 => done H11 G8 zs _ _ ((u8.pre e710).ext e11) (e11 _ _ q8) (by omega) p8
      | row hw mk =>
        have hone : f.k.one = true := by rw [hk]; rfl
        have hrowb : ∀ k, hw.ok 40 k → k ≤ 4 := by
          intro k hkk
          rw [hk] at hFW
          cases hw with
          | fix a => have h1 : k = a := hkk; have h2 : a ≤ 4 := hFW.1; omega
          | by_ cc lo hi => have h1 := hkk.2.2; have h2 := hFW.1; omega
          | end_ a => have h1 : k ≤ a := hkk; have h2 : a ≤ 4 := hFW.1.1; omega
        rw [hk] at hF6 hFW
        obtain ⟨p1, xs1, Ws, rfl, hp1, hok, hz1, hxs, rfl⟩ := hF6
        have h4 := hrowb _ hok
        refine (sv_take (H := H7) (kw "row" _ _ (by rw [hk]; rfl) hob7) rfl fun H8 e8 => ?_).here
        have sub8 := sub7.trans e8
        have hh : ∀ {H1 : Hp} {y4 y5 : Option V}, Ex G5 H1 → Ev (tVar 8) [some (.ref l), some (.ref p), some (.str r), some d, some (.ref q), some (.str ah), some f.v, some (.str (ah ++ f.nm)), some (.ref p1), y4, y5, none] H1 (.ref p1) := fun _ => ev_var rfl
        refine s_forR1 (n := (xs1.length : Int)) (ea_cons (ev_lenV (ev_var rfl) (lenV_lst (sq_of (sub8 _ _ hp1)))) ea_nil) (by omega) (fun j σ' H' => ∃ y4 G8 zs, σ' = [some (.ref l), some (.ref p), some (.str r), some d, some (.ref q), some (.str ah), some f.v, some (.str (ah ++ f.nm)), some (.ref p1), y4, z5, none] ∧ Us q G5 H7 G8 H' ∧ H' q = some (.lst ((xs ++ (ys ++ [.ref t2])) ++ zs)) ∧ zs.length ≤ j * cnt n ∧ ∀ y ∈ zs, Pl K N G8 y) (fun H9 e9 => ⟨_, G5, [], rfl, (Us.refl sub7).ext (e8.trans e9), by rw [List.append_nil]; exact (e8.trans e9) _ _ (e7 _ _ hq6), Nat.zero_le _, fun _ h => absurd h List.not_mem_nil⟩) ?_ ?_
        · rintro j σ' H9 hj ⟨y4, G8, zs, rfl, u9, q9, l9, p9⟩
          have hj4 : j < 4 := by omega
          obtain ⟨x, hx⟩ : ∃ x, xs1[j]? = some x := ⟨_, List.getElem?_eq_getElem (by omega)⟩
          obtain ⟨W, hW2, hxd⟩ := hxs.at_ hx
          have hWs := le_sum (List.mem_of_getElem? hW2)
          have hjc : j * cnt n ≤ 3 * cnt n := Nat.mul_le_mul_right _ (by omega)
          have hsj := str_small (i := j) (by omega)
          have l1 : ("/" : Str).length = 1 := rfl
          have hrl : ((ah ++ f.nm) ++ "/" ++ (toString (j : Int) : Str)).length ≤ r.length + 104 := by rw [PySem.Str.length_append, PySem.Str.length_append]; omega
          refine tdrop_PL (gr := false) (W := W) (r := (ah ++ f.nm) ++ "/" ++ (toString (j : Int) : Str)) (xs := (xs ++ (ys ++ [.ref t2])) ++ zs) (G := G8) (dv := f.v) (ev_fields T (ev_var rfl) (Ob.mono (u9.ex.trans u9.sub) hf6.ob) hone) (ev_op (ev_var rfl) (ev_var rfl) (rv_ixL (sq_of ((u9.ex.trans u9.sub) _ _ hp1)) (atI_nat hx))) (ev_addS (ev_addS (ev_var rfl) ev_c (by omega)) (ev_strI (ev_var rfl) (by omega)) (by rw [PySem.Str.length_append]; omega)) (ev_var rfl) (ev_var rfl) u9.sub (u9.no (e7 _ _ hq6) hG6q) q9 (by rw [List.length_append, List.length_append]; omega) (by omega) ((hf6.mono u9.ex).one hone) hFW.2 ((DG.mono u9.ex).1 _ _ _ hxd) (by omega) (.inr ⟨f, rfl, (hf6.mono u9.ex).ob, fun z => nomatch z⟩) fun H10 G10 ws u10 q10 l10 p10 => ?_
          refine ⟨_, G10, zs ++ ws, rfl, u9.trans u10, by rw [← List.append_assoc]; exact q10, by rw [List.length_append, Nat.succ_mul]; omega, fun y hy => ?_⟩
          rcases List.mem_append.mp hy with hy | hy
          · exact (p9 y hy).mono u10.ex
          · exact p10 y hy
        · rintro σ' H9 ⟨y4, G8, zs, rfl, u9, q9, l9, p9⟩
          have hzl : zs.length ≤ 4 * cnt n := Nat.le_trans l9 (Nat.mul_le_mul_right _ (by omega))
          have ob9 : Ob K H9 f := Ob.mono (u9.ex.trans u9.sub) hf6.ob
          exact (sv_skip (H := H9) (kw "row" _ _ (by rw [hk]; rfl) ob9) (by decide +kernel) fun H10 e10 => fin "row" _ _ (by rw [hk]; rfl) rfl (ob9.mono e10) fun H11 e11 => done H11 G8 zs _ _ (u9.ext (e10.trans e11)) ((e10.trans e11) _ _ q9) hzl p9).here
  · rintro pt σ' H' ⟨z1, z2, z3, z4, z5, G', ys, rfl, us, hpt, hptq, hys, hyl, hpl⟩
    refine s_ret (ev_var rfl) fun H3 e3 => k H3 G' ys (us.ext e3) (e3 _ _ hys) ?_ hpl
    have hlen0 : (toldV fs).length ≤ 26 := by unfold toldV; rw [List.length_map]; exact htl
    have : (toldV fs).length * (1 + 4 * cnt n) ≤ 26 * (1 + 4 * cnt n) := Nat.mul_le_mul_right _ hlen0
    omega
theorem places (T : Tx K mg) (N : Nat) : ∀ n, n ≤ N + 1 → Pr P w K mg base (5 * n + 3) "_law_places" (Sp5 (aPl K N n))
  | 0, _ => pr5 (k := 2) T.d__law_places T.g__law_places sc__law_places (fun _ _ _ _ _ _ us hl => match us, hl with | [_, _, _, _, _], _ => rfl) fun a b c d e H Q h => by
      obtain ⟨l, fs, gr, W, r, xs, q, G, rfl, rfl, rfl, _, _, _, _, _, hL, _⟩ := h
      exact hL.elim
  | n + 1, h => ok_law_places T (by omega) (places T N n (by omega))
end
end Fk

set_option Elab.async false
set_option linter.all false
set_option maxRecDepth 100000
set_option maxHeartbeats 4000000
set_option exponentiation.threshold 3000
namespace Fk
open PySem PySem.Spec PyProof.Rows L2 Evl
/-- a heap in which all of H stands but for what is at x: there the instance holds fs -/
structure CS (H : Hp) (x C dx : Addr) (fs : List (Str × V)) (H' : Hp) : Prop where
  eh : ∀ y o, y ≠ x → H y = some o → H' y = some o
  at_ : H' x = some (.ins C dx fs)
section
variable {P : Program} {w : World} {K : PySem.W.Frag} {mg : Str → Option Value} {base : Heap} {σ : L2.St} {H H' : Hp} {tu tz : TS} {D : Ends} {x C dx : Addr} {fs : List (Str × V)} {v : V} {f : Str} {j : Nat}
abbrev spF (K : PySem.W.Frag) : Sp := Sp2 fun a b H Q => ∃ x C dx, a = .ref x ∧ H x = some (.ins C dx []) ∧ Cls K C ∧ NoAttr K C "name" ∧ Q .non (upd H x (.ins C dx [("name", b)]))
theorem ok_Field_init (T : Tx K mg) : PrC P w K mg base 1 "Field" "__init__" (spF K) := by
  obtain ⟨fd, F⟩ := T.d_Field_init
  have hex := T.ex
  unfold exB at hex
  rw [Bool.and_eq_true, Bool.and_eq_true] at hex
  obtain ⟨h1, h2, h3⟩ := hex
  refine ⟨T.g_Field, He.fAd K ("Field", some "__init__"), fd, ["self", "name"], _, h1, ?_, ?_, F.kp, ?_, F.bindsN (fun _ _ _ _ _ _ us hl => match us, hl with | [_, _], _ => rfl)⟩
  · exact He.eqO_ok h2
  · split at h3
    · rename_i a e
      rw [e]
      have : a = He.fAd K ("Field", some "__init__") := of_decide_eq_true h3
      rw [this]
    · cases h3
  · exact fn_ok2 F sc_Field_init fun a b H Q h cdv A outer s E hr hu => by
      obtain ⟨x, C, dx, rfl, hx, hc, hn, q⟩ := h
      exact ⟨_, (pss_one (ps_fld (pv 0) (pv 1) rfl)), b, rfl, .ref x, rfl, x, C, dx, [], rfl, hx, hc, hn, by decide, q⟩
theorem c_base (h0 : σ[0]? = some (some (.ref x))) (h1 : σ[1]? = some (some v)) (s : CS H x C dx [] H') (hc : Cls K C) (hn : NoAttr K C "name") (k : ∀ H'', CS H x C dx [("name", v)] H'' → tz D σ H'') : tSeq (tDrop (tFn (spF K) (tCons (tVar 0) (tCons (tVar 1) tNil)))) tz D σ H' :=
  ⟨.ref x, h0, v, h1, .ref x, v, rfl, x, C, dx, rfl, s.at_, hc, hn, k _ ⟨fun y o hy h => by rw [upd_ne hy]; exact s.eh y o hy h, upd_same⟩⟩
theorem c_f (h0 : σ[0]? = some (some (.ref x))) (h1 : σ[j]? = some (some v)) (s : CS H x C dx fs H') (hc : Cls K C) (hn : NoAttr K C f) (hl : fs.length < 1000) (k : ∀ H'', (∀ y o, y ≠ x → H' y = some o → H'' y = some o) → CS H x C dx (putF f v fs) H'' → D.nx σ H'') : sFld K (tVar 0) (tVar j) f D σ H' :=
  ⟨v, h1, .ref x, h0, x, C, dx, fs, rfl, s.at_, hc, hn, hl, k _ (fun y o hy h => by rw [upd_ne hy]; exact h) ⟨fun y o hy h => by rw [upd_ne hy]; exact s.eh y o hy h, upd_same⟩⟩
theorem c_fs (h0 : σ[0]? = some (some (.ref x))) (h1 : σ[j]? = some (some v)) (s : CS H x C dx fs H') (hc : Cls K C) (hn : NoAttr K C f) (hl : fs.length < 1000) (k : ∀ H'', (∀ y o, y ≠ x → H' y = some o → H'' y = some o) → CS H x C dx (putF f v fs) H'' → tz D σ H'') : tSeq (sFld K (tVar 0) (tVar j) f) tz D σ H' := c_f (D := { D with nx := tz D }) h0 h1 s hc hn hl k
/-- a copy of a list -/
theorem c_l {p : Addr} {ys : List V} (h0 : σ[0]? = some (some (.ref x))) (h1 : σ[j]? = some (some (.ref p))) (hp : H p = some (.lst ys)) (hpx : p ≠ x) (s : CS H x C dx fs H') (hc : Cls K C) (hn : NoAttr K C f) (hl : fs.length < 1000) (k : ∀ l H'', H l = none → l ≠ x → H'' l = some (.lst ys) → CS H x C dx (putF f (.ref l) fs) H'' → D.nx σ H'') : sFld K (tVar 0) (tCB (rLstOf K) (tCons (tVar j) tNil)) f D σ H' :=
  ⟨.ref p, h1, p, ys, rfl, .inl (sq_of (s.eh _ _ hpx hp)), fun l hll => by
    have hlx : l ≠ x := fun z => by rw [z, s.at_] at hll; cases hll
    have hHl : H l = none := by
      cases e : H l with
      | none => rfl
      | some o => rw [s.eh _ _ hlx e] at hll; cases hll
    have hx2 : (upd H' l (.lst ys)) x = some (.ins C dx fs) := by rw [upd_ne hlx.symm]; exact s.at_
    refine ⟨.ref x, h0, x, C, dx, fs, rfl, hx2, hc, hn, hl, k l _ hHl hlx (by rw [upd_ne hlx, upd_same]) ⟨fun y o hy h => ?_, upd_same⟩⟩
    rw [upd_ne hy, upd_ne (ne_of_none (s.eh y o hy h) hll)]
    exact s.eh y o hy h⟩
theorem c_ls {p : Addr} {ys : List V} (h0 : σ[0]? = some (some (.ref x))) (h1 : σ[j]? = some (some (.ref p))) (hp : H p = some (.lst ys)) (hpx : p ≠ x) (s : CS H x C dx fs H') (hc : Cls K C) (hn : NoAttr K C f) (hl : fs.length < 1000) (k : ∀ l H'', H l = none → l ≠ x → H'' l = some (.lst ys) → CS H x C dx (putF f (.ref l) fs) H'' → tz D σ H'') : tSeq (sFld K (tVar 0) (tCB (rLstOf K) (tCons (tVar j) tNil)) f) tz D σ H' := c_l (D := { D with nx := tz D }) h0 h1 hp hpx s hc hn hl k
/-- an __init__ that stores its arguments -/
def spI (K : PySem.W.Frag) (C : Str) (ats : List Str) : Sp := fun vs H Q _ => ∃ x dx as, vs = .ref x :: as ∧ as.length = ats.length ∧ H x = some (.ins (He.ga K C) dx []) ∧ ∀ H', CS H x (He.ga K C) dx (ats.zip as) H' → Q .non H'
/-- .. all, but that the j-th is a list that is copied -/
def spIL (K : PySem.W.Frag) (C : Str) (ats : List Str) (j : Nat) : Sp := fun vs H Q _ => ∃ x dx as p ys, vs = .ref x :: as ∧ as.length = ats.length ∧ H x = some (.ins (He.ga K C) dx []) ∧ as[j]? = some (.ref p) ∧ p ≠ x ∧ H p = some (.lst ys) ∧ ∀ l H', H l = none → l ≠ x → H' l = some (.lst ys) → CS H x (He.ga K C) dx (ats.zip (as.set j (.ref l))) H' → Q .non H'
/-- a new instance that holds the arguments and the defaults -/
def spN (K : PySem.W.Frag) (C : Str) (ats : List Str) (n : Nat) (dvs : List V) : Sp := fun vs H Q _ => vs.length = n ∧ ∀ x H' dx, H x = none → Ex H H' → H' x = some (.ins (He.ga K C) dx (ats.zip (vs ++ dvs))) → Q (.ref x) H'
def spNL (K : PySem.W.Frag) (C : Str) (ats : List Str) (n : Nat) (dvs : List V) (j : Nat) : Sp := fun vs H Q _ => vs.length = n ∧ ∃ p ys, vs[j]? = some (.ref p) ∧ H p = some (.lst ys) ∧ ∀ x H' dx l, H x = none → H l = none → l ≠ x → Ex H H' → H' l = some (.lst ys) → H' x = some (.ins (He.ga K C) dx (ats.zip ((vs ++ dvs).set j (.ref l)))) → Q (.ref x) H'
theorem ex_new {x dx : Addr} {o : HO} {H2 : Hp} {C : Addr} {fs fs2 : List (Str × V)} (hx : H x = none) (hd : H dx = none) (hdx : dx ≠ x) (s : CS (upd (upd H dx (.own x)) x (.ins C dx fs)) x C dx fs2 H2) : Ex H H2 := fun y u h => by
  have hyx : y ≠ x := ne_of_none h hx
  refine s.eh y u hyx ?_
  rw [upd_ne hyx, upd_ne (ne_of_none h hd)]
  exact h
theorem new_of {k : Nat} {C : Str} {f : Addr} {fd : FuncData} {ps ats : List Str} {n : Nat} {dvs : List V} {ds : List Value} (hm : mg C = some (.ref (He.ga K C))) (M : Mk K (He.ga K C) f) (F : FnOk P w K mg base CX0 k f fd ps (spI K C ats)) (hb : Binds K fd ps ds) (hd : Vals dvs ds) (hn : n + dvs.length = ats.length) : PrNew P w K mg base k C (spN K C ats n dvs) :=
  ⟨hm, f, fd, ps, dvs, ds, _, M, F, hb, hd, fun vs H Q ⟨hl, q⟩ x dx hx hdx hne => ⟨x, dx, vs ++ dvs, rfl, by rw [List.length_append, hl, hn], upd_same, fun H' s => ⟨rfl, q x H' dx hx (ex_new (o := .own x) hx hdx hne s) s.at_⟩⟩⟩
theorem newL_of {k : Nat} {C : Str} {f : Addr} {fd : FuncData} {ps ats : List Str} {n j : Nat} {dvs : List V} {ds : List Value} (hm : mg C = some (.ref (He.ga K C))) (M : Mk K (He.ga K C) f) (F : FnOk P w K mg base CX0 k f fd ps (spIL K C ats j)) (hb : Binds K fd ps ds) (hd : Vals dvs ds) (hn : n + dvs.length = ats.length) (hj : j < n) : PrNew P w K mg base k C (spNL K C ats n dvs j) :=
  ⟨hm, f, fd, ps, dvs, ds, _, M, F, hb, hd, fun vs H Q ⟨hl, p, ys, h1, h2, q⟩ x dx hx hdx hne => by
    have hpx : p ≠ x := ne_of_none h2 hx
    refine ⟨x, dx, vs ++ dvs, p, ys, rfl, by rw [List.length_append, hl, hn], upd_same, by rw [List.getElem?_append_left (by omega)]; exact h1, hpx, by rw [upd_ne hpx, upd_ne (ne_of_none h2 hdx)]; exact h2, fun l H' hl1 hl2 hl3 s => ⟨rfl, q x H' dx l hx ?_ hl2 (ex_new (o := .own x) hx hdx hne s) hl3 s.at_⟩⟩
    cases e : H l with
    | none => rfl
    | some o =>
      rw [upd_ne hl2, upd_ne (ne_of_none e hdx), e] at hl1
      cases hl1⟩
theorem init_Number (T : Tx K mg) : ∃ fd, FunD K "__init__" "Number.__init__" (defArgs s_Number_init) (defBody s_Number_init) (defScope s_Number_init) ([.bl false, .bl false, .non, .non, .non] : List V) [] (He.fAd K ("Number", some "__init__")) fd ∧ FnOk P w K mg base CX0 2 (He.fAd K ("Number", some "__init__")) fd ["self", "name", "width", "signed", "little", "low", "high", "default"] (spI K "Number" ["name", "width", "signed", "little", "low", "high", "default"]) := by
  have G_Field_init := ok_Field_init (P := P) (w := w) (base := base) T
  obtain ⟨fd, F⟩ := T.d_Number_init
  refine ⟨fd, F, def_ok F sc_Number_init (fun vs H Q E h => by obtain ⟨_, _, as, rfl, hl, _⟩ := h; rw [List.length_cons, hl]; rfl) fun cdv A outer s H vs Q E hr h => ?_⟩
  obtain ⟨x, dx, as, rfl, hl, hx, q⟩ := h
  have hu := hu_of hr
  match as, hl with
  | [a0, a1, a2, a3, a4, a5, a6], _ =>
  refine ⟨_, (pss_cons (ps_expr (pe_cls G_Field_init (hr.mono (by omega)) (by rfl) (pa_cons (pv 0) (pa_cons (pv 1) pa_nil))))
      (pss_cons (ps_fld (pv 0) (pv 2) rfl)
      (pss_cons (ps_fld (pv 0) (pv 3) rfl)
      (pss_cons (ps_fld (pv 0) (pv 4) rfl)
      (pss_cons (ps_fld (pv 0) (pv 5) rfl)
      (pss_cons (ps_fld (pv 0) (pv 6) rfl)
      (pss_one (ps_fld (pv 0) (pv 7) rfl)))))))), ?_⟩
  refine c_base rfl rfl ⟨fun _ _ _ h => h, hx⟩ T.cl_Number T.na_Number_name fun H1 s1 => ?_
  refine c_fs (j := 2) rfl rfl s1 T.cl_Number T.na_Number_width (show 1 < 1000 by decide) fun H2 e2 s2 => ?_
  refine c_fs (j := 3) rfl rfl s2 T.cl_Number T.na_Number_signed (show 2 < 1000 by decide) fun H3 e3 s3 => ?_
  refine c_fs (j := 4) rfl rfl s3 T.cl_Number T.na_Number_little (show 3 < 1000 by decide) fun H4 e4 s4 => ?_
  refine c_fs (j := 5) rfl rfl s4 T.cl_Number T.na_Number_low (show 4 < 1000 by decide) fun H5 e5 s5 => ?_
  refine c_fs (j := 6) rfl rfl s5 T.cl_Number T.na_Number_high (show 5 < 1000 by decide) fun H6 e6 s6 => ?_
  refine c_f (j := 7) rfl rfl s6 T.cl_Number T.na_Number_default (show 6 < 1000 by decide) fun H7 e7 s7 => ?_
  exact q _ s7
theorem new_Number2 (T : Tx K mg) : PrNew P w K mg base 2 "Number" (spN K "Number" ["name", "width", "signed", "little", "low", "high", "default"] 2 ([.bl false, .bl false, .non, .non, .non] : List V)) := by
  obtain ⟨fd, F, Fo⟩ := init_Number (P := P) (w := w) (base := base) T
  obtain ⟨ds, hd, hb⟩ := F.binds1 (ps := ["self", "name", "width", "signed", "little", "low", "high", "default"]) 3 0 (fun h => nomatch h) rfl fun _ _ _ _ _ _ _ us its h1 h2 => match us, its, h1, h2 with | [_, _, _], [_, _, _, _, _], _, _ => ⟨_, rfl, rfl⟩
  exact new_of T.g_Number T.mk_Number Fo hb hd rfl
theorem new_Number3 (T : Tx K mg) : PrNew P w K mg base 2 "Number" (spN K "Number" ["name", "width", "signed", "little", "low", "high", "default"] 3 ([.bl false, .non, .non, .non] : List V)) := by
  obtain ⟨fd, F, Fo⟩ := init_Number (P := P) (w := w) (base := base) T
  obtain ⟨ds, hd, hb⟩ := F.binds1 (ps := ["self", "name", "width", "signed", "little", "low", "high", "default"]) 4 1 (fun h => nomatch h) rfl fun _ _ _ _ _ _ _ us its h1 h2 => match us, its, h1, h2 with | [_, _, _, _], [_, _, _, _, _], _, _ => ⟨_, rfl, rfl⟩
  exact new_of T.g_Number T.mk_Number Fo hb hd rfl
theorem new_Number4 (T : Tx K mg) : PrNew P w K mg base 2 "Number" (spN K "Number" ["name", "width", "signed", "little", "low", "high", "default"] 4 ([.non, .non, .non] : List V)) := by
  obtain ⟨fd, F, Fo⟩ := init_Number (P := P) (w := w) (base := base) T
  obtain ⟨ds, hd, hb⟩ := F.binds1 (ps := ["self", "name", "width", "signed", "little", "low", "high", "default"]) 5 2 (fun h => nomatch h) rfl fun _ _ _ _ _ _ _ us its h1 h2 => match us, its, h1, h2 with | [_, _, _, _, _], [_, _, _, _, _], _, _ => ⟨_, rfl, rfl⟩
  exact new_of T.g_Number T.mk_Number Fo hb hd rfl
theorem new_Number5 (T : Tx K mg) : PrNew P w K mg base 2 "Number" (spN K "Number" ["name", "width", "signed", "little", "low", "high", "default"] 5 ([.non, .non] : List V)) := by
  obtain ⟨fd, F, Fo⟩ := init_Number (P := P) (w := w) (base := base) T
  obtain ⟨ds, hd, hb⟩ := F.binds1 (ps := ["self", "name", "width", "signed", "little", "low", "high", "default"]) 6 3 (fun h => nomatch h) rfl fun _ _ _ _ _ _ _ us its h1 h2 => match us, its, h1, h2 with | [_, _, _, _, _, _], [_, _, _, _, _], _, _ => ⟨_, rfl, rfl⟩
  exact new_of T.g_Number T.mk_Number Fo hb hd rfl
theorem new_Number6 (T : Tx K mg) : PrNew P w K mg base 2 "Number" (spN K "Number" ["name", "width", "signed", "little", "low", "high", "default"] 6 ([.non] : List V)) := by
  obtain ⟨fd, F, Fo⟩ := init_Number (P := P) (w := w) (base := base) T
  obtain ⟨ds, hd, hb⟩ := F.binds1 (ps := ["self", "name", "width", "signed", "little", "low", "high", "default"]) 7 4 (fun h => nomatch h) rfl fun _ _ _ _ _ _ _ us its h1 h2 => match us, its, h1, h2 with | [_, _, _, _, _, _, _], [_, _, _, _, _], _, _ => ⟨_, rfl, rfl⟩
  exact new_of T.g_Number T.mk_Number Fo hb hd rfl
theorem new_Number7 (T : Tx K mg) : PrNew P w K mg base 2 "Number" (spN K "Number" ["name", "width", "signed", "little", "low", "high", "default"] 7 ([] : List V)) := by
  obtain ⟨fd, F, Fo⟩ := init_Number (P := P) (w := w) (base := base) T
  obtain ⟨ds, hd, hb⟩ := F.binds1 (ps := ["self", "name", "width", "signed", "little", "low", "high", "default"]) 8 5 (fun h => nomatch h) rfl fun _ _ _ _ _ _ _ us its h1 h2 => match us, its, h1, h2 with | [_, _, _, _, _, _, _, _], [_, _, _, _, _], _, _ => ⟨_, rfl, rfl⟩
  exact new_of T.g_Number T.mk_Number Fo hb hd rfl
theorem init_Seven (T : Tx K mg) : ∃ fd, FunD K "__init__" "Seven.__init__" (defArgs s_Seven_init) (defBody s_Seven_init) (defScope s_Seven_init) ([.bl false, .non] : List V) [] (He.fAd K ("Seven", some "__init__")) fd ∧ FnOk P w K mg base CX0 2 (He.fAd K ("Seven", some "__init__")) fd ["self", "name", "high", "loose", "default"] (spI K "Seven" ["name", "high", "loose", "default"]) := by
  have G_Field_init := ok_Field_init (P := P) (w := w) (base := base) T
  obtain ⟨fd, F⟩ := T.d_Seven_init
  refine ⟨fd, F, def_ok F sc_Seven_init (fun vs H Q E h => by obtain ⟨_, _, as, rfl, hl, _⟩ := h; rw [List.length_cons, hl]; rfl) fun cdv A outer s H vs Q E hr h => ?_⟩
  obtain ⟨x, dx, as, rfl, hl, hx, q⟩ := h
  have hu := hu_of hr
  match as, hl with
  | [a0, a1, a2, a3], _ =>
  refine ⟨_, (pss_cons (ps_expr (pe_cls G_Field_init (hr.mono (by omega)) (by rfl) (pa_cons (pv 0) (pa_cons (pv 1) pa_nil))))
      (pss_cons (ps_fld (pv 0) (pv 2) rfl)
      (pss_cons (ps_fld (pv 0) (pv 3) rfl)
      (pss_one (ps_fld (pv 0) (pv 4) rfl))))), ?_⟩
  refine c_base rfl rfl ⟨fun _ _ _ h => h, hx⟩ T.cl_Seven T.na_Seven_name fun H1 s1 => ?_
  refine c_fs (j := 2) rfl rfl s1 T.cl_Seven T.na_Seven_high (show 1 < 1000 by decide) fun H2 e2 s2 => ?_
  refine c_fs (j := 3) rfl rfl s2 T.cl_Seven T.na_Seven_loose (show 2 < 1000 by decide) fun H3 e3 s3 => ?_
  refine c_f (j := 4) rfl rfl s3 T.cl_Seven T.na_Seven_default (show 3 < 1000 by decide) fun H4 e4 s4 => ?_
  exact q _ s4
theorem new_Seven3 (T : Tx K mg) : PrNew P w K mg base 2 "Seven" (spN K "Seven" ["name", "high", "loose", "default"] 3 ([.non] : List V)) := by
  obtain ⟨fd, F, Fo⟩ := init_Seven (P := P) (w := w) (base := base) T
  obtain ⟨ds, hd, hb⟩ := F.binds1 (ps := ["self", "name", "high", "loose", "default"]) 4 1 (fun h => nomatch h) rfl fun _ _ _ _ _ _ _ us its h1 h2 => match us, its, h1, h2 with | [_, _, _, _], [_, _], _, _ => ⟨_, rfl, rfl⟩
  exact new_of T.g_Seven T.mk_Seven Fo hb hd rfl
theorem new_Seven4 (T : Tx K mg) : PrNew P w K mg base 2 "Seven" (spN K "Seven" ["name", "high", "loose", "default"] 4 ([] : List V)) := by
  obtain ⟨fd, F, Fo⟩ := init_Seven (P := P) (w := w) (base := base) T
  obtain ⟨ds, hd, hb⟩ := F.binds1 (ps := ["self", "name", "high", "loose", "default"]) 5 2 (fun h => nomatch h) rfl fun _ _ _ _ _ _ _ us its h1 h2 => match us, its, h1, h2 with | [_, _, _, _, _], [_, _], _, _ => ⟨_, rfl, rfl⟩
  exact new_of T.g_Seven T.mk_Seven Fo hb hd rfl
theorem init_Text (T : Tx K mg) : ∃ fd, FunD K "__init__" "Text.__init__" (defArgs s_Text_init) (defBody s_Text_init) (defScope s_Text_init) ([.non] : List V) [] (He.fAd K ("Text", some "__init__")) fd ∧ FnOk P w K mg base CX0 2 (He.fAd K ("Text", some "__init__")) fd ["self", "name", "how", "count", "default"] (spI K "Text" ["name", "how", "count", "default"]) := by
  have G_Field_init := ok_Field_init (P := P) (w := w) (base := base) T
  obtain ⟨fd, F⟩ := T.d_Text_init
  refine ⟨fd, F, def_ok F sc_Text_init (fun vs H Q E h => by obtain ⟨_, _, as, rfl, hl, _⟩ := h; rw [List.length_cons, hl]; rfl) fun cdv A outer s H vs Q E hr h => ?_⟩
  obtain ⟨x, dx, as, rfl, hl, hx, q⟩ := h
  have hu := hu_of hr
  match as, hl with
  | [a0, a1, a2, a3], _ =>
  refine ⟨_, (pss_cons (ps_expr (pe_cls G_Field_init (hr.mono (by omega)) (by rfl) (pa_cons (pv 0) (pa_cons (pv 1) pa_nil))))
      (pss_cons (ps_fld (pv 0) (pv 2) rfl)
      (pss_cons (ps_fld (pv 0) (pv 3) rfl)
      (pss_one (ps_fld (pv 0) (pv 4) rfl))))), ?_⟩
  refine c_base rfl rfl ⟨fun _ _ _ h => h, hx⟩ T.cl_Text T.na_Text_name fun H1 s1 => ?_
  refine c_fs (j := 2) rfl rfl s1 T.cl_Text T.na_Text_how (show 1 < 1000 by decide) fun H2 e2 s2 => ?_
  refine c_fs (j := 3) rfl rfl s2 T.cl_Text T.na_Text_count (show 2 < 1000 by decide) fun H3 e3 s3 => ?_
  refine c_f (j := 4) rfl rfl s3 T.cl_Text T.na_Text_default (show 3 < 1000 by decide) fun H4 e4 s4 => ?_
  exact q _ s4
theorem new_Text3 (T : Tx K mg) : PrNew P w K mg base 2 "Text" (spN K "Text" ["name", "how", "count", "default"] 3 ([.non] : List V)) := by
  obtain ⟨fd, F, Fo⟩ := init_Text (P := P) (w := w) (base := base) T
  obtain ⟨ds, hd, hb⟩ := F.binds1 (ps := ["self", "name", "how", "count", "default"]) 4 0 (fun h => nomatch h) rfl fun _ _ _ _ _ _ _ us its h1 h2 => match us, its, h1, h2 with | [_, _, _, _], [_], _, _ => ⟨_, rfl, rfl⟩
  exact new_of T.g_Text T.mk_Text Fo hb hd rfl
theorem new_Text4 (T : Tx K mg) : PrNew P w K mg base 2 "Text" (spN K "Text" ["name", "how", "count", "default"] 4 ([] : List V)) := by
  obtain ⟨fd, F, Fo⟩ := init_Text (P := P) (w := w) (base := base) T
  obtain ⟨ds, hd, hb⟩ := F.binds1 (ps := ["self", "name", "how", "count", "default"]) 5 1 (fun h => nomatch h) rfl fun _ _ _ _ _ _ _ us its h1 h2 => match us, its, h1, h2 with | [_, _, _, _, _], [_], _, _ => ⟨_, rfl, rfl⟩
  exact new_of T.g_Text T.mk_Text Fo hb hd rfl
theorem init_Row (T : Tx K mg) : ∃ fd, FunD K "__init__" "Row.__init__" (defArgs s_Row_init) (defBody s_Row_init) (defScope s_Row_init) ([.non] : List V) [] (He.fAd K ("Row", some "__init__")) fd ∧ FnOk P w K mg base CX0 2 (He.fAd K ("Row", some "__init__")) fd ["self", "name", "how", "count", "fields", "mark"] (spIL K "Row" ["name", "how", "count", "fields", "mark"] 3) := by
  have G_Field_init := ok_Field_init (P := P) (w := w) (base := base) T
  obtain ⟨fd, F⟩ := T.d_Row_init
  refine ⟨fd, F, def_ok F sc_Row_init (fun vs H Q E h => by obtain ⟨_, _, as, _, _, rfl, hl, _⟩ := h; rw [List.length_cons, hl]; rfl) fun cdv A outer s H vs Q E hr h => ?_⟩
  obtain ⟨x, dx, as, p, ys, rfl, hl, hx, hj, hpx, hp, q⟩ := h
  have hu := hu_of hr
  match as, hl with
  | [a0, a1, a2, a3, a4], _ =>
  refine ⟨_, (pss_cons (ps_expr (pe_cls G_Field_init (hr.mono (by omega)) (by rfl) (pa_cons (pv 0) (pa_cons (pv 1) pa_nil))))
      (pss_cons (ps_fld (pv 0) (pv 2) rfl)
      (pss_cons (ps_fld (pv 0) (pv 3) rfl)
      (pss_cons (ps_fld (pv 0) (pe_callTy (lstK (K := K) rfl) (by rfl) T.b_list (by decide +kernel) (pa_cons (pv 4) pa_nil)) rfl)
      (pss_one (ps_fld (pv 0) (pv 5) rfl)))))), ?_⟩
  obtain rfl : a3 = .ref p := Option.some.inj hj
  refine c_base rfl rfl ⟨fun _ _ _ h => h, hx⟩ T.cl_Row T.na_Row_name fun H1 s1 => ?_
  refine c_fs (j := 2) rfl rfl s1 T.cl_Row T.na_Row_how (show 1 < 1000 by decide) fun H2 e2 s2 => ?_
  refine c_fs (j := 3) rfl rfl s2 T.cl_Row T.na_Row_count (show 2 < 1000 by decide) fun H3 e3 s3 => ?_
  refine c_ls (fs := _) (j := 4) rfl rfl hp hpx s3 T.cl_Row T.na_Row_fields (show 3 < 1000 by decide) fun l H4 hl1 hl2 hl3 s4 => ?_
  refine c_f (j := 5) rfl rfl s4 T.cl_Row T.na_Row_mark (show 4 < 1000 by decide) fun H5 e5 s5 => ?_
  have hl3 := e5 _ _ hl2 hl3
  exact q l _ hl1 hl2 hl3 s5
theorem new_Row4 (T : Tx K mg) : PrNew P w K mg base 2 "Row" (spNL K "Row" ["name", "how", "count", "fields", "mark"] 4 ([.non] : List V) 3) := by
  obtain ⟨fd, F, Fo⟩ := init_Row (P := P) (w := w) (base := base) T
  obtain ⟨ds, hd, hb⟩ := F.binds1 (ps := ["self", "name", "how", "count", "fields", "mark"]) 5 0 (fun h => nomatch h) rfl fun _ _ _ _ _ _ _ us its h1 h2 => match us, its, h1, h2 with | [_, _, _, _, _], [_], _, _ => ⟨_, rfl, rfl⟩
  exact newL_of T.g_Row T.mk_Row Fo hb hd rfl (by decide)
theorem new_Row5 (T : Tx K mg) : PrNew P w K mg base 2 "Row" (spNL K "Row" ["name", "how", "count", "fields", "mark"] 5 ([] : List V) 3) := by
  obtain ⟨fd, F, Fo⟩ := init_Row (P := P) (w := w) (base := base) T
  obtain ⟨ds, hd, hb⟩ := F.binds1 (ps := ["self", "name", "how", "count", "fields", "mark"]) 6 1 (fun h => nomatch h) rfl fun _ _ _ _ _ _ _ us its h1 h2 => match us, its, h1, h2 with | [_, _, _, _, _, _], [_], _, _ => ⟨_, rfl, rfl⟩
  exact newL_of T.g_Row T.mk_Row Fo hb hd rfl (by decide)
theorem init_Maybe (T : Tx K mg) : ∃ fd, FunD K "__init__" "Maybe.__init__" (defArgs s_Maybe_init) (defBody s_Maybe_init) (defScope s_Maybe_init) ([] : List V) [] (He.fAd K ("Maybe", some "__init__")) fd ∧ FnOk P w K mg base CX0 2 (He.fAd K ("Maybe", some "__init__")) fd ["self", "name", "control", "fields"] (spIL K "Maybe" ["name", "control", "fields"] 2) := by
  have G_Field_init := ok_Field_init (P := P) (w := w) (base := base) T
  obtain ⟨fd, F⟩ := T.d_Maybe_init
  refine ⟨fd, F, def_ok F sc_Maybe_init (fun vs H Q E h => by obtain ⟨_, _, as, _, _, rfl, hl, _⟩ := h; rw [List.length_cons, hl]; rfl) fun cdv A outer s H vs Q E hr h => ?_⟩
  obtain ⟨x, dx, as, p, ys, rfl, hl, hx, hj, hpx, hp, q⟩ := h
  have hu := hu_of hr
  match as, hl with
  | [a0, a1, a2], _ =>
  refine ⟨_, (pss_cons (ps_expr (pe_cls G_Field_init (hr.mono (by omega)) (by rfl) (pa_cons (pv 0) (pa_cons (pv 1) pa_nil))))
      (pss_cons (ps_fld (pv 0) (pv 2) rfl)
      (pss_one (ps_fld (pv 0) (pe_callTy (lstK (K := K) rfl) (by rfl) T.b_list (by decide +kernel) (pa_cons (pv 3) pa_nil)) rfl)))), ?_⟩
  obtain rfl : a2 = .ref p := Option.some.inj hj
  refine c_base rfl rfl ⟨fun _ _ _ h => h, hx⟩ T.cl_Maybe T.na_Maybe_name fun H1 s1 => ?_
  refine c_fs (j := 2) rfl rfl s1 T.cl_Maybe T.na_Maybe_control (show 1 < 1000 by decide) fun H2 e2 s2 => ?_
  refine c_l (fs := _) (j := 3) rfl rfl hp hpx s2 T.cl_Maybe T.na_Maybe_fields (show 2 < 1000 by decide) fun l H3 hl1 hl2 hl3 s3 => ?_
  exact q l _ hl1 hl2 hl3 s3
theorem new_Maybe3 (T : Tx K mg) : PrNew P w K mg base 2 "Maybe" (spNL K "Maybe" ["name", "control", "fields"] 3 ([] : List V) 2) := by
  obtain ⟨fd, F, Fo⟩ := init_Maybe (P := P) (w := w) (base := base) T
  exact newL_of T.g_Maybe T.mk_Maybe Fo (F.bindsN fun _ _ _ _ _ _ us hl => match us, hl with | [_, _, _, _], _ => rfl) .nil rfl (by decide)
theorem init_Group (T : Tx K mg) : ∃ fd, FunD K "__init__" "Group.__init__" (defArgs s_Group_init) (defBody s_Group_init) (defScope s_Group_init) ([] : List V) [] (He.fAd K ("Group", some "__init__")) fd ∧ FnOk P w K mg base CX0 2 (He.fAd K ("Group", some "__init__")) fd ["self", "name", "fields"] (spIL K "Group" ["name", "fields"] 1) := by
  have G_Field_init := ok_Field_init (P := P) (w := w) (base := base) T
  obtain ⟨fd, F⟩ := T.d_Group_init
  refine ⟨fd, F, def_ok F sc_Group_init (fun vs H Q E h => by obtain ⟨_, _, as, _, _, rfl, hl, _⟩ := h; rw [List.length_cons, hl]; rfl) fun cdv A outer s H vs Q E hr h => ?_⟩
  obtain ⟨x, dx, as, p, ys, rfl, hl, hx, hj, hpx, hp, q⟩ := h
  have hu := hu_of hr
  match as, hl with
  | [a0, a1], _ =>
  refine ⟨_, (pss_cons (ps_expr (pe_cls G_Field_init (hr.mono (by omega)) (by rfl) (pa_cons (pv 0) (pa_cons (pv 1) pa_nil))))
      (pss_one (ps_fld (pv 0) (pe_callTy (lstK (K := K) rfl) (by rfl) T.b_list (by decide +kernel) (pa_cons (pv 2) pa_nil)) rfl))), ?_⟩
  obtain rfl : a1 = .ref p := Option.some.inj hj
  refine c_base rfl rfl ⟨fun _ _ _ h => h, hx⟩ T.cl_Group T.na_Group_name fun H1 s1 => ?_
  refine c_l (fs := _) (j := 2) rfl rfl hp hpx s1 T.cl_Group T.na_Group_fields (show 1 < 1000 by decide) fun l H2 hl1 hl2 hl3 s2 => ?_
  exact q l _ hl1 hl2 hl3 s2
theorem new_Group2 (T : Tx K mg) : PrNew P w K mg base 2 "Group" (spNL K "Group" ["name", "fields"] 2 ([] : List V) 1) := by
  obtain ⟨fd, F, Fo⟩ := init_Group (P := P) (w := w) (base := base) T
  exact newL_of T.g_Group T.mk_Group Fo (F.bindsN fun _ _ _ _ _ _ us hl => match us, hl with | [_, _, _], _ => rfl) .nil rfl (by decide)
theorem init_Sized (T : Tx K mg) : ∃ fd, FunD K "__init__" "Sized.__init__" (defArgs s_Sized_init) (defBody s_Sized_init) (defScope s_Sized_init) ([.bl false] : List V) [] (He.fAd K ("Sized", some "__init__")) fd ∧ FnOk P w K mg base CX0 2 (He.fAd K ("Sized", some "__init__")) fd ["self", "name", "control", "fields", "grows"] (spIL K "Sized" ["name", "control", "fields", "grows"] 2) := by
  have G_Field_init := ok_Field_init (P := P) (w := w) (base := base) T
  obtain ⟨fd, F⟩ := T.d_Sized_init
  refine ⟨fd, F, def_ok F sc_Sized_init (fun vs H Q E h => by obtain ⟨_, _, as, _, _, rfl, hl, _⟩ := h; rw [List.length_cons, hl]; rfl) fun cdv A outer s H vs Q E hr h => ?_⟩
  obtain ⟨x, dx, as, p, ys, rfl, hl, hx, hj, hpx, hp, q⟩ := h
  have hu := hu_of hr
  match as, hl with
  | [a0, a1, a2, a3], _ =>
  refine ⟨_, (pss_cons (ps_expr (pe_cls G_Field_init (hr.mono (by omega)) (by rfl) (pa_cons (pv 0) (pa_cons (pv 1) pa_nil))))
      (pss_cons (ps_fld (pv 0) (pv 2) rfl)
      (pss_cons (ps_fld (pv 0) (pe_callTy (lstK (K := K) rfl) (by rfl) T.b_list (by decide +kernel) (pa_cons (pv 3) pa_nil)) rfl)
      (pss_one (ps_fld (pv 0) (pv 4) rfl))))), ?_⟩
  obtain rfl : a2 = .ref p := Option.some.inj hj
  refine c_base rfl rfl ⟨fun _ _ _ h => h, hx⟩ T.cl_Sized T.na_Sized_name fun H1 s1 => ?_
  refine c_fs (j := 2) rfl rfl s1 T.cl_Sized T.na_Sized_control (show 1 < 1000 by decide) fun H2 e2 s2 => ?_
  refine c_ls (fs := _) (j := 3) rfl rfl hp hpx s2 T.cl_Sized T.na_Sized_fields (show 2 < 1000 by decide) fun l H3 hl1 hl2 hl3 s3 => ?_
  refine c_f (j := 4) rfl rfl s3 T.cl_Sized T.na_Sized_grows (show 3 < 1000 by decide) fun H4 e4 s4 => ?_
  have hl3 := e4 _ _ hl2 hl3
  exact q l _ hl1 hl2 hl3 s4
theorem new_Sized3 (T : Tx K mg) : PrNew P w K mg base 2 "Sized" (spNL K "Sized" ["name", "control", "fields", "grows"] 3 ([.bl false] : List V) 2) := by
  obtain ⟨fd, F, Fo⟩ := init_Sized (P := P) (w := w) (base := base) T
  obtain ⟨ds, hd, hb⟩ := F.binds1 (ps := ["self", "name", "control", "fields", "grows"]) 4 0 (fun h => nomatch h) rfl fun _ _ _ _ _ _ _ us its h1 h2 => match us, its, h1, h2 with | [_, _, _, _], [_], _, _ => ⟨_, rfl, rfl⟩
  exact newL_of T.g_Sized T.mk_Sized Fo hb hd rfl (by decide)
theorem new_Sized4 (T : Tx K mg) : PrNew P w K mg base 2 "Sized" (spNL K "Sized" ["name", "control", "fields", "grows"] 4 ([] : List V) 2) := by
  obtain ⟨fd, F, Fo⟩ := init_Sized (P := P) (w := w) (base := base) T
  obtain ⟨ds, hd, hb⟩ := F.binds1 (ps := ["self", "name", "control", "fields", "grows"]) 5 1 (fun h => nomatch h) rfl fun _ _ _ _ _ _ _ us its h1 h2 => match us, its, h1, h2 with | [_, _, _, _, _], [_], _, _ => ⟨_, rfl, rfl⟩
  exact newL_of T.g_Sized T.mk_Sized Fo hb hd rfl (by decide)
theorem init_Check (T : Tx K mg) : ∃ fd, FunD K "__init__" "Check.__init__" (defArgs s_Check_init) (defBody s_Check_init) (defScope s_Check_init) ([] : List V) [] (He.fAd K ("Check", some "__init__")) fd ∧ FnOk P w K mg base CX0 2 (He.fAd K ("Check", some "__init__")) fd ["self", "name", "how", "width", "first"] (spI K "Check" ["name", "how", "width", "first"]) := by
  have G_Field_init := ok_Field_init (P := P) (w := w) (base := base) T
  obtain ⟨fd, F⟩ := T.d_Check_init
  refine ⟨fd, F, def_ok F sc_Check_init (fun vs H Q E h => by obtain ⟨_, _, as, rfl, hl, _⟩ := h; rw [List.length_cons, hl]; rfl) fun cdv A outer s H vs Q E hr h => ?_⟩
  obtain ⟨x, dx, as, rfl, hl, hx, q⟩ := h
  have hu := hu_of hr
  match as, hl with
  | [a0, a1, a2, a3], _ =>
  refine ⟨_, (pss_cons (ps_expr (pe_cls G_Field_init (hr.mono (by omega)) (by rfl) (pa_cons (pv 0) (pa_cons (pv 1) pa_nil))))
      (pss_cons (ps_fld (pv 0) (pv 2) rfl)
      (pss_cons (ps_fld (pv 0) (pv 3) rfl)
      (pss_one (ps_fld (pv 0) (pv 4) rfl))))), ?_⟩
  refine c_base rfl rfl ⟨fun _ _ _ h => h, hx⟩ T.cl_Check T.na_Check_name fun H1 s1 => ?_
  refine c_fs (j := 2) rfl rfl s1 T.cl_Check T.na_Check_how (show 1 < 1000 by decide) fun H2 e2 s2 => ?_
  refine c_fs (j := 3) rfl rfl s2 T.cl_Check T.na_Check_width (show 2 < 1000 by decide) fun H3 e3 s3 => ?_
  refine c_f (j := 4) rfl rfl s3 T.cl_Check T.na_Check_first (show 3 < 1000 by decide) fun H4 e4 s4 => ?_
  exact q _ s4
theorem new_Check4 (T : Tx K mg) : PrNew P w K mg base 2 "Check" (spN K "Check" ["name", "how", "width", "first"] 4 ([] : List V)) := by
  obtain ⟨fd, F, Fo⟩ := init_Check (P := P) (w := w) (base := base) T
  exact new_of T.g_Check T.mk_Check Fo (F.bindsN fun _ _ _ _ _ _ us hl => match us, hl with | [_, _, _, _, _], _ => rfl) .nil rfl
theorem init_Spot (T : Tx K mg) : ∃ fd, FunD K "__init__" "Spot.__init__" (defArgs s_Spot_init) (defBody s_Spot_init) (defScope s_Spot_init) ([] : List V) [] (He.fAd K ("Spot", some "__init__")) fd ∧ FnOk P w K mg base CX0 2 (He.fAd K ("Spot", some "__init__")) fd ["self", "name", "width", "target"] (spI K "Spot" ["name", "width", "target"]) := by
  have G_Field_init := ok_Field_init (P := P) (w := w) (base := base) T
  obtain ⟨fd, F⟩ := T.d_Spot_init
  refine ⟨fd, F, def_ok F sc_Spot_init (fun vs H Q E h => by obtain ⟨_, _, as, rfl, hl, _⟩ := h; rw [List.length_cons, hl]; rfl) fun cdv A outer s H vs Q E hr h => ?_⟩
  obtain ⟨x, dx, as, rfl, hl, hx, q⟩ := h
  have hu := hu_of hr
  match as, hl with
  | [a0, a1, a2], _ =>
  refine ⟨_, (pss_cons (ps_expr (pe_cls G_Field_init (hr.mono (by omega)) (by rfl) (pa_cons (pv 0) (pa_cons (pv 1) pa_nil))))
      (pss_cons (ps_fld (pv 0) (pv 2) rfl)
      (pss_one (ps_fld (pv 0) (pv 3) rfl)))), ?_⟩
  refine c_base rfl rfl ⟨fun _ _ _ h => h, hx⟩ T.cl_Spot T.na_Spot_name fun H1 s1 => ?_
  refine c_fs (j := 2) rfl rfl s1 T.cl_Spot T.na_Spot_width (show 1 < 1000 by decide) fun H2 e2 s2 => ?_
  refine c_f (j := 3) rfl rfl s2 T.cl_Spot T.na_Spot_target (show 2 < 1000 by decide) fun H3 e3 s3 => ?_
  exact q _ s3
theorem new_Spot3 (T : Tx K mg) : PrNew P w K mg base 2 "Spot" (spN K "Spot" ["name", "width", "target"] 3 ([] : List V)) := by
  obtain ⟨fd, F, Fo⟩ := init_Spot (P := P) (w := w) (base := base) T
  exact new_of T.g_Spot T.mk_Spot Fo (F.bindsN fun _ _ _ _ _ _ us hl => match us, hl with | [_, _, _, _], _ => rfl) .nil rfl
theorem init_Layout (T : Tx K mg) : ∃ fd, FunD K "__init__" "Layout.__init__" (defArgs s_Layout_init) (defBody s_Layout_init) (defScope s_Layout_init) ([] : List V) [] (He.fAd K ("Layout", some "__init__")) fd ∧ FnOk P w K mg base CX0 2 (He.fAd K ("Layout", some "__init__")) fd ["self", "name", "fields"] (spIL K "Layout" ["name", "fields"] 1) := by
  have G_Field_init := ok_Field_init (P := P) (w := w) (base := base) T
  obtain ⟨fd, F⟩ := T.d_Layout_init
  refine ⟨fd, F, def_ok F sc_Layout_init (fun vs H Q E h => by obtain ⟨_, _, as, _, _, rfl, hl, _⟩ := h; rw [List.length_cons, hl]; rfl) fun cdv A outer s H vs Q E hr h => ?_⟩
  obtain ⟨x, dx, as, p, ys, rfl, hl, hx, hj, hpx, hp, q⟩ := h
  have hu := hu_of hr
  match as, hl with
  | [a0, a1], _ =>
  refine ⟨_, (pss_cons (ps_fld (pv 0) (pv 1) rfl)
      (pss_one (ps_fld (pv 0) (pe_callTy (lstK (K := K) rfl) (by rfl) T.b_list (by decide +kernel) (pa_cons (pv 2) pa_nil)) rfl))), ?_⟩
  obtain rfl : a1 = .ref p := Option.some.inj hj
  refine c_fs (j := 1) rfl rfl ⟨fun _ _ _ h => h, hx⟩ T.cl_Layout T.na_Layout_name (show 0 < 1000 by decide) fun H1 e1 s1 => ?_
  refine c_l (fs := _) (j := 2) rfl rfl hp hpx s1 T.cl_Layout T.na_Layout_fields (show 1 < 1000 by decide) fun l H2 hl1 hl2 hl3 s2 => ?_
  exact q l _ hl1 hl2 hl3 s2
theorem new_Layout2 (T : Tx K mg) : PrNew P w K mg base 2 "Layout" (spNL K "Layout" ["name", "fields"] 2 ([] : List V) 1) := by
  obtain ⟨fd, F, Fo⟩ := init_Layout (P := P) (w := w) (base := base) T
  exact newL_of T.g_Layout T.mk_Layout Fo (F.bindsN fun _ _ _ _ _ _ us hl => match us, hl with | [_, _, _], _ => rfl) .nil rfl (by decide)
end
end Fk

set_option Elab.async false
set_option linter.all false
set_option maxRecDepth 100000
set_option maxHeartbeats 4000000
set_option exponentiation.threshold 3000
namespace Fk
open PySem PySem.Spec PyProof.Rows L2 Evl
section
variable {P : Program} {w : World} {K : PySem.W.Frag} {mg : Str → Option Value} {base : Heap} {σ : L2.St} {H H' : Hp} {tu tz : TS} {D : Ends} {x C dx : Addr} {fs : List (Str × V)} {v : V} {f : Str} {j : Nat}
/-- a copied case: its pair, number, list -/
abbrev CaseV := Addr × Int × Addr × List V
def CopyOf (H : Hp) (H' : Hp) (c s : CaseV) : Prop := s.2.1 = c.2.1 ∧ s.2.2.2 = c.2.2.2 ∧ H s.1 = none ∧ H s.2.2.1 = none ∧ H' s.1 = some (.tup [.int s.2.1, .ref s.2.2.1]) ∧ H' s.2.2.1 = some (.lst s.2.2.2)
def spCho (K : PySem.W.Frag) : Sp := fun vs H Q _ => ∃ nm c p cs, vs = [nm, c, .ref p] ∧ H p = some (.lst (cs.map fun (c : CaseV) => V.ref c.1)) ∧ cs.length ≤ 1000 ∧ (∀ c ∈ cs, H c.1 = some (.tup [.int c.2.1, .ref c.2.2.1]) ∧ H c.2.2.1 = some (.lst c.2.2.2)) ∧
  ∀ x H' dx Dl ss, H x = none → H Dl = none → Ex H H' → H' x = some (.ins (He.ga K "Choice") dx [("name", nm), ("control", c), ("cases", .ref Dl)]) → H' Dl = some (.lst (ss.map fun (c : CaseV) => V.ref c.1)) → All2 (CopyOf H H') cs ss → Q (.ref x) H'
def spIC (K : PySem.W.Frag) : Sp := fun vs H Q _ => ∃ x dx nm c p cs, vs = [.ref x, nm, c, .ref p] ∧ H x = some (.ins (He.ga K "Choice") dx []) ∧ p ≠ x ∧ H p = some (.lst (cs.map fun (c : CaseV) => V.ref c.1)) ∧ cs.length ≤ 1000 ∧ (∀ c ∈ cs, c.1 ≠ x ∧ c.2.2.1 ≠ x ∧ H c.1 = some (.tup [.int c.2.1, .ref c.2.2.1]) ∧ H c.2.2.1 = some (.lst c.2.2.2)) ∧
  ∀ H' Dl ss, H Dl = none → CS H x (He.ga K "Choice") dx [("name", nm), ("control", c), ("cases", .ref Dl)] H' → H' Dl = some (.lst (ss.map fun (c : CaseV) => V.ref c.1)) → All2 (CopyOf H H') cs ss → Q .non H'
theorem init_Choice (T : Tx K mg) : ∃ fd, FunD K "__init__" "Choice.__init__" (defArgs s_Choice_init) (defBody s_Choice_init) (defScope s_Choice_init) [] [] (He.fAd K ("Choice", some "__init__")) fd ∧ FnOk P w K mg base CX0 2 (He.fAd K ("Choice", some "__init__")) fd ["self", "name", "control", "cases"] (spIC K) := by
  have G_Field_init := ok_Field_init (P := P) (w := w) (base := base) T
  obtain ⟨fd, F⟩ := T.d_Choice_init
  refine ⟨fd, F, def_ok F sc_Choice_init (fun vs H Q E h => by obtain ⟨_, _, _, _, _, _, rfl, _⟩ := h; rfl) fun cdv A outer s H vs Q E hr h => ?_⟩
  obtain ⟨x, dx, nm, c, p, cs, rfl, hx, hpx, hp, hz, hcs, q⟩ := h
  have hu := hu_of hr
  refine ⟨_, (pss_cons (ps_expr (pe_cls G_Field_init (hr.mono (by omega)) (by rfl) (pa_cons (pv 0) (pa_cons (pv 1) pa_nil))))
      (pss_cons (ps_fld (pv 0) (pv 2) rfl)
      (pss_one (ps_fld (pv 0) (pe_lc (own := [("number", 4), ("fields", 5)]) rfl sc_Choice_init.nd (piLK (K := K) rfl (pv 3)) (blkOk_by (N := ["self", "name", "control", "cases", "number", "fields"]) (sc := defScope s_Choice_init) (by decide +kernel)) (fun _ _ _ _ _ => (pgTK (K := K) (n := 2) rfl rfl (pgs_cons (pg_name (i := 4) sc_Choice_init.nd rfl (Or.inl rfl)) (pgs_cons (pg_name (i := 5) sc_Choice_init.nd rfl (Or.inl rfl)) pgs_nil)))) (fun _ _ _ _ _ => pts_nil) (fun _ _ _ _ _ => (pe_tup (pa_cons (pv 4) (pa_cons (pe_callTy (lstK (K := K) rfl) (by rfl) T.b_list (by decide +kernel) (pa_cons (pv 5) pa_nil)) pa_nil))))) rfl)))), ?_⟩
  refine c_base rfl rfl ⟨fun _ _ _ h => h, hx⟩ T.cl_Choice T.na_Choice_name fun H1 s1 => ?_
  refine c_fs (j := 2) rfl rfl s1 T.cl_Choice T.na_Choice_control (show 1 < 1000 by decide) fun H2 e2 s2 => ?_
  refine ⟨.ref p, rfl, p, rfl, ⟨_, sq_of (s2.eh _ _ hpx hp)⟩, fun Dl hD => ?_⟩
  have hDx : Dl ≠ x := fun z => by rw [z, s2.at_] at hD; cases hD
  have back : ∀ {a : Addr} {HH : Hp}, Ex H2 HH → a ≠ x → HH a = none → H a = none := fun {a HH} e hax h => by
    cases e1 : H a with
    | none => rfl
    | some o =>
      rw [e _ _ (s2.eh _ _ hax e1)] at h
      cases h
  refine lc_list (xs := cs.map fun (c : CaseV) => V.ref c.1) (fun i H' => Ex H2 H' ∧ ∃ ss : List CaseV, H' Dl = some (.lst (ss.map fun (c : CaseV) => V.ref c.1)) ∧ All2 (fun c s => CopyOf H H' c s ∧ s.1 ≠ Dl ∧ s.2.2.1 ≠ Dl ∧ s.1 ≠ x ∧ s.2.2.1 ≠ x) (cs.take i) ss) ⟨Ex.new hD, [], upd_same, .nil⟩ (fun i H' _ c => sq_of (c.1 _ _ (s2.eh _ _ hpx hp))) (fun i y H' hi cc => ?_) fun H' cc => ?_
  · obtain ⟨e, ss, h1, h2⟩ := cc
    obtain ⟨cv, hcv, hm, rfl⟩ := map_get hi
    obtain ⟨g1, g2, g3, g4⟩ := hcs cv hm
    have eH : ∀ y o, y ≠ x → H y = some o → H' y = some o := fun y o hy h => e _ _ (s2.eh y o hy h)
    refine ⟨cv.1, _, rfl, st_of (eH _ _ g1 g3), rfl, _, _, rfl, _, _, rfl, rfl, ?_, ?_⟩
    · show wipe (((wipe _ [4, 5]).set 4 _).set 5 _) [4, 5] = wipe _ [4, 5]
      exact wipe2 (by decide) _ _
    · simp only [tYes, if_true]
      refine te_tup2 ?_
      refine (ev_var (i := 4) (v := .int cv.2.1) (H := H') rfl) H' (Ex.refl _) _ fun H3 e3 => ?_
      refine (el_lstOf (K := K) (H := H3) (ev_var (i := 5) (v := .ref cv.2.2.1) rfl) (.inl (sq_of (e3 _ _ (eH _ _ g2 g4))))) H3 (Ex.refl _) _ fun l H4 hl e4 h4 => ⟨sz_of (by simp), fun t ht => ?_⟩
      have eA := (e3.trans e4).trans (Ex.new ht (o := .tup [.int cv.2.1, .ref l]))
      have hlD : l ≠ Dl := fun z => by rw [z, e3 _ _ h1] at hl; cases hl
      have htD : t ≠ Dl := fun z => by rw [z, e4 _ _ (e3 _ _ h1)] at ht; cases ht
      have hlx : l ≠ x := fun z => by rw [z, e3 _ _ (e _ _ s2.at_)] at hl; cases hl
      have htx : t ≠ x := fun z => by rw [z, e4 _ _ (e3 _ _ (e _ _ s2.at_))] at ht; cases ht
      have hlt : l ≠ t := fun z => by rw [z, ht] at h4; cases h4
      have hHl : H l = none := back (e.trans e3) hlx hl
      have hHt : H t = none := back ((e.trans e3).trans e4) htx ht
      refine ⟨_, eA _ _ h1, sz_lt ?_, ?_, ss ++ [(t, cv.2.1, l, cv.2.2.2)], ?_, ?_⟩
      · rw [List.length_map, ← h2.len, List.length_take]
        omega
      · exact Ex.mut (e.trans eA) hD
      · rw [upd_same, List.map_append]
        rfl
      · rw [List.take_add_one, hcv]
        refine All2.snoc ?_ (h2.imp fun c s ⟨⟨a1, a2, a3, a4, a5, a6⟩, b1, b2, b3⟩ => ⟨⟨a1, a2, a3, a4, by rw [upd_ne b1]; exact eA _ _ a5, by rw [upd_ne b2]; exact eA _ _ a6⟩, b1, b2, b3⟩)
        refine ⟨⟨rfl, rfl, hHt, hHl, ?_, ?_⟩, htD, hlD, htx, hlx⟩
        · rw [upd_ne htD, upd_same]
        · rw [upd_ne hlD, upd_ne hlt]
          exact h4
  · obtain ⟨e, ss, h1, h2⟩ := cc
    rw [List.length_map, List.take_length] at h2
    have hHD : H Dl = none := back (Ex.refl _) hDx hD
    refine ⟨.ref x, rfl, x, _, dx, _, rfl, e _ _ s2.at_, T.cl_Choice, T.na_Choice_cases, (show 2 < 1000 by decide), ?_⟩
    refine q _ Dl ss hHD ⟨fun y o hy h => by rw [upd_ne hy]; exact e _ _ (s2.eh y o hy h), upd_same⟩ (by rw [upd_ne hDx]; exact h1) ?_
    exact h2.imp fun c s ⟨⟨a1, a2, a3, a4, a5, a6⟩, b1, b2, b3, b4⟩ => ⟨a1, a2, a3, a4, by rw [upd_ne b3]; exact a5, by rw [upd_ne b4]; exact a6⟩
theorem new_Choice3 (T : Tx K mg) : PrNew P w K mg base 2 "Choice" (spCho K) := by
  obtain ⟨fd, F, Fo⟩ := init_Choice (P := P) (w := w) (base := base) T
  refine ⟨T.g_Choice, _, fd, _, [], [], _, T.mk_Choice, Fo, F.bindsN fun _ _ _ _ _ _ us hl => match us, hl with | [_, _, _, _], _ => rfl, .nil, fun vs H Q h x dx hx hdx hne => ?_⟩
  obtain ⟨nm, c, p, cs, rfl, hp, hz, hcs, q⟩ := h
  have up : ∀ {a : Addr} {o : HO}, H a = some o → (upd (upd H dx (.own x)) x (.ins (He.ga K "Choice") dx [])) a = some o := fun {a o} h => by
    rw [upd_ne (ne_of_none h hx), upd_ne (ne_of_none h hdx)]
    exact h
  have down : ∀ {a : Addr}, (upd (upd H dx (.own x)) x (.ins (He.ga K "Choice") dx [])) a = none → H a = none := fun {a} h => by
    cases e : H a with
    | none => rfl
    | some o => rw [up e] at h; cases h
  refine ⟨x, dx, nm, c, p, cs, rfl, upd_same, ne_of_none hp hx, up hp, hz, fun c hc => ⟨ne_of_none (hcs c hc).1 hx, ne_of_none (hcs c hc).2 hx, up (hcs c hc).1, up (hcs c hc).2⟩, fun H' Dl ss hD s hDl hss => ⟨rfl, q x H' dx Dl ss hx (down hD) (ex_new (o := .own x) hx hdx hne s) s.at_ hDl ?_⟩⟩
  exact hss.imp fun c s ⟨a1, a2, a3, a4, a5, a6⟩ => ⟨a1, a2, down a3, down a4, a5, a6⟩
/-- what a pure step has built joins -/
def glue (G H H' : Hp) : Hp := fun a => match H a with | none => H' a | some _ => G a
theorem glue_new {G : Hp} {a : Addr} (h : H a = none) : glue G H H' a = H' a := by unfold glue; rw [h]
theorem Us.pure {q : Addr} {G : Hp} (hG : Ex G H) (e : Ex H H') (hq : H q ≠ none) : Us q G H (glue G H H') H' := by
  refine ⟨fun a o h => ?_, fun a o _ h => e _ _ h, fun a o h => ?_, fun a h => ?_⟩
  · unfold glue
    rw [hG _ _ h]
    exact h
  · unfold glue at h
    cases e1 : H a with
    | none => rw [e1] at h; exact h
    | some o1 => rw [e1] at h; exact e _ _ (hG _ _ h)
  · unfold glue at h
    cases e1 : H a with
    | none => exact .inr ⟨fun z => hq (z ▸ e1), rfl⟩
    | some o1 => rw [e1] at h; exact .inl h
end
end Fk

set_option Elab.async false
set_option linter.all false
set_option maxRecDepth 100000
set_option maxHeartbeats 4000000
set_option exponentiation.threshold 3000
namespace Fk
open PySem PySem.Spec PyProof.Rows L2 Evl
/-! ### the state of the draws: at q; how many names are drawn; c: what the names are made of -/
abbrev Cst := Int × Int
def DSt (q : Addr) (c : Cst) (n : Nat) (H : Hp) : Prop := ∃ a b : Int, 0 ≤ a ∧ a < 2147483647 ∧ 0 ≤ b ∧ H q = some (.lst [.int a, vN n, .int c.1, .int c.2, .int 0, .int b])
theorem DSt.ext {q : Addr} {c : Cst} {n : Nat} {H H' : Hp} (e : Ex H H') (h : DSt q c n H) : DSt q c n H' := let ⟨a, b, h1, h2, h3, h4⟩ := h; ⟨a, b, h1, h2, h3, e _ _ h4⟩
theorem DSt.ne {q : Addr} {c : Cst} {n : Nat} {H : Hp} (h : DSt q c n H) : H q ≠ none := let ⟨a, b, h1, h2, h3, h4⟩ := h; by rw [h4]; exact fun z => nomatch z
/-- a step at which the state alone changes -/
structure Sx (q : Addr) (H H' : Hp) : Prop where
  eh : ∀ a o, a ≠ q → H a = some o → H' a = some o
theorem Sx.refl {q : Addr} (H : Hp) : Sx q H H := ⟨fun _ _ _ h => h⟩
theorem Sx.of {q : Addr} {H H' : Hp} (e : Ex H H') : Sx q H H' := ⟨fun _ _ _ h => e _ _ h⟩
theorem Sx.trans {q : Addr} {H H1 H2 : Hp} (a : Sx q H H1) (b : Sx q H1 H2) : Sx q H H2 := ⟨fun x o hx h => b.eh x o hx (a.eh x o hx h)⟩
theorem Sx.us {q : Addr} {G H H' : Hp} (s : Sx q H H') (hG : Ex G H) (hq : G q = none) : Us q G H G H' := ⟨Ex.refl _, s.eh, fun a o h => s.eh a o (fun z => by rw [z, hq] at h; cases h) (hG a o h), fun _ h => .inl h⟩
theorem Sx.upd {q : Addr} {H H' : Hp} (s : Sx q H H') (o : HO) : Sx q H (upd H' q o) := ⟨fun a u ha h => by rw [upd_ne ha]; exact s.eh a u ha h⟩
section
variable {P : Program} {w : World} {K : PySem.W.Frag} {mg : Str → Option Value} {base : Heap} {σ : L2.St} {G H H' : Hp} {te ta tb tc tl td ty tx : TE} {tt : TT} {tu tw tz : TS} {D : Ends} {q : Addr} {c : Cst} {n : Nat}
abbrev aNext (c : Cst) : A1 := fun v H Q => ∃ q n, v = .ref q ∧ DSt q c n H ∧ ∀ (x : Int) H', 0 ≤ x → x < 4294967311 → Sx q H H' → DSt q c n H' → Q (.int x) H'
theorem ok_law_next (T : Tx K mg) : Pr P w K mg base 1 "_law_next" (Sp1 (aNext c)) := by
  refine pr1 T.d__law_next T.g__law_next sc__law_next (fun _ _ _ _ _ _ us hl => match us, hl with | [_], _ => rfl) fun v H Q h cdv A outer s E hr hu => ?_
  obtain ⟨q, n, rfl, ⟨a, b, ha1, ha2, hb, hq⟩, k⟩ := h
  refine ⟨_, (pss_cons (ps_asg (pe_op op_mod (pe_op op_mul (pe_ix (ixLK (K := K) rfl) (pv 0) pe_int (fun _ _ => rfl)) pe_int) pe_int) (pg_sub (pv 0) pe_int set_list))
      (pss_cons (ps_asg (pe_op op_fdivW (pe_ix (ixLK (K := K) rfl) (pv 0) pe_int (fun _ _ => rfl)) pe_int) (pg_sub (pv 0) pe_int set_list))
      (pss_one (ps_ret (pe_op op_mod (pe_op op_add (pe_op op_fdiv (pe_op op_mod (pe_op op_add (pe_op op_mul (pe_ix (ixLK (K := K) rfl) (pv 0) pe_int (fun _ _ => rfl)) (pe_ix (ixLK (K := K) rfl) (pv 0) pe_int (fun _ _ => rfl))) (pe_op op_mul pe_int (pe_ix (ixLK (K := K) rfl) (pv 0) pe_int (fun _ _ => rfl)))) pe_int) pe_int) (pe_ix (ixLK (K := K) rfl) (pv 0) pe_int (fun _ _ => rfl))) pe_int))))), ?_⟩
  refine q_setL (v := .int (a * 48271 % 2147483647)) hq (ev_op (ev_op (ev_op (ev_var rfl) ev_c (rv_ixL (sq_of hq) (atI_nat (j := 0) rfl))) ev_c (rv_I (show CMul _ _ from .inr (by decide)))) ev_c (rv_I (show (0 : Int) < 2147483647 by decide))) (ev_var rfl) (ev_c (v := .int ((0 : Nat) : Int))) (Nat.zero_lt_succ _) fun H1 e1 => ?_
  have hm : 0 ≤ a * 48271 % 2147483647 ∧ a * 48271 % 2147483647 < 2147483647 := by omega
  generalize a * 48271 % 2147483647 = a' at hm
  have h1 : (upd H1 q (.lst ([V.int a, vN n, .int c.1, .int c.2, .int 0, .int b].set 0 (.int a')))) q = some (.lst [.int a', vN n, .int c.1, .int c.2, .int 0, .int b]) := upd_same
  refine q_setL (v := .int (b / 4294967311)) h1 (ev_op (ev_op (ev_var rfl) ev_c (rv_ixL (sq_of h1) (atI_nat (j := 5) rfl))) ev_c (rv_I (show CDivW _ _ from ⟨by decide, by decide +kernel⟩))) (ev_var rfl) (ev_c (v := .int ((5 : Nat) : Int))) (Nat.lt_succ_self 5) fun H2 e2 => ?_
  have hb2 : 0 ≤ b / 4294967311 := Int.ediv_nonneg hb (by decide)
  generalize b / 4294967311 = b' at hb2
  have h2 : (upd H2 q (.lst ([V.int a', vN n, .int c.1, .int c.2, .int 0, .int b].set 5 (.int b')))) q = some (.lst [.int a', vN n, .int c.1, .int c.2, .int 0, .int b']) := upd_same
  have g0 : ∀ {H3 : Hp}, Ex (upd H2 q (.lst ([V.int a', vN n, .int c.1, .int c.2, .int 0, .int b].set 5 (.int b')))) H3 → Ev (tOp (rIxL K) (tVar 0) (tC (.int 0))) [some (.ref q)] H3 (.int a') := fun e => ev_op (ev_var rfl) ev_c (rv_ixL (sq_of (e _ _ h2)) (atI_nat (j := 0) rfl))
  refine s_ret (v := .int (((a' * a' + 7 * a') % 2147483629 / 3 + b') % 4294967311)) (ev_op (ev_op (ev_op (ev_op (ev_op (ev_op (g0 (Ex.refl _)) (g0 (Ex.refl _)) (rv_I (show CMul _ _ from .inl (by omega)))) (ev_op ev_c (g0 (Ex.refl _)) (rv_I (show CMul _ _ from .inl (by decide)))) rv_I0) ev_c (rv_I (show (0 : Int) < 2147483629 by decide))) ev_c (rv_I (show CDiv _ _ from ⟨by decide, by decide⟩))) (ev_op (ev_var rfl) ev_c (rv_ixL (sq_of h2) (atI_nat (j := 5) rfl))) rv_I0) ev_c (rv_I (show (0 : Int) < 4294967311 by decide))) fun H3 e3 => ?_
  refine k _ H3 (Int.emod_nonneg _ (by decide)) (Int.emod_lt_of_pos _ (by decide)) ?_ ⟨a', b', hm.1, hm.2, hb2, e3 _ _ h2⟩
  exact (((Sx.of e1).upd _).trans ((Sx.of e2).upd _)).trans (Sx.of e3)
/-- x = next(state) % k: what is asked of what follows -/
theorem te_next {Q : VK} (ha : Ev ta σ H (.ref q)) (hs : DSt q c n H) (k : ∀ (x : Int) H', 0 ≤ x → x < 4294967311 → Sx q H H' → DSt q c n H' → Q (.int x) H') : tFn (Sp1 (aNext c)) (tCons ta tNil) σ H Q :=
  ha H (Ex.refl _) _ fun H1 e1 => ⟨_, rfl, q, n, rfl, hs.ext e1, fun x H' h1 h2 h3 h4 => k x H' h1 h2 ((Sx.of e1).trans h3) h4⟩
theorem te_nextmod {Q : VK} {m : Int} (ha : Ev ta σ H (.ref q)) (hs : DSt q c n H) (hm : 0 < m) (k : ∀ (x : Int) H', 0 ≤ x → x < m → Sx q H H' → DSt q c n H' → Q (.int x) H') : tOp (rI (fun _ j => 0 < j) fun i j => .int (i % j)) (tFn (Sp1 (aNext c)) (tCons ta tNil)) (tC (.int m)) σ H Q :=
  te_next ha hs fun x H' _ _ h3 h4 => ⟨x, m, rfl, rfl, hm, k _ H' (Int.emod_nonneg _ (by omega)) (Int.emod_lt_of_pos _ hm) h3 h4⟩
end
/-! ### names -/
def letS (c : Cst) (i : Nat) : Str := ⟨#[97 + (((i : Int) + c.2) % 26).toNat]⟩
def baseL (c : Cst) : List Str := (List.range 6).map fun (k : Nat) => ⟨#[97 + ((c.2 / ((k : Int) + 2) + 3 * (k : Int)) % 26).toNat]⟩
def baseS (c : Cst) : Str := Txt.join "" (baseL c)
def nmOf (c : Cst) (i : Nat) : Str := if c.1 = 0 then letS c i else if c.1 = 1 then baseS c ++ letS c i ++ "x" else letS c i ++ cutS (baseS c) none (some 1)
theorem letters_at (k : Nat) (h : k < 26) : ("abcdefghijklmnopqrstuvwxyz" : Str).cps.toList[k]? = some (97 + k) := by
  have : ∀ k : Fin 26, ("abcdefghijklmnopqrstuvwxyz" : Str).cps.toList[k.val]? = some (97 + k.val) := by decide +kernel
  exact this ⟨k, h⟩
theorem base_len (c : Cst) : (baseS c).length = 6 := by
  unfold baseS baseL
  rw [TL.join_eq]
  show (Str.join "" [_, _, _, _, _, _]).length = 6
  have e : ("" : Str).length = 0 := rfl
  simp only [Str.join, PySem.Str.length_append, e]
  rfl
theorem cut_len (c : Cst) : (cutS (baseS c) none (some 1)).length = 1 := by
  unfold cutS
  show ((List.take _ (List.drop _ (baseS c).cps.toList)).toArray).size = 1
  have hl : (baseS c).cps.toList.length = 6 := base_len c
  rw [List.size_toArray, List.length_take, List.length_drop, hl, base_len c]
  rfl
theorem let_len (c : Cst) (i : Nat) : (letS c i).length = 1 := rfl
theorem nm_len (c : Cst) (i : Nat) : (nmOf c i).length ≤ 8 ∧ (nmOf c i).length ≠ 4 := by
  unfold nmOf
  have e : ("x" : Str).length = 1 := rfl
  split
  · rw [let_len]; omega
  · split
    · rw [PySem.Str.length_append, PySem.Str.length_append, base_len, let_len, e]; omega
    · rw [PySem.Str.length_append, let_len, cut_len]; omega
theorem nm_rest (c : Cst) (i : Nat) : nmOf c i ≠ "rest" := fun z => (nm_len c i).2 (by rw [z]; rfl)
theorem let_inj {c : Cst} {i j : Nat} (hi : i < 26) (hj : j < 26) (h : letS c i = letS c j) : i = j := by
  have h1 : (#[97 + (((i : Int) + c.2) % 26).toNat] : Array Nat) = #[97 + (((j : Int) + c.2) % 26).toNat] := congrArg Str.cps h
  have h2 : 97 + (((i : Int) + c.2) % 26).toNat = 97 + (((j : Int) + c.2) % 26).toNat := by simpa using h1
  omega
theorem app_left {a b x : Str} (h : x ++ a = x ++ b) : a = b := by
  refine Str.ext' ?_
  have h2 : x.cps ++ a.cps = x.cps ++ b.cps := congrArg Str.cps h
  have h3 := congrArg Array.toList h2
  rw [Array.toList_append, Array.toList_append] at h3
  exact Array.toList_inj.mp (List.append_cancel_left h3)
theorem app_right {a b x : Str} (h : a ++ x = b ++ x) : a = b := by
  refine Str.ext' ?_
  have h2 : a.cps ++ x.cps = b.cps ++ x.cps := congrArg Str.cps h
  have h3 := congrArg Array.toList h2
  rw [Array.toList_append, Array.toList_append] at h3
  exact Array.toList_inj.mp (List.append_cancel_right h3)
theorem nm_inj {c : Cst} {i j : Nat} (hi : i < 26) (hj : j < 26) (h : nmOf c i = nmOf c j) : i = j := by
  unfold nmOf at h
  split at h
  · exact let_inj hi hj h
  · split at h
    · exact let_inj hi hj (app_left (app_right h))
    · exact let_inj hi hj (app_right h)
end Fk

set_option Elab.async false
set_option linter.all false
set_option maxRecDepth 100000
set_option maxHeartbeats 4000000
set_option exponentiation.threshold 3000
namespace Fk
open PySem PySem.Spec PyProof.Rows L2 Evl
section
variable {P : Program} {w : World} {K : PySem.W.Frag} {mg : Str → Option Value} {base : Heap} {σ : L2.St} {G H H' : Hp} {te ta tb tc tl td ty tx : TE} {tt : TT} {tu tw tz : TS} {D : Ends} {q : Addr} {c : Cst} {n : Nat}
abbrev aName (c : Cst) : A1 := fun v H Q => ∃ q n, v = .ref q ∧ DSt q c n H ∧ n < 26 ∧ ∀ H', Sx q H H' → DSt q c (n + 1) H' → Q (.str (nmOf c n)) H'
theorem ev_letter {k : Int} {j : Nat} (h : σ[j]? = some (some (.str "abcdefghijklmnopqrstuvwxyz"))) (hk : Ev ta σ H (.int k)) : Ev (tOp rIxS (tVar j) (tOp (rI (fun _ j => 0 < j) fun i j => .int (i % j)) ta (tC (.int 26)))) σ H (.str ⟨#[97 + (k % 26).toNat]⟩) := by
  have h1 : 0 ≤ k % 26 := Int.emod_nonneg _ (by decide)
  have h2 : k % 26 < 26 := Int.emod_lt_of_pos _ (by decide)
  refine ev_op (ev_var h) (ev_op hk ev_c (rv_I (show (0 : Int) < 26 by decide))) (rv_ixS (by decide +kernel) ?_)
  have e : k % 26 = (((k % 26).toNat : Nat) : Int) := by omega
  rw [e]
  refine (atI_nat (letters_at _ (by omega))).trans ?_
  rw [Int.toNat_natCast]
theorem ev_slS {tl th : TO} {z : Str} {lo hi : Option Int} (h : Ev te σ H (.str z)) (h1 : EvO tl σ H lo) (h2 : EvO th σ H hi) (hz : z.length ≤ 100000) : Ev (tSl rSlS te tl th) σ H (.str (cutS z lo hi)) := fun H1 e Q q =>
  h H1 e _ fun H2 e2 => h1 H2 (e.trans e2) _ fun H3 e3 => h2 H3 ((e.trans e2).trans e3) _ fun H4 e4 => ⟨z, rfl, sz_of hz, q H4 ((e2.trans e3).trans e4)⟩
theorem ok_law_name (T : Tx K mg) : Pr P w K mg base 1 "_law_name" (Sp1 (aName c)) := by
  refine pr1 T.d__law_name T.g__law_name sc__law_name (fun _ _ _ _ _ _ us hl => match us, hl with | [_], _ => rfl) fun v H Q h cdv A outer s E hr hu => ?_
  obtain ⟨q, n, rfl, ⟨a, b, ha1, ha2, hb, hq⟩, hn, k⟩ := h
  refine ⟨_, (pss_cons (ps_set (i := 1) sc__law_name.nd rfl (.inr rfl) pe_str)
      (pss_cons (ps_set (i := 2) sc__law_name.nd rfl (.inl rfl) (pe_ix (ixLK (K := K) rfl) (pv 0) pe_int (fun _ _ => rfl)))
      (pss_cons (ps_asg (pe_op op_add (pv 2) pe_int) (pg_sub (pv 0) pe_int set_list))
      (pss_cons (ps_set (i := 3) sc__law_name.nd rfl (.inl rfl) (pe_ix ix_str (pv 1) (pe_op op_mod (pe_op op_add (pv 2) (pe_ix (ixLK (K := K) rfl) (pv 0) pe_int (fun _ _ => rfl))) pe_int) (fun _ _ => rfl)))
      (pss_cons (ps_if (pt_cmpR op_eq (pe_ix (ixLK (K := K) rfl) (pv 0) pe_int (fun _ _ => rfl)) pe_int (by rfl)) (pss_one (ps_ret (pe_op op_mul_s01 (pv 3) (pe_op op_add pe_int (pe_op op_fdiv (pv 2) pe_int))))) pss_nil)
      (pss_cons (ps_set (i := 4) sc__law_name.nd rfl (.inl rfl) (pe_join pe_str (pe_lc (own := [("_law_k", 5)]) rfl sc__law_name.nd (pi_range1 (by rfl) T.b_range (pa_cons pe_int pa_nil)) (blkOk_by (N := ["_law_state", "_law_letters", "_law_number_here", "_law_one", "_law_base", "_law_k"]) (sc := defScope s__law_name) (by decide +kernel)) (fun _ _ _ _ _ => (pg_name (i := 5) sc__law_name.nd rfl (Or.inl rfl))) (fun _ _ _ _ _ => pts_nil) (fun _ _ _ _ _ => (pe_ix ix_str (pv 1) (pe_op op_mod (pe_op op_add (pe_op op_fdivW (pe_ix (ixLK (K := K) rfl) (pv 0) pe_int (fun _ _ => rfl)) (pe_op op_add (pv 5) pe_int)) (pe_op op_mul pe_int (pv 5))) pe_int) (fun _ _ => rfl))))))
      (pss_cons (ps_if (pt_cmpR op_eq (pe_ix (ixLK (K := K) rfl) (pv 0) pe_int (fun _ _ => rfl)) pe_int (by rfl)) (pss_one (ps_ret (pe_op op_add_str (pe_op op_add_str (pv 4) (pv 3)) (pe_ix ix_str pe_str (pe_op op_mod (pe_op op_fdiv (pv 2) pe_int) pe_int) (fun _ _ => rfl))))) pss_nil)
      (pss_one (ps_ret (pe_op op_add_str (pv 3) (pe_slice sl_str (pv 4) po_none (po_some (pe_op op_add pe_int (pe_op op_fdiv (pv 2) pe_int)))))))))))))), ?_⟩
  refine q_asg ev_c fun H1 e1 => ?_
  refine q_asg (v := vN n) (ev_op (ev_var rfl) ev_c (rv_ixL (sq_of (e1 _ _ hq)) (atI_nat (j := 1) rfl))) fun H2 e2 => ?_
  refine q_setL (v := vN (n + 1)) (e2 _ _ (e1 _ _ hq)) (ev_is (ev_op (ev_var rfl) ev_c rv_I0) (congrArg V.int (by push_cast; rfl))) (ev_var rfl) (ev_c (v := .int ((1 : Nat) : Int))) (by simp) fun H3 e3 => ?_
  have h3 : (upd H3 q (.lst ([V.int a, vN n, .int c.1, .int c.2, .int 0, .int b].set 1 (vN (n + 1))))) q = some (.lst [.int a, vN (n + 1), .int c.1, .int c.2, .int 0, .int b]) := upd_same
  have sx : Sx q H (upd H3 q (.lst ([V.int a, vN n, .int c.1, .int c.2, .int 0, .int b].set 1 (vN (n + 1))))) := (Sx.of ((e1.trans e2).trans e3)).upd _
  generalize (upd H3 q (.lst ([V.int a, vN n, .int c.1, .int c.2, .int 0, .int b].set 1 (vN (n + 1))))) = H4 at h3 sx
  have dn : ∀ {H5 : Hp}, Ex H4 H5 → DSt q c (n + 1) H5 := fun e => ⟨a, b, ha1, ha2, hb, e _ _ h3⟩
  refine q_asg (v := .str (letS c n)) (ev_letter (k := (n : Int) + c.2) rfl (ev_op (ev_var rfl) (ev_op (ev_var rfl) ev_c (rv_ixL (sq_of h3) (atI_nat (j := 3) rfl))) rv_I0)) fun H5 e5 => ?_
  refine (sv_when (H := H5) (et_test (ev_op (ev_op (ev_var rfl) ev_c (rv_ixL (sq_of (e5 _ _ h3)) (atI_nat (j := 2) rfl))) ev_c (rv_eq rfl))) (fun e => ?_) fun e => ?_).here
  · have e : c.1 = 0 := V.int.inj (of_decide_eq_true e)
    refine sv_ret (v := .str (letS c n)) (ev_op (y := .int 1) (ev_var rfl) (ev_is (ev_op ev_c (ev_op (ev_var rfl) ev_c (rv_I (show CDiv _ _ from ⟨by decide, by decide⟩))) rv_I0) (congrArg V.int (by omega))) (rv_val fun H6 _ Q6 q6 => ⟨letS c n, true, rfl, rfl, q6⟩)) fun H6 e6 => ?_
    have := k H6 (sx.trans (Sx.of (e5.trans e6))) (dn (e5.trans e6))
    unfold nmOf at this
    rw [if_pos e] at this
    exact this
  · have e : ¬ c.1 = 0 := fun z => of_decide_eq_false e (congrArg V.int z)
    have hS : ∀ {H6 : Hp}, Ex H5 H6 → H6 q = some (.lst [.int a, vN (n + 1), .int c.1, .int c.2, .int 0, .int b]) := fun e6 => e6 _ _ (e5 _ _ h3)
    have hsum : ((baseL c).map (·.length)).sum + (baseL c).length * ("" : Str).length ≤ 16777216 := by
      show 6 + 6 * 0 ≤ 16777216
      decide
    refine sv_asg (v := .str (baseS c)) (fun H6 e6 Q6 q6 => ⟨⟨"", rfl⟩, (el_is (el_lcR1 (n := 6) (fun _ => true) (fun k => .str ⟨#[97 + ((c.2 / ((k : Int) + 2) + 3 * (k : Int)) % 26).toNat]⟩) (ea_cons ev_c ea_nil) (by decide) (fun _ => rfl) (fun _ _ _ _ => et_yes) fun i H7 e7 hi _ => ev_letter rfl (ev_op (ev_op (ev_op (ev_var (i := 0) rfl) ev_c (rv_ixL (sq_of (hS e7)) (atI_nat (j := 3) rfl))) (ev_op (ev_var rfl) ev_c rv_I0) (rv_I (show CDivW _ _ from ⟨by omega, Nat.lt_of_le_of_lt (Nat.log2_le_self _) (by omega)⟩))) (ev_op ev_c (ev_var rfl) (rv_I (show CMul _ _ from .inl (by decide)))) rv_I0)) (show _ = (baseL c).map V.str from rfl) : EvL _ _ H5 ((baseL c).map V.str)) H6 e6 _ fun p H7 _ e7 h7 => ⟨"", p, baseL c, rfl, rfl, .inl (sq_of h7), hsum, q6 H7 e7⟩⟩) ?_
    refine sv_when (et_test (ev_op (ev_op (ev_var rfl) ev_c (rv_ixL (sq_of (hS (Ex.refl _))) (atI_nat (j := 2) rfl))) ev_c (rv_eq rfl))) (fun e2 => ?_) fun e2 => ?_
    · have e2 : c.1 = 1 := V.int.inj (of_decide_eq_true e2)
      refine sv_ret (ev_addS (ev_addS (ev_var rfl) (ev_var rfl) (by rw [base_len, let_len]; omega)) (s := "x") ?_ (by rw [PySem.Str.length_append, base_len, let_len]; decide)) fun H6 e6 => ?_
      · refine ev_op (y := .int 0) ev_c (ev_is (ev_op (ev_op (ev_var rfl) ev_c (rv_I (show CDiv _ _ from ⟨by decide, by decide⟩))) ev_c (rv_I (show (0 : Int) < 2 by decide))) (congrArg V.int (by omega))) (rv_ixS (by decide +kernel) (atI_nat (j := 0) rfl))
      · have := k H6 (sx.trans (Sx.of (e5.trans e6))) (dn (e5.trans e6))
        unfold nmOf at this
        rw [if_neg e, if_pos e2] at this
        exact this
    · have e2 : ¬ c.1 = 1 := fun z => of_decide_eq_false e2 (congrArg V.int z)
      refine sv_ret (ev_addS (s := cutS (baseS c) none (some 1)) (ev_var rfl) ?_ (by rw [let_len, cut_len]; omega)) fun H6 e6 => ?_
      · exact ev_slS (ev_var rfl) eo_none (eo_some (ev_is (ev_op ev_c (ev_op (ev_var rfl) ev_c (rv_I (show CDiv _ _ from ⟨by decide, by decide⟩))) rv_I0) (congrArg V.int (show 1 + (n : Int) / 26 = 1 by omega)))) (by rw [base_len]; omega)
      · have := k H6 (sx.trans (Sx.of (e5.trans e6))) (dn (e5.trans e6))
        unfold nmOf at this
        rw [if_neg e, if_neg e2] at this
        exact this
theorem te_name {Q : VK} (ha : Ev ta σ H (.ref q)) (hs : DSt q c n H) (hn : n < 26) (k : ∀ H', Sx q H H' → DSt q c (n + 1) H' → Q (.str (nmOf c n)) H') : tFn (Sp1 (aName c)) (tCons ta tNil) σ H Q :=
  ha H (Ex.refl _) _ fun H1 e1 => ⟨_, rfl, q, n, rfl, hs.ext e1, hn, fun H' h1 h2 => k H' ((Sx.of e1).trans h1) h2⟩
end
end Fk

set_option Elab.async false
set_option linter.all false
set_option maxRecDepth 100000
set_option maxHeartbeats 4000000
set_option exponentiation.threshold 3000
namespace Fk
open PySem PySem.Spec PyProof.Rows L2 Evl
/-! ### what is drawn at once: names, controls, lengths -/
structure UW (c : Cst) (d n n' : Nat) (us : List Fld) : Prop where
  le : n ≤ n'
  nm : ∀ f ∈ us, ∃ i, n ≤ i ∧ i < n' ∧ f.nm = nmOf c i
  nd : (us.map Fld.nm).Nodup
  st : ∀ f ∈ us, ∀ c lo hi, f.k.bds = some (c, lo, hi) → ∃ g ∈ us, g.nm = c ∧ g.k.isCtl = true ∧ lo = g.k.least ∧ hi = g.k.greatest
  ct : ∀ g ∈ us, g.k.isCtl = true → g.k.dfl = .non ∧ ∃ f ∈ us, f.k.st = some g.nm
  us' : (us.filterMap fun f => f.k.st).Nodup
  fw : ∀ f ∈ us, FW d f
  m8 : ∀ w, SumB (LF d) us w → w % 8 = 0
  inh : ∃ w, SumB (LF d) us w
theorem UW.nil (c : Cst) (d n : Nat) : UW c d n n [] := by
  refine ⟨Nat.le_refl _, ?_, List.nodup_nil, ?_, ?_, List.nodup_nil, ?_, ?_, 0, rfl⟩
  · intro f h; cases h
  · intro f h; cases h
  · intro f h; cases h
  · intro f h; cases h
  · intro w h
    have h : w = 0 := h
    omega
theorem UW.mono {c : Cst} {d n n' m m' : Nat} {us : List Fld} (h : UW c d n n' us) (h1 : m ≤ n) (h2 : n' ≤ m') : UW c d m m' us :=
  ⟨by have := h.le; omega, fun f hf => let ⟨i, a, b, e⟩ := h.nm f hf; ⟨i, by omega, by omega, e⟩, h.nd, h.st, h.ct, h.us', h.fw, h.m8, h.inh⟩
theorem UW.few {c : Cst} {d n n' : Nat} {us : List Fld} (h : UW c d n n' us) : us.length ≤ n' - n := by
  have := nd_sub h.nd (ys := (List.range (n' - n)).map fun i => nmOf c (n + i)) fun x hx => by
    obtain ⟨f, hf, rfl⟩ := List.mem_map.mp hx
    obtain ⟨i, a, b, e⟩ := h.nm f hf
    exact List.mem_map.mpr ⟨i - n, List.mem_range.mpr (by omega), by rw [e, show n + (i - n) = i by omega]⟩
  rwa [List.length_map, List.length_map, List.length_range] at this
theorem UW.wd {c : Cst} {d n n' : Nat} {us : List Fld} (h : UW c d n n' us) (hn : n' ≤ 26) : WD (d + 1) us := by
  refine ⟨h.nd, fun f hf => ?_, fun f hf => ?_, ?_, h.st, h.ct, h.us', h.fw, h.m8, h.inh⟩
  · obtain ⟨i, _, _, e⟩ := h.nm f hf
    rw [e]
    exact nm_rest c i
  · obtain ⟨i, _, _, e⟩ := h.nm f hf
    rw [e]
    have := (nm_len c i).1
    omega
  · have := h.few
    omega
theorem SumB.app {F : Fld → Nat → Prop} : ∀ {a b : List Fld} {w : Nat}, SumB F (a ++ b) w ↔ ∃ u v, SumB F a u ∧ SumB F b v ∧ w = u + v
  | [], b, w => ⟨fun h => ⟨0, w, rfl, h, by omega⟩, fun ⟨u, v, h1, h2, e⟩ => by cases h1; rw [Nat.zero_add] at e; exact e ▸ h2⟩
  | f :: a, b, w => ⟨fun ⟨x, y, h1, h2, e⟩ => by
      obtain ⟨u, v, h3, h4, e2⟩ := SumB.app.mp h2
      exact ⟨x + u, v, ⟨x, u, h1, h3, rfl⟩, h4, by omega⟩, fun ⟨u, v, ⟨x, y, h1, h2, e⟩, h3, e2⟩ => ⟨x, y + v, h1, SumB.app.mpr ⟨y, v, h2, h3, rfl⟩, by omega⟩⟩
theorem UW.app {c : Cst} {d n n' : Nat} {us vs : List Fld} (h1 : UW c d n n' us) (h2 : UW c d n n' vs) (hd : ∀ f ∈ us, ∀ g ∈ vs, f.nm ≠ g.nm) : UW c d n n' (us ++ vs) := by
  refine ⟨h1.le, fun f hf => ?_, ?_, fun f hf c lo hi hb => ?_, fun g hg hc => ?_, ?_, fun f hf => ?_, fun w hw => ?_, ?_⟩
  · exact (List.mem_append.mp hf).elim (h1.nm f) (h2.nm f)
  · rw [List.map_append, List.nodup_append]
    refine ⟨h1.nd, h2.nd, fun a ha b hb e => ?_⟩
    obtain ⟨f, hf, rfl⟩ := List.mem_map.mp ha
    obtain ⟨g, hg, rfl⟩ := List.mem_map.mp hb
    exact hd f hf g hg e
  · rcases List.mem_append.mp hf with h | h
    · obtain ⟨g, hg, e⟩ := h1.st f h c lo hi hb
      exact ⟨g, List.mem_append_left _ hg, e⟩
    · obtain ⟨g, hg, e⟩ := h2.st f h c lo hi hb
      exact ⟨g, List.mem_append_right _ hg, e⟩
  · rcases List.mem_append.mp hg with h | h
    · obtain ⟨a, f, hf, e⟩ := h1.ct g h hc
      exact ⟨a, f, List.mem_append_left _ hf, e⟩
    · obtain ⟨a, f, hf, e⟩ := h2.ct g h hc
      exact ⟨a, f, List.mem_append_right _ hf, e⟩
  · rw [List.filterMap_append, List.nodup_append]
    refine ⟨h1.us', h2.us', fun a ha b hb e => ?_⟩
    have key : ∀ {xs : List Fld} {x : Str}, (∀ f ∈ xs, ∀ c lo hi, f.k.bds = some (c, lo, hi) → ∃ g ∈ xs, g.nm = c ∧ g.k.isCtl = true ∧ lo = g.k.least ∧ hi = g.k.greatest) → x ∈ xs.filterMap (fun f => f.k.st) → ∃ g ∈ xs, g.nm = x := by
      intro xs x hst hx
      obtain ⟨f, hf, e⟩ := List.mem_filterMap.mp hx
      unfold Kd.st at e
      cases hb : f.k.bds with
      | none => rw [hb] at e; cases e
      | some b =>
        obtain ⟨c, lo, hi⟩ := b
        rw [hb] at e
        obtain ⟨g, hg, e1, _⟩ := hst f hf c lo hi hb
        exact ⟨g, hg, e1.trans (Option.some.inj e)⟩
    obtain ⟨f, hf, rfl⟩ := key h1.st ha
    obtain ⟨g, hg, rfl⟩ := key h2.st hb
    exact hd f hf g hg e
  · exact (List.mem_append.mp hf).elim (h1.fw f) (h2.fw f)
  · obtain ⟨u, v, a, b, e⟩ := SumB.app.mp hw
    have := h1.m8 u a
    have := h2.m8 v b
    omega
  · obtain ⟨u, a⟩ := h1.inh
    obtain ⟨v, b⟩ := h2.inh
    exact ⟨u + v, SumB.app.mpr ⟨u, v, a, b, rfl⟩⟩
/-- names of ranges apart -/
theorem nm_apart {c : Cst} {d d' n m k l : Nat} {us vs : List Fld} (h1 : UW c d n m us) (h2 : UW c d' k l vs) (hk : m ≤ k) (hl : l ≤ 26) : ∀ f ∈ us, ∀ g ∈ vs, f.nm ≠ g.nm := fun f hf g hg e => by
  obtain ⟨i, a1, a2, a3⟩ := h1.nm f hf
  obtain ⟨j, b1, b2, b3⟩ := h2.nm g hg
  rw [a3, b3] at e
  have := nm_inj (by omega) (by omega) e
  omega
theorem UW.app2 {c : Cst} {d n m k : Nat} {us vs : List Fld} (h1 : UW c d n m us) (h2 : UW c d m k vs) (hk : k ≤ 26) : UW c d n k (us ++ vs) :=
  (h1.mono (Nat.le_refl _) h2.le).app (h2.mono h1.le (Nat.le_refl _)) (nm_apart h1 h2 (Nat.le_refl _) hk)
/-! ### leaves, at any depth -/
theorem leaf_fw {d d' : Nat} {f : Fld} (hl : f.k.leaf = true) (h : FW d f) : FW d' f := by
  obtain ⟨p, nm, k, l, ss⟩ := f
  cases k <;> first | exact h | cases hl
theorem leaf_lf {d d' : Nat} {f : Fld} {w : Nat} (hl : f.k.leaf = true) (h : LF d f w) : LF d' f w := by
  obtain ⟨p, nm, k, l, ss⟩ := f
  cases k <;> first | exact h | cases hl
theorem leaf_sum {d d' : Nat} {us : List Fld} {w : Nat} (hl : ∀ f ∈ us, f.k.leaf = true) (h : SumB (LF d) us w) : SumB (LF d') us w := SumB.imp h fun f hf w => leaf_lf (hl f hf)
theorem UW.leaf {c : Cst} {d d' n n' : Nat} {us : List Fld} (hl : ∀ f ∈ us, f.k.leaf = true) (h : UW c d n n' us) : UW c d' n n' us :=
  ⟨h.le, h.nm, h.nd, h.st, h.ct, h.us', fun f hf => leaf_fw (hl f hf) (h.fw f hf), fun w hw => h.m8 w (leaf_sum hl hw), let ⟨w, hw⟩ := h.inh; ⟨w, leaf_sum hl hw⟩⟩
theorem leaf_fat {K : PySem.W.Frag} {H : Hp} {L L' : Addr → List Fld → Prop} {f : Fld} (hl : f.k.leaf = true) (h : FAtB K H L f) : FAtB K H L' f := ⟨h.ob, h.sh, fun _ z => (by rw [hl] at z; cases z), fun s hs => by rw [h.sh.2 hl] at hs; cases hs⟩
theorem leaf_at {K : PySem.W.Frag} {H : Hp} {L : Addr → List Fld → Prop} {x dx : Addr} {nm : Str} {k : Kd} {at_ : List (Str × V)} (hl : k.leaf = true) (h : H x = some (.ins (He.ga K k.cls) dx at_)) (ha : at_ = (Fld.mk x nm k 0 []).attrs) : FAtB K H L (Fld.mk x nm k 0 []) := by
  subst ha
  refine ⟨⟨dx, h⟩, ⟨fun z => ?_, fun _ => rfl⟩, fun _ z => ?_, fun s hs => nomatch hs⟩
  · exfalso
    have z : k.one = true := z
    cases k <;> first | exact Bool.noConfusion z | exact Bool.noConfusion hl
  · rw [show (Fld.mk x nm k 0 []).k.leaf = k.leaf from rfl, hl] at z
    cases z
/-- one field alone -/
theorem UW.one {c : Cst} {d n : Nat} {f : Fld} (hn : f.nm = nmOf c n) (hb : f.k.bds = none) (hc : f.k.isCtl = false) (hw : FW d f) (h8 : ∀ w, LF d f w → w % 8 = 0) (hi : ∃ w, LF d f w) : UW c d n (n + 1) [f] := by
  refine ⟨by omega, fun g hg => ?_, List.nodup_cons.mpr ⟨List.not_mem_nil, List.nodup_nil⟩, fun g hg c' lo hi' h => ?_, fun g hg h => ?_, ?_, fun g hg => ?_, fun w hw => ?_, ?_⟩
  · rw [List.mem_singleton.mp hg]
    exact ⟨n, by omega, by omega, hn⟩
  · rw [List.mem_singleton.mp hg, hb] at h
    cases h
  · rw [List.mem_singleton.mp hg, hc] at h
    cases h
  · have : f.k.st = none := by unfold Kd.st; rw [hb]; rfl
    rw [List.filterMap_cons_none (f := fun f : Fld => f.k.st) this]
    exact List.nodup_nil
  · rw [List.mem_singleton.mp hg]
    exact hw
  · obtain ⟨a, b, h1, h2, e⟩ := hw
    have h2 : b = 0 := h2
    have := h8 a h1
    omega
  · obtain ⟨w, h⟩ := hi
    exact ⟨w + 0, w, 0, h, rfl, rfl⟩
/-- a control and what it steers -/
theorem UW.two {c : Cst} {d n n' i j : Nat} {g f : Fld} (hi : g.nm = nmOf c i) (hj : f.nm = nmOf c j) (hne : i ≠ j) (h1 : n ≤ i ∧ i < n' ∧ n ≤ j ∧ j < n') (hn' : n' ≤ 26) (hg : g.k.isCtl = true) (hgd : g.k.dfl = .non) (hb : f.k.bds = some (g.nm, g.k.least, g.k.greatest)) (hwg : FW d g) (hw : FW d f) (h8g : ∀ w, LF d g w → w % 8 = 0) (h8 : ∀ w, LF d f w → w % 8 = 0) (hig : ∃ w, LF d g w) (hif : ∃ w, LF d f w) : UW c d n n' [g, f] := by
  have hnn : g.nm ≠ f.nm := fun e => hne (nm_inj (by omega) (by omega) (by rw [← hi, ← hj, e]))
  have hgb : g.k.bds = none := by
    obtain ⟨p, nm, k, l, ss⟩ := g
    cases k <;> first | rfl | cases hg
  have hfc : f.k.isCtl = false := by
    obtain ⟨p, nm, k, l, ss⟩ := f
    cases k <;> first | rfl | cases hb
  have hst : f.k.st = some g.nm := by unfold Kd.st; rw [hb]; rfl
  have hgs : g.k.st = none := by unfold Kd.st; rw [hgb]; rfl
  have mem : ∀ {x : Fld}, x ∈ [g, f] → x = g ∨ x = f := fun h => by simpa using h
  refine ⟨by omega, fun x hx => ?_, ?_, fun x hx c' lo hi' h => ?_, fun x hx h => ?_, ?_, fun x hx => ?_, fun w hw => ?_, ?_⟩
  · rcases mem hx with rfl | rfl
    · exact ⟨i, by omega, by omega, hi⟩
    · exact ⟨j, by omega, by omega, hj⟩
  · show [g.nm, f.nm].Nodup
    simp [hnn]
  · rcases mem hx with rfl | rfl
    · rw [hgb] at h
      cases h
    · rw [hb] at h
      cases h
      exact ⟨g, by simp, rfl, hg, rfl, rfl⟩
  · rcases mem hx with rfl | rfl
    · exact ⟨hgd, f, by simp, hst⟩
    · rw [hfc] at h
      cases h
  · rw [List.filterMap_cons_none (f := fun f : Fld => f.k.st) hgs, List.filterMap_cons_some (f := fun f : Fld => f.k.st) hst]
    exact List.nodup_cons.mpr ⟨List.not_mem_nil, List.nodup_nil⟩
  · rcases mem hx with rfl | rfl
    · exact hwg
    · exact hw
  · obtain ⟨a, b, h1, ⟨a2, b2, h3, h4, e2⟩, e⟩ := hw
    have h4 : b2 = 0 := h4
    have := h8g a h1
    have := h8 a2 h3
    omega
  · obtain ⟨a, ha⟩ := hig
    obtain ⟨b, hb⟩ := hif
    exact ⟨a + (b + 0), a, b + 0, ha, ⟨b, 0, hb, rfl, rfl⟩, rfl⟩
theorem sum_one {F : Fld → Nat → Prop} {f : Fld} {w : Nat} (h : SumB F [f] w) : F f w := by
  obtain ⟨a, b, h1, h2, e⟩ := h
  have h2 : b = 0 := h2
  have : w = a := by omega
  exact this ▸ h1
theorem sum_two {F : Fld → Nat → Prop} {f g : Fld} {w : Nat} (h : SumB F [f, g] w) : ∃ a b, F f a ∧ F g b ∧ w = a + b := by
  obtain ⟨a, b, h1, h2, e⟩ := h
  exact ⟨a, b, h1, sum_one h2, e⟩
end Fk

set_option Elab.async false
set_option linter.all false
set_option maxRecDepth 100000
set_option maxHeartbeats 4000000
set_option exponentiation.threshold 3000
namespace Fk
open PySem PySem.Spec PyProof.Rows L2 Evl
/-- between draws: G is what is built, H the heap, n names are drawn -/
structure At (q : Addr) (c : Cst) (n : Nat) (G H : Hp) : Prop where
  ex : Ex G H
  no : G q = none
  st : DSt q c n H
section
variable {q : Addr} {c : Cst} {n n' : Nat} {G G' H H' : Hp}
theorem At.us (a : At q c n G H) (u : Us q G H G' H') (d : DSt q c n' H') : At q c n' G' H' := ⟨u.sub, let ⟨_, _, _, _, _, h⟩ := a.st; u.no h a.no, d⟩
theorem At.sx (a : At q c n G H) (s : Sx q H H') (d : DSt q c n' H') : At q c n' G H' := a.us (s.us a.ex a.no) d
theorem At.ext (a : At q c n G H) (e : Ex H H') : At q c n G H' := ⟨a.ex.trans e, a.no, a.st.ext e⟩
theorem At.sus (a : At q c n G H) (s : Sx q H H') : Us q G H G H' := s.us a.ex a.no
theorem us_new (a : At q c n G H) (e : Ex H H') {x : Addr} {o : HO} (hx : H x = none) (h : H' x = some o) : Us q G H (upd G x o) H' :=
  ((Us.refl (q := q) a.ex).ext e).add (fun z => a.st.ne (z ▸ hx)) hx h (fresh_back a.ex hx)
end
section
variable {P : Program} {w : World} {K : PySem.W.Frag} {mg : Str → Option Value} {base : Heap} {σ : L2.St} {G H H' : Hp} {te ta tb tc tl td ty tx tv : TE} {tt : TT} {tu tw tz : TS} {D : Ends} {q : Addr} {c : Cst} {n i : Nat} {Q : VK} {v : V} {t tr : TA} {QA : List V → Hp → Prop} {r : R2} {sp : Sp}
theorem te_op (h : ta σ H fun x H1 => tb σ H1 fun y H2 => r x y H2 Q) : tOp r ta tb σ H Q := h
theorem te_fn (h : t σ H fun vs H1 => sp vs H1 Q E0) : tFn sp t σ H Q := h
theorem ta_cons (h : ta σ H fun x H1 => tr σ H1 fun xs H2 => QA (x :: xs) H2) : tCons ta tr σ H QA := h
theorem ta_nil (h : QA [] H) : tNil σ H QA := h
theorem te_var (h : σ[i]? = some (some v)) (k : Q v H) : tVar i σ H Q := ⟨v, h, k⟩
theorem te_subI {a b : Int} (k : Q (.int (a - b)) H) : rI0 (fun i j => .int (i - j)) (.int a) (.int b) H Q := ⟨a, b, rfl, rfl, k⟩
theorem te_addI {a b : Int} (k : Q (.int (a + b)) H) : rI0 (fun i j => .int (i + j)) (.int a) (.int b) H Q := ⟨a, b, rfl, rfl, k⟩
theorem te_c (k : Q v H) : tC v σ H Q := k
theorem te_ev (h : Ev te σ H v) (k : ∀ H', Ex H H' → Q v H') : te σ H Q := h H (Ex.refl _) _ k
theorem q_asgT (h : te σ H fun x H1 => tz D (σ.set i (some x)) H1) : tSeq (tAsg te (gName i)) tz D σ H := h
theorem s_asgT (h : te σ H fun x H1 => D.nx (σ.set i (some x)) H1) : tAsg te (gName i) D σ H := h
theorem s_retT (h : te σ H D.rt) : tRet te D σ H := h
theorem te_lst1 (h : ta σ H fun x H1 => ([x] : List V).length ≤ sizeLine ∧ ∀ p, H1 p = none → Q (.ref p) (upd H1 p (.lst [x]))) : tLst (tCons ta tNil) σ H Q := h
theorem te_lst2 (h : ta σ H fun x H1 => tb σ H1 fun y H2 => ([x, y] : List V).length ≤ sizeLine ∧ ∀ p, H2 p = none → Q (.ref p) (upd H2 p (.lst [x, y]))) : tLst (tCons ta (tCons tb tNil)) σ H Q := h
/-- next(state) % m: any number below m -/
theorem te_nm {m : Int} (h0 : σ[i]? = some (some (.ref q))) (hs : DSt q c n H) (hm : 0 < m) (k : ∀ (x : Int) H', 0 ≤ x → x < m → Sx q H H' → DSt q c n H' → Q (.int x) H') : tOp (rI (fun _ j => 0 < j) fun i j => .int (i % j)) (tFn (Sp1 (aNext c)) (tCons (tVar i) tNil)) (tC (.int m)) σ H Q :=
  te_nextmod (ev_var h0) hs hm k
/-- next(state) % m == j -/
theorem te_nmeq {m j : Int} (h0 : σ[i]? = some (some (.ref q))) (hs : DSt q c n H) (hm : 0 < m) (k : ∀ (b : Bool) H', Sx q H H' → DSt q c n H' → Q (.bl b) H') : tOp rEq (tOp (rI (fun _ j => 0 < j) fun i j => .int (i % j)) (tFn (Sp1 (aNext c)) (tCons (tVar i) tNil)) (tC (.int m))) (tC (.int j)) σ H Q :=
  te_op (te_nm h0 hs hm fun x H' _ _ s d => ⟨rfl, k _ H' s d⟩)
theorem te_and (h : ta σ H fun x H1 => ∃ b, x = .bl b ∧ if b = true then tb σ H1 Q else Q (.bl false) H1) : tAndV ta tb σ H Q := h
/-- [..][next(state) % m] -/
theorem te_pick {vs : List V} {m : Int} (hv : EvA t σ H vs) (h0 : σ[i]? = some (some (.ref q))) (hs : DSt q c n H) (hm : (vs.length : Int) = m) (hp : 0 < m) (hz : vs.length ≤ 1000) (k : ∀ v H', v ∈ vs → Sx q H H' → DSt q c n H' → Q v H') :
    tOp (rIxL K) (tLst t) (tOp (rI (fun _ j => 0 < j) fun i j => .int (i % j)) (tFn (Sp1 (aNext c)) (tCons (tVar i) tNil)) (tC (.int m))) σ H Q :=
  (el_lst hv (by omega)) H (Ex.refl _) _ fun p H1 hp1 e1 h1 => te_nm h0 (hs.ext e1) hp fun x H2 hx1 hx2 s2 d2 => by
    obtain ⟨j, rfl⟩ : ∃ j : Nat, x = (j : Int) := ⟨x.toNat, by omega⟩
    have hj : j < vs.length := by omega
    have hne : p ≠ q := fun z => hs.ne (z ▸ hp1)
    exact ⟨p, vs, _, vs[j], rfl, rfl, sq_of (s2.eh _ _ hne h1), atI_nat (List.getElem?_eq_getElem hj), k _ H2 (List.getElem_mem hj) ((Sx.of e1).trans s2) d2⟩
theorem te_andnm {b : Bool} {m j : Int} (ha : Ev ta σ H (.bl b)) (h0 : σ[i]? = some (some (.ref q))) (hs : DSt q c n H) (hm : 0 < m) (k : ∀ (b : Bool) H', Sx q H H' → DSt q c n H' → Q (.bl b) H') : tAndV ta (tOp rEq (tOp (rI (fun _ j => 0 < j) fun i j => .int (i % j)) (tFn (Sp1 (aNext c)) (tCons (tVar i) tNil)) (tC (.int m))) (tC (.int j))) σ H Q :=
  te_and (te_ev ha fun H3 e3 => ⟨b, rfl, by
    split
    · exact te_nmeq h0 (hs.ext e3) hm fun lt H4 s4 d4 => k lt H4 ((Sx.of e3).trans s4) d4
    · exact k false H3 (Sx.of e3) (hs.ext e3)⟩)
/-! ### numbers -/
abbrev NoL : Addr → List Fld → Prop := fun _ _ => False
abbrev aNumber (K : PySem.W.Frag) (c : Cst) : A1 := fun v H Q => ∃ q n G, v = .ref q ∧ At q c n G H ∧ n < 26 ∧ ∀ (f : Fld) H' G', Us q G H G' H' → DSt q c (n + 1) H' → f.nm = nmOf c n → (∃ w sg lt lo hi, f.k = .num w sg lt lo hi none false ∧ w ≤ 32 ∧ w % 8 = 0) → FAtB K G' NoL f → (∀ d, FW d f) → Q f.v H'
theorem num_fw {x l : Addr} {nm : Str} {w : Nat} {sg lt c : Bool} {lo hi : Option Int} {ss : List (Addr × Int × Addr × List Fld)} (h1 : 1 ≤ w) (h2 : w ≤ 32) (h3 : (Kd.num w sg lt lo hi none c).least ≤ (Kd.num w sg lt lo hi none c).greatest) (d : Nat) : FW d (Fld.mk x nm (.num w sg lt lo hi none c) l ss) := ⟨h1, h2, h3, fun i h => nomatch h⟩
theorem pow2_ge {w : Nat} (h : 1 ≤ w) : (1 : Int) ≤ 2 ^ (w - 1) := by
  have : 0 < 2 ^ (w - 1) := Nat.two_pow_pos _
  have e : ((2 ^ (w - 1) : Nat) : Int) = 2 ^ (w - 1) := by push_cast; rfl
  omega
theorem pow8_ge {w : Nat} (h : 8 ≤ w) : (256 : Int) ≤ 2 ^ w ∧ (128 : Int) ≤ 2 ^ (w - 1) := by
  have h1 : 2 ^ 8 ≤ 2 ^ w := Nat.pow_le_pow_right (by decide) h
  have h2 : 2 ^ 7 ≤ 2 ^ (w - 1) := Nat.pow_le_pow_right (by decide) (by omega)
  have e1 : ((2 ^ w : Nat) : Int) = 2 ^ w := by push_cast; rfl
  have e2 : ((2 ^ (w - 1) : Nat) : Int) = 2 ^ (w - 1) := by push_cast; rfl
  omega
theorem ok_law_number (T : Tx K mg) : Pr P w K mg base 4 "_law_number" (Sp1 (aNumber K c)) := by
  have G__law_next := ok_law_next (P := P) (w := w) (base := base) (c := c) T
  have G__law_name := ok_law_name (P := P) (w := w) (base := base) (c := c) T
  have G_Number4 := new_Number4 (P := P) (w := w) (base := base) T
  have G_Number5 := new_Number5 (P := P) (w := w) (base := base) T
  have G_Number6 := new_Number6 (P := P) (w := w) (base := base) T
  refine pr1 T.d__law_number T.g__law_number sc__law_number (fun _ _ _ _ _ _ us hl => match us, hl with | [_], _ => rfl) fun v H Q h cdv A outer s E hr hu => ?_
  obtain ⟨q, n, G, rfl, a, hn, k⟩ := h
  refine ⟨_, (pss_cons (ps_set (i := 1) sc__law_number.nd rfl (.inl rfl) (pe_ix (ixLK (K := K) rfl) (pe_lst (pa_cons pe_int (pa_cons pe_int (pa_cons pe_int (pa_cons pe_int (pa_cons pe_int pa_nil)))))) (pe_op op_mod (pe_fn G__law_next (hr.mono (by omega)) (by rfl) (pa_cons (pv 0) pa_nil)) pe_int) (fun _ _ => rfl)))
      (pss_cons (ps_set (i := 2) sc__law_number.nd rfl (.inl rfl) (pe_cmpR op_eq (pe_op op_mod (pe_fn G__law_next (hr.mono (by omega)) (by rfl) (pa_cons (pv 0) pa_nil)) pe_int) pe_int (by rfl)))
      (pss_cons (ps_set (i := 3) sc__law_number.nd rfl (.inl rfl) (pe_and (pe_cmpR op_gt (pv 1) pe_int (by rfl)) (pe_one (pe_cmpR op_eq (pe_op op_mod (pe_fn G__law_next (hr.mono (by omega)) (by rfl) (pa_cons (pv 0) pa_nil)) pe_int) pe_int (by rfl)))))
      (pss_cons (ps_set (i := 4) sc__law_number.nd rfl (.inl rfl) (pe_op op_mod (pe_fn G__law_next (hr.mono (by omega)) (by rfl) (pa_cons (pv 0) pa_nil)) pe_int))
      (pss_cons (ps_if (pt_cmpR op_lt (pv 4) pe_int (by rfl)) (pss_one (ps_ret (pe_new G_Number4 (hr.mono (by omega)) (by rfl) (pa_cons (pe_fn G__law_name (hr.mono (by omega)) (by rfl) (pa_cons (pv 0) pa_nil)) (pa_cons (pv 1) (pa_cons (pv 2) (pa_cons (pv 3) pa_nil))))))) pss_nil)
      (pss_cons (ps_set (i := 5) sc__law_number.nd rfl (.inl rfl) (pe_op op_sub (pe_op op_mod (pe_fn G__law_next (hr.mono (by omega)) (by rfl) (pa_cons (pv 0) pa_nil)) pe_int) (pe_op op_mul pe_int (pe_callTy call_int1 (by rfl) T.b_int (by decide +kernel) (pa_cons (pv 2) pa_nil)))))
      (pss_cons (ps_if (pt_cmpR op_eq (pv 4) pe_int (by rfl)) (pss_one (ps_ret (pe_new G_Number5 (hr.mono (by omega)) (by rfl) (pa_cons (pe_fn G__law_name (hr.mono (by omega)) (by rfl) (pa_cons (pv 0) pa_nil)) (pa_cons (pv 1) (pa_cons (pv 2) (pa_cons (pv 3) (pa_cons (pv 5) pa_nil)))))))) pss_nil)
      (pss_one (ps_ret (pe_new G_Number6 (hr.mono (by omega)) (by rfl) (pa_cons (pe_fn G__law_name (hr.mono (by omega)) (by rfl) (pa_cons (pv 0) pa_nil)) (pa_cons (pv 1) (pa_cons (pv 2) (pa_cons (pv 3) (pa_cons (pv 5) (pa_cons (pe_op op_add (pv 5) (pe_op op_mod (pe_fn G__law_next (hr.mono (by omega)) (by rfl) (pa_cons (pv 0) pa_nil)) pe_int)) pa_nil)))))))))))))))), ?_⟩
  refine q_asgT (te_pick (ea_cons ev_c (ea_cons ev_c (ea_cons ev_c (ea_cons ev_c (ea_cons ev_c ea_nil))))) rfl a.st rfl (by decide) (by simp) fun wv H1 hw s1 d1 => ?_)
  obtain ⟨wd, rfl, hw8, hw32, hwm⟩ : ∃ wd : Nat, wv = vN wd ∧ 8 ≤ wd ∧ wd ≤ 32 ∧ wd % 8 = 0 := by
    simp only [List.mem_cons, List.not_mem_nil, or_false] at hw
    rcases hw with rfl | rfl | rfl | rfl | rfl
    · exact ⟨8, rfl, by decide, by decide, rfl⟩
    · exact ⟨8, rfl, by decide, by decide, rfl⟩
    · exact ⟨16, rfl, by decide, by decide, rfl⟩
    · exact ⟨24, rfl, by decide, by decide, rfl⟩
    · exact ⟨32, rfl, by decide, by decide, rfl⟩
  obtain ⟨p1, p2⟩ := pow8_ge hw8
  refine q_asgT (te_nmeq rfl d1 (by decide) fun sg H2 s2 d2 => ?_)
  refine q_asgT (te_andnm (b := decide ((8 : Int) < (wd : Int))) (ev_op (ev_var rfl) ev_c rv_I0) rfl d2 (by decide) fun lt H4 s4' d4 => ?_)
  have s4 := (s1.trans s2).trans s4'
  refine q_asgT (te_nm rfl d4 (by decide) fun way H5 hx1 hx2 s5 d5 => ?_)
  have s45 := s4.trans s5
  refine (sv_when (H := H5) (et_test (ev_op (ev_var rfl) ev_c rv_I0)) (fun hb H6 e6 => ?_) fun hb H6 e6 => ?_).here
  · refine s_retT (te_fn (ta_cons (te_name (ev_var rfl) (d5.ext e6) hn fun H7 s7 d7 => ta_cons (te_var rfl (ta_cons (te_var rfl (ta_cons (te_var rfl (ta_nil ⟨rfl, fun x H8 dx hx e8 h8 => ?_⟩)))))))))
    have sA := (s45.trans (Sx.of e6)).trans s7
    have aA := a.sx sA d7
    refine k ⟨x, nmOf c n, .num wd sg lt none none none false, 0, []⟩ H8 _ ((a.sus sA).trans (us_new aA e8 hx h8)) (d7.ext e8) rfl ⟨_, _, _, _, _, rfl, hw32, hwm⟩ (leaf_at rfl upd_same rfl) fun d => num_fw (by omega) hw32 ?_ d
    show (if sg = true then -(2 ^ (wd - 1)) else (0 : Int)) ≤ (if sg = true then 2 ^ (wd - 1) - 1 else 2 ^ wd - 1)
    cases sg <;> simp <;> omega
  · have d6 := d5.ext e6
    refine q_asgT (te_op (te_nm rfl d6 (by decide) fun y H7 hy1 hy2 s7 d7 => te_ev (v := .int (60 * (if sg then 1 else 0))) (ev_op ev_c (ev_int1b (ev_var rfl)) (rv_I (show CMul _ _ from .inl (by decide)))) fun H8 e8 => te_subI ?_))
    generalize hlo : y - 60 * (if sg then 1 else 0) = lo
    have hlob : -60 ≤ lo ∧ lo ≤ 89 ∧ (sg = false → 0 ≤ lo) ∧ (sg = true → lo ≤ 29) := by cases sg <;> simp at hlo <;> simp <;> omega
    have s8 := ((s45.trans (Sx.of e6)).trans s7).trans (Sx.of e8)
    have d8 := d7.ext e8
    refine (sv_when (H := H8) (et_test (ev_op (ev_var rfl) ev_c (rv_eq rfl))) (fun hb H9 e9 => ?_) fun hb H9 e9 => ?_).here
    · refine s_retT (te_fn (ta_cons (te_name (ev_var rfl) (d8.ext e9) hn fun H10 s10 d10 => ta_cons (te_var rfl (ta_cons (te_var rfl (ta_cons (te_var rfl (ta_cons (te_var rfl (ta_nil ⟨rfl, fun x H11 dx hx e11 h11 => ?_⟩)))))))))))
      have sA := (s8.trans (Sx.of e9)).trans s10
      have aA := a.sx sA d10
      refine k ⟨x, nmOf c n, .num wd sg lt (some lo) none none false, 0, []⟩ H11 _ ((a.sus sA).trans (us_new aA e11 hx h11)) (d10.ext e11) rfl ⟨_, _, _, _, _, rfl, hw32, hwm⟩ (leaf_at rfl upd_same rfl) fun d => num_fw (by omega) hw32 ?_ d
      show lo ≤ (if sg = true then 2 ^ (wd - 1) - 1 else 2 ^ wd - 1)
      cases sg <;> simp <;> simp at hlob <;> omega
    · refine s_retT (te_fn (ta_cons (te_name (ev_var rfl) (d8.ext e9) hn fun H10 s10 d10 => ta_cons (te_var rfl (ta_cons (te_var rfl (ta_cons (te_var rfl (ta_cons (te_var rfl (ta_cons (te_op (te_var rfl (te_nm rfl d10 (by decide) fun z H11 hz1 hz2 s11 d11 => ⟨_, _, rfl, rfl, ta_nil ⟨rfl, fun x H12 dx hx e12 h12 => ?_⟩⟩))))))))))))))
      have sA := ((s8.trans (Sx.of e9)).trans s10).trans s11
      have aA := a.sx sA d11
      refine k ⟨x, nmOf c n, .num wd sg lt (some lo) (some (lo + z)) none false, 0, []⟩ H12 _ ((a.sus sA).trans (us_new aA e12 hx h12)) (d11.ext e12) rfl ⟨_, _, _, _, _, rfl, hw32, hwm⟩ (leaf_at rfl upd_same rfl) fun d => num_fw (by omega) hw32 ?_ d
      show lo ≤ lo + z
      omega
end
end Fk

set_option Elab.async false
set_option linter.all false
set_option maxRecDepth 100000
set_option maxHeartbeats 4000000
set_option exponentiation.threshold 3000
namespace Fk
open PySem PySem.Spec PyProof.Rows L2 Evl
/-- at most so many bits -/
def ubF (f : Fld) : Nat := match f.k with
  | .num w _ _ _ _ _ _ => w
  | .chk _ w _ => w
  | .spt w _ => w
  | .sev _ _ _ => 40
  | .txt h _ => (match h with | .fix m => 8 * m | .end_ m => 8 * m + 8 | .by_ _ _ hi => 8 * hi.toNat)
  | _ => 0
def ub (us : List Fld) : Nat := (us.map ubF).sum
theorem ub_app (a b : List Fld) : ub (a ++ b) = ub a + ub b := by unfold ub; rw [List.map_append, List.sum_append]
theorem ub_one (f : Fld) : ub [f] = ubF f := by unfold ub; simp
theorem ub_two (f g : Fld) : ub [f, g] = ubF f + ubF g := by unfold ub; simp
theorem sevB_le (n : Nat) : sevB n ≤ 4 ∧ 1 ≤ sevB n := by unfold sevB; split <;> (try split) <;> (try split) <;> omega
theorem lf_ub {d : Nat} {f : Fld} {w : Nat} (hl : f.k.leaf = true) (h : LF d f w) : w ≤ ubF f := by
  obtain ⟨p, nm, k, l, ss⟩ := f
  cases k with
  | num w0 sg lt lo hi df c => exact Nat.le_of_eq h
  | chk how w0 fi => exact Nat.le_of_eq h
  | spt w0 tg => exact Nat.le_of_eq h
  | sev hi lo df =>
    obtain ⟨i, _, e⟩ := h
    have := sevB_le i
    show w ≤ 40
    omega
  | txt hw df =>
    obtain ⟨m, h1, e⟩ := h
    cases hw with
    | fix a => have h1 : m = a := h1; show w ≤ 8 * a; rw [e, h1]; exact Nat.le_refl _
    | end_ a => have h1 : m ≤ a := h1; show w ≤ 8 * a + 8; rw [e]; exact Nat.add_le_add_right (Nat.mul_le_mul_left _ h1) _
    | by_ c lo hi =>
      obtain ⟨_, _, h3⟩ := h1
      show w ≤ 8 * hi.toNat
      have : w = 8 * m + 0 := e
      omega
  | _ => cases hl
theorem sum_ub {d : Nat} : ∀ {us : List Fld} {w : Nat}, (∀ f ∈ us, f.k.leaf = true) → SumB (LF d) us w → w ≤ ub us
  | [], w, _, h => by have h : w = 0 := h; omega
  | f :: r, w, hl, ⟨a, b, h1, h2, e⟩ => by
    have := lf_ub (hl f (List.mem_cons_self ..)) h1
    have := sum_ub (fun g hg => hl g (List.mem_cons_of_mem _ hg)) h2
    unfold ub at *
    rw [List.map_cons, List.sum_cons]
    omega
/-- a field of a leaf: none that checks, none with a default -/
structure Lf (K : PySem.W.Frag) (G : Hp) (f : Fld) : Prop where
  leaf : f.k.leaf = true
  nc : f.k.word ≠ "check" ∧ f.k.word ≠ "spot"
  nd : f.k.dfl = .non
  at_ : FAtB K G NoL f
theorem Lf.mono {K : PySem.W.Frag} {G G' : Hp} {f : Fld} (e : Ex G G') (h : Lf K G f) : Lf K G' f := ⟨h.leaf, h.nc, h.nd, h.at_.imp e fun _ _ z => z⟩
/-- a list just made -/
structure LR (q : Addr) (H G' H' : Hp) (l : Addr) (us : List Fld) : Prop where
  at_ : H' l = some (.lst (us.map Fld.v))
  fr : H l = none
  no : G' l = none
  ne : l ≠ q
abbrev LeafK (K : PySem.W.Frag) (c : Cst) (q : Addr) (n : Nat) (G H : Hp) (Q : VK) : Prop := ∀ l us H' G' n', Us q G H G' H' → DSt q c n' H' → LR q H G' H' l us → UW c 0 n n' us → n < n' → n' ≤ n + 2 → (∀ f ∈ us, Lf K G' f) → ub us ≤ 48 * (n' - n) → ub us ≤ 32 + 16 * (n' - n) → Q (.ref l) H'
section
variable {P : Program} {w : World} {K : PySem.W.Frag} {mg : Str → Option Value} {base : Heap} {σ : L2.St} {G H H' : Hp} {te ta tb tc tl td ty tx tv : TE} {tt : TT} {tu tw tz : TS} {D : Ends} {q : Addr} {c : Cst} {n i : Nat} {Q : VK} {v : V} {t tr : TA} {QA : List V → Hp → Prop} {r : R2} {sp : Sp}
abbrev aControl (K : PySem.W.Frag) (c : Cst) : A3 := fun v b d H Q => ∃ q n G lo hi, v = .ref q ∧ b = ov lo ∧ d = ov hi ∧ At q c n G H ∧ n < 26 ∧ ∀ (f : Fld) H' G', Us q G H G' H' → DSt q c (n + 1) H' → f.nm = nmOf c n → (∃ w lt, f.k = .num w false lt lo hi none true ∧ (w = 8 ∨ w = 16)) → FAtB K G' NoL f → Q f.v H'
theorem ok_law_control (T : Tx K mg) : Pr P w K mg base 4 "_law_control" (Sp3 (aControl K c)) := by
  have G__law_next := ok_law_next (P := P) (w := w) (base := base) (c := c) T
  have G__law_name := ok_law_name (P := P) (w := w) (base := base) (c := c) T
  have G_Number6 := new_Number6 (P := P) (w := w) (base := base) T
  refine pr3 T.d__law_control T.g__law_control sc__law_control (fun _ _ _ _ _ _ us hl => match us, hl with | [_, _, _], _ => rfl) fun v b d H Q h cdv A outer s E hr hu => ?_
  obtain ⟨q, n, G, lo, hi, rfl, rfl, rfl, a, hn, k⟩ := h
  refine ⟨_, (pss_cons (ps_set (i := 3) sc__law_control.nd rfl (.inl rfl) (pe_ix (ixLK (K := K) rfl) (pe_lst (pa_cons pe_int (pa_cons pe_int (pa_cons pe_int pa_nil)))) (pe_op op_mod (pe_fn G__law_next (hr.mono (by omega)) (by rfl) (pa_cons (pv 0) pa_nil)) pe_int) (fun _ _ => rfl)))
      (pss_one (ps_ret (pe_new G_Number6 (hr.mono (by omega)) (by rfl) (pa_cons (pe_fn G__law_name (hr.mono (by omega)) (by rfl) (pa_cons (pv 0) pa_nil)) (pa_cons (pv 3) (pa_cons pe_bl (pa_cons (pe_and (pe_cmpR op_eq (pv 3) pe_int (by rfl)) (pe_one (pe_cmpR op_eq (pe_op op_mod (pe_fn G__law_next (hr.mono (by omega)) (by rfl) (pa_cons (pv 0) pa_nil)) pe_int) pe_int (by rfl)))) (pa_cons (pv 1) (pa_cons (pv 2) pa_nil)))))))))), ?_⟩
  refine q_asgT (te_pick (ea_cons ev_c (ea_cons ev_c (ea_cons ev_c ea_nil))) rfl a.st rfl (by decide) (by simp) fun wv H1 hw s1 d1 => ?_)
  obtain ⟨wd, rfl, hw8⟩ : ∃ wd : Nat, wv = vN wd ∧ (wd = 8 ∨ wd = 16) := by
    simp only [List.mem_cons, List.not_mem_nil, or_false] at hw
    rcases hw with rfl | rfl | rfl
    · exact ⟨8, rfl, .inl rfl⟩
    · exact ⟨8, rfl, .inl rfl⟩
    · exact ⟨16, rfl, .inr rfl⟩
  refine s_retT (te_fn (ta_cons (te_name (ev_var rfl) d1 hn fun H2 s2 d2 => ta_cons (te_var rfl (ta_cons (te_c (ta_cons (te_andnm (b := decide (vN wd = .int 16)) (ev_op (ev_var rfl) ev_c (rv_eq rfl)) rfl d2 (by decide) fun lt H3 s3 d3 => ta_cons (te_var rfl (ta_cons (te_var rfl (ta_nil ⟨rfl, fun x H4 dx hx e4 h4 => ?_⟩))))))))))))
  have sA := (s1.trans s2).trans s3
  have aA := a.sx sA d3
  exact k ⟨x, nmOf c n, .num wd false lt lo hi none true, 0, []⟩ H4 _ ((a.sus sA).trans (us_new aA e4 hx h4)) (d3.ext e4) rfl ⟨_, _, rfl, hw8⟩ (leaf_at rfl upd_same rfl)
theorem new_leaf {x dx : Addr} {at_ : List (Str × V)} (k : Kd) (nm : Str) (a : At q c n G H) (e : Ex H H') (hx : H x = none) (h : H' x = some (.ins (He.ga K k.cls) dx at_)) (hl : k.leaf = true) (ha : at_ = (Fld.mk x nm k 0 []).attrs) : ∃ G', Us q G H G' H' ∧ FAtB K G' NoL (Fld.mk x nm k 0 []) :=
  ⟨_, us_new a e hx h, leaf_at hl upd_same ha⟩
theorem Ob.mono' {f : Fld} (h : Ob K H f) (s : Sx q H H') (hs : DSt q c n H) : Ob K H' f := by
  obtain ⟨dx, h⟩ := h
  obtain ⟨_, _, _, _, _, hq⟩ := hs
  exact ⟨dx, s.eh _ _ (fun z => by rw [z, hq] at h; cases h) h⟩
theorem all_one {α : Type} {P : α → Prop} {a : α} (ha : P a) : ∀ x ∈ [a], P x := fun x h => by rw [List.mem_singleton.mp h]; exact ha
theorem all_two {α : Type} {P : α → Prop} {a b : α} (ha : P a) (hb : P b) : ∀ x ∈ [a, b], P x := fun x h => by
  rcases List.mem_cons.mp h with rfl | h
  · exact ha
  · rw [List.mem_singleton.mp h]
    exact hb
theorem num_lf {d : Nat} {f : Fld} {w : Nat} {sg lt ct : Bool} {lo hi df : Option Int} (h : f.k = .num w sg lt lo hi df ct) {m : Nat} : LF d f m ↔ m = w := by
  unfold LF LenB
  rw [h]
/-- two numbers that fill a byte -/
theorem UW.bits {c : Cst} {d n : Nat} {f g : Fld} {a b : Nat} {sf sg lf lg : Bool} (hf : f.k = .num a sf lf none none none false) (hg : g.k = .num b sg lg none none none false) (hab : a + b = 8) (hn : f.nm = nmOf c n) (hm : g.nm = nmOf c (n + 1)) (hn2 : n + 2 ≤ 26) (hwf : FW d f) (hwg : FW d g) : UW c d n (n + 2) [f, g] := by
  have hnn : f.nm ≠ g.nm := fun e => by
    have := nm_inj (c := c) (i := n) (j := n + 1) (by omega) (by omega) (by rw [← hn, ← hm, e])
    omega
  have mem : ∀ {x : Fld}, x ∈ [f, g] → x = f ∨ x = g := fun h => by simpa using h
  have hfs : f.k.st = none := by rw [hf]; rfl
  have hgs : g.k.st = none := by rw [hg]; rfl
  refine ⟨by omega, fun x hx => ?_, ?_, fun x hx c' lo hi' h => ?_, fun x hx h => ?_, ?_, fun x hx => ?_, fun w hw => ?_, ⟨a + (b + 0), a, b + 0, (num_lf hf).mpr rfl, ⟨b, 0, (num_lf hg).mpr rfl, rfl, rfl⟩, rfl⟩⟩
  · rcases mem hx with rfl | rfl
    · exact ⟨n, by omega, by omega, hn⟩
    · exact ⟨n + 1, by omega, by omega, hm⟩
  · show [f.nm, g.nm].Nodup
    simp [hnn]
  · rcases mem hx with rfl | rfl
    · rw [hf] at h; cases h
    · rw [hg] at h; cases h
  · rcases mem hx with rfl | rfl
    · rw [hf] at h; cases h
    · rw [hg] at h; cases h
  · rw [List.filterMap_cons_none (f := fun f : Fld => f.k.st) hfs, List.filterMap_cons_none (f := fun f : Fld => f.k.st) hgs]
    exact List.nodup_nil
  · rcases mem hx with rfl | rfl
    · exact hwf
    · exact hwg
  · obtain ⟨x, y, h1, h2, e⟩ := sum_two hw
    rw [num_lf hf] at h1
    rw [num_lf hg] at h2
    omega
theorem nc_num : ("number" : Str) ≠ "check" ∧ ("number" : Str) ≠ "spot" := by decide +kernel
theorem nc_sev : ("seven" : Str) ≠ "check" ∧ ("seven" : Str) ≠ "spot" := by decide +kernel
theorem nc_txt : ("text" : Str) ≠ "check" ∧ ("text" : Str) ≠ "spot" := by decide +kernel
theorem ok_law_leaf (T : Tx K mg) : Pr P w K mg base 6 "_law_leaf" (Sp2 fun v b H Q => ∃ q n G cl, v = .ref q ∧ b = .bl cl ∧ At q c n G H ∧ n + 2 ≤ 26 ∧ LeafK K c q n G H Q) := by
  have G__law_next := ok_law_next (P := P) (w := w) (base := base) (c := c) T
  have G__law_name := ok_law_name (P := P) (w := w) (base := base) (c := c) T
  have G__law_number := ok_law_number (P := P) (w := w) (base := base) (c := c) T
  have G__law_control := ok_law_control (P := P) (w := w) (base := base) (c := c) T
  have G_Number2 := new_Number2 (P := P) (w := w) (base := base) T
  have G_Number3 := new_Number3 (P := P) (w := w) (base := base) T
  have G_Seven3 := new_Seven3 (P := P) (w := w) (base := base) T
  have G_Text3 := new_Text3 (P := P) (w := w) (base := base) T
  refine pr2 T.d__law_leaf T.g__law_leaf sc__law_leaf (fun _ _ _ _ _ _ us hl => match us, hl with | [_, _], _ => rfl) fun v b H Q h cdv A outer s E hr hu => ?_
  obtain ⟨q, n, G, cl, rfl, rfl, a, hn, k⟩ := h
  refine ⟨_, (pss_cons (ps_set (i := 2) sc__law_leaf.nd rfl (.inl rfl) (pe_op op_mod (pe_fn G__law_next (hr.mono (by omega)) (by rfl) (pa_cons (pv 0) pa_nil)) pe_int))
      (pss_cons (ps_if (pt_cmpR op_eq (pv 2) pe_int (by rfl)) (pss_cons (ps_set (i := 3) sc__law_leaf.nd rfl (.inl rfl) (pe_op op_add pe_int (pe_op op_mod (pe_fn G__law_next (hr.mono (by omega)) (by rfl) (pa_cons (pv 0) pa_nil)) pe_int)))
      (pss_one (ps_ret (pe_lst (pa_cons (pe_new G_Number2 (hr.mono (by omega)) (by rfl) (pa_cons (pe_fn G__law_name (hr.mono (by omega)) (by rfl) (pa_cons (pv 0) pa_nil)) (pa_cons (pv 3) pa_nil))) (pa_cons (pe_new G_Number3 (hr.mono (by omega)) (by rfl) (pa_cons (pe_fn G__law_name (hr.mono (by omega)) (by rfl) (pa_cons (pv 0) pa_nil)) (pa_cons (pe_op op_sub pe_int (pv 3)) (pa_cons (pe_cmpR op_eq (pe_op op_mod (pe_fn G__law_next (hr.mono (by omega)) (by rfl) (pa_cons (pv 0) pa_nil)) pe_int) pe_int (by rfl)) pa_nil)))) pa_nil)))))) pss_nil)
      (pss_cons (ps_if (pt_cmpR op_eq (pv 2) pe_int (by rfl)) (pss_cons (ps_set (i := 4) sc__law_leaf.nd rfl (.inl rfl) (pe_ix (ixLK (K := K) rfl) (pe_lst (pa_cons pe_int (pa_cons pe_int (pa_cons pe_int (pa_cons pe_int (pa_cons pe_int (pa_cons pe_int (pa_cons pe_int (pa_cons (pe_op op_sub (pe_op op_pow pe_int pe_int) pe_int) pa_nil))))))))) (pe_op op_mod (pe_fn G__law_next (hr.mono (by omega)) (by rfl) (pa_cons (pv 0) pa_nil)) pe_int) (fun _ _ => rfl)))
      (pss_one (ps_ret (pe_lst (pa_cons (pe_new G_Seven3 (hr.mono (by omega)) (by rfl) (pa_cons (pe_fn G__law_name (hr.mono (by omega)) (by rfl) (pa_cons (pv 0) pa_nil)) (pa_cons (pv 4) (pa_cons (pe_and (pe_not (pv 1)) (pe_one (pe_cmpR op_eq (pe_op op_mod (pe_fn G__law_next (hr.mono (by omega)) (by rfl) (pa_cons (pv 0) pa_nil)) pe_int) pe_int (by rfl)))) pa_nil)))) pa_nil))))) pss_nil)
      (pss_cons (ps_if (pt_cmpR op_eq (pv 2) pe_int (by rfl)) (pss_one (ps_ret (pe_lst (pa_cons (pe_new G_Text3 (hr.mono (by omega)) (by rfl) (pa_cons (pe_fn G__law_name (hr.mono (by omega)) (by rfl) (pa_cons (pv 0) pa_nil)) (pa_cons (pe_ix (ixLK (K := K) rfl) (pe_lst (pa_cons pe_str (pa_cons pe_str pa_nil))) (pe_op op_mod (pe_fn G__law_next (hr.mono (by omega)) (by rfl) (pa_cons (pv 0) pa_nil)) pe_int) (fun _ _ => rfl)) (pa_cons (pe_op op_mod (pe_fn G__law_next (hr.mono (by omega)) (by rfl) (pa_cons (pv 0) pa_nil)) pe_int) pa_nil)))) pa_nil)))) pss_nil)
      (pss_cons (ps_if (pt_cmpR op_eq (pv 2) pe_int (by rfl)) (pss_cons (ps_set (i := 5) sc__law_leaf.nd rfl (.inl rfl) (pe_op op_mod (pe_fn G__law_next (hr.mono (by omega)) (by rfl) (pa_cons (pv 0) pa_nil)) pe_int))
      (pss_cons (ps_set (i := 6) sc__law_leaf.nd rfl (.inl rfl) (pe_fn G__law_control (hr.mono (by omega)) (by rfl) (pa_cons (pv 0) (pa_cons (pe_ix (ixLK (K := K) rfl) (pe_lst (pa_cons (pv 5) (pa_cons pe_non pa_nil))) (pe_callTy call_int1 (by rfl) T.b_int (by decide +kernel) (pa_cons (pe_cmpR op_eq (pv 5) pe_int (by rfl)) pa_nil)) (fun _ _ => rfl)) (pa_cons (pe_op op_add (pv 5) (pe_op op_mod (pe_fn G__law_next (hr.mono (by omega)) (by rfl) (pa_cons (pv 0) pa_nil)) pe_int)) pa_nil)))))
      (pss_one (ps_ret (pe_lst (pa_cons (pv 6) (pa_cons (pe_new G_Text3 (hr.mono (by omega)) (by rfl) (pa_cons (pe_fn G__law_name (hr.mono (by omega)) (by rfl) (pa_cons (pv 0) pa_nil)) (pa_cons pe_str (pa_cons (fldK (K := K) rfl (pv 6) rfl) pa_nil)))) pa_nil))))))) pss_nil)
      (pss_one (ps_ret (pe_lst (pa_cons (pe_fn G__law_number (hr.mono (by omega)) (by rfl) (pa_cons (pv 0) pa_nil)) pa_nil))))))))), ?_⟩
  -- a list of one, of two, at a fresh place
  have put : ∀ {H1 G1 : Hp} {m : Nat} {us : List Fld}, Us q G H G1 H1 → DSt q c m H1 → UW c 0 n m us → n < m → m ≤ n + 2 → (∀ f ∈ us, Lf K G1 f) → ub us ≤ 48 * (m - n) → ub us ≤ 32 + 16 * (m - n) → ∀ p, H1 p = none → Q (.ref p) (upd H1 p (.lst (us.map Fld.v))) := by
    intro H1 G1 m us u d hU h1 h2 hL b1 b2 p hp
    have hpq : p ≠ q := fun z => d.ne (z ▸ hp)
    have hHp : H p = none := by
      cases e : H p with
      | none => rfl
      | some o => rw [u.eh p o hpq e] at hp; cases hp
    exact k p us _ G1 m (u.ext (Ex.new hp)) (d.ext (Ex.new hp)) ⟨upd_same, hHp, fresh_back u.sub hp, hpq⟩ hU h1 h2 hL b1 b2
  refine q_asgT (te_nm rfl a.st (by decide) fun way H1 hx1 hx2 s1 d1 => ?_)
  refine (sv_when (H := H1) (et_test (ev_op (ev_var rfl) ev_c (rv_eq rfl))) (fun hb H2 e2 => ?_) fun hb H2 e2 => ?_).here
  · -- two numbers in a byte
    have s2 := s1.trans (Sx.of e2)
    refine q_asgT (te_op (te_c (te_nm rfl (d1.ext e2) (by decide) fun y H3 hy1 hy2 s3 d3 => te_addI ?_)))
    obtain ⟨wd, hwd, hw1, hw7⟩ : ∃ wd : Nat, (1 + y : Int) = wd ∧ 1 ≤ wd ∧ wd ≤ 7 := ⟨(1 + y).toNat, by omega, by omega, by omega⟩
    rw [hwd]
    have s23 := s2.trans s3
    refine s_retT (te_lst2 (te_fn (ta_cons (te_name (ev_var rfl) d3 (by omega) fun H4 s4 d4 => ta_cons (te_var rfl (ta_nil ⟨rfl, fun x H5 dx hx e5 h5 => ?_⟩))))))
    have a4 := a.sx (s23.trans s4) d4
    obtain ⟨G5, u5, f0⟩ := new_leaf (.num wd false false none none none false) (nmOf c n) a4 e5 hx h5 rfl rfl
    have a5 := a4.us u5 (d4.ext e5)
    refine te_fn (ta_cons (te_name (ev_var rfl) a5.st (by omega) fun H6 s6 d6 => ta_cons (te_ev (v := vN (8 - wd)) (ev_is (ev_op ev_c (ev_var rfl) rv_I0) (congrArg V.int (by omega))) fun H7 e7 => ta_cons (te_nmeq rfl (d6.ext e7) (by decide) fun sg H8 s8 d8 => ta_nil ⟨rfl, fun x2 H9 dx2 hx2 e9 h9 => ⟨sz_of (by simp), ?_⟩⟩))))
    have a8 := a5.sx ((s6.trans (Sx.of e7)).trans s8) d8
    obtain ⟨G9, u9, f2⟩ := new_leaf (.num (8 - wd) sg false none none none false) (nmOf c (n + 1)) a8 e9 hx2 h9 rfl rfl
    have uA := ((a.sus (s23.trans s4)).trans u5).trans ((a5.sus ((s6.trans (Sx.of e7)).trans s8)).trans u9)
    have f1 : FAtB K G9 NoL (Fld.mk x (nmOf c n) (.num wd false false none none none false) 0 []) := f0.imp (((a5.sus ((s6.trans (Sx.of e7)).trans s8)).trans u9).ex) fun _ _ z => z
    have w1 : FW 0 (Fld.mk x (nmOf c n) (.num wd false false none none none false) 0 []) := num_fw hw1 (by omega) (by
      show (0 : Int) ≤ 2 ^ wd - 1
      have := pow2_ge (w := wd + 1) (by omega)
      rw [Nat.add_sub_cancel] at this
      omega) 0
    have w2 : FW 0 (Fld.mk x2 (nmOf c (n + 1)) (.num (8 - wd) sg false none none none false) 0 []) := num_fw (by omega) (by omega) (by
      show (if sg = true then -(2 ^ (8 - wd - 1)) else (0 : Int)) ≤ (if sg = true then 2 ^ (8 - wd - 1) - 1 else 2 ^ (8 - wd) - 1)
      have p1 := pow2_ge (w := 8 - wd) (by omega)
      have p2 := pow2_ge (w := 8 - wd + 1) (by omega)
      rw [Nat.add_sub_cancel] at p2
      cases sg <;> simp <;> omega) 0
    refine put uA (d8.ext e9) (UW.bits rfl rfl (by omega) rfl rfl hn w1 w2) (by omega) (by omega) (all_two ⟨rfl, nc_num, rfl, f1⟩ ⟨rfl, nc_num, rfl, f2⟩) ?_ ?_
    · rw [ub_two]
      show wd + (8 - wd) ≤ _
      omega
    · rw [ub_two]
      show wd + (8 - wd) ≤ _
      omega
  refine (sv_when (H := H2) (et_test (ev_op (ev_var rfl) ev_c (rv_eq rfl))) (fun hb H3 e3 => ?_) fun hb H3 e3 => ?_).here
  · -- a seven
    have s3 := (s1.trans (Sx.of e2)).trans (Sx.of e3)
    have d3 := (d1.ext e2).ext e3
    refine q_asgT (te_pick (vs := [.int 0, .int 9, .int 127, .int 128, .int 16383, .int 16384, .int 2097152, .int (2 ^ 28 - 1)]) (ea_cons ev_c (ea_cons ev_c (ea_cons ev_c (ea_cons ev_c (ea_cons ev_c (ea_cons ev_c (ea_cons ev_c (ea_cons ?_ ea_nil)))))))) rfl d3 rfl (by decide) (by simp) fun hv H4 hw s4 d4 => ?_)
    · exact ev_op (ev_op ev_c ev_c (rv_I (show CPow 2 28 from by unfold CPow; decide))) ev_c rv_I0
    obtain ⟨hi, rfl, h1, h2⟩ : ∃ hi : Int, hv = .int hi ∧ 0 ≤ hi ∧ hi < 2 ^ 28 := by
      simp only [List.mem_cons, List.not_mem_nil, or_false] at hw
      rcases hw with rfl | rfl | rfl | rfl | rfl | rfl | rfl | rfl <;> exact ⟨_, rfl, by decide, by decide⟩
    have s34 := s3.trans s4
    refine s_retT (te_lst1 (te_fn (ta_cons (te_name (ev_var rfl) d4 (by omega) fun H5 s5 d5 => ta_cons (te_var rfl (ta_cons (te_andnm (ev_notV (ev_var rfl)) rfl d5 (by decide) fun lo H6 s6 d6 => ta_nil ⟨rfl, fun x H7 dx hx e7 h7 => ⟨sz_of (by simp), ?_⟩⟩)))))))
    have sA := (s34.trans s5).trans s6
    have a6 := a.sx sA d6
    obtain ⟨G7, u7, f7⟩ := new_leaf (.sev hi lo none) (nmOf c n) a6 e7 hx h7 rfl rfl
    have w7 : FW 0 (Fld.mk x (nmOf c n) (.sev hi lo none) 0 []) := ⟨h1, h2, fun i h => nomatch h⟩
    refine put ((a.sus sA).trans u7) (d6.ext e7) (UW.one rfl rfl rfl w7 (fun w ⟨i, _, e⟩ => by omega) ⟨_, hi.toNat, by omega, rfl⟩) (by omega) (by omega) (all_one ⟨rfl, nc_sev, rfl, f7⟩) ?_ ?_
    · rw [ub_one]
      show 40 ≤ _
      omega
    · rw [ub_one]
      show 40 ≤ _
      omega
  refine (sv_when (H := H3) (et_test (ev_op (ev_var rfl) ev_c (rv_eq rfl))) (fun hb H4 e4 => ?_) fun hb H4 e4 => ?_).here
  · -- a text, fixed or to its end
    have s4 := ((s1.trans (Sx.of e2)).trans (Sx.of e3)).trans (Sx.of e4)
    have d4 := ((d1.ext e2).ext e3).ext e4
    refine s_retT (te_lst1 (te_fn (ta_cons (te_name (ev_var rfl) d4 (by omega) fun H5 s5 d5 => ta_cons (te_pick (ea_cons ev_c (ea_cons ev_c ea_nil)) rfl d5 rfl (by decide) (by simp) fun hv H6 hw s6 d6 => ta_cons (te_nm rfl d6 (by decide) fun y H7 hy1 hy2 s7 d7 => ta_nil ⟨rfl, fun x H8 dx hx e8 h8 => ⟨sz_of (by simp), ?_⟩⟩))))))
    obtain ⟨m, rfl, hm⟩ : ∃ m : Nat, y = (m : Int) ∧ m ≤ 5 := ⟨y.toNat, by omega, by omega⟩
    have sA := ((s4.trans s5).trans s6).trans s7
    have a7 := a.sx sA d7
    simp only [List.mem_cons, List.not_mem_nil, or_false] at hw
    rcases hw with rfl | rfl
    · obtain ⟨G7, u7, f7⟩ := new_leaf (.txt (.fix m) none) (nmOf c n) a7 e8 hx h8 rfl rfl
      have w7 : FW 0 (Fld.mk x (nmOf c n) (.txt (.fix m) none) 0 []) := ⟨show m ≤ 60 by omega, fun s h => nomatch h⟩
      refine put ((a.sus sA).trans u7) (d7.ext e8) (UW.one rfl rfl rfl w7 (fun w ⟨i, _, e⟩ => by have e : w = 8 * i + 0 := e; omega) ⟨_, m, rfl, rfl⟩) (by omega) (by omega) (all_one ⟨rfl, nc_txt, rfl, f7⟩) ?_ ?_
      · rw [ub_one]
        show 8 * m ≤ _
        omega
      · rw [ub_one]
        show 8 * m ≤ _
        omega
    · obtain ⟨G7, u7, f7⟩ := new_leaf (.txt (.end_ m) none) (nmOf c n) a7 e8 hx h8 rfl rfl
      have w7 : FW 0 (Fld.mk x (nmOf c n) (.txt (.end_ m) none) 0 []) := ⟨show m ≤ 60 by omega, fun s h => nomatch h⟩
      refine put ((a.sus sA).trans u7) (d7.ext e8) (UW.one rfl rfl rfl w7 (fun w ⟨i, _, e⟩ => by have e : w = 8 * i + 8 := e; omega) ⟨_, m, Nat.le_refl _, rfl⟩) (by omega) (by omega) (all_one ⟨rfl, nc_txt, rfl, f7⟩) ?_ ?_
      · rw [ub_one]
        show 8 * m + 8 ≤ _
        omega
      · rw [ub_one]
        show 8 * m + 8 ≤ _
        omega
  refine (sv_when (H := H4) (et_test (ev_op (ev_var rfl) ev_c (rv_eq rfl))) (fun hb H5 e5 => ?_) fun hb H5 e5 => ?_).here
  · -- a text behind its control
    have s5 := (((s1.trans (Sx.of e2)).trans (Sx.of e3)).trans (Sx.of e4)).trans (Sx.of e5)
    have d5 := (((d1.ext e2).ext e3).ext e4).ext e5
    refine q_asgT (te_nm rfl d5 (by decide) fun lo H6 hl1 hl2 s6 d6 => ?_)
    have s56 := s5.trans s6
    refine q_asgT (te_fn (ta_cons (te_var rfl (ta_cons (te_ev (v := ov (if lo = 0 then none else some lo)) ?_ fun H7 e7 => ta_cons (te_op (te_var rfl (te_nm rfl (d6.ext e7) (by decide) fun y H8 hy1 hy2 s8 d8 => te_addI (ta_nil ?_)))))))))
    · refine ev_opL1 (xs := [.int lo, .non]) (el_lst (ea_cons (ev_var rfl) (ea_cons ev_c ea_nil)) (by simp)) (fun H9 _ => ev_int1b (b := decide (V.int lo = .int 0)) (ev_op (ev_var rfl) ev_c (rv_eq rfl))) fun p H9 hp _ => ?_
      by_cases h0 : lo = 0
      · rw [if_pos h0, decide_eq_true (congrArg V.int h0)]
        exact rv_ixL (sq_of hp) (atI_nat (j := 1) rfl)
      · rw [if_neg h0, decide_eq_false fun z => h0 (V.int.inj z)]
        exact rv_ixL (sq_of hp) (atI_nat (j := 0) rfl)
    · have sA := (s56.trans (Sx.of e7)).trans s8
      have a8 := a.sx sA d8
      refine ⟨_, _, _, rfl, q, n, G, _, some (lo + y), rfl, rfl, rfl, a8, by omega, fun g H9 G9 u9 d9 hgn hgk hgA => ?_⟩
      obtain ⟨gw, glt, hgk, hgw⟩ := hgk
      have a9 := a8.us u9 d9
      have obg : Ob K H9 g := Ob.mono u9.sub hgA.ob
      have hgl : g.k.least = lo := by
        rw [hgk]
        show (if lo = 0 then none else some lo).getD (if false = true then -(2 ^ (gw - 1)) else 0) = lo
        by_cases h0 : lo = 0
        · rw [if_pos h0, h0]; rfl
        · rw [if_neg h0]; rfl
      have hgg : g.k.greatest = lo + y := by rw [hgk]; rfl
      refine s_retT (te_lst2 (te_var rfl (te_fn (ta_cons (te_name (ev_var rfl) d9 (by omega) fun H10 s10 d10 => ta_cons (te_c (ta_cons (te_ev (ev_name T (ev_var rfl) (Ob.mono' obg s10 d9)) fun H11 e11 => ta_nil ⟨rfl, fun x H12 dx hx e12 h12 => ⟨sz_of (by simp), ?_⟩⟩))))))))
      have s11 := s10.trans (Sx.of e11)
      have a11 := a9.sx s11 (d10.ext e11)
      obtain ⟨G12, u12, f12⟩ := new_leaf (.txt (.by_ g.nm lo (lo + y)) none) (nmOf c (n + 1)) a11 e12 hx h12 rfl rfl
      have uB := (a9.sus s11).trans u12
      have hlg : g.k.least ≤ g.k.greatest := by rw [hgl, hgg]; omega
      have wg : FW 0 g := by
        unfold FW FWB
        rw [hgk] at hlg ⊢
        exact ⟨by omega, by omega, hlg, fun i h => nomatch h⟩
      have wf : FW 0 (Fld.mk x (nmOf c (n + 1)) (.txt (.by_ g.nm lo (lo + y)) none) 0 []) := ⟨⟨hl1, by omega, by omega⟩, fun s h => nomatch h⟩
      refine put ((a.sus sA).trans (u9.trans uB)) ((d10.ext e11).ext e12) (UW.two (i := n) (j := n + 1) hgn rfl (by omega) (by omega) hn (by rw [hgk]; rfl) (by rw [hgk]; rfl) (by rw [hgl, hgg]; rfl) wg wf (fun w h => by rw [num_lf hgk] at h; omega) (fun w ⟨i, _, e⟩ => by have e : w = 8 * i + 0 := e; omega) ⟨gw, (num_lf hgk).mpr rfl⟩ ⟨_, lo.toNat, ⟨by omega, by omega, by omega⟩, rfl⟩) (by omega) (by omega) (all_two ⟨by rw [hgk]; rfl, by rw [hgk]; exact nc_num, by rw [hgk]; rfl, hgA.imp uB.ex fun _ _ z => z⟩ ⟨rfl, nc_txt, rfl, f12⟩) ?_ ?_
      · rw [ub_two]
        have h1 : ubF g = gw := by unfold ubF; rw [hgk]
        have h2 : ubF (Fld.mk x (nmOf c (n + 1)) (.txt (.by_ g.nm lo (lo + y)) none) 0 []) = 8 * (lo + y).toNat := rfl
        rw [h1, h2]
        omega
      · rw [ub_two]
        have h1 : ubF g = gw := by unfold ubF; rw [hgk]
        have h2 : ubF (Fld.mk x (nmOf c (n + 1)) (.txt (.by_ g.nm lo (lo + y)) none) 0 []) = 8 * (lo + y).toNat := rfl
        rw [h1, h2]
        omega
  · -- a number
    have s5 := (((s1.trans (Sx.of e2)).trans (Sx.of e3)).trans (Sx.of e4)).trans (Sx.of e5)
    have d5 := (((d1.ext e2).ext e3).ext e4).ext e5
    have a5 := a.sx s5 d5
    refine s_retT (te_lst1 (te_fn (ta_cons (te_var rfl (ta_nil ⟨_, rfl, q, n, G, rfl, a5, by omega, fun f H6 G6 u6 d6 hnm hfk hfA hfw => ⟨sz_of (by simp), ?_⟩⟩)))))
    obtain ⟨wd, sg, lt, lo, hi, hk, hw1, hw2⟩ := hfk
    refine put ((a.sus s5).trans u6) d6 (UW.one hnm (by rw [hk]; rfl) (by rw [hk]; rfl) (hfw 0) (fun w h => by rw [num_lf hk] at h; omega) ⟨wd, (num_lf hk).mpr rfl⟩) (by omega) (by omega) (all_one ⟨by rw [hk]; rfl, by rw [hk]; exact nc_num, by rw [hk]; rfl, hfA⟩) ?_ ?_
    · rw [ub_one]
      have : ubF f = wd := by unfold ubF; rw [hk]
      omega
    · rw [ub_one]
      have : ubF f = wd := by unfold ubF; rw [hk]
      omega
end
end Fk

set_option Elab.async false
set_option linter.all false
set_option maxRecDepth 100000
set_option maxHeartbeats 4000000
set_option exponentiation.threshold 3000
namespace Fk
open PySem PySem.Spec PyProof.Rows L2 Evl
/-! ### how wide what is drawn can be: of a unit, of some units, with a spot behind, of a list -/
def b1 (n : Nat) : Nat := if n ≤ 12 then 144 * (14 - n) else 224
def UBnd (d n m w : Nat) : Prop := match d with
  | 0 => w ≤ 48 * (m - n) ∧ w ≤ 32 + 16 * (m - n) ∧ m ≤ n + 2
  | 1 => w + 96 ≤ 144 * (m - n) ∧ w ≤ b1 n
  | _ => True
def IBnd (d n m w : Nat) : Prop := match d with
  | 0 => w ≤ 48 * (m - n) ∧ w ≤ 48 * (13 - n) + 64
  | 1 => (n < m → w + 96 ≤ 144 * (m - n)) ∧ w ≤ b1 n ∧ (m = n → w = 0)
  | _ => True
def SBnd (d n m w : Nat) : Prop := match d with
  | 0 => w ≤ 48 * (m - n) ∧ w ≤ 48 * (13 - n) + 112
  | 1 => w ≤ b1 n
  | _ => True
def LBnd (d n m w : Nat) : Prop := match d with
  | 0 => (n < 14 → w ≤ 48 * (m - n) ∧ w ≤ 48 * (14 - n) + 80) ∧ (14 ≤ n → w = 0)
  | 1 => w ≤ 2032
  | _ => True
/-- the last name of a unit, of a list -/
def Ue : Nat → Nat | 0 => 15 | 1 => 20 | _ => 23
def Le : Nat → Nat | 0 => 18 | 1 => 21 | _ => 24
theorem ib_step {d n m m' w u : Nat} (h : IBnd d n m w) (hu : UBnd d m m' u) (hm : m ≤ 13) (hn : n ≤ m) (hmm : m < m') : IBnd d n m' (w + u) := by
  match d with
  | 0 =>
    obtain ⟨h1, h2⟩ := h
    obtain ⟨u1, u2, u3⟩ := hu
    exact ⟨by omega, by omega⟩
  | 1 =>
    obtain ⟨h1, h2, h3⟩ := h
    obtain ⟨u1, u2⟩ := hu
    rcases Nat.lt_or_ge n m with hlt | hge
    · have h1 := h1 hlt
      refine ⟨fun _ => by omega, ?_, fun _ => by omega⟩
      have e1 : b1 n = 144 * (14 - n) := by unfold b1; rw [if_pos (by omega)]
      rw [e1]
      rcases Nat.lt_or_ge m 13 with c | c
      · have e2 : b1 m = 144 * (14 - m) := by unfold b1; rw [if_pos (by omega)]
        rw [e2] at u2
        omega
      · have e2 : b1 m = 224 := by unfold b1; rw [if_neg (by omega)]
        rw [e2] at u2
        omega
    · have e : m = n := by omega
      have := h3 e
      subst e
      exact ⟨fun _ => by omega, by omega, fun _ => by omega⟩
  | _ + 2 => trivial
theorem ib_0 {d n : Nat} : IBnd d n n 0 := by
  match d with
  | 0 => exact ⟨by omega, by omega⟩
  | 1 => exact ⟨fun h => by omega, Nat.zero_le _, fun _ => rfl⟩
  | _ + 2 => trivial
theorem sb_of {d n m w : Nat} (h : IBnd d n m w) : SBnd d n m w := by
  match d with
  | 0 => exact ⟨h.1, by have := h.2; omega⟩
  | 1 => exact h.2.1
  | _ + 2 => trivial
theorem sb_spot {d n m k w u : Nat} (h : IBnd d n m w) (hn : n < m) (hm : m ≤ 13) (hk : 1 ≤ k ∧ k ≤ 2) (hu : u ≤ 80 + 16 * k) : SBnd d n (m + k + 2) (w + u) := by
  match d with
  | 0 =>
    obtain ⟨h1, h2⟩ := h
    exact ⟨by omega, by omega⟩
  | 1 =>
    obtain ⟨h1, h2, h3⟩ := h
    have := h1 hn
    show w + u ≤ b1 n
    unfold b1
    rw [if_pos (by omega)]
    omega
  | _ + 2 => trivial
theorem lb_of {d n m w : Nat} (h : SBnd d n m w) (hn : n ≤ 13) : LBnd d n m w := by
  match d with
  | 0 => exact ⟨fun _ => ⟨h.1, by have := h.2; omega⟩, fun z => by omega⟩
  | 1 =>
    have h : w ≤ b1 n := h
    show w ≤ 2032
    unfold b1 at h
    split at h <;> omega
  | _ + 2 => trivial
theorem lb_chk {d n m w x : Nat} (h : SBnd d n m w) (hn : n ≤ 13) (hnm : n ≤ m) (hx : x ≤ 16) : LBnd d n (m + 1) (w + x) := by
  match d with
  | 0 => exact ⟨fun _ => ⟨by have := h.1; omega, by have := h.2; omega⟩, fun z => by omega⟩
  | 1 =>
    have h : w ≤ b1 n := h
    show w + x ≤ 2032
    unfold b1 at h
    split at h <;> omega
  | _ + 2 => trivial
theorem lb_nil {d n : Nat} (hn : 14 ≤ n) : LBnd d n n 0 := by
  match d with
  | 0 => exact ⟨fun z => by omega, fun _ => rfl⟩
  | 1 => exact Nat.zero_le _
  | _ + 2 => trivial
abbrev UnitK (K : PySem.W.Frag) (c : Cst) (d : Nat) (q : Addr) (n : Nat) (G H : Hp) (Q : VK) : Prop := ∀ l us H' G' n', Us q G H G' H' → DSt q c n' H' → LR q H G' H' l us → UW c d n n' us → n < n' → n' ≤ Ue d → (∀ f ∈ us, FAt K G' d f) → (∀ w, SumB (LF d) us w → UBnd d n n' w) → Q (.ref l) H'
abbrev ListK (K : PySem.W.Frag) (c : Cst) (d : Nat) (q : Addr) (n : Nat) (G H : Hp) (Q : VK) : Prop := ∀ l us H' G' n', Us q G H G' H' → DSt q c n' H' → LR q H G' H' l us → UW c d n n' us → (n ≤ 13 → n' ≤ Le d) → (14 ≤ n → n' = n) → (∀ f ∈ us, FAt K G' d f) → (∀ w, SumB (LF d) us w → LBnd d n n' w) → Q (.ref l) H'
abbrev aUnit (K : PySem.W.Frag) (c : Cst) (d : Nat) : A3 := fun v b e H Q => ∃ q n G cl, v = .ref q ∧ b = vN d ∧ e = .bl cl ∧ At q c n G H ∧ n ≤ 13 ∧ UnitK K c d q n G H Q
abbrev aList (K : PySem.W.Frag) (c : Cst) (d : Nat) : A3 := fun v b e H Q => ∃ q n G cl, v = .ref q ∧ b = vN d ∧ e = .bl cl ∧ At q c n G H ∧ n ≤ 26 ∧ ListK K c d q n G H Q
abbrev aLeaf (K : PySem.W.Frag) (c : Cst) : A2 := fun v b H Q => ∃ q n G cl, v = .ref q ∧ b = .bl cl ∧ At q c n G H ∧ n + 2 ≤ 26 ∧ LeafK K c q n G H Q
theorem fat_mono {K : PySem.W.Frag} {G G' : Hp} {d : Nat} {us : List Fld} (e : Ex G G') (h : ∀ f ∈ us, FAt K G d f) : ∀ f ∈ us, FAt K G' d f := fun f hf => (h f hf).mono e
section
variable {P : Program} {w : World} {K : PySem.W.Frag} {mg : Str → Option Value} {base : Heap} {σ : L2.St} {G H H' : Hp} {te ta tb tc tl td ty tx tv : TE} {tt : TT} {tu tw tz : TS} {D : Ends} {q : Addr} {c : Cst} {n i d : Nat} {Q : VK} {v : V} {t tr : TA} {QA : List V → Hp → Prop} {r : R2} {sp : Sp}
/-- a list as it grows in the walk: at pf, of the units us -/
structure Fo (K : PySem.W.Frag) (c : Cst) (d : Nat) (q : Addr) (n : Nat) (G H : Hp) (B : Nat → Nat → Nat → Nat → Prop) (m : Nat) (pf : Addr) (us : List Fld) (G' H' : Hp) : Prop where
  up : Us q G H G' H'
  st : DSt q c m H'
  lr : LR q H G' H' pf us
  uw : UW c d n m us
  fa : ∀ f ∈ us, FAt K G' d f
  bd : ∀ w, SumB (LF d) us w → B d n m w
theorem Fo.ext {B : Nat → Nat → Nat → Nat → Prop} {m : Nat} {pf : Addr} {us : List Fld} {G' H2 : Hp} (e : Ex H' H2) (h : Fo K c d q n G H B m pf us G' H') : Fo K c d q n G H B m pf us G' H2 :=
  ⟨h.up.ext e, h.st.ext e, ⟨e _ _ h.lr.at_, h.lr.fr, h.lr.no, h.lr.ne⟩, h.uw, h.fa, h.bd⟩
theorem Fo.sx {B : Nat → Nat → Nat → Nat → Prop} {m m' : Nat} {pf : Addr} {us : List Fld} {G' H2 : Hp} (h : Fo K c d q n G H B m pf us G' H') (a : At q c n G H) (s : Sx q H' H2) (dd : DSt q c m' H2) : Us q G H G' H2 ∧ H2 pf = some (.lst (us.map Fld.v)) :=
  ⟨h.up.trans (s.us h.up.sub ((a.us h.up h.st).no)), s.eh _ _ h.lr.ne h.lr.at_⟩
theorem stN {m : Nat} (h0 : σ[0]? = some (some (.ref q))) (h : DSt q c m H) : Ev (tOp (rIxL K) (tVar 0) (tC (.int 1))) σ H (vN m) := by
  obtain ⟨_, _, _, _, _, hq⟩ := h
  exact ev_op (ev_var h0) ev_c (rv_ixL (sq_of hq) (atI_nat (j := 1) rfl))
/-- found + more: a new list -/
theorem te_catF {p1 p2 : Addr} {xs ys : List V} (h1 : H p1 = some (.lst xs)) (h2 : H p2 = some (.lst ys)) (hz : xs.length + ys.length ≤ 1000) (k : ∀ p, H p = none → Q (.ref p) (upd H p (.lst (xs ++ ys)))) : rCat (.ref p1) (.ref p2) H Q :=
  ⟨p1, p2, xs, ys, rfl, rfl, h1, h2, sz_of (by omega), k⟩
theorem back_us {G' : Hp} {p : Addr} (u : Us q G H G' H') (hpq : p ≠ q) (hp : H' p = none) : H p = none := by
  cases e : H p with
  | none => rfl
  | some o => rw [u.eh p o hpq e] at hp; cases hp
end
end Fk

set_option Elab.async false
set_option linter.all false
set_option maxRecDepth 100000
set_option maxHeartbeats 4000000
set_option exponentiation.threshold 3000
namespace Fk
open PySem PySem.Spec PyProof.Rows L2 Evl
section
variable {P : Program} {w : World} {K : PySem.W.Frag} {mg : Str → Option Value} {base : Heap} {σ : L2.St} {G H H' : Hp} {te ta tb tc tl td ty tx tv : TE} {tt : TT} {tu tw tz : TS} {D : Ends} {q : Addr} {c : Cst} {n i d : Nat} {Q : VK} {v : V} {t tr : TA} {QA : List V → Hp → Prop} {r : R2} {sp : Sp}
theorem Fo.grow {B B' : Nat → Nat → Nat → Nat → Prop} {m m' : Nat} {pf p2 : Addr} {us vs : List Fld} {G' G2 H2 : Hp} (h : Fo K c d q n G H B m pf us G' H') (u : Us q G' H' G2 H2) (dd : DSt q c m' H2) (hp : H2 p2 = none) (uw : UW c d n m' (us ++ vs)) (fa : ∀ f ∈ vs, FAt K G2 d f) (bd : ∀ w1 w2, B d n m w1 → SumB (LF d) vs w2 → B' d n m' (w1 + w2)) :
    Fo K c d q n G H B' m' p2 (us ++ vs) G2 (upd H2 p2 (.lst ((us.map Fld.v) ++ (vs.map Fld.v)))) := by
  have hpq : p2 ≠ q := fun z => dd.ne (z ▸ hp)
  have uA := h.up.trans u
  refine ⟨uA.ext (Ex.new hp), dd.ext (Ex.new hp), ⟨by rw [upd_same, List.map_append], back_us uA hpq hp, fresh_back uA.sub hp, hpq⟩, uw, fun f hf => ?_, fun w hw => ?_⟩
  · rcases List.mem_append.mp hf with hf | hf
    · exact (h.fa f hf).mono u.ex
    · exact fa f hf
  · obtain ⟨w1, w2, s1, s2, rfl⟩ := SumB.app.mp hw
    exact bd w1 w2 (h.bd w1 s1) s2
/-- the turns of a loop -/
def RngW (J : It) (g : TG) (tb : TS) (D : Ends) (σ : L2.St) (H1 : Hp) : Prop := ∃ W : Nat → Nat → L2.St → Hp → Prop, (∃ m, W 0 m σ H1) ∧ ∀ i m σ H, W i m σ H →
  (J.stop i H ∧ D.nx σ H) ∨ (J.go i H ∧ ∃ N : L2.St → Hp → Prop, (∀ σ' H', N σ' H' → ∃ m', m' < m ∧ W (i + 1) m' σ' H') ∧ ∀ x H', J.yld i H x H' → g x σ H' fun σ2 H2 => tb { D with nx := N, ct := N, bk := D.nx } σ2 H2)
theorem q_forT {g : TG} (h : t σ H fun vs H1 => ∃ j : Int, vs = [.int j] ∧ -(2 ^ 62) ≤ j ∧ j < 2 ^ 62 ∧ RngW (Itr 0 j.toNat) g tu { D with nx := tz D } σ H1) : tSeq (tFor (iRng1 t) g tu) tz D σ H := h
theorem q_asgG {g : TG} (h : te σ H fun x H1 => g x σ H1 fun σ2 H2 => tz D σ2 H2) : tSeq (tAsg te g) tz D σ H := h
theorem ea_refs3 {xs1 xs2 xs3 : List V} {QA : List V → Hp → Prop} (h1 : EvU ta σ H xs1) (h2 : EvU tb σ H xs2) (h3 : EvU tc σ H xs3) (k : ∀ p1 p2 p3 H', Ex H H' → H' p1 = some (.tup xs1) → H' p2 = some (.tup xs2) → H' p3 = some (.tup xs3) → QA [.ref p1, .ref p2, .ref p3] H') : tCons ta (tCons tb (tCons tc tNil)) σ H QA :=
  h1 H (Ex.refl _) _ fun p1 H1 _ e1 g1 => h2 H1 e1 _ fun p2 H2 _ e2 g2 => h3 H2 (e1.trans e2) _ fun p3 H3 _ e3 g3 => k p1 p2 p3 H3 ((e1.trans e2).trans e3) (e3 _ _ (e2 _ _ g1)) (e3 _ _ g2) g3
theorem te_pick3 {xs1 xs2 xs3 : List V} (h1 : EvU ta σ H xs1) (h2 : EvU tb σ H xs2) (h3 : EvU tc σ H xs3) (h0 : σ[i]? = some (some (.ref q))) (hs : DSt q c n H) (k : ∀ p xs H', (xs = xs1 ∨ xs = xs2 ∨ xs = xs3) → H' p = some (.tup xs) → Sx q H H' → DSt q c n H' → Q (.ref p) H') :
    tOp (rIxL K) (tLst (tCons ta (tCons tb (tCons tc tNil)))) (tOp (rI (fun _ j => 0 < j) fun i j => .int (i % j)) (tFn (Sp1 (aNext c)) (tCons (tVar i) tNil)) (tC (.int 3))) σ H Q :=
  te_op (show tLst _ σ H _ from ea_refs3 h1 h2 h3 fun p1 p2 p3 H1 e1 g1 g2 g3 => ⟨sz_of (by simp), fun pl hpl => te_nm h0 ((hs.ext e1).ext (Ex.new hpl)) (by decide) fun x H2 hx1 hx2 s2 d2 => by
    obtain ⟨j, rfl⟩ : ∃ j : Nat, x = (j : Int) := ⟨x.toNat, by omega⟩
    have hne : pl ≠ q := fun z => (hs.ext e1).ne (z ▸ hpl)
    have hl : H2 pl = some (.lst [.ref p1, .ref p2, .ref p3]) := s2.eh _ _ hne upd_same
    have sA : Sx q H H2 := (Sx.of (e1.trans (Ex.new hpl))).trans s2
    have tq : ∀ {p : Addr} {xs : List V}, H1 p = some (.tup xs) → H2 p = some (.tup xs) := fun {p xs} g => by
      obtain ⟨_, _, _, _, _, hq⟩ := hs.ext e1
      exact s2.eh _ _ (fun z => by rw [z, hq] at g; cases g) (Ex.new hpl _ _ g)
    rcases j with _ | _ | _ | j
    · exact ⟨pl, _, _, .ref p1, rfl, rfl, sq_of hl, atI_nat (j := 0) rfl, k p1 _ H2 (.inl rfl) (tq g1) sA d2⟩
    · exact ⟨pl, _, _, .ref p2, rfl, rfl, sq_of hl, atI_nat (j := 1) rfl, k p2 _ H2 (.inr (.inl rfl)) (tq g2) sA d2⟩
    · exact ⟨pl, _, _, .ref p3, rfl, rfl, sq_of hl, atI_nat (j := 2) rfl, k p3 _ H2 (.inr (.inr rfl)) (tq g3) sA d2⟩
    · omega⟩)
theorem ue_le {d : Nat} (hd : d ≤ 2) : Ue d ≤ 23 ∧ Ue d + 1 ≤ Le d ∧ 18 ≤ Le d ∧ Le d ≤ 24 := by
  match d, hd with
  | 0, _ => decide
  | 1, _ => decide
  | 2, _ => decide
theorem nc_spt {x : Addr} {nm tg : Str} {w0 : Nat} : (Fld.mk x nm (.spt w0 tg) 0 []).k.leaf = true := rfl
theorem FAtB.noL {f : Fld} {G' : Hp} (hl : f.k.leaf = true) (h : FAtB K G' NoL f) (d : Nat) : FAt K G' d f := leaf_fat hl h
theorem ok_law_list (T : Tx K mg) (hd : d ≤ 2) (G__law_unit : Pr P w K mg base (40 * d + 9) "_law_unit" (Sp3 (aUnit K c d))) : Pr P w K mg base (40 * d + 10) "_law_list" (Sp3 (aList K c d)) := by
  have G__law_next := ok_law_next (P := P) (w := w) (base := base) (c := c) T
  have G__law_name := ok_law_name (P := P) (w := w) (base := base) (c := c) T
  have G__law_number := ok_law_number (P := P) (w := w) (base := base) (c := c) T
  have G__law_leaf : Pr P w K mg base 6 "_law_leaf" (Sp2 (aLeaf K c)) := ok_law_leaf T
  have G_Spot3 := new_Spot3 (P := P) (w := w) (base := base) T
  have G_Check4 := new_Check4 (P := P) (w := w) (base := base) T
  refine pr3 T.d__law_list T.g__law_list sc__law_list (fun _ _ _ _ _ _ us hl => match us, hl with | [_, _, _], _ => rfl) fun v b e H Q h cdv A outer s E hr hu => ?_
  obtain ⟨q, n, G, cl, rfl, rfl, rfl, a, hn, k⟩ := h
  have hUe := ue_le hd
  refine ⟨_, (pss_cons (ps_set (i := 3) sc__law_list.nd rfl (.inl rfl) (pe_lst pa_nil))
      (pss_cons (ps_for PassesOwn.never rfl (pi_range1 (by rfl) T.b_range (pa_cons (pe_op op_add pe_int (pe_op op_mod (pe_fn G__law_next (hr.mono (by omega)) (by rfl) (pa_cons (pv 0) pa_nil)) pe_int)) pa_nil)) (pg_name (i := 4) sc__law_list.nd rfl (.inl rfl)) (pss_one (ps_if (pt_cmpR op_lt (pe_ix (ixLK (K := K) rfl) (pv 0) pe_int (fun _ _ => rfl)) pe_int (by rfl)) (pss_one (ps_set (i := 3) sc__law_list.nd rfl (.inl rfl) (pe_op op_cat (pv 3) (pe_fn G__law_unit (hr.mono (by omega)) (by rfl) (pa_cons (pv 0) (pa_cons (pv 1) (pa_cons (pv 2) pa_nil))))))) pss_nil)))
      (pss_cut (ps_if (PW.pt (pw_and (pt_cmpR op_lt (pe_ix (ixLK (K := K) rfl) (pv 0) pe_int (fun _ _ => rfl)) pe_int (by rfl)) (pw_and1 (pt_cmpR op_eq (pe_op op_mod (pe_fn G__law_next (hr.mono (by omega)) (by rfl) (pa_cons (pv 0) pa_nil)) pe_int) pe_int (by rfl))))) (pss_cons (ps_set (i := 5) sc__law_list.nd rfl (.inl rfl) (pe_fn G__law_leaf (hr.mono (by omega)) (by rfl) (pa_cons (pv 0) (pa_cons (pv 2) pa_nil))))
      (pss_cons (ps_set (i := 6) sc__law_list.nd rfl (.inl rfl) (pe_fn G__law_number (hr.mono (by omega)) (by rfl) (pa_cons (pv 0) pa_nil)))
      (pss_one (ps_set (i := 3) sc__law_list.nd rfl (.inl rfl) (pe_op op_cat (pe_op op_cat (pe_op op_cat (pv 3) (pe_lst (pa_cons (pe_new G_Spot3 (hr.mono (by omega)) (by rfl) (pa_cons (pe_fn G__law_name (hr.mono (by omega)) (by rfl) (pa_cons (pv 0) pa_nil)) (pa_cons (pe_ix (ixLK (K := K) rfl) (pe_lst (pa_cons pe_int (pa_cons pe_int pa_nil))) (pe_op op_mod (pe_fn G__law_next (hr.mono (by omega)) (by rfl) (pa_cons (pv 0) pa_nil)) pe_int) (fun _ _ => rfl)) (pa_cons (fldK (K := K) rfl (pv 6) rfl) pa_nil)))) pa_nil))) (pv 5)) (pe_lst (pa_cons (pv 6) pa_nil))))))) pss_nil)
      (pss_cut (ps_if (PW.pt (pw_and (pt_cmpR (op_neNil hu) (pv 3) (pe_lst pa_nil) (by rfl)) (pw_and1 (pt_cmpR op_eq (pe_op op_mod (pe_fn G__law_next (hr.mono (by omega)) (by rfl) (pa_cons (pv 0) pa_nil)) pe_int) pe_int (by rfl))))) (pss_cons (ps_asg (pe_ix (ixLK (K := K) rfl) (pe_lst (pa_cons (pe_tup (pa_cons pe_str (pa_cons pe_int pa_nil))) (pa_cons (pe_tup (pa_cons pe_str (pa_cons pe_int pa_nil))) (pa_cons (pe_tup (pa_cons pe_str (pa_cons pe_int pa_nil))) pa_nil)))) (pe_op op_mod (pe_fn G__law_next (hr.mono (by omega)) (by rfl) (pa_cons (pv 0) pa_nil)) pe_int) (fun _ _ => rfl)) (pgTK (K := K) (n := 2) rfl rfl (pgs_cons (pg_name (i := 7) sc__law_list.nd rfl (.inl rfl)) (pgs_cons (pg_name (i := 8) sc__law_list.nd rfl (.inl rfl)) pgs_nil))))
      (pss_one (ps_set (i := 3) sc__law_list.nd rfl (.inl rfl) (pe_op op_cat (pv 3) (pe_lst (pa_cons (pe_new G_Check4 (hr.mono (by omega)) (by rfl) (pa_cons (pe_fn G__law_name (hr.mono (by omega)) (by rfl) (pa_cons (pv 0) pa_nil)) (pa_cons (pv 7) (pa_cons (pv 8) (pa_cons (fldK (K := K) rfl (pe_ix (ixLK (K := K) rfl) (pv 3) pe_int (fun _ _ => rfl)) rfl) pa_nil))))) pa_nil)))))) pss_nil)
      (pss_one (ps_ret (pv 3))))))), ?_⟩
  refine q_asgL (el_lst ea_nil (by decide)) fun p0 H1 hp0 e1 h1 => ?_
  have hp0q : p0 ≠ q := fun z => a.st.ne (z ▸ hp0)
  have fo0 : Fo K c d q n G H IBnd n p0 [] G H1 := ⟨(Us.refl a.ex).ext e1, a.st.ext e1, ⟨h1, hp0, fresh_back a.ex hp0, hp0q⟩, UW.nil c d n, fun _ h => absurd h List.not_mem_nil, fun w hw => by have hw : w = 0 := hw; subst hw; exact ib_0⟩
  refine q_forT (ta_cons (te_op (te_c (te_nm rfl (a.st.ext e1) (by decide) fun x H2 hx1 hx2 s2 d2 => te_addI (ta_nil ⟨_, rfl, by omega, by omega, ?_⟩)))))
  have fo2 : Fo K c d q n G H IBnd n p0 [] G H2 := by
    obtain ⟨u2, l2⟩ := fo0.sx a s2 d2
    exact ⟨u2, d2, ⟨l2, fo0.lr.fr, fo0.lr.no, fo0.lr.ne⟩, fo0.uw, fun _ h => absurd h List.not_mem_nil, fo0.bd⟩
  refine for_it (N := (1 + x).toNat) (fun i σ' H' => ∃ z pf m us G', σ' = [some (.ref q), some (vN d), some (.bl cl), some (.ref pf), z, none, none, none, none] ∧ Fo K c d q n G H IBnd m pf us G' H' ∧ n ≤ m ∧ (14 ≤ n → m = n ∧ us = []) ∧ (n ≤ 13 → m ≤ Ue d ∨ m ≤ 13) ∧ (n ≤ 13 → 0 < i → n < m)) ⟨none, p0, n, [], G, rfl, fo2, Nat.le_refl _, fun _ => ⟨rfl, rfl⟩, fun _ => .inr (by omega), fun _ z => absurd z (Nat.lt_irrefl _)⟩ (fun i _ _ hi _ => hi) (fun _ _ _ => Nat.le_refl _) ?_ ?_
  · rintro i x' σ' H3 H4 hi ⟨z, pf, m, us, G', rfl, fo, hnm, h14, h13, hlt⟩ ⟨rfl, rfl⟩
    refine s_when (b := decide ((m : Int) < 14)) (et_test (ev_op (stN rfl fo.st) ev_c rv_I0)) (fun hb H5 e5 => ?_) fun hb H5 e5 => ?_
    · have hm : m ≤ 13 := by have := of_decide_eq_true hb; omega
      have hn13 : n ≤ 13 := by omega
      have fo5 := fo.ext e5
      refine s_asgT (te_op (te_var rfl (te_fn (ta_cons (te_var rfl (ta_cons (te_var rfl (ta_cons (te_var rfl (ta_nil ⟨_, _, _, rfl, q, m, G', cl, rfl, rfl, rfl, a.us fo5.up fo5.st, hm, fun l us2 H6 G6 m2 u6 d6 lr6 uw6 hm2 hle fa6 bd6 => ?_⟩))))))))))
      have l6 := u6.eh _ _ fo5.lr.ne fo5.lr.at_
      have hf1 := fo.uw.few
      have hf2 := uw6.few
      refine te_catF l6 lr6.at_ (by rw [List.length_map, List.length_map]; omega) fun p hp => ?_
      refine ⟨_, p, m2, us ++ us2, G6, rfl, fo5.grow u6 d6 hp (fo.uw.app2 uw6 (by omega)) fa6 fun w1 w2 b1 s2 => ib_step b1 (bd6 w2 s2) hm hnm hm2, by omega, fun z => by omega, fun _ => .inl hle, fun _ _ => by omega⟩
    · have hm : 14 ≤ m := by have := of_decide_eq_false hb; omega
      exact ⟨_, pf, m, us, G', rfl, fo.ext e5, hnm, h14, h13, fun h _ => by omega⟩
  · rintro σ' H3 ⟨z, pf, m, us, G', rfl, fo, hnm, h14, h13, hlt⟩
    have hN : 0 < (1 + x).toNat := by omega
    have hlt := fun h => hlt h hN
    refine q_cut (M := fun σ' H' => ∃ z1 z2 z3 pf m us G', σ' = [some (.ref q), some (vN d), some (.bl cl), some (.ref pf), z1, z2, z3, none, none] ∧ Fo K c d q n G H SBnd m pf us G' H' ∧ n ≤ m ∧ (14 ≤ n → m = n ∧ us = []) ∧ (n ≤ 13 → m + 1 ≤ Le d)) ?_ ?_
    · have keep : ∀ H4 : Hp, ∀ m0 : Nat, Sx q H3 H4 → DSt q c m H4 → ∃ z1 z2 z3 pf' m' us' G'', [some (.ref q), some (vN d), some (.bl cl), some (.ref pf), z, none, none, none, none] = [some (.ref q), some (vN d), some (.bl cl), some (.ref pf'), z1, z2, z3, none, none] ∧ Fo K c d q n G H SBnd m' pf' us' G'' H4 ∧ n ≤ m' ∧ (14 ≤ n → m' = n ∧ us' = []) ∧ (n ≤ 13 → m' + 1 ≤ Le d) := by
        intro H4 _ s4 d4
        obtain ⟨u4, l4⟩ := fo.sx a s4 d4
        refine ⟨z, none, none, pf, m, us, G', rfl, ⟨u4, d4, ⟨l4, fo.lr.fr, fo.lr.no, fo.lr.ne⟩, fo.uw, fo.fa, fun w hw => sb_of (fo.bd w hw)⟩, hnm, h14, fun h => ?_⟩
        rcases h13 h with h | h <;> omega
      refine (et_test (ev_op (stN rfl fo.st) ev_c rv_I0) : EvT _ _ H3 (decide ((m : Int) < 14))) H3 (Ex.refl _) _ fun H4 e4 => ?_
      by_cases hm : (m : Int) < 14
      · rw [decide_eq_true hm]
        show tTest (tOp rEq (tOp (rI (fun _ j => 0 < j) fun i j => .int (i % j)) (tFn (Sp1 (aNext c)) (tCons (tVar 0) tNil)) (tC (.int 5))) (tC (.int 1))) _ H4 _
        refine te_nmeq rfl (fo.st.ext e4) (by decide) fun bb H5 s5 d5 => ⟨bb, rfl, ?_⟩
        have s35 := (Sx.of e4).trans s5
        cases bb with
        | false => exact keep H5 0 s35 d5
        | true =>
          show tSeq (tAsg (tFn (Sp2 (aLeaf K c)) (tCons (tVar 0) (tCons (tVar 2) tNil))) (gName 5)) _ _ _ H5
          have hm13 : m ≤ 13 := by omega
          have hn13 : n ≤ 13 := by omega
          have hltm := hlt hn13
          obtain ⟨u5, l5⟩ := fo.sx a s35 d5
          have a5 := a.us u5 d5
          refine q_asgT (te_fn (ta_cons (te_var rfl (ta_cons (te_var rfl (ta_nil ⟨_, _, rfl, q, m, G', cl, rfl, rfl, a5, by omega, fun l us2 H6 G6 m1 u6 d6 lr6 uw6 h1 h2 lf6 b5 b6 => ?_⟩))))))
          have a6 := a5.us u6 d6
          refine q_asgT (te_fn (ta_cons (te_var rfl (ta_nil ⟨_, rfl, q, m1, G6, rfl, a6, by omega, fun f H7 G7 u7 d7 hfn hfk hfA hfw => ?_⟩))))
          have a7 := a6.us u7 d7
          have obf : Ob K H7 f := Ob.mono u7.sub hfA.ob
          refine s_asgT (te_op (te_op (te_op (te_var rfl (te_lst1 (te_fn (ta_cons (te_name (ev_var rfl) d7 (by omega) fun H8 s8 d8 => ta_cons (te_pick (ea_cons ev_c (ea_cons ev_c ea_nil)) rfl d8 rfl (by decide) (by simp) fun wv H9 hw s9 d9 => ta_cons (te_ev (ev_name T (ev_var rfl) (Ob.mono' obf (s8.trans s9) d7)) fun H10 e10 => ta_nil ⟨rfl, fun x H11 dx hx e11 h11 => ⟨sz_of (by simp), fun p1 hp1 => ?_⟩⟩))))))))))
          obtain ⟨wd, rfl, hw8⟩ : ∃ wd : Nat, wv = vN wd ∧ (wd = 8 ∨ wd = 16) := by
            simp only [List.mem_cons, List.not_mem_nil, or_false] at hw
            rcases hw with rfl | rfl
            · exact ⟨8, rfl, .inl rfl⟩
            · exact ⟨16, rfl, .inr rfl⟩
          have s10 := (s8.trans s9).trans (Sx.of e10)
          have d10 := d9.ext e10
          have a10 := a7.sx s10 d10
          obtain ⟨G11, u11, fS⟩ := new_leaf (.spt wd f.nm) (nmOf c (m1 + 1)) a10 e11 hx h11 rfl rfl
          have d11 := d10.ext e11
          have u711 := (a7.sus s10).trans u11
          have uAll := u6.trans (u7.trans u711)
          have l11 : H11 pf = some (.lst (us.map Fld.v)) := uAll.eh _ _ fo.lr.ne l5
          have i11 : H11 l = some (.lst (us2.map Fld.v)) := (u7.trans u711).eh _ _ lr6.ne lr6.at_
          have hz1 := fo.uw.few
          have hz2 := uw6.few
          have E1 := Ex.new hp1 (o := .lst [V.ref x])
          refine te_catF (E1 _ _ l11) upd_same (by rw [List.length_map]; show _ + 1 ≤ _; omega) fun p2 hp2 => te_var rfl ?_
          have E2 := Ex.new hp2 (o := .lst (us.map Fld.v ++ [V.ref x]))
          refine te_catF upd_same (E2 _ _ (E1 _ _ i11)) (by rw [List.length_append, List.length_map, List.length_map]; show _ + 1 + _ ≤ _; omega) fun p3 hp3 => te_lst1 (te_var rfl ⟨sz_of (by simp), fun p4 hp4 => ?_⟩)
          have E3 := Ex.new hp3 (o := .lst ((us.map Fld.v ++ [V.ref x]) ++ us2.map Fld.v))
          have E4 := Ex.new hp4 (o := .lst [f.v])
          refine te_catF (E4 _ _ upd_same) upd_same (by rw [List.length_append, List.length_append, List.length_map, List.length_map]; show _ + 1 + _ + 1 ≤ _; omega) fun p5 hp5 => ?_
          have EE := ((E1.trans E2).trans E3).trans E4
          obtain ⟨S, hS⟩ : ∃ S, S = Fld.mk x (nmOf c (m1 + 1)) (.spt wd f.nm) 0 [] := ⟨_, rfl⟩
          rw [← hS] at fS
          have hSl : S.k.leaf = true := by rw [hS]; rfl
          have hfl : f.k.leaf = true := by obtain ⟨w1, sg, lt, lo, hi, hk, _⟩ := hfk; rw [hk]; rfl
          have lfS : ∀ {w'}, LF d S w' ↔ w' = wd := by intro w'; rw [hS]; rfl
          have uwS : UW c d (m1 + 1) (m1 + 2) [S] := UW.one (by rw [hS]; rfl) (by rw [hS]; rfl) (by rw [hS]; rfl) (by rw [hS]; exact ⟨by omega, by omega⟩) (fun w' h => by rw [lfS] at h; omega) ⟨wd, lfS.mpr rfl⟩
          obtain ⟨w1, sg, lt, lo, hi, hk, hw32, hwm⟩ := hfk
          have uwT : UW c d m1 (m1 + 1) [f] := UW.one hfn (by rw [hk]; rfl) (by rw [hk]; rfl) (hfw d) (fun w' h => by rw [num_lf hk] at h; omega) ⟨w1, (num_lf hk).mpr rfl⟩
          have lfs : ∀ g ∈ us2, g.k.leaf = true := fun g hg => (lf6 g hg).leaf
          have uw6d : UW c d m m1 us2 := uw6.leaf lfs
          have hm1 : m1 + 2 ≤ 26 := by omega
          have ap1 := nm_apart fo.uw uwS (by omega) hm1
          have ap2 := nm_apart fo.uw uw6d (by omega) (by omega)
          have ap3 := nm_apart fo.uw uwT (by omega) (by omega)
          have ap4 := nm_apart uw6d uwS (by omega) hm1
          have ap5 := nm_apart uw6d uwT (by omega) (by omega)
          have ap6 := nm_apart uwT uwS (by omega) hm1
          have uwN : UW c d n (m1 + 2) (us ++ ([S] ++ (us2 ++ [f]))) := by
            refine (fo.uw.mono (Nat.le_refl _) (by omega)).app (((uwS.mono (by omega) (Nat.le_refl _))).app ((uw6d.mono (by omega) (by omega)).app (uwT.mono (by omega) (by omega)) ap5) fun x1 hx1 y1 hy1 => ?_) fun x1 hx1 y1 hy1 => ?_
            · rcases List.mem_append.mp hy1 with hy | hy
              · exact (ap4 y1 hy x1 hx1).symm
              · exact (ap6 y1 hy x1 hx1).symm
            · rcases List.mem_append.mp hy1 with hy | hy
              · exact ap1 x1 hx1 y1 hy
              · rcases List.mem_append.mp hy with hy | hy
                · exact ap2 x1 hx1 y1 hy
                · exact ap3 x1 hx1 y1 hy
          have foN := ((⟨u5, d5, ⟨l5, fo.lr.fr, fo.lr.no, fo.lr.ne⟩, fo.uw, fo.fa, fo.bd⟩ : Fo K c d q n G H IBnd m pf us G' H5).grow (vs := [S] ++ (us2 ++ [f])) (m' := m1 + 2) (B' := SBnd) (p2 := p5) (uAll.ext EE) (d11.ext EE) hp5 uwN (fun g hg => ?_) fun a1 a2 b1 s2 => ?_)
          · refine ⟨_, _, _, p5, m1 + 2, us ++ ([S] ++ (us2 ++ [f])), G11, rfl, ?_, by omega, fun z => by omega, fun _ => by omega⟩
            have eq : us.map Fld.v ++ ([S] ++ (us2 ++ [f])).map Fld.v = ((us.map Fld.v ++ [V.ref x]) ++ us2.map Fld.v) ++ [f.v] := by
              rw [List.map_append, List.map_append, ← List.append_assoc, ← List.append_assoc, hS]
              rfl
            rw [eq] at foN
            exact foN
          · rcases List.mem_append.mp hg with hg | hg
            · rw [List.mem_singleton.mp hg]
              exact fS.noL hSl d
            · rcases List.mem_append.mp hg with hg | hg
              · exact ((lf6 g hg).at_.imp (u7.trans u711).ex fun _ _ z => z : FAtB K G11 NoL g).noL (lfs g hg) d
              · rw [List.mem_singleton.mp hg]
                exact (hfA.imp u711.ex fun _ _ z => z : FAtB K G11 NoL f).noL hfl d
          · obtain ⟨x1, x2, t1, t2, e2⟩ := SumB.app.mp s2
            obtain ⟨x3, x4, t3, t4, e3⟩ := SumB.app.mp t2
            have r1 := sum_one t1
            rw [lfS] at r1
            have r3 := sum_ub lfs t3
            have r4 := sum_one t4
            rw [num_lf hk] at r4
            have := sb_spot (k := m1 - m) (u := a2) b1 (by omega) hm13 (by omega) (by omega)
            rwa [show m + (m1 - m) + 2 = m1 + 2 by omega] at this
      · rw [decide_eq_false hm]
        exact keep H4 0 (Sx.of e4) (fo.st.ext e4)
    · rintro σ' H4 ⟨z1, z2, z3, pf, m, us, G', rfl, fo, hnm, h14, hle⟩
      refine q_cut (M := fun σ' H' => ∃ z1 z2 z3 z4 z5 pf m us G', σ' = [some (.ref q), some (vN d), some (.bl cl), some (.ref pf), z1, z2, z3, z4, z5] ∧ Fo K c d q n G H LBnd m pf us G' H' ∧ (14 ≤ n → m = n) ∧ (n ≤ 13 → m ≤ Le d)) ?_ ?_
      · have keep : ∀ H5 : Hp, Sx q H4 H5 → DSt q c m H5 → ∃ y1 y2 y3 y4 y5 pf' m' us' G'', [some (.ref q), some (vN d), some (.bl cl), some (.ref pf), z1, z2, z3, none, none] = [some (.ref q), some (vN d), some (.bl cl), some (.ref pf'), y1, y2, y3, y4, y5] ∧ Fo K c d q n G H LBnd m' pf' us' G'' H5 ∧ (14 ≤ n → m' = n) ∧ (n ≤ 13 → m' ≤ Le d) := by
          intro H5 s5 d5
          obtain ⟨u5, l5⟩ := fo.sx a s5 d5
          refine ⟨z1, z2, z3, none, none, pf, m, us, G', rfl, ⟨u5, d5, ⟨l5, fo.lr.fr, fo.lr.no, fo.lr.ne⟩, fo.uw, fo.fa, fun w hw => ?_⟩, fun z => (h14 z).1, fun z => by have := hle z; omega⟩
          rcases Nat.lt_or_ge n 14 with hn14 | hn14
          · exact lb_of (fo.bd w hw) (by omega)
          · obtain ⟨e1, e2⟩ := h14 hn14
            subst e2
            have hw : w = 0 := hw
            rw [hw, e1]
            exact lb_nil hn14
        refine (et_test (ev_opL (ev_var rfl) (el_lst ea_nil (by decide)) fun p2 H1 hp2 e1 => rv_val fun H3 e3 Q3 q3 => ⟨pf, p2, us.map Fld.v, rfl, rfl, e3 _ _ (e1 _ _ fo.lr.at_), e3 _ _ hp2, q3⟩) : EvT _ _ H4 (!(us.map Fld.v).isEmpty)) H4 (Ex.refl _) _ fun H5 e5 => ?_
        cases us with
        | nil => exact keep H5 (Sx.of e5) (fo.st.ext e5)
        | cons f0 rest =>
          show tTest (tOp rEq (tOp (rI (fun _ j => 0 < j) fun i j => .int (i % j)) (tFn (Sp1 (aNext c)) (tCons (tVar 0) tNil)) (tC (.int 4))) (tC (.int 1))) _ H5 _
          refine te_nmeq rfl (fo.st.ext e5) (by decide) fun bb H6 s6 d6 => ⟨bb, rfl, ?_⟩
          have s46 := (Sx.of e5).trans s6
          cases bb with
          | false => exact keep H6 s46 d6
          | true =>
            have hn13 : n ≤ 13 := by
              rcases Nat.lt_or_ge n 14 with h | h
              · omega
              · exact absurd (h14 h).2 (by simp)
            have hle' := hle hn13
            obtain ⟨u6, l6⟩ := fo.sx a s46 d6
            have a6 := a.us u6 d6
            show tSeq (tAsg (tOp (rIxL K) (tLst (tCons (tTup (tCons (tC (.str "sum")) (tCons (tC (.int 8)) tNil))) (tCons (tTup (tCons (tC (.str "sum")) (tCons (tC (.int 16)) tNil))) (tCons (tTup (tCons (tC (.str "xor")) (tCons (tC (.int 8)) tNil))) tNil)))) (tOp (rI (fun _ j => 0 < j) fun i j => .int (i % j)) (tFn (Sp1 (aNext c)) (tCons (tVar 0) tNil)) (tC (.int 3)))) (gTup K 2 (gCons (gName 7) (gCons (gName 8) gNil)))) _ _ _ H6
            refine q_asgG (te_pick3 (i := 0) (xs1 := [.str "sum", .int 8]) (xs2 := [.str "sum", .int 16]) (xs3 := [.str "xor", .int 8]) (eu_tup (ea_cons ev_c (ea_cons ev_c ea_nil)) (by decide)) (eu_tup (ea_cons ev_c (ea_cons ev_c ea_nil)) (by decide)) (eu_tup (ea_cons ev_c (ea_cons ev_c ea_nil)) (by decide)) rfl d6 fun pp xs H7 hxs hpp s7 d7 => ?_)
            obtain ⟨hw, wd, rfl, hw8⟩ : ∃ (hw : Str) (wd : Nat), xs = [.str hw, vN wd] ∧ (wd = 8 ∨ wd = 16) := by
              rcases hxs with rfl | rfl | rfl
              · exact ⟨_, 8, rfl, .inl rfl⟩
              · exact ⟨_, 16, rfl, .inr rfl⟩
              · exact ⟨_, 8, rfl, .inl rfl⟩
            refine ⟨pp, _, rfl, st_of hpp, rfl, _, _, rfl, _, _, rfl, rfl, ?_⟩
            have a7 := a6.sx s7 d7
            have l7 := s7.eh _ _ fo.lr.ne l6
            have obf : Ob K H7 f0 := Ob.mono a7.ex ((fo.fa f0 (List.mem_cons_self ..)).ob)
            have hm26 : m + 1 ≤ 26 := by omega
            refine s_asgT (te_op (te_var rfl (te_lst1 (te_fn (ta_cons (te_name (ev_var rfl) d7 (by omega) fun H8 s8 d8 => ta_cons (te_var rfl (ta_cons (te_var rfl (ta_cons (te_ev (ev_name T (ev_op (ev_var rfl) ev_c (rv_ixL (sq_of (s8.eh _ _ fo.lr.ne l7)) (atI_nat (j := 0) rfl))) (Ob.mono' obf s8 d7)) fun H9 e9 => ta_nil ⟨rfl, fun x H10 dx hx e10 h10 => ⟨sz_of (by simp), fun p1 hp1 => ?_⟩⟩)))))))))))
            have a9 := a7.sx (s8.trans (Sx.of e9)) (d8.ext e9)
            obtain ⟨G10, u10, fS⟩ := new_leaf (.chk hw wd f0.nm) (nmOf c m) a9 e10 hx h10 rfl rfl
            have d10 := (d8.ext e9).ext e10
            have uAll := (a6.sus s7).trans ((a7.sus (s8.trans (Sx.of e9))).trans u10)
            have l10 : H10 pf = some (.lst ((f0 :: rest).map Fld.v)) := uAll.eh _ _ fo.lr.ne l6
            have hz1 := fo.uw.few
            have E1 := Ex.new hp1 (o := .lst [V.ref x])
            refine te_catF (E1 _ _ l10) upd_same (by rw [List.length_map]; show _ + 1 ≤ _; omega) fun p2 hp2 => ?_
            obtain ⟨S, hS⟩ : ∃ S, S = Fld.mk x (nmOf c m) (.chk hw wd f0.nm) 0 [] := ⟨_, rfl⟩
            rw [← hS] at fS
            have hSl : S.k.leaf = true := by rw [hS]; rfl
            have lfS : ∀ {w'}, LF d S w' ↔ w' = wd := by intro w'; rw [hS]; rfl
            have uwS : UW c d m (m + 1) [S] := UW.one (by rw [hS]; rfl) (by rw [hS]; rfl) (by rw [hS]; rfl) (by rw [hS]; exact ⟨by omega, by omega⟩) (fun w' h => by rw [lfS] at h; omega) ⟨wd, lfS.mpr rfl⟩
            have foN := ((⟨u6, d6, ⟨l6, fo.lr.fr, fo.lr.no, fo.lr.ne⟩, fo.uw, fo.fa, fo.bd⟩ : Fo K c d q n G H SBnd m pf (f0 :: rest) G' H6).grow (vs := [S]) (m' := m + 1) (B' := LBnd) (p2 := p2) (uAll.ext E1) (d10.ext E1) hp2 (fo.uw.app2 uwS hm26) (fun g hg => ?_) fun a1 a2 b1 s2 => ?_)
            · have eq : ([S] : List Fld).map Fld.v = [V.ref x] := by rw [hS]; rfl
              rw [eq] at foN
              exact ⟨_, _, _, _, _, p2, m + 1, (f0 :: rest) ++ [S], G10, rfl, foN, fun z => by omega, fun _ => hle'⟩
            · rw [List.mem_singleton.mp hg]
              exact fS.noL hSl d
            · have r1 := sum_one s2
              rw [lfS] at r1
              exact lb_chk b1 hn13 hnm (by omega)
      · rintro σ' H5 ⟨z1, z2, z3, z4, z5, pf, m, us, G', rfl, fo, h14, hle⟩
        refine s_ret (ev_var rfl) fun H6 e6 => ?_
        have fo6 := fo.ext e6
        exact k pf us H6 G' m fo6.up fo6.st fo6.lr fo6.uw hle h14 fo6.fa fo6.bd
end
end Fk

set_option Elab.async false
set_option linter.all false
set_option maxRecDepth 100000
set_option maxHeartbeats 4000000
set_option exponentiation.threshold 3000
namespace Fk
open PySem PySem.Spec PyProof.Rows L2 Evl
theorem sum_le {B : Nat} : ∀ {l : List Nat}, (∀ x ∈ l, x ≤ B) → l.sum ≤ l.length * B
  | [], _ => by simp
  | a :: r, h => by
    have := sum_le fun x hx => h x (List.mem_cons_of_mem _ hx)
    have := h a (List.mem_cons_self ..)
    rw [List.sum_cons, List.length_cons, Nat.succ_mul]
    omega
/-- what a list within a unit can be wide, a bound without the lists themselves -/
theorem lb_use {d a b w : Nat} (h : LBnd d a b w) (hd : d = 0) (hab : a ≤ b) : w ≤ 48 * (b - a) ∧ w ≤ 48 * (14 - a) + 80 ∧ (14 ≤ a → w = 0) := by
  subst hd
  obtain ⟨h1, h2⟩ := h
  rcases Nat.lt_or_ge a 14 with h | h
  · exact ⟨(h1 h).1, (h1 h).2, fun z => by omega⟩
  · have := h2 h
    exact ⟨by omega, by omega, h2⟩
section
variable {P : Program} {w : World} {K : PySem.W.Frag} {mg : Str → Option Value} {base : Heap} {σ : L2.St} {G H H' : Hp} {te ta tb tc tl td ty tx tv : TE} {tt : TT} {tu tw tz : TS} {D : Ends} {q : Addr} {c : Cst} {n i d : Nat} {Q : VK} {v : V} {t tr : TA} {QA : List V → Hp → Prop} {r : R2} {sp : Sp}
/-- a drawn list, one deep less -/
theorem te_list {cl : Bool} (h0 : σ[0]? = some (some (.ref q))) (h1 : σ[1]? = some (some (vN (d + 1)))) (hc : Ev tc σ H (.bl cl)) (a : At q c n G H) (hn : n ≤ 26) (k : ListK K c d q n G H Q) : tFn (Sp3 (aList K c d)) (tCons (tVar 0) (tCons (tOp (rI0 fun i j => .int (i - j)) (tVar 1) (tC (.int 1))) (tCons tc tNil))) σ H Q :=
  te_fn (ta_cons (te_var h0 (ta_cons (te_op (te_var h1 (te_c (te_subI (ta_cons (te_ev hc fun H1 e1 => ta_nil ⟨_, _, _, rfl, q, n, G, cl, rfl, congrArg V.int (by push_cast; omega), rfl, a.ext e1, hn, fun l us H' G' n' u dd lr uw h13 h14 fa bd => k l us H' G' n' (u.pre e1) dd ⟨lr.at_, fresh_back e1 lr.fr, lr.no, lr.ne⟩ uw h13 h14 fa bd⟩)))))))))
/-- a new field with one list in it -/
theorem new_inner {x l dx : Addr} {at_ : List (Str × V)} {us : List Fld} (k : Kd) (nm : Str) (a : At q c n G H) (e : Ex H H') (hx : H x = none) (hl : H l = none) (hlx : l ≠ x) (hl2 : H' l = some (.lst (us.map Fld.v))) (h : H' x = some (.ins (He.ga K k.cls) dx at_)) (hk : k.one = true) (ha : at_ = (Fld.mk x nm k l [(0, 0, l, us)]).attrs) (fa : ∀ f ∈ us, FAt K G d f) :
    ∃ G', Us q G H G' H' ∧ FAt K G' (d + 1) (Fld.mk x nm k l [(0, 0, l, us)]) := by
  have hq := a.st.ne
  have u1 := (Us.refl (q := q) a.ex).ext e
  have u2 := u1.add (fun z => hq (z ▸ hl)) hl hl2 (fresh_back a.ex hl)
  have hg : (upd G l (.lst (us.map Fld.v))) x = none := by rw [upd_ne hlx.symm]; exact fresh_back a.ex hx
  have u3 := u2.add (fun z => hq (z ▸ hx)) hx h hg
  subst ha
  refine ⟨_, u3, ⟨dx, upd_same⟩, ⟨fun _ => ⟨us, rfl⟩, fun z => ?_⟩, fun z => ?_, fun s hs => ?_⟩
  · exfalso
    have z : k.leaf = true := z
    cases k <;> first | exact Bool.noConfusion z | exact Bool.noConfusion hk
  · rw [show (Fld.mk x nm k l [(0, 0, l, us)]).k.one = k.one from rfl, hk] at z
    cases z
  · rw [List.mem_singleton.mp hs]
    exact ⟨by rw [upd_ne hlx, upd_same], fun f hf => ((fa f hf).mono u3.ex)⟩
/-- the unit's list: of one, of two -/
theorem put_unit {H1 G1 : Hp} {m : Nat} {us : List Fld} (a : At q c n G H) (u : Us q G H G1 H1) (dd : DSt q c m H1) (k : UnitK K c d q n G H Q) (hU : UW c d n m us) (h1 : n < m) (h2 : m ≤ Ue d) (fa : ∀ f ∈ us, FAt K G1 d f) (bd : ∀ w, SumB (LF d) us w → UBnd d n m w) (p : Addr) (hp : H1 p = none) : Q (.ref p) (upd H1 p (.lst (us.map Fld.v))) := by
  have hpq : p ≠ q := fun z => dd.ne (z ▸ hp)
  exact k p us _ G1 m (u.ext (Ex.new hp)) (dd.ext (Ex.new hp)) ⟨upd_same, back_us u hpq hp, fresh_back u.sub hp, hpq⟩ hU h1 h2 fa bd
end
/-! ### fields with a list: what they are wide -/
theorem row_lf {d : Nat} {f : Fld} {h : How} {mk : V} {w : Nat} (hk : f.k = .row h mk) : LF d f w ↔ ∃ Ws : List Nat, h.ok 40 Ws.length ∧ (∀ W ∈ Ws, LL d f.fs W) ∧ w = Ws.sum + h.e := by
  unfold LF LenB
  rw [hk]
theorem m8_sum {l : List Nat} (h : ∀ x ∈ l, x % 8 = 0) : l.sum % 8 = 0 := by
  induction l with
  | nil => rfl
  | cons a r ih =>
    rw [List.sum_cons]
    have := h a (List.mem_cons_self ..)
    have := ih fun x hx => h x (List.mem_cons_of_mem _ hx)
    omega
theorem ue_le1 {d : Nat} (hd : d ≤ 1) : Le d + 2 ≤ Ue (d + 1) := by
  match d, hd with
  | 0, _ => decide
  | 1, _ => decide
theorem ub_any {d n m w : Nat} (hd : d ≤ 1) (h : d = 0 → w + 96 ≤ 144 * (m - n) ∧ w ≤ b1 n) : UBnd (d + 1) n m w := by
  match d, hd with
  | 0, _ => exact h rfl
  | 1, _ => trivial
end Fk

set_option Elab.async false
set_option linter.all false
set_option maxRecDepth 100000
set_option maxHeartbeats 4000000
set_option exponentiation.threshold 3000
namespace Fk
open PySem PySem.Spec PyProof.Rows L2 Evl
theorem b1_lo {n : Nat} (h : n ≤ 12) : b1 n = 144 * (14 - n) := by unfold b1; rw [if_pos h]
theorem b1_hi {n : Nat} (h : 13 ≤ n) : b1 n = 224 := by unfold b1; rw [if_neg (by omega)]
theorem end_le {d m m' : Nat} (h13 : m ≤ 13 → m' ≤ Le d) (h14 : 14 ≤ m → m' = m) : m' ≤ Le d ∨ m' = m := by
  rcases Nat.lt_or_ge m 14 with z | z
  · exact .inl (h13 (by omega))
  · exact .inr (h14 z)
/-- some items of a list, no wider than B each -/
theorem rows_le {d : Nat} {us : List Fld} {Ws : List Nat} {B : Nat} (h : ∀ W ∈ Ws, LL (d + 1) us W) (hb : ∀ w, SumB (LF d) us w → w ≤ B) : Ws.sum ≤ Ws.length * B := sum_le fun W hW => hb W (h W hW)
section
variable {P : Program} {w : World} {K : PySem.W.Frag} {mg : Str → Option Value} {base : Heap} {σ : L2.St} {G H H' : Hp} {te ta tb tc tl td ty tx tv : TE} {tt : TT} {tu tw tz : TS} {D : Ends} {q : Addr} {c : Cst} {n i d : Nat} {Q : VK} {v : V} {t tr : TA} {QA : List V → Hp → Prop} {r : R2} {sp : Sp}
theorem ok_law_row (T : Tx K mg) (hd : d ≤ 1) (G__law_list : Pr P w K mg base (40 * d + 10) "_law_list" (Sp3 (aList K c d))) : Pr P w K mg base (40 * d + 12) "_law_row" (Sp3 (aUnit K c (d + 1))) := by
  have G__law_next := ok_law_next (P := P) (w := w) (base := base) (c := c) T
  have G__law_name := ok_law_name (P := P) (w := w) (base := base) (c := c) T
  have G__law_control := ok_law_control (P := P) (w := w) (base := base) (c := c) T
  have G_Row4 := new_Row4 (P := P) (w := w) (base := base) T
  have G_Row5 := new_Row5 (P := P) (w := w) (base := base) T
  have G_Number6 := new_Number6 (P := P) (w := w) (base := base) T
  have hU1 := ue_le1 hd
  have hU2 := ue_le (d := d) (by omega)
  refine pr3 T.d__law_row T.g__law_row sc__law_row (fun _ _ _ _ _ _ us hl => match us, hl with | [_, _, _], _ => rfl) fun v b e H Q h cdv A outer s E hr hu => ?_
  obtain ⟨q, n, G, cl, rfl, rfl, rfl, a, hn, k⟩ := h
  refine ⟨_, (pss_cons (ps_set (i := 3) sc__law_row.nd rfl (.inl rfl) (pe_op op_mod (pe_fn G__law_next (hr.mono (by omega)) (by rfl) (pa_cons (pv 0) pa_nil)) pe_int))
      (pss_cons (ps_set (i := 4) sc__law_row.nd rfl (.inl rfl) (pe_fn G__law_name (hr.mono (by omega)) (by rfl) (pa_cons (pv 0) pa_nil)))
      (pss_cons (ps_if (pt_cmpR op_eq (pv 3) pe_int (by rfl)) (pss_one (ps_ret (pe_lst (pa_cons (pe_new G_Row4 (hr.mono (by omega)) (by rfl) (pa_cons (pv 4) (pa_cons pe_str (pa_cons (pe_op op_mod (pe_fn G__law_next (hr.mono (by omega)) (by rfl) (pa_cons (pv 0) pa_nil)) pe_int) (pa_cons (pe_fn G__law_list (hr.mono (by omega)) (by rfl) (pa_cons (pv 0) (pa_cons (pe_op op_sub (pv 1) pe_int) (pa_cons (pv 2) pa_nil)))) pa_nil))))) pa_nil)))) pss_nil)
      (pss_cons (ps_if (pt_cmpR op_eq (pv 3) pe_int (by rfl)) (pss_cons (ps_set (i := 5) sc__law_row.nd rfl (.inl rfl) (pe_op op_mod (pe_fn G__law_next (hr.mono (by omega)) (by rfl) (pa_cons (pv 0) pa_nil)) pe_int))
      (pss_cons (ps_set (i := 6) sc__law_row.nd rfl (.inl rfl) (pe_fn G__law_control (hr.mono (by omega)) (by rfl) (pa_cons (pv 0) (pa_cons (pe_ix (ixLK (K := K) rfl) (pe_lst (pa_cons pe_non (pa_cons pe_int pa_nil))) (pv 5) (fun _ _ => rfl)) (pa_cons (pe_op op_add (pv 5) (pe_op op_mod (pe_fn G__law_next (hr.mono (by omega)) (by rfl) (pa_cons (pv 0) pa_nil)) pe_int)) pa_nil)))))
      (pss_one (ps_ret (pe_lst (pa_cons (pv 6) (pa_cons (pe_new G_Row4 (hr.mono (by omega)) (by rfl) (pa_cons (pv 4) (pa_cons pe_str (pa_cons (fldK (K := K) rfl (pv 6) rfl) (pa_cons (pe_fn G__law_list (hr.mono (by omega)) (by rfl) (pa_cons (pv 0) (pa_cons (pe_op op_sub (pv 1) pe_int) (pa_cons (pv 2) pa_nil)))) pa_nil))))) pa_nil))))))) pss_nil)
      (pss_cons (ps_set (i := 7) sc__law_row.nd rfl (.inl rfl) (pe_op op_cat (pe_lst (pa_cons (pe_new G_Number6 (hr.mono (by omega)) (by rfl) (pa_cons (pe_fn G__law_name (hr.mono (by omega)) (by rfl) (pa_cons (pv 0) pa_nil)) (pa_cons pe_int (pa_cons pe_bl (pa_cons pe_bl (pa_cons pe_non (pa_cons pe_int pa_nil))))))) pa_nil)) (pe_fn G__law_list (hr.mono (by omega)) (by rfl) (pa_cons (pv 0) (pa_cons (pe_op op_sub (pv 1) pe_int) (pa_cons (pv 2) pa_nil))))))
      (pss_one (ps_ret (pe_lst (pa_cons (pe_new G_Row5 (hr.mono (by omega)) (by rfl) (pa_cons (pv 4) (pa_cons pe_str (pa_cons (pe_op op_mod (pe_fn G__law_next (hr.mono (by omega)) (by rfl) (pa_cons (pv 0) pa_nil)) pe_int) (pa_cons (pv 7) (pa_cons (pe_op op_add pe_int (pe_op op_mod (pe_fn G__law_next (hr.mono (by omega)) (by rfl) (pa_cons (pv 0) pa_nil)) pe_int)) pa_nil)))))) pa_nil))))))))), ?_⟩
  refine q_asgT (te_nm rfl a.st (by decide) fun way H1 hx1 hx2 s1 d1 => ?_)
  refine q_asgT (te_name (ev_var rfl) d1 (by omega) fun H2 s2 d2 => ?_)
  have s12 := s1.trans s2
  refine (sv_when (H := H2) (et_test (ev_op (ev_var rfl) ev_c (rv_eq rfl))) (fun hb H3 e3 => ?_) fun hb H3 e3 => ?_).here
  · have s3 := s12.trans (Sx.of e3)
    have d3 := d2.ext e3
    refine s_retT (te_lst1 (te_fn (ta_cons (te_var rfl (ta_cons (te_c (ta_cons (te_nm rfl d3 (by decide) fun y H4 hy1 hy2 s4 d4 => ta_cons (te_list rfl rfl (ev_var rfl) (a.sx (s3.trans s4) d4) (by omega) fun l us H5 G5 n5 u5 d5 lr5 uw5 h13 h14 fa5 bd5 => ta_nil ⟨rfl, l, us.map Fld.v, rfl, lr5.at_, fun x H6 dx l2 hx hl2 hlx e6 hl6 h6 => ⟨sz_of (by simp), fun p hp => ?_⟩⟩)))))))))
    obtain ⟨m, rfl, hm⟩ : ∃ m : Nat, y = (m : Int) ∧ m ≤ 2 := ⟨y.toNat, by omega, by omega⟩
    have a4 := a.sx (s3.trans s4) d4
    have a5 := a4.us u5 d5
    obtain ⟨G6, u6, f6⟩ := new_inner (.row (.fix m) .non) (nmOf c n) a5 e6 hx hl2 hlx hl6 h6 rfl rfl fa5
    have hn5 : n5 ≤ Ue (d + 1) ∧ n + 1 ≤ n5 := ⟨by rcases end_le h13 h14 with z | z <;> omega, uw5.le⟩
    have hU3 := (ue_le (d := d + 1) (by omega)).1
    have wd := uw5.wd (show n5 ≤ 26 by omega)
    refine put_unit a ((a.sus (s3.trans s4)).trans (u5.trans u6)) (d5.ext e6) k (us := [Fld.mk x (nmOf c n) (.row (.fix m) .non) l2 [(0, 0, l2, us)]]) ((UW.one (n := n) (f := Fld.mk x (nmOf c n) (.row (.fix m) .non) l2 [(0, 0, l2, us)]) rfl rfl rfl ⟨show m ≤ 4 by omega, wd⟩ (fun w hw => ?_) ?_).mono (Nat.le_refl _) hn5.2) (by omega) hn5.1 (all_one f6) (fun w hw => ?_) p hp
    · obtain ⟨Ws, h1, h2, e⟩ := (row_lf (h := .fix m) (mk := .non) rfl).mp hw
      have e : w = Ws.sum + 0 := e
      have := m8_sum fun W hW => uw5.m8 W (h2 W hW)
      omega
    · obtain ⟨w0, hw0⟩ := uw5.inh
      exact ⟨_, (row_lf (h := .fix m) (mk := .non) rfl).mpr ⟨List.replicate m w0, (List.length_replicate : (List.replicate m w0).length = m), fun W hW => by rw [List.eq_of_mem_replicate hW]; exact hw0, rfl⟩⟩
    · refine ub_any hd fun hd0 => ?_
      obtain ⟨Ws, h1, h2, e⟩ := (row_lf (h := .fix m) (mk := .non) rfl).mp (sum_one hw)
      have e : w = Ws.sum + 0 := e
      have h1 : Ws.length = m := h1
      have key : ∀ w, SumB (LF d) us w → w ≤ 48 * (n5 - (n + 1)) ∧ w ≤ 48 * (14 - (n + 1)) + 80 ∧ (14 ≤ n + 1 → w = 0) := fun w hw => lb_use (bd5 w hw) hd0 hn5.2
      have r1 := rows_le h2 fun w hw => (key w hw).1
      have r2 := rows_le h2 fun w hw => (key w hw).2.1
      have m1 : Ws.length * (48 * (n5 - (n + 1))) ≤ 2 * (48 * (n5 - (n + 1))) := Nat.mul_le_mul_right _ (by omega)
      have m2 : Ws.length * (48 * (14 - (n + 1)) + 80) ≤ 2 * (48 * (14 - (n + 1)) + 80) := Nat.mul_le_mul_right _ (by omega)
      refine ⟨by omega, ?_⟩
      rcases Nat.lt_or_ge n 13 with z | z
      · rw [b1_lo (by omega)]
        omega
      · rw [b1_hi z]
        have r3 := rows_le h2 fun w hw => Nat.le_of_eq ((key w hw).2.2 (by omega))
        omega
  refine (sv_when (H := H3) (et_test (ev_op (ev_var rfl) ev_c (rv_eq rfl))) (fun hb H4 e4 => ?_) fun hb H4 e4 => ?_).here
  · -- by a control
    have s4 := (s12.trans (Sx.of e3)).trans (Sx.of e4)
    have d4 := (d2.ext e3).ext e4
    refine q_asgT (te_nm rfl d4 (by decide) fun lo H5 hl1 hl2 s5 d5 => ?_)
    refine q_asgT (te_fn (ta_cons (te_var rfl (ta_cons (te_ev (v := ov (if lo = 0 then none else some 1)) ?_ fun H7 e7 => ta_cons (te_op (te_var rfl (te_nm rfl (d5.ext e7) (by decide) fun y H8 hy1 hy2 s8 d8 => te_addI (ta_nil ?_)))))))))
    · refine ev_opL1 (xs := [.non, .int 1]) (el_lst (ea_cons ev_c (ea_cons ev_c ea_nil)) (by simp)) (fun H9 _ => ev_var rfl) fun p H9 hp _ => ?_
      by_cases h0 : lo = 0
      · rw [if_pos h0, h0]
        exact rv_ixL (sq_of hp) (atI_nat (j := 0) rfl)
      · rw [if_neg h0, show lo = 1 by omega]
        exact rv_ixL (sq_of hp) (atI_nat (j := 1) rfl)
    · have sA := ((s4.trans s5).trans (Sx.of e7)).trans s8
      have a8 := a.sx sA d8
      refine ⟨_, _, _, rfl, q, n + 1, G, _, some (lo + y), rfl, rfl, rfl, a8, by omega, fun g H9 G9 u9 d9 hgn hgk hgA => ?_⟩
      obtain ⟨gw, glt, hgk, hgw⟩ := hgk
      have a9 := a8.us u9 d9
      have obg : Ob K H9 g := Ob.mono u9.sub hgA.ob
      have hgl : g.k.least = lo := by
        rw [hgk]
        show (if lo = 0 then none else some 1).getD (if false = true then -(2 ^ (gw - 1)) else 0) = lo
        by_cases h0 : lo = 0
        · rw [if_pos h0, h0]; rfl
        · rw [if_neg h0]; show (1 : Int) = lo; omega
      have hgg : g.k.greatest = lo + y := by rw [hgk]; rfl
      refine s_retT (te_lst2 (te_var rfl (te_fn (ta_cons (te_var rfl (ta_cons (te_c (ta_cons (te_ev (ev_name T (ev_var rfl) obg) fun H10 e10 => ta_cons (te_list rfl rfl (ev_var rfl) (a9.ext e10) (by omega) fun l us H11 G11 n5 u11 d11 lr11 uw5 h13 h14 fa5 bd5 => ta_nil ⟨rfl, l, us.map Fld.v, rfl, lr11.at_, fun x H12 dx l2 hx hl2' hlx e12 hl12 h12 => ⟨sz_of (by simp), fun p hp => ?_⟩⟩))))))))))
      have a11 := (a9.ext e10).us u11 d11
      obtain ⟨G12, u12, f12⟩ := new_inner (.row (.by_ g.nm lo (lo + y)) .non) (nmOf c n) a11 e12 hx hl2' hlx hl12 h12 rfl rfl fa5
      have hn5 : n5 ≤ Ue (d + 1) ∧ n + 2 ≤ n5 := ⟨by rcases end_le h13 h14 with z | z <;> omega, uw5.le⟩
      have hU3 := (ue_le (d := d + 1) (by omega)).1
      have wd := uw5.wd (show n5 ≤ 26 by omega)
      have uB := (u11.trans u12).pre e10
      have hlg : g.k.least ≤ g.k.greatest := by rw [hgl, hgg]; omega
      have wg : ∀ d, FW d g := fun d => by
        unfold FW FWB
        rw [hgk] at hlg ⊢
        exact ⟨by omega, by omega, hlg, fun i h => nomatch h⟩
      have gl : g.k.leaf = true := by rw [hgk]; rfl
      refine put_unit a ((a.sus sA).trans (u9.trans uB)) (d11.ext e12) k (us := [g, Fld.mk x (nmOf c n) (.row (.by_ g.nm lo (lo + y)) .non) l2 [(0, 0, l2, us)]]) (UW.two (i := n + 1) (j := n) (f := Fld.mk x (nmOf c n) (.row (.by_ g.nm lo (lo + y)) .non) l2 [(0, 0, l2, us)]) hgn rfl (by omega) (by omega) (by omega) (by rw [hgk]; rfl) (by rw [hgk]; rfl) (by rw [hgl, hgg]; rfl) (wg _) ⟨⟨hl1, by omega, by omega⟩, wd⟩ (fun w h => by rw [num_lf hgk] at h; omega) (fun w hw => ?_) ⟨gw, (num_lf hgk).mpr rfl⟩ ?_) (by omega) hn5.1 (all_two ((hgA.imp uB.ex fun _ _ z => z : FAtB K G12 NoL g).noL gl _) f12) (fun w hw => ?_) p hp
      · obtain ⟨Ws, h1, h2, e⟩ := (row_lf (h := .by_ g.nm lo (lo + y)) (mk := .non) rfl).mp hw
        have e : w = Ws.sum + 0 := e
        have := m8_sum fun W hW => uw5.m8 W (h2 W hW)
        omega
      · obtain ⟨w0, hw0⟩ := uw5.inh
        have hlen : (List.replicate lo.toNat w0).length = lo.toNat := List.length_replicate
        exact ⟨_, (row_lf (h := .by_ g.nm lo (lo + y)) (mk := .non) rfl).mpr ⟨List.replicate lo.toNat w0, ⟨by omega, by omega, by omega⟩, fun W hW => by rw [List.eq_of_mem_replicate hW]; exact hw0, rfl⟩⟩
      · refine ub_any hd fun hd0 => ?_
        obtain ⟨x1, x2, t1, t2, e2⟩ := sum_two hw
        rw [num_lf hgk] at t1
        obtain ⟨Ws, h1, h2, e⟩ := (row_lf (h := .by_ g.nm lo (lo + y)) (mk := .non) rfl).mp t2
        have e : x2 = Ws.sum + 0 := e
        obtain ⟨_, h1a, h1b⟩ := h1
        have key : ∀ w, SumB (LF d) us w → w ≤ 48 * (n5 - (n + 1 + 1)) ∧ w ≤ 48 * (14 - (n + 1 + 1)) + 80 ∧ (14 ≤ n + 1 + 1 → w = 0) := fun w hw => lb_use (bd5 w hw) hd0 hn5.2
        have r1 := rows_le h2 fun w hw => (key w hw).1
        have r2 := rows_le h2 fun w hw => (key w hw).2.1
        have m1 : Ws.length * (48 * (n5 - (n + 1 + 1))) ≤ 3 * (48 * (n5 - (n + 1 + 1))) := Nat.mul_le_mul_right _ (by omega)
        have m2 : Ws.length * (48 * (14 - (n + 1 + 1)) + 80) ≤ 3 * (48 * (14 - (n + 1 + 1)) + 80) := Nat.mul_le_mul_right _ (by omega)
        refine ⟨by omega, ?_⟩
        rcases Nat.lt_or_ge n 12 with z | z
        · rw [b1_lo (by omega)]
          omega
        · have r3 := rows_le h2 fun w hw => Nat.le_of_eq ((key w hw).2.2 (by omega))
          have : 144 ≤ b1 n := by
            rcases Nat.lt_or_ge n 13 with z2 | z2
            · rw [b1_lo (by omega)]; omega
            · rw [b1_hi z2]; omega
          omega
  · -- to its end
    have s4 := (s12.trans (Sx.of e3)).trans (Sx.of e4)
    have d4 := (d2.ext e3).ext e4
    refine q_asgT (te_op (te_lst1 (te_fn (ta_cons (te_name (ev_var rfl) d4 (by omega) fun H5 s5 d5 => ta_cons (te_c (ta_cons (te_c (ta_cons (te_c (ta_cons (te_c (ta_cons (te_c (ta_nil ⟨rfl, fun x1 H6 dx1 hx1' e6 h6 => ⟨sz_of (by simp), fun p1 hp1 => ?_⟩⟩)))))))))))))))
    have s45 := s4.trans s5
    have a5 := a.sx s45 d5
    obtain ⟨G6, u6, f6⟩ := new_leaf (.num 8 false false none (some 99) none false) (nmOf c (n + 1)) a5 e6 hx1' h6 rfl rfl
    have a6 := a5.us u6 (d5.ext e6)
    obtain ⟨N, hN⟩ : ∃ N, N = Fld.mk x1 (nmOf c (n + 1)) (.num 8 false false none (some 99) none false) 0 [] := ⟨_, rfl⟩
    rw [← hN] at f6
    have e7 := Ex.new hp1 (o := .lst [V.ref x1])
    refine te_list rfl rfl (ev_var rfl) (a6.ext e7) (by omega) fun l us H8 G8 n5 u8 d8 lr8 uw5 h13 h14 fa5 bd5 => ?_
    have hp1q : p1 ≠ q := fun z => a6.st.ne (z ▸ hp1)
    have hz5 := uw5.few
    have hn5 : n5 ≤ Ue (d + 1) ∧ n + 2 ≤ n5 := ⟨by rcases end_le h13 h14 with z | z <;> omega, uw5.le⟩
    have hU3 := (ue_le (d := d + 1) (by omega)).1
    refine te_catF (u8.eh _ _ hp1q upd_same) lr8.at_ (by rw [List.length_map]; show 1 + _ ≤ _; omega) fun p2 hp2 => ?_
    have e9 := Ex.new hp2 (o := .lst ([V.ref x1] ++ us.map Fld.v))
    have d9 := d8.ext e9
    have u9 := (u8.pre e7).ext e9
    have a9 := a6.us u9 d9
    have hp2q : p2 ≠ q := fun z => d8.ne (z ▸ hp2)
    refine s_retT (te_lst1 (te_fn (ta_cons (te_var rfl (ta_cons (te_c (ta_cons (te_nm rfl d9 (by decide) fun y H10 hy1 hy2 s10 d10 => ta_cons (te_var rfl (ta_cons (te_op (te_c (te_nm rfl d10 (by decide) fun z H11 hz1 hz2 s11 d11 => te_addI (ta_nil ⟨rfl, p2, [V.ref x1] ++ us.map Fld.v, rfl, s11.eh _ _ hp2q (s10.eh _ _ hp2q upd_same), fun x H12 dx l2 hx hl2' hlx e12 hl12 h12 => ⟨sz_of (by simp), fun p hp => ?_⟩⟩))))))))))))))
    obtain ⟨m, rfl, hm⟩ : ∃ m : Nat, y = (m : Int) ∧ m ≤ 3 := ⟨y.toNat, by omega, by omega⟩
    have s911 := s10.trans s11
    have a11 := a9.sx s911 d11
    have faN : ∀ f ∈ N :: us, FAt K G8 d f := fun f hf => by
      rcases List.mem_cons.mp hf with rfl | hf
      · exact (f6.imp u8.ex fun _ _ z => z : FAtB K G8 NoL _).noL (by rw [hN]; rfl) d
      · exact fa5 f hf
    have hmapN : (N :: us).map Fld.v = [V.ref x1] ++ us.map Fld.v := by rw [hN]; rfl
    obtain ⟨G12, u12, f12⟩ := new_inner (us := N :: us) (.row (.end_ m) (.int (100 + z))) (nmOf c n) a11 e12 hx hl2' hlx (by rw [hmapN]; exact hl12) h12 rfl rfl faN
    have lfN : ∀ {w'}, LF d N w' ↔ w' = 8 := by intro w'; rw [hN]; rfl
    have uwN : UW c d (n + 1) (n + 2) [N] := UW.one (by rw [hN]; rfl) (by rw [hN]; rfl) (by rw [hN]; rfl) (by rw [hN]; exact num_fw (by decide) (by decide) (by decide) d) (fun w' h => by rw [lfN] at h; omega) ⟨8, lfN.mpr rfl⟩
    have uwI : UW c d (n + 1) n5 (N :: us) := uwN.app2 uw5 (by omega)
    have wd := uwI.wd (show n5 ≤ 26 by omega)
    refine put_unit a (((a.sus s45).trans u6).trans (u9.trans ((a9.sus s911).trans u12))) (d11.ext e12) k (us := [Fld.mk x (nmOf c n) (.row (.end_ m) (.int (100 + z))) l2 [(0, 0, l2, N :: us)]]) ((UW.one (n := n) (f := Fld.mk x (nmOf c n) (.row (.end_ m) (.int (100 + z))) l2 [(0, 0, l2, N :: us)]) rfl rfl rfl ⟨⟨show m ≤ 4 by omega, N, us, rfl, by rw [hN]; rfl, by rw [hN]; rfl⟩, wd⟩ (fun w hw => ?_) ⟨_, (row_lf (h := .end_ m) (mk := .int (100 + z)) rfl).mpr ⟨[], Nat.zero_le _, fun _ h => absurd h List.not_mem_nil, rfl⟩⟩).mono (Nat.le_refl _) (by omega)) (by omega) hn5.1 (all_one f12) (fun w hw => ?_) p hp
    · obtain ⟨Ws, h1, h2, e⟩ := (row_lf (h := .end_ m) (mk := .int (100 + z)) rfl).mp hw
      have e : w = Ws.sum + 8 := e
      have := m8_sum fun W hW => uwI.m8 W (h2 W hW)
      omega
    · refine ub_any hd fun hd0 => ?_
      obtain ⟨Ws, h1, h2, e⟩ := (row_lf (h := .end_ m) (mk := .int (100 + z)) rfl).mp (sum_one hw)
      have e : w = Ws.sum + 8 := e
      have h1 : Ws.length ≤ m := h1
      have key : ∀ w, SumB (LF d) (N :: us) w → w ≤ 8 + 48 * (n5 - (n + 1 + 1)) ∧ w ≤ 8 + (48 * (14 - (n + 1 + 1)) + 80) ∧ (14 ≤ n + 1 + 1 → w ≤ 8) := fun w hw => by
        obtain ⟨x3, x4, t1, t2, e3⟩ := hw
        rw [lfN] at t1
        have := lb_use (bd5 x4 t2) hd0 hn5.2
        exact ⟨by omega, by omega, fun z => by have := this.2.2 z; omega⟩
      have r1 := rows_le h2 fun w hw => (key w hw).1
      have r2 := rows_le h2 fun w hw => (key w hw).2.1
      have m1 : Ws.length * (8 + 48 * (n5 - (n + 1 + 1))) ≤ 3 * (8 + 48 * (n5 - (n + 1 + 1))) := Nat.mul_le_mul_right _ (by omega)
      have m2 : Ws.length * (8 + (48 * (14 - (n + 1 + 1)) + 80)) ≤ 3 * (8 + (48 * (14 - (n + 1 + 1)) + 80)) := Nat.mul_le_mul_right _ (by omega)
      refine ⟨by omega, ?_⟩
      rcases Nat.lt_or_ge n 12 with z | z
      · rw [b1_lo (by omega)]
        omega
      · have r3 := rows_le h2 fun w hw => (key w hw).2.2 (by omega)
        have : 144 ≤ b1 n := by
          rcases Nat.lt_or_ge n 13 with z2 | z2
          · rw [b1_lo (by omega)]; omega
          · rw [b1_hi z2]; omega
        omega
end
end Fk

set_option Elab.async false
set_option linter.all false
set_option maxRecDepth 100000
set_option maxHeartbeats 4000000
set_option exponentiation.threshold 3000
namespace Fk
open PySem PySem.Spec PyProof.Rows L2 Evl
/-- the greatest length in a mask -/
def topM (m : Nat) : Nat := (bitsM m).getD ((bitsM m).length - 1) 0
theorem sorted_last : ∀ {l : List Nat}, l.Pairwise (· < ·) → ∀ x ∈ l, x ≤ l.getD (l.length - 1) 0
  | [], _, x, h => nomatch h
  | [a], _, x, h => by rw [List.mem_singleton.mp h]; exact Nat.le_refl _
  | a :: b :: r, hp, x, h => by
    rw [List.pairwise_cons] at hp
    have e : (a :: b :: r).getD ((a :: b :: r).length - 1) 0 = (b :: r).getD ((b :: r).length - 1) 0 := rfl
    rw [e]
    rcases List.mem_cons.mp h with rfl | h
    · have := sorted_last hp.2 b (List.mem_cons_self ..)
      have := hp.1 b (List.mem_cons_self ..)
      omega
    · exact sorted_last hp.2 x h
theorem top_ge {m w : Nat} (h : m.testBit w = true) (hw : w ≤ 2040) : w ≤ topM m := by
  refine sorted_last ?_ w (mem_bitsM.mpr ⟨hw, h⟩)
  exact List.Pairwise.filter _ (List.pairwise_lt_range)
theorem top_le (m : Nat) : topM m ≤ 2040 := by
  unfold topM
  rw [List.getD_eq_getElem?_getD]
  cases e : (bitsM m)[(bitsM m).length - 1]? with
  | none => exact Nat.zero_le _
  | some y => exact bitsM_le (List.mem_of_getElem? e)
theorem top_at {m w : Nat} (h : m.testBit w = true) (hw : w ≤ 2040) : atI (vNs (bitsM m)) (-1) = some (vN (topM m)) := by
  have : 0 < (bitsM m).length := List.length_pos_of_mem (mem_bitsM.mpr ⟨hw, h⟩)
  exact last_vN (i := (bitsM m).length - 1) (by omega)
theorem siz_lf {d : Nat} {f : Fld} {cn : Str} {lo hi : Int} {gr : Bool} {w : Nat} (hk : f.k = .siz cn lo hi gr) : LF d f w ↔ (w % 8 = 0 ∧ w ≤ 2040 ∧ lo ≤ (w / 8 : Nat) ∧ ((w / 8 : Nat) : Int) ≤ hi ∧ (if gr = true then LG d f.fs w else LL d f.fs w)) := by
  unfold LF LenB
  rw [hk]
theorem lb_2040 {d a b w : Nat} (hd : d ≤ 1) (h : LBnd d a b w) (hab : a ≤ b) : w ≤ 2040 := by
  match d, hd with
  | 0, _ =>
    have := lb_use h rfl hab
    omega
  | 1, _ => have h : w ≤ 2032 := h; omega
section
variable {P : Program} {w : World} {K : PySem.W.Frag} {mg : Str → Option Value} {base : Heap} {σ : L2.St} {G H H' : Hp} {te ta tb tc tl td ty tx tv : TE} {tt : TT} {tu tw tz : TS} {D : Ends} {q : Addr} {c : Cst} {n i d : Nat} {Q : VK} {v : V} {t tr : TA} {QA : List V → Hp → Prop} {r : R2} {sp : Sp}
abbrev aSized (K : PySem.W.Frag) (c : Cst) (d : Nat) : A2 := fun v b H Q => ∃ q n G, v = .ref q ∧ b = vN d ∧ At q c n G H ∧ n ≤ 13 ∧ UnitK K c d q n G H Q
theorem ok_law_sized (T : Tx K mg) (hd : d ≤ 1) (G__law_list : Pr P w K mg base (40 * d + 10) "_law_list" (Sp3 (aList K c d))) : Pr P w K mg base (40 * d + 30) "_law_sized" (Sp2 (aSized K c (d + 1))) := by
  have G__law_next := ok_law_next (P := P) (w := w) (base := base) (c := c) T
  have G__law_name := ok_law_name (P := P) (w := w) (base := base) (c := c) T
  have G__law_control := ok_law_control (P := P) (w := w) (base := base) (c := c) T
  have G_members := ok_members (P := P) (w := w) (base := base) T
  have G_list_lengths := (lens (P := P) (w := w) (base := base) T (d + 1)).1
  have G_Sized3 := new_Sized3 (P := P) (w := w) (base := base) T
  have hU1 := ue_le1 hd
  have hU2 := ue_le (d := d) (by omega)
  have hU3 := (ue_le (d := d + 1) (by omega)).1
  refine pr2 T.d__law_sized T.g__law_sized sc__law_sized (fun _ _ _ _ _ _ us hl => match us, hl with | [_, _], _ => rfl) fun v b H Q h cdv A outer s E hr hu => ?_
  obtain ⟨q, n, G, rfl, rfl, a, hn, k⟩ := h
  refine ⟨_, (pss_cons (ps_set (i := 2) sc__law_sized.nd rfl (.inl rfl) (pe_fn G__law_list (hr.mono (by omega)) (by rfl) (pa_cons (pv 0) (pa_cons (pe_op op_sub (pv 1) pe_int) (pa_cons pe_bl pa_nil)))))
      (pss_cons (ps_set (i := 3) sc__law_sized.nd rfl (.inl rfl) (pe_fn G_members (hr.mono (by omega)) (by rfl) (pa_cons (pe_fn G_list_lengths (hr.mono (by omega)) (by rfl) (pa_cons (pv 2) pa_nil)) pa_nil)))
      (pss_cons (ps_set (i := 4) sc__law_sized.nd rfl (.inl rfl) (pe_ix (ixLK (K := K) rfl) (pe_lst (pa_cons pe_non (pa_cons pe_non (pa_cons (pe_op op_fdiv (pe_ix (ixLK (K := K) rfl) (pv 3) (pe_un un_neg pe_int) (fun _ _ => rfl)) pe_int) pa_nil)))) (pe_op op_mul (pe_op op_mod (pe_fn G__law_next (hr.mono (by omega)) (by rfl) (pa_cons (pv 0) pa_nil)) pe_int) (pe_ix (ixLK (K := K) rfl) (pv 0) pe_int (fun _ _ => rfl))) (fun _ _ => rfl)))
      (pss_cons (ps_set (i := 5) sc__law_sized.nd rfl (.inl rfl) (pe_fn G__law_control (hr.mono (by omega)) (by rfl) (pa_cons (pv 0) (pa_cons (pv 4) (pa_cons (pe_op op_fdiv (pe_ix (ixLK (K := K) rfl) (pv 3) (pe_un un_neg pe_int) (fun _ _ => rfl)) pe_int) pa_nil)))))
      (pss_one (ps_ret (pe_lst (pa_cons (pv 5) (pa_cons (pe_new G_Sized3 (hr.mono (by omega)) (by rfl) (pa_cons (pe_fn G__law_name (hr.mono (by omega)) (by rfl) (pa_cons (pv 0) pa_nil)) (pa_cons (fldK (K := K) rfl (pv 5) rfl) (pa_cons (pv 2) pa_nil)))) pa_nil))))))))), ?_⟩
  refine q_asgT (te_list rfl rfl ev_c a (by omega) fun l us H1 G1 n1 u1 d1 lr1 uw1 h13 h14 fa1 bd1 => ?_)
  have a1 := a.us u1 d1
  have hn1 : n1 ≤ Le d := h13 hn
  have wd := uw1.wd (show n1 ≤ 26 by omega)
  have hL : LAt K H1 (d + 1) l us := ⟨lr1.at_, fun f hf => (fa1 f hf).mono u1.sub⟩
  obtain ⟨w0, hw0⟩ := uw1.inh
  have le2040 : ∀ w, SumB (LF d) us w → w ≤ 2040 := fun w hw => lb_2040 hd (bd1 w hw) uw1.le
  have bit : ∀ w, SumB (LF d) us w → (LM (d + 1) us).testBit w = true := fun w hw => (len_bits (d + 1)).1 us w hw (le2040 w hw) wd
  have hat := top_at (bit w0 hw0) (le2040 w0 hw0)
  refine q_asgL (el_members (ev_LL (ev_var rfl) hL wd.lw) (LM_lt _ _)) fun pm H2 hpm e2 h2 => ?_
  have d2 := d1.ext e2
  obtain ⟨mx, hmx⟩ : ∃ mx, mx = topM (LM (d + 1) us) := ⟨_, rfl⟩
  rw [← hmx] at hat
  have hpmq : pm ≠ q := fun z => d1.ne (z ▸ hpm)
  have top8 : ∀ {H3 : Hp} {y4 y5 : Option V}, Sx q H2 H3 → Ev (tOp (rI CDiv fun i j => .int (i / j)) (tOp (rIxL K) (tVar 3) (tUn (rU fun i => .int (-i)) (tC (.int 1)))) (tC (.int 8))) [some (.ref q), some (vN (d + 1)), some (.ref l), some (.ref pm), y4, y5] H3 (.int ((mx / 8 : Nat) : Int)) := fun s3 =>
    ev_is (ev_op (ev_op (ev_var rfl) (ev_un ev_c ru_neg) (rv_ixL (sq_of (s3.eh _ _ hpmq h2)) hat)) ev_c (rv_I (show CDiv _ _ from ⟨by decide, by decide⟩))) (congrArg V.int (by omega))
  refine q_asgT (te_op ?_)
  refine (el_lst (ea_cons ev_c (ea_cons ev_c (ea_cons (top8 (Sx.refl _)) ea_nil))) (by simp) : EvL _ _ H2 [.non, .non, .int ((mx / 8 : Nat) : Int)]) H2 (Ex.refl _) _ fun pl H3 hpl e3 h3 => ?_
  have hplq : pl ≠ q := fun z => d2.ne (z ▸ hpl)
  refine te_op (te_nm rfl (d2.ext e3) (by decide) fun y H4 hy1 hy2 s4 d4 => ?_)
  obtain ⟨za, zb, _, _, _, hq4⟩ := id d4
  refine te_ev (ev_op (ev_var rfl) ev_c (rv_ixL (sq_of hq4) (atI_nat (j := 4) rfl))) fun H5 e5 => ⟨y, 0, rfl, rfl, .inr (by decide), ?_⟩
  refine ⟨pl, [.non, .non, .int ((mx / 8 : Nat) : Int)], _, .non, rfl, rfl, sq_of (e5 _ _ (s4.eh _ _ hplq h3)), by rw [Int.mul_zero]; exact atI_nat (j := 0) rfl, ?_⟩
  have s25 : Sx q H2 H5 := ((Sx.of e3).trans s4).trans (Sx.of e5)
  have s15 : Sx q H1 H5 := (Sx.of e2).trans s25
  have d5 := d4.ext e5
  refine q_asgT (te_fn (ta_cons (te_var rfl (ta_cons (te_var rfl (ta_cons (te_ev (top8 s25) fun H6 e6 => ta_nil ⟨_, _, _, rfl, q, n1, G1, none, some ((mx / 8 : Nat) : Int), rfl, rfl, rfl, (a1.sx s15 d5).ext e6, by omega, fun g H7 G7 u7 d7 hgn hgk hgA => ?_⟩)))))))
  obtain ⟨gw, glt, hgk, hgw⟩ := hgk
  have a7 := ((a1.sx s15 d5).ext e6).us u7 d7
  have obg : Ob K H7 g := Ob.mono u7.sub hgA.ob
  have hgl : g.k.least = 0 := by rw [hgk]; rfl
  have hgg : g.k.greatest = ((mx / 8 : Nat) : Int) := by rw [hgk]; rfl
  have l5 : H5 l = some (.lst (us.map Fld.v)) := s15.eh _ _ lr1.ne lr1.at_
  have l7 := u7.eh _ _ lr1.ne (e6 _ _ l5)
  refine s_retT (te_lst2 (te_var rfl (te_fn (ta_cons (te_name (ev_var rfl) d7 (by omega) fun H8 s8 d8 => ta_cons (te_ev (ev_name T (ev_var rfl) (Ob.mono' obg s8 d7)) fun H9 e9 => ta_cons (te_var rfl (ta_nil ⟨rfl, l, us.map Fld.v, rfl, e9 _ _ (s8.eh _ _ lr1.ne l7), fun x H10 dx l2 hx hl2 hlx e10 hl10 h10 => ⟨sz_of (by simp), fun p hp => ?_⟩⟩))))))))
  have s79 := s8.trans (Sx.of e9)
  have a9 := a7.sx s79 (d8.ext e9)
  obtain ⟨G10, u10, f10⟩ := new_inner (.siz g.nm 0 ((mx / 8 : Nat) : Int) false) (nmOf c (n1 + 1)) a9 e10 hx hl2 hlx hl10 h10 rfl rfl fun f hf => (fa1 f hf).mono u7.ex
  have uB := (a7.sus s79).trans u10
  have hlg : g.k.least ≤ g.k.greatest := by rw [hgl, hgg]; omega
  have wg : ∀ d, FW d g := fun d => by
    unfold FW FWB
    rw [hgk] at hlg ⊢
    exact ⟨by omega, by omega, hlg, fun i h => nomatch h⟩
  have gl : g.k.leaf = true := by rw [hgk]; rfl
  have tops : ∀ w, SumB (LF d) us w → ((w / 8 : Nat) : Int) ≤ ((mx / 8 : Nat) : Int) := fun w hw => by
    have := top_ge (bit w hw) (le2040 w hw)
    rw [← hmx] at this
    omega
  refine put_unit a (u1.trans (((a1.sus s15).ext e6).trans (u7.trans uB))) ((d8.ext e9).ext e10) k (us := [g, Fld.mk x (nmOf c (n1 + 1)) (.siz g.nm 0 ((mx / 8 : Nat) : Int) false) l2 [(0, 0, l2, us)]]) ((UW.two (i := n1) (j := n1 + 1) (n' := n1 + 2) (f := Fld.mk x (nmOf c (n1 + 1)) (.siz g.nm 0 ((mx / 8 : Nat) : Int) false) l2 [(0, 0, l2, us)]) hgn rfl (by omega) (by have := uw1.le; omega) (by omega) (by rw [hgk]; rfl) (by rw [hgk]; rfl) (by rw [hgl, hgg]; rfl) (wg _) ⟨rfl, wd, fun w hw => ⟨le2040 w hw, tops w hw⟩, fun z => nomatch z⟩ (fun w h => by rw [num_lf hgk] at h; omega) (fun w hw => ((siz_lf (cn := g.nm) (lo := 0) (hi := ((mx / 8 : Nat) : Int)) (gr := false) rfl).mp hw).1) ⟨gw, (num_lf hgk).mpr rfl⟩ ⟨w0, (siz_lf (cn := g.nm) (lo := 0) (hi := ((mx / 8 : Nat) : Int)) (gr := false) rfl).mpr ⟨uw1.m8 w0 hw0, le2040 w0 hw0, by omega, tops w0 hw0, hw0⟩⟩) : UW c (d + 1) n (n1 + 2) _) (by have := uw1.le; omega) (by omega) (all_two ((hgA.imp uB.ex fun _ _ z => z : FAtB K G10 NoL g).noL gl _) f10) (fun w hw => ?_) p hp
  refine ub_any hd fun hd0 => ?_
  obtain ⟨x1, x2, t1, t2, e2'⟩ := sum_two hw
  rw [num_lf hgk] at t1
  obtain ⟨_, _, _, _, t3⟩ := (siz_lf (cn := g.nm) (lo := 0) (hi := ((mx / 8 : Nat) : Int)) (gr := false) rfl).mp t2
  have t3 : SumB (LF d) us x2 := t3
  have := lb_use (bd1 x2 t3) hd0 uw1.le
  refine ⟨by have := uw1.le; omega, ?_⟩
  rcases Nat.lt_or_ge n 13 with z | z
  · rw [b1_lo (by omega)]
    omega
  · rw [b1_hi z]
    omega
end
end Fk

set_option Elab.async false
set_option linter.all false
set_option maxRecDepth 100000
set_option maxHeartbeats 4000000
set_option exponentiation.threshold 3000
namespace Fk
open PySem PySem.Spec PyProof.Rows L2 Evl
theorem grp_lf {d : Nat} {f : Fld} {w : Nat} (hk : f.k = .grp) : LF d f w ↔ LL d f.fs w := by
  unfold LF LenB
  rw [hk]
theorem may_lf {d : Nat} {f : Fld} {cn : Str} {lo hi : Int} {w : Nat} (hk : f.k = .may cn lo hi) : LF d f w ↔ ((lo ≤ 0 ∧ 0 ≤ hi ∧ w = 0) ∨ (lo ≤ 1 ∧ 1 ≤ hi ∧ LL d f.fs w)) := by
  unfold LF LenB
  rw [hk]
section
variable {P : Program} {w : World} {K : PySem.W.Frag} {mg : Str → Option Value} {base : Heap} {σ : L2.St} {G H H' : Hp} {te ta tb tc tl td ty tx tv : TE} {tt : TT} {tu tw tz : TS} {D : Ends} {q : Addr} {c : Cst} {n i d : Nat} {Q : VK} {v : V} {t tr : TA} {QA : List V → Hp → Prop} {r : R2} {sp : Sp}
theorem te_leaf (h0 : σ[0]? = some (some (.ref q))) {cl : Bool} (hc : Ev tc σ H (.bl cl)) (a : At q c n G H) (hn : n + 2 ≤ 26) (k : LeafK K c q n G H Q) : tFn (Sp2 (aLeaf K c)) (tCons (tVar 0) (tCons tc tNil)) σ H Q :=
  te_fn (ta_cons (te_var h0 (ta_cons (te_ev hc fun H1 e1 => ta_nil ⟨_, _, rfl, q, n, G, cl, rfl, rfl, a.ext e1, hn, fun l us H' G' n' u dd lr uw h1 h2 lf b1' b2 => k l us H' G' n' (u.pre e1) dd ⟨lr.at_, fresh_back e1 lr.fr, lr.no, lr.ne⟩ uw h1 h2 lf b1' b2⟩))))
/-- a leaf as a unit at any depth -/
theorem leaf_unit (hn : n ≤ 13) (hd : d ≤ 2) (k : UnitK K c d q n G H Q) : LeafK K c q n G H Q := fun l us H' G' n' u dd lr uw h1 h2 lf b5 b6 => by
  have hlf : ∀ f ∈ us, f.k.leaf = true := fun f hf => (lf f hf).leaf
  refine k l us H' G' n' u dd lr (uw.leaf hlf) h1 ?_ (fun f hf => (lf f hf).at_.noL (hlf f hf) d) fun w hw => ?_
  · match d, hd with
    | 0, _ => show n' ≤ 15; omega
    | 1, _ => show n' ≤ 20; omega
    | 2, _ => show n' ≤ 23; omega
  · have := sum_ub hlf hw
    match d, hd with
    | 0, _ => exact ⟨by omega, by omega, h2⟩
    | 1, _ =>
      refine ⟨by omega, ?_⟩
      rcases Nat.lt_or_ge n 13 with z | z
      · rw [b1_lo (by omega)]; omega
      · rw [b1_hi z]; omega
    | 2, _ => trivial
abbrev no3 : A3 := fun _ _ _ _ _ => False
abbrev no2 : A2 := fun _ _ _ _ => False
abbrev no1 : A1 := fun _ _ _ => False
theorem ok_law_unit0 (T : Tx K mg) : Pr P w K mg base 9 "_law_unit" (Sp3 (aUnit K c 0)) := by
  have G__law_next := ok_law_next (P := P) (w := w) (base := base) (c := c) T
  have G__law_name := ok_law_name (P := P) (w := w) (base := base) (c := c) T
  have G__law_control := ok_law_control (P := P) (w := w) (base := base) (c := c) T
  have G__law_leaf : Pr P w K mg base 6 "_law_leaf" (Sp2 (aLeaf K c)) := ok_law_leaf T
  have G__law_row : Pr P w K mg base 1 "_law_row" (Sp3 no3) := pr3 T.d__law_row T.g__law_row sc__law_row (fun _ _ _ _ _ _ us hl => match us, hl with | [_, _, _], _ => rfl) fun _ _ _ _ _ h => h.elim
  have G__law_choice : Pr P w K mg base 1 "_law_choice" (Sp3 no3) := pr3 T.d__law_choice T.g__law_choice sc__law_choice (fun _ _ _ _ _ _ us hl => match us, hl with | [_, _, _], _ => rfl) fun _ _ _ _ _ h => h.elim
  have G__law_list : Pr P w K mg base 1 "_law_list" (Sp3 no3) := pr3 T.d__law_list T.g__law_list sc__law_list (fun _ _ _ _ _ _ us hl => match us, hl with | [_, _, _], _ => rfl) fun _ _ _ _ _ h => h.elim
  have G__law_sized : Pr P w K mg base 1 "_law_sized" (Sp2 no2) := pr2 T.d__law_sized T.g__law_sized sc__law_sized (fun _ _ _ _ _ _ us hl => match us, hl with | [_, _], _ => rfl) fun _ _ _ _ h => h.elim
  have G__law_grow : Pr P w K mg base 1 "_law_grow" (Sp1 no1) := pr1 T.d__law_grow T.g__law_grow sc__law_grow (fun _ _ _ _ _ _ us hl => match us, hl with | [_], _ => rfl) fun _ _ _ h => h.elim
  have G_Maybe3 := new_Maybe3 (P := P) (w := w) (base := base) T
  have G_Group2 := new_Group2 (P := P) (w := w) (base := base) T
  refine pr3 T.d__law_unit T.g__law_unit sc__law_unit (fun _ _ _ _ _ _ us hl => match us, hl with | [_, _, _], _ => rfl) fun v b e H Q h cdv A outer s E hr hu => ?_
  obtain ⟨q, n, G, cl, rfl, rfl, rfl, a, hn, k⟩ := h
  refine ⟨_, (pss_cons (ps_set (i := 3) sc__law_unit.nd rfl (.inl rfl) (pe_op op_mod (pe_fn G__law_next (hr.mono (by omega)) (by rfl) (pa_cons (pv 0) pa_nil)) pe_int))
      (pss_cons (ps_if (PW.pt (pw_or (pt_cmpR op_eq (pv 1) pe_int (by rfl)) (pw_or1 (pt_cmpR op_lt (pv 3) pe_int (by rfl))))) (pss_one (ps_ret (pe_fn G__law_leaf (hr.mono (by omega)) (by rfl) (pa_cons (pv 0) (pa_cons (pv 2) pa_nil))))) pss_nil)
      (pss_cons (ps_if (pt_cmpR op_eq (pv 3) pe_int (by rfl)) (pss_one (ps_ret (pe_fn G__law_row (hr.mono (by omega)) (by rfl) (pa_cons (pv 0) (pa_cons (pv 1) (pa_cons (pv 2) pa_nil)))))) pss_nil)
      (pss_cons (ps_if (pt_cmpR op_eq (pv 3) pe_int (by rfl)) (pss_one (ps_ret (pe_fn G__law_choice (hr.mono (by omega)) (by rfl) (pa_cons (pv 0) (pa_cons (pv 1) (pa_cons (pv 2) pa_nil)))))) pss_nil)
      (pss_cons (ps_if (pt_cmpR op_eq (pv 3) pe_int (by rfl)) (pss_cons (ps_asg (pe_ix (ixLK (K := K) rfl) (pe_lst (pa_cons (pe_tup (pa_cons pe_non (pa_cons pe_non pa_nil))) (pa_cons (pe_tup (pa_cons pe_non (pa_cons pe_int pa_nil))) (pa_cons (pe_tup (pa_cons pe_int (pa_cons pe_int pa_nil))) (pa_cons (pe_tup (pa_cons pe_non (pa_cons pe_int pa_nil))) pa_nil))))) (pe_op op_mod (pe_fn G__law_next (hr.mono (by omega)) (by rfl) (pa_cons (pv 0) pa_nil)) pe_int) (fun _ _ => rfl)) (pgTK (K := K) (n := 2) rfl rfl (pgs_cons (pg_name (i := 4) sc__law_unit.nd rfl (.inl rfl)) (pgs_cons (pg_name (i := 5) sc__law_unit.nd rfl (.inl rfl)) pgs_nil))))
      (pss_cons (ps_set (i := 6) sc__law_unit.nd rfl (.inl rfl) (pe_fn G__law_control (hr.mono (by omega)) (by rfl) (pa_cons (pv 0) (pa_cons (pv 4) (pa_cons (pv 5) pa_nil)))))
      (pss_one (ps_ret (pe_lst (pa_cons (pv 6) (pa_cons (pe_new G_Maybe3 (hr.mono (by omega)) (by rfl) (pa_cons (pe_fn G__law_name (hr.mono (by omega)) (by rfl) (pa_cons (pv 0) pa_nil)) (pa_cons (fldK (K := K) rfl (pv 6) rfl) (pa_cons (pe_fn G__law_list (hr.mono (by omega)) (by rfl) (pa_cons (pv 0) (pa_cons (pe_op op_sub (pv 1) pe_int) (pa_cons (pv 2) pa_nil)))) pa_nil)))) pa_nil))))))) pss_nil)
      (pss_cons (ps_if (pt_cmpR op_eq (pv 3) pe_int (by rfl)) (pss_one (ps_ret (pe_lst (pa_cons (pe_new G_Group2 (hr.mono (by omega)) (by rfl) (pa_cons (pe_fn G__law_name (hr.mono (by omega)) (by rfl) (pa_cons (pv 0) pa_nil)) (pa_cons (pe_fn G__law_list (hr.mono (by omega)) (by rfl) (pa_cons (pv 0) (pa_cons (pe_op op_sub (pv 1) pe_int) (pa_cons (pv 2) pa_nil)))) pa_nil))) pa_nil)))) pss_nil)
      (pss_cons (ps_if (pt_cmpR op_eq (pv 3) pe_int (by rfl)) (pss_one (ps_ret (pe_fn G__law_sized (hr.mono (by omega)) (by rfl) (pa_cons (pv 0) (pa_cons (pv 1) pa_nil))))) pss_nil)
      (pss_one (ps_ret (pe_fn G__law_grow (hr.mono (by omega)) (by rfl) (pa_cons (pv 0) pa_nil))))))))))), ?_⟩
  refine q_asgT (te_nm rfl a.st (by decide) fun way H1 hx1 hx2 s1 d1 => ?_)
  refine (sv_takeT (H := H1) (et_is (et_or (a := true) (b := true) (et_test (ev_is (ev_op (ev_var rfl) ev_c (rv_eq rfl)) rfl)) fun z => nomatch z) rfl) fun H2 e2 => ?_).here
  have s2 := s1.trans (Sx.of e2)
  exact s_retT (te_leaf rfl (ev_var rfl) (a.sx s2 (d1.ext e2)) (by omega) (leaf_unit hn (by omega) fun l us H' G' n' u dd lr uw h1 h2 fa bd => k l us H' G' n' ((a.sus s2).trans u) dd ⟨lr.at_, back_us (a.sus s2) lr.ne lr.fr, lr.no, lr.ne⟩ uw h1 h2 fa bd))
end
end Fk

set_option Elab.async false
set_option linter.all false
set_option maxRecDepth 100000
set_option maxHeartbeats 4000000
set_option exponentiation.threshold 3000
namespace Fk
open PySem PySem.Spec PyProof.Rows L2 Evl
section
variable {P : Program} {w : World} {K : PySem.W.Frag} {mg : Str → Option Value} {base : Heap} {σ : L2.St} {G H H' : Hp} {te ta tb tc tl td ty tx tv : TE} {tt : TT} {tu tw tz : TS} {D : Ends} {q : Addr} {c : Cst} {n i d : Nat} {Q : VK} {v : V} {t tr : TA} {QA : List V → Hp → Prop} {r : R2} {sp : Sp}
abbrev aGrow (K : PySem.W.Frag) (c : Cst) (d : Nat) : A1 := fun v H Q => ∃ q n G, v = .ref q ∧ At q c n G H ∧ n ≤ 13 ∧ UnitK K c d q n G H Q
theorem te_pick4 {xs1 xs2 xs3 xs4 : List V} (h1 : EvU ta σ H xs1) (h2 : EvU tb σ H xs2) (h3 : EvU tc σ H xs3) (h4 : EvU td σ H xs4) (h0 : σ[i]? = some (some (.ref q))) (hs : DSt q c n H) (k : ∀ p xs H', (xs = xs1 ∨ xs = xs2 ∨ xs = xs3 ∨ xs = xs4) → H' p = some (.tup xs) → Sx q H H' → DSt q c n H' → Q (.ref p) H') :
    tOp (rIxL K) (tLst (tCons ta (tCons tb (tCons tc (tCons td tNil))))) (tOp (rI (fun _ j => 0 < j) fun i j => .int (i % j)) (tFn (Sp1 (aNext c)) (tCons (tVar i) tNil)) (tC (.int 4))) σ H Q :=
  te_op (show tLst _ σ H _ from h1 H (Ex.refl _) _ fun p1 A1 _ f1 g1 => h2 A1 f1 _ fun p2 A2 _ f2 g2 => h3 A2 (f1.trans f2) _ fun p3 A3 _ f3 g3 => h4 A3 ((f1.trans f2).trans f3) _ fun p4 H1 _ f4 g4 => ⟨sz_of (by simp), fun pl hpl => by
    have e1 := ((f1.trans f2).trans f3).trans f4
    refine te_nm h0 ((hs.ext e1).ext (Ex.new hpl)) (by decide) fun x H2 hx1 hx2 s2 d2 => ?_
    obtain ⟨j, rfl⟩ : ∃ j : Nat, x = (j : Int) := ⟨x.toNat, by omega⟩
    have hne : pl ≠ q := fun z => (hs.ext e1).ne (z ▸ hpl)
    have hl : H2 pl = some (.lst [.ref p1, .ref p2, .ref p3, .ref p4]) := s2.eh _ _ hne upd_same
    have sA : Sx q H H2 := (Sx.of (e1.trans (Ex.new hpl))).trans s2
    have tq : ∀ {p : Addr} {xs : List V}, H1 p = some (.tup xs) → H2 p = some (.tup xs) := fun {p xs} g => by
      obtain ⟨_, _, _, _, _, hq⟩ := hs.ext e1
      exact s2.eh _ _ (fun z => by rw [z, hq] at g; cases g) (Ex.new hpl _ _ g)
    rcases j with _ | _ | _ | _ | j
    · exact ⟨pl, _, _, .ref p1, rfl, rfl, sq_of hl, atI_nat (j := 0) rfl, k p1 _ H2 (.inl rfl) (tq (f4 _ _ (f3 _ _ (f2 _ _ g1)))) sA d2⟩
    · exact ⟨pl, _, _, .ref p2, rfl, rfl, sq_of hl, atI_nat (j := 1) rfl, k p2 _ H2 (.inr (.inl rfl)) (tq (f4 _ _ (f3 _ _ g2))) sA d2⟩
    · exact ⟨pl, _, _, .ref p3, rfl, rfl, sq_of hl, atI_nat (j := 2) rfl, k p3 _ H2 (.inr (.inr (.inl rfl))) (tq (f4 _ _ g3)) sA d2⟩
    · exact ⟨pl, _, _, .ref p4, rfl, rfl, sq_of hl, atI_nat (j := 3) rfl, k p4 _ H2 (.inr (.inr (.inr rfl))) (tq g4) sA d2⟩
    · omega⟩)
/-- what a unit's walk may do ahead: draws that build nothing -/
theorem UnitK.pre (a : At q c n G H) (s : Sx q H H') (dd : DSt q c n H') (k : UnitK K c d q n G H Q) : UnitK K c d q n G H' Q := fun l us H2 G' n' u d2 lr uw h1 h2 fa bd => k l us H2 G' n' ((a.sus s).trans u) d2 ⟨lr.at_, back_us (a.sus s) lr.ne lr.fr, lr.no, lr.ne⟩ uw h1 h2 fa bd
theorem ok_law_unitS (T : Tx K mg) (hd : d ≤ 1) (G__law_list : Pr P w K mg base (40 * d + 10) "_law_list" (Sp3 (aList K c d))) (G__law_choice : Pr P w K mg base (40 * d + 40) "_law_choice" (Sp3 (aUnit K c (d + 1)))) (G__law_grow : Pr P w K mg base (40 * d + 40) "_law_grow" (Sp1 (aGrow K c (d + 1)))) : Pr P w K mg base (40 * (d + 1) + 9) "_law_unit" (Sp3 (aUnit K c (d + 1))) := by
  have G__law_next := ok_law_next (P := P) (w := w) (base := base) (c := c) T
  have G__law_name := ok_law_name (P := P) (w := w) (base := base) (c := c) T
  have G__law_control := ok_law_control (P := P) (w := w) (base := base) (c := c) T
  have G__law_leaf : Pr P w K mg base 6 "_law_leaf" (Sp2 (aLeaf K c)) := ok_law_leaf T
  have G__law_row := ok_law_row (c := c) T hd G__law_list
  have G__law_sized := ok_law_sized (c := c) T hd G__law_list
  have G_Maybe3 := new_Maybe3 (P := P) (w := w) (base := base) T
  have G_Group2 := new_Group2 (P := P) (w := w) (base := base) T
  have hU1 := ue_le1 hd
  have hU2 := ue_le (d := d) (by omega)
  have hU3 := (ue_le (d := d + 1) (by omega)).1
  refine pr3 (k := 40 * d + 48) T.d__law_unit T.g__law_unit sc__law_unit (fun _ _ _ _ _ _ us hl => match us, hl with | [_, _, _], _ => rfl) fun v b e H Q h cdv A outer s E hr hu => ?_
  obtain ⟨q, n, G, cl, rfl, rfl, rfl, a, hn, k⟩ := h
  refine ⟨_, (pss_cons (ps_set (i := 3) sc__law_unit.nd rfl (.inl rfl) (pe_op op_mod (pe_fn G__law_next (hr.mono (by omega)) (by rfl) (pa_cons (pv 0) pa_nil)) pe_int))
      (pss_cons (ps_if (PW.pt (pw_or (pt_cmpR op_eq (pv 1) pe_int (by rfl)) (pw_or1 (pt_cmpR op_lt (pv 3) pe_int (by rfl))))) (pss_one (ps_ret (pe_fn G__law_leaf (hr.mono (by omega)) (by rfl) (pa_cons (pv 0) (pa_cons (pv 2) pa_nil))))) pss_nil)
      (pss_cons (ps_if (pt_cmpR op_eq (pv 3) pe_int (by rfl)) (pss_one (ps_ret (pe_fn G__law_row (hr.mono (by omega)) (by rfl) (pa_cons (pv 0) (pa_cons (pv 1) (pa_cons (pv 2) pa_nil)))))) pss_nil)
      (pss_cons (ps_if (pt_cmpR op_eq (pv 3) pe_int (by rfl)) (pss_one (ps_ret (pe_fn G__law_choice (hr.mono (by omega)) (by rfl) (pa_cons (pv 0) (pa_cons (pv 1) (pa_cons (pv 2) pa_nil)))))) pss_nil)
      (pss_cons (ps_if (pt_cmpR op_eq (pv 3) pe_int (by rfl)) (pss_cons (ps_asg (pe_ix (ixLK (K := K) rfl) (pe_lst (pa_cons (pe_tup (pa_cons pe_non (pa_cons pe_non pa_nil))) (pa_cons (pe_tup (pa_cons pe_non (pa_cons pe_int pa_nil))) (pa_cons (pe_tup (pa_cons pe_int (pa_cons pe_int pa_nil))) (pa_cons (pe_tup (pa_cons pe_non (pa_cons pe_int pa_nil))) pa_nil))))) (pe_op op_mod (pe_fn G__law_next (hr.mono (by omega)) (by rfl) (pa_cons (pv 0) pa_nil)) pe_int) (fun _ _ => rfl)) (pgTK (K := K) (n := 2) rfl rfl (pgs_cons (pg_name (i := 4) sc__law_unit.nd rfl (.inl rfl)) (pgs_cons (pg_name (i := 5) sc__law_unit.nd rfl (.inl rfl)) pgs_nil))))
      (pss_cons (ps_set (i := 6) sc__law_unit.nd rfl (.inl rfl) (pe_fn G__law_control (hr.mono (by omega)) (by rfl) (pa_cons (pv 0) (pa_cons (pv 4) (pa_cons (pv 5) pa_nil)))))
      (pss_one (ps_ret (pe_lst (pa_cons (pv 6) (pa_cons (pe_new G_Maybe3 (hr.mono (by omega)) (by rfl) (pa_cons (pe_fn G__law_name (hr.mono (by omega)) (by rfl) (pa_cons (pv 0) pa_nil)) (pa_cons (fldK (K := K) rfl (pv 6) rfl) (pa_cons (pe_fn G__law_list (hr.mono (by omega)) (by rfl) (pa_cons (pv 0) (pa_cons (pe_op op_sub (pv 1) pe_int) (pa_cons (pv 2) pa_nil)))) pa_nil)))) pa_nil))))))) pss_nil)
      (pss_cons (ps_if (pt_cmpR op_eq (pv 3) pe_int (by rfl)) (pss_one (ps_ret (pe_lst (pa_cons (pe_new G_Group2 (hr.mono (by omega)) (by rfl) (pa_cons (pe_fn G__law_name (hr.mono (by omega)) (by rfl) (pa_cons (pv 0) pa_nil)) (pa_cons (pe_fn G__law_list (hr.mono (by omega)) (by rfl) (pa_cons (pv 0) (pa_cons (pe_op op_sub (pv 1) pe_int) (pa_cons (pv 2) pa_nil)))) pa_nil))) pa_nil)))) pss_nil)
      (pss_cons (ps_if (pt_cmpR op_eq (pv 3) pe_int (by rfl)) (pss_one (ps_ret (pe_fn G__law_sized (hr.mono (by omega)) (by rfl) (pa_cons (pv 0) (pa_cons (pv 1) pa_nil))))) pss_nil)
      (pss_one (ps_ret (pe_fn G__law_grow (hr.mono (by omega)) (by rfl) (pa_cons (pv 0) pa_nil))))))))))), ?_⟩
  refine q_asgT (te_nm rfl a.st (by decide) fun way H1 hx1 hx2 s1 d1 => ?_)
  have hne : decide (vN (d + 1) = V.int 0) = false := decide_eq_false fun z => by have z := V.int.inj z; omega
  refine (sv_when (H := H1) (et_or (a := false) (et_test (ev_is (ev_op (ev_var rfl) ev_c (rv_eq rfl)) (congrArg V.bl hne))) fun _ => et_test (ev_op (ev_var rfl) ev_c rv_I0)) (fun hb H2 e2 => ?_) fun hb H2 e2 => ?_).here
  · have s2 := s1.trans (Sx.of e2)
    have d2 := d1.ext e2
    exact s_retT (te_leaf rfl (ev_var rfl) (a.sx s2 d2) (by omega) (leaf_unit hn (by omega) (k.pre a s2 d2)))
  refine (sv_when (H := H2) (et_test (ev_op (ev_var rfl) ev_c (rv_eq rfl))) (fun hb H3 e3 => ?_) fun hb H3 e3 => ?_).here
  · have s3 := (s1.trans (Sx.of e2)).trans (Sx.of e3)
    have d3 := (d1.ext e2).ext e3
    exact s_retT (te_fn (ta_cons (te_var rfl (ta_cons (te_var rfl (ta_cons (te_var rfl (ta_nil ⟨_, _, _, rfl, q, n, G, cl, rfl, rfl, rfl, a.sx s3 d3, hn, k.pre a s3 d3⟩))))))))
  refine (sv_when (H := H3) (et_test (ev_op (ev_var rfl) ev_c (rv_eq rfl))) (fun hb H4 e4 => ?_) fun hb H4 e4 => ?_).here
  · have s3 := ((s1.trans (Sx.of e2)).trans (Sx.of e3)).trans (Sx.of e4)
    have d3 := ((d1.ext e2).ext e3).ext e4
    exact s_retT (te_fn (ta_cons (te_var rfl (ta_cons (te_var rfl (ta_cons (te_var rfl (ta_nil ⟨_, _, _, rfl, q, n, G, cl, rfl, rfl, rfl, a.sx s3 d3, hn, k.pre a s3 d3⟩))))))))
  have s4 := ((s1.trans (Sx.of e2)).trans (Sx.of e3)).trans (Sx.of e4)
  have d4 := ((d1.ext e2).ext e3).ext e4
  refine (sv_when (H := H4) (et_test (ev_op (ev_var rfl) ev_c (rv_eq rfl))) (fun hb H5 e5 => ?_) fun hb H5 e5 => ?_).here
  · -- maybe
    have s5 := s4.trans (Sx.of e5)
    have d5 := d4.ext e5
    refine q_asgG (te_pick4 (i := 0) (xs1 := [.non, .non]) (xs2 := [.non, .int 1]) (xs3 := [.int 1, .int 1]) (xs4 := [.non, .int 0]) (eu_tup (ea_cons ev_c (ea_cons ev_c ea_nil)) (by decide)) (eu_tup (ea_cons ev_c (ea_cons ev_c ea_nil)) (by decide)) (eu_tup (ea_cons ev_c (ea_cons ev_c ea_nil)) (by decide)) (eu_tup (ea_cons ev_c (ea_cons ev_c ea_nil)) (by decide)) rfl d5 fun pp xs H6 hxs hpp s6 d6 => ?_)
    obtain ⟨lo, hi, rfl, hlo⟩ : ∃ lo hi : Option Int, xs = [ov lo, ov hi] ∧ ∀ X : Int, 1 ≤ X → 0 ≤ lo.getD 0 ∧ lo.getD 0 ≤ 1 ∧ lo.getD 0 ≤ hi.getD X := by
      rcases hxs with rfl | rfl | rfl | rfl
      · exact ⟨none, none, rfl, fun X h => ⟨by decide, by decide, show (0 : Int) ≤ X by omega⟩⟩
      · exact ⟨none, some 1, rfl, fun X h => ⟨by decide, by decide, show (0 : Int) ≤ 1 by decide⟩⟩
      · exact ⟨some 1, some 1, rfl, fun X h => ⟨by decide, by decide, show (1 : Int) ≤ 1 by decide⟩⟩
      · exact ⟨none, some 0, rfl, fun X h => ⟨by decide, by decide, show (0 : Int) ≤ 0 by decide⟩⟩
    refine ⟨pp, _, rfl, st_of hpp, rfl, _, _, rfl, _, _, rfl, rfl, ?_⟩
    have s56 := s5.trans s6
    have a6 := a.sx s56 d6
    refine q_asgT (te_fn (ta_cons (te_var rfl (ta_cons (te_var rfl (ta_cons (te_var rfl (ta_nil ⟨_, _, _, rfl, q, n, G, lo, hi, rfl, rfl, rfl, a6, by omega, fun g H7 G7 u7 d7 hgn hgk hgA => ?_⟩))))))))
    obtain ⟨gw, glt, hgk, hgw⟩ := hgk
    have a7 := a6.us u7 d7
    have obg : Ob K H7 g := Ob.mono u7.sub hgA.ob
    have hp2 : (256 : Int) ≤ 2 ^ gw := (pow8_ge (w := gw) (by omega)).1
    have hgl : g.k.least = lo.getD 0 := by rw [hgk]; rfl
    have hgg : g.k.greatest = hi.getD (2 ^ gw - 1) := by rw [hgk]; rfl
    have hh := hlo (2 ^ gw - 1) (by omega)
    refine s_retT (te_lst2 (te_var rfl (te_fn (ta_cons (te_name (ev_var rfl) d7 (by omega) fun H8 s8 d8 => ta_cons (te_ev (ev_name T (ev_var rfl) (Ob.mono' obg s8 d7)) fun H9 e9 => ta_cons (te_list rfl rfl (ev_var rfl) (a7.sx (s8.trans (Sx.of e9)) (d8.ext e9)) (by omega) fun l us H10 G10 n8 u10 d10 lr10 uw8 h13 h14 fa8 bd8 => ta_nil ⟨rfl, l, us.map Fld.v, rfl, lr10.at_, fun x H11 dx l2 hx hl2 hlx e11 hl11 h11 => ⟨sz_of (by simp), fun p hp => ?_⟩⟩)))))))
    have s89 := s8.trans (Sx.of e9)
    have a9 := a7.sx s89 (d8.ext e9)
    have a10 := a9.us u10 d10
    obtain ⟨G11, u11, f11⟩ := new_inner (.may g.nm (lo.getD 0) (hi.getD (2 ^ gw - 1))) (nmOf c (n + 1)) a10 e11 hx hl2 hlx hl11 h11 rfl rfl fa8
    have hn8 : n8 ≤ Ue (d + 1) ∧ n + 2 ≤ n8 := ⟨by rcases end_le h13 h14 with z | z <;> omega, uw8.le⟩
    have wd := uw8.wd (show n8 ≤ 26 by omega)
    have uB := (a7.sus s89).trans (u10.trans u11)
    have hlg : g.k.least ≤ g.k.greatest := by rw [hgl, hgg]; exact hh.2.2
    have wg : ∀ d, FW d g := fun d => by
      unfold FW FWB
      rw [hgk] at hlg ⊢
      exact ⟨by omega, by omega, hlg, fun i h => nomatch h⟩
    have gl : g.k.leaf = true := by rw [hgk]; rfl
    obtain ⟨w0, hw0⟩ := uw8.inh
    have mlf : ∀ {w}, LF (d + 1) (Fld.mk x (nmOf c (n + 1)) (.may g.nm (lo.getD 0) (hi.getD (2 ^ gw - 1))) l2 [(0, 0, l2, us)]) w ↔ ((lo.getD 0 ≤ 0 ∧ 0 ≤ hi.getD (2 ^ gw - 1) ∧ w = 0) ∨ (lo.getD 0 ≤ 1 ∧ 1 ≤ hi.getD (2 ^ gw - 1) ∧ LL (d + 1) us w)) := may_lf rfl
    refine put_unit a ((a.sus s56).trans (u7.trans uB)) (d10.ext e11) k (us := [g, Fld.mk x (nmOf c (n + 1)) (.may g.nm (lo.getD 0) (hi.getD (2 ^ gw - 1))) l2 [(0, 0, l2, us)]]) (UW.two (d := d + 1) (i := n) (j := n + 1) (f := Fld.mk x (nmOf c (n + 1)) (.may g.nm (lo.getD 0) (hi.getD (2 ^ gw - 1))) l2 [(0, 0, l2, us)]) hgn rfl (by omega) (by omega) (by omega) (by rw [hgk]; rfl) (by rw [hgk]; rfl) (by rw [hgl, hgg]; rfl) (wg _) ⟨hh.1, hh.2.1, hh.2.2, wd⟩ (fun w h => by rw [num_lf hgk] at h; omega) (fun w hw => ?_) ⟨gw, (num_lf hgk).mpr rfl⟩ ?_) (by omega) hn8.1 (all_two ((hgA.imp uB.ex fun _ _ z => z : FAtB K G11 NoL g).noL gl _) f11) (fun w hw => ?_) p hp
    · rcases mlf.mp hw with ⟨_, _, e⟩ | ⟨_, _, h⟩
      · omega
      · exact uw8.m8 w h
    · by_cases h0 : lo.getD 0 ≤ 0
      · exact ⟨0, mlf.mpr (.inl ⟨h0, by omega, rfl⟩)⟩
      · exact ⟨w0, mlf.mpr (.inr ⟨by omega, by omega, hw0⟩)⟩
    · refine ub_any hd fun hd0 => ?_
      obtain ⟨x1, x2, t1, t2, e2'⟩ := sum_two hw
      rw [num_lf hgk] at t1
      have hx2 : x2 ≤ 48 * (n8 - (n + 1 + 1)) ∧ x2 ≤ 48 * (14 - (n + 1 + 1)) + 80 ∧ (14 ≤ n + 1 + 1 → x2 = 0) := by
        rcases mlf.mp t2 with ⟨_, _, e⟩ | ⟨_, _, h⟩
        · exact ⟨by omega, by omega, fun _ => e⟩
        · exact lb_use (bd8 x2 h) hd0 hn8.2
      refine ⟨by omega, ?_⟩
      rcases Nat.lt_or_ge n 13 with z | z
      · rw [b1_lo (by omega)]; omega
      · rw [b1_hi z]; omega
  have s5 := s4.trans (Sx.of e5)
  have d5 := d4.ext e5
  refine (sv_when (H := H5) (et_test (ev_op (ev_var rfl) ev_c (rv_eq rfl))) (fun hb H6 e6 => ?_) fun hb H6 e6 => ?_).here
  · -- a group
    refine s_retT (te_lst1 (te_fn (ta_cons (te_name (ev_var rfl) (d5.ext e6) (by omega) fun H7 s7 d7 => ta_cons (te_list rfl rfl (ev_var rfl) (a.sx ((s5.trans (Sx.of e6)).trans s7) d7) (by omega) fun l us H8 G8 n8 u8 d8 lr8 uw8 h13 h14 fa8 bd8 => ta_nil ⟨rfl, l, us.map Fld.v, rfl, lr8.at_, fun x H9 dx l2 hx hl2 hlx e9 hl9 h9 => ⟨sz_of (by simp), fun p hp => ?_⟩⟩)))))
    have s7' := (s5.trans (Sx.of e6)).trans s7
    have a7 := a.sx s7' d7
    have a8 := a7.us u8 d8
    obtain ⟨G9, u9, f9⟩ := new_inner .grp (nmOf c n) a8 e9 hx hl2 hlx hl9 h9 rfl rfl fa8
    have hn8 : n8 ≤ Ue (d + 1) ∧ n + 1 ≤ n8 := ⟨by rcases end_le h13 h14 with z | z <;> omega, uw8.le⟩
    have wd := uw8.wd (show n8 ≤ 26 by omega)
    refine put_unit a ((a.sus s7').trans (u8.trans u9)) (d8.ext e9) k (us := [Fld.mk x (nmOf c n) .grp l2 [(0, 0, l2, us)]]) ((UW.one (d := d + 1) (n := n) (f := Fld.mk x (nmOf c n) .grp l2 [(0, 0, l2, us)]) rfl rfl rfl wd (fun w hw => uw8.m8 w ((grp_lf (d := d + 1) rfl).mp hw)) (let ⟨w0, hw0⟩ := uw8.inh; ⟨w0, (grp_lf (d := d + 1) rfl).mpr hw0⟩)).mono (Nat.le_refl _) hn8.2) (by omega) hn8.1 (all_one f9) (fun w hw => ?_) p hp
    refine ub_any hd fun hd0 => ?_
    have t3 : SumB (LF d) us w := (grp_lf (d := d + 1) rfl).mp (sum_one hw)
    have := lb_use (bd8 w t3) hd0 hn8.2
    refine ⟨by omega, ?_⟩
    rcases Nat.lt_or_ge n 13 with z | z
    · rw [b1_lo (by omega)]; omega
    · rw [b1_hi z]; omega
  have s6 := s5.trans (Sx.of e6)
  have d6 := d5.ext e6
  refine (sv_when (H := H6) (et_test (ev_op (ev_var rfl) ev_c (rv_eq rfl))) (fun hb H7 e7 => ?_) fun hb H7 e7 => ?_).here
  · have s7 := s6.trans (Sx.of e7)
    have d7 := d6.ext e7
    exact s_retT (te_fn (ta_cons (te_var rfl (ta_cons (te_var rfl (ta_nil ⟨_, _, rfl, q, n, G, rfl, rfl, a.sx s7 d7, hn, k.pre a s7 d7⟩))))))
  · have s7 := s6.trans (Sx.of e7)
    have d7 := d6.ext e7
    exact s_retT (te_fn (ta_cons (te_var rfl (ta_nil ⟨_, rfl, q, n, G, rfl, a.sx s7 d7, hn, k.pre a s7 d7⟩))))
end
end Fk

set_option Elab.async false
set_option linter.all false
set_option maxRecDepth 100000
set_option maxHeartbeats 4000000
set_option exponentiation.threshold 3000
namespace Fk
open PySem PySem.Spec PyProof.Rows L2 Evl
abbrev CaseF := Addr × Int × Addr × List Fld
/-- a drawn case: its pair, number, list -/
structure CaseD (K : PySem.W.Frag) (c : Cst) (d lo hi : Nat) (q Dl : Addr) (G H : Hp) (s : CaseF) : Prop where
  tp : H s.1 = some (.tup [.int s.2.1, .ref s.2.2.1])
  ls : H s.2.2.1 = some (.lst (s.2.2.2.map Fld.v))
  n1 : s.1 ≠ q ∧ s.1 ≠ Dl ∧ s.2.2.1 ≠ q ∧ s.2.2.1 ≠ Dl
  fa : ∀ f ∈ s.2.2.2, FAt K G d f
  uw : ∃ a b, lo ≤ a ∧ b ≤ hi ∧ UW c d a b s.2.2.2 ∧ ∀ w, SumB (LF d) s.2.2.2 w → LBnd d a b w
theorem CaseD.mono {K : PySem.W.Frag} {c : Cst} {d lo hi hi' : Nat} {q Dl : Addr} {G G' H H' : Hp} {s : CaseF} (h : CaseD K c d lo hi q Dl G H s) (e : Ex G G') (eh : ∀ a o, a ≠ q → a ≠ Dl → H a = some o → H' a = some o) (hh : hi ≤ hi') : CaseD K c d lo hi' q Dl G' H' s :=
  ⟨eh _ _ h.n1.1 h.n1.2.1 h.tp, eh _ _ h.n1.2.2.1 h.n1.2.2.2 h.ls, h.n1, fat_mono e h.fa, let ⟨a, b, h1, h2, h3, h4⟩ := h.uw; ⟨a, b, h1, by omega, h3, h4⟩⟩
theorem cho_lf {d : Nat} {f : Fld} {cn : Str} {lo hi : Int} {w : Nat} (hk : f.k = .cho cn lo hi) : LF d f w ↔ ∃ s ∈ f.subs, lo ≤ s.2.1 ∧ s.2.1 ≤ hi ∧ LL d s.2.2.2 w := by
  unfold LF LenB
  rw [hk]
/-- the copied cases with their fields -/
theorem copies {H H' : Hp} : ∀ {cs : List CaseF} {ss : List CaseV}, All2 (CopyOf H H') (cs.map fun s => (s.1, s.2.1, s.2.2.1, s.2.2.2.map Fld.v)) ss → ∃ zs : List CaseF, (zs.map fun s => V.ref s.1) = (ss.map fun (s : CaseV) => V.ref s.1) ∧ (zs.map fun s => s.2.1) = (cs.map fun s => s.2.1) ∧
    ∀ z ∈ zs, H z.1 = none ∧ H z.2.2.1 = none ∧ H' z.1 = some (.tup [.int z.2.1, .ref z.2.2.1]) ∧ H' z.2.2.1 = some (.lst (z.2.2.2.map Fld.v)) ∧ ∃ s ∈ cs, s.2.1 = z.2.1 ∧ s.2.2.2 = z.2.2.2
  | [], _, .nil => ⟨[], rfl, rfl, fun _ h => absurd h List.not_mem_nil⟩
  | s :: r, _, .cons (b := t) h hr => by
    obtain ⟨zs, h1, h2, h3⟩ := copies (cs := r) hr
    obtain ⟨a1, a2, a3, a4, a5, a6⟩ := h
    refine ⟨(t.1, s.2.1, t.2.2.1, s.2.2.2) :: zs, by rw [List.map_cons, List.map_cons, h1], by rw [List.map_cons, List.map_cons, h2], fun z hz => ?_⟩
    rcases List.mem_cons.mp hz with rfl | hz
    · refine ⟨a3, a4, ?_, ?_, s, List.mem_cons_self .., rfl, rfl⟩
      · rw [a5, a1]
      · rw [a6, a2]
    · obtain ⟨b1, b2, b3, b4, s', hs', b5⟩ := h3 z hz
      exact ⟨b1, b2, b3, b4, s', List.mem_cons_of_mem _ hs', b5⟩
end Fk

set_option Elab.async false
set_option linter.all false
set_option maxRecDepth 100000
set_option maxHeartbeats 4000000
set_option exponentiation.threshold 3000
namespace Fk
open PySem PySem.Spec PyProof.Rows L2 Evl
section
variable {P : Program} {w : World} {K : PySem.W.Frag} {mg : Str → Option Value} {base : Heap} {σ : L2.St} {G H H' : Hp} {te ta tb tc tl td ty tx tv : TE} {tt : TT} {tu tw tz : TS} {D : Ends} {q : Addr} {c : Cst} {n i d : Nat} {Q : VK} {v : V} {t tr : TA} {QA : List V → Hp → Prop} {r : R2} {sp : Sp}
theorem ok_law_choice (T : Tx K mg) (hd : d ≤ 1) (G__law_list : Pr P w K mg base (40 * d + 10) "_law_list" (Sp3 (aList K c d))) : Pr P w K mg base (40 * d + 40) "_law_choice" (Sp3 (aUnit K c (d + 1))) := by
  have G__law_next := ok_law_next (P := P) (w := w) (base := base) (c := c) T
  have G__law_name := ok_law_name (P := P) (w := w) (base := base) (c := c) T
  have G__law_control := ok_law_control (P := P) (w := w) (base := base) (c := c) T
  have G_Choice3 := new_Choice3 (P := P) (w := w) (base := base) T
  have hU1 := ue_le1 hd
  have hU2 := ue_le (d := d) (by omega)
  have hU3 := (ue_le (d := d + 1) (by omega)).1
  refine pr3 (k := 40 * d + 39) T.d__law_choice T.g__law_choice sc__law_choice (fun _ _ _ _ _ _ us hl => match us, hl with | [_, _, _], _ => rfl) fun v b e H Q h cdv A outer s E hr hu => ?_
  obtain ⟨q, n, G, cl, rfl, rfl, rfl, a, hn, k⟩ := h
  refine ⟨_, (pss_cons (ps_set (i := 3) sc__law_choice.nd rfl (.inl rfl) (pe_op op_mod (pe_fn G__law_next (hr.mono (by omega)) (by rfl) (pa_cons (pv 0) pa_nil)) pe_int))
      (pss_cons (ps_set (i := 4) sc__law_choice.nd rfl (.inl rfl) (pe_lst (pa_cons (pv 3) (pa_cons (pe_op op_add (pe_op op_add (pv 3) pe_int) (pe_op op_mod (pe_fn G__law_next (hr.mono (by omega)) (by rfl) (pa_cons (pv 0) pa_nil)) pe_int)) (pa_cons (pe_op op_sub pe_int (pe_op op_mod (pe_fn G__law_next (hr.mono (by omega)) (by rfl) (pa_cons (pv 0) pa_nil)) pe_int)) pa_nil)))))
      (pss_cut (ps_if (pt_cmpR op_eq (pe_op op_mod (pe_fn G__law_next (hr.mono (by omega)) (by rfl) (pa_cons (pv 0) pa_nil)) pe_int) pe_int (by rfl)) (pss_one (ps_set (i := 4) sc__law_choice.nd rfl (.inl rfl) (pe_lst (pa_cons (pe_ix (ixLK (K := K) rfl) (pv 4) pe_int (fun _ _ => rfl)) (pa_cons (pe_ix (ixLK (K := K) rfl) (pv 4) pe_int (fun _ _ => rfl)) (pa_cons (pe_ix (ixLK (K := K) rfl) (pv 4) pe_int (fun _ _ => rfl)) pa_nil)))))) pss_nil)
      (pss_cons (ps_set (i := 5) sc__law_choice.nd rfl (.inl rfl) (pe_fn G__law_control (hr.mono (by omega)) (by rfl) (pa_cons (pv 0) (pa_cons pe_non (pa_cons (pe_ix (ixLK (K := K) rfl) (pe_lst (pa_cons pe_non (pa_cons pe_non (pa_cons pe_non (pa_cons pe_int pa_nil))))) (pe_op op_mod (pe_fn G__law_next (hr.mono (by omega)) (by rfl) (pa_cons (pv 0) pa_nil)) pe_int) (fun _ _ => rfl)) pa_nil)))))
      (pss_cons (ps_setLc (i := 6) (own := [("_law_one", 7)]) rfl sc__law_choice.nd rfl rfl (sw_true rfl rfl rfl (by decide +kernel)) (piLK (K := K) rfl (pv 4)) (blkOk_by (N := ["_law_state", "_law_deep", "_law_closed", "_law_number_here", "_law_numbers", "_law_control_here", "_law_cases", "_law_one"]) (sc := defScope s__law_choice) (by decide +kernel)) (fun _ _ _ _ _ => (pg_name (i := 7) sc__law_choice.nd rfl (Or.inl rfl))) (fun _ _ _ _ _ => pts_nil) (fun _ _ _ _ _ => (pe_tup (pa_cons (pv 7) (pa_cons (pe_fn G__law_list (hr.mono (by omega)) (by rfl) (pa_cons (pv 0) (pa_cons (pe_op op_sub (pv 1) pe_int) (pa_cons (pv 2) pa_nil)))) pa_nil)))))
      (pss_one (ps_ret (pe_lst (pa_cons (pv 5) (pa_cons (pe_new G_Choice3 (hr.mono (by omega)) (by rfl) (pa_cons (pe_fn G__law_name (hr.mono (by omega)) (by rfl) (pa_cons (pv 0) pa_nil)) (pa_cons (fldK (K := K) rfl (pv 5) rfl) (pa_cons (pv 6) pa_nil)))) pa_nil)))))))))), ?_⟩
  refine q_asgT (te_nm rfl a.st (by decide) fun x0 H1 hx1 hx2 s1 d1 => ?_)
  refine q_asgT (show tLst (tCons _ (tCons _ (tCons _ tNil))) _ _ _ from ta_cons (te_var rfl (ta_cons (te_op (te_ev (ev_op (ev_var rfl) ev_c rv_I0) fun H2 e2 => te_nm rfl (d1.ext e2) (by decide) fun y H3 hy1 hy2 s3 d3 => te_addI (ta_cons (te_op (te_c (te_nm rfl d3 (by decide) fun z H4 hz1 hz2 s4 d4 => te_subI (ta_nil ⟨sz_of (by simp), fun pn hpn => ?_⟩))))))))))
  have s14 := ((s1.trans (Sx.of e2)).trans s3).trans s4
  have hpnq : pn ≠ q := fun z => d4.ne (z ▸ hpn)
  refine q_cut (M := fun σ' H' => ∃ pn ns, σ' = [some (.ref q), some (vN (d + 1)), some (.bl cl), some (.int x0), some (.ref pn), none, none, none] ∧ Sx q H H' ∧ DSt q c n H' ∧ H' pn = some (.lst ((ns : List Int).map V.int)) ∧ pn ≠ q ∧ ns.Nodup ∧ ns.length = 3 ∧ (∀ x ∈ ns, 0 ≤ x ∧ x ≤ 255) ∧ ∃ x ∈ ns, x ≤ 151) ?_ ?_
  · have h0 : (upd H4 pn (.lst [V.int x0, V.int (x0 + 1 + y), V.int (255 - z)])) pn = some (.lst ([x0, x0 + 1 + y, 255 - z].map V.int)) := upd_same
    have dd := d4.ext (Ex.new hpn (o := .lst [V.int x0, V.int (x0 + 1 + y), V.int (255 - z)]))
    have ss : Sx q H (upd H4 pn (.lst [V.int x0, V.int (x0 + 1 + y), V.int (255 - z)])) := s14.trans (Sx.of (Ex.new hpn))
    have small : ∀ a b c : Int, a ≠ b → a ≠ c → b ≠ c → [a, b, c].Nodup := fun a b c h1 h2 h3 => by simp [h1, h2, h3]
    refine te_nmeq rfl dd (by decide) fun bb H5 s5 d5 => ⟨bb, rfl, ?_⟩
    cases bb with
    | false =>
      refine ⟨pn, [x0, x0 + 1 + y, 255 - z], rfl, ss.trans s5, d5, s5.eh _ _ hpnq h0, hpnq, small _ _ _ (by omega) (by omega) (by omega), rfl, ?_, x0, by simp, by omega⟩
      intro x hx
      simp only [List.mem_cons, List.not_mem_nil, or_false] at hx
      omega
    | true =>
      have l5 := s5.eh _ _ hpnq h0
      refine s_asgL (el_lst (ea_cons (ev_op (ev_var rfl) ev_c (rv_ixL (sq_of l5) (atI_nat (j := 2) rfl))) (ea_cons (ev_op (ev_var rfl) ev_c (rv_ixL (sq_of l5) (atI_nat (j := 0) rfl))) (ea_cons (ev_op (ev_var rfl) ev_c (rv_ixL (sq_of l5) (atI_nat (j := 1) rfl))) ea_nil))) (by simp)) fun p6 H6 hp6 e6 h6 => ?_
      refine ⟨p6, [255 - z, x0, x0 + 1 + y], rfl, (ss.trans s5).trans (Sx.of e6), d5.ext e6, h6, fun w => d5.ne (w ▸ hp6), small _ _ _ (by omega) (by omega) (by omega), rfl, ?_, x0, by simp, by omega⟩
      intro x hx
      simp only [List.mem_cons, List.not_mem_nil, or_false] at hx
      omega
  · rintro σ' H5 ⟨pn, ns, rfl, s5, d5, hpn5, hpnq5, hnd, hlen, hbd, hex⟩
    have a5 := a.sx s5 d5
    refine q_asgT (te_fn (ta_cons (te_var rfl (ta_cons (te_c (ta_cons (te_pick (ea_cons ev_c (ea_cons ev_c (ea_cons ev_c (ea_cons ev_c ea_nil)))) rfl d5 rfl (by decide) (by simp) fun hv H6 hw s6 d6 => ta_nil ?_)))))))
    obtain ⟨hi, rfl, hhi⟩ : ∃ hi : Option Int, hv = ov hi ∧ (hi = none ∨ hi = some 151) := by
      simp only [List.mem_cons, List.not_mem_nil, or_false] at hw
      rcases hw with rfl | rfl | rfl | rfl
      · exact ⟨none, rfl, .inl rfl⟩
      · exact ⟨none, rfl, .inl rfl⟩
      · exact ⟨none, rfl, .inl rfl⟩
      · exact ⟨some 151, rfl, .inr rfl⟩
    have s56 := s5.trans s6
    have a6 := a.sx s56 d6
    refine ⟨_, _, _, rfl, q, n, G, none, hi, rfl, rfl, rfl, a6, by omega, fun g H7 G7 u7 d7 hgn hgk hgA => ?_⟩
    obtain ⟨gw, glt, hgk, hgw⟩ := hgk
    have a7 := a6.us u7 d7
    have obg : Ob K H7 g := Ob.mono u7.sub hgA.ob
    have l7 := u7.eh _ _ hpnq5 (s6.eh _ _ hpnq5 hpn5)
    refine q_asgT ⟨.ref pn, rfl, pn, rfl, ⟨_, sq_of l7⟩, fun Dl hD => ?_⟩
    have hDq : Dl ≠ q := fun z => d7.ne (z ▸ hD)
    have hDpn : pn ≠ Dl := fun z => by rw [z, hD] at l7; cases l7
    refine lc_list (xs := ns.map V.int) (fun i H' => ∃ (cs : List CaseF) (m : Nat) (G' : Hp), Us q G7 H7 G' H' ∧ DSt q c m H' ∧ H' Dl = some (.lst (cs.map fun s => V.ref s.1)) ∧ G' Dl = none ∧ cs.map (fun s => s.2.1) = ns.take i ∧ n + 1 ≤ m ∧ (m ≤ Le d ∨ m = n + 1) ∧ ∀ s ∈ cs, CaseD K c d (n + 1) m q Dl G' H' s) ⟨[], n + 1, G7, (Us.refl a7.ex).ext (Ex.new hD), d7.ext (Ex.new hD), upd_same, fresh_back a7.ex hD, rfl, Nat.le_refl _, .inr rfl, fun _ h => absurd h List.not_mem_nil⟩ (fun i H' _ cc => by obtain ⟨_, _, _, u, _⟩ := cc; exact sq_of (u.eh _ _ hpnq5 l7)) (fun i y H' hi cc => ?_) fun H' cc => ?_
    · obtain ⟨cs, m, G', u, dd, hDl, hGD, hns, hm1, hm2, hcs⟩ := cc
      obtain ⟨x, hxi, hxm, rfl⟩ := map_get hi
      have a' := a7.us u dd
      have hil : i < 3 := by have := (List.getElem?_eq_some_iff.mp hxi).1; omega
      have hcl : cs.length = i := by
        have := congrArg List.length hns
        rw [List.length_map, List.length_take] at this
        omega
      refine ⟨rfl, ?_⟩
      simp only [tYes, if_true]
      refine te_tup2 (te_var rfl (te_list rfl rfl (ev_var rfl) a' (by omega) fun l us H8 G8 m8 u8 d8 lr8 uw8 h13 h14 fa8 bd8 => ⟨sz_of (by simp), fun t ht => ?_⟩))
      have hDl8 := u8.eh _ _ hDq hDl
      have htD : t ≠ Dl := fun z => by rw [z, hDl8] at ht; cases ht
      have htq : t ≠ q := fun z => d8.ne (z ▸ ht)
      have hlD : l ≠ Dl := fun z => by have := lr8.fr; rw [z, hDl] at this; cases this
      have hlt : l ≠ t := fun z => by have := lr8.at_; rw [z, ht] at this; cases this
      have hG8D : G8 Dl = none := u8.no hDl hGD
      refine ⟨_, (Ex.new ht) _ _ hDl8, sz_lt (by rw [List.length_map]; omega), cs ++ [(t, x, l, us)], m8, G8, ((u.trans u8).ext (Ex.new ht)).mut hD hG8D, ?_, ?_, hG8D, ?_, by have := uw8.le; omega, ?_, ?_⟩
      · obtain ⟨za, zb, z1, z2, z3, zq⟩ := d8
        exact ⟨za, zb, z1, z2, z3, by rw [upd_ne hDq.symm, upd_ne htq.symm]; exact zq⟩
      · rw [upd_same, List.map_append]; rfl
      · rw [List.map_append, hns, List.take_add_one, hxi]; rfl
      · rcases end_le h13 h14 with z | z
        · exact .inl z
        · rcases hm2 with z2 | z2 <;> omega
      · intro s hs
        rcases List.mem_append.mp hs with hs | hs
        · exact (hcs s hs).mono u8.ex (fun a1 o1 h1 h2 h3 => by rw [upd_ne h2]; exact Ex.new ht _ _ (u8.eh _ _ h1 h3)) uw8.le
        · rw [List.mem_singleton.mp hs]
          exact ⟨by show (upd (upd H8 t _) Dl _) t = _; rw [upd_ne htD, upd_same], by show (upd (upd H8 t _) Dl _) l = _; rw [upd_ne hlD, upd_ne hlt]; exact lr8.at_, ⟨htq, htD, lr8.ne, hlD⟩, fa8, m, m8, hm1, Nat.le_refl _, uw8, bd8⟩
    · obtain ⟨cs, m, G8, u8, d8, hDl, hGD, hns, hm1, hm2, hcs⟩ := cc
      rw [List.length_map, List.take_length] at hns
      have a8 := a7.us u8 d8
      have ob8 : Ob K H' g := Ob.mono (u8.ex.trans u8.sub) hgA.ob
      have hm26 : m + 1 ≤ 26 := by rcases hm2 with z | z <;> omega
      refine s_retT (te_lst2 (te_var rfl (te_fn (ta_cons (te_name (ev_var rfl) d8 (by omega) fun H9 s9 d9 => ta_cons (te_ev (ev_name T (ev_var rfl) (Ob.mono' ob8 s9 d8)) fun H10 e10 => ta_cons (te_var rfl (ta_nil ?_))))))))
      have hsz : cs.length = 3 := by
        have := congrArg List.length hns
        rw [List.length_map] at this
        omega
      have up : ∀ {p : Addr} {o : HO}, p ≠ q → H' p = some o → H10 p = some o := fun hpq h => e10 _ _ (s9.eh _ _ hpq h)
      refine ⟨_, _, Dl, cs.map fun s => (s.1, s.2.1, s.2.2.1, s.2.2.2.map Fld.v), rfl, ?_, by rw [List.length_map]; omega, fun cv hcv => ?_, fun x H11 dx Dl2 ss hx hD2 e11 h11 hDl2 hss => ⟨sz_of (by simp), fun p hp => ?_⟩⟩
      · rw [List.map_map]
        exact up hDq hDl
      · obtain ⟨s, hs, rfl⟩ := List.mem_map.mp hcv
        have := hcs s hs
        exact ⟨up this.n1.1 this.tp, up this.n1.2.2.1 this.ls⟩
      · have s8x := s9.trans (Sx.of e10)
        have d10 := d9.ext e10
        have a10 := a8.sx s8x d10
        have u11 := Us.pure (q := q) a10.ex e11 a10.st.ne
        obtain ⟨zs, z1, z2, z3⟩ := copies hss
        have f11 : FAt K (glue G8 H10 H11) (d + 1) (Fld.mk x (nmOf c m) (.cho g.nm 0 (hi.getD (2 ^ gw - 1))) Dl2 zs) := by
          refine ⟨⟨dx, (glue_new hx).trans h11⟩, ⟨fun z => (Bool.noConfusion z), fun z => (Bool.noConfusion z)⟩, fun _ _ => ⟨?_, fun s hs => ?_⟩, fun s hs => ?_⟩
          · show glue G8 H10 H11 Dl2 = some (.lst (zs.map fun s => V.ref s.1))
            rw [glue_new hD2, hDl2, z1]
          · obtain ⟨b1, b2, b3, b4, _⟩ := z3 s hs
            rw [glue_new b1]
            exact b3
          · obtain ⟨b1, b2, b3, b4, s', hs', b5, b6⟩ := z3 s hs
            refine ⟨by rw [glue_new b2]; exact b4, fun f hf => ?_⟩
            rw [← b6] at hf
            exact ((hcs s' hs').fa f hf).mono u11.ex
        have hp2 : (256 : Int) ≤ 2 ^ gw := (pow8_ge (w := gw) (by omega)).1
        have hgl : g.k.least = 0 := by rw [hgk]; rfl
        have hgg : g.k.greatest = hi.getD (2 ^ gw - 1) := by rw [hgk]; rfl
        have hh : (151 : Int) ≤ hi.getD (2 ^ gw - 1) := by
          rcases hhi with rfl | rfl
          · show (151 : Int) ≤ 2 ^ gw - 1; omega
          · show (151 : Int) ≤ 151; decide
        obtain ⟨F, hF⟩ : ∃ F, F = Fld.mk x (nmOf c m) (.cho g.nm 0 (hi.getD (2 ^ gw - 1))) Dl2 zs := ⟨_, rfl⟩
        rw [← hF] at f11
        have hFk : F.k = .cho g.nm 0 (hi.getD (2 ^ gw - 1)) := by rw [hF]; rfl
        have hFs : F.subs = zs := by rw [hF]; rfl
        have hznd : (zs.map fun s => s.2.1).Nodup := by rw [z2, hns]; exact hnd
        have hzin : ∀ z ∈ zs, z.2.1 ∈ ns := fun z hz => by rw [← hns, ← z2]; exact List.mem_map.mpr ⟨z, hz, rfl⟩
        have hzl : zs.length = 3 := by
          have := congrArg List.length z2
          rw [List.length_map, List.length_map] at this
          omega
        have wz : ∀ z ∈ zs, ∃ a b, n + 1 ≤ a ∧ b ≤ m ∧ UW c d a b z.2.2.2 ∧ ∀ w, SumB (LF d) z.2.2.2 w → LBnd d a b w := fun z hz => by
          obtain ⟨_, _, _, _, s', hs', _, b6⟩ := z3 z hz
          rw [← b6]
          exact (hcs s' hs').uw
        have wdz : ∀ z ∈ zs, WD (d + 1) z.2.2.2 := fun z hz => let ⟨a1, b1, h1, h2, h3, _⟩ := wz z hz; h3.wd (by omega)
        obtain ⟨x1, hx1, hx151⟩ := hex
        have hx1z : ∃ z ∈ zs, z.2.1 = x1 := by
          rw [← hns, ← z2] at hx1
          obtain ⟨z, hz, e⟩ := List.mem_map.mp hx1
          exact ⟨z, hz, e⟩
        obtain ⟨zz, hzz, ezz⟩ := hx1z
        have hb0 := (hbd x1 hx1).1
        obtain ⟨az, bz, ha1, hb1, huz, _⟩ := wz zz hzz
        obtain ⟨w0, hw0⟩ := huz.inh
        have gl : g.k.leaf = true := by rw [hgk]; rfl
        have hlg : g.k.least ≤ g.k.greatest := by rw [hgl, hgg]; omega
        have wg : ∀ d, FW d g := fun d => by
          unfold FW FWB
          rw [hgk] at hlg ⊢
          exact ⟨by omega, by omega, hlg, fun i h => nomatch h⟩
        have wF : FW (d + 1) F := by
          unfold FW FWB
          rw [hFk, hFs]
          exact ⟨hznd, by omega, ⟨zz, hzz, by rw [ezz]; exact hb0, by rw [ezz]; omega⟩, fun z hz => ⟨(hbd _ (hzin z hz)).1, (hbd _ (hzin z hz)).2, wdz z hz⟩⟩
        have uA := (a.sus s56).trans (u7.trans (u8.trans ((a8.sus s8x).trans u11)))
        have uT := u8.trans ((a8.sus s8x).trans u11)
        have eqF : [g.v, V.ref x] = ([g, F] : List Fld).map Fld.v := by rw [hF]; rfl
        rw [eqF]
        refine put_unit a uA (d10.ext e11) k (us := [g, F]) (UW.two (d := d + 1) (i := n) (j := m) (n' := m + 1) (f := F) hgn (by rw [hF]; rfl) (by omega) (by omega) hm26 (by rw [hgk]; rfl) (by rw [hgk]; rfl) (by rw [hgl, hgg, hFk]; rfl) (wg _) wF (fun w h => by rw [num_lf hgk] at h; omega) (fun w hw => ?_) ⟨gw, (num_lf hgk).mpr rfl⟩ ⟨w0, (cho_lf hFk).mpr ⟨zz, by rw [hFs]; exact hzz, by rw [ezz]; exact hb0, by rw [ezz]; omega, hw0⟩⟩) (by omega) (by rcases hm2 with z | z <;> omega) (all_two ((hgA.imp uT.ex fun _ _ z => z : FAtB K _ NoL g).noL gl _) f11) (fun w hw => ?_) p hp
        · obtain ⟨z, hz, _, _, h⟩ := (cho_lf hFk).mp hw
          rw [hFs] at hz
          obtain ⟨a2, b2, _, _, h3, _⟩ := wz z hz
          exact h3.m8 w h
        · refine ub_any hd fun hd0 => ?_
          obtain ⟨y1, y2, t1, t2, e2'⟩ := sum_two hw
          rw [num_lf hgk] at t1
          obtain ⟨z, hz, _, _, h⟩ := (cho_lf hFk).mp t2
          rw [hFs] at hz
          obtain ⟨a2, b2, i1, i2, h3, h4⟩ := wz z hz
          have := lb_use (h4 y2 h) hd0 h3.le
          refine ⟨by omega, ?_⟩
          rcases Nat.lt_or_ge n 13 with zn | zn
          · rw [b1_lo (by omega)]; omega
          · rw [b1_hi zn]; have := this.2.2 (by omega); omega
end
end Fk

set_option Elab.async false
set_option linter.all false
set_option maxRecDepth 100000
set_option maxHeartbeats 4000000
set_option exponentiation.threshold 3000
namespace Fk
open PySem PySem.Spec PyProof.Rows L2 Evl
/-! ### no bit of a leaves' mask beyond their bound -/
theorem orsM_inv {r j : Nat} {s : List Nat} (h : (orsM r s).testBit j = true) : ∃ l ∈ s, ∃ k, r.testBit k = true ∧ j = l + k := by
  have h1 := ors_from (r := r) (i := j) (s := s) (a := 0)
  have h2 : (orsM r s).testBit j = (Nat.testBit 0 j || s.any fun l => (r <<< l).testBit j) := h1
  rw [h2, Nat.zero_testBit, Bool.false_or, List.any_eq_true] at h
  obtain ⟨l, hl, hb⟩ := h
  rw [Nat.testBit_shiftLeft, Bool.and_eq_true, decide_eq_true_iff] at hb
  exact ⟨l, hl, j - l, hb.2, by have := hb.1; omega⟩
theorem sumM_inv {a b j : Nat} (h : (sumM a b).testBit j = true) : ∃ x y, a.testBit x = true ∧ b.testBit y = true ∧ j = x + y := by
  unfold sumM at h
  split at h
  · rw [cutM_bit, Bool.and_eq_true] at h
    obtain ⟨l, hl, k, hk, e⟩ := orsM_inv h.2
    exact ⟨k, l, hk, (mem_bitsM.mp hl).2, by omega⟩
  · rw [cutM_bit, Bool.and_eq_true] at h
    obtain ⟨l, hl, k, hk, e⟩ := orsM_inv h.2
    exact ⟨l, k, (mem_bitsM.mp hl).2, hk, e⟩
theorem unionM_inv {s : List Nat} {i : Nat} (h : (unionM s).testBit i = true) : ∃ m ∈ s, m.testBit i = true := by
  have h1 := union_from (i := i) (s := s) (a := 0)
  have h2 : (unionM s).testBit i = (Nat.testBit 0 i || s.any fun m => m.testBit i) := h1
  rw [h2, Nat.zero_testBit, Bool.false_or, List.any_eq_true] at h
  exact h
theorem pow_inv {n i : Nat} (h : (2 ^ n).testBit i = true) : i = n := by
  rw [Nat.testBit_two_pow] at h
  exact (of_decide_eq_true h).symm
theorem filt_sum (p : Nat → Bool) (g : Nat → Nat) : ∀ l : List Nat, ((l.filter p).map g).sum ≤ (l.map g).sum
  | [] => Nat.le_refl _
  | a :: r => by
    have := filt_sum p g r
    rw [List.filter_cons, List.map_cons, List.sum_cons]
    split
    · rw [List.map_cons, List.sum_cons]
      omega
    · omega
theorem sevM_41 (hi : Int) (loose : Bool) : sevM hi loose < 2 ^ 41 := by
  have := filt_sum (fun m => decide (sevLow m loose ≤ sevMost hi m)) (fun m => 2 ^ (8 * m)) ((List.range (if loose then 5 else 4)).map fun i => i + 1)
  have h2 : (((List.range (if loose then 5 else 4)).map fun i => i + 1).map fun m => 2 ^ (8 * m)).sum < 2 ^ 41 := by cases loose <;> decide +kernel
  exact Nat.lt_of_le_of_lt this h2
theorem lenM_ub {d : Nat} {f : Fld} {i : Nat} (hl : f.k.leaf = true) (h : (lenM d f).testBit i = true) : i ≤ ubF f := by
  obtain ⟨p, nm, k, l, ss⟩ := f
  cases k with
  | num w0 sg lt lo hi df c => exact Nat.le_of_eq (pow_inv h)
  | chk how w0 fi => exact Nat.le_of_eq (pow_inv h)
  | spt w0 tg => exact Nat.le_of_eq (pow_inv h)
  | sev hi lo df =>
    show i ≤ 40
    have h : (sevM hi lo).testBit i = true := h
    rcases Nat.lt_or_ge i 41 with z | z
    · omega
    · have := Nat.testBit_lt_two_pow (Nat.lt_of_lt_of_le (sevM_41 hi lo) (Nat.pow_le_pow_right (by decide) z))
      rw [this] at h
      cases h
  | txt hw df =>
    cases hw with
    | fix a => exact Nat.le_of_eq (pow_inv h)
    | end_ a =>
      obtain ⟨m, hm, hb⟩ := unionM_inv h
      obtain ⟨x, hx, rfl⟩ := List.mem_map.mp hm
      have := List.mem_range.mp hx
      have := pow_inv hb
      show i ≤ 8 * a + 8
      omega
    | by_ c lo hi =>
      obtain ⟨m, hm, hb⟩ := unionM_inv h
      obtain ⟨x, hx, rfl⟩ := List.mem_map.mp hm
      have h2 := ((mem_letM (n := d) (f := ⟨p, nm, .txt (.by_ c lo hi) df, l, ss⟩) (c := c) (lo := lo) (hi := hi) rfl).mp hx).2.2
      have := pow_inv hb
      show i ≤ 8 * hi.toNat
      omega
  | _ => cases hl
theorem LM_ub {d : Nat} {us : List Fld} {i : Nat} (hl : ∀ f ∈ us, f.k.leaf = true) (h : (LM (d + 1) us).testBit i = true) : i ≤ ub us := by
  have : ∀ (us : List Fld) (a A i : Nat), (∀ f ∈ us, f.k.leaf = true) → (∀ j, a.testBit j = true → j ≤ A) → (us.foldl (fun a f => sumM a (lenM d f)) a).testBit i = true → i ≤ A + ub us := by
    intro us
    induction us with
    | nil => intro a A i _ ha h; have := ha i h; unfold ub; simp; omega
    | cons f r ih =>
      intro a A i hl ha h
      have := ih (sumM a (lenM d f)) (A + ubF f) i (fun g hg => hl g (List.mem_cons_of_mem _ hg)) (fun j hj => by
        obtain ⟨x, y, h1, h2, e⟩ := sumM_inv hj
        have := ha x h1
        have := lenM_ub (hl f (List.mem_cons_self ..)) h2
        omega) h
      unfold ub at *
      rw [List.map_cons, List.sum_cons]
      omega
  have := this us 1 0 i hl (fun j hj => by
    have : j = 0 := pow_inv (n := 0) hj
    omega) h
  omega
end Fk

set_option Elab.async false
set_option linter.all false
set_option maxRecDepth 100000
set_option maxHeartbeats 4000000
set_option exponentiation.threshold 3000
namespace Fk
open PySem PySem.Spec PyProof.Rows L2 Evl
theorem top_bit {m w : Nat} (h : m.testBit w = true) (hw : w ≤ 2040) : m.testBit (topM m) = true := by
  have hp : 0 < (bitsM m).length := List.length_pos_of_mem (mem_bitsM.mpr ⟨hw, h⟩)
  have : topM m ∈ bitsM m := by
    unfold topM
    rw [List.getD_eq_getElem?_getD, List.getElem?_eq_getElem (by omega)]
    exact List.getElem_mem _
  exact (mem_bitsM.mp this).2
theorem DSt.upd {q l : Addr} {c : Cst} {n : Nat} {H : Hp} {o : HO} (hl : l ≠ q) (h : DSt q c n H) : DSt q c n (L2.upd H l o) := let ⟨a, b, h1, h2, h3, h4⟩ := h; ⟨a, b, h1, h2, h3, by rw [upd_ne hl.symm]; exact h4⟩
/-- a late field of what grows: it has a default -/
structure Lg (K : PySem.W.Frag) (G : Hp) (f : Fld) : Prop where
  leaf : f.k.leaf = true
  nc : f.k.word ≠ "check" ∧ f.k.word ≠ "spot"
  dd : f.k.dfl ≠ .non
  w8 : f.k.width % 8 = 0
  at_ : FAtB K G NoL f
theorem Lg.mono {K : PySem.W.Frag} {G G' : Hp} {f : Fld} (e : Ex G G') (h : Lg K G f) : Lg K G' f := ⟨h.leaf, h.nc, h.dd, h.w8, h.at_.imp e fun _ _ z => z⟩
/-- what grows, as it is drawn -/
structure Gr (K : PySem.W.Frag) (c : Cst) (q : Addr) (n n1 : Nat) (G H : Hp) (l : Addr) (us bs : List Fld) (i : Nat) (G' H' : Hp) : Prop where
  up : Us q G H G' H'
  st : DSt q c (n1 + i) H'
  at_ : H' l = some (.lst ((us ++ bs).map Fld.v))
  fr : H l = none
  no : G' l = none
  ne : l ≠ q
  uw : UW c 0 n (n1 + i) (us ++ bs)
  lf : ∀ f ∈ us, Lf K G' f
  lg : ∀ f ∈ bs, Lg K G' f
  ub : ub (us ++ bs) ≤ ub us + 40 * i
theorem Gr.ext {K : PySem.W.Frag} {c : Cst} {q : Addr} {n n1 : Nat} {G H : Hp} {l : Addr} {us bs : List Fld} {i : Nat} {G' H' H2 : Hp} (e : Ex H' H2) (g : Gr K c q n n1 G H l us bs i G' H') : Gr K c q n n1 G H l us bs i G' H2 :=
  ⟨g.up.ext e, g.st.ext e, e _ _ g.at_, g.fr, g.no, g.ne, g.uw, g.lf, g.lg, g.ub⟩
theorem Gr.leaf {K : PySem.W.Frag} {c : Cst} {q : Addr} {n n1 : Nat} {G H : Hp} {l : Addr} {us bs : List Fld} {i : Nat} {G' H' : Hp} (g : Gr K c q n n1 G H l us bs i G' H') : ∀ f ∈ us ++ bs, f.k.leaf = true := fun f hf =>
  (List.mem_append.mp hf).elim (fun h => (g.lf f h).leaf) fun h => (g.lg f h).leaf
theorem Gr.fat {K : PySem.W.Frag} {c : Cst} {q : Addr} {n n1 : Nat} {G H : Hp} {l : Addr} {us bs : List Fld} {i : Nat} {G' H' : Hp} (g : Gr K c q n n1 G H l us bs i G' H') (d : Nat) : ∀ f ∈ us ++ bs, FAt K G' d f := fun f hf =>
  (List.mem_append.mp hf).elim (fun h => (g.lf f h).at_.noL (g.lf f h).leaf d) fun h => (g.lg f h).at_.noL (g.lg f h).leaf d
theorem Gr.step {K : PySem.W.Frag} {c : Cst} {q : Addr} {n n1 : Nat} {G H : Hp} {l : Addr} {us bs : List Fld} {i : Nat} {G' H' H3 H4 : Hp} (g : Gr K c q n n1 G H l us bs i G' H') (a : At q c n G H) (hn : n1 + i + 1 ≤ 26) (s : Sx q H' H3) (d3 : DSt q c (n1 + i + 1) H3) (e : Ex H3 H4) {x dx : Addr} {at_ : List (Str × V)} (k : Kd) (hx : H3 x = none)
    (h : H4 x = some (.ins (He.ga K k.cls) dx at_)) (hk : k.leaf = true) (ha : at_ = (Fld.mk x (nmOf c (n1 + i)) k 0 []).attrs) (nc : k.word ≠ "check" ∧ k.word ≠ "spot") (hd : k.dfl ≠ .non) (hw8 : k.width % 8 = 0) (hb : k.bds = none) (hc : k.isCtl = false)
    (fw : FW 0 (Fld.mk x (nmOf c (n1 + i)) k 0 [])) (m8 : ∀ w, LF 0 (Fld.mk x (nmOf c (n1 + i)) k 0 []) w → w % 8 = 0) (inh : ∃ w, LF 0 (Fld.mk x (nmOf c (n1 + i)) k 0 []) w) (hub : ubF (Fld.mk x (nmOf c (n1 + i)) k 0 []) ≤ 40) :
    ∃ xs, H4 l = some (.lst xs) ∧ xs.length < 16000000 ∧ ∃ bs' G4, Gr K c q n n1 G H l us bs' (i + 1) G4 (upd H4 l (.lst (xs ++ [.ref x]))) := by
  have a' := a.us g.up g.st
  have a3 := a'.sx s d3
  obtain ⟨G4, u4, f4⟩ := new_leaf k (nmOf c (n1 + i)) a3 e hx h hk ha
  have uB := (a'.sus s).trans u4
  have l4 := uB.eh _ _ g.ne g.at_
  have hG4 := uB.no g.at_ g.no
  have hfew := g.uw.few
  refine ⟨_, l4, by rw [List.length_map]; omega, bs ++ [Fld.mk x (nmOf c (n1 + i)) k 0 []], G4, (g.up.trans uB).mut g.fr hG4, (d3.ext e).upd g.ne, ?_, g.fr, hG4, g.ne, ?_, fun f hf => (g.lf f hf).mono uB.ex, fun f hf => ?_, ?_⟩
  · rw [upd_same, ← List.append_assoc, List.map_append (l₁ := us ++ bs)]
    rfl
  · rw [← List.append_assoc]
    exact g.uw.app2 (UW.one (n := n1 + i) rfl hb hc fw m8 inh) hn
  · rcases List.mem_append.mp hf with hf | hf
    · exact (g.lg f hf).mono uB.ex
    · rw [List.mem_singleton.mp hf]
      exact ⟨hk, nc, hd, hw8, f4⟩
  · rw [← List.append_assoc, ub_app, ub_one]
    have := g.ub
    omega
section
variable {P : Program} {w : World} {K : PySem.W.Frag} {mg : Str → Option Value} {base : Heap} {σ : L2.St} {G H H' : Hp} {te ta tb tc tl td ty tx tv : TE} {tt : TT} {tu tw tz : TS} {D : Ends} {q : Addr} {c : Cst} {n i d : Nat} {Q : VK} {v : V} {t tr : TA} {QA : List V → Hp → Prop} {r : R2} {sp : Sp}
theorem s_appT {l : Addr} {xs : List V} {j : Nat} (h1 : σ[j]? = some (some (.ref l))) (hl : H l = some (.lst xs)) (h : te σ H fun y H2 => rAppend (.ref l) [y] H2 fun _ H3 => D.nx σ H3) : tDrop (tBM K "list" rAppend (tVar j) (tCons te tNil)) D σ H := ⟨.ref l, h1, .inl ⟨rfl, xs, sq_of hl⟩, h⟩
theorem et_isI {a b : Int} {j : Nat} (h : σ[j]? = some (some (.int a))) (e : a = b) : EvT (tTest (tOp rEq (tVar j) (tC (.int b)))) σ H true := et_test (ev_is (ev_op (ev_var h) ev_c (rv_eq rfl)) (congrArg V.bl (decide_eq_true (congrArg V.int e))))
theorem et_neI {a b : Int} {j : Nat} (h : σ[j]? = some (some (.int a))) (e : a ≠ b) : EvT (tTest (tOp rEq (tVar j) (tC (.int b)))) σ H false := et_test (ev_is (ev_op (ev_var h) ev_c (rv_eq rfl)) (congrArg V.bl (decide_eq_false fun z => e (V.int.inj z))))
theorem s_no {a b : Int} {j : Nat} (h : σ[j]? = some (some (.int a))) (e : a ≠ b) (k : ∀ H1, Ex H H1 → D.nx σ H1) : tIfS (tTest (tOp rEq (tVar j) (tC (.int b)))) tu tNext D σ H := s_when (b := false) (et_neI h e) (fun z => nomatch z) fun _ => k
theorem ue_20 (hd : d ≤ 1) : 20 ≤ Ue (d + 1) := by
  match d, hd with
  | 0, _ => decide
  | 1, _ => decide
theorem ok_law_grow (T : Tx K mg) (hd : d ≤ 1) : Pr P w K mg base (40 * d + 40) "_law_grow" (Sp1 (aGrow K c (d + 1))) := by
  have G__law_next := ok_law_next (P := P) (w := w) (base := base) (c := c) T
  have G__law_name := ok_law_name (P := P) (w := w) (base := base) (c := c) T
  have G__law_control := ok_law_control (P := P) (w := w) (base := base) (c := c) T
  have G__law_leaf : Pr P w K mg base 6 "_law_leaf" (Sp2 (aLeaf K c)) := ok_law_leaf T
  have G_members := ok_members (P := P) (w := w) (base := base) T
  have G_list_lengths := (lens (P := P) (w := w) (base := base) T 1).1
  have G_Sized4 := new_Sized4 (P := P) (w := w) (base := base) T
  have G_Number7 := new_Number7 (P := P) (w := w) (base := base) T
  have G_Seven4 := new_Seven4 (P := P) (w := w) (base := base) T
  have G_Text4 := new_Text4 (P := P) (w := w) (base := base) T
  have hU3 := (ue_le (d := d + 1) (by omega)).1
  have hU4 := ue_20 hd
  refine pr1 (k := 40 * d + 39) T.d__law_grow T.g__law_grow sc__law_grow (fun _ _ _ _ _ _ us hl => match us, hl with | [_], _ => rfl) fun v H Q h cdv A outer s E hr hu => ?_
  obtain ⟨q, n, G, rfl, a, hn, k⟩ := h
  refine ⟨_, (pss_cons (ps_set (i := 1) sc__law_grow.nd rfl (.inl rfl) (pe_fn G__law_leaf (hr.mono (by omega)) (by rfl) (pa_cons (pv 0) (pa_cons pe_bl pa_nil))))
      (pss_cons (ps_for PassesOwn.never rfl (pi_range1 (by rfl) T.b_range (pa_cons (pe_op op_mod (pe_fn G__law_next (hr.mono (by omega)) (by rfl) (pa_cons (pv 0) pa_nil)) pe_int) pa_nil)) (pg_name (i := 2) sc__law_grow.nd rfl (.inl rfl)) (pss_cons (ps_set (i := 3) sc__law_grow.nd rfl (.inl rfl) (pe_op op_mod (pe_fn G__law_next (hr.mono (by omega)) (by rfl) (pa_cons (pv 0) pa_nil)) pe_int))
      (pss_cons (ps_if (pt_cmpR op_eq (pv 3) pe_int (by rfl)) (pss_cons (ps_set (i := 4) sc__law_grow.nd rfl (.inl rfl) (pe_ix (ixLK (K := K) rfl) (pe_lst (pa_cons pe_int (pa_cons pe_int (pa_cons (pe_op op_mod (pe_fn G__law_next (hr.mono (by omega)) (by rfl) (pa_cons (pv 0) pa_nil)) pe_int) pa_nil)))) (pe_op op_mod (pe_fn G__law_next (hr.mono (by omega)) (by rfl) (pa_cons (pv 0) pa_nil)) pe_int) (fun _ _ => rfl)))
      (pss_one (ps_expr (pe_appK (K := K) rfl (pv 1) (pa_cons (pe_new G_Number7 (hr.mono (by omega)) (by rfl) (pa_cons (pe_fn G__law_name (hr.mono (by omega)) (by rfl) (pa_cons (pv 0) pa_nil)) (pa_cons pe_int (pa_cons pe_bl (pa_cons pe_bl (pa_cons pe_non (pa_cons pe_int (pa_cons (pv 4) pa_nil)))))))) pa_nil))))) pss_nil)
      (pss_cons (ps_if (pt_cmpR op_eq (pv 3) pe_int (by rfl)) (pss_one (ps_expr (pe_appK (K := K) rfl (pv 1) (pa_cons (pe_new G_Seven4 (hr.mono (by omega)) (by rfl) (pa_cons (pe_fn G__law_name (hr.mono (by omega)) (by rfl) (pa_cons (pv 0) pa_nil)) (pa_cons pe_int (pa_cons pe_bl (pa_cons (pe_op op_mod (pe_fn G__law_next (hr.mono (by omega)) (by rfl) (pa_cons (pv 0) pa_nil)) pe_int) pa_nil))))) pa_nil)))) pss_nil)
      (pss_cons (ps_if (pt_cmpR op_eq (pv 3) pe_int (by rfl)) (pss_one (ps_expr (pe_appK (K := K) rfl (pv 1) (pa_cons (pe_new G_Text4 (hr.mono (by omega)) (by rfl) (pa_cons (pe_fn G__law_name (hr.mono (by omega)) (by rfl) (pa_cons (pv 0) pa_nil)) (pa_cons pe_str (pa_cons pe_int (pa_cons pe_str pa_nil))))) pa_nil)))) pss_nil)
      (pss_one (ps_if (pt_cmpR op_eq (pv 3) pe_int (by rfl)) (pss_one (ps_expr (pe_appK (K := K) rfl (pv 1) (pa_cons (pe_new G_Text4 (hr.mono (by omega)) (by rfl) (pa_cons (pe_fn G__law_name (hr.mono (by omega)) (by rfl) (pa_cons (pv 0) pa_nil)) (pa_cons pe_str (pa_cons pe_int (pa_cons (pe_ix (ixLK (K := K) rfl) (pe_lst (pa_cons pe_str (pa_cons pe_str pa_nil))) (pe_op op_mod (pe_fn G__law_next (hr.mono (by omega)) (by rfl) (pa_cons (pv 0) pa_nil)) pe_int) (fun _ _ => rfl)) pa_nil))))) pa_nil)))) pss_nil)))))))
      (pss_cons (ps_set (i := 5) sc__law_grow.nd rfl (.inl rfl) (pe_fn G__law_control (hr.mono (by omega)) (by rfl) (pa_cons (pv 0) (pa_cons pe_non (pa_cons (pe_op op_add (pe_op op_fdiv (pe_ix (ixLK (K := K) rfl) (pe_fn G_members (hr.mono (by omega)) (by rfl) (pa_cons (pe_fn G_list_lengths (hr.mono (by omega)) (by rfl) (pa_cons (pv 1) pa_nil)) pa_nil)) (pe_un un_neg pe_int) (fun _ _ => rfl)) pe_int) (pe_op op_mod (pe_fn G__law_next (hr.mono (by omega)) (by rfl) (pa_cons (pv 0) pa_nil)) pe_int)) pa_nil)))))
      (pss_one (ps_ret (pe_lst (pa_cons (pv 5) (pa_cons (pe_new G_Sized4 (hr.mono (by omega)) (by rfl) (pa_cons (pe_fn G__law_name (hr.mono (by omega)) (by rfl) (pa_cons (pv 0) pa_nil)) (pa_cons (fldK (K := K) rfl (pv 5) rfl) (pa_cons (pv 1) (pa_cons pe_bl pa_nil))))) pa_nil)))))))), ?_⟩
  refine q_asgT (te_leaf rfl ev_c a (by omega) fun l us H1 G1 n1 u1 d1 lr1 uw1 h1 h2 lf1 b1' b2' => ?_)
  refine q_forT (ta_cons (te_nm rfl d1 (by decide) fun x H2 hx1 hx2 s2 d2 => ta_nil ⟨_, rfl, by omega, by omega, ?_⟩))
  have a1 := a.us u1 d1
  have g0 : Gr K c q n n1 G H l us [] 0 G1 H2 := ⟨u1.trans (a1.sus s2), d2, by rw [List.append_nil]; exact s2.eh _ _ lr1.ne lr1.at_, lr1.fr, lr1.no, lr1.ne, by rw [List.append_nil]; exact uw1, lf1, fun _ h => absurd h List.not_mem_nil, by rw [List.append_nil]; omega⟩
  refine for_it (N := x.toNat) (fun i σ' H' => ∃ z2 z3 z4 bs G', σ' = [some (.ref q), some (.ref l), z2, z3, z4, none] ∧ Gr K c q n n1 G H l us bs i G' H') ⟨none, none, none, [], G1, rfl, g0⟩ (fun i _ _ hi _ => hi) (fun _ _ _ => Nat.le_refl _) ?_ ?_
  · rintro i x' σ' H3 H4 hi ⟨z2, z3, z4, bs, G', rfl, g⟩ ⟨rfl, rfl⟩
    refine q_asgT (te_nm rfl g.st (by decide) fun way H4 hw1 hw2 s4 d4 => ?_)
    have hi3 : i < 3 := by omega
    have hl4 := s4.eh _ _ g.ne g.at_
    have hn26 : n1 + i + 1 ≤ 26 := by omega
    rcases (show way = 0 ∨ way = 1 ∨ way = 2 ∨ way = 3 by omega) with rfl | rfl | rfl | rfl
    · refine (sv_takeT (H := H4) (et_isI rfl rfl) fun H5 e5 => ?_).here
      refine q_asgT (te_op (show tLst _ _ _ _ from ta_cons (te_c (ta_cons (te_c (ta_cons (te_nm rfl (d4.ext e5) (by decide) fun y H6 hy1 hy2 s6 d6 => ta_nil ⟨sz_of (by simp), fun pl hpl => te_nm rfl (d6.ext (Ex.new hpl)) (by decide) fun z H7 hz1 hz2 s7 d7 => ?_⟩)))))))
      have hplq : pl ≠ q := fun z => d6.ne (z ▸ hpl)
      obtain ⟨j, rfl⟩ : ∃ j : Nat, z = (j : Int) := ⟨z.toNat, by omega⟩
      obtain ⟨far, hf1, hf2, hfar⟩ : ∃ far : Int, 0 ≤ far ∧ far ≤ 99 ∧ ([V.int 0, .int 99, .int y] : List V)[j]? = some (.int far) := by
        rcases j with _ | _ | _ | j
        · exact ⟨0, by decide, by decide, rfl⟩
        · exact ⟨99, by decide, by decide, rfl⟩
        · exact ⟨y, hy1, by omega, rfl⟩
        · omega
      refine ⟨pl, _, _, .int far, rfl, rfl, sq_of (s7.eh _ _ hplq upd_same), atI_nat hfar, ?_⟩
      have s57 := (((s4.trans (Sx.of e5)).trans s6).trans (Sx.of (Ex.new hpl))).trans s7
      refine s_appT rfl (s57.eh _ _ g.ne g.at_) (te_fn (ta_cons (te_name (ev_var rfl) d7 (by omega) fun H8 s8 d8 => ta_cons (te_c (ta_cons (te_c (ta_cons (te_c (ta_cons (te_c (ta_cons (te_c (ta_cons (te_var rfl (ta_nil ⟨rfl, fun x H9 dx hx e9 h9 => ?_⟩)))))))))))))))
      obtain ⟨xs, q1, q2, bs', G9, g9⟩ := g.step a hn26 (s57.trans s8) d8 e9 (.num 8 false false none (some 99) (some far) false) hx h9 rfl rfl nc_num (fun z => nomatch z) (by show (8 : Nat) % 8 = 0; rfl) rfl rfl ⟨by decide, by decide, show (0 : Int) ≤ 99 by decide, fun i h => by cases h; exact ⟨hf1, hf2⟩⟩ (fun w h => by have h : w = 8 := h; omega) ⟨8, rfl⟩ (by show 8 ≤ 40; decide)
      refine ⟨l, xs, _, rfl, rfl, q1, szM q2, ?_⟩
      refine (sv_skipT (H := upd H9 l (.lst (xs ++ [V.ref x]))) (et_neI rfl (by decide)) (sv_skipT (et_neI rfl (by decide)) fun H10 e10 => s_no rfl (by decide) fun H11 e11 => ?_)).here
      exact ⟨_, _, _, bs', G9, rfl, g9.ext (e10.trans e11)⟩
    · refine (sv_skipT (H := H4) (et_neI rfl (by decide)) (sv_takeT (et_isI rfl rfl) fun H5 e5 => ?_)).here
      have s5 := s4.trans (Sx.of e5)
      refine s_appT rfl (s5.eh _ _ g.ne g.at_) (te_fn (ta_cons (te_name (ev_var rfl) (d4.ext e5) (by omega) fun H8 s8 d8 => ta_cons (te_c (ta_cons (te_c (ta_cons (te_nm rfl d8 (by decide) fun y H9 hy1 hy2 s9 d9 => ta_nil ⟨rfl, fun x H10 dx hx e10 h10 => ?_⟩))))))))
      obtain ⟨xs, q1, q2, bs', G9, g9⟩ := g.step a hn26 ((s5.trans s8).trans s9) d9 e10 (.sev 16384 false (some y)) hx h10 rfl rfl nc_sev (fun z => nomatch z) rfl rfl rfl ⟨by decide, by decide, fun i h => by cases h; exact ⟨hy1, by omega⟩⟩ (fun w ⟨i, _, e⟩ => by omega) ⟨_, 0, by decide, rfl⟩ (by show 40 ≤ 40; decide)
      refine ⟨l, xs, _, rfl, rfl, q1, szM q2, ?_⟩
      refine (sv_skipT (H := upd H10 l (.lst (xs ++ [V.ref x]))) (et_neI rfl (by decide)) fun H11 e11 => s_no rfl (by decide) fun H12 e12 => ?_).here
      exact ⟨_, _, _, bs', G9, rfl, g9.ext (e11.trans e12)⟩
    · refine (sv_skipT (H := H4) (et_neI rfl (by decide)) (sv_skipT (et_neI rfl (by decide)) (sv_takeT (et_isI rfl rfl) fun H5 e5 => ?_))).here
      have s5 := s4.trans (Sx.of e5)
      refine s_appT rfl (s5.eh _ _ g.ne g.at_) (te_fn (ta_cons (te_name (ev_var rfl) (d4.ext e5) (by omega) fun H8 s8 d8 => ta_cons (te_c (ta_cons (te_c (ta_cons (te_c (ta_nil ⟨rfl, fun x H10 dx hx e10 h10 => ?_⟩)))))))))
      obtain ⟨xs, q1, q2, bs', G9, g9⟩ := g.step a hn26 (s5.trans s8) d8 e10 (.txt (.fix 3) (some "a b")) hx h10 rfl rfl nc_txt (fun z => nomatch z) rfl rfl rfl ⟨by show 3 ≤ 60; decide, fun s h => by cases h; exact ⟨by unfold okText; decide +kernel, rfl, rfl⟩⟩ (fun w ⟨i, _, e⟩ => by have e : w = 8 * i + 0 := e; omega) ⟨_, 3, rfl, rfl⟩ (by show 24 ≤ 40; decide)
      refine ⟨l, xs, _, rfl, rfl, q1, szM q2, ?_⟩
      refine s_no rfl (by decide) fun H12 e12 => ?_
      exact ⟨_, _, _, bs', G9, rfl, g9.ext e12⟩
    · refine (sv_skipT (H := H4) (et_neI rfl (by decide)) (sv_skipT (et_neI rfl (by decide)) (sv_skipT (et_neI rfl (by decide)) fun H5 e5 => s_when (b := true) (et_isI rfl rfl) (fun _ H6 e6 => ?_) fun z => nomatch z))).here
      have s5 := s4.trans (Sx.of (e5.trans e6))
      refine s_appT rfl (s5.eh _ _ g.ne g.at_) (te_fn (ta_cons (te_name (ev_var rfl) (d4.ext (e5.trans e6)) (by omega) fun H8 s8 d8 => ta_cons (te_c (ta_cons (te_c (ta_cons (te_pick (vs := [.str "", .str "xyz"]) (ea_cons ev_c (ea_cons ev_c ea_nil)) rfl d8 rfl (by decide) (by simp) fun hv H9 hw s9 d9 => ta_nil ⟨rfl, fun x H10 dx hx e10 h10 => ?_⟩))))))))
      obtain ⟨df, rfl, hdf⟩ : ∃ df : Str, hv = .str df ∧ okText df ∧ df.length ≤ 4 := by
        simp only [List.mem_cons, List.not_mem_nil, or_false] at hw
        rcases hw with rfl | rfl
        · exact ⟨"", rfl, by unfold okText; decide +kernel, by decide +kernel⟩
        · exact ⟨"xyz", rfl, by unfold okText; decide +kernel, by decide +kernel⟩
      obtain ⟨xs, q1, q2, bs', G9, g9⟩ := g.step a hn26 ((s5.trans s8).trans s9) d9 e10 (.txt (.end_ 4) (some df)) hx h10 rfl rfl nc_txt (fun z => nomatch z) rfl rfl rfl ⟨by show 4 ≤ 60; decide, fun s h => by cases h; exact ⟨hdf.1, hdf.2, rfl⟩⟩ (fun w ⟨i, _, e⟩ => by have e : w = 8 * i + 8 := e; omega) ⟨_, 0, show 0 ≤ 4 by decide, rfl⟩ (by show 40 ≤ 40; decide)
      exact ⟨l, xs, _, rfl, rfl, q1, szM q2, _, _, _, bs', G9, rfl, g9⟩
  · rintro σ' H3 ⟨z2, z3, z4, bs, G3, rfl, g⟩
    obtain ⟨j, hj⟩ : ∃ j, j = x.toNat := ⟨_, rfl⟩
    rw [← hj] at g
    have hj3 : j ≤ 3 := by omega
    obtain ⟨L, hLd⟩ : ∃ L, L = us ++ bs := ⟨_, rfl⟩
    obtain ⟨m, hm⟩ : ∃ m, m = n1 + j := ⟨_, rfl⟩
    have uw := g.uw
    have hat0 := g.at_
    have hlv := g.leaf
    have hfa := g.fat
    have hst := g.st
    have hub : ub L ≤ 64 + 40 * j := by have := g.ub; rw [hLd]; omega
    have hub2 : ub L ≤ 48 * (n1 - n) + 40 * j := by have := g.ub; rw [hLd]; omega
    have spl : ∃ x y, L = x ++ y ∧ (∀ g ∈ x, g.k.dfl = .non) ∧ (∀ g ∈ y, g.k.dfl ≠ .non) ∧ (∀ g ∈ L, g.k.leaf = true ∧ g.k.word ≠ "check" ∧ g.k.word ≠ "spot") ∧ ∀ g ∈ y, g.k.width % 8 = 0 := by
      refine ⟨us, bs, hLd, fun f hf => (g.lf f hf).nd, fun f hf => (g.lg f hf).dd, fun f hf => ⟨hlv f (hLd ▸ hf), ?_⟩, fun f hf => (g.lg f hf).w8⟩
      rw [hLd] at hf
      exact (List.mem_append.mp hf).elim (fun h => (g.lf f h).nc) fun h => (g.lg f h).nc
    rw [← hLd] at uw hat0 hlv hfa
    rw [← hm] at uw hst
    have a3 := a.us g.up hst
    have wd1 := uw.wd (show m ≤ 26 by omega)
    have hL : LAt K H3 1 l L := ⟨hat0, fun f hf => (hfa 0 f hf).mono g.up.sub⟩
    have le2040 : ∀ w, SumB (LF 0) L w → w ≤ 2040 := fun w hw => by
      have := sum_ub hlv hw
      omega
    have bit : ∀ w, SumB (LF 0) L w → (LM 1 L).testBit w = true := fun w hw => (len_bits 1).1 L w hw (le2040 w hw) wd1
    obtain ⟨w0, hw0⟩ := uw.inh
    have hat := top_at (bit w0 hw0) (le2040 w0 hw0)
    have htop := LM_ub (d := 0) hlv (top_bit (bit w0 hw0) (le2040 w0 hw0))
    obtain ⟨mx, hmx⟩ : ∃ mx, mx = topM (LM 1 L) := ⟨_, rfl⟩
    rw [← hmx] at hat htop
    refine q_asgT (te_fn (ta_cons (te_var rfl (ta_cons (te_c (ta_cons (te_op (te_ev (v := .int ((mx / 8 : Nat) : Int)) (ev_is (ev_op (ev_opL1 (el_members (ev_LL (ev_var rfl) hL wd1.lw) (LM_lt _ _)) (fun _ _ => ev_un ev_c ru_neg) fun p H9 hp _ => rv_ixL (sq_of hp) hat) ev_c (rv_I (show CDiv _ _ from ⟨by decide, by decide⟩))) (congrArg V.int (by omega))) fun H4 e4 => te_nm rfl (hst.ext e4) (by decide) fun y H5 hy1 hy2 s5 d5 => te_addI (ta_nil ?_)))))))))
    have s35 := (Sx.of e4).trans s5
    obtain ⟨hi, hhi⟩ : ∃ hi : Nat, (hi : Int) = ((mx / 8 : Nat) : Int) + y := ⟨(((mx / 8 : Nat) : Int) + y).toNat, by omega⟩
    have hhi2 : mx / 8 ≤ hi ∧ hi ≤ mx / 8 + 3 := by omega
    rw [← hhi]
    refine ⟨_, _, _, rfl, q, m, G3, none, some (hi : Int), rfl, rfl, rfl, a3.sx s35 d5, by omega, fun g2 H7 G7 u7 d7 hgn hgk hgA => ?_⟩
    obtain ⟨gw, glt, hgk, hgw⟩ := hgk
    have a7 := (a3.sx s35 d5).us u7 d7
    have obg : Ob K H7 g2 := Ob.mono u7.sub hgA.ob
    have hgl : g2.k.least = 0 := by rw [hgk]; rfl
    have hgg : g2.k.greatest = (hi : Int) := by rw [hgk]; rfl
    have l7 := u7.eh _ _ g.ne (s35.eh _ _ g.ne hat0)
    refine s_retT (te_lst2 (te_var rfl (te_fn (ta_cons (te_name (ev_var rfl) d7 (by omega) fun H8 s8 d8 => ta_cons (te_ev (ev_name T (ev_var rfl) (Ob.mono' obg s8 d7)) fun H9 e9 => ta_cons (te_var rfl (ta_cons (te_c (ta_nil ⟨rfl, l, L.map Fld.v, rfl, e9 _ _ (s8.eh _ _ g.ne l7), fun x H10 dx l2 hx hl2 hlx e10 hl10 h10 => ⟨sz_of (by simp), fun p hp => ?_⟩⟩))))))))))
    have s79 := s8.trans (Sx.of e9)
    have a9 := a7.sx s79 (d8.ext e9)
    obtain ⟨G10, u10, f10⟩ := new_inner (d := d) (.siz g2.nm 0 (hi : Int) true) (nmOf c (m + 1)) a9 e10 hx hl2 hlx hl10 h10 rfl rfl fun f hf => (hfa d f hf).mono u7.ex
    have uB := (a7.sus s79).trans u10
    have hlg : g2.k.least ≤ g2.k.greatest := by rw [hgl, hgg]; omega
    have wg : ∀ d, FW d g2 := fun d => by
      unfold FW FWB
      rw [hgk] at hlg ⊢
      exact ⟨by omega, by omega, hlg, fun i h => nomatch h⟩
    have gl : g2.k.leaf = true := by rw [hgk]; rfl
    have tops : ∀ w, SumB (LF 0) L w → ((w / 8 : Nat) : Int) ≤ (hi : Int) := fun w hw => by
      have := top_ge (bit w hw) (le2040 w hw)
      rw [← hmx] at this
      omega
    have uwd : UW c d n m L := uw.leaf hlv
    have wdd := uwd.wd (show m ≤ 26 by omega)
    have l0 : ∀ w, LL (d + 1) L w → SumB (LF 0) L w := fun w hw => leaf_sum hlv hw
    have hs := @siz_lf (d + 1) (Fld.mk x (nmOf c (m + 1)) (.siz g2.nm 0 (hi : Int) true) l2 [(0, 0, l2, L)]) g2.nm 0 (hi : Int) true
    have hle := uw.le
    have hgrow : LG (d + 1) L w0 := ⟨L.length, w0, 0, by rw [List.take_length]; exact leaf_sum hlv hw0, by rw [List.drop_length]; exact fun _ h => absurd h List.not_mem_nil, .inl rfl, by omega⟩
    refine put_unit a (g.up.trans ((a3.sus s35).trans (u7.trans uB))) ((d8.ext e9).ext e10) k (us := [g2, Fld.mk x (nmOf c (m + 1)) (.siz g2.nm 0 (hi : Int) true) l2 [(0, 0, l2, L)]]) ((UW.two (i := m) (j := m + 1) (n' := m + 2) (f := Fld.mk x (nmOf c (m + 1)) (.siz g2.nm 0 (hi : Int) true) l2 [(0, 0, l2, L)]) hgn rfl (by omega) (by omega) (by omega) (by rw [hgk]; rfl) (by rw [hgk]; rfl) (by rw [hgl, hgg]; rfl) (wg _) ⟨rfl, wdd, fun w hw => ⟨le2040 w (l0 w hw), tops w (l0 w hw)⟩, fun _ => let ⟨x, y, p1, p2, p3, p4, p5⟩ := spl; ⟨x, y, p1, p2, p3, p4, by omega, p5⟩⟩ (fun w h => by rw [num_lf hgk] at h; omega) (fun w hw => ((hs rfl).mp hw).1) ⟨gw, (num_lf hgk).mpr rfl⟩ ⟨w0, (hs rfl).mpr ⟨uw.m8 w0 hw0, le2040 w0 hw0, by omega, tops w0 hw0, hgrow⟩⟩) : UW c (d + 1) n (m + 2) _) (by omega) (by omega) (all_two ((hgA.imp uB.ex fun _ _ z => z : FAtB K G10 NoL g2).noL gl _) f10) (fun w hw => ?_) p hp
    refine ub_any hd fun hd0 => ?_
    obtain ⟨x1, x2, t1, t2, e2'⟩ := sum_two hw
    rw [num_lf hgk] at t1
    obtain ⟨t3, t4, t5, t6, _⟩ := (hs rfl).mp t2
    have hx2' : x2 ≤ 8 * hi := by omega
    refine ⟨by omega, ?_⟩
    rcases Nat.lt_or_ge n 13 with z | z
    · rw [b1_lo (by omega)]
      omega
    · rw [b1_hi z]
      omega
end
end Fk

set_option Elab.async false
set_option linter.all false
set_option maxRecDepth 100000
set_option maxHeartbeats 4000000
set_option exponentiation.threshold 3000
namespace Fk
open PySem PySem.Spec PyProof.Rows L2 Evl
/-! ### a list well drawn is so one deeper -/
theorem SumB.iff {F G : Fld → Nat → Prop} {fs : List Fld} {W : Nat} (k : ∀ f ∈ fs, ∀ w, F f w ↔ G f w) : SumB F fs W ↔ SumB G fs W := ⟨fun h => h.imp fun f hf w => (k f hf w).mp, fun h => h.imp fun f hf w => (k f hf w).mpr⟩
theorem LenB.iff {L G L' G' : List Fld → Nat → Prop} {W : List Fld → Prop} {M : List Fld → Nat → Prop} (hL : ∀ fs, W fs → ∀ w, L fs w ↔ L' fs w) (hG : ∀ fs, W fs → ∀ w, G fs w ↔ G' fs w) {f : Fld} (hf : FWB W M f) (w : Nat) : LenB L G f w ↔ LenB L' G' f w := by
  unfold FWB at hf
  unfold LenB
  cases hk : f.k with
  | num => exact Iff.rfl
  | sev => exact Iff.rfl
  | txt => exact Iff.rfl
  | chk => exact Iff.rfl
  | spt => exact Iff.rfl
  | grp => rw [hk] at hf; exact hL _ hf w
  | row hw mk =>
    rw [hk] at hf
    exact ⟨fun ⟨Ws, a, b, c⟩ => ⟨Ws, a, fun W hW => (hL _ hf.2 W).mp (b W hW), c⟩, fun ⟨Ws, a, b, c⟩ => ⟨Ws, a, fun W hW => (hL _ hf.2 W).mpr (b W hW), c⟩⟩
  | cho c lo hi =>
    rw [hk] at hf
    exact ⟨fun ⟨s, hs, a, b, c⟩ => ⟨s, hs, a, b, (hL _ (hf.2.2.2 s hs).2.2 w).mp c⟩, fun ⟨s, hs, a, b, c⟩ => ⟨s, hs, a, b, (hL _ (hf.2.2.2 s hs).2.2 w).mpr c⟩⟩
  | may c lo hi =>
    rw [hk] at hf
    exact or_congr Iff.rfl (and_congr Iff.rfl (and_congr Iff.rfl (hL _ hf.2.2.2 w)))
  | siz c lo hi gr =>
    rw [hk] at hf
    refine and_congr Iff.rfl (and_congr Iff.rfl (and_congr Iff.rfl (and_congr Iff.rfl ?_)))
    cases gr with
    | true => exact hG _ hf.2.1 w
    | false => exact hL _ hf.2.1 w
theorem FWB.imp {W W' : List Fld → Prop} {M M' : List Fld → Nat → Prop} (hW : ∀ fs, W fs → W' fs) (hM : ∀ fs, W fs → ∀ w, M' fs w → M fs w) {f : Fld} (hf : FWB W M f) : FWB W' M' f := by
  unfold FWB at *
  cases hk : f.k with
  | num => rw [hk] at hf; exact hf
  | sev => rw [hk] at hf; exact hf
  | txt => rw [hk] at hf; exact hf
  | chk => rw [hk] at hf; exact hf
  | spt => rw [hk] at hf; exact hf
  | grp => rw [hk] at hf; exact hW _ hf
  | row hw mk => rw [hk] at hf; exact ⟨hf.1, hW _ hf.2⟩
  | cho c lo hi => rw [hk] at hf; exact ⟨hf.1, hf.2.1, hf.2.2.1, fun s hs => ⟨(hf.2.2.2 s hs).1, (hf.2.2.2 s hs).2.1, hW _ (hf.2.2.2 s hs).2.2⟩⟩
  | may c lo hi => rw [hk] at hf; exact ⟨hf.1, hf.2.1, hf.2.2.1, hW _ hf.2.2.2⟩
  | siz c lo hi gr => rw [hk] at hf; exact ⟨hf.1, hW _ hf.2.1, fun w hw => hf.2.2.1 w (hM _ hf.2.1 w hw), hf.2.2.2⟩
theorem GrowB.iff {F G : Fld → Nat → Prop} {fs : List Fld} {W : Nat} (k : ∀ f ∈ fs, ∀ w, F f w ↔ G f w) : GrowB F fs W ↔ GrowB G fs W := by
  constructor
  · rintro ⟨j, a, r, h1, h2⟩
    exact ⟨j, a, r, h1.imp fun f hf w => (k f (List.mem_of_mem_take hf) w).mp, h2⟩
  · rintro ⟨j, a, r, h1, h2⟩
    exact ⟨j, a, r, h1.imp fun f hf w => (k f (List.mem_of_mem_take hf) w).mpr, h2⟩
theorem deeper : ∀ n, (∀ fs, WD n fs → ∀ w, LL n fs w ↔ LL (n + 1) fs w) ∧ (∀ fs, WD n fs → ∀ w, LG n fs w ↔ LG (n + 1) fs w) ∧ ∀ fs, WD n fs → WD (n + 1) fs
  | 0 => ⟨fun _ h => h.elim, fun _ h => h.elim, fun _ h => h.elim⟩
  | n + 1 => by
    obtain ⟨h1, h2, h3⟩ := deeper n
    have kf : ∀ fs, WD (n + 1) fs → ∀ f ∈ fs, ∀ w, LF n f w ↔ LF (n + 1) f w := fun fs hW f hf w => LenB.iff h1 h2 (hW.fw f hf) w
    have k1 : ∀ fs, WD (n + 1) fs → ∀ w, LL (n + 1) fs w ↔ LL (n + 2) fs w := fun fs hW w => SumB.iff (kf fs hW)
    refine ⟨k1, fun fs hW w => GrowB.iff (kf fs hW), fun fs hW => ?_⟩
    refine ⟨hW.nd, hW.nr, hW.nl, hW.sz, hW.st, hW.ct, hW.us, fun f hf => FWB.imp h3 (fun fs' hW' w hw => (h1 fs' hW' w).mpr hw) (hW.fw f hf), fun w hw => hW.m8 w ((k1 fs hW w).mpr hw), ?_⟩
    obtain ⟨w, hw⟩ := hW.inh
    exact ⟨w, (k1 fs hW w).mp hw⟩
/-! ### how many bits a list can have at most, as the law reckons -/
def How.top : How → Int | .fix n => n | .by_ _ _ hi => hi | .end_ n => n
def maxZ (l : List Int) : Int := l.foldl (fun a b => if a < b then b else a) 0
def greatB (MM : List Fld → Int) (f : Fld) : Int := match f.k with
  | .num w _ _ _ _ _ _ => w
  | .chk _ w _ => w
  | .spt w _ => w
  | .sev _ _ _ => 40
  | .txt h _ => 8 + 8 * h.top
  | .row h _ => 8 + h.top * MM f.fs
  | .cho _ _ _ => maxZ (f.subs.map fun s => MM s.2.2.2)
  | .siz _ _ hi _ => 8 * hi
  | _ => MM f.fs
def MM : Nat → List Fld → Int
  | 0 => fun _ => 0
  | n + 1 => fun fs => (fs.map (greatB (MM n))).sum
theorem maxZ_ge : ∀ (l : List Int) (a : Int), a ≤ l.foldl (fun a b => if a < b then b else a) a ∧ ∀ x ∈ l, x ≤ l.foldl (fun a b => if a < b then b else a) a
  | [], a => ⟨Int.le_refl _, fun _ h => nomatch h⟩
  | b :: r, a => by
    obtain ⟨h1, h2⟩ := maxZ_ge r (if a < b then b else a)
    rw [List.foldl_cons]
    refine ⟨?_, fun x hx => ?_⟩
    · split at h1 <;> rename_i h <;> simp only [h, if_true, if_false] <;> omega
    · rcases List.mem_cons.mp hx with rfl | hx
      · split at h1 <;> rename_i h <;> simp only [h, if_true, if_false] <;> omega
      · exact h2 x hx
theorem maxZ_in : ∀ (l : List Int) (a : Int), l.foldl (fun a b => if a < b then b else a) a = a ∨ l.foldl (fun a b => if a < b then b else a) a ∈ l
  | [], a => .inl rfl
  | b :: r, a => by
    rw [List.foldl_cons]
    rcases maxZ_in r (if a < b then b else a) with h | h
    · rw [h]
      split
      · exact .inr (List.mem_cons_self ..)
      · exact .inl rfl
    · exact .inr (List.mem_cons_of_mem _ h)
theorem maxZ_is {l : List Int} {m : Int} (h0 : ∀ x ∈ l, 0 ≤ x) (hm : m ∈ l) (h : ∀ y ∈ l, y ≤ m) : m = maxZ l := by
  have h1 := (maxZ_ge l 0).2 m hm
  rcases maxZ_in l 0 with e | e
  · have := h0 m hm
    unfold maxZ
    omega
  · have := h _ e
    unfold maxZ
    omega
theorem sumL_le {B : Int} : ∀ {l : List Nat}, (∀ x ∈ l, (x : Int) ≤ B) → ((l.sum : Nat) : Int) ≤ (l.length : Int) * B
  | [], _ => by simp
  | a :: r, h => by
    have h1 := sumL_le fun x hx => h x (List.mem_cons_of_mem _ hx)
    have h2 := h a (List.mem_cons_self ..)
    have e : ((a :: r).length : Int) * B = (r.length : Int) * B + B := by rw [List.length_cons]; push_cast; rw [Int.add_mul, Int.one_mul]
    rw [List.sum_cons, e]
    push_cast
    omega
theorem How.top_ge {h : How} {lim m : Nat} (hm : h.ok lim m) : (m : Int) ≤ h.top := by
  cases h with
  | fix n => have : m = n := hm; show (m : Int) ≤ (n : Int); omega
  | by_ c lo hi => exact hm.2.2
  | end_ n => have : m ≤ n := hm; show (m : Int) ≤ (n : Int); omega
/-- every length is at most that -/
theorem MM_ge : ∀ n fs, WD n fs → 0 ≤ MM n fs ∧ ∀ w, LL n fs w → (w : Int) ≤ MM n fs
  | 0, _, h => h.elim
  | n + 1, fs, hW => by
    have kf : ∀ f ∈ fs, ∀ w, LF n f w → (w : Int) ≤ greatB (MM n) f := by
      intro f hf w hw
      have hF : FWB (WD n) (LL n) f := hW.fw f hf
      have hw : LenB (LL n) (LG n) f w := hw
      unfold LenB at hw
      unfold FWB at hF
      unfold greatB
      cases hk : f.k with
      | num => rw [hk] at hw; have hw : w = _ := hw; exact Int.ofNat_le.mpr (Nat.le_of_eq hw)
      | chk => rw [hk] at hw; have hw : w = _ := hw; exact Int.ofNat_le.mpr (Nat.le_of_eq hw)
      | spt => rw [hk] at hw; have hw : w = _ := hw; exact Int.ofNat_le.mpr (Nat.le_of_eq hw)
      | sev hi lo df =>
        rw [hk] at hw
        obtain ⟨i, _, e⟩ := hw
        have := sevB_le i
        show (w : Int) ≤ 40
        omega
      | txt h df =>
        rw [hk] at hw
        obtain ⟨m, h1, e⟩ := hw
        have := How.top_ge h1
        have he : h.e ≤ 8 := by unfold How.e; split <;> omega
        show (w : Int) ≤ 8 + 8 * h.top
        omega
      | row h mk =>
        rw [hk] at hw hF
        obtain ⟨Ws, h1, h2, e⟩ := hw
        obtain ⟨g1, g2⟩ := MM_ge n f.fs hF.2
        have h3 := sumL_le fun W hW => g2 W (h2 W hW)
        have h4 : (Ws.length : Int) * MM n f.fs ≤ h.top * MM n f.fs := Int.mul_le_mul_of_nonneg_right (How.top_ge h1) g1
        have he : h.e ≤ 8 := by unfold How.e; split <;> omega
        show (w : Int) ≤ 8 + h.top * MM n f.fs
        omega
      | cho c lo hi =>
        rw [hk] at hw hF
        obtain ⟨s, hs, _, _, h3⟩ := hw
        have h4 := (MM_ge n _ (hF.2.2.2 s hs).2.2).2 w h3
        have h5 := (maxZ_ge (f.subs.map fun s => MM n s.2.2.2) 0).2 _ (List.mem_map.mpr ⟨s, hs, rfl⟩)
        show (w : Int) ≤ maxZ _
        unfold maxZ
        omega
      | may c lo hi =>
        rw [hk] at hw hF
        have g := MM_ge n f.fs hF.2.2.2
        show (w : Int) ≤ MM n f.fs
        rcases hw with ⟨_, _, rfl⟩ | ⟨_, _, h⟩
        · exact g.1
        · exact g.2 w h
      | grp =>
        rw [hk] at hw hF
        exact (MM_ge n f.fs hF).2 w hw
      | siz c lo hi gr =>
        rw [hk] at hw
        obtain ⟨h1, h2, h3, h4, _⟩ := hw
        show (w : Int) ≤ 8 * hi
        omega
    have ks : ∀ (gs : List Fld), (∀ f ∈ gs, f ∈ fs) → ∀ w, SumB (LF n) gs w → (w : Int) ≤ (gs.map (greatB (MM n))).sum := by
      intro gs
      induction gs with
      | nil => intro _ w h; have h : w = 0 := h; rw [h]; exact Int.le_refl _
      | cons f r ih =>
        rintro hg w ⟨a, b, h1, h2, e⟩
        have := ih (fun g hgr => hg g (List.mem_cons_of_mem _ hgr)) b h2
        have := kf f (hg f (List.mem_cons_self ..)) a h1
        rw [List.map_cons, List.sum_cons]
        omega
    have key : ∀ w, LL (n + 1) fs w → (w : Int) ≤ MM (n + 1) fs := fun w hw => ks fs (fun _ h => h) w hw
    obtain ⟨w0, hw0⟩ := hW.inh
    have := key w0 hw0
    exact ⟨by omega, key⟩
section
variable {P : Program} {w : World} {K : PySem.W.Frag} {mg : Str → Option Value} {base : Heap} {σ : L2.St} {G H H' : Hp} {te ta tb tc tl td ty tx tv : TE} {tt : TT} {tu tw tz : TS} {D : Ends} {q : Addr} {c : Cst} {n i d : Nat} {Q : VK} {v : V} {t tr : TA} {QA : List V → Hp → Prop} {r : R2} {sp : Sp} {f : Fld}
theorem lists (T : Tx K mg) : ∀ d, d ≤ 2 → Pr P w K mg base (40 * d + 10) "_law_list" (Sp3 (aList K c d))
  | 0, hd => ok_law_list T hd (ok_law_unit0 T)
  | d + 1, hd => ok_law_list T hd (ok_law_unitS T (by omega) (lists T d (by omega)) (ok_law_choice T (by omega) (lists T d (by omega))) (ok_law_grow T (by omega)))
end
end Fk

set_option Elab.async false
set_option linter.all false
set_option maxRecDepth 100000
set_option maxHeartbeats 4000000
set_option exponentiation.threshold 3000
namespace Fk
open PySem PySem.Spec PyProof.Rows L2 Evl
theorem filt_one {α β : Type} [DecidableEq β] {key : α → β} {s : α} : ∀ {L : List α}, (L.map key).Nodup → s ∈ L → L.filter (fun x => decide (key x = key s)) = [s]
  | [], _, h => nomatch h
  | x :: r, hnd, hin => by
    rw [List.map_cons, List.nodup_cons] at hnd
    rw [List.filter_cons]
    by_cases hx : key x = key s
    · have hx1 : s = x := by
        rcases List.mem_cons.mp hin with h | h
        · exact h
        · exact absurd (List.mem_map.mpr ⟨s, h, hx.symm⟩) hnd.1
      rw [if_pos (decide_eq_true hx), ← hx1]
      congr 1
      rw [List.filter_eq_nil_iff]
      intro y hy hye
      exact hnd.1 (List.mem_map.mpr ⟨y, hy, (of_decide_eq_true hye).trans hx.symm⟩)
    · rw [if_neg (by rw [decide_eq_false hx]; decide)]
      rcases List.mem_cons.mp hin with h | h
      · exact absurd (congrArg key h).symm hx
      · exact filt_one hnd.2 h
theorem sc_str (k : Kd) (c : Str) : scal (.str c) (stV k) = true := by
  unfold stV
  cases k.st <;> rfl
/-- the control of a field, found by name -/
theorem ctl_filt {n : Nat} {fs : List Fld} {f : Fld} {cn : Str} {lo hi : Int} (hW : WD (n + 1) fs) (hf : f ∈ fs) (hb : f.k.bds = some (cn, lo, hi)) : ∃ g ∈ fs, IsNum g ∧ lo = g.k.least ∧ hi = g.k.greatest ∧ fs.filter (fun o => decide (V.str o.nm = stV f.k)) = [g] := by
  obtain ⟨g, hg, e1, e2, e3, e4⟩ := hW.st f hf cn lo hi hb
  refine ⟨g, hg, FW.num (hW.fw g hg) e2, e3, e4, ?_⟩
  have hs : stV f.k = .str g.nm := by unfold stV Kd.st; rw [hb, e1]; rfl
  rw [hs, ← filt_one hW.nd hg]
  congr 1
  funext o
  rw [decide_eq_decide, V.str.injEq]
theorem high_of {n : Nat} {fs : List Fld} {f : Fld} (hW : WD (n + 1) fs) (hf : f ∈ fs) : (fs.filter (fun o => decide (V.str o.nm = stV f.k))).map (fun o => V.int o.k.greatest) = (match f.k.bds with | some b => [V.int b.2.2] | none => []) := by
  cases hb : f.k.bds with
  | none =>
    have hs : stV f.k = .non := by unfold stV Kd.st; rw [hb]; rfl
    rw [hs, List.filter_eq_nil_iff.mpr fun o _ h => nomatch of_decide_eq_true h]
    rfl
  | some b =>
    obtain ⟨cn, lo, hi⟩ := b
    obtain ⟨g, _, _, _, e, h⟩ := ctl_filt hW hf hb
    rw [h, e]
    rfl
section
variable {P : Program} {w : World} {K : PySem.W.Frag} {mg : Str → Option Value} {base : Heap} {σ : L2.St} {G H H' : Hp} {te ta tb tc tl td ty tx tv : TE} {tt : TT} {tu tw tz : TS} {D : Ends} {q : Addr} {c : Cst} {n i d : Nat} {Q : VK} {v : V} {t tr : TA} {QA : List V → Hp → Prop} {r : R2} {sp : Sp} {f : Fld}
theorem retI {x y : Int} (e : x = y) (q : RetV (.int x) H Q) : RetV (.int y) H Q := e ▸ q
abbrev aMost (K : PySem.W.Frag) (n : Nat) : A1 := fun a H Q => ∃ l fs, a = .ref l ∧ LAt K H n l fs ∧ WD n fs ∧ RetV (.int (MM n fs)) H Q
abbrev aGreat (K : PySem.W.Frag) (n : Nat) : A2 := fun a b H Q => ∃ l fs f, a = .ref l ∧ b = f.v ∧ LAt K H (n + 1) l fs ∧ WD (n + 1) fs ∧ f ∈ fs ∧ RetV (.int (greatB (MM n) f)) H Q
theorem ev_most {l : Addr} {fs : List Fld} (h : Ev ta σ H (.ref l)) (hL : LAt K H n l fs) (hW : WD n fs) : Ev (tFn (Sp1 (aMost K n)) (tCons ta tNil)) σ H (.int (MM n fs)) := ev_fn (ea_cons h ea_nil) fun H1 e Q q E => ⟨_, rfl, l, fs, rfl, hL.mono e, hW, q⟩
theorem ev_max {ns : List Int} (h : EvL tl σ H (ns.map V.int)) (hp : 0 < ns.length) (h0 : ∀ x ∈ ns, 0 ≤ x) : Ev (tCB (rMax K) (tCons tl tNil)) σ H (.int (maxZ ns)) := fun H1 e Q q =>
  h H1 e _ fun p H2 _ e2 h2 => ⟨p, ns, rfl, sq_of h2, hp, fun m hm hle => by rw [maxZ_is h0 hm hle]; exact q H2 e2⟩
theorem ev_sumZ {ns : List Int} (h : EvL tl σ H (ns.map V.int)) : Ev (tCB (rSum K) (tCons tl tNil)) σ H (.int ns.sum) := fun H1 e Q q =>
  h H1 e _ fun p H2 _ e2 h2 => ⟨p, ns, rfl, sq_of h2, q H2 e2⟩
theorem ok_law_greatest (T : Tx K mg) (G__law_most : Pr P w K mg base (10 * n + 3) "_law_most" (Sp1 (aMost K n))) : Pr P w K mg base (10 * n + 5) "_law_greatest" (Sp2 (aGreat K n)) := by
  have G_kind := pr_kind (P := P) (w := w) (base := base) T
  have G_steers := pr_steers (P := P) (w := w) (base := base) T
  have G_greatest := pr_greatest (P := P) (w := w) (base := base) T
  refine pr2 (k := 10 * n + 4) T.d__law_greatest T.g__law_greatest sc__law_greatest (fun _ _ _ _ _ _ us hl => match us, hl with | [_, _], _ => rfl) fun a b H Q h cdv A outer s E hr hu => ?_
  obtain ⟨l, fs, f, rfl, rfl, hL, hW, hf, q⟩ := h
  have ob := hL.ob f hf
  have hA := hL.2 f hf
  have hF : FWB (WD n) (LL n) f := hW.fw f hf
  unfold FWB at hF
  refine ⟨_, (pss_cons (ps_set (i := 2) sc__law_greatest.nd rfl (.inl rfl) (pe_mU G_kind (hr.mono (by omega)) (pv 1)))
      (pss_cons (ps_setLc (i := 3) (own := [("_law_other", 4)]) rfl sc__law_greatest.nd rfl rfl (sw_true rfl rfl rfl (by decide +kernel)) (piLK (K := K) rfl (pv 0)) (blkOk_by (N := ["_law_fields", "_law_field", "_law_kind", "_law_high", "_law_other", "_law_case"]) (sc := defScope s__law_greatest) (by decide +kernel)) (fun _ _ _ _ _ => (pg_name (i := 4) sc__law_greatest.nd rfl (Or.inl rfl))) (fun _ _ _ _ _ => (pts_one (pt_cmpR op_eq (fldK (K := K) rfl (pv 4) rfl) (pe_mU G_steers (hr.mono (by omega)) (pv 1)) (by rfl)))) (fun _ _ _ _ _ => (pe_mU G_greatest (hr.mono (by omega)) (pv 4))))
      (pss_cons (ps_if (pt_cmpR (op_inK (K := K) rfl) (pv 2) (pe_tup (pa_cons pe_str (pa_cons pe_str (pa_cons pe_str pa_nil)))) (by rfl)) (pss_one (ps_ret (fldK (K := K) rfl (pv 1) rfl))) pss_nil)
      (pss_cons (ps_if (pt_cmpR op_eq (pv 2) pe_str (by rfl)) (pss_one (ps_ret pe_int)) pss_nil)
      (pss_cons (ps_if (pt_cmpR op_eq (pv 2) pe_str (by rfl)) (pss_one (ps_ret (pe_op op_add pe_int (pe_op op_mul pe_int (pe_ix (ixLK (K := K) rfl) (pe_op op_cat (pv 3) (pe_lst (pa_cons (fldK (K := K) rfl (pv 1) rfl) pa_nil))) pe_int (fun _ _ => rfl)))))) pss_nil)
      (pss_cons (ps_if (pt_cmpR op_eq (pv 2) pe_str (by rfl)) (pss_one (ps_ret (pe_op op_add pe_int (pe_op op_mul (pe_ix (ixLK (K := K) rfl) (pe_op op_cat (pv 3) (pe_lst (pa_cons (fldK (K := K) rfl (pv 1) rfl) pa_nil))) pe_int (fun _ _ => rfl)) (pe_fn G__law_most (hr.mono (by omega)) (by rfl) (pa_cons (fldK (K := K) rfl (pv 1) rfl) pa_nil)))))) pss_nil)
      (pss_cons (ps_if (pt_cmpR op_eq (pv 2) pe_str (by rfl)) (pss_one (ps_ret (pe_callB (maxK (K := K) rfl rfl) (by rfl) T.b_max (by decide +kernel) (pa_cons (pe_lc (own := [("_law_case", 5)]) rfl sc__law_greatest.nd (piLK (K := K) rfl (fldK (K := K) rfl (pv 1) rfl)) (blkOk_by (N := ["_law_fields", "_law_field", "_law_kind", "_law_high", "_law_other", "_law_case"]) (sc := defScope s__law_greatest) (by decide +kernel)) (fun _ _ _ _ _ => (pg_name (i := 5) sc__law_greatest.nd rfl (Or.inl rfl))) (fun _ _ _ _ _ => pts_nil) (fun _ _ _ _ _ => (pe_fn G__law_most (hr.mono (by omega)) (by rfl) (pa_cons (pe_ix (ixTK (K := K) rfl) (pv 5) pe_int (fun _ _ => rfl)) pa_nil)))) pa_nil)))) pss_nil)
      (pss_cons (ps_if (pt_cmpR op_eq (pv 2) pe_str (by rfl)) (pss_one (ps_ret (pe_op op_mul pe_int (pe_ix (ixLK (K := K) rfl) (pv 3) pe_int (fun _ _ => rfl))))) pss_nil)
      (pss_one (ps_ret (pe_fn G__law_most (hr.mono (by omega)) (by rfl) (pa_cons (fldK (K := K) rfl (pv 1) rfl) pa_nil)))))))))))), ?_⟩
  refine (sv_asg (ev_kind (ev_var rfl) ob) ?_).here
  refine sv_asgL (el_is (el_comp (val := Fld.v) (g := fun o => V.int o.k.greatest) (p := fun o => decide (V.str o.nm = stV f.k)) (ev_var rfl) hL.seq (by have := hW.sz; omega) (fun o ho => et_test (ev_op (ev_name T (ev_var rfl) (hL.ob o ho)) (ev_steers (ev_var rfl) ob) (rv_eq (sc_str _ _)))) (fun o ho hp => ev_greatest (ev_var rfl) (hL.ob o ho) ?_)) (high_of hW hf)) fun ph hph => ?_
  · cases hb : f.k.bds with
    | none =>
      have hs : stV f.k = .non := by unfold stV Kd.st; rw [hb]; rfl
      rw [hs] at hp
      exact nomatch of_decide_eq_true hp
    | some b =>
      obtain ⟨cn, lo, hi⟩ := b
      obtain ⟨g, _, hg, _, _, h⟩ := ctl_filt hW hf hb
      have : o ∈ fs.filter (fun o => decide (V.str o.nm = stV f.k)) := List.mem_filter.mpr ⟨ho, hp⟩
      rw [h] at this
      rw [List.mem_singleton.mp this]
      exact hg
  have e0 := Ex.new hph (o := .lst (match f.k.bds with | some b => [V.int b.2.2] | none => []))
  obtain ⟨H1, hH1⟩ : ∃ H1, H1 = upd H ph (.lst (match f.k.bds with | some b => [V.int b.2.2] | none => [])) := ⟨_, rfl⟩
  have hp1 : H1 ph = some (.lst (match f.k.bds with | some b => [V.int b.2.2] | none => [])) := by rw [hH1]; exact upd_same
  rw [← hH1] at e0 ⊢
  have ob1 := ob.mono e0
  have hA1 := hA.mono e0
  have q : RetV (.int (greatB (MM n) f)) H1 Q := fun H2 e => q H2 (e0.trans e)
  obtain ⟨kd, hkd⟩ : ∃ s : Str, s = f.k.word := ⟨_, rfl⟩
  rw [← hkd]
  show SV _ _ [some (.ref l), some f.v, some (.str kd), some (.ref ph), none, none] H1
  have sk : ∀ {s : Str} {b0 : Bool}, f.k.word = s → inV (.str s) [.str "number", .str "check", .str "spot"] = b0 → EvT (tTest (tOp (rIn K false) (tVar 2) (tTup (tCons (tC (.str "number")) (tCons (tC (.str "check")) (tCons (tC (.str "spot")) tNil)))))) [some (.ref l), some f.v, some (.str kd), some (.ref ph), none, none] H1 b0 :=
    fun hs hb => et_in (ev_var rfl) (ea_cons ev_c (ea_cons ev_c (ea_cons ev_c ea_nil))) (by decide) rfl rfl (by rw [hkd, hs]; exact hb)
  have kw : ∀ s, f.k.word = s → Ev (tVar 2) [some (.ref l), some f.v, some (.str kd), some (.ref ph), none, none] H1 (.str s) := fun s hs => ev_var (by rw [hkd, hs]; rfl)
  cases hk : f.k with
  | num w0 sg lt lo hi df c =>
    have e1 : greatB (MM n) f = (f.k.width : Int) := by unfold greatB; rw [hk]; rfl
    exact sv_takeT (sk (s := "number") (by rw [hk]; rfl) rfl) (sv_ret (ev_width T (ev_var rfl) ob1 (.inr (by rw [hk]; rfl)) (.inr (.inr (by rw [hk]; rfl)))) (retI e1 q))
  | chk how w0 fi =>
    have e1 : greatB (MM n) f = (f.k.width : Int) := by unfold greatB; rw [hk]; rfl
    exact sv_takeT (sk (s := "check") (by rw [hk]; rfl) rfl) (sv_ret (ev_width T (ev_var rfl) ob1 (.inl (by rw [hk]; rfl)) (.inr (.inl (by rw [hk]; rfl)))) (retI e1 q))
  | spt w0 tg =>
    have e1 : greatB (MM n) f = (f.k.width : Int) := by unfold greatB; rw [hk]; rfl
    exact sv_takeT (sk (s := "spot") (by rw [hk]; rfl) rfl) (sv_ret (ev_width T (ev_var rfl) ob1 (.inl (by rw [hk]; rfl)) (.inr (.inl (by rw [hk]; rfl)))) (retI e1 q))
  | sev hi lo df =>
    have e1 : greatB (MM n) f = 40 := by unfold greatB; rw [hk]
    exact sv_skipT (sk (s := "seven") (by rw [hk]; rfl) rfl) (sv_take (kw "seven" (by rw [hk]; rfl)) rfl (sv_ret ev_c (retI e1 q)))
  | txt hw df =>
    have e1 : greatB (MM n) f = 8 + 8 * hw.top := by unfold greatB; rw [hk]
    have hbd : f.k.bds = hw.bds := by rw [hk]; rfl
    rw [hbd] at hp1
    refine sv_skipT (sk (s := "text") (by rw [hk]; rfl) rfl) (sv_skip (kw "text" (by rw [hk]; rfl)) (by decide +kernel) (sv_take (kw "text" (by rw [hk]; rfl)) rfl ?_))
    refine sv_ret (ev_op ev_c (ev_op ev_c (ev_opL1 (y := .int 0) (z := .int hw.top) (el_catVL (ev_var rfl) hp1 (el_lst (ea_cons (ev_count T (ev_var rfl) ob1 (.inl ⟨df, hk⟩)) ea_nil) (by simp)) (by cases hw <;> simp [How.bds])) (fun _ _ => ev_c) fun p H2 hp _ => rv_ixL (sq_of hp) ?_) (rv_I (show CMul _ _ from .inl (by decide)))) rv_I0) (retI e1 q)
    cases hw <;> exact atI_nat (j := 0) rfl
  | row hw mk =>
    have e1 : greatB (MM n) f = 8 + hw.top * MM n f.fs := by unfold greatB; rw [hk]
    have hone : f.k.one = true := by rw [hk]; rfl
    have hbd : f.k.bds = hw.bds := by rw [hk]; rfl
    rw [hbd] at hp1
    rw [hk] at hF
    have ht : -(2 ^ 64) < hw.top ∧ hw.top < 2 ^ 64 := by
      cases hw with
      | fix m => have h1 : m ≤ 4 := hF.1; show -(2 ^ 64) < (m : Int) ∧ (m : Int) < 2 ^ 64; omega
      | by_ cc lo hi => have h1 := hF.1; show -(2 ^ 64) < hi ∧ hi < 2 ^ 64; omega
      | end_ m => have h1 : m ≤ 4 := hF.1.1; show -(2 ^ 64) < (m : Int) ∧ (m : Int) < 2 ^ 64; omega
    refine sv_skipT (sk (s := "row") (by rw [hk]; rfl) rfl) (sv_skip (kw "row" (by rw [hk]; rfl)) (by decide +kernel) (sv_skip (kw "row" (by rw [hk]; rfl)) (by decide +kernel) (sv_take (kw "row" (by rw [hk]; rfl)) rfl ?_)))
    refine sv_ret (ev_op ev_c (ev_op (ev_opL1 (y := .int 0) (z := .int hw.top) (el_catVL (ev_var rfl) hp1 (el_lst (ea_cons (ev_count T (ev_var rfl) ob1 (.inr ⟨mk, hk⟩)) ea_nil) (by simp)) (by cases hw <;> simp [How.bds])) (fun _ _ => ev_c) fun p H2 hp _ => rv_ixL (sq_of hp) ?_) (ev_most (ev_fields T (ev_var rfl) ob1 hone) (hA1.one hone) hF.2) (rv_I (show CMul _ _ from .inl ht))) rv_I0) (retI e1 q)
    cases hw <;> exact atI_nat (j := 0) rfl
  | cho cn lo hi =>
    have e1 : greatB (MM n) f = maxZ (f.subs.map fun s => MM n s.2.2.2) := by unfold greatB; rw [hk]
    have hc := hA1.cases hk
    rw [hk] at hF
    refine sv_skipT (sk (s := "choice") (by rw [hk]; rfl) rfl) (sv_skip (kw "choice" (by rw [hk]; rfl)) (by decide +kernel) (sv_skip (kw "choice" (by rw [hk]; rfl)) (by decide +kernel) (sv_skip (kw "choice" (by rw [hk]; rfl)) (by decide +kernel) (sv_take (kw "choice" (by rw [hk]; rfl)) rfl ?_))))
    refine sv_ret (ev_max (ns := f.subs.map fun s => MM n s.2.2.2) (el_is (el_comp (xs := f.subs) (val := fun s => V.ref s.1) (g := fun s => V.int (MM n s.2.2.2)) (p := fun _ => true) (ev_cases T (ev_var rfl) ob1 hk) hc.1 (by have := hF.2.1; omega) (fun _ _ => et_yes) fun s hs _ => ev_most (ev_op (ev_var rfl) ev_c (rv_ixT (hc.2 s hs) (atI_nat (j := 1) rfl))) (hA1.sub s hs) (hF.2.2.2 s hs).2.2) ((map_all _ _).trans (by rw [List.map_map]; rfl))) ?_ fun x hx => ?_) (retI e1 q)
    · obtain ⟨s, hs, _⟩ := hF.2.2.1
      rw [List.length_map]
      exact List.length_pos_of_mem hs
    · obtain ⟨s, hs, rfl⟩ := List.mem_map.mp hx
      exact (MM_ge n _ (hF.2.2.2 s hs).2.2).1
  | siz cn lo hi gr =>
    have e1 : greatB (MM n) f = 8 * hi := by unfold greatB; rw [hk]
    have hbd : f.k.bds = some (cn, lo, hi) := by rw [hk]; rfl
    rw [hbd] at hp1
    refine sv_skipT (sk (s := "sized") (by rw [hk]; rfl) rfl) (sv_skip (kw "sized" (by rw [hk]; rfl)) (by decide +kernel) (sv_skip (kw "sized" (by rw [hk]; rfl)) (by decide +kernel) (sv_skip (kw "sized" (by rw [hk]; rfl)) (by decide +kernel) (sv_skip (kw "sized" (by rw [hk]; rfl)) (by decide +kernel) (sv_take (kw "sized" (by rw [hk]; rfl)) rfl ?_)))))
    exact sv_ret (ev_op ev_c (ev_op (ev_var rfl) ev_c (rv_ixL (sq_of hp1) (atI_nat (j := 0) rfl))) (rv_I (show CMul _ _ from .inl (by decide)))) (retI e1 q)
  | may cn lo hi =>
    have e1 : greatB (MM n) f = MM n f.fs := by unfold greatB; rw [hk]
    have hone : f.k.one = true := by rw [hk]; rfl
    rw [hk] at hF
    refine sv_skipT (sk (s := "maybe") (by rw [hk]; rfl) rfl) (sv_skip (kw "maybe" (by rw [hk]; rfl)) (by decide +kernel) (sv_skip (kw "maybe" (by rw [hk]; rfl)) (by decide +kernel) (sv_skip (kw "maybe" (by rw [hk]; rfl)) (by decide +kernel) (sv_skip (kw "maybe" (by rw [hk]; rfl)) (by decide +kernel) (sv_skip (kw "maybe" (by rw [hk]; rfl)) (by decide +kernel) ?_)))))
    exact sv_ret (ev_most (ev_fields T (ev_var rfl) ob1 hone) (hA1.one hone) hF.2.2.2) (retI e1 q)
  | grp =>
    have e1 : greatB (MM n) f = MM n f.fs := by unfold greatB; rw [hk]
    have hone : f.k.one = true := by rw [hk]; rfl
    rw [hk] at hF
    refine sv_skipT (sk (s := "group") (by rw [hk]; rfl) rfl) (sv_skip (kw "group" (by rw [hk]; rfl)) (by decide +kernel) (sv_skip (kw "group" (by rw [hk]; rfl)) (by decide +kernel) (sv_skip (kw "group" (by rw [hk]; rfl)) (by decide +kernel) (sv_skip (kw "group" (by rw [hk]; rfl)) (by decide +kernel) (sv_skip (kw "group" (by rw [hk]; rfl)) (by decide +kernel) ?_)))))
    exact sv_ret (ev_most (ev_fields T (ev_var rfl) ob1 hone) (hA1.one hone) hF) (retI e1 q)
theorem ok_law_most (T : Tx K mg) (G__law_greatest : Pr P w K mg base (10 * n + 5) "_law_greatest" (Sp2 (aGreat K n))) : Pr P w K mg base (10 * (n + 1) + 3) "_law_most" (Sp1 (aMost K (n + 1))) := by
  refine pr1 (k := 10 * n + 12) T.d__law_most T.g__law_most sc__law_most (fun _ _ _ _ _ _ us hl => match us, hl with | [_], _ => rfl) fun a H Q h cdv A outer s E hr hu => ?_
  obtain ⟨l, fs, rfl, hL, hW, q⟩ := h
  refine ⟨_, (pss_one (ps_ret (pe_callB (sumK (K := K) rfl rfl) (by rfl) T.b_sum (by decide +kernel) (pa_cons (pe_lc (own := [("_law_field", 1)]) rfl sc__law_most.nd (piLK (K := K) rfl (pv 0)) (blkOk_by (N := ["_law_fields", "_law_field"]) (sc := defScope s__law_most) (by decide +kernel)) (fun _ _ _ _ _ => (pg_name (i := 1) sc__law_most.nd rfl (Or.inl rfl))) (fun _ _ _ _ _ => pts_nil) (fun _ _ _ _ _ => (pe_fn G__law_greatest (hr.mono (by omega)) (by rfl) (pa_cons (pv 0) (pa_cons (pv 1) pa_nil))))) pa_nil)))), ?_⟩
  refine (sv_ret (ev_sumZ (ns := fs.map (greatB (MM n))) (el_is (el_comp (val := Fld.v) (g := fun f => V.int (greatB (MM n) f)) (p := fun _ => true) (ev_var rfl) hL.seq (by have := hW.sz; omega) (fun _ _ => et_yes) fun f hf _ => ev_fn (ea_cons (ev_var rfl) (ea_cons (ev_var rfl) ea_nil)) fun H1 e Q q E => ⟨_, _, rfl, l, fs, f, rfl, rfl, hL.mono e, hW, hf, q⟩) ((map_all _ _).trans (by rw [List.map_map]; rfl)))) ?_).here
  exact q
theorem mosts (T : Tx K mg) : ∀ n, Pr P w K mg base (10 * n + 3) "_law_most" (Sp1 (aMost K n))
  | 0 => pr1 (k := 2) T.d__law_most T.g__law_most sc__law_most (fun _ _ _ _ _ _ us hl => match us, hl with | [_], _ => rfl) fun a H Q h => by
      obtain ⟨l, fs, rfl, hL, _⟩ := h
      exact hL.elim
  | n + 1 => ok_law_most T (ok_law_greatest T (mosts T n))
end
end Fk

set_option Elab.async false
set_option linter.all false
set_option maxRecDepth 100000
set_option maxHeartbeats 4000000
set_option exponentiation.threshold 3000
namespace Fk
open PySem PySem.Spec PyProof.Rows L2 Evl
section
variable {P : Program} {w : World} {K : PySem.W.Frag} {mg : Str → Option Value} {base : Heap} {σ : L2.St} {G H H' : Hp} {te ta tb tc tl td ty tx tv : TE} {tt : TT} {tu tw tz : TS} {D : Ends} {q : Addr} {c : Cst} {n i d : Nat} {Q : VK} {v : V} {t tr : TA} {QA : List V → Hp → Prop} {r : R2} {sp : Sp} {f : Fld}
abbrev aCell (K : PySem.W.Frag) : A2 := fun a b H Q => ∃ (p : Addr) (xs : List Int) (k : Nat), a = .ref p ∧ b = vN k ∧ SqL K H p (xs.map V.int) ∧ RetV (.int (xs.getD k 0)) H Q
theorem ok_law_cell_at (T : Tx K mg) : Pr P w K mg base 1 "_law_cell_at" (Sp2 (aCell K)) := by
  refine pr2 T.d__law_cell_at T.g__law_cell_at sc__law_cell_at (fun _ _ _ _ _ _ us hl => match us, hl with | [_, _], _ => rfl) fun a b H Q h cdv A outer s E hr hu => ?_
  obtain ⟨p, xs, k, rfl, rfl, hS, q⟩ := h
  refine ⟨_, (pss_cons (ps_if (pt_cmpR op_lt (pv 1) (pe_callB (lenK (K := K) rfl) (by rfl) T.b_len (by decide +kernel) (pa_cons (pv 0) pa_nil)) (by rfl)) (pss_one (ps_ret (pe_ix (ixLK (K := K) rfl) (pv 0) (pv 1) (fun _ _ => rfl)))) pss_nil)
      (pss_one (ps_ret pe_int))), ?_⟩
  refine (sv_when (et_test (ev_op (ev_var rfl) (ev_lenV (ev_var rfl) (lenV_lst hS)) rv_I0)) (fun e => ?_) fun e => ?_).here
  · have e := of_decide_eq_true e
    rw [List.length_map] at e
    have hk : k < xs.length := by omega
    refine sv_ret (ev_op (ev_var rfl) (ev_var rfl) (rv_ixL hS (atI_nat (v := V.int (xs.getD k 0)) ?_))) q
    rw [List.getElem?_map, List.getElem?_eq_getElem hk, List.getD_eq_getElem?_getD, List.getElem?_eq_getElem hk]
    rfl
  · have e := of_decide_eq_false e
    rw [List.length_map] at e
    have hk : xs.length ≤ k := by omega
    refine sv_ret ev_c fun H2 e2 => ?_
    have := q H2 e2
    rwa [List.getD_eq_getElem?_getD, List.getElem?_eq_none hk] at this
theorem ev_cell {p : Addr} {xs : List Int} {k : Nat} (ha : Ev ta σ H (.ref p)) (hb : Ev tb σ H (vN k)) (hS : SqL K H p (xs.map V.int)) : Ev (tFn (Sp2 (aCell K)) (tCons ta (tCons tb tNil))) σ H (.int (xs.getD k 0)) :=
  ev_fn (ea_cons ha (ea_cons hb ea_nil)) fun H1 e Q q E => ⟨_, _, rfl, p, xs, k, rfl, rfl, ex_l e hS, q⟩
theorem q_par {i j : Nat} {v u : V} (h : EvA t σ H [v, u]) (k : ∀ H1, Ex H H1 → tz D ((σ.set i (some v)).set j (some u)) H1) : tSeq (tPar i j t) tz D σ H := h H (Ex.refl _) _ fun H1 e => ⟨v, u, rfl, k H1 e⟩
theorem ev_abs {i : Int} (h : Ev ta σ H (.int i)) : Ev (tCB (fun xs H Q => ∃ i, xs = [.int i] ∧ Q (.int (if i < 0 then -i else i)) H) (tCons ta tNil)) σ H (.int (if i < 0 then -i else i)) := fun H1 e Q q => h H1 e _ fun H2 e2 => ⟨i, rfl, q H2 e2⟩
theorem lift3 {l : Addr} {fs : List Fld} (hd : d ≤ 2) (hL : LAt K H (d + 1) l fs) (hW : WD (d + 1) fs) (hb : ∀ w, LL (d + 1) fs w → w ≤ 1600) : LAt K H 3 l fs ∧ WD 3 fs ∧ ∀ w, LL 3 fs w → w ≤ 1600 := by
  match d, hd with
  | 0, _ =>
    have w2 := (deeper 1).2.2 fs hW
    exact ⟨hL.succ.succ, (deeper 2).2.2 fs w2, fun w h => hb w (((deeper 1).1 fs hW w).mpr (((deeper 2).1 fs w2 w).mpr h))⟩
  | 1, _ => exact ⟨hL.succ, (deeper 2).2.2 fs hW, fun w h => hb w (((deeper 2).1 fs hW w).mpr h)⟩
  | 2, _ => exact ⟨hL, hW, hb⟩
abbrev aLayout (K : PySem.W.Frag) : A3 := fun a b e H Q => ∃ (p : Addr) (xs : List Int), a = .ref p ∧ b = .int 0 ∧ e = .int 0 ∧ SqL K H p (xs.map V.int) ∧
  ∀ t H' c n q l fs G', c = (xs.getD 1 0 % 3, xs.getD 1 0 / 3) → Ex H H' → H' t = some (.tup [.ref q, .ref l]) → At q c n G' H' → LAt K G' 3 l fs → WD 3 fs → (∀ w, LL 3 fs w → w ≤ 1600) → Q (.ref t) H'
theorem ok_law_layout (T : Tx K mg) : Pr P w K mg base 120 "_law_layout" (Sp3 (aLayout K)) := by
  have G__law_cell_at := ok_law_cell_at (P := P) (w := w) (base := base) T
  refine pr3 (k := 119) T.d__law_layout T.g__law_layout sc__law_layout (fun _ _ _ _ _ _ us hl => match us, hl with | [_, _, _], _ => rfl) fun a b e H Q h cdv A outer s E hr hu => ?_
  obtain ⟨p, xs, rfl, rfl, rfl, hS, k⟩ := h
  obtain ⟨seed, hseed⟩ : ∃ x, x = xs.getD 0 0 := ⟨_, rfl⟩
  obtain ⟨cell, hcell⟩ : ∃ x, x = xs.getD 1 0 := ⟨_, rfl⟩
  obtain ⟨c, hc⟩ : ∃ c : Cst, c = (cell % 3, cell / 3) := ⟨_, rfl⟩
  obtain ⟨d, hd1, hd⟩ : ∃ d : Nat, d ≤ 1 ∧ 1 + cell / 3 % 2 = ((d + 1 : Nat) : Int) := ⟨(cell / 3 % 2).toNat, by omega, by omega⟩
  have G__law_leaf : Pr P w K mg base 6 "_law_leaf" (Sp2 (aLeaf K c)) := ok_law_leaf T
  have G__law_list := lists (P := P) (w := w) (base := base) (c := c) T (d + 1) (by omega)
  have G__law_list0 := lists (P := P) (w := w) (base := base) (c := c) T 0 (by omega)
  have G__law_most := mosts (P := P) (w := w) (base := base) T (d + 2)
  refine ⟨_, (pss_cons (ps_par (i := 3) (j := 4) rfl sc__law_layout.nd rfl rfl (by decide) rfl rfl (pa_cons (pe_fn G__law_cell_at (hr.mono (by omega)) (by rfl) (pa_cons (pv 0) (pa_cons (pv 1) pa_nil))) (pa_cons (pe_fn G__law_cell_at (hr.mono (by omega)) (by rfl) (pa_cons (pv 0) (pa_cons (pe_op op_add (pv 1) pe_int) pa_nil))) pa_nil)) (by rfl))
      (pss_cons (ps_set (i := 5) sc__law_layout.nd rfl (.inl rfl) (pe_lst (pa_cons (pe_op op_add pe_int (pe_op op_mod (pv 3) pe_int)) (pa_cons pe_int (pa_cons (pe_op op_mod (pv 4) pe_int) (pa_cons (pe_op op_fdiv (pv 4) pe_int) (pa_cons (pv 2) (pa_cons (pe_op op_fdivW (pe_callB call_abs (by rfl) T.b_abs (by decide +kernel) (pa_cons (pv 3) pa_nil)) (pe_op op_pow pe_int pe_int)) pa_nil))))))))
      (pss_cons (ps_set (i := 6) sc__law_layout.nd rfl (.inl rfl) (pe_fn G__law_list (hr.mono (by omega)) (by rfl) (pa_cons (pv 5) (pa_cons (pe_op op_add pe_int (pe_op op_mod (pe_op op_fdiv (pv 4) pe_int) pe_int)) (pa_cons pe_bl pa_nil)))))
      (pss_cons (ps_if (pt_cmpR op_gt (pe_fn G__law_most (hr.mono (by omega)) (by rfl) (pa_cons (pv 6) pa_nil)) pe_int (by rfl)) (pss_one (ps_set (i := 6) sc__law_layout.nd rfl (.inl rfl) (pe_op op_cat (pe_fn G__law_leaf (hr.mono (by omega)) (by rfl) (pa_cons (pv 5) (pa_cons pe_bl pa_nil))) (pe_fn G__law_list0 (hr.mono (by omega)) (by rfl) (pa_cons (pv 5) (pa_cons pe_int (pa_cons pe_bl pa_nil))))))) pss_nil)
      (pss_one (ps_ret (pe_tup (pa_cons (pv 5) (pa_cons (pv 6) pa_nil))))))))), ?_⟩
  refine q_par (ea_cons (ev_is (ev_cell (k := 0) (ev_var rfl) (ev_var rfl) hS) (congrArg V.int hseed.symm)) (ea_cons (ev_is (ev_cell (k := 1) (ev_var rfl) (ev_is (ev_op (ev_var rfl) ev_c rv_I0) rfl) hS) (congrArg V.int hcell.symm)) ea_nil)) fun H1 e1 => ?_
  refine q_asgL (xs := [.int (1 + seed % 2147483645), .int 0, .int (cell % 3), .int (cell / 3), .int 0, .int ((if seed < 0 then -seed else seed) / 10 ^ 18)]) (el_lst (ea_cons (ev_op ev_c (ev_op (ev_var rfl) ev_c (rv_I (show (0 : Int) < 2147483645 by decide))) rv_I0) (ea_cons ev_c (ea_cons (ev_op (ev_var rfl) ev_c (rv_I (show (0 : Int) < 3 by decide))) (ea_cons (ev_op (ev_var rfl) ev_c (rv_I (show CDiv _ _ from ⟨by decide, by decide⟩))) (ea_cons (ev_var rfl) (ea_cons (ev_op (z := .int ((if seed < 0 then -seed else seed) / 10 ^ 18)) (ev_abs (ev_var rfl)) (ev_op ev_c ev_c (rv_I (show CPow 10 18 from by unfold CPow; decide))) (rv_I (show CDivW _ _ from ⟨by decide, by decide +kernel⟩))) ea_nil)))))) (by simp)) fun q H2 hq e2 h2 => ?_
  have hHq : H q = none := fresh_back e1 hq
  have st2 : DSt q c 0 H2 := ⟨1 + seed % 2147483645, (if seed < 0 then -seed else seed) / 10 ^ 18, by omega, by omega, Int.ediv_nonneg (by split <;> omega) (by decide), by rw [hc]; exact h2⟩
  have a2 : At q c 0 H H2 := ⟨e1.trans e2, hHq, st2⟩
  have up : ∀ {G' H'}, Us q H H2 G' H' → Ex H H' := fun {G' H'} u x o hx => u.eh x o (fun z => by rw [z, hHq] at hx; cases hx) ((e1.trans e2) _ _ hx)
  refine q_asgT (te_fn (ta_cons (te_var rfl (ta_cons (te_ev (v := vN (d + 1)) (ev_is (ev_op ev_c (ev_op (ev_op (ev_var rfl) ev_c (rv_I (show CDiv _ _ from ⟨by decide, by decide⟩))) ev_c (rv_I (show (0 : Int) < 2 by decide))) rv_I0) (congrArg V.int hd)) fun H3 e3 => ta_cons (te_c (ta_nil ⟨_, _, _, rfl, q, 0, H, false, rfl, rfl, rfl, a2.ext e3, by omega, fun l us H4 G4 n4 u4 d4 lr4 uw4 h13 h14 fa4 bd4 => ?_⟩)))))))
  have hU2 := ue_le (d := d + 1) (by omega)
  have hn4 : n4 ≤ 24 := by have := h13 (by omega); omega
  have u4' : Us q H H2 G4 H4 := u4.pre e3
  have wd4 := uw4.wd (show n4 ≤ 26 by omega)
  have hL4 : LAt K H4 (d + 2) l us := ⟨lr4.at_, fun f hf => (fa4 f hf).mono u4.sub⟩
  refine (sv_when (H := H4) (et_test (ev_op (ev_most (ev_var rfl) hL4 wd4) ev_c rv_I0)) (fun hb H5 e5 => ?_) fun hb H5 e5 => ?_).here
  · -- too wide
    have a5 : At q c n4 G4 H5 := (a2.us u4' d4).ext e5
    have u5 : Us q H H2 G4 H5 := u4'.ext e5
    refine s_asgT (te_op (te_leaf rfl ev_c a5 (by omega) fun l6 us6 H6 G6 n6 u6 d6 lr6 uw6 g1 g2 lf6 b1' b2' => ?_))
    have a6 := a5.us u6 d6
    refine te_fn (ta_cons (te_var rfl (ta_cons (te_c (ta_cons (te_c (ta_nil ⟨_, _, _, rfl, q, n6, G6, false, rfl, rfl, rfl, a6, by omega, fun l7 us7 H7 G7 n7 u7 d7 lr7 uw7 h13' h14' fa7 bd7 => ?_⟩)))))))
    have l67 := u7.eh _ _ lr6.ne lr6.at_
    have hn7 : n7 ≤ 26 := by
      rcases Nat.lt_or_ge n6 14 with z | z
      · have : n7 ≤ Le 0 := h13' (by omega)
        have : Le 0 = 18 := rfl
        omega
      · have := h14' z
        omega
    have lf6' : ∀ f ∈ us6, f.k.leaf = true := fun f hf => (lf6 f hf).leaf
    have uwA : UW c 0 n4 n7 (us6 ++ us7) := uw6.app2 uw7 hn7
    have hfew := uwA.few
    rw [List.length_append] at hfew
    refine te_catF l67 lr7.at_ (by rw [List.length_map, List.length_map]; omega) fun p8 hp8 => ?_
    have a7 := a6.us u7 d7
    have hp8q : p8 ≠ q := fun z => d7.ne (z ▸ hp8)
    have uAll : Us q H H2 G7 H7 := u5.trans (u6.trans u7)
    have hG8 : G7 p8 = none := fresh_back a7.ex hp8
    have u8 : Us q H H2 (upd G7 p8 (.lst ((us6 ++ us7).map Fld.v))) (upd H7 p8 (.lst (us6.map Fld.v ++ us7.map Fld.v))) := (uAll.ext (Ex.new hp8)).add hp8q (back_us uAll hp8q hp8) (by rw [upd_same, List.map_append]) hG8
    have hL8 : LAt K (upd G7 p8 (.lst ((us6 ++ us7).map Fld.v))) (0 + 1) p8 (us6 ++ us7) := ⟨upd_same, fun f hf => by
      rcases List.mem_append.mp hf with hf | hf
      · exact (((lf6 f hf).at_.imp u7.ex fun _ _ z => z : FAtB K G7 NoL f).noL (lf6' f hf) 0).mono (Ex.new hG8)
      · exact (fa7 f hf).mono (Ex.new hG8)⟩
    obtain ⟨r1, r2, r3⟩ := lift3 (by omega) hL8 (uwA.wd hn7) fun w hw => by
      obtain ⟨x, y, s1, s2, e⟩ := SumB.app.mp hw
      have b1 := sum_ub lf6' s1
      have b2 := lb_use (bd7 y s2) rfl uw7.le
      omega
    refine s_retU (eu_tup (ea_cons (ev_var rfl) (ea_cons (ev_var rfl) ea_nil)) (by simp)) fun t H9 ht e9 h9 => ?_
    exact k t H9 c n7 q p8 _ _ (by rw [hc, hcell]) (up (u8.ext e9)) h9 ⟨(u8.ext e9).sub, u8.no h2 hHq, (d7.ext (Ex.new hp8)).ext e9⟩ r1 r2 r3
  · -- not too wide
    have hb := of_decide_eq_false hb
    have u5 : Us q H H2 G4 H5 := u4'.ext e5
    have hlH : H2 l = none := fresh_back e3 lr4.fr
    have u6 : Us q H H2 (upd G4 l (.lst (us.map Fld.v))) H5 := u5.add lr4.ne hlH (e5 _ _ lr4.at_) lr4.no
    have hL6 : LAt K (upd G4 l (.lst (us.map Fld.v))) (d + 1 + 1) l us := ⟨upd_same, fun f hf => (fa4 f hf).mono (Ex.new lr4.no)⟩
    have hM := (MM_ge (d + 2) us wd4).2
    obtain ⟨r1, r2, r3⟩ := lift3 (by omega) hL6 wd4 fun w hw => by
      have := hM w hw
      omega
    refine s_retU (eu_tup (ea_cons (ev_var rfl) (ea_cons (ev_var rfl) ea_nil)) (by simp)) fun t H9 ht e9 h9 => ?_
    exact k t H9 c n4 q l us _ (by rw [hc, hcell]) (up (u6.ext e9)) h9 ⟨(u6.ext e9).sub, u6.no h2 hHq, (d4.ext e5).ext e9⟩ r1 r2 r3
end
end Fk

set_option Elab.async false
set_option linter.all false
set_option maxRecDepth 100000
set_option maxHeartbeats 4000000
set_option exponentiation.threshold 3000
namespace Fk
open PySem PySem.Spec PyProof.Rows L2 Evl
theorem Sx.mut {q : Addr} {H H' : Hp} {p : Addr} {o : HO} (s : Sx q H H') (hp : H p = none) : Sx q H (L2.upd H' p o) := ⟨fun a u ha h => by rw [upd_ne (ne_of_none h hp)]; exact s.eh a u ha h⟩
/-! ### texts -/
theorem okText_app {a b : Str} (ha : okText a) (hb : okText b) : okText (a ++ b) := fun c hc => by
  have e : (a ++ b).cps = a.cps ++ b.cps := rfl
  rw [e, Array.toList_append] at hc
  exact (List.mem_append.mp hc).elim (ha c) (hb c)
theorem join_one : ∀ {zs : List Str}, (∀ z ∈ zs, z.length = 1 ∧ okText z) → okText (Str.join "" zs) ∧ (Str.join "" zs).length = zs.length
  | [], _ => ⟨fun c hc => (by cases hc), rfl⟩
  | [a], h => ⟨(h a (List.mem_cons_self ..)).2, (h a (List.mem_cons_self ..)).1⟩
  | a :: b :: r, h => by
    obtain ⟨h1, h2⟩ := join_one (zs := b :: r) fun z hz => h z (List.mem_cons_of_mem _ hz)
    obtain ⟨a1, a2⟩ := h a (List.mem_cons_self ..)
    have e : Str.join "" (a :: b :: r) = a ++ "" ++ Str.join "" (b :: r) := rfl
    have e0 : ("" : Str).length = 0 := rfl
    rw [e]
    refine ⟨okText_app (okText_app a2 fun c hc => (by cases hc)) h1, ?_⟩
    rw [PySem.Str.length_append, PySem.Str.length_append, h2, a1, e0, List.length_cons (a := a)]
    omega
abbrev signsS : Str := " !#$&'()*+,-./0123456789:;<=>?@ABXYZ[]^_`abcxyz{|}~"
theorem signs_len : signsS.length = 51 := by decide +kernel
theorem signs_at (k : Nat) (h : k < 51) : ∃ c, signsS.cps.toList[k]? = some c ∧ okSign c = true := by
  have : ∀ k : Fin 51, (match signsS.cps.toList[k.val]? with | some c => okSign c | none => false) = true := by decide +kernel
  have h1 := this ⟨k, h⟩
  cases e : signsS.cps.toList[k]? with
  | none => rw [e] at h1; cases h1
  | some c => rw [e] at h1; exact ⟨c, rfl, h1⟩
section
variable {P : Program} {w : World} {K : PySem.W.Frag} {mg : Str → Option Value} {base : Heap} {σ : L2.St} {G H H' : Hp} {te ta tb tc tl td ty tx tv : TE} {tt : TT} {tu tw tz : TS} {D : Ends} {q : Addr} {c : Cst} {n m i d : Nat} {Q : VK} {v : V} {t tr : TA} {QA : List V → Hp → Prop} {r : R2} {sp : Sp} {f : Fld}
/-! ### what a control can be -/
abbrev aLetB (K : PySem.W.Frag) (n : Nat) : A2 := fun a b H Q => ∃ (l : Addr) (fs : List Fld) (f : Fld) (cn : Str) (lo hi : Int), a = .ref l ∧ b = f.v ∧ LAt K H (n + 1) l fs ∧ WD (n + 1) fs ∧ f ∈ fs ∧ f.k.bds = some (cn, lo, hi) ∧ ∀ t H', H t = none → Ex H H' → H' t = some (.tup [.int lo, .int hi]) → Q (.ref t) H'
theorem ok_law_let (T : Tx K mg) : Pr P w K mg base 3 "_law_let" (Sp2 (aLetB K n)) := by
  have G_steers := pr_steers (P := P) (w := w) (base := base) T
  have G_least := pr_least (P := P) (w := w) (base := base) T
  have G_greatest := pr_greatest (P := P) (w := w) (base := base) T
  refine pr2 T.d__law_let T.g__law_let sc__law_let (fun _ _ _ _ _ _ us hl => match us, hl with | [_, _], _ => rfl) fun a b H Q h cdv A outer s E hr hu => ?_
  obtain ⟨l, fs, f, cn, lo, hi, rfl, rfl, hL, hW, hf, hb, q⟩ := h
  obtain ⟨g, hg, hn, rfl, rfl, hflt⟩ := ctl_filt hW hf hb
  have ob := hL.ob f hf
  refine ⟨_, (pss_cons (ps_set (i := 2) sc__law_let.nd rfl (.inl rfl) (pe_ix (ixLK (K := K) rfl) (pe_lc (own := [("_law_other", 3)]) rfl sc__law_let.nd (piLK (K := K) rfl (pv 0)) (blkOk_by (N := ["_law_fields", "_law_field", "_law_control_here", "_law_other"]) (sc := defScope s__law_let) (by decide +kernel)) (fun _ _ _ _ _ => (pg_name (i := 3) sc__law_let.nd rfl (Or.inl rfl))) (fun _ _ _ _ _ => (pts_one (pt_cmpR op_eq (fldK (K := K) rfl (pv 3) rfl) (pe_mU G_steers (hr.mono (by omega)) (pv 1)) (by rfl)))) (fun _ _ _ _ _ => (pv 3))) pe_int (fun _ _ => rfl)))
      (pss_one (ps_ret (pe_tup (pa_cons (pe_mU G_least (hr.mono (by omega)) (pv 2)) (pa_cons (pe_mU G_greatest (hr.mono (by omega)) (pv 2)) pa_nil)))))), ?_⟩
  refine q_asg (v := g.v) (ev_opL1 (el_is (el_comp (val := Fld.v) (g := Fld.v) (p := fun o => decide (V.str o.nm = stV f.k)) (ev_var rfl) hL.seq (by have := hW.sz; omega) (fun o ho => et_test (ev_op (ev_name T (ev_var rfl) (hL.ob o ho)) (ev_steers (ev_var rfl) ob) (rv_eq (sc_str _ _)))) (fun o ho hp => ev_var rfl)) (show _ = [g.v] by rw [hflt]; rfl)) (fun _ _ => ev_c) fun p H1 hp _ => rv_ixL (sq_of hp) (atI_nat (j := 0) rfl)) fun H1 e1 => ?_
  have og := (hL.ob g hg).mono e1
  exact s_retU (eu_tup (ea_cons (ev_least (ev_var rfl) og hn) (ea_cons (ev_greatest (ev_var rfl) og hn) ea_nil)) (by simp)) fun t H2 ht e2 h2 => q t H2 (fresh_back e1 ht) (e1.trans e2) h2
theorem eu_let {l : Addr} {fs : List Fld} {cn : Str} {lo hi : Int} (ha : Ev ta σ H (.ref l)) (hb : Ev tb σ H f.v) (hL : LAt K H (n + 1) l fs) (hW : WD (n + 1) fs) (hf : f ∈ fs) (hbd : f.k.bds = some (cn, lo, hi)) : EvU (tFn (Sp2 (aLetB K n)) (tCons ta (tCons tb tNil))) σ H [.int lo, .int hi] := fun H1 e Q q =>
  ha H1 e _ fun H2 e2 => hb H2 (e.trans e2) _ fun H3 e3 => ⟨_, _, rfl, l, fs, f, cn, lo, hi, rfl, rfl, hL.mono ((e.trans e2).trans e3), hW, hf, hbd, fun t H' ht e4 h4 => q t H' (fresh_back (e2.trans e3) ht) ((e2.trans e3).trans e4) h4⟩
theorem q_asgU2 {i j : Nat} {x y : V} (h : EvU te σ H [x, y]) (k : ∀ H1, Ex H H1 → tz D ((σ.set i (some x)).set j (some y)) H1) : tSeq (tAsg te (gTup K 2 (gCons (gName i) (gCons (gName j) gNil)))) tz D σ H := h H (Ex.refl _) _ fun t H1 _ e1 h1 => ⟨t, _, rfl, st_of h1, rfl, _, _, rfl, _, _, rfl, rfl, k H1 e1⟩
/-! ### a text of so many signs -/
abbrev aText (c : Cst) : A2 := fun a b H Q => ∃ q n m, a = .ref q ∧ b = vN m ∧ m ≤ 60 ∧ DSt q c n H ∧ ∀ s H', okText s → s.length = m → Sx q H H' → DSt q c n H' → Q (.str s) H'
theorem ok_law_text (T : Tx K mg) : Pr P w K mg base 2 "_law_text" (Sp2 (aText c)) := by
  have G__law_next := ok_law_next (P := P) (w := w) (base := base) (c := c) T
  refine pr2 T.d__law_text T.g__law_text sc__law_text (fun _ _ _ _ _ _ us hl => match us, hl with | [_, _], _ => rfl) fun a b H Q h cdv A outer s E hr hu => ?_
  obtain ⟨q, n, m, rfl, rfl, hm, d0, k⟩ := h
  refine ⟨_, (pss_cons (ps_set (i := 2) sc__law_text.nd rfl (.inr rfl) pe_str)
      (pss_one (ps_ret (pe_join pe_str (pe_lc (own := [("_law_k", 3)]) rfl sc__law_text.nd (pi_range1 (by rfl) T.b_range (pa_cons (pv 1) pa_nil)) (blkOk_by (N := ["_law_state", "_law_size", "_law_signs", "_law_k"]) (sc := defScope s__law_text) (by decide +kernel)) (fun _ _ _ _ _ => (pg_name (i := 3) sc__law_text.nd rfl (Or.inl rfl))) (fun _ _ _ _ _ => pts_nil) (fun _ _ _ _ _ => (pe_ix ix_str (pv 2) (pe_op op_mod (pe_fn G__law_next (hr.mono (by omega)) (by rfl) (pa_cons (pv 0) pa_nil)) (pe_callB (lenK (K := K) rfl) (by rfl) T.b_len (by decide +kernel) (pa_cons (pv 2) pa_nil))) (fun _ _ => rfl)))))))), ?_⟩
  refine q_asg ev_c fun H1 e1 => ?_
  have d1 := d0.ext e1
  refine s_retT ⟨⟨"", rfl⟩, ?_⟩
  refine (show tLc _ _ _ _ _ _ _ _ from ⟨.int m, rfl, m, rfl, by omega, by omega, fun Dl hD => ?_⟩)
  have hDq : Dl ≠ q := fun z => d1.ne (z ▸ hD)
  refine lc_range (fun i H' => ∃ zs : List Str, H' Dl = some (.lst (zs.map V.str)) ∧ zs.length = i ∧ (∀ z ∈ zs, z.length = 1 ∧ okText z) ∧ Sx q H1 H' ∧ DSt q c n H') ⟨[], upd_same, rfl, fun _ h => absurd h List.not_mem_nil, (Sx.refl _).mut hD, d1.upd hDq⟩ (fun i H' hi ⟨zs, hz, hzl, hzs, s', d'⟩ => ?_) fun H' ⟨zs, hz, hzl, hzs, s', d'⟩ => ?_
  · refine ⟨rfl, ?_⟩
    simp only [tYes, if_true]
    refine te_op (te_var rfl (te_op (te_next (ev_var rfl) d' fun x H2 hx1 hx2 s2 d2 => te_ev (ev_lenV (ev_var rfl) (lenV_str (by decide +kernel))) fun H3 e3 => ⟨x, (signsS.length : Nat), rfl, rfl, (show (0 : Int) < ((signsS.length : Nat) : Int) by rw [signs_len]; decide), ?_⟩)))
    rw [signs_len]
    obtain ⟨y, hy, hy2⟩ : ∃ y : Nat, x % ((51 : Nat) : Int) = (y : Int) ∧ y < 51 := ⟨(x % 51).toNat, by omega, by omega⟩
    obtain ⟨cc, hc1, hc2⟩ := signs_at y hy2
    have hD3 : H3 Dl = some (.lst (zs.map V.str)) := e3 _ _ (s2.eh _ _ hDq hz)
    refine ⟨signsS, _, cc, rfl, rfl, sz_of (by decide +kernel), by rw [hy]; exact atI_nat hc1, ?_⟩
    refine ⟨_, hD3, sz_lt (by rw [List.length_map]; omega), zs ++ [⟨#[cc]⟩], by rw [upd_same, List.map_append]; rfl, by rw [List.length_append, hzl]; rfl, fun z hz2 => ?_, ((s'.trans s2).trans (Sx.of e3)).mut hD, (d2.ext e3).upd hDq⟩
    rcases List.mem_append.mp hz2 with h | h
    · exact hzs z h
    · rw [List.mem_singleton.mp h]
      refine ⟨rfl, fun c hc => ?_⟩
      have hc : c ∈ [cc] := hc
      rw [List.mem_singleton.mp hc]
      exact hc2
  · have hj := join_one hzs
    have hsum : (zs.map (·.length)).sum + zs.length * ("" : Str).length ≤ 16777216 := by
      have e0 : ("" : Str).length = 0 := rfl
      have := sum_le (B := 1) (l := zs.map (·.length)) fun x hx => by
        obtain ⟨z, hz, rfl⟩ := List.mem_map.mp hx
        exact Nat.le_of_eq (hzs z hz).1
      rw [List.length_map] at this
      rw [e0]
      omega
    refine ⟨"", Dl, zs, rfl, rfl, .inl (sq_of hz), hsum, ?_⟩
    rw [TL.join_eq]
    exact k _ H' hj.1 (by rw [hj.2, hzl]; exact Int.toNat_natCast m) ((Sx.of e1).trans s') d'
/-! ### how many signs, items -/
def HowB (h : How) (lim : Nat) : Prop := match h with | .fix n => n ≤ lim | .by_ _ lo hi => 0 ≤ lo ∧ lo ≤ hi ∧ hi ≤ lim | .end_ n => n ≤ lim
abbrev aCount (K : PySem.W.Frag) (c : Cst) (n : Nat) : A3 := fun a b e H Q => ∃ q m l fs f hw lim, a = .ref q ∧ b = .ref l ∧ e = f.v ∧ DSt q c m H ∧ LAt K H (n + 1) l fs ∧ WD (n + 1) fs ∧ f ∈ fs ∧ ((∃ df, f.k = .txt hw df) ∨ ∃ mk, f.k = .row hw mk) ∧ HowB hw lim ∧
  ∀ (x : Nat) H', hw.ok lim x → x ≤ lim → Sx q H H' → DSt q c m H' → Q (vN x) H'
theorem ok_law_count (T : Tx K mg) : Pr P w K mg base 4 "_law_count" (Sp3 (aCount K c n)) := by
  have G__law_next := ok_law_next (P := P) (w := w) (base := base) (c := c) T
  have G__law_let := ok_law_let (P := P) (w := w) (base := base) (n := n) T
  refine pr3 T.d__law_count T.g__law_count sc__law_count (fun _ _ _ _ _ _ us hl => match us, hl with | [_, _, _], _ => rfl) fun a b e H Q h cdv A outer s E hr hu => ?_
  obtain ⟨q, m, l, fs, f, hw, lim, rfl, rfl, rfl, d0, hL, hW, hf, hk, hB, k⟩ := h
  have ob := hL.ob f hf
  have hbd : f.k.bds = hw.bds := by rcases hk with ⟨df, hk⟩ | ⟨mk, hk⟩ <;> rw [hk] <;> rfl
  refine ⟨_, (pss_cons (ps_if (pt_cmpR op_eq (fldK (K := K) rfl (pv 2) rfl) pe_str (by rfl)) (pss_one (ps_ret (fldK (K := K) rfl (pv 2) rfl))) pss_nil)
      (pss_cons (ps_if (pt_cmpR op_eq (fldK (K := K) rfl (pv 2) rfl) pe_str (by rfl)) (pss_one (ps_ret (pe_op op_mod (pe_fn G__law_next (hr.mono (by omega)) (by rfl) (pa_cons (pv 0) pa_nil)) (pe_op op_add (fldK (K := K) rfl (pv 2) rfl) pe_int)))) pss_nil)
      (pss_cons (ps_asg (pe_fn G__law_let (hr.mono (by omega)) (by rfl) (pa_cons (pv 1) (pa_cons (pv 2) pa_nil))) (pgTK (K := K) (n := 2) rfl rfl (pgs_cons (pg_name (i := 3) sc__law_count.nd rfl (.inl rfl)) (pgs_cons (pg_name (i := 4) sc__law_count.nd rfl (.inl rfl)) pgs_nil))))
      (pss_one (ps_ret (pe_op op_add (pv 3) (pe_op op_mod (pe_fn G__law_next (hr.mono (by omega)) (by rfl) (pa_cons (pv 0) pa_nil)) (pe_op op_add (pe_op op_sub (pv 4) (pv 3)) pe_int)))))))), ?_⟩
  cases hw with
  | fix a =>
    refine (sv_takeT (H := H) (et_test (ev_is (ev_op (ev_how T (ev_var rfl) ob hk) ev_c (rv_eq rfl)) rfl)) ?_).here
    exact sv_ret (ev_count T (ev_var rfl) ob hk) fun H2 e2 => k a H2 rfl hB (Sx.of e2) (d0.ext e2)
  | end_ a =>
    refine (sv_skipT (H := H) (et_test (ev_is (ev_op (ev_how T (ev_var rfl) ob hk) ev_c (rv_eq rfl)) (congrArg V.bl (decide_eq_false fun z => ne_end_fixed (V.str.inj z))))) (sv_takeT (et_test (ev_is (ev_op (ev_how T (ev_var rfl) ob hk) ev_c (rv_eq rfl)) rfl)) fun H2 e2 => ?_)).here
    refine s_retT (te_op (te_next (ev_var rfl) (d0.ext e2) fun x H3 hx1 hx2 s3 d3 => te_ev (ev_op (ev_count T (ev_var rfl) (Ob.mono' (ob.mono e2) s3 (d0.ext e2)) hk) ev_c rv_I0) fun H4 e4 => ⟨x, _, rfl, rfl, by omega, ?_⟩))
    obtain ⟨y, hy, hy2⟩ : ∃ y : Nat, x % ((a : Int) + 1) = (y : Int) ∧ y ≤ a := by
      have h1 := Int.emod_nonneg x (b := (a : Int) + 1) (by omega)
      have h2 := Int.emod_lt_of_pos x (b := (a : Int) + 1) (by omega)
      exact ⟨(x % ((a : Int) + 1)).toNat, by omega, by omega⟩
    show Q (.int (x % ((a : Int) + 1))) H4
    rw [hy]
    exact k y H4 hy2 (Nat.le_trans hy2 hB) ((Sx.of e2).trans (s3.trans (Sx.of e4))) (d3.ext e4)
  | by_ cn lo hi =>
    obtain ⟨h1, h2, h3⟩ := hB
    refine (sv_skipT (H := H) (et_test (ev_is (ev_op (ev_how T (ev_var rfl) ob hk) ev_c (rv_eq rfl)) (congrArg V.bl (decide_eq_false fun z => ne_by_fixed (V.str.inj z))))) (sv_skipT (et_test (ev_is (ev_op (ev_how T (ev_var rfl) ob hk) ev_c (rv_eq rfl)) (congrArg V.bl (decide_eq_false fun z => ne_by_end (V.str.inj z))))) fun H2 e2 => ?_)).here
    refine q_asgU2 (eu_let (ev_var rfl) (ev_var rfl) (hL.mono e2) hW hf hbd) fun H3 e3 => ?_
    have e23 := e2.trans e3
    refine s_retT (te_op (te_var rfl (te_op (te_next (ev_var rfl) (d0.ext e23) fun x H4 hx1 hx2 s4 d4 => te_ev (ev_op (ev_op (ev_var rfl) (ev_var rfl) rv_I0) ev_c rv_I0) fun H5 e5 => ⟨x, hi - lo + 1, rfl, rfl, by omega, te_addI ?_⟩))))
    have g1 := Int.emod_nonneg x (b := hi - lo + 1) (by omega)
    have g2 := Int.emod_lt_of_pos x (b := hi - lo + 1) (by omega)
    obtain ⟨y, hy⟩ : ∃ y : Nat, lo + x % (hi - lo + 1) = (y : Int) := ⟨(lo + x % (hi - lo + 1)).toNat, by omega⟩
    rw [hy]
    exact k y H5 ⟨by omega, by omega, by omega⟩ (by omega) ((Sx.of e23).trans (s4.trans (Sx.of e5))) (d4.ext e5)
end
end Fk

set_option Elab.async false
set_option linter.all false
set_option maxRecDepth 100000
set_option maxHeartbeats 4000000
set_option exponentiation.threshold 3000
namespace Fk
open PySem PySem.Spec PyProof.Rows L2 Evl
/-! ### dicts with keys that differ -/
theorem val_no {kvs : Kvs} {k : Key} (h : ¬ k ∈ kvs.map (·.1)) : valV kvs k = none := by
  cases e : valV kvs k with
  | none => rfl
  | some v => exact absurd (valV_in e) h
theorem val_mem {k : Key} {v : V} : ∀ {kvs : Kvs}, (kvs.map (·.1)).Nodup → (k, v) ∈ kvs → valV kvs k = some v
  | [], _, h => nomatch h
  | p :: r, nd, h => by
    rw [List.map_cons, List.nodup_cons] at nd
    rcases List.mem_cons.mp h with e | h
    · rw [← e]
      exact valV_pos rfl
    · rw [valV_neg (fun e => nd.1 (List.mem_map.mpr ⟨_, h, e.symm⟩))]
      exact val_mem nd.2 h
theorem merge_app : ∀ {more acc : Kvs}, ((acc ++ more).map (·.1)).Nodup → mergeK acc more = acc ++ more
  | [], acc, _ => by rw [List.append_nil]; rfl
  | p :: r, acc, nd => by
    have h1 : valV acc p.1 = none := val_no fun z => by
      rw [List.map_append, List.nodup_append] at nd
      exact nd.2.2 _ z _ (by rw [List.map_cons]; exact List.mem_cons_self ..) rfl
    show mergeK (putK acc p.1 p.2) r = _
    rw [putK_new p.2 h1, merge_app]
    · rw [List.append_assoc]; rfl
    · rw [List.append_assoc]; exact nd
theorem merge_nd {kvs : Kvs} (nd : (kvs.map (·.1)).Nodup) : mergeK [] kvs = kvs := merge_app (acc := []) nd
def DictP (G : Hp) : Nat → List Fld → Kvs → Nat → Prop
  | 0 => fun _ _ _ => False
  | n + 1 => fun fs kvs W => (kvs.map (·.1)).Nodup ∧ (∀ q ∈ kvs, ∃ f ∈ fs, f.k.told = true ∧ q.1 = kn f.nm) ∧ PVB G (DOk G n) (GOk G n) kvs fs W
theorem DictP.mono {G G' : Hp} (e : Ex G G') : ∀ {n : Nat} {fs : List Fld} {kvs : Kvs} {W : Nat}, DictP G n fs kvs W → DictP G' n fs kvs W
  | 0, _, _, _, h => h.elim
  | n + 1, _, _, _, ⟨h1, h2, h3⟩ => ⟨h1, h2, PVB.imp (fun f u w h => (show FOk G n f u w from h).mono e) h3⟩
theorem DictP.dok {G : Hp} {p : Addr} : ∀ {n : Nat} {fs : List Fld} {kvs : Kvs} {W : Nat}, DictP G n fs kvs W → G p = some (.dK kvs) → DOk G n fs (.ref p) W
  | 0, _, _, _, h, _ => h.elim
  | n + 1, _, kvs, _, ⟨h1, h2, h3⟩, hp => ⟨p, kvs, rfl, hp, h1, h2, h3⟩
section
variable {P : Program} {w : World} {K : PySem.W.Frag} {mg : Str → Option Value} {base : Heap} {σ : L2.St} {G H H' : Hp} {te ta tb tc tl td ty tx tv : TE} {tt : TT} {tu tw tz : TS} {D : Ends} {q : Addr} {c : Cst} {n m i d : Nat} {Q : VK} {v : V} {t tr : TA} {QA : List V → Hp → Prop} {r : R2} {sp : Sp} {f : Fld}
abbrev DictK (c : Cst) (n : Nat) (q : Addr) (m : Nat) (G H : Hp) (fs : List Fld) (Q : VK) : Prop := ∀ p H' G' kvs W, Us q G H G' H' → DSt q c m H' → H' p = some (.dK kvs) → H p = none → G' p = none → p ≠ q → DictP G' n fs kvs W → Q (.ref p) H'
abbrev aDict (K : PySem.W.Frag) (c : Cst) (n : Nat) : A2 := fun a b H Q => ∃ q m G l fs, a = .ref q ∧ b = .ref l ∧ At q c m G H ∧ LAt K G n l fs ∧ WD n fs ∧ DictK c n q m G H fs Q
abbrev ValK (c : Cst) (n : Nat) (q : Addr) (m : Nat) (G H : Hp) (f : Fld) (Q : VK) : Prop := ∀ u H' G' w, Us q G H G' H' → DSt q c m H' → FOk G' n f u w → Q u H'
abbrev aValue (K : PySem.W.Frag) (c : Cst) (n : Nat) : A3 := fun a b e H Q => ∃ q m G l fs f, a = .ref q ∧ b = .ref l ∧ e = f.v ∧ At q c m G H ∧ LAt K G (n + 1) l fs ∧ WD (n + 1) fs ∧ f ∈ fs ∧ f.k.told = true ∧ ValK c n q m G H f Q
abbrev PairF := Addr × Fld × V × Nat
theorem paired_of {cs : List PairF} (h : ∀ s ∈ cs, SqT K H s.1 [.str s.2.1.nm, s.2.2.1]) : Paired (fun p (kv : Key × V) => SqT K H p [kV kv.1, kv.2]) (cs.map fun s => s.1) (cs.map fun s => (kn s.2.1.nm, s.2.2.1)) := by
  induction cs with
  | nil => exact .nil
  | cons s r ih => exact .cons (h s (List.mem_cons_self ..)) (ih fun x hx => h x (List.mem_cons_of_mem _ hx))
theorem ok_law_dict (T : Tx K mg) (G__law_value : Pr P w K mg base (10 * n + 8) "_law_value" (Sp3 (aValue K c n))) : Pr P w K mg base (10 * (n + 1) + 3) "_law_dict" (Sp2 (aDict K c (n + 1))) := by
  have G__law_next := ok_law_next (P := P) (w := w) (base := base) (c := c) T
  have G__law_told := ok_law_told (P := P) (w := w) (base := base) T
  refine pr2 (k := 10 * n + 12) T.d__law_dict T.g__law_dict sc__law_dict (fun _ _ _ _ _ _ us hl => match us, hl with | [_, _], _ => rfl) fun a b H Q h cdv A outer s E hr hu => ?_
  obtain ⟨q, m, G, l, fs, rfl, rfl, a, hL, hW, k⟩ := h
  have hLH : LAt K H (n + 1) l fs := hL.mono a.ex
  refine ⟨_, (pss_cons (ps_setLc (i := 2) (own := [("_law_field", 3)]) rfl sc__law_dict.nd rfl rfl (sw_true rfl rfl rfl (by decide +kernel)) (piLK (K := K) rfl (pe_fn G__law_told (hr.mono (by omega)) (by rfl) (pa_cons (pv 1) pa_nil))) (blkOk_by (N := ["_law_state", "_law_fields", "_law_pairs", "_law_field"]) (sc := defScope s__law_dict) (by decide +kernel)) (fun _ _ _ _ _ => (pg_name (i := 3) sc__law_dict.nd rfl (Or.inl rfl))) (fun _ _ _ _ _ => pts_nil) (fun _ _ _ _ _ => (pe_tup (pa_cons (fldK (K := K) rfl (pv 3) rfl) (pa_cons (pe_fn G__law_value (hr.mono (by omega)) (by rfl) (pa_cons (pv 0) (pa_cons (pv 1) (pa_cons (pv 3) pa_nil)))) pa_nil)))))
      (pss_cons (ps_if (pt_cmpR op_eq (pe_op op_mod (pe_fn G__law_next (hr.mono (by omega)) (by rfl) (pa_cons (pv 0) pa_nil)) pe_int) pe_int (by rfl)) (pss_one (ps_set (i := 2) sc__law_dict.nd rfl (.inl rfl) (revLK (K := K) rfl (pv 2)))) pss_nil)
      (pss_one (ps_ret (pe_callTy (dictK (K := K) rfl rfl) (by rfl) T.b_dict (by decide +kernel) (pa_cons (pv 2) pa_nil)))))), ?_⟩
  refine q_asgT ((el_told (H := H) (ev_var rfl) hLH.seq hLH.ob hW.tc (by have := hW.sz; omega)) H (Ex.refl _) _ fun pt H1 hpt e1 h1 => ⟨pt, rfl, ⟨_, sq_of h1⟩, fun Dl hD => ?_⟩)
  have a1 := a.ext e1
  have hDq : Dl ≠ q := fun z => a1.st.ne (z ▸ hD)
  have hptq : pt ≠ q := fun z => a.st.ne (z ▸ hpt)
  have htl := told_len hW.sz
  refine lc_list (xs := toldV fs) (fun i H' => ∃ (cs : List PairF) (G' : Hp), Us q G H1 G' H' ∧ DSt q c m H' ∧ H' Dl = some (.lst (cs.map fun s => V.ref s.1)) ∧ G' Dl = none ∧ cs.map (fun s => s.2.1) = (fs.filter fun f => f.k.told).take i ∧ ∀ s ∈ cs, s.1 ≠ q ∧ s.1 ≠ Dl ∧ H' s.1 = some (.tup [.str s.2.1.nm, s.2.2.1]) ∧ FOk G' n s.2.1 s.2.2.1 s.2.2.2) ⟨[], G, (Us.refl a1.ex).ext (Ex.new hD), a1.st.ext (Ex.new hD), upd_same, fresh_back a1.ex hD, rfl, fun _ h => absurd h List.not_mem_nil⟩ (fun i H' _ cc => by obtain ⟨_, _, u, _⟩ := cc; exact sq_of (u.eh _ _ hptq h1)) (fun i y H' hi cc => ?_) fun H' cc => ?_
  · obtain ⟨cs, G', u, dd, hDl, hGD, hns, hcs⟩ := cc
    obtain ⟨f, hfi, hfm, rfl⟩ := map_get hi
    obtain ⟨hf, hft⟩ := List.mem_filter.mp hfm
    have a' := a1.us u dd
    have hil : i < 26 := by have := (List.getElem?_eq_some_iff.mp hfi).1; omega
    have hcl : cs.length ≤ i := by
      have := congrArg List.length hns
      rw [List.length_map, List.length_take] at this
      omega
    have obf : Ob K H' f := (hL.mono (u.ex.trans a'.ex)).ob f hf
    refine ⟨rfl, ?_⟩
    simp only [tYes, if_true]
    refine te_tup2 (te_ev (ev_name T (ev_var rfl) obf) fun H2 e2 => te_fn (ta_cons (te_var rfl (ta_cons (te_var rfl (ta_cons (te_var rfl (ta_nil ⟨_, _, _, rfl, q, m, G', l, fs, f, rfl, rfl, rfl, a'.ext e2, hL.mono u.ex, hW, hf, hft, fun x H3 G3 w3 u3 d3 hF => ⟨sz_of (by simp), fun t ht => ?_⟩⟩))))))))
    have u23 := u3.pre e2
    have hDl3 := u23.eh _ _ hDq hDl
    have hGD3 := u23.no hDl hGD
    have htD : t ≠ Dl := fun z => by rw [z, hDl3] at ht; cases ht
    have htq : t ≠ q := fun z => d3.ne (z ▸ ht)
    refine ⟨_, (Ex.new ht) _ _ hDl3, sz_lt (by rw [List.length_map]; omega), cs ++ [(t, f, x, w3)], G3, ((u.trans u23).ext (Ex.new ht)).mut hD hGD3, (d3.ext (Ex.new ht)).upd hDq, ?_, hGD3, ?_, fun s hs => ?_⟩
    · rw [upd_same, List.map_append]; rfl
    · rw [List.map_append, hns, List.take_add_one, hfi]; rfl
    · rcases List.mem_append.mp hs with hs | hs
      · obtain ⟨g1, g2, g3, g4⟩ := hcs s hs
        exact ⟨g1, g2, by rw [upd_ne g2]; exact Ex.new ht _ _ (u23.eh _ _ g1 g3), g4.mono u23.ex⟩
      · rw [List.mem_singleton.mp hs]
        exact ⟨htq, htD, by show (upd (upd H3 t _) Dl _) t = _; rw [upd_ne htD, upd_same], hF⟩
  · obtain ⟨cs, G', u, dd, hDl, hGD, hns, hcs⟩ := cc
    have htake : (fs.filter fun f => f.k.told).take (toldV fs).length = fs.filter fun f => f.k.told := by
      rw [show (toldV fs).length = (fs.filter fun f => f.k.told).length from List.length_map _]
      exact List.take_length
    rw [htake] at hns
    have a' := a1.us u dd
    have hnd : (cs.map fun s => s.2.1.nm).Nodup := by
      have e : (cs.map fun s => s.2.1.nm) = (cs.map fun s => s.2.1).map Fld.nm := by rw [List.map_map]; rfl
      rw [e, hns]
      exact List.Pairwise.sublist (List.filter_sublist.map Fld.nm) hW.nd
    have fin : ∀ (pp : Addr) (cs' : List PairF) (H2 : Hp), Sx q H' H2 → DSt q c m H2 → H2 pp = some (.lst (cs'.map fun s => V.ref s.1)) → (∀ s ∈ cs', s ∈ cs) → (∀ s ∈ cs, s ∈ cs') → (cs'.map fun s => s.2.1.nm).Nodup →
        tRet (tCB (rDictP K) (tCons (tVar 2) tNil)) { nx := fun _ H' => Q .non H', rt := Q } [some (.ref q), some (.ref l), some (.ref pp), none] H2 := by
      intro pp cs' H2 s2 d2 hpp hin hin2 hnd2
      have up : ∀ s ∈ cs', SqT K H2 s.1 [.str s.2.1.nm, s.2.2.1] := fun s hs => st_of (s2.eh _ _ (hcs s (hin s hs)).1 (hcs s (hin s hs)).2.2.1)
      have kd : ((cs'.map fun s => ((kn s.2.1.nm, s.2.2.1) : Key × V)).map (·.1)).Nodup := by
        have e : ((cs'.map fun s => ((kn s.2.1.nm, s.2.2.1) : Key × V)).map (·.1)) = (cs'.map fun s => s.2.1.nm).map kn := by rw [List.map_map, List.map_map]; rfl
        rw [e]
        exact List.Pairwise.map _ (fun a b h e => h (kn_inj e)) hnd2
      refine s_retT (show tCB _ _ _ _ _ from ta_cons (te_var rfl (ta_nil ⟨pp, cs'.map fun s => s.1, cs'.map fun s => (kn s.2.1.nm, s.2.2.1), rfl, by rw [List.map_map]; exact sq_of hpp, paired_of up, fun p hp => ?_⟩)))
      rw [merge_nd kd]
      have hpq : p ≠ q := fun z => d2.ne (z ▸ hp)
      have u2 : Us q G H G' H2 := (u.pre e1).trans (s2.us u.sub (a'.no))
      obtain ⟨W, hW2⟩ := PVB_of (H := G') (n := n) (kvs := cs'.map fun s => (kn s.2.1.nm, s.2.2.1)) (fs := fs) fun f hf hft => by
        have : f ∈ cs.map fun s => s.2.1 := by rw [hns]; exact List.mem_filter.mpr ⟨hf, hft⟩
        obtain ⟨s, hs, rfl⟩ := List.mem_map.mp this
        exact ⟨s.2.2.1, s.2.2.2, val_mem kd (List.mem_map.mpr ⟨s, hin2 s hs, rfl⟩), (hcs s hs).2.2.2⟩
      refine k p _ G' (cs'.map fun s => (kn s.2.1.nm, s.2.2.1)) W (u2.ext (Ex.new hp)) (d2.ext (Ex.new hp)) upd_same (back_us u2 hpq hp) (fresh_back u2.sub hp) hpq ⟨kd, fun x hx => ?_, hW2⟩
      obtain ⟨s, hs, rfl⟩ := List.mem_map.mp hx
      have : s.2.1 ∈ cs.map fun s => s.2.1 := List.mem_map.mpr ⟨s, hin s hs, rfl⟩
      rw [hns] at this
      obtain ⟨g1, g2⟩ := List.mem_filter.mp this
      exact ⟨s.2.1, g1, g2, rfl⟩
    refine (show tSeq _ _ _ _ _ from te_nmeq rfl dd (by decide) fun bb H2 s2 d2 => ⟨bb, rfl, ?_⟩)
    have hDl2 := s2.eh _ _ hDq hDl
    cases bb with
    | false => exact fin Dl cs H2 s2 d2 hDl2 (fun _ h => h) (fun _ h => h) hnd
    | true =>
      show tAsg (tRevL K (tVar 2)) (gName 2) _ _ H2
      refine s_asgT ⟨.ref Dl, rfl, Dl, _, rfl, sq_of hDl2, fun p hp => ?_⟩
      exact fin p cs.reverse _ (s2.trans (Sx.of (Ex.new hp))) (d2.ext (Ex.new hp)) (by rw [upd_same, List.map_reverse]) (fun s hs => List.mem_reverse.mp hs) (fun s hs => List.mem_reverse.mpr hs) (by rw [List.map_reverse]; exact (List.reverse_perm _).nodup_iff.mpr hnd)
end
end Fk

set_option Elab.async false
set_option linter.all false
set_option maxRecDepth 100000
set_option maxHeartbeats 4000000
set_option exponentiation.threshold 3000
namespace Fk
open PySem PySem.Spec PyProof.Rows L2 Evl
section
variable {P : Program} {w : World} {K : PySem.W.Frag} {mg : Str → Option Value} {base : Heap} {σ : L2.St} {G H H' : Hp} {te ta tb tc tl td ty tx tv : TE} {tt : TT} {tu tw tz : TS} {D : Ends} {q : Addr} {c : Cst} {n m i d : Nat} {Q : VK} {v : V} {t tr : TA} {QA : List V → Hp → Prop} {r : R2} {sp : Sp} {f : Fld}
/-! ### how wide a leaf's value is -/
abbrev aOneW (K : PySem.W.Frag) (n : Nat) : A2 := fun a b H Q => ∃ (f : Fld) (w : Nat), a = f.v ∧ Ob K H f ∧ FW n f ∧ f.k.leaf = true ∧ (f.k.word ≠ "check" ∧ f.k.word ≠ "spot") ∧ ((f.k.told = true ∧ FOk H n f b w) ∨ (f.k.told = false ∧ w = f.k.width)) ∧ RetV (vN w) H Q
theorem sev_eq (i : Nat) : (8 : Int) * (1 + (if decide ((127 : Int) < (i : Int)) = true then 1 else 0) + (if decide ((16383 : Int) < (i : Int)) = true then 1 else 0) + (if decide ((2097151 : Int) < (i : Int)) = true then 1 else 0)) = ((8 * sevB i : Nat) : Int) := by
  simp only [decide_eq_true_eq]
  unfold sevB
  split <;> split <;> split <;> (try split) <;> (try split) <;> (try split) <;> omega
theorem ok_law_one_width (T : Tx K mg) : Pr P w K mg base 2 "_law_one_width" (Sp2 (aOneW K n)) := by
  have G_kind := pr_kind (P := P) (w := w) (base := base) T
  have G__law_width : Pr P w K mg base 1 "_law_width" (Sp2 no2) := pr2 T.d__law_width T.g__law_width sc__law_width (fun _ _ _ _ _ _ us hl => match us, hl with | [_, _], _ => rfl) fun _ _ _ _ h => h.elim
  refine pr2 T.d__law_one_width T.g__law_one_width sc__law_one_width (fun _ _ _ _ _ _ us hl => match us, hl with | [_, _], _ => rfl) fun a b H Q h cdv A outer s E hr hu => ?_
  obtain ⟨f, m, rfl, ob, hW, hlf, hnc, hv, q⟩ := h
  refine ⟨_, (pss_cons (ps_set (i := 2) sc__law_one_width.nd rfl (.inl rfl) (pe_mU G_kind (hr.mono (by omega)) (pv 0)))
      (pss_cons (ps_if (pt_cmpR (op_inK (K := K) rfl) (pv 2) (pe_tup (pa_cons pe_str (pa_cons pe_str (pa_cons pe_str pa_nil)))) (by rfl)) (pss_one (ps_ret (fldK (K := K) rfl (pv 0) rfl))) pss_nil)
      (pss_cons (ps_if (pt_cmpR op_eq (pv 2) pe_str (by rfl)) (pss_one (ps_ret (pe_op op_mul pe_int (pe_op op_add (pe_op op_add (pe_op op_add pe_int (pe_callTy call_int1 (by rfl) T.b_int (by decide +kernel) (pa_cons (pe_cmpR op_gt (pv 1) pe_int (by rfl)) pa_nil))) (pe_callTy call_int1 (by rfl) T.b_int (by decide +kernel) (pa_cons (pe_cmpR op_gt (pv 1) pe_int (by rfl)) pa_nil))) (pe_callTy call_int1 (by rfl) T.b_int (by decide +kernel) (pa_cons (pe_cmpR op_gt (pv 1) pe_int (by rfl)) pa_nil)))))) pss_nil)
      (pss_cons (ps_if (pt_cmpR op_eq (pv 2) pe_str (by rfl)) (pss_one (ps_ret (pe_op op_add (pe_op op_mul pe_int (pe_callB (lenK (K := K) rfl) (by rfl) T.b_len (by decide +kernel) (pa_cons (pv 1) pa_nil))) (pe_op op_mul pe_int (pe_callTy call_int1 (by rfl) T.b_int (by decide +kernel) (pa_cons (pe_cmpR op_eq (fldK (K := K) rfl (pv 0) rfl) pe_str (by rfl)) pa_nil)))))) pss_nil)
      (pss_cons (ps_if (pt_cmpR op_eq (pv 2) pe_str (by rfl)) (pss_one (ps_ret (pe_op op_add (pe_callB (sumK (K := K) rfl rfl) (by rfl) T.b_sum (by decide +kernel) (pa_cons (pe_lc (own := [("_law_item", 3)]) rfl sc__law_one_width.nd (piLK (K := K) rfl (pv 1)) (blkOk_by (N := ["_law_field", "_law_value_here", "_law_kind", "_law_item", "_law_case"]) (sc := defScope s__law_one_width) (by decide +kernel)) (fun _ _ _ _ _ => (pg_name (i := 3) sc__law_one_width.nd rfl (Or.inl rfl))) (fun _ _ _ _ _ => pts_nil) (fun _ _ _ _ _ => (pe_fn G__law_width (hr.mono (by omega)) (by rfl) (pa_cons (fldK (K := K) rfl (pv 0) rfl) (pa_cons (pv 3) pa_nil))))) pa_nil)) (pe_op op_mul pe_int (pe_callTy call_int1 (by rfl) T.b_int (by decide +kernel) (pa_cons (pe_cmpR op_eq (fldK (K := K) rfl (pv 0) rfl) pe_str (by rfl)) pa_nil)))))) pss_nil)
      (pss_cons (ps_if (pt_cmpR op_eq (pv 2) pe_str (by rfl)) (pss_one (ps_ret (pe_fn G__law_width (hr.mono (by omega)) (by rfl) (pa_cons (pe_ix (ixLK (K := K) rfl) (pe_lc (own := [("_law_case", 4)]) rfl sc__law_one_width.nd (piLK (K := K) rfl (fldK (K := K) rfl (pv 0) rfl)) (blkOk_by (N := ["_law_field", "_law_value_here", "_law_kind", "_law_item", "_law_case"]) (sc := defScope s__law_one_width) (by decide +kernel)) (fun _ _ _ _ _ => (pg_name (i := 4) sc__law_one_width.nd rfl (Or.inl rfl))) (fun _ _ _ _ _ => (pts_one (pt_cmpR op_eq (pe_ix (ixTK (K := K) rfl) (pv 4) pe_int (fun _ _ => rfl)) (pe_ix (ixTK (K := K) rfl) (pv 1) pe_int (fun _ _ => rfl)) (by rfl)))) (fun _ _ _ _ _ => (pe_ix (ixTK (K := K) rfl) (pv 4) pe_int (fun _ _ => rfl)))) pe_int (fun _ _ => rfl)) (pa_cons (pe_ix (ixTK (K := K) rfl) (pv 1) pe_int (fun _ _ => rfl)) pa_nil))))) pss_nil)
      (pss_cons (ps_if (pt_cmpR op_isN (pv 1) pe_non (by rfl)) (pss_one (ps_ret pe_int)) pss_nil)
      (pss_one (ps_ret (pe_fn G__law_width (hr.mono (by omega)) (by rfl) (pa_cons (fldK (K := K) rfl (pv 0) rfl) (pa_cons (pv 1) pa_nil)))))))))))), ?_⟩
  refine (sv_asg (ev_kind (ev_var rfl) ob) ?_).here
  obtain ⟨kd, hkd⟩ : ∃ s : Str, s = f.k.word := ⟨_, rfl⟩
  rw [← hkd]
  show SV _ _ [some f.v, some b, some (.str kd), none, none] H
  have sk : ∀ {s : Str} {b0 : Bool}, f.k.word = s → inV (.str s) [.str "number", .str "check", .str "spot"] = b0 → EvT (tTest (tOp (rIn K false) (tVar 2) (tTup (tCons (tC (.str "number")) (tCons (tC (.str "check")) (tCons (tC (.str "spot")) tNil)))))) [some f.v, some b, some (.str kd), none, none] H b0 :=
    fun hs hb => et_in (ev_var rfl) (ea_cons ev_c (ea_cons ev_c (ea_cons ev_c ea_nil))) (by decide) rfl rfl (by rw [hkd, hs]; exact hb)
  have kw : ∀ s, f.k.word = s → Ev (tVar 2) [some f.v, some b, some (.str kd), none, none] H (.str s) := fun s hs => ev_var (by rw [hkd, hs]; rfl)
  unfold FOk FOkB at hv
  cases hk : f.k with
  | num w0 sg lt lo hi df c =>
    have hw : m = f.k.width := by
      rcases hv with ⟨_, hv⟩ | ⟨_, hv⟩
      · rw [hk] at hv ⊢
        obtain ⟨i, _, _, _, e⟩ := hv
        exact e
      · exact hv
    exact sv_takeT (sk (s := "number") (by rw [hk]; rfl) rfl) (sv_ret (ev_is (ev_width T (ev_var rfl) ob (.inr (by rw [hk]; rfl)) (.inr (.inr (by rw [hk]; rfl)))) (congrArg vN hw.symm)) q)
  | sev hi lo df =>
    rcases hv with ⟨_, hv⟩ | ⟨ht, _⟩
    · rw [hk] at hv
      obtain ⟨i, rfl, h1, e⟩ := hv
      refine sv_skipT (sk (s := "seven") (by rw [hk]; rfl) rfl) (sv_take (kw "seven" (by rw [hk]; rfl)) rfl ?_)
      refine sv_ret (ev_is (ev_op ev_c (ev_op (ev_op (ev_op ev_c (ev_int1b (ev_op (ev_var rfl) ev_c rv_I0)) rv_I0) (ev_int1b (ev_op (ev_var rfl) ev_c rv_I0)) rv_I0) (ev_int1b (ev_op (ev_var rfl) ev_c rv_I0)) rv_I0) (rv_I (show CMul _ _ from .inl (by decide)))) (congrArg V.int ?_)) q
      rw [e]
      exact sev_eq i
    · rw [hk] at ht; cases ht
  | txt hw df =>
    rcases hv with ⟨_, hv⟩ | ⟨ht, _⟩
    · rw [hk] at hv
      obtain ⟨z, rfl, h1, h2, h3, e⟩ := hv
      refine sv_skipT (sk (s := "text") (by rw [hk]; rfl) rfl) (sv_skip (kw "text" (by rw [hk]; rfl)) (by decide +kernel) (sv_take (kw "text" (by rw [hk]; rfl)) rfl ?_))
      refine sv_ret (ev_is (ev_op (ev_op ev_c (ev_lenV (ev_var rfl) (lenV_str (by omega))) (rv_I (show CMul _ _ from .inl (by decide)))) (ev_op ev_c (ev_int1b (ev_is (ev_op (ev_how T (ev_var rfl) ob (.inl ⟨df, hk⟩)) ev_c (rv_eq rfl)) (congrArg V.bl (word_end hw)))) (rv_I (show CMul _ _ from .inl (by decide)))) rv_I0) (congrArg V.int ?_)) q
      rw [e]
      unfold How.e
      cases hw.isEnd <;> simp <;> omega
    · rw [hk] at ht; cases ht
  | chk => rw [hk] at hnc; exact absurd rfl hnc.1
  | spt => rw [hk] at hnc; exact absurd rfl hnc.2
  | row => rw [hk] at hlf; cases hlf
  | cho => rw [hk] at hlf; cases hlf
  | may => rw [hk] at hlf; cases hlf
  | grp => rw [hk] at hlf; cases hlf
  | siz => rw [hk] at hlf; cases hlf
theorem ev_dgetC {p : Addr} {kvs : Kvs} {k : Key} {v0 : V} (ho : Ev td σ H (.ref p)) (hk : Ev ty σ H (kV k)) (hd : H p = some (.dK kvs)) : Ev (tDGet2 td ty (tC v0)) σ H ((valV kvs k).getD v0) := fun H1 e Q q =>
  ho H1 e _ fun H2 e2 => ⟨p, rfl, .inl ⟨kvs, .of (e2 _ _ (e _ _ hd))⟩, hk H2 (e.trans e2) _ fun H3 e3 => ⟨_, DGet.k (e3 _ _ (e2 _ _ (e _ _ hd))), q H3 (e2.trans e3)⟩⟩
abbrev aWid (K : PySem.W.Frag) (n : Nat) : A2 := fun a b H Q => ∃ (l : Addr) (fs : List Fld) (p : Addr) (kvs : Kvs) (ws : List Nat), a = .ref l ∧ b = .ref p ∧ LAt K H (n + 1) l fs ∧ WD (n + 1) fs ∧ (∀ g ∈ fs, g.k.leaf = true ∧ g.k.word ≠ "check" ∧ g.k.word ≠ "spot") ∧ H p = some (.dK kvs) ∧ valV kvs (kn "rest") = none ∧
  All2 (WFV (FOk H n) kvs) fs ws ∧ RetV (vN ws.sum) H Q
theorem ok_law_width (T : Tx K mg) : Pr P w K mg base 3 "_law_width" (Sp2 (aWid K n)) := by
  have G__law_told := ok_law_told (P := P) (w := w) (base := base) T
  have G__law_one_width := ok_law_one_width (P := P) (w := w) (base := base) (n := n) T
  refine pr2 T.d__law_width T.g__law_width sc__law_width (fun _ _ _ _ _ _ us hl => match us, hl with | [_, _], _ => rfl) fun a b H Q h cdv A outer s E hr hu => ?_
  obtain ⟨l, fs, p, kvs, ws, rfl, rfl, hL, hWD, hlf, hp, hrest, hws, q⟩ := h
  refine ⟨_, (pss_cons (ps_setLc (i := 2) (own := [("_law_field", 4)]) rfl sc__law_width.nd rfl rfl (sw_true rfl rfl rfl (by decide +kernel)) (piLK (K := K) rfl (pe_fn G__law_told (hr.mono (by omega)) (by rfl) (pa_cons (pv 0) pa_nil))) (blkOk_by (N := ["_law_fields", "_law_value_here", "_law_asked", "_law_found", "_law_field"]) (sc := defScope s__law_width) (by decide +kernel)) (fun _ _ _ _ _ => (pg_name (i := 4) sc__law_width.nd rfl (Or.inl rfl))) (fun _ _ _ _ _ => pts_nil) (fun _ _ _ _ _ => (fldK (K := K) rfl (pv 4) rfl)))
      (pss_cons (ps_set (i := 3) sc__law_width.nd rfl (.inl rfl) (pe_op op_mul pe_int (pe_callB (lenK (K := K) rfl) (by rfl) T.b_len (by decide +kernel) (pa_cons (pe_dget2 hu (pv 1) pe_str (pe_lst pa_nil) ⟨rfl, rfl, rfl, rfl⟩) pa_nil))))
      (pss_cons (ps_for PassesOwn.never rfl (piLK (K := K) rfl (pv 0)) (pg_name (i := 4) sc__law_width.nd rfl (.inl rfl)) (pss_one (ps_if (PW.pt (pw_or (pt_cmp (pc_din hu (fldK (K := K) rfl (pv 4) rfl) (pv 1))) (pw_or1 (pt_cmpR (op_niK (K := K) rfl) (fldK (K := K) rfl (pv 4) rfl) (pv 2) (by rfl))))) (pss_one (ps_set (i := 3) sc__law_width.nd rfl (.inl rfl) (pe_op op_add (pv 3) (pe_fn G__law_one_width (hr.mono (by omega)) (by rfl) (pa_cons (pv 4) (pa_cons (pe_dget2 hu (pv 1) (fldK (K := K) rfl (pv 4) rfl) pe_int ⟨rfl, rfl, rfl, rfl⟩) pa_nil)))))) pss_nil)))
      (pss_one (ps_ret (pv 3)))))), ?_⟩
  refine (sv_asgL (el_is (el_compN (val := Fld.v) (g := fun f => V.str f.nm) (p := fun _ => true) (el_told (ev_var rfl) hL.seq hL.ob hWD.tc (by have := hWD.sz; omega)) (Nat.le_trans (List.length_filter_le _ _) (by have := hWD.sz; omega)) (fun _ _ => et_yes) fun f hf _ => ev_name T (ev_var rfl) (hL.ob f (List.mem_filter.mp hf).1)) ((map_all _ _).trans told_names)) fun pn hpn => ?_).here
  have e1 := Ex.new hpn (o := .lst (((fs.filter fun f => f.k.told).map Fld.nm).map V.str))
  have hp1 := e1 _ _ hp
  refine sv_asg (ev_mul8 (c := 0) (lenL_get (xs := []) (ev_var rfl) (k := kn "rest") ev_c (el_lst ea_nil (by decide)) hp1 (.inl ⟨hrest, rfl⟩))) ?_
  refine sv_forLn (ev_var rfl) (ex_l e1 hL.seq) (fun i σ' => ∃ z, σ' = [some (.ref l), some (.ref p), some (.ref pn), some (vN (ws.take i).sum), z]) ⟨none, rfl⟩ ?_ ?_
  · rintro i x σ' hx ⟨z, rfl⟩
    obtain ⟨f, hf, hm, rfl⟩ := map_get hx
    obtain ⟨m, hm2, hwf⟩ := hws.at_ hf
    have hob := (hL.ob f hm).mono e1
    have hin : Ev (tDIn (tFld K (tVar 4) "name") (tVar 1)) [some (.ref l), some (.ref p), some (.ref pn), some (vN (ws.take i).sum), some f.v] (upd H pn (.lst (((fs.filter fun f => f.k.told).map Fld.nm).map V.str))) (.bl (valV kvs (kn f.nm)).isSome) := ev_din (k := kn f.nm) (ev_name T (ev_var rfl) hob) (ev_var rfl) (.of hp1)
    have hni : ∀ b0 : Bool, f.k.told = b0 → EvT (tTest (tOp (rIn K true) (tFld K (tVar 4) "name") (tVar 2))) [some (.ref l), some (.ref p), some (.ref pn), some (vN (ws.take i).sum), some f.v] (upd H pn (.lst (((fs.filter fun f => f.k.told).map Fld.nm).map V.str))) (!b0) := fun b0 hb => et_test (ev_is (ev_op (ev_name T (ev_var rfl) hob) (ev_var rfl) (rv_niL (sq_of upd_same) rfl (flat_str _))) (by rw [inV_str, in_told hWD.nd hm, hb]))
    have hget : Ev (tDGet2 (tVar 1) (tFld K (tVar 4) "name") (tC (.int 0))) [some (.ref l), some (.ref p), some (.ref pn), some (vN (ws.take i).sum), some f.v] (upd H pn (.lst (((fs.filter fun f => f.k.told).map Fld.nm).map V.str))) ((valV kvs (kn f.nm)).getD (.int 0)) := ev_dgetC (k := kn f.nm) (ev_var rfl) (ev_name T (ev_var rfl) hob) hp1
    have hadd : ∀ x : Nat, V.int ((((ws.take i).sum : Nat) : Int) + (x : Int)) = vN ((ws.take i).sum + x) := fun x => congrArg V.int (by push_cast; omega)
    have hl := hlf f hm
    rcases hwf with ⟨ht, u, hu1, hu2⟩ | ⟨ht, hv, e⟩ | ⟨ht, hv, _, rfl⟩
    · refine sv_if (b := true) (et_is (et_or (a := true) (b := true) (et_test (ev_is hin (by rw [hu1]; rfl))) fun z => nomatch z) rfl) (fun _ => ?_) fun z => nomatch z
      refine sv_asg1 (ev_op (ev_var rfl) (ev_fn (z := vN m) (ea_cons (ev_var rfl) (ea_cons (ev_is hget (by rw [hu1]; rfl)) ea_nil)) fun H1 e2 Q q E => ⟨_, _, rfl, f, m, rfl, hob.mono e2, hWD.fw f hm, hl.1, hl.2, .inl ⟨ht, (hu2.mono e1).mono e2⟩, q⟩) rv_I0) fun H1 e2 => ⟨⟨some f.v, ?_⟩, e2⟩
      rw [sum_take hm2, ← hadd]
      rfl
    · refine sv_if (b := true) (et_is (et_or (a := false) (b := true) (et_test (ev_is hin (by rw [hv]; rfl))) fun _ => et_is (hni false ht) rfl) rfl) (fun _ => ?_) fun z => nomatch z
      refine sv_asg1 (ev_op (ev_var rfl) (ev_fn (z := vN m) (ea_cons (ev_var rfl) (ea_cons (ev_is hget (congrArg (fun o => Option.getD o (V.int 0)) hv)) ea_nil)) fun H1 e2 Q q E => ⟨_, _, rfl, f, m, rfl, hob.mono e2, hWD.fw f hm, hl.1, hl.2, .inr ⟨ht, e⟩, q⟩) rv_I0) fun H1 e2 => ⟨⟨some f.v, ?_⟩, e2⟩
      rw [sum_take hm2, ← hadd]
      rfl
    · refine sv_if (b := false) (et_is (et_or (a := false) (b := false) (et_test (ev_is hin (by rw [hv]; rfl))) fun _ => et_is (hni true ht) rfl) rfl) (fun z => nomatch z) fun _ => ?_
      refine sv_nx fun H1 e2 => ⟨⟨some f.v, ?_⟩, e2⟩
      rw [sum_take hm2, ← hadd]
      rfl
  · rintro σ' ⟨z, rfl⟩
    rw [List.length_map, hws.len, List.take_length]
    exact sv_ret (ev_var rfl) fun H1 e2 => q H1 (e1.trans e2)
theorem ev_wid {l p : Addr} {fs : List Fld} {kvs : Kvs} {ws : List Nat} (ha : Ev ta σ H (.ref l)) (hb : Ev tb σ H (.ref p)) (hL : LAt K H (n + 1) l fs) (hW : WD (n + 1) fs) (hlf : ∀ g ∈ fs, g.k.leaf = true ∧ g.k.word ≠ "check" ∧ g.k.word ≠ "spot") (hp : H p = some (.dK kvs)) (hr : valV kvs (kn "rest") = none) (hws : All2 (WFV (FOk H n) kvs) fs ws) : Ev (tFn (Sp2 (aWid K n)) (tCons ta (tCons tb tNil))) σ H (vN ws.sum) :=
  ev_fn (ea_cons ha (ea_cons hb ea_nil)) fun H1 e Q q E => ⟨_, _, rfl, l, fs, p, kvs, ws, rfl, rfl, hL.mono e, hW, hlf, e _ _ hp, hr, hws.imp fun f w h => h.imp (fun ⟨a, u, b, d⟩ => ⟨a, u, b, d.mono e⟩) id, q⟩
/-! ### the kinds that can have a default -/
def spPlain : Sp := fun vs H Q _ => vs = [] ∧ ∀ t H', H t = none → Ex H H' → H' t = some (.tup [.str "number", .str "seven", .str "text"]) → Q (.ref t) H'
theorem ok_law_plain (T : Tx K mg) : Pr P w K mg base 1 "_law_plain" spPlain := by
  obtain ⟨fd, F⟩ := T.d__law_plain
  refine ⟨T.g__law_plain, F.kp, fd, [], def_ok F sc__law_plain (fun vs H Q E h => by rw [h.1]; rfl) (fun cdv A outer s H vs Q E hr h => ?_), F.bindsN fun _ _ _ _ _ _ us hl => match us, hl with | [], _ => rfl⟩
  obtain ⟨rfl, q⟩ := h
  have hu := hu_of hr
  refine ⟨_, (pss_one (ps_ret (pe_tup (pa_cons pe_str (pa_cons pe_str (pa_cons pe_str pa_nil)))))), ?_⟩
  exact s_retU (eu_tup (ea_cons ev_c (ea_cons ev_c (ea_cons ev_c ea_nil))) (by simp)) fun t H2 ht e2 h2 => q t H2 ht e2 h2
theorem eu_plain : EvU (tFn spPlain tNil) σ H [.str "number", .str "seven", .str "text"] := fun H1 e Q q => ⟨rfl, q⟩
end
end Fk

set_option Elab.async false
set_option linter.all false
set_option maxRecDepth 100000
set_option maxHeartbeats 4000000
set_option exponentiation.threshold 3000
namespace Fk
open PySem PySem.Spec PyProof.Rows L2 Evl
/-! ### what grows with its last fields left out -/
theorem val_drop {k j : Key} : ∀ {kvs : Kvs}, valV (dropK kvs k) j = if j = k then none else valV kvs j
  | [] => by
    show valV ([] : Kvs) j = _
    rw [valV_nil]
    split <;> rfl
  | p :: r => by
    by_cases h : p.1 = k
    · rw [dropK_pos h, val_drop]
      by_cases hj : j = k
      · rw [if_pos hj, if_pos hj]
      · rw [if_neg hj, if_neg hj, valV_neg fun e => hj (e.symm.trans h)]
    · rw [dropK_neg h]
      by_cases hp : p.1 = j
      · rw [valV_pos hp, if_neg (fun e => h (hp.trans e)), valV_pos hp]
      · rw [valV_neg hp, val_drop, valV_neg hp]
def dropAll (R : List Fld) (kvs : Kvs) : Kvs := R.foldl (fun kv f => dropK kv (kn f.nm)) kvs
theorem dropAll_none {k : Key} : ∀ {R : List Fld} {kvs : Kvs}, valV kvs k = none → valV (dropAll R kvs) k = none
  | [], _, h => h
  | f :: r, kvs, h => dropAll_none (R := r) (by rw [val_drop, h]; split <;> rfl)
theorem dropAll_in : ∀ {R : List Fld} {kvs : Kvs} {f : Fld}, f ∈ R → valV (dropAll R kvs) (kn f.nm) = none
  | g :: r, kvs, f, h => by
    rcases List.mem_cons.mp h with rfl | h
    · exact dropAll_none (R := r) (by rw [val_drop, if_pos rfl])
    · exact dropAll_in (R := r) h
theorem dropAll_out {k : Key} : ∀ {R : List Fld} {kvs : Kvs}, (∀ f ∈ R, k ≠ kn f.nm) → valV (dropAll R kvs) k = valV kvs k
  | [], _, _ => rfl
  | f :: r, kvs, h => by
    show valV (dropAll r (dropK kvs (kn f.nm))) k = _
    rw [dropAll_out fun g hg => h g (List.mem_cons_of_mem _ hg), val_drop, if_neg (h f (List.mem_cons_self ..))]
theorem dropAll_nd : ∀ {R : List Fld} {kvs : Kvs}, (kvs.map (·.1)).Nodup → ((dropAll R kvs).map (·.1)).Nodup
  | [], _, h => h
  | f :: r, kvs, h => dropAll_nd (R := r) (nd_dropK h)
theorem dropAll_mem {x : Key × V} : ∀ {R : List Fld} {kvs : Kvs}, x ∈ dropAll R kvs → x ∈ kvs
  | [], _, h => h
  | f :: r, kvs, h => dropK_mem (dropAll_mem (R := r) h)
theorem dropAll_take {R : List Fld} {kvs : Kvs} {i : Nat} {f : Fld} (h : R[i]? = some f) : dropAll (R.take (i + 1)) kvs = dropK (dropAll (R.take i) kvs) (kn f.nm) := by
  unfold dropAll
  rw [List.take_add_one, h, List.foldl_append]
  rfl
theorem m8_late {n : Nat} {f : Fld} {w : Nat} (hd : f.k.dfl ≠ .non) (h8 : f.k.width % 8 = 0) (h : LF n f w) : w % 8 = 0 := by
  obtain ⟨p, nm, k, l, ss⟩ := f
  cases k with
  | num w0 sg lt lo hi df c =>
    have h : w = w0 := h
    rw [h]
    exact h8
  | sev hi lo df =>
    obtain ⟨i, _, e⟩ := h
    omega
  | txt hw df =>
    obtain ⟨m, _, e⟩ := h
    have he : hw.e = 0 ∨ hw.e = 8 := by
      unfold How.e
      split
      · exact .inr rfl
      · exact .inl rfl
    omega
  | _ => exact absurd rfl hd
theorem m8_lates {n : Nat} : ∀ {R : List Fld} {w : Nat}, (∀ f ∈ R, f.k.dfl ≠ .non ∧ f.k.width % 8 = 0) → SumB (LF n) R w → w % 8 = 0
  | [], w, _, h => by have h : w = 0 := h; rw [h]
  | f :: r, w, hR, ⟨a, b, h1, h2, e⟩ => by
    have := m8_late (hR f (List.mem_cons_self ..)).1 (hR f (List.mem_cons_self ..)).2 h1
    have := m8_lates (fun g hg => hR g (List.mem_cons_of_mem _ hg)) h2
    omega
/-- the dict without the last fields: how wide, and how it reads -/
structure GrownP (G : Hp) (n : Nat) (fs F1 R : List Fld) (kvs : Kvs) (W a : Nat) : Prop where
  le : a ≤ W
  m8 : a % 8 = 0
  pvb : PVB G (DOk G n) (GOk G n) kvs F1 a
  ws : ∃ ws, All2 (WFV (FOk G n) kvs) fs ws ∧ ws.sum = a
  nd : (kvs.map (·.1)).Nodup
  ks : ∀ q ∈ kvs, ∃ f ∈ fs, f.k.told = true ∧ q.1 = kn f.nm
  no : ∀ f ∈ R, f.k.dfl ≠ .non ∧ valV kvs (kn f.nm) = none
  rest : valV kvs (kn "rest") = none
  few : kvs.length ≤ 26
theorem grownP {G : Hp} {n : Nat} {F1 R : List Fld} {kvs : Kvs} {W : Nat} (hW : WD (n + 1) (F1 ++ R)) (hD : DictP G (n + 1) (F1 ++ R) kvs W) (hR : ∀ f ∈ R, f.k.dfl ≠ .non ∧ f.k.width % 8 = 0) : ∃ a, GrownP G n (F1 ++ R) F1 R (dropAll R kvs) W a := by
  obtain ⟨nd, ks, pv⟩ := hD
  have hnm : (F1.map Fld.nm ++ R.map Fld.nm).Nodup := by rw [← List.map_append]; exact hW.nd
  have hap : ∀ f ∈ F1, ∀ g ∈ R, kn f.nm ≠ kn g.nm := fun f hf g hg e => (List.nodup_append.mp hnm).2.2 _ (List.mem_map.mpr ⟨f, hf, rfl⟩) _ (List.mem_map.mpr ⟨g, hg, rfl⟩) (kn_inj e)
  have hL : LL (n + 1) (F1 ++ R) W := PVB.len (DG.len n).1 (DG.len n).2 pv
  have h8 := hW.m8 W hL
  have pv0 : SumB _ (F1 ++ R) W := pv
  obtain ⟨a, b, h1, h2, e⟩ := SumB.app.mp pv0
  have hb8 : b % 8 = 0 := m8_lates hR (PVB.len (DG.len n).1 (DG.len n).2 (show PVB G (DOk G n) (GOk G n) kvs R b from h2))
  have ks' : ∀ q ∈ dropAll R kvs, ∃ f ∈ F1 ++ R, f.k.told = true ∧ q.1 = kn f.nm := fun q hq => ks q (dropAll_mem hq)
  have nd' := dropAll_nd (R := R) nd
  have pv1 : PVB G (DOk G n) (GOk G n) (dropAll R kvs) F1 a := SumB.imp h1 fun f hf w hw => by
    cases ht : f.k.told with
    | true =>
      rw [ht] at hw
      obtain ⟨u, h3, h4⟩ := hw
      exact ⟨u, by rw [dropAll_out fun g hg => hap f hf g hg]; exact h3, h4⟩
    | false => rw [ht] at hw; exact hw
  have hrest : valV (dropAll R kvs) (kn "rest") = none := val_none fun q hq e => by
    obtain ⟨f, hf, _, h⟩ := ks' q hq
    exact hW.nr f hf (kn_inj (h.symm.trans e))
  have hRt : ∀ f ∈ R, f.k.told = true := fun f hf => told_of_dfl hW (List.mem_append_right _ hf) (hR f hf).1
  refine ⟨a, by omega, by omega, pv1, ?_, nd', ks', fun f hf => ⟨(hR f hf).1, dropAll_in hf⟩, hrest, ?_⟩
  · obtain ⟨ws, h5, h6⟩ := SumB.two.mp pv1
    refine ⟨ws ++ List.replicate R.length 0, All2.app (h5.of_imp fun f hf w hw => ?_) (All2.rep fun f hf => .inr (.inr ⟨hRt f hf, dropAll_in hf, (hR f hf).1, rfl⟩)), by rw [List.sum_append, sum_rep0, ← h6]; rfl⟩
    cases ht : f.k.told with
    | true =>
      rw [ht] at hw
      exact .inl ⟨ht, hw⟩
    | false =>
      rw [ht] at hw
      exact .inr (.inl ⟨ht, val_ctl hW.nd hW.nr (fun q hq => .inl (ks' q hq)) (List.mem_append_left _ hf) ht, hw⟩)
  · have := nd_sub nd' (ys := (F1 ++ R).map fun f => kn f.nm) fun x hx => by
      obtain ⟨q, hq, rfl⟩ := List.mem_map.mp hx
      obtain ⟨f, hf, _, e⟩ := ks' q hq
      exact List.mem_map.mpr ⟨f, hf, e.symm⟩
    rw [List.length_map, List.length_map] at this
    have := hW.sz
    omega
/-- what fits what grows -/
theorem GrownP.fits {G : Hp} {n : Nat} {f : Fld} {fs F1 R : List Fld} {kvs : Kvs} {W a : Nat} {p : Addr} {cn : Str} {hi : Int} (g : GrownP G n fs F1 R kvs W a) (hfs : fs = F1 ++ R) (hk : f.k = .siz cn 0 hi true) (hf : f.fs = fs) (hp : G p = some (.dK kvs)) (hW : W ≤ 2040) (hWh : ((W / 8 : Nat) : Int) ≤ hi) : FOk G (n + 1) f (.ref p) a := by
  unfold FOk FOkB
  rw [hk]
  have := g.le
  refine ⟨g.m8, by omega, by omega, by omega, ?_⟩
  show GOk G (n + 1) f.fs (.ref p) a
  rw [hf]
  refine ⟨p, kvs, F1.length, a, rfl, hp, g.nd, fun q hq => .inl (g.ks q hq), ?_, fun x hx => ?_, .inl ⟨g.rest, rfl⟩⟩
  · rw [hfs, List.take_left]
    exact g.pvb
  · rw [hfs, List.drop_left] at hx
    exact g.no x hx
theorem GrownP.fitsR {G : Hp} {n : Nat} {f : Fld} {fs : List Fld} {kvs : Kvs} {W a : Nat} {p z : Addr} {cn : Str} {hi : Int} {bs : List Int} (g : GrownP G n fs fs [] kvs W a) (hk : f.k = .siz cn 0 hi true) (hf : f.fs = fs) (hnr : ∀ x ∈ fs, x.nm ≠ "rest") (hp : G p = some (.dK (kvs ++ [(kn "rest", .ref z)]))) (hz : G z = some (.lst (bs.map V.int))) (hb : bs ≠ [])
    (hbs : ∀ b ∈ bs, 0 ≤ b ∧ b ≤ 255) (h255 : hi ≤ 255) (hr : ((a / 8 : Nat) : Int) + (bs.length : Nat) ≤ hi) : FOk G (n + 1) f (.ref p) (a + 8 * bs.length) := by
  unfold FOk FOkB
  rw [hk]
  have := g.m8
  refine ⟨by omega, by omega, by omega, by omega, ?_⟩
  show GOk G (n + 1) f.fs (.ref p) (a + 8 * bs.length)
  rw [hf]
  have hv : ∀ j : Key, valV (kvs ++ [(kn "rest", .ref z)]) j = if j = kn "rest" then some (.ref z) else valV kvs j := fun j => valV_snoc _ _ _ _ g.rest
  refine ⟨p, kvs ++ [(kn "rest", .ref z)], fs.length, a, rfl, hp, ?_, fun q hq => ?_, ?_, fun x hx => ?_, .inr ⟨Nat.le_refl _, z, bs, ?_, hz, hb, hbs, rfl⟩⟩
  · rw [List.map_append]
    exact nd_snoc g.nd (valV_not g.rest)
  · rcases List.mem_append.mp hq with h | h
    · exact .inl (g.ks q h)
    · rw [List.mem_singleton.mp h]
      exact .inr rfl
  · rw [List.take_length]
    refine SumB.imp g.pvb fun x hx w hw => ?_
    cases ht : x.k.told with
    | true =>
      rw [ht] at hw
      obtain ⟨u, h3, h4⟩ := hw
      exact ⟨u, by rw [hv, if_neg fun e => hnr x hx (kn_inj e)]; exact h3, h4⟩
    | false => rw [ht] at hw; exact hw
  · rw [List.drop_length] at hx
    cases hx
  · rw [hv, if_pos rfl]
theorem GrownP.mono {G G' : Hp} {n : Nat} {fs F1 R : List Fld} {kvs : Kvs} {W a : Nat} (e : Ex G G') (g : GrownP G n fs F1 R kvs W a) : GrownP G' n fs F1 R kvs W a :=
  ⟨g.le, g.m8, PVB.imp (fun f u w h => (show FOk G n f u w from h).mono e) g.pvb, let ⟨ws, h1, h2⟩ := g.ws; ⟨ws, h1.imp fun f w h => h.imp (fun ⟨a, u, b, d⟩ => ⟨a, u, b, d.mono e⟩) id, h2⟩, g.nd, g.ks, g.no, g.rest, g.few⟩
/-- which of the told fields are late -/
theorem late_of {n : Nat} {A B : List Fld} (hW : WD n (A ++ B)) (hA : ∀ g ∈ A, g.k.dfl = .non) (hB : ∀ g ∈ B, g.k.dfl ≠ .non) : ((A ++ B).filter fun f => f.k.told) = (A.filter fun f => f.k.told) ++ B ∧ ((A ++ B).filter fun f => f.k.told).filter (fun g => g.k.isDf && !decide (g.k.dfl = .non)) = B := by
  have h1 : ((A ++ B).filter fun f => f.k.told) = (A.filter fun f => f.k.told) ++ B := by
    rw [List.filter_append, List.filter_eq_self.mpr fun g hg => told_of_dfl hW (List.mem_append_right _ hg) (hB g hg)]
  refine ⟨h1, ?_⟩
  rw [h1, List.filter_append, List.filter_eq_nil_iff.mpr, List.filter_eq_self.mpr, List.nil_append]
  · intro g hg
    have h2 : g.k.isDf = true := by
      cases e : g.k.isDf with
      | true => rfl
      | false => exact absurd (dfl_no e) (hB g hg)
    rw [h2, decide_eq_false (hB g hg)]
    rfl
  · intro g hg h
    rw [hA g (List.mem_filter.mp hg).1, decide_eq_true rfl] at h
    simp at h
end Fk

set_option Elab.async false
set_option linter.all false
set_option maxRecDepth 100000
set_option maxHeartbeats 4000000
set_option exponentiation.threshold 3000
namespace Fk
open PySem PySem.Spec PyProof.Rows L2 Evl
section
variable {P : Program} {w : World} {K : PySem.W.Frag} {mg : Str → Option Value} {base : Heap} {σ : L2.St} {G H H' : Hp} {te ta tb tc tl td ty tx tv : TE} {tt uu : TT} {tu tw tz : TS} {D : Ends} {q : Addr} {c : Cst} {n m i d : Nat} {Q : VK} {v : V} {t tr : TA} {QA : List V → Hp → Prop} {r : R2} {sp : Sp} {f : Fld}
theorem tt_and {Q : Bool → Hp → Prop} {b : Bool} (h : EvT tt σ H b) (h1 : b = true → ∀ H1, Ex H H1 → uu σ H1 Q) (h2 : b = false → ∀ H1, Ex H H1 → Q false H1) : tAnd tt uu σ H Q := h H (Ex.refl _) _ fun H1 e => by
  cases b with
  | true => exact h1 rfl H1 e
  | false => exact h2 rfl H1 e
theorem te_lcT {g : TG} {vs : List Nat} (h : t σ H fun xs H1 => ∃ j : Int, xs = [.int j] ∧ -(2 ^ 62) ≤ j ∧ j < 2 ^ 62 ∧ tLc (fun _ H2 R => R (Itr 0 j.toNat) H2) g tt te vs σ H1 Q) : tLc (iRng1 t) g tt te vs σ H Q := h
abbrev aGrown (K : PySem.W.Frag) (c : Cst) (n : Nat) : A3 := fun a b e H Q => ∃ q m G f cn hi, a = .ref q ∧ b = f.v ∧ e = .int hi ∧ At q c m G H ∧ FAt K G n f ∧ FW n f ∧ f.k = .siz cn 0 hi true ∧ ValK c n q m G H f Q
theorem ok_law_grown (T : Tx K mg) (G__law_dict : Pr P w K mg base (10 * (n + 1) + 3) "_law_dict" (Sp2 (aDict K c (n + 1)))) : Pr P w K mg base (10 * (n + 1) + 5) "_law_grown" (Sp3 (aGrown K c (n + 1))) := by
  have G_kind := pr_kind (P := P) (w := w) (base := base) T
  have G__law_next := ok_law_next (P := P) (w := w) (base := base) (c := c) T
  have G__law_told := ok_law_told (P := P) (w := w) (base := base) T
  have G__law_plain := ok_law_plain (P := P) (w := w) (base := base) T
  have G__law_width := ok_law_width (P := P) (w := w) (base := base) (n := n) T
  refine pr3 (k := 10 * n + 14) T.d__law_grown T.g__law_grown sc__law_grown (fun _ _ _ _ _ _ us hl => match us, hl with | [_, _, _], _ => rfl) fun a b e H Q h cdv A outer s E hr hu => ?_
  obtain ⟨q, m, G, f, cn, hi, rfl, rfl, rfl, a, hA, hFW, hk, k⟩ := h
  have hone : f.k.one = true := by rw [hk]; rfl
  have hF := hFW
  unfold FW FWB at hF
  rw [hk] at hF
  obtain ⟨_, hWD, hL, hgr⟩ := hF
  obtain ⟨A0, B0, hAB, hA0, hB0, hlf, h255, hw8⟩ := hgr rfl
  have hLG : LAt K G (n + 1) f.l f.fs := hA.one hone
  refine ⟨_, (pss_cons (ps_set (i := 3) sc__law_grown.nd rfl (.inl rfl) (pe_fn G__law_dict (hr.mono (by omega)) (by rfl) (pa_cons (pv 0) (pa_cons (fldK (K := K) rfl (pv 1) rfl) pa_nil))))
      (pss_cons (ps_set (i := 4) sc__law_grown.nd rfl (.inl rfl) (pe_fn G__law_told (hr.mono (by omega)) (by rfl) (pa_cons (fldK (K := K) rfl (pv 1) rfl) pa_nil)))
      (pss_cons (ps_setLc (i := 5) (own := [("_law_one", 7)]) rfl sc__law_grown.nd rfl rfl (sw_true rfl rfl rfl (by decide +kernel)) (piLK (K := K) rfl (pv 4)) (blkOk_by (N := ["_law_state", "_law_field", "_law_high", "_law_found", "_law_asked", "_law_late", "_law_lost", "_law_one", "_law_room", "_law_k"]) (sc := defScope s__law_grown) (by decide +kernel)) (fun _ _ _ _ _ => (pg_name (i := 7) sc__law_grown.nd rfl (Or.inl rfl))) (fun _ _ _ _ _ => (pts_one (PW.pt (pw_and (pt_cmpR (op_inK (K := K) rfl) (pe_mU G_kind (hr.mono (by omega)) (pv 7)) (pe_fn0 G__law_plain (hr.mono (by omega)) (by rfl)) (by rfl)) (pw_and1 (pt_cmpR op_notN (fldK (K := K) rfl (pv 7) rfl) pe_non (by rfl))))))) (fun _ _ _ _ _ => (pv 7)))
      (pss_cons (ps_set (i := 6) sc__law_grown.nd rfl (.inl rfl) (pe_op op_mod (pe_fn G__law_next (hr.mono (by omega)) (by rfl) (pa_cons (pv 0) pa_nil)) (pe_op op_add pe_int (pe_callB (lenK (K := K) rfl) (by rfl) T.b_len (by decide +kernel) (pa_cons (pv 5) pa_nil)))))
      (pss_cons (ps_for PassesOwn.never rfl (piLK (K := K) rfl (pe_slice (slLK (K := K) rfl) (pv 4) (po_some (pe_op op_sub (pe_callB (lenK (K := K) rfl) (by rfl) T.b_len (by decide +kernel) (pa_cons (pv 4) pa_nil)) (pv 6))) po_none)) (pg_name (i := 7) sc__law_grown.nd rfl (.inl rfl)) (pss_one (ps_expr (pe_dpop1 (pv 3) (fldK (K := K) rfl (pv 7) rfl) ⟨rfl, rfl, rfl, rfl⟩))))
      (pss_cons (ps_set (i := 8) sc__law_grown.nd rfl (.inl rfl) (pe_op op_sub (pv 2) (pe_op op_fdiv (pe_fn G__law_width (hr.mono (by omega)) (by rfl) (pa_cons (fldK (K := K) rfl (pv 1) rfl) (pa_cons (pv 3) pa_nil))) pe_int)))
      (pss_cons (ps_if (PW.pt (pw_and (pt_cmpR op_eq (pv 6) pe_int (by rfl)) (pw_and (pt_cmpR op_gt (pv 8) pe_int (by rfl)) (pw_and1 (pt_cmpR op_eq (pe_op op_mod (pe_fn G__law_next (hr.mono (by omega)) (by rfl) (pa_cons (pv 0) pa_nil)) pe_int) pe_int (by rfl)))))) (pss_one (ps_dput hu (pv 3) pe_str (pe_lc (own := [("_law_k", 9)]) rfl sc__law_grown.nd (pi_range1 (by rfl) T.b_range (pa_cons (pe_op op_add pe_int (pe_op op_mod (pe_fn G__law_next (hr.mono (by omega)) (by rfl) (pa_cons (pv 0) pa_nil)) (pv 8))) pa_nil)) (blkOk_by (N := ["_law_state", "_law_field", "_law_high", "_law_found", "_law_asked", "_law_late", "_law_lost", "_law_one", "_law_room", "_law_k"]) (sc := defScope s__law_grown) (by decide +kernel)) (fun _ _ _ _ _ => (pg_name (i := 9) sc__law_grown.nd rfl (Or.inl rfl))) (fun _ _ _ _ _ => pts_nil) (fun _ _ _ _ _ => (pe_op op_mod (pe_fn G__law_next (hr.mono (by omega)) (by rfl) (pa_cons (pv 0) pa_nil)) pe_int))) rfl)) pss_nil)
      (pss_one (ps_ret (pv 3)))))))))), ?_⟩
  refine q_asgT (te_fn (ta_cons (te_var rfl (ta_cons (te_ev (ev_fields T (ev_var rfl) (Ob.mono a.ex hA.ob) hone) fun H1 e1 => ta_nil ⟨_, _, rfl, q, m, G, f.l, f.fs, rfl, rfl, a.ext e1, hLG, hWD, fun p H2 G2 kvs W u2' d2 hp hpn hGp hpq hDP => ?_⟩)))))
  have u2 := u2'.pre e1
  have hHp : H p = none := fresh_back e1 hpn
  have a2 := a.us u2 d2
  have hL2 : LAt K H2 (n + 1) f.l f.fs := hLG.mono (u2.ex.trans u2.sub)
  have ob2 : Ob K H2 f := Ob.mono (u2.ex.trans u2.sub) hA.ob
  have hsz := hWD.sz
  have htl := told_len hWD.sz
  refine q_asgL (el_told (ev_fields T (ev_var rfl) ob2 hone) hL2.seq hL2.ob hWD.tc (by omega)) fun pa H3 hpa e3 h3 => ?_
  obtain ⟨lt1, lt2⟩ := late_of (hAB ▸ hWD) hA0 hB0
  rw [← hAB] at lt1 lt2
  refine q_asgL (el_is (el_comp (xs := f.fs.filter fun f => f.k.told) (val := Fld.v) (g := Fld.v) (p := fun g => g.k.isDf && !decide (g.k.dfl = .non)) (ev_var rfl) (sq_of h3) (by omega) (fun g hg => ?_) fun g hg _ => ev_var rfl) (show _ = B0.map Fld.v by rw [lt2])) fun pb H4 hpb e4 h4 => ?_
  · have og := ((hL2.ob g (List.mem_filter.mp hg).1)).mono e3
    exact et_and (et_test (ev_is (ev_inU (ev_kind (ev_var rfl) og) eu_plain rfl rfl) (congrArg V.bl (in_isDf g.k)))) fun hd => et_test (ev_notn (ev_dfl T (ev_var rfl) og hd))
  have e34 := e3.trans e4
  have d4 := d2.ext e34
  refine q_asgT (te_op (te_next (ev_var rfl) d4 fun x H5 hx1 hx2 s5 d5 => te_ev (ev_op ev_c (ev_lenV (ev_var rfl) (lenV_lst (sq_of (s5.eh _ _ (fun z => (d2.ext e3).ne (z ▸ hpb)) h4)))) rv_I0) fun H6 e6 => ⟨x, _, rfl, rfl, by omega, ?_⟩))
  have hpaq : pa ≠ q := fun z => d2.ne (z ▸ hpa)
  have hpbq : pb ≠ q := fun z => (d2.ext e3).ne (z ▸ hpb)
  have s26 : Sx q H2 H6 := ((Sx.of e34).trans s5).trans (Sx.of e6)
  have d6 := d5.ext e6
  obtain ⟨lost, hlost, hl2⟩ : ∃ lost : Nat, x % (1 + ((B0.map Fld.v).length : Nat)) = (lost : Int) ∧ lost ≤ B0.length := by
    rw [List.length_map]
    have g1 := Int.emod_nonneg x (b := 1 + (B0.length : Int)) (by omega)
    have g2 := Int.emod_lt_of_pos x (b := 1 + (B0.length : Int)) (by omega)
    exact ⟨(x % (1 + (B0.length : Int))).toNat, by omega, by omega⟩
  show tSeq _ _ _ [some (.ref q), some f.v, some (.int hi), some (.ref p), some (.ref pa), some (.ref pb), some (.int (x % (1 + ((B0.map Fld.v).length : Nat)))), none, none, none] H6
  rw [hlost]
  -- the last fields, left out
  obtain ⟨R, hR⟩ : ∃ R, R = B0.drop (B0.length - lost) := ⟨_, rfl⟩
  obtain ⟨F1, hF1⟩ : ∃ F1, F1 = A0 ++ B0.take (B0.length - lost) := ⟨_, rfl⟩
  have hsp : f.fs = F1 ++ R := by rw [hF1, hR, List.append_assoc, List.take_append_drop, hAB]
  have hRl : R.length = lost := by rw [hR, List.length_drop]; omega
  have hRB : ∀ g ∈ R, g ∈ B0 := fun g hg => by rw [hR] at hg; exact List.mem_of_mem_drop hg
  have hRf : ∀ g ∈ R, g ∈ f.fs := fun g hg => by rw [hsp]; exact List.mem_append_right _ hg
  have hRt : ∀ g ∈ R, g.k.told = true := fun g hg => told_of_dfl hWD (hRf g hg) (hB0 g (hRB g hg))
  have h36 : H6 pa = some (.lst (toldV f.fs)) := e6 _ _ (s5.eh _ _ hpaq (e4 _ _ h3))
  have hp6 : H6 p = some (.dK kvs) := s26.eh _ _ hpq hp
  have u6 : Us q G H G2 H6 := u2.trans (s26.us u2.sub a2.no)
  have cut_eq : cutV (toldV f.fs) (some ((((toldV f.fs).length : Nat) : Int) - (lost : Int))) none = R.map Fld.v := by
    have hlen : (toldV f.fs).length = (A0.filter fun f => f.k.told).length + B0.length := by
      show (((f.fs.filter fun f => f.k.told)).map Fld.v).length = _
      rw [List.length_map, lt1, List.length_append]
    rw [show (((toldV f.fs).length : Nat) : Int) - (lost : Int) = (((toldV f.fs).length - lost : Nat) : Int) by omega, cutV_drop _ _ (by omega)]
    show (((f.fs.filter fun f => f.k.told)).map Fld.v).drop _ = _
    rw [← List.map_drop, lt1, List.drop_append, List.drop_of_length_le (by omega), List.nil_append, hR]
    congr 2
    omega
  have hnmR : ∀ i g, R[i]? = some g → ∀ x ∈ R.take i, kn g.nm ≠ kn x.nm := by
    intro i g hg x hx e
    have hnd : (R.map Fld.nm).Nodup := by
      have := hWD.nd
      rw [hsp, List.map_append] at this
      exact (List.nodup_append.mp this).2.1
    obtain ⟨j, hj⟩ := List.mem_iff_getElem?.mp hx
    rw [List.getElem?_take] at hj
    split at hj
    · rename_i hji
      obtain ⟨l1, k1⟩ := List.getElem?_eq_some_iff.mp hj
      obtain ⟨l2, k2⟩ := List.getElem?_eq_some_iff.mp hg
      have m1 : j < (R.map Fld.nm).length := by rw [List.length_map]; exact l1
      have m2 : i < (R.map Fld.nm).length := by rw [List.length_map]; exact l2
      have pw := List.pairwise_iff_getElem.mp hnd j i m1 m2 hji
      rw [List.getElem_map, List.getElem_map, k1, k2] at pw
      exact pw (kn_inj e).symm
    · cases hj
  obtain ⟨hndk, hks, hpv⟩ := id hDP
  refine q_forNLn (el_is (el_sl (ev_var rfl) (eo_some (ev_op (ev_lenV (ev_var rfl) (lenV_lst (sq_of h36))) (ev_var rfl) rv_I0)) eo_none (sq_of h36)) cut_eq) (fun pt i σ' H' => ∃ z, σ' = [some (.ref q), some f.v, some (.int hi), some (.ref p), some (.ref pa), some (.ref pb), some (.int (lost : Int)), z, none, none] ∧ Us q G H G2 H' ∧ DSt q c m H' ∧ H' p = some (.dK (dropAll (R.take i) kvs)) ∧ H' pt = some (.lst (R.map Fld.v)) ∧ pt ≠ p)
    (fun pt H7 hpt e7 h7 => ⟨none, rfl, u6.ext e7, d6.ext e7, e7 _ _ hp6, h7, fun z => by rw [z, hp6] at hpt; cases hpt⟩) (fun pt i σ' H' _ cc => by obtain ⟨_, _, _, _, _, h, _⟩ := cc; exact sq_of h) ?_ ?_
  · rintro pt i x' σ' H' hx ⟨z, rfl, u', d', hp', hpt, hptp⟩
    obtain ⟨g, hg, hm, rfl⟩ := map_get hx
    have og : Ob K H' g := (hLG.mono (u'.ex.trans u'.sub)).ob g (hRf g hm)
    obtain ⟨uv, _, hval, _⟩ : ∃ u w, valV kvs (kn g.nm) = some u ∧ FOk G2 n g u w := by
      obtain ⟨w0, hw⟩ := sum_get hpv g (hRf g hm)
      rw [hRt g hm] at hw
      obtain ⟨u, h1, h2⟩ := hw
      exact ⟨u, w0, h1, h2⟩
    refine ⟨.ref p, rfl, p, rfl, .inl ⟨_, .of hp'⟩, te_ev (ev_name T (ev_var rfl) og) fun H8 e8 => ⟨_, kn g.nm, uv, e8 _ _ hp', rfl, ?_, ?_⟩⟩
    · rw [dropAll_out fun x hx => hnmR i g hg x hx]
      exact hval
    · refine ⟨_, rfl, (u'.ext e8).mut hHp hGp, (d'.ext e8).upd hpq, by rw [upd_same, dropAll_take hg], by rw [upd_ne hptp]; exact e8 _ _ hpt, hptp⟩
  · rintro pt σ' H7 ⟨z, rfl, u7, d7, hp7, _, _⟩
    rw [List.length_map, List.take_length] at hp7
    have hDP' : DictP G2 (n + 1) (F1 ++ R) kvs W := hsp ▸ hDP
    obtain ⟨wa, gp⟩ := grownP (hsp ▸ hWD) hDP' fun g hg => ⟨hB0 g (hRB g hg), hw8 g (hRB g hg)⟩
    rw [← hsp] at gp
    obtain ⟨kv2, hkv2⟩ : ∃ k, k = dropAll R kvs := ⟨_, rfl⟩
    rw [← hkv2] at gp hp7
    have hLW := hL W (PVB.len (DG.len n).1 (DG.len n).2 hpv)
    have hL7 : LAt K H7 (n + 1) f.l f.fs := hLG.mono (u7.ex.trans u7.sub)
    have ob7 : Ob K H7 f := Ob.mono (u7.ex.trans u7.sub) hA.ob
    obtain ⟨ws, hws1, hws2⟩ := gp.ws
    refine q_asg (v := .int (hi - ((wa / 8 : Nat) : Int))) (ev_op (ev_var rfl) (ev_is (ev_op (ev_wid (ev_fields T (ev_var rfl) ob7 hone) (ev_var rfl) hL7 hWD hlf hp7 gp.rest (hws1.imp fun f w h => h.imp (fun ⟨a, u, b, d⟩ => ⟨a, u, b, d.mono u7.sub⟩) id)) ev_c (rv_I (show CDiv _ _ from ⟨by decide, by decide⟩))) (congrArg V.int (by rw [hws2]; omega))) rv_I0) fun H8 e8 => ?_
    obtain ⟨room, hroom⟩ : ∃ room : Int, room = hi - ((wa / 8 : Nat) : Int) := ⟨_, rfl⟩
    rw [← hroom]
    show tSeq _ _ _ [some (.ref q), some f.v, some (.int hi), some (.ref p), some (.ref pa), some (.ref pb), some (.int (lost : Int)), z, some (.int room), none] H8
    have u8 := u7.ext e8
    have d8 := d7.ext e8
    have hp8 := e8 _ _ hp7
    have fin : ∀ H9, Sx q H8 H9 → DSt q c m H9 → tRet (tVar 3) { nx := fun _ H' => Q .non H', rt := Q } [some (.ref q), some f.v, some (.int hi), some (.ref p), some (.ref pa), some (.ref pb), some (.int (lost : Int)), z, some (.int room), none] H9 := by
      intro H9 s9 d9
      have u9 : Us q G H G2 H9 := u8.trans (s9.us u8.sub a2.no)
      have hp9 := s9.eh _ _ hpq hp8
      refine s_ret (ev_var rfl) fun H10 e10 => ?_
      exact k (.ref p) H10 (upd G2 p (.dK kv2)) wa ((u9.ext e10).add hpq hHp (e10 _ _ hp9) hGp) (d9.ext e10) ((gp.mono (Ex.new hGp)).fits hsp hk rfl upd_same hLW.1 hLW.2)
    refine (show tSeq _ _ _ _ _ from tt_and (et_test (ev_op (ev_var rfl) ev_c (rv_eq rfl))) (fun h0 H9 e9 => ?_) fun _ H9 e9 => fin H9 (Sx.of e9) (d8.ext e9))
    refine (show tAnd _ _ _ _ _ from tt_and (et_test (ev_op (ev_var rfl) ev_c rv_I0)) (fun hr0 H10 e10 => ?_) fun _ H10 e10 => fin H10 (Sx.of (e9.trans e10)) (d8.ext (e9.trans e10)))
    have e8A := e9.trans e10
    refine te_nmeq rfl (d8.ext e8A) (by decide) fun bb H11 s11 d11 => ⟨bb, rfl, ?_⟩
    have s8B := (Sx.of e8A).trans s11
    cases bb with
    | false => exact fin H11 s8B d11
    | true =>
      have hlost0 : lost = 0 := by
        have := V.int.inj (of_decide_eq_true h0)
        omega
      have hroom0 : 0 < room := of_decide_eq_true hr0
      have hR0 : R = [] := List.length_eq_zero_iff.mp (by omega)
      have hF1f : F1 = f.fs := by rw [hsp, hR0, List.append_nil]
      rw [hR0, hF1f] at gp
      refine Eq.mpr (if_pos (c := true = true) rfl) ?_
      refine te_lcT (ta_cons (te_op (te_c (te_op (te_next (ev_var rfl) d11 fun x H12 hx1 hx2 s12 d12 => te_var rfl ⟨x, room, rfl, rfl, hroom0, te_addI (ta_nil ⟨_, rfl, ?_, ?_, fun Dl hD => ?_⟩)⟩)))))
      · have g1 := Int.emod_nonneg x (b := room) (by omega)
        have g2 := Int.emod_lt_of_pos x (b := room) (by omega)
        omega
      · have g1 := Int.emod_nonneg x (b := room) (by omega)
        have g2 := Int.emod_lt_of_pos x (b := room) (by omega)
        omega
      have g1 := Int.emod_nonneg x (b := room) (by omega)
      have g2 := Int.emod_lt_of_pos x (b := room) (by omega)
      obtain ⟨rl, hrl⟩ : ∃ rl : Nat, (1 + x % room).toNat = rl := ⟨_, rfl⟩
      have hrl2 : 1 ≤ rl ∧ (rl : Int) ≤ room := by omega
      rw [hrl]
      have hDq : Dl ≠ q := fun z => d12.ne (z ▸ hD)
      have s8C := s8B.trans s12
      refine lc_range (fun i H' => ∃ bs : List Int, H' Dl = some (.lst (bs.map V.int)) ∧ bs.length = i ∧ (∀ b ∈ bs, 0 ≤ b ∧ b ≤ 255) ∧ Sx q H12 H' ∧ DSt q c m H') ⟨[], upd_same, rfl, fun _ h => absurd h List.not_mem_nil, (Sx.refl _).mut hD, d12.upd hDq⟩ (fun i H' hi ⟨bs, hz, hzl, hzs, s', d'⟩ => ?_) fun H' ⟨bs, hz, hzl, hzs, s', d'⟩ => ?_
      · refine ⟨rfl, ?_⟩
        simp only [tYes, if_true]
        refine te_nm rfl d' (by decide) fun y H13 hy1 hy2 s13 d13 => ⟨_, s13.eh _ _ hDq hz, sz_lt (by rw [List.length_map]; omega), bs ++ [y], by rw [upd_same, List.map_append]; rfl, by rw [List.length_append, hzl]; rfl, fun b hb => ?_, (s'.trans s13).mut hD, d13.upd hDq⟩
        rcases List.mem_append.mp hb with h | h
        · exact hzs b h
        · rw [List.mem_singleton.mp h]
          omega
      · have sAll := s8C.trans s'
        have uA : Us q G H G2 H' := u8.trans (sAll.us u8.sub a2.no)
        have hpZ := sAll.eh _ _ hpq hp8
        have hDp : Dl ≠ p := fun z => by have := s8C.eh _ _ hpq hp8; rw [← z, hD] at this; cases this
        have hHD : H Dl = none := by
          have u12 : Us q G H G2 H12 := u8.trans (s8C.us u8.sub a2.no)
          exact back_us u12 hDq hD
        have hGD : G2 Dl = none := by
          have u12 : Us q G H G2 H12 := u8.trans (s8C.us u8.sub a2.no)
          exact fresh_back u12.sub hD
        have hlen := gp.few
        refine ⟨.ref p, rfl, p, _, rfl, DPut.k (k := kn "rest") hpZ (sz_lt (by omega)), ?_⟩
        rw [putK_new _ gp.rest]
        refine s_ret (ev_var rfl) fun H14 e14 => ?_
        have hDZ : (upd H' p (.dK (kv2 ++ [(kn "rest", .ref Dl)]))) Dl = some (.lst (bs.map V.int)) := by rw [upd_ne hDp]; exact hz
        have uM := ((uA.mut (o := .dK (kv2 ++ [(kn "rest", .ref Dl)])) hHp hGp).ext e14).add hDq hHD (e14 _ _ hDZ) hGD
        have hGp2 : (upd G2 Dl (.lst (bs.map V.int))) p = none := by rw [upd_ne hDp.symm]; exact hGp
        have uF := uM.add hpq hHp (e14 _ _ upd_same) hGp2
        have hbs0 : bs ≠ [] := fun z => by rw [z] at hzl; simp at hzl; omega
        refine k (.ref p) H14 _ (wa + 8 * bs.length) uF ((d'.upd hpq).ext e14) (((gp.mono (Ex.new hGD)).mono (Ex.new hGp2)).fitsR hk rfl hWD.nr upd_same (Ex.new hGp2 _ _ upd_same) hbs0 hzs h255 (by omega))
end
end Fk

set_option Elab.async false
set_option linter.all false
set_option maxRecDepth 100000
set_option maxHeartbeats 4000000
set_option exponentiation.threshold 3000
namespace Fk
open PySem PySem.Spec PyProof.Rows L2 Evl
theorem WD.m8' {n w : Nat} {fs : List Fld} (h : WD n fs) (hw : LL n fs w) : w % 8 = 0 := by
  cases n with
  | zero => exact h.elim
  | succ n => exact h.m8 w hw
section
variable {P : Program} {w : World} {K : PySem.W.Frag} {mg : Str → Option Value} {base : Heap} {σ : L2.St} {G H H' : Hp} {te ta tb tc tl td ty tx tv : TE} {tt uu : TT} {tu tw tz : TS} {D : Ends} {q : Addr} {c : Cst} {n m i d : Nat} {Q : VK} {v : V} {t tr : TA} {QA : List V → Hp → Prop} {r : R2} {sp : Sp} {f : Fld}
theorem tt_or {Q : Bool → Hp → Prop} {b : Bool} (h : EvT tt σ H b) (h1 : b = true → ∀ H1, Ex H H1 → Q true H1) (h2 : b = false → ∀ H1, Ex H H1 → uu σ H1 Q) : tOr tt uu σ H Q := h H (Ex.refl _) _ fun H1 e => by
  cases b with
  | true => exact h1 rfl H1 e
  | false => exact h2 rfl H1 e
theorem ev_chain2 {r r' : R2} {a b : Bool} {x y z : V} (ha : Ev ta σ H x) (hb : Ev tb σ H y) (hr : RV r x y H (.bl a)) (hc : Ev tc σ H z) (hr2 : RV r' y z H (.bl b)) : Ev (tChain r r' ta tb tc) σ H (.bl (a && b)) := fun H1 e Q q =>
  ha H1 e _ fun H2 e2 => hb H2 (e.trans e2) _ fun H3 e3 => hr H3 ((e.trans e2).trans e3) _ fun H4 e4 => ⟨a, rfl, by
    have eA := ((e.trans e2).trans e3).trans e4
    cases a with
    | true => exact hc H4 eA _ fun H5 e5 => hr2 H5 (eA.trans e5) Q fun H6 e6 => q H6 ((((e2.trans e3).trans e4).trans e5).trans e6)
    | false => exact q H4 ((e2.trans e3).trans e4)⟩
theorem ok_law_value (T : Tx K mg) (G__law_dict : Pr P w K mg base (10 * n + 3) "_law_dict" (Sp2 (aDict K c n))) (G__law_grown : Pr P w K mg base (10 * n + 5) "_law_grown" (Sp3 (aGrown K c n))) : Pr P w K mg base (10 * n + 8) "_law_value" (Sp3 (aValue K c n)) := by
  have G_kind := pr_kind (P := P) (w := w) (base := base) T
  have G_least := pr_least (P := P) (w := w) (base := base) T
  have G_greatest := pr_greatest (P := P) (w := w) (base := base) T
  have G__law_next := ok_law_next (P := P) (w := w) (base := base) (c := c) T
  have G__law_let := ok_law_let (P := P) (w := w) (base := base) (n := n) T
  have G__law_text := ok_law_text (P := P) (w := w) (base := base) (c := c) T
  have G__law_count := ok_law_count (P := P) (w := w) (base := base) (c := c) (n := n) T
  refine pr3 (k := 10 * n + 7) T.d__law_value T.g__law_value sc__law_value (fun _ _ _ _ _ _ us hl => match us, hl with | [_, _, _], _ => rfl) fun a b e H Q h cdv A outer s E hr hu => ?_
  obtain ⟨q, m, G, l, fs, f, rfl, rfl, rfl, a, hL, hW, hf, hft, k⟩ := h
  have hA : FAt K G n f := hL.2 f hf
  have hLH : LAt K H (n + 1) l fs := hL.mono a.ex
  have ob := hLH.ob f hf
  have hF : FWB (WD n) (LL n) f := hW.fw f hf
  unfold FWB at hF
  -- a dict for the one list in the field
  refine ⟨_, (pss_cons (ps_set (i := 3) sc__law_value.nd rfl (.inl rfl) (pe_mU G_kind (hr.mono (by omega)) (pv 2)))
      (pss_cons (ps_if (pt_cmpR op_eq (pv 3) pe_str (by rfl)) (pss_cons (ps_set (i := 4) sc__law_value.nd rfl (.inr rfl) (pe_mU G_least (hr.mono (by omega)) (pv 2)))
      (pss_cons (ps_set (i := 5) sc__law_value.nd rfl (.inr rfl) (pe_mU G_greatest (hr.mono (by omega)) (pv 2)))
      (pss_one (ps_ret (pe_ix (ixLK (K := K) rfl) (pe_lst (pa_cons (pv 4) (pa_cons (pv 5) (pa_cons (pe_op op_add (pv 4) (pe_op op_mod (pe_fn G__law_next (hr.mono (by omega)) (by rfl) (pa_cons (pv 0) pa_nil)) (pe_op op_add (pe_op op_sub (pv 5) (pv 4)) pe_int))) pa_nil)))) (pe_op op_mod (pe_fn G__law_next (hr.mono (by omega)) (by rfl) (pa_cons (pv 0) pa_nil)) pe_int) (fun _ _ => rfl)))))) pss_nil)
      (pss_cons (ps_if (pt_cmpR op_eq (pv 3) pe_str (by rfl)) (pss_cons (ps_set (i := 6) sc__law_value.nd rfl (.inl rfl) (pe_lst (pa_cons pe_int (pa_cons pe_int (pa_cons pe_int (pa_cons pe_int (pa_cons pe_int (pa_cons pe_int (pa_cons pe_int (pa_cons (fldK (K := K) rfl (pv 2) rfl) (pa_cons (pe_fn G__law_next (hr.mono (by omega)) (by rfl) (pa_cons (pv 0) pa_nil)) pa_nil)))))))))))
      (pss_one (ps_ret (pe_callB (call_min2 rfl) (by rfl) T.b_min (by decide +kernel) (pa_cons (fldK (K := K) rfl (pv 2) rfl) (pa_cons (pe_ix (ixLK (K := K) rfl) (pv 6) (pe_op op_mod (pe_fn G__law_next (hr.mono (by omega)) (by rfl) (pa_cons (pv 0) pa_nil)) pe_int) (fun _ _ => rfl)) pa_nil)))))) pss_nil)
      (pss_cons (ps_if (pt_cmpR op_eq (pv 3) pe_str (by rfl)) (pss_one (ps_ret (pe_fn G__law_text (hr.mono (by omega)) (by rfl) (pa_cons (pv 0) (pa_cons (pe_fn G__law_count (hr.mono (by omega)) (by rfl) (pa_cons (pv 0) (pa_cons (pv 1) (pa_cons (pv 2) pa_nil)))) pa_nil))))) pss_nil)
      (pss_cons (ps_if (pt_cmpR op_eq (pv 3) pe_str (by rfl)) (pss_one (ps_ret (pe_lc (own := [("_law_k", 10)]) rfl sc__law_value.nd (pi_range1 (by rfl) T.b_range (pa_cons (pe_fn G__law_count (hr.mono (by omega)) (by rfl) (pa_cons (pv 0) (pa_cons (pv 1) (pa_cons (pv 2) pa_nil)))) pa_nil)) (blkOk_by (N := ["_law_state", "_law_fields", "_law_field", "_law_kind", "_law_low", "_law_high", "_law_some", "_law_cases", "_law_number_here", "_law_inner", "_law_k", "_law_case"]) (sc := defScope s__law_value) (by decide +kernel)) (fun _ _ _ _ _ => (pg_name (i := 10) sc__law_value.nd rfl (Or.inl rfl))) (fun _ _ _ _ _ => pts_nil) (fun _ _ _ _ _ => (pe_fn G__law_dict (hr.mono (by omega)) (by rfl) (pa_cons (pv 0) (pa_cons (fldK (K := K) rfl (pv 2) rfl) pa_nil))))))) pss_nil)
      (pss_cons (ps_if (pt_cmpR op_eq (pv 3) pe_str (by rfl)) (pss_cons (ps_asg (pe_fn G__law_let (hr.mono (by omega)) (by rfl) (pa_cons (pv 1) (pa_cons (pv 2) pa_nil))) (pgTK (K := K) (n := 2) rfl rfl (pgs_cons (pg_name (i := 4) sc__law_value.nd rfl (.inr rfl)) (pgs_cons (pg_name (i := 5) sc__law_value.nd rfl (.inr rfl)) pgs_nil))))
      (pss_cons (ps_setLc (i := 7) (own := [("_law_case", 11)]) rfl sc__law_value.nd rfl rfl (sw_true rfl rfl rfl (by decide +kernel)) (piLK (K := K) rfl (fldK (K := K) rfl (pv 2) rfl)) (blkOk_by (N := ["_law_state", "_law_fields", "_law_field", "_law_kind", "_law_low", "_law_high", "_law_some", "_law_cases", "_law_number_here", "_law_inner", "_law_k", "_law_case"]) (sc := defScope s__law_value) (by decide +kernel)) (fun _ _ _ _ _ => (pg_name (i := 11) sc__law_value.nd rfl (Or.inl rfl))) (fun _ _ _ _ _ => (pts_one (pt_chain op_le op_le (pv 4) (pe_ix (ixTK (K := K) rfl) (pv 11) pe_int (fun _ _ => rfl)) (pv 5)))) (fun _ _ _ _ _ => (pv 11)))
      (pss_cons (ps_asg (pe_ix (ixLK (K := K) rfl) (pv 7) (pe_op op_mod (pe_fn G__law_next (hr.mono (by omega)) (by rfl) (pa_cons (pv 0) pa_nil)) (pe_callB (lenK (K := K) rfl) (by rfl) T.b_len (by decide +kernel) (pa_cons (pv 7) pa_nil))) (fun _ _ => rfl)) (pgTK (K := K) (n := 2) rfl rfl (pgs_cons (pg_name (i := 8) sc__law_value.nd rfl (.inl rfl)) (pgs_cons (pg_name (i := 9) sc__law_value.nd rfl (.inl rfl)) pgs_nil))))
      (pss_one (ps_ret (pe_tup (pa_cons (pv 8) (pa_cons (pe_fn G__law_dict (hr.mono (by omega)) (by rfl) (pa_cons (pv 0) (pa_cons (pv 9) pa_nil))) pa_nil)))))))) pss_nil)
      (pss_cons (ps_if (pt_cmpR op_eq (pv 3) pe_str (by rfl)) (pss_cons (ps_asg (pe_fn G__law_let (hr.mono (by omega)) (by rfl) (pa_cons (pv 1) (pa_cons (pv 2) pa_nil))) (pgTK (K := K) (n := 2) rfl rfl (pgs_cons (pg_name (i := 4) sc__law_value.nd rfl (.inr rfl)) (pgs_cons (pg_name (i := 5) sc__law_value.nd rfl (.inr rfl)) pgs_nil))))
      (pss_one (ps_if (PW.pt (pw_or (pt_cmpR op_eq (pv 5) pe_int (by rfl)) (pw_or1 (PW.pt (pw_and (pt_cmpR op_eq (pv 4) pe_int (by rfl)) (pw_and1 (pt_cmpR op_eq (pe_op op_mod (pe_fn G__law_next (hr.mono (by omega)) (by rfl) (pa_cons (pv 0) pa_nil)) pe_int) pe_int (by rfl)))))))) (pss_one (ps_ret pe_non)) pss_nil))) pss_nil)
      (pss_cons (ps_if (PW.pt (pw_and (pt_cmpR op_eq (pv 3) pe_str (by rfl)) (pw_and1 (pt_val (fldK (K := K) rfl (pv 2) rfl))))) (pss_one (ps_ret (pe_fn G__law_grown (hr.mono (by omega)) (by rfl) (pa_cons (pv 0) (pa_cons (pv 2) (pa_cons (pe_ix (ixTK (K := K) rfl) (pe_fn G__law_let (hr.mono (by omega)) (by rfl) (pa_cons (pv 1) (pa_cons (pv 2) pa_nil))) pe_int (fun _ _ => rfl)) pa_nil)))))) pss_nil)
      (pss_one (ps_ret (pe_fn G__law_dict (hr.mono (by omega)) (by rfl) (pa_cons (pv 0) (pa_cons (fldK (K := K) rfl (pv 2) rfl) pa_nil))))))))))))), ?_⟩
  refine (sv_asg (ev_kind (ev_var rfl) ob) ?_).here
  obtain ⟨kd, hkd⟩ : ∃ s : Str, s = f.k.word := ⟨_, rfl⟩
  rw [← hkd]
  show SV _ _ [some (.ref q), some (.ref l), some f.v, some (.str kd), none, none, none, none, none, none, none, none] H
  have kw : ∀ s, f.k.word = s → Ev (tVar 3) [some (.ref q), some (.ref l), some f.v, some (.str kd), none, none, none, none, none, none, none, none] H (.str s) := fun s hs => ev_var (by rw [hkd, hs]; rfl)
  have dictR : ∀ (z4 z5 : Option V) (H1 : Hp), f.k.one = true → WD n f.fs → Sx q H H1 → DSt q c m H1 → (∀ u H' G' W, Us q G H G' H' → DSt q c m H' → DOk G' n f.fs u W → Q u H') →
      tRet (tFn (Sp2 (aDict K c n)) (tCons (tVar 0) (tCons (tFld K (tVar 2) "fields") tNil))) { nx := fun _ H' => Q .non H', rt := Q } [some (.ref q), some (.ref l), some f.v, some (.str kd), z4, z5, none, none, none, none, none, none] H1 := by
    intro z4 z5 H1 hone hWD s1 d1 kk
    have a1 := a.sx s1 d1
    refine s_retT (te_fn (ta_cons (te_var rfl (ta_cons (te_ev (ev_fields T (ev_var rfl) (Ob.mono a1.ex hA.ob) hone) fun H2 e2 => ta_nil ⟨_, _, rfl, q, m, G, f.l, f.fs, rfl, rfl, a1.ext e2, hA.one hone, hWD, fun p H3 G3 kvs W u3 d3 hp hpn hGp hpq hDP => ?_⟩)))))
    have uA := (a.sus s1).trans (u3.pre e2)
    exact kk (.ref p) H3 _ W (uA.add hpq (back_us (a.sus (s1.trans (Sx.of e2))) hpq hpn) hp hGp) d3 ((hDP.mono (Ex.new hGp)).dok upd_same)
  -- what stands behind the kinds that return
  have rest : ∀ (z4 z5 : Option V) (H1 : Hp) {tg : TS}, kd ≠ "sized" → f.k.one = true → WD n f.fs → Sx q H H1 → DSt q c m H1 → (∀ u H' G' W, Us q G H G' H' → DSt q c m H' → DOk G' n f.fs u W → Q u H') →
      tSeq (tIfS (tAnd (tTest (tOp rEq (tVar 3) (tC (.str "sized")))) (tB (tFld K (tVar 2) "grows"))) tg tNext) (tRet (tFn (Sp2 (aDict K c n)) (tCons (tVar 0) (tCons (tFld K (tVar 2) "fields") tNil)))) { nx := fun _ H' => Q .non H', rt := Q } [some (.ref q), some (.ref l), some f.v, some (.str kd), z4, z5, none, none, none, none, none, none] H1 := by
    intro z4 z5 H1 tg hne hone hWD s1 d1 kk
    refine (sv_skipT (H := H1) (et_is (et_and (a := false) (b := false) (et_test (ev_is (ev_op (ev_var rfl) ev_c (rv_eq rfl)) (congrArg V.bl (decide_eq_false fun z => hne (V.str.inj z))))) fun z => nomatch z) rfl) fun H2 e2 => ?_).here
    exact dictR z4 z5 H2 hone hWD (s1.trans (Sx.of e2)) (d1.ext e2) kk
  cases hk : f.k with
  | chk => rw [hk] at hft; cases hft
  | spt => rw [hk] at hft; cases hft
  | num w0 sg lt lo hi df ct =>
    rw [hk] at hF
    have hn : IsNum f := ⟨w0, sg, lt, lo, hi, df, ct, hk, hF.1, hF.2.1⟩
    have hlg : f.k.least ≤ f.k.greatest := by rw [hk]; exact hF.2.2.1
    refine sv_take (kw "number" (by rw [hk]; rfl)) rfl (sv_asg (ev_least (ev_var rfl) ob hn) (sv_asg (ev_greatest (ev_var rfl) ob hn) fun H1 e1 => ?_))
    refine s_retT (te_op (show tLst _ _ _ _ from ta_cons (te_var rfl (ta_cons (te_var rfl (ta_cons (te_op (te_var rfl (te_op (te_next (ev_var rfl) (a.st.ext e1) fun x H2 hx1 hx2 s2 d2 => te_ev (ev_op (ev_op (ev_var rfl) (ev_var rfl) rv_I0) ev_c rv_I0) fun H3 e3 => ⟨x, f.k.greatest - f.k.least + 1, rfl, rfl, by omega, te_addI (ta_nil ⟨sz_of (by simp), fun pl hpl => te_nm rfl ((d2.ext e3).ext (Ex.new hpl)) (by decide) fun z H4 hz1 hz2 s4 d4 => ?_⟩)⟩))))))))))
    have hplq : pl ≠ q := fun z => (d2.ext e3).ne (z ▸ hpl)
    obtain ⟨j, rfl⟩ : ∃ j : Nat, z = (j : Int) := ⟨z.toNat, by omega⟩
    have g1 := Int.emod_nonneg x (b := f.k.greatest - f.k.least + 1) (by omega)
    have g2 := Int.emod_lt_of_pos x (b := f.k.greatest - f.k.least + 1) (by omega)
    obtain ⟨y, hy1, hy2, hy⟩ : ∃ y : Int, f.k.least ≤ y ∧ y ≤ f.k.greatest ∧ ([V.int f.k.least, .int f.k.greatest, .int (f.k.least + x % (f.k.greatest - f.k.least + 1))] : List V)[j]? = some (.int y) := by
      rcases j with _ | _ | _ | j
      · exact ⟨_, Int.le_refl _, hlg, rfl⟩
      · exact ⟨_, hlg, Int.le_refl _, rfl⟩
      · exact ⟨_, by omega, by omega, rfl⟩
      · omega
    refine ⟨pl, _, _, .int y, rfl, rfl, sq_of (s4.eh _ _ hplq upd_same), atI_nat hy, ?_⟩
    have sA : Sx q H H4 := ((((Sx.of e1).trans s2).trans (Sx.of e3)).trans (Sx.of (Ex.new hpl))).trans s4
    refine k (.int y) H4 G w0 (a.sus sA) d4 ?_
    unfold FOk FOkB
    rw [hk] at hy1 hy2 ⊢
    exact ⟨y, rfl, hy1, hy2, rfl⟩
  | sev hi lo df =>
    rw [hk] at hF
    have hhi : ∀ {σ' : L2.St} {H' : Hp} {ta : TE}, Ev ta σ' H' f.v → Ob K H' f → Ev (tFld K ta "high") σ' H' (.int hi) := by
      intro σ' H' ta h1 h2
      refine ev_at T h1 h2 ?_
      obtain ⟨p, nm, k, l, ss⟩ := f
      subst hk
      exact ⟨rfl, T.na_Seven_high⟩
    refine sv_skip (kw "seven" (by rw [hk]; rfl)) (by decide +kernel) (sv_take (kw "seven" (by rw [hk]; rfl)) rfl fun H1 e1 => ?_)
    refine q_asgT (show tLst _ _ _ _ from ta_cons (te_c (ta_cons (te_c (ta_cons (te_c (ta_cons (te_c (ta_cons (te_c (ta_cons (te_c (ta_cons (te_c (ta_cons (te_ev (hhi (ev_var rfl) (ob.mono e1)) fun H2 e2 => ta_cons (te_next (ev_var rfl) (a.st.ext (e1.trans e2)) fun x H3 hx1 hx2 s3 d3 => ta_nil ⟨sz_of (by simp), fun pl hpl => ?_⟩)))))))))))))))))
    have hplq : pl ≠ q := fun z => d3.ne (z ▸ hpl)
    have s3' : Sx q H (upd H3 pl (.lst [.int 0, .int 127, .int 128, .int 16383, .int 16384, .int 2097151, .int 2097152, .int hi, .int x])) := (((Sx.of (e1.trans e2)).trans s3).trans (Sx.of (Ex.new hpl)))
    have d3' : DSt q c m (upd H3 pl (.lst [.int 0, .int 127, .int 128, .int 16383, .int 16384, .int 2097151, .int 2097152, .int hi, .int x])) := d3.ext (Ex.new hpl)
    refine s_retT (show tCB _ _ _ _ _ from ta_cons (te_ev (hhi (ev_var rfl) (Ob.mono' ob s3' a.st)) fun H4 e4 => ta_cons (te_op (te_var rfl (te_nm rfl (d3'.ext e4) (by decide) fun z H5 hz1 hz2 s5 d5 => ?_)))))
    obtain ⟨j, rfl⟩ : ∃ j : Nat, z = (j : Int) := ⟨z.toNat, by omega⟩
    obtain ⟨y, hy1, hy⟩ : ∃ y : Int, 0 ≤ y ∧ ([V.int 0, .int 127, .int 128, .int 16383, .int 16384, .int 2097151, .int 2097152, .int hi, .int x] : List V)[j]? = some (.int y) := by
      have hj : j < ([V.int 0, .int 127, .int 128, .int 16383, .int 16384, .int 2097151, .int 2097152, .int hi, .int x] : List V).length := by show j < 9; omega
      have hm := List.getElem_mem hj
      rw [List.getElem?_eq_getElem hj]
      generalize ([V.int 0, .int 127, .int 128, .int 16383, .int 16384, .int 2097151, .int 2097152, .int hi, .int x] : List V)[j] = e at hm
      simp only [List.mem_cons, List.not_mem_nil, or_false] at hm
      rcases hm with rfl | rfl | rfl | rfl | rfl | rfl | rfl | rfl | rfl
      · exact ⟨_, by decide, rfl⟩
      · exact ⟨_, by decide, rfl⟩
      · exact ⟨_, by decide, rfl⟩
      · exact ⟨_, by decide, rfl⟩
      · exact ⟨_, by decide, rfl⟩
      · exact ⟨_, by decide, rfl⟩
      · exact ⟨_, by decide, rfl⟩
      · exact ⟨_, hF.1, rfl⟩
      · exact ⟨_, hx1, rfl⟩
    refine ⟨pl, _, _, .int y, rfl, rfl, sq_of (s5.eh _ _ hplq (e4 _ _ upd_same)), atI_nat hy, ta_nil ⟨hi, y, rfl, ?_⟩⟩
    have hF1 := hF.1
    obtain ⟨u, hu1, hu2⟩ : ∃ u : Nat, (if y < hi then y else hi) = (u : Int) ∧ (u : Int) ≤ hi := by
      refine ⟨(if y < hi then y else hi).toNat, ?_, ?_⟩ <;> split <;> omega
    rw [hu1]
    refine k (.int u) H5 G (8 * sevB u) (a.sus ((s3'.trans (Sx.of e4)).trans s5)) d5 ?_
    unfold FOk FOkB
    rw [hk]
    exact ⟨u, rfl, hu2, rfl⟩
  | txt hw df =>
    rw [hk] at hF
    refine sv_skip (kw "text" (by rw [hk]; rfl)) (by decide +kernel) (sv_skip (kw "text" (by rw [hk]; rfl)) (by decide +kernel) (sv_take (kw "text" (by rw [hk]; rfl)) rfl fun H1 e1 => ?_))
    have hB : HowB hw 60 := by
      have := hF.1
      cases hw <;> exact this
    refine s_retT (te_fn (ta_cons (te_var rfl (ta_cons (te_fn (ta_cons (te_var rfl (ta_cons (te_var rfl (ta_cons (te_var rfl (ta_nil ⟨_, _, _, rfl, q, m, l, fs, f, hw, 60, rfl, rfl, rfl, a.st.ext e1, hLH.mono e1, hW, hf, .inl ⟨df, hk⟩, hB, fun x H2 hok hx s2 d2 => ta_nil ⟨_, _, rfl, q, m, x, rfl, rfl, hx, d2, fun z H3 hz hzl s3 d3 => ?_⟩⟩))))))))))))
    refine k (.str z) H3 G (8 * z.length + hw.e) (a.sus (((Sx.of e1).trans s2).trans s3)) d3 ?_
    unfold FOk FOkB
    rw [hk]
    exact ⟨z, rfl, hz, by rw [hzl]; exact hok, by omega, rfl⟩
  | row hw mk =>
    have hone : f.k.one = true := by rw [hk]; rfl
    rw [hk] at hF
    have hB : HowB hw 4 := by
      have := hF.1
      cases hw with
      | fix m => exact this
      | by_ c lo hi => exact this
      | end_ m => exact this.1
    refine sv_skip (kw "row" (by rw [hk]; rfl)) (by decide +kernel) (sv_skip (kw "row" (by rw [hk]; rfl)) (by decide +kernel) (sv_skip (kw "row" (by rw [hk]; rfl)) (by decide +kernel) (sv_take (kw "row" (by rw [hk]; rfl)) rfl fun H1 e1 => ?_)))
    refine s_retT (te_lcT (ta_cons (te_fn (ta_cons (te_var rfl (ta_cons (te_var rfl (ta_cons (te_var rfl (ta_nil ⟨_, _, _, rfl, q, m, l, fs, f, hw, 4, rfl, rfl, rfl, a.st.ext e1, hLH.mono e1, hW, hf, .inr ⟨mk, hk⟩, hB, fun x H2 hok hx s2 d2 => ta_nil ⟨_, rfl, by omega, by omega, fun Dl hD => ?_⟩⟩))))))))))
    have s12 := (Sx.of e1).trans s2
    have a2 := a.sx s12 d2
    have hDq : Dl ≠ q := fun z => d2.ne (z ▸ hD)
    have hHD : H Dl = none := back_us (a.sus s12) hDq hD
    refine lc_range (fun i H' => ∃ xs Ws G', Us q G H2 G' H' ∧ DSt q c m H' ∧ H' Dl = some (.lst xs) ∧ xs.length = i ∧ G' Dl = none ∧ All2 (DOk G' n f.fs) xs Ws) ⟨[], [], G, (Us.refl a2.ex).ext (Ex.new hD), d2.ext (Ex.new hD), upd_same, rfl, fresh_back a2.ex hD, .nil⟩ (fun i H' hi ⟨xs, Ws, G', u, d', hz, hzl, hGD, hall⟩ => ?_) fun H' ⟨xs, Ws, G', u, d', hz, hzl, hGD, hall⟩ => ?_
    · refine ⟨rfl, ?_⟩
      simp only [tYes, if_true]
      have a' := a2.us u d'
      have ob' : Ob K H' f := Ob.mono (u.ex.trans a'.ex) hA.ob
      refine te_fn (ta_cons (te_var rfl (ta_cons (te_ev (ev_fields T (ev_var rfl) ob' hone) fun H3 e3 => ta_nil ⟨_, _, rfl, q, m, G', f.l, f.fs, rfl, rfl, a'.ext e3, (hA.mono u.ex).one hone, hF.2, fun p H4 G4 kvs W u4 d4 hp hpn hGp hpq hDP => ?_⟩))))
      have u34 := u4.pre e3
      have hD4 := u34.eh _ _ hDq hz
      have hGD4 := u34.no hz hGD
      have hpD : p ≠ Dl := fun z => by rw [z, e3 _ _ hz] at hpn; cases hpn
      have uA := u.trans u34
      have hH2p : H2 p = none := back_us u hpq (fresh_back e3 hpn)
      refine ⟨xs, hD4, sz_lt (by omega), xs ++ [.ref p], Ws ++ [W], _, (uA.add hpq hH2p hp hGp).mut hD (by rw [upd_ne hpD.symm]; exact hGD4), d4.upd hDq, upd_same, by rw [List.length_append, hzl]; rfl, by rw [upd_ne hpD.symm]; exact hGD4, All2.snoc ((hDP.mono (Ex.new hGp)).dok upd_same) (hall.imp fun x W h => (DG.mono (u34.ex.trans (Ex.new hGp))).1 _ _ _ h)⟩
    · have hxl : xs.length = x := by rw [hzl]; exact Int.toNat_natCast x
      have uF := (a.sus s12).trans (u.add hDq hD hz hGD)
      refine k (.ref Dl) H' _ (Ws.sum + hw.e) uF d' ?_
      unfold FOk FOkB
      rw [hk]
      refine ⟨Dl, xs, Ws, rfl, upd_same, ?_, by omega, hall.imp fun x W h => (DG.mono (Ex.new hGD)).1 _ _ _ h, rfl⟩
      rw [hxl]
      cases hw with
      | fix m => exact hok
      | by_ c lo hi => exact ⟨by omega, hok.2⟩
      | end_ m => exact hok
  | cho cn lo hi =>
    have hbd : f.k.bds = some (cn, lo, hi) := by rw [hk]; rfl
    have hc := (FAtB.cases (hA.mono a.ex) hk)
    rw [hk] at hF
    refine sv_skip (kw "choice" (by rw [hk]; rfl)) (by decide +kernel) (sv_skip (kw "choice" (by rw [hk]; rfl)) (by decide +kernel) (sv_skip (kw "choice" (by rw [hk]; rfl)) (by decide +kernel) (sv_skip (kw "choice" (by rw [hk]; rfl)) (by decide +kernel) (sv_take (kw "choice" (by rw [hk]; rfl)) rfl fun H1 e1 => ?_))))
    refine q_asgU2 (eu_let (ev_var rfl) (ev_var rfl) (hLH.mono e1) hW hf hbd) fun H2 e2 => ?_
    have e12 := e1.trans e2
    have hc2 : CaseAt K H2 f := hc.mono e12
    refine q_asgL (el_comp (xs := f.subs) (val := fun s => V.ref s.1) (g := fun s => V.ref s.1) (p := fun s => decide (lo ≤ s.2.1) && decide (s.2.1 ≤ hi)) (ev_cases T (ev_var rfl) (ob.mono e12) hk) hc2.1 (by have := hF.2.1; omega) (fun s hs => et_test (ev_chain2 (ev_var rfl) (ev_op (ev_var rfl) ev_c (rv_ixT (hc2.2 s hs) (atI_nat (j := 0) rfl))) rv_I0 (ev_var rfl) rv_I0)) fun s hs _ => ev_var rfl) fun p7 H3 hp7 e3 h3 => ?_
    obtain ⟨S, hS⟩ : ∃ S, S = f.subs.filter fun s => decide (lo ≤ s.2.1) && decide (s.2.1 ≤ hi) := ⟨_, rfl⟩
    rw [← hS] at h3
    have hSpos : 0 < S.length := by
      obtain ⟨s0, hs0, h1, h2⟩ := hF.2.2.1
      exact List.length_pos_of_mem (a := s0) (by rw [hS]; exact List.mem_filter.mpr ⟨hs0, by rw [decide_eq_true h1, decide_eq_true h2]; rfl⟩)
    have e13 := e12.trans e3
    have hp7q : p7 ≠ q := fun z => (a.st.ext e12).ne (z ▸ hp7)
    refine q_asgG (te_op (te_var rfl (te_op (te_next (ev_var rfl) (a.st.ext e13) fun x H4 hx1 hx2 s4 d4 => te_ev (ev_lenV (ev_var rfl) (lenV_lst (sq_of (s4.eh _ _ hp7q h3)))) fun H5 e5 => ⟨x, _, rfl, rfl, by rw [List.length_map]; omega, ?_⟩))))
    rw [List.length_map]
    have g1 := Int.emod_nonneg x (b := (S.length : Int)) (by omega)
    have g2 := Int.emod_lt_of_pos x (b := (S.length : Int)) (by omega)
    obtain ⟨j, hj⟩ : ∃ j : Nat, x % (S.length : Int) = (j : Int) := ⟨(x % (S.length : Int)).toNat, by omega⟩
    have hjl : j < S.length := by omega
    obtain ⟨s1, hs1⟩ : ∃ s1, S[j]? = some s1 := ⟨_, List.getElem?_eq_getElem hjl⟩
    have hsm : s1 ∈ f.subs ∧ lo ≤ s1.2.1 ∧ s1.2.1 ≤ hi := by
      have := List.mem_of_getElem? hs1
      rw [hS] at this
      obtain ⟨h1, h2⟩ := List.mem_filter.mp this
      rw [Bool.and_eq_true, decide_eq_true_iff, decide_eq_true_iff] at h2
      exact ⟨h1, h2.1, h2.2⟩
    have sA : Sx q H H5 := ((Sx.of e13).trans s4).trans (Sx.of e5)
    have d5 := d4.ext e5
    have a5 := a.sx sA d5
    have hc5 := (FAtB.cases (hA.mono a5.ex) hk)
    refine ⟨p7, _, _, .ref s1.1, rfl, rfl, sq_of (e5 _ _ (s4.eh _ _ hp7q h3)), ?_, s1.1, _, rfl, hc5.2 s1 hsm.1, rfl, _, _, rfl, _, _, rfl, rfl, ?_⟩
    · show atI _ (x % (S.length : Int)) = _
      rw [hj]
      exact atI_nat (by rw [List.getElem?_map, hs1]; rfl)
    refine s_retT (te_tup2 (te_var rfl (te_fn (ta_cons (te_var rfl (ta_cons (te_var rfl (ta_nil ⟨_, _, rfl, q, m, G, s1.2.2.1, s1.2.2.2, rfl, rfl, a5, hA.sub s1 hsm.1, (hF.2.2.2 s1 hsm.1).2.2, fun p H6 G6 kvs W u6 d6 hp hpn hGp hpq hDP => ⟨sz_of (by simp), fun t ht => ?_⟩⟩))))))))
    have uA := (a.sus sA).trans u6
    have hHp : H p = none := back_us (a.sus sA) hpq hpn
    have htq : t ≠ q := fun z => d6.ne (z ▸ ht)
    have hHt : H t = none := back_us uA htq ht
    have htp : t ≠ p := fun z => by rw [z, hp] at ht; cases ht
    have u7 := (uA.add hpq hHp hp hGp).ext (Ex.new ht (o := .tup [.int s1.2.1, .ref p]))
    have hG6t : (upd G6 p (.dK kvs)) t = none := by rw [upd_ne htp]; exact fresh_back uA.sub ht
    have u8 := u7.add htq hHt upd_same hG6t
    refine k (.ref t) _ _ W u8 (d6.ext (Ex.new ht)) ?_
    unfold FOk FOkB
    rw [hk]
    exact ⟨t, .ref p, s1, hsm.1, rfl, upd_same, hsm.2.1, hsm.2.2, (DG.mono (Ex.new hG6t)).1 _ _ _ ((hDP.mono (Ex.new hGp)).dok upd_same)⟩
  | may cn lo hi =>
    have hone : f.k.one = true := by rw [hk]; rfl
    have hbd : f.k.bds = some (cn, lo, hi) := by rw [hk]; rfl
    have hkn : kd ≠ "sized" := by rw [hkd, hk]; exact (by decide +kernel : ("maybe" : Str) ≠ "sized")
    rw [hk] at hF
    obtain ⟨hlo0, hlo1, hlh, hWD⟩ := hF
    refine sv_skip (kw "maybe" (by rw [hk]; rfl)) (by decide +kernel) (sv_skip (kw "maybe" (by rw [hk]; rfl)) (by decide +kernel) (sv_skip (kw "maybe" (by rw [hk]; rfl)) (by decide +kernel) (sv_skip (kw "maybe" (by rw [hk]; rfl)) (by decide +kernel) (sv_skip (kw "maybe" (by rw [hk]; rfl)) (by decide +kernel) (sv_take (kw "maybe" (by rw [hk]; rfl)) rfl fun H1 e1 => ?_)))))
    refine q_asgU2 (eu_let (ev_var rfl) (ev_var rfl) (hLH.mono e1) hW hf hbd) fun H2 e2 => ?_
    have e12 := e1.trans e2
    have noneK : ∀ H3, 0 ≤ hi → lo ≤ 0 → Sx q H H3 → DSt q c m H3 → tRet (tC .non) { nx := fun _ H' => Q .non H', rt := Q } [some (.ref q), some (.ref l), some f.v, some (.str kd), some (.int lo), some (.int hi), none, none, none, none, none, none] H3 := by
      intro H3 h1 h2 s3 d3
      refine s_ret ev_c fun H4 e4 => k .non H4 G 0 (a.sus (s3.trans (Sx.of e4))) (d3.ext e4) ?_
      unfold FOk FOkB
      rw [hk]
      exact .inl ⟨rfl, h2, h1, rfl⟩
    have goK : ∀ H3, 1 ≤ hi → Sx q H H3 → DSt q c m H3 → ∀ {tg : TS}, tSeq (tIfS (tAnd (tTest (tOp rEq (tVar 3) (tC (.str "sized")))) (tB (tFld K (tVar 2) "grows"))) tg tNext) (tRet (tFn (Sp2 (aDict K c n)) (tCons (tVar 0) (tCons (tFld K (tVar 2) "fields") tNil)))) { nx := fun _ H' => Q .non H', rt := Q } [some (.ref q), some (.ref l), some f.v, some (.str kd), some (.int lo), some (.int hi), none, none, none, none, none, none] H3 := by
      intro H3 h1 s3 d3 tg
      refine rest _ _ H3 hkn hone hWD s3 d3 fun u H4 G4 W u4 d4 hd => k u H4 G4 W u4 d4 ?_
      unfold FOk FOkB
      rw [hk]
      exact .inr ⟨hlo1, h1, hd⟩
    by_cases hh : hi = 0
    · refine s_if (b := true) (et_is (et_or (a := true) (b := true) (et_isI rfl hh) fun z => nomatch z) rfl) (fun _ H3 e3 => ?_) fun z => nomatch z
      exact noneK H3 (by omega) (by omega) (Sx.of (e12.trans e3)) (a.st.ext (e12.trans e3))
    · refine (show tIfS _ _ _ _ _ _ from tt_or (et_neI rfl hh) (fun z => nomatch z) fun _ H3 e3 => ?_)
      have e13 := e12.trans e3
      by_cases hl : lo = 0
      · refine (show tAnd _ _ _ _ _ from tt_and (et_isI rfl hl) (fun _ H4 e4 => ?_) fun z => nomatch z)
        refine te_nmeq rfl (a.st.ext (e13.trans e4)) (by decide) fun bb H5 s5 d5 => ⟨bb, rfl, ?_⟩
        have s15 := (Sx.of (e13.trans e4)).trans s5
        cases bb with
        | true => exact noneK H5 (by omega) (by omega) s15 d5
        | false => exact goK H5 (by omega) s15 d5
      · refine (show tAnd _ _ _ _ _ from tt_and (et_neI rfl hl) (fun z => nomatch z) fun _ H4 e4 => ?_)
        exact goK H4 (by omega) (Sx.of (e13.trans e4)) (a.st.ext (e13.trans e4))
  | grp =>
    have hone : f.k.one = true := by rw [hk]; rfl
    have hkn : kd ≠ "sized" := by rw [hkd, hk]; decide +kernel
    rw [hk] at hF
    refine sv_skip (kw "group" (by rw [hk]; rfl)) (by decide +kernel) (sv_skip (kw "group" (by rw [hk]; rfl)) (by decide +kernel) (sv_skip (kw "group" (by rw [hk]; rfl)) (by decide +kernel) (sv_skip (kw "group" (by rw [hk]; rfl)) (by decide +kernel) (sv_skip (kw "group" (by rw [hk]; rfl)) (by decide +kernel) (sv_skip (kw "group" (by rw [hk]; rfl)) (by decide +kernel) fun H1 e1 => ?_)))))
    refine rest _ _ H1 hkn hone hF (Sx.of e1) (a.st.ext e1) fun u H4 G4 W u4 d4 hd => k u H4 G4 W u4 d4 ?_
    unfold FOk FOkB
    rw [hk]
    exact hd
  | siz cn lo hi gr =>
    have hone : f.k.one = true := by rw [hk]; rfl
    have hbd : f.k.bds = some (cn, lo, hi) := by rw [hk]; rfl
    have hFW := hW.fw f hf
    rw [hk] at hF
    obtain ⟨rfl, hWD, hLb, _⟩ := hF
    refine sv_skip (kw "sized" (by rw [hk]; rfl)) (by decide +kernel) (sv_skip (kw "sized" (by rw [hk]; rfl)) (by decide +kernel) (sv_skip (kw "sized" (by rw [hk]; rfl)) (by decide +kernel) (sv_skip (kw "sized" (by rw [hk]; rfl)) (by decide +kernel) (sv_skip (kw "sized" (by rw [hk]; rfl)) (by decide +kernel) (sv_skip (kw "sized" (by rw [hk]; rfl)) (by decide +kernel) ?_)))))
    have hgr := ev_grows T (ta := tVar 2) (σ := [some (.ref q), some (.ref l), some f.v, some (.str kd), none, none, none, none, none, none, none, none]) (ev_var rfl) ob hk
    have hkE : Ev (tOp rEq (tVar 3) (tC (.str "sized"))) [some (.ref q), some (.ref l), some f.v, some (.str kd), none, none, none, none, none, none, none, none] H (.bl true) := ev_is (ev_op (kw "sized" (by rw [hk]; rfl)) ev_c (rv_eq rfl)) rfl
    cases gr with
    | false =>
      refine sv_skipT (et_is (et_and (a := true) (et_test hkE) fun _ => et_B hgr) rfl) fun H1 e1 => ?_
      refine dictR _ _ H1 hone hWD (Sx.of e1) (a.st.ext e1) fun u H4 G4 W u4 d4 hd => k u H4 G4 W u4 d4 ?_
      have hll := (DG.len n).1 _ _ _ hd
      have hb := hLb W hll
      unfold FOk FOkB
      rw [hk]
      exact ⟨hWD.m8' hll, hb.1, by omega, hb.2, hd⟩
    | true =>
      refine sv_takeT (et_is (et_and (a := true) (et_test hkE) fun _ => et_B hgr) rfl) fun H1 e1 => ?_
      refine s_retT (te_fn (ta_cons (te_var rfl (ta_cons (te_var rfl (ta_cons (te_op ((eu_let (H := H1) (ev_var rfl) (ev_var rfl) (hLH.mono e1) hW hf hbd) H1 (Ex.refl _) _ fun t H2 ht e2 h2 => te_c ⟨t, _, _, _, rfl, rfl, st_of h2, atI_nat (j := 1) rfl, ta_nil ⟨_, _, _, rfl, q, m, G, f, cn, hi, rfl, rfl, rfl, a.ext (e1.trans e2), hA, hFW, hk, fun u H3 G3 w3 u3 d3 hF3 => ?_⟩⟩))))))))
      exact k u H3 G3 w3 (u3.pre (e1.trans e2)) d3 hF3
/-- dicts at all depths -/
theorem dicts (T : Tx K mg) : ∀ n, Pr P w K mg base (10 * n + 3) "_law_dict" (Sp2 (aDict K c n)) ∧ Pr P w K mg base (10 * n + 5) "_law_grown" (Sp3 (aGrown K c n))
  | 0 => ⟨pr2 (k := 2) T.d__law_dict T.g__law_dict sc__law_dict (fun _ _ _ _ _ _ us hl => match us, hl with | [_, _], _ => rfl) fun a b H Q h => by
      obtain ⟨q, m, G, l, fs, _, _, _, hL, _⟩ := h
      exact hL.elim, pr3 (k := 4) T.d__law_grown T.g__law_grown sc__law_grown (fun _ _ _ _ _ _ us hl => match us, hl with | [_, _, _], _ => rfl) fun a b e H Q h => by
      obtain ⟨q, m, G, f, cn, hi, _, _, _, _, hA, _, hk, _⟩ := h
      exact (hA.one (by rw [hk]; rfl) : False).elim⟩
  | n + 1 => by
    obtain ⟨h1, h2⟩ := dicts T n
    have h3 := ok_law_dict T (ok_law_value T h1 h2)
    exact ⟨h3, ok_law_grown T h3⟩
end
end Fk

set_option Elab.async false
set_option linter.all false
set_option maxRecDepth 100000
set_option maxHeartbeats 4000000
set_option exponentiation.threshold 3000
namespace Fk
open PySem PySem.Spec PyProof.Rows L2 Evl
section
variable {P : Program} {w : World} {K : PySem.W.Frag} {mg : Str → Option Value} {base : Heap} {σ : L2.St} {G H H' : Hp} {te ta tb tc tl td ty tx tv : TE} {tt uu : TT} {tu tw tz : TS} {D : Ends} {q : Addr} {c : Cst} {n m i d : Nat} {Q : VK} {v : V} {t tr : TA} {QA : List V → Hp → Prop} {r : R2} {sp : Sp} {f : Fld}
/-! ### a layout's misfit, a layout's full -/
def LayAt (K : PySem.W.Frag) (H : Hp) (x l : Addr) : Prop := ∃ dx nm, H x = some (.ins (He.ga K "Layout") dx [("name", nm), ("fields", .ref l)])
theorem LayAt.mono {x l : Addr} (e : Ex H H') (h : LayAt K H x l) : LayAt K H' x l := let ⟨dx, nm, h⟩ := h; ⟨dx, nm, e _ _ h⟩
theorem ev_layF {x l : Addr} (T : Tx K mg) (h : Ev ta σ H (.ref x)) (hx : LayAt K H x l) : Ev (tFld K ta "fields") σ H (.ref l) := let ⟨_, _, hx⟩ := hx; ev_fldA h hx T.cl_Layout T.na_Layout_fields rfl
abbrev aMis (K : PySem.W.Frag) : A2 := fun a b H Q => ∃ x l fs W, a = .ref x ∧ LayAt K H x l ∧ LAt K H 3 l fs ∧ WD 3 fs ∧ DOk H 3 fs b W ∧ RetV .non H Q
theorem ok_misfit (T : Tx K mg) : Pr P w K mg base 41 "misfit" (Sp2 (aMis K)) := by
  have G_list_misfit := misfits (P := P) (w := w) (base := base) T 3
  refine pr2 (k := 40) T.d_misfit T.g_misfit sc_misfit (fun _ _ _ _ _ _ us hl => match us, hl with | [_, _], _ => rfl) fun a b H Q h cdv A outer s E hr hu => ?_
  obtain ⟨x, l, fs, W, rfl, hx, hL, hW, hd, q⟩ := h
  refine ⟨_, (pss_one (ps_ret (pe_fn G_list_misfit (hr.mono (by omega)) (by rfl) (pa_cons (fldK (K := K) rfl (pv 0) rfl) (pa_cons (pv 1) (pa_cons pe_str (pa_cons pe_bl pa_nil))))))), ?_⟩
  exact s_ret (ev_LM (r := "") (gr := false) (W := W) (ev_layF T (ev_var rfl) hx) (ev_var rfl) ev_c ev_c hL hW (by decide +kernel) (.inr rfl) hd) q
theorem ev_mis {x l : Addr} {fs : List Fld} {u : V} {W : Nat} (ha : Ev ta σ H (.ref x)) (hb : Ev tb σ H u) (hx : LayAt K H x l) (hL : LAt K H 3 l fs) (hW : WD 3 fs) (hd : DOk H 3 fs u W) : Ev (tFn (Sp2 (aMis K)) (tCons ta (tCons tb tNil))) σ H .non :=
  ev_fn (ea_cons ha (ea_cons hb ea_nil)) fun H1 e Q q E => ⟨_, _, rfl, x, l, fs, W, rfl, hx.mono e, hL.mono e, hW, (DG.mono e).1 _ _ _ hd, q⟩
abbrev aFull (K : PySem.W.Frag) : A2 := fun a b H Q => ∃ x l fs W G, a = .ref x ∧ LayAt K H x l ∧ Ex G H ∧ LAt K G 3 l fs ∧ WD 3 fs ∧ DOk G 3 fs b W ∧ ∀ u H' W', Ex H H' → DOk H' 3 fs u W' → Q u H'
theorem ok_full (T : Tx K mg) : Pr P w K mg base 34 "full" (Sp2 (aFull K)) := by
  have G_list_full := fulls (P := P) (w := w) (base := base) T 3
  refine pr2 (k := 33) T.d_full T.g_full sc_full (fun _ _ _ _ _ _ us hl => match us, hl with | [_, _], _ => rfl) fun a b H Q h cdv A outer s E hr hu => ?_
  obtain ⟨x, l, fs, W, G, rfl, hx, hG, hL, hW, hd, k⟩ := h
  refine ⟨_, (pss_one (ps_ret (pe_fn G_list_full (hr.mono (by omega)) (by rfl) (pa_cons (fldK (K := K) rfl (pv 0) rfl) (pa_cons (pv 1) pa_nil))))), ?_⟩
  refine s_retT (te_LF (gr := false) (W := W) (ev_layF T (ev_var rfl) hx) (ev_var rfl) hG hL hW (fun z => nomatch z) hd fun u H' G' W' up dd => ?_)
  rcases dd with dd | ⟨z, _⟩
  · exact k u H' W' up.eh ((DG.mono up.sub).1 _ _ _ dd)
  · cases z
/-! ### the law -/
theorem q_forLT {g : TG} (h : tl σ H fun x H1 => ∃ a, x = .ref a ∧ (∃ xs, SqL K H1 a xs) ∧ RngW (Itl K a) g tu { D with nx := tz D } σ H1) : tSeq (tFor (iList K tl) g tu) tz D σ H := h
theorem ev_stands {l : Addr} {u : V} (ha : Ev ta σ H (.ref l)) (hb : Ev tb σ H u) (h : Std K 2 H l u) : Ev (tFn (Sp2 (aStands K 2)) (tCons ta (tCons tb tNil))) σ H (.bl true) := by
  obtain ⟨n, fs, W, h1, h2, h3, h4, h5⟩ := h
  exact ev_fn (ea_cons ha (ea_cons hb ea_nil)) fun H1 e Q q E => ⟨_, _, rfl, l, fs, W, n, h1, rfl, h2.mono e, h3, (DG.mono e).1 _ _ _ h4, h5, q⟩
def spLaw (K : PySem.W.Frag) : Sp := fun vs H Q _ => ∃ (a : Addr) (ns : List Int), vs = [.ref a] ∧ SqL K H a (ns.map V.int) ∧ ∀ H', Q (.bl true) H'
theorem cnt_3 : cnt 3 ≤ 999999 := by decide +kernel
theorem ok_law (T : Tx K mg) {fd : FuncData} (F : FunD K "law" "law" (defArgs s_law) (defBody s_law) (defScope s_law) [] [] (He.fAd K ("law", none)) fd) : FnOk P w K mg base CX0 130 (He.fAd K ("law", none)) fd ["_law_script"] (spLaw K) := by
  refine def_ok (k := 129) F sc_law (fun vs H Q E h => by obtain ⟨_, _, rfl, _⟩ := h; rfl) fun cdv A outer s H vs Q E hr h => ?_
  obtain ⟨al, ns, rfl, hS, k⟩ := h
  have hu := hu_of hr
  obtain ⟨c, hc⟩ : ∃ c : Cst, c = (ns.getD 1 0 % 3, ns.getD 1 0 / 3) := ⟨_, rfl⟩
  have G_kind := pr_kind (P := P) (w := w) (base := base) T
  have G__law_cell_at := ok_law_cell_at (P := P) (w := w) (base := base) T
  have G__law_layout := ok_law_layout (P := P) (w := w) (base := base) T
  have G_Layout2 := new_Layout2 (P := P) (w := w) (base := base) T
  have G__law_dict := (dicts (P := P) (w := w) (base := base) (c := c) T 3).1
  have G_misfit := ok_misfit (P := P) (w := w) (base := base) T
  have G_full := ok_full (P := P) (w := w) (base := base) T
  have G__law_places := places (P := P) (w := w) (base := base) T 2 3 (by decide)
  have G__law_stands := ok_law_stands (P := P) (w := w) (base := base) T 2
  refine ⟨_, (pss_cons (ps_asg (pe_fn G__law_layout (hr.mono (by omega)) (by rfl) (pa_cons (pv 0) (pa_cons pe_int (pa_cons pe_int pa_nil)))) (pgTK (K := K) (n := 2) rfl rfl (pgs_cons (pg_name (i := 1) sc_law.nd rfl (.inl rfl)) (pgs_cons (pg_name (i := 2) sc_law.nd rfl (.inl rfl)) pgs_nil))))
      (pss_cons (ps_set (i := 3) sc_law.nd rfl (.inl rfl) (pe_new G_Layout2 (hr.mono (by omega)) (by rfl) (pa_cons pe_str (pa_cons (pv 2) pa_nil))))
      (pss_cons (ps_asg (pe_op op_add pe_int (pe_op op_mod (pe_fn G__law_cell_at (hr.mono (by omega)) (by rfl) (pa_cons (pv 0) (pa_cons pe_int pa_nil))) pe_int)) (pg_sub (pv 1) pe_int set_list))
      (pss_cons (ps_for PassesOwn.never rfl (pi_range1 (by rfl) T.b_range (pa_cons pe_int pa_nil)) (pg_name (i := 4) sc_law.nd rfl (.inl rfl)) (pss_cons (ps_set (i := 5) sc_law.nd rfl (.inl rfl) (pe_fn G__law_dict (hr.mono (by omega)) (by rfl) (pa_cons (pv 1) (pa_cons (pv 2) pa_nil))))
      (pss_cons (ps_if (pt_cmpR op_notN (pe_fn G_misfit (hr.mono (by omega)) (by rfl) (pa_cons (pv 3) (pa_cons (pv 5) pa_nil))) pe_non (by rfl)) (pss_one (ps_ret pe_bl)) pss_nil)
      (pss_cons (ps_for PassesOwn.never rfl (piLK (K := K) rfl (pe_fn G__law_places (hr.mono (by omega)) (by rfl) (pa_cons (pv 2) (pa_cons (pv 5) (pa_cons pe_str (pa_cons pe_non (pa_cons (pe_lst pa_nil) pa_nil))))))) (pg_name (i := 6) sc_law.nd rfl (.inl rfl)) (pss_one (ps_if (PW.pt (pw_and (pt_cmpR op_isN (pe_ix (ixTK (K := K) rfl) (pv 6) pe_int (fun _ _ => rfl)) pe_non (by rfl)) (pw_and1 (PW.pt (pw_or (pt_cmpR op_isN (pe_ix (ixTK (K := K) rfl) (pv 6) pe_int (fun _ _ => rfl)) pe_non (by rfl)) (pw_or (pt_cmpR op_ne (pe_mU G_kind (hr.mono (by omega)) (pe_ix (ixTK (K := K) rfl) (pv 6) pe_int (fun _ _ => rfl))) pe_str (by rfl)) (pw_or1 (pt_not (pt_val (fldK (K := K) rfl (pe_ix (ixTK (K := K) rfl) (pv 6) pe_int (fun _ _ => rfl)) rfl)))))))))) (pss_one (ps_if (pt_not (pt_val (pe_fn G__law_stands (hr.mono (by omega)) (by rfl) (pa_cons (pe_ix (ixTK (K := K) rfl) (pv 6) pe_int (fun _ _ => rfl)) (pa_cons (pe_ix (ixTK (K := K) rfl) (pv 6) pe_int (fun _ _ => rfl)) pa_nil))))) (pss_one (ps_ret pe_bl)) pss_nil)) pss_nil)))
      (pss_cons (ps_set (i := 7) sc_law.nd rfl (.inl rfl) (pe_fn G_misfit (hr.mono (by omega)) (by rfl) (pa_cons (pv 3) (pa_cons (pe_fn G_full (hr.mono (by omega)) (by rfl) (pa_cons (pv 3) (pa_cons (pv 5) pa_nil))) pa_nil))))
      (pss_one (ps_if (PW.pt (pw_and (pt_cmpR op_notN (pv 7) pe_non (by rfl)) (pw_and1 (PW.pt (pw_or (pt_cmpR op_ne (pe_ix (ixTK (K := K) rfl) (pv 7) pe_int (fun _ _ => rfl)) pe_str (by rfl)) (pw_or1 (pt_cmpR op_eq (pe_fn G_full (hr.mono (by omega)) (by rfl) (pa_cons (pv 3) (pa_cons (pv 5) pa_nil))) (pv 5) (by rfl)))))))) (pss_one (ps_ret pe_bl)) pss_nil)))))))
      (pss_one (ps_ret pe_bl)))))), ?_⟩
  refine q_asgG (te_fn (ta_cons (te_var rfl (ta_cons (te_c (ta_cons (te_c (ta_nil ⟨_, _, _, rfl, al, ns, rfl, rfl, rfl, hS, fun t H1 c' n q l fs G1 hc' e1 ht a1 hL1 hW hb => ⟨t, _, rfl, st_of ht, rfl, _, _, rfl, _, _, rfl, rfl, ?_⟩⟩))))))))
  have hcc : c' = c := hc'.trans hc.symm
  subst hcc
  -- the layout
  refine q_asgT (te_fn (ta_cons (te_c (ta_cons (te_var rfl (ta_nil ⟨rfl, l, fs.map Fld.v, rfl, a1.ex _ _ hL1.lst, fun x H2 dx l2 hx hl2 hlx e2 hl2' h2 => ?_⟩))))))
  have hq1 := a1.st.ne
  have u2 := ((Us.refl (q := q) a1.ex).ext e2).add (fun z => hq1 (z ▸ hl2)) hl2 hl2' (fresh_back a1.ex hl2)
  have hgx : (upd G1 l2 (.lst (fs.map Fld.v))) x = none := by rw [upd_ne hlx.symm]; exact fresh_back a1.ex hx
  have u3 := u2.add (fun z => hq1 (z ▸ hx)) hx h2 hgx
  obtain ⟨G2, hG2⟩ : ∃ G2, G2 = upd (upd G1 l2 (.lst (fs.map Fld.v))) x (.ins (He.ga K "Layout") dx [("name", .str "made"), ("fields", .ref l2)]) := ⟨_, rfl⟩
  have u3 : Us q G1 H1 G2 H2 := hG2 ▸ u3
  have hxG : LayAt K G2 x l2 := ⟨dx, .str "made", by rw [hG2]; exact upd_same⟩
  have hlG : G2 l2 = some (.lst (fs.map Fld.v)) := by rw [hG2, upd_ne hlx]; exact upd_same
  have hLG : LAt K G2 3 l fs := hL1.mono u3.ex
  have hLG2 : LAt K G2 3 l2 fs := ⟨hlG, hLG.2⟩
  have a2 := a1.us u3 (a1.st.ext e2)
  -- the state anew
  obtain ⟨za, zb, hz1, hz2, hz3, hq2⟩ := id a2.st
  refine q_setL hq2 (ev_op ev_c (ev_op (ev_cell (k := 2) (ev_var rfl) ev_c (ex_l (e1.trans e2) hS)) ev_c (rv_I (show (0 : Int) < 2147483645 by decide))) rv_I0) (ev_var rfl) (ev_c (v := .int ((0 : Nat) : Int))) (Nat.zero_lt_succ _) fun H3 e3 => ?_
  obtain ⟨s0, hs0⟩ : ∃ s0, s0 = ns.getD 2 0 % 2147483645 := ⟨_, rfl⟩
  have hs01 : 0 ≤ s0 ∧ s0 < 2147483645 := by omega
  rw [← hs0]
  have a4 : At q c' n G2 (upd H3 q (.lst ([V.int za, vN n, .int c'.1, .int c'.2, .int 0, .int zb].set 0 (.int (1 + s0))))) := ⟨Ex.mut (a2.ex.trans e3) a2.no, a2.no, 1 + s0, zb, by omega, by omega, hz3, upd_same⟩
  obtain ⟨H4, hH4⟩ : ∃ H4, H4 = upd H3 q (.lst ([V.int za, vN n, .int c'.1, .int c'.2, .int 0, .int zb].set 0 (.int (1 + s0)))) := ⟨_, rfl⟩
  rw [← hH4] at a4 ⊢
  refine q_forR1 (n := 2) (ea_cons ev_c ea_nil) (by decide) (fun i σ' H' => ∃ z4 z5 z6 z7, σ' = [some (.ref al), some (.ref q), some (.ref l), some (.ref x), z4, z5, z6, z7] ∧ At q c' n G2 H') (fun H5 e5 => ⟨none, none, none, none, rfl, a4.ext e5⟩) ?_ fun σ' H5 _ => ?_
  · rintro i σ' H5 hi ⟨z4, z5, z6, z7, rfl, a5⟩
    refine q_asgT (te_fn (ta_cons (te_var rfl (ta_cons (te_var rfl (ta_nil ⟨_, _, rfl, q, n, G2, l, fs, rfl, rfl, a5, hLG, hW, fun p H6 G6 kvs W u6 d6 hp hpn hGp hpq hDP => ?_⟩))))))
    have u7 := u6.add hpq hpn hp hGp
    obtain ⟨G7, hG7⟩ : ∃ G7, G7 = upd G6 p (.dK kvs) := ⟨_, rfl⟩
    have hd7 : DOk G7 3 fs (.ref p) W := by rw [hG7]; exact (hDP.mono (Ex.new hGp)).dok upd_same
    rw [← hG7] at u7
    have hWz := hb W ((DG.len 3).1 _ _ _ hd7)
    have hL7 : LAt K G7 3 l fs := hLG.mono u7.ex
    have hL72 : LAt K G7 3 l2 fs := hLG2.mono u7.ex
    have hx7 : LayAt K G7 x l2 := hxG.mono u7.ex
    have hno7 : ∀ {H8 : Hp}, Ex H6 H8 → Ex G7 H8 := fun e => u7.sub.trans e
    refine (sv_skipT (H := H6) (et_test (ev_is (ev_notn (ev_mis (ev_var rfl) (ev_var rfl) (hx7.mono u7.sub) (hL72.mono u7.sub) hW ((DG.mono u7.sub).1 _ _ _ hd7))) rfl)) fun H7 e7 => ?_).here
    have sub7 := hno7 e7
    have d7 := d6.ext e7
    -- the places
    refine q_forLT (te_fn (ta_cons (te_var rfl (ta_cons (te_var rfl (ta_cons (te_c (ta_cons (te_c (show tCons _ _ _ _ _ from (el_lst ea_nil (by decide)) H7 (Ex.refl _) _ fun pl H8 hpl e8 h8 => ta_nil ⟨_, _, _, _, _, rfl, l, fs, false, W, "", [], pl, G7, rfl, rfl, rfl, sub7.trans e8, fresh_back sub7 hpl, h8, by have := cnt_3; show 0 + cnt 3 ≤ 1000000; omega, by decide +kernel, hL7, hW, hd7, by omega, .inl ⟨rfl, rfl⟩, fun H9 G9 ys u9 hys hyl hpl9 => ⟨pl, rfl, ⟨ys, sq_of hys⟩, ?_⟩⟩))))))))))
    have hplq : pl ≠ q := fun z => d7.ne (z ▸ hpl)
    have hq9 : DSt q c' n H9 := by
      obtain ⟨xa, xb, x1, x2, x3, xq⟩ := d7.ext e8
      exact ⟨xa, xb, x1, x2, x3, u9.eh _ _ (fun z => hplq z.symm) xq⟩
    have hys : H9 pl = some (.lst ys) := hys
    have sub9 : Ex G7 H9 := u9.ex.trans u9.sub
    refine for_list (xs := ys) (fun j σ' H' => ∃ z6, σ' = [some (.ref al), some (.ref q), some (.ref l), some (.ref x), some (.int ((i : Nat) : Int)), some (.ref p), z6, z7] ∧ Ex H9 H') ⟨z6, rfl, Ex.refl _⟩ (fun j σ' H' _ ⟨_, _, e⟩ => sq_of (e _ _ hys)) ?_ ?_
    · rintro j y σ' H10 hy ⟨z6, rfl, e10⟩
      obtain ⟨tp, lp, dv, u, rr, nv, rfl, htp, hcase⟩ := hpl9 y (List.mem_of_getElem? hy)
      have subG := u9.sub.trans e10
      have htT := st_of (K := K) (subG _ _ htp)
      have ix4 : Ev (tOp (rIxT K) (tVar 6) (tC (.int 4))) [some (.ref al), some (.ref q), some (.ref l), some (.ref x), some (.int ((i : Nat) : Int)), some (.ref p), some (.ref tp), z7] H10 nv := ev_op (ev_var rfl) ev_c (rv_ixT htT (atI_nat (j := 4) rfl))
      have ix1 : Ev (tOp (rIxT K) (tVar 6) (tC (.int 1))) [some (.ref al), some (.ref q), some (.ref l), some (.ref x), some (.int ((i : Nat) : Int)), some (.ref p), some (.ref tp), z7] H10 dv := ev_op (ev_var rfl) ev_c (rv_ixT htT (atI_nat (j := 1) rfl))
      have ix0 : Ev (tOp (rIxT K) (tVar 6) (tC (.int 0))) [some (.ref al), some (.ref q), some (.ref l), some (.ref x), some (.int ((i : Nat) : Int)), some (.ref p), some (.ref tp), z7] H10 (.ref lp) := ev_op (ev_var rfl) ev_c (rv_ixT htT (atI_nat (j := 0) rfl))
      have ix2 : Ev (tOp (rIxT K) (tVar 6) (tC (.int 2))) [some (.ref al), some (.ref q), some (.ref l), some (.ref x), some (.int ((i : Nat) : Int)), some (.ref p), some (.ref tp), z7] H10 u := ev_op (ev_var rfl) ev_c (rv_ixT htT (atI_nat (j := 2) rfl))
      have stE : Std K 2 G9 lp u → EvT (tNot (tB (tFn (Sp2 (aStands K 2)) (tCons (tOp (rIxT K) (tVar 6) (tC (.int 0))) (tCons (tOp (rIxT K) (tVar 6) (tC (.int 2))) tNil))))) [some (.ref al), some (.ref q), some (.ref l), some (.ref x), some (.int ((i : Nat) : Int)), some (.ref p), some (.ref tp), z7] H10 false := fun h => et_is (et_not (et_B (ev_stands ix0 ix2 (h.mono subG)))) rfl
      rcases hcase with ⟨s, rfl⟩ | ⟨rfl, hcase⟩
      · refine (show tIfS _ _ _ _ _ _ from s_when (b := false) (et_is (et_and (a := false) (b := false) (et_test (ev_is (ev_isn ix4) (congrArg V.bl (decide_eq_false fun z => nomatch z)))) fun z => nomatch z) rfl) (fun z => nomatch z) fun _ H11 e11 => ?_)
        exact ⟨_, rfl, e10.trans e11⟩
      · have hA : EvT (tTest (tOp (fun x y H Q => y = .non ∧ Q (.bl (decide (x = .non))) H) (tOp (rIxT K) (tVar 6) (tC (.int 4))) (tC .non))) [some (.ref al), some (.ref q), some (.ref l), some (.ref x), some (.int ((i : Nat) : Int)), some (.ref p), some (.ref tp), z7] H10 true := et_test (ev_is (ev_isn ix4) rfl)
        rcases hcase with ⟨rfl, hst⟩ | ⟨g, rfl, og, hst⟩
        · refine (show tIfS _ _ _ _ _ _ from s_when (b := true) (et_is (et_and (a := true) (b := true) hA fun _ => et_is (et_or (a := true) (b := true) (et_test (ev_is (ev_isn ix1) rfl)) fun z => nomatch z) rfl) rfl) (fun _ H11 e11 => ?_) fun z => nomatch z)
          refine s_when (b := false) ((stE hst).mono e11) (fun z => nomatch z) fun _ H12 e12 => ?_
          exact ⟨_, rfl, e10.trans (e11.trans e12)⟩
        · have og10 : Ob K H10 g := Ob.mono subG og
          have hB : EvT (tTest (tOp (fun x y H Q => y = .non ∧ Q (.bl (decide (x = .non))) H) (tOp (rIxT K) (tVar 6) (tC (.int 1))) (tC .non))) [some (.ref al), some (.ref q), some (.ref l), some (.ref x), some (.int ((i : Nat) : Int)), some (.ref p), some (.ref tp), z7] H10 false := et_test (ev_is (ev_isn ix1) (congrArg V.bl (decide_eq_false fun z => nomatch z)))
          have hC : ∀ b0 : Bool, decide (g.k.word = "sized") = b0 → EvT (tTest (tOp rNe (tMU (spKind K) (tOp (rIxT K) (tVar 6) (tC (.int 1)))) (tC (.str "sized")))) [some (.ref al), some (.ref q), some (.ref l), some (.ref x), some (.int ((i : Nat) : Int)), some (.ref p), some (.ref tp), z7] H10 (!b0) := fun b0 hb0 => et_test (ev_is (ev_op (ev_kind ix1 og10) ev_c (rv_ne rfl)) (by rw [← hb0, show decide (V.str g.k.word = V.str "sized") = decide (g.k.word = "sized") by rw [decide_eq_decide, V.str.injEq]]))
          by_cases hz : g.k.word = "sized"
          · obtain ⟨cn, lo, hi, gr, hgk⟩ : ∃ cn lo hi gr, g.k = .siz cn lo hi gr := by
              cases hgk : g.k with
              | siz cn lo hi gr => exact ⟨cn, lo, hi, gr, rfl⟩
              | num => rw [hgk] at hz; exact absurd hz (by decide +kernel : ("number" : Str) ≠ "sized")
              | sev => rw [hgk] at hz; exact absurd hz (by decide +kernel : ("seven" : Str) ≠ "sized")
              | txt => rw [hgk] at hz; exact absurd hz (by decide +kernel : ("text" : Str) ≠ "sized")
              | row => rw [hgk] at hz; exact absurd hz (by decide +kernel : ("row" : Str) ≠ "sized")
              | cho => rw [hgk] at hz; exact absurd hz (by decide +kernel : ("choice" : Str) ≠ "sized")
              | may => rw [hgk] at hz; exact absurd hz (by decide +kernel : ("maybe" : Str) ≠ "sized")
              | grp => rw [hgk] at hz; exact absurd hz (by decide +kernel : ("group" : Str) ≠ "sized")
              | chk => rw [hgk] at hz; exact absurd hz (by decide +kernel : ("check" : Str) ≠ "sized")
              | spt => rw [hgk] at hz; exact absurd hz (by decide +kernel : ("spot" : Str) ≠ "sized")
            have hD := et_not (et_B (ev_grows T ix1 og10 hgk))
            cases gr with
            | true =>
              refine (show tIfS _ _ _ _ _ _ from s_when (b := false) (et_is (et_and (a := true) (b := false) hA fun _ => et_is (et_or (a := false) (b := false) hB fun _ => et_is (et_or (a := false) (b := false) (hC true (decide_eq_true hz)) fun _ => hD) rfl) rfl) rfl) (fun z => nomatch z) fun _ H11 e11 => ?_)
              exact ⟨_, rfl, e10.trans e11⟩
            | false =>
              have hst : Std K 2 G9 lp u := hst.elim (fun ⟨c1, l1, h1, e1⟩ => by rw [hgk] at e1; cases e1) id
              refine (show tIfS _ _ _ _ _ _ from s_when (b := true) (et_is (et_and (a := true) (b := true) hA fun _ => et_is (et_or (a := false) (b := true) hB fun _ => et_is (et_or (a := false) (b := true) (hC true (decide_eq_true hz)) fun _ => hD) rfl) rfl) rfl) (fun _ H11 e11 => ?_) fun z => nomatch z)
              refine s_when (b := false) ((stE hst).mono e11) (fun z => nomatch z) fun _ H12 e12 => ?_
              exact ⟨_, rfl, e10.trans (e11.trans e12)⟩
          · have hst : Std K 2 G9 lp u := hst.elim (fun ⟨c1, l1, h1, e1⟩ => absurd (by rw [e1]; rfl) hz) id
            refine (show tIfS _ _ _ _ _ _ from s_when (b := true) (et_is (et_and (a := true) (b := true) hA fun _ => et_is (et_or (a := false) (b := true) hB fun _ => et_is (et_or (a := true) (b := true) (hC false (decide_eq_false hz)) fun z => nomatch z) rfl) rfl) rfl) (fun _ H11 e11 => ?_) fun z => nomatch z)
            refine s_when (b := false) ((stE hst).mono e11) (fun z => nomatch z) fun _ H12 e12 => ?_
            exact ⟨_, rfl, e10.trans (e11.trans e12)⟩
    · rintro σ' H10 ⟨z6, rfl, e10⟩
      have sub10 := sub9.trans e10
      refine (show tSeq _ _ _ _ _ from q_asgT (te_fn (ta_cons (te_var rfl (ta_cons (te_fn (ta_cons (te_var rfl (ta_cons (te_var rfl (ta_nil ⟨_, _, rfl, x, l2, fs, W, G7, rfl, hx7.mono sub10, sub10, hL72, hW, hd7, fun u H11 W' e11 hd11 => ta_nil ⟨_, _, rfl, x, l2, fs, W', rfl, hx7.mono (sub10.trans e11), hL72.mono (sub10.trans e11), hW, hd11, fun H12 e12 => ?_⟩⟩)))))))))))
      refine (show tIfS _ _ _ _ _ _ from s_when (b := false) (et_is (et_and (a := false) (b := false) (et_test (ev_is (ev_notn (ev_var rfl)) rfl)) fun z => nomatch z) rfl) (fun z => nomatch z) fun _ H13 e13 => ?_)
      have eA := e10.trans (e11.trans (e12.trans e13))
      exact ⟨_, _, _, _, rfl, (u7.ex.trans sub9).trans eA, a5.no, hq9.ext eA⟩
  · exact s_ret ev_c fun H6 e6 => k H6
end
end Fk

set_option Elab.async false
set_option linter.all false
set_option maxRecDepth 100000
set_option maxHeartbeats 0
namespace FkEnd
open PySem PySem.Spec PyProof.Rows L2
theorem facts {P : Program} {w : World} {K : PySem.W.Frag} {h : Heap} {mg : Str → Option Value} {f : Addr} (X : K.In h) (G : h.Ns mainGlobals mg) (hfa : mg ("law" : Str) = some (.ref f)) (c : He.SaysD Fk.faL Fk.fnL K) (ex : Fk.exB K = true) :
    ∃ fd : FuncData, (∀ (s : Shared) (v : Value), BindsTo s fd ⟨[v], []⟩ [("_law_script", v)]) ∧ ∀ base : Heap, K.In base → base.Ns mainGlobals mg → FnOk P w K mg base CX0 130 f fd ["_law_script"] (Fk.spLaw K) := by
  have T : Fk.Tx K mg := ⟨c, ex, h, X, G⟩
  obtain ⟨fd, F⟩ := T.d_law
  have e := hfa.symm.trans T.g_law
  cases e
  have b := FunD.bindsA (ps := ["_law_script"]) F fun _ _ _ _ _ _ us hl => match us, hl with | [_], _ => rfl
  exact ⟨fd, fun s v => b s [v] rfl, fun base _ _ => Fk.ok_law T F⟩
end FkEnd
open PySem PySem.W PySem.Calls PyProof.Rows
theorem PySem.Challenge.cw_formkeep_k45_whole_fits_stand_in_lengths_holds : PySem.Challenge.rw_formkeep_k45_whole_fits_stand_in_lengths.Holds := by
  refine FkTop.holds_of ?_
  refine L2.walk_ofE (l := PySem.Challenge.rw_formkeep_k45_whole_fits_stand_in_lengths) (n := 63) (k := 130) (x := "_law_script") (CX := L2.CX0) rfl (by decide) (by kernel_rfl) ⟨rfl, by decide, by decide⟩ ?F (fun _ _ _ _ z => z)
  intro w mg fa h Y G hmg0
  obtain ⟨K, KX, c, ex⟩ := Y
  have hmg : mg ("law" : PySem.Str) = some (.ref fa) := by
    rw [← FkTop.name_eq]
    exact hmg0
  obtain ⟨fd, hb, hF⟩ := FkEnd.facts (P := (PySem.Challenge.rw_formkeep_k45_whole_fits_stand_in_lengths).prog) (w := w) KX G hmg c ex
  exact ⟨K, fd, Fk.spLaw K, KX, hb, fun H a ns hl _ hS => ⟨a, ns, rfl, hS, fun _ => rfl⟩, hF⟩

